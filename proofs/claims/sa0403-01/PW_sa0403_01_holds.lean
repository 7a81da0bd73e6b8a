import PyProof.Rows.All
import Wide.All
import OpenK.AllK
import Wide.FinOn
import Lean
import PySem.Challenge.RW_sa0403_01
open PySem PySem.W PyProof.Rows
set_option Elab.async false
set_option genSizeOf false
set_option linter.all false
set_option backward.match.sparseCases false
set_option maxRecDepth 100000
namespace Mine
/-- values of the small interpreter: ints, strs, tuples as data; lists, dicts, instances by label; static values as they are -/
inductive FV where
  | none | bool (b : Bool) | int (i : Int) | str (s : Str) | tup (xs : List FV) | rng (lo hi : Int) | ref (l : Nat) | st (v : Value)
inductive MO where
  | lst (xs : List FV) | dct (kvs : List (FV × FV)) | ins (cls : Addr) (d : Nat) | att (kvs : List (Str × FV))
noncomputable abbrev Store := List MO
/-- what is to be shown, with what is to hold of the value -/
noncomputable abbrev M (α : Type) := (α → Store → Prop) → Store → Prop
/-- False, so that what stands on it is unfolded before RunT -/
noncomputable def no0 : Prop := False
noncomputable def no1 : Prop := no0
noncomputable def no2 : Prop := no1
noncomputable def SomeP {α : Type} (o : Option α) (P : α → Prop) : Prop := match o with
  | some a => P a
  | none => no2
noncomputable def On (b : Bool) (p : Prop) : Prop := match b with
  | true => p
  | false => no2
@[irreducible] noncomputable def IfB (b : Bool) (p q : Prop) : Prop := match b with
  | true => p
  | false => q
/-- a step, with a number that tells its kind -/
@[irreducible] noncomputable def RunT {α : Type} (k : Nat) (m : M α) (σ : Store) (Q : α → Store → Prop) : Prop := m Q σ

noncomputable def retM {α : Type} (a : α) : M α := fun Q σ => Q a σ
noncomputable def failM {α : Type} : M α := fun _ _ => False
noncomputable def onM {α : Type} (b : Bool) (m : M α) : M α := fun Q σ => On b (m Q σ)
noncomputable def optM {α : Type} (o : Option α) : M α := fun Q σ => SomeP o fun a => Q a σ
noncomputable def alloc (o : MO) : M Nat := fun Q σ => Q σ.length (σ ++ [o])
noncomputable def newM (o : MO) : M FV := fun Q σ => Q (.ref σ.length) (σ ++ [o])
noncomputable def look {α : Type} (l : Nat) (f : MO → M α) : M α := fun Q σ => SomeP σ[l]? fun o => f o Q σ
/-- labels 0 and 1 stand for objects that are only read -/
noncomputable def put (l : Nat) (o : MO) : M Unit := fun Q σ => On (Nat.ble 2 l) (Q () (σ.set l o))
noncomputable def putR {α : Type} (l : Nat) (o : MO) (a : α) : M α := fun Q σ => On (Nat.ble 2 l) (Q a (σ.set l o))
noncomputable def lstK {α : Type} (f : List FV → M α) : MO → M α
  | .lst xs => f xs
  | _ => failM
noncomputable def dctK {α : Type} (f : List (FV × FV) → M α) : MO → M α
  | .dct kvs => f kvs
  | _ => failM
noncomputable def insK {α : Type} (f : Addr → Nat → M α) : MO → M α
  | .ins C d => f C d
  | _ => failM
noncomputable def attK {α : Type} (f : List (Str × FV) → M α) : MO → M α
  | .att kvs => f kvs
  | _ => failM
/-- a made object and its own names -/
noncomputable def lookI {α : Type} (l : Nat) (f : Addr → Nat → List (Str × FV) → M α) : M α := look l (insK fun C d => look d (attK fun kvs => f C d kvs))

noncomputable def refOf : FV → Option Nat
  | .ref l => some l
  | _ => none
noncomputable def intOf : FV → Option Int
  | .int i => some i
  | _ => none
noncomputable def tupOf : FV → Option (List FV)
  | .tup xs => some xs
  | _ => none
noncomputable abbrev intP {α : Type} (v : FV) (f : Int → M α) : M α := fun Q σ => SomeP (intOf v) fun i => f i Q σ
mutual
/-- what may be a key of a dict, or a part of one -/
noncomputable def hkT : Nat → FV → Bool
  | _, .int _ => true
  | _, .str _ => true
  | n + 1, .tup xs => hkL n xs
  | _, _ => false
noncomputable def hkL : Nat → List FV → Bool
  | _, [] => true
  | n, x :: r => hkT n x && hkL n r
end
mutual
noncomputable def eqF : FV → FV → Bool
  | .int a, .int b => a == b
  | .str a, .str b => a == b
  | .tup xs, .tup ys => eqFs xs ys
  | _, _ => false
noncomputable def eqFs : List FV → List FV → Bool
  | x :: xs, y :: ys => eqF x y && eqFs xs ys
  | [], [] => true
  | _, _ => false
end
noncomputable def eqT (a b : FV) : Option Bool := match a, b with
  | .bool x, .bool y => some (x == y)
  | a, b => if (hkT 7 a && hkT 7 b) = true then some (eqF a b) else none
/-- two lists of the same data -/
noncomputable def eqL (xs ys : List FV) : Option Bool := if (hkL 6 xs && eqFs xs ys) = true then some true else none
noncomputable def strLtL : List Nat → List Nat → Bool
  | _, [] => false
  | [], _ :: _ => true
  | a :: x, b :: y => if a = b then strLtL x y else decide (a < b)
noncomputable def strLt (a b : Str) : Bool := strLtL a.cps.toList b.cps.toList
mutual
noncomputable def ltF : FV → FV → Bool
  | .int a, .int b => decide (a < b)
  | .str a, .str b => strLt a b
  | .tup xs, .tup ys => ltFs xs ys
  | _, _ => false
noncomputable def ltFs : List FV → List FV → Bool
  | x :: xs, y :: ys => if eqF x y then ltFs xs ys else ltF x y
  | [], _ :: _ => true
  | _, [] => false
end
mutual
/-- of one kind, part by part, as far as they go: what < may be asked of -/
noncomputable def likeT : FV → FV → Bool
  | .int _, .int _ => true
  | .str _, .str _ => true
  | .tup xs, .tup ys => likeL xs ys
  | _, _ => false
noncomputable def likeL : List FV → List FV → Bool
  | x :: xs, y :: ys => if eqF x y then likeL xs ys else likeT x y
  | _, _ => true
end
noncomputable def ltT (a b : FV) : Option Bool := if (hkT 7 a && hkT 7 b && likeT a b) = true then some (ltF a b) else none
noncomputable def insT (x : FV) : List FV → Option (List FV)
  | [] => some [x]
  | y :: ys => match ltT x y with
    | some true => some (x :: y :: ys)
    | some false => (insT x ys).map (y :: ·)
    | .none => .none
noncomputable def sortT : List FV → List FV → Option (List FV)
  | acc, [] => some acc
  | acc, x :: r => (insT x acc).bind fun a => sortT a r

noncomputable def keyK : FV → Nat
  | .int _ => 1
  | .str _ => 2
  | .tup xs => if hkL 6 xs = true then 3 else 0
  | _ => 0
noncomputable def homog (k : FV) (kvs : List (FV × FV)) : Bool := keyK k != 0 && kvs.all fun p => keyK p.1 == keyK k
noncomputable def kvFind (k : FV) : List (FV × FV) → Option FV
  | [] => none
  | (a, v) :: r => if eqF a k = true then some v else kvFind k r
noncomputable def kvIns (k v : FV) : List (FV × FV) → List (FV × FV)
  | [] => [(k, v)]
  | (a, b) :: r => if eqF a k = true then (a, v) :: r else (a, b) :: kvIns k v r
noncomputable def kvGet (k : FV) (kvs : List (FV × FV)) : Option (Option FV) := if homog k kvs = true then some (kvFind k kvs) else none
noncomputable def kvPut (k v : FV) (kvs : List (FV × FV)) : Option (List (FV × FV)) := if homog k kvs = true ∧ kvs.length ≤ 1000000 then some (kvIns k v kvs) else none
noncomputable def attPut (k : Str) (v : FV) : List (Str × FV) → List (Str × FV)
  | [] => [(k, v)]
  | (a, b) :: r => if a = k then (a, v) :: r else (a, b) :: attPut k v r

/-- sizes are small -/
noncomputable abbrev lim : Nat := 1000000
noncomputable def truthyO : MO → M Bool
  | .lst xs => onM (decide (xs.length ≤ lim)) (retM (!xs.isEmpty))
  | .dct kvs => onM (decide (kvs.length ≤ lim ∧ homog (.str ⟨#[]⟩) kvs = true)) (retM (!kvs.isEmpty))
  | _ => failM
noncomputable def truthyM : FV → M Bool
  | .none => retM false
  | .bool b => retM b
  | .int i => retM (decide (i ≠ 0))
  | .tup xs => onM (decide (xs.length ≤ lim)) (retM (!xs.isEmpty))
  | .ref l => look l truthyO
  | _ => failM
noncomputable def lenO : MO → M FV
  | .lst xs => onM (decide (xs.length ≤ lim)) (retM (.int xs.length))
  | .dct kvs => onM (decide (kvs.length ≤ lim ∧ homog (.str ⟨#[]⟩) kvs = true)) (retM (.int kvs.length))
  | _ => failM
noncomputable def lenM : FV → M FV
  | .tup xs => onM (decide (xs.length ≤ lim)) (retM (.int xs.length))
  | .ref l => look l lenO
  | _ => failM
noncomputable def eqM : FV → FV → M Bool
  | .ref l, .ref k => look l (lstK fun xs => look k (lstK fun ys => optM (eqL xs ys)))
  | a, b => optM (eqT a b)
noncomputable def memL (x : FV) (ys : List FV) : Option Bool := if (hkT 7 x && hkL 7 ys) = true then some (ys.any fun y => eqF y x) else none
noncomputable def inO (x : FV) : MO → M Bool
  | .lst ys => optM (memL x ys)
  | .dct kvs => optM ((kvGet x kvs).map (·.isSome))
  | _ => failM
noncomputable def inM (x : FV) : FV → M Bool
  | .tup ys => optM (memL x ys)
  | .ref l => look l (inO x)
  | _ => failM
noncomputable def intV : Operator → Int → Int → Option FV
  | .Add, x, y => some (.int (x + y))
  | .Sub, x, y => some (.int (x - y))
  | .FloorDiv, x, y => if 0 < y ∧ y < 1073741824 then some (.int (Int.fdiv x y)) else none
  | .Mod, x, y => if ¬ y = 0 then some (.int (Int.fmod x y)) else none
  | .Pow, x, y => if x = 2 ∧ 0 ≤ y ∧ y ≤ 60 then some (.int (x ^ y.toNat)) else none
  | .BitAnd, x, y => some (.int (Builtin.bitAnd x y))
  | .BitOr, x, y => some (.int (Builtin.bitOr x y))
  | _, _, _ => none
noncomputable def isAdd : Operator → Bool
  | .Add => true
  | _ => false
noncomputable def tupV (op : Operator) (x y : List FV) : Option FV := if isAdd op = true ∧ x.length + y.length ≤ 1000000 then some (.tup (x ++ y)) else none
noncomputable def binM (op : Operator) (a b : FV) : M FV := match a with
  | .int x => intP b fun y => optM (intV op x y)
  | .tup x => fun Q σ => SomeP (tupOf b) fun y => optM (tupV op x y) Q σ
  | .ref l => fun Q σ => SomeP (refOf b) fun k => look l (lstK fun xs => look k (lstK fun ys => onM (isAdd op && decide (xs.length + ys.length ≤ 1000000)) (newM (.lst (xs ++ ys))))) Q σ
  | _ => failM
noncomputable def intC (f : Int → Int → Bool) (a b : FV) : M Bool := intP a fun x => intP b fun y => retM (f x y)
noncomputable def notM (m : M Bool) : M Bool := fun Q σ => m (fun b σ => Q (!b) σ) σ
noncomputable def cmpM (op : CmpOp) (a b : FV) : M Bool := match op with
  | .Eq => eqM a b
  | .NotEq => notM (eqM a b)
  | .In => inM a b
  | .NotIn => notM (inM a b)
  | .Lt => intC (fun x y => decide (x < y)) a b
  | .LtE => intC (fun x y => decide (x ≤ y)) a b
  | .Gt => intC (fun x y => decide (y < x)) a b
  | .GtE => intC (fun x y => decide (y ≤ x)) a b
  | _ => failM
noncomputable def idx (n : Nat) (i : Int) : Option Nat := if lim < n then none else if 0 ≤ i then (if i.toNat < n then some i.toNat else none) else (if i + n < 0 then none else some (i + n).toNat)
noncomputable def atM (xs : List FV) (k : FV) : M FV := intP k fun i => optM ((idx xs.length i).bind fun k => xs[k]?)
noncomputable def chM (s : Str) (k : FV) : M FV := intP k fun i => optM ((idx s.cps.size i).bind fun k => (s.cps[k]?).map fun c => .str ⟨#[c]⟩)
noncomputable def itemO (k : FV) : MO → M FV
  | .lst xs => atM xs k
  | .dct kvs => optM ((kvGet k kvs).bind id)
  | _ => failM
noncomputable def itemM (v k : FV) : M FV := match v with
  | .tup xs => atM xs k
  | .str s => chM s k
  | .ref l => look l (itemO k)
  | _ => failM
noncomputable def cutL (xs : List FV) (lo hi : Option Int) : Option (List FV) := match lo, hi with
  | none, some h => if 0 ≤ h ∧ xs.length ≤ lim then some (xs.take h.toNat) else none
  | _, _ => none
noncomputable def cutT (xs : List FV) (lo hi : Option Int) : Option (List FV) := match lo, hi with
  | some l, some h => if 1 ≤ l ∧ l ≤ h ∧ h ≤ (xs.length : Int) ∧ xs.length ≤ lim then some ((xs.drop l.toNat).take (h - l).toNat) else none
  | _, _ => none
noncomputable def sliceM (v : FV) (lo hi : Option Int) : M FV := match v with
  | .tup xs => optM ((cutT xs lo hi).map .tup)
  | .ref l => look l (lstK fun xs Q σ => SomeP (cutL xs lo hi) fun ys => newM (.lst ys) Q σ)
  | _ => failM
noncomputable def setAt (l : Nat) (xs : List FV) (x k : FV) : M Unit := intP k fun i => onM (decide (0 ≤ i)) fun Q σ => SomeP (idx xs.length i) fun j => put l (.lst (xs.set j x)) Q σ
noncomputable def storeItemO (l : Nat) (k x : FV) : MO → M Unit
  | .lst xs => setAt l xs x k
  | .dct kvs => fun Q σ => SomeP (kvPut k x kvs) fun kvs => put l (.dct kvs) Q σ
  | _ => failM
noncomputable def storeItemM (v k x : FV) : M Unit := match v with
  | .ref l => look l (storeItemO l k x)
  | _ => failM
structure Ctx where
  glob : Str → Option FV
  fn : Addr → Option (Stmt × List FV)
  meth : Addr → Str → Option Addr
  cls : Addr → Bool
  own : Addr → Str → Bool

noncomputable def isSt : FV → Bool
  | .st _ => true
  | _ => false
noncomputable def attrM (X : Ctx) (v : FV) (a : Str) : M FV := match v with
  | .ref l => lookI l fun C _ kvs Q σ => SomeP (kvs.lookup a) fun r => On (X.own C a && !isSt r) (Q r σ)
  | _ => failM
noncomputable def storeAttrM (X : Ctx) (v : FV) (a : Str) (x : FV) : M Unit := match v with
  | .ref l => lookI l fun C d kvs => onM (X.own C a && decide (kvs.length ≤ 900)) (put d (.att (attPut a x kvs)))
  | _ => failM

/-- the items of what a for goes over, as they stand at this turn -/
noncomputable def itemsM : FV → M (List FV)
  | .tup xs => retM xs
  | .rng lo hi => onM (decide (lo = 0 ∧ -1000000 ≤ hi ∧ hi ≤ 1000000)) (retM ((List.range (hi - lo).toNat).map fun (k : Nat) => FV.int (lo + (k : Int))))
  | .ref l => look l (lstK retM)
  | _ => failM
/-- the items of what a comprehension goes over -/
noncomputable def itemsC (v : FV) : M (List FV) := fun Q σ => itemsM v (fun xs σ => On (decide (xs.length ≤ lim)) (Q xs σ)) σ

structure Lc where
  names : List (Str × NameKind)
  m : List (Str × FV)
inductive Fl where
  | next | cont | ret (v : FV)
noncomputable abbrev CallT := FV → List FV → M FV

noncomputable def nameV (X : Ctx) (c : Lc) (x : Str) : Option FV := match c.names.lookup x with
  | some .local | some .cell | some .free => c.m.lookup x
  | some .globalImplicit => X.glob x
  | _ => none
noncomputable def constV : Const → Option FV
  | .none => some .none
  | .bool b => some (.bool b)
  | .int i => some (.int i)
  | .str s => some (.str s)
  | _ => none
/-- what a method's name stands for -/
inductive Cal where
  | fn (f : Addr) | lst | dct
noncomputable def calO (X : Ctx) (name : Str) : MO → M Cal
  | .lst _ => onM (name == "append" || name == "pop" || name == "extend") (retM .lst)
  | .dct _ => onM (name == "get") (retM .dct)
  | .ins C d => look d (attK fun kvs => onM (kvs.lookup name).isNone (fun Q σ => SomeP (X.meth C name) fun f => Q (.fn f) σ))
  | .att _ => failM
noncomputable def calM (X : Ctx) (v : FV) (name : Str) : M Cal := match v with
  | .ref l => look l (calO X name)
  | _ => failM
noncomputable def extO (l : Nat) (xs : List FV) : FV → M FV
  | .tup ys => onM (decide (xs.length + ys.length ≤ lim)) (putR l (.lst (xs ++ ys)) .none)
  | .ref k => look k (lstK fun ys => onM (!decide (k = l) && decide (xs.length + ys.length ≤ lim)) (putR l (.lst (xs ++ ys)) .none))
  | _ => failM
noncomputable def lstM (l : Nat) (xs : List FV) (name : Str) (args : List FV) : M FV :=
  if name = "append" then (match args with
    | [x] => onM (decide (xs.length ≤ lim)) (putR l (.lst (xs ++ [x])) .none)
    | _ => failM)
  else if name = "pop" then (match args with
    | [] => fun Q σ => SomeP xs.getLast? fun x => On (decide (xs.length ≤ lim)) (putR l (.lst xs.dropLast) x Q σ)
    | _ => failM)
  else if name = "extend" then (match args with
    | [y] => extO l xs y
    | _ => failM) else failM
noncomputable def dctM (kvs : List (FV × FV)) (name : Str) (args : List FV) : M FV := match args with
  | [k, d] => if name = "get" then fun Q σ => SomeP (kvGet k kvs) fun o => Q (o.getD d) σ else failM
  | _ => failM
noncomputable def methM (call : CallT) (c : Cal) (v : FV) (name : Str) (args : List FV) : M FV := match c with
  | .fn f => call (.st (.ref f)) (v :: args)
  | .lst => fun Q σ => SomeP (refOf v) fun l => look l (lstK fun xs => lstM l xs name args) Q σ
  | .dct => fun Q σ => SomeP (refOf v) fun l => look l (dctK fun kvs => dctM kvs name args) Q σ

/-- a name of the frame is stored -/
noncomputable def setN (c : Lc) (x : Str) (v : FV) : Option Lc := match c.names.lookup x with
  | some .local | some .cell => some { c with m := attPut x v c.m }
  | _ => none
noncomputable def nameOf : Expr → Option Str
  | .Name x _ => some x
  | _ => none
noncomputable def setNs : List Expr → List FV → Lc → Option Lc
  | [], [], c => some c
  | t :: ts, v :: vs, c => (nameOf t).bind fun x => (setN c x v).bind fun c => setNs ts vs c
  | _, _, _ => none
noncomputable def bindTarget (t : Expr) (v : FV) (c : Lc) : Option Lc := match t with
  | .Name x _ => setN c x v
  | .Tuple ts _ _ => match v with
    | .tup vs => setNs ts vs c
    | _ => none
  | _ => none

/-- the names that a comprehension sees: its own and those it is handed -/
noncomputable def compM (sc : Scope) (t : Str) (x : FV) (m : List (Str × FV)) : List (Str × FV) := attPut t x (m.filter fun p => sc.names.lookup p.1 == some .free)
/-- what a comprehension is handed by the frame around it -/
noncomputable def handed (sc : Scope) (names : List (Str × NameKind)) : Bool := sc.names.all fun p => p.2 != .free || names.lookup p.1 == some .free || names.lookup p.1 == some .cell
/-- what was named before; the rest is forgotten -/
noncomputable def keepN (c d : Lc) : Lc := { d with m := d.m.take c.m.length }

noncomputable abbrev seqK {α β : Type} (f : α → M β) (Q : β → Store → Prop) : α → Store → Prop := fun a σ => f a Q σ
noncomputable abbrev mapK {α β : Type} (f : α → β) (Q : β → Store → Prop) : α → Store → Prop := fun a σ => Q (f a) σ
noncomputable abbrev runK1 {α β γ : Type} (k : Nat) (m : α → β → M γ) (f : M β) : α → M γ := fun a Q σ => f (seqK (fun b Q σ => RunT k (m a b) σ Q) Q) σ
noncomputable abbrev runK {α β : Type} (k : Nat) (m : α → M β) : α → M β := fun a Q σ => RunT k (m a) σ Q
noncomputable abbrev negK (v : FV) : M FV := intP v fun i Q σ => Q (.int (-i)) σ
noncomputable abbrev optK (v : FV) : M (Option Int) := intP v fun i Q σ => Q (some i) σ
noncomputable abbrev ifK (p q : Store → Prop) : Bool → Store → Prop := fun k σ => IfB k (p σ) (q σ)
noncomputable abbrev consK (f : M (List FV)) : FV → M (List FV) := fun v Q σ => f (mapK (v :: ·) Q) σ
noncomputable abbrev callK (X : Ctx) (call : CallT) (name : Str) (f : M (List FV)) : FV → M FV := fun v Q σ => RunT 6 (calM X v name) σ (seqK (fun k Q σ => f (seqK (runK 7 (methM call k v name)) Q) σ) Q)
noncomputable abbrev slcK (f g : M (Option Int)) : FV → M FV := fun v Q σ => f (seqK (fun l Q σ => g (seqK (runK 10 (sliceM v l)) Q) σ) Q) σ
noncomputable abbrev boolK (op : BoolOp) (f : M FV) : FV → M FV := fun v Q σ => RunT 2 (truthyM v) σ (match op with
  | .And => ifK (f Q) (Q v)
  | .Or => ifK (Q v) (f Q))
noncomputable abbrev testK (op : BoolOp) (f : M Bool) (Q : Bool → Store → Prop) : Bool → Store → Prop := match op with
  | .And => ifK (f Q) (Q false)
  | .Or => ifK (Q true) (f Q)
noncomputable abbrev outK (out : List FV) (K : List FV → Store → Prop) : FV → Store → Prop := fun y σ => out.length ≤ lim ∧ K (out ++ [y]) σ
/-- a turn of a comprehension -/
noncomputable abbrev stepK (sc : Scope) (t : Str) (m : List (Str × FV)) (ts : Lc → M Bool) (el : Lc → M FV) : FV → List FV → (List FV → Store → Prop) → Store → Prop :=
  fun x out K σ => ts ⟨sc.names, compM sc t x m⟩ (ifK (el ⟨sc.names, compM sc t x m⟩ (outK out K)) (K out)) σ
/-- the turns of a comprehension: the items are read anew at each -/
noncomputable def wcomp (step : FV → List FV → (List FV → Store → Prop) → Store → Prop) (v : FV) : Nat → Nat → List FV → (List FV → Store → Prop) → Store → Prop
  | 0, _, _, _, _ => False
  | n + 1, i, out, Q, σ => RunT 12 (itemsM v) σ fun items σ => match items[i]? with
    | none => Q out σ
    | some x => step x out (fun out σ => wcomp step v n (i + 1) out Q σ) σ
noncomputable abbrev compK (sc : Scope) (t : Str) (c : Lc) (ts : Lc → M Bool) (el : Lc → M FV) : FV → M FV := fun v Q σ => RunT 4 (itemsC v) σ fun items σ => wcomp (stepK sc t c.m ts el) v (items.length + 1) 0 [] (fun out σ => RunT 3 (alloc (.lst out)) σ (mapK .ref Q)) σ
noncomputable abbrev Wx := (Fl → Lc → Store → Prop) → Store → Prop
/-- a for over what may be turned by its own body: the items are read anew at each turn -/
noncomputable def wfor (body : FV → Lc → Wx) (v : FV) : Nat → Nat → Lc → Wx
  | 0, _, _, _, _ => False
  | n + 1, i, c, Q, σ => RunT 12 (itemsM v) σ fun items σ => match items[i]? with
    | none => Q .next c σ
    | some x => body x c (fun fl d σ => match fl with
      | .ret r => Q (.ret r) d σ
      | _ => wfor body v n (i + 1) (keepN c d) Q σ) σ
noncomputable def wwhile (test : Lc → M Bool) (body : Lc → Wx) : Nat → Lc → Wx
  | 0, _, _, _ => False
  | n + 1, c, Q, σ => test c (fun b σ => IfB b (body c (fun fl d σ => match fl with
      | .ret r => Q (.ret r) d σ
      | _ => wwhile test body n (keepN c d) Q σ) σ) (Q .next c σ)) σ

noncomputable abbrev dictK (X : Ctx) (c : Lc) : List (Option Expr) → List Expr → M FV
  | [], [] => fun Q σ => RunT 3 (alloc (.dct [])) σ (mapK .ref Q)
  | [some (.Name x _)], [.Constant (.int i) _ _] => fun Q σ => SomeP (nameV X c x) fun v => SomeP (intOf v) fun k => RunT 3 (alloc (.dct [(.int k, .int i)])) σ (mapK .ref Q)
  | _, _ => fun _ _ => False
noncomputable abbrev unK (f : M FV) : UnaryOp → M FV
  | .Not => fun Q σ => f (seqK (runK 2 truthyM) (mapK (fun b => .bool (!b)) Q)) σ
  | .USub => fun Q σ => f (seqK negK Q) σ
  | _ => fun _ _ => False
mutual
/-- what is to be shown that an expression answers as told -/
noncomputable def wev (X : Ctx) (call : CallT) : Expr → Lc → (FV → Store → Prop) → Store → Prop
  | .Constant k _ _, _, Q, σ => SomeP (constV k) fun v => Q v σ
  | .Name x _, c, Q, σ => SomeP (nameV X c x) fun v => Q v σ
  | .BoolOp op vs _, c, Q, σ => wbool X call op vs c Q σ
  | .BinOp l op r _, c, Q, σ => wev X call l c (seqK (runK1 1 (binM op) (wev X call r c)) Q) σ
  | .UnaryOp op e _, c, Q, σ => unK (wev X call e c) op Q σ
  | .IfExp t a b _, c, Q, σ => wtest X call t c (wev X call t c) (ifK (wev X call a c Q) (wev X call b c Q)) σ
  | .Dict ks vs _, c, Q, σ => dictK X c ks vs Q σ
  | .ListComp elt [⟨te, it, ifs, _⟩] sc _, c, Q, σ => SomeP (nameOf te) fun t => On (handed sc c.names) (wev X call it c (seqK (compK sc t c (wtests X call ifs) (wev X call elt)) Q) σ)
  | .Compare l [op] [r] _, c, Q, σ => wev X call l c (seqK (runK1 5 (cmpM op) (wev X call r c)) (mapK .bool Q)) σ
  | .Call (.Attribute o name _) args _ _, c, Q, σ => wev X call o c (seqK (callK X call name (wevs X call args c)) Q) σ
  | .Call (.Name x p) args _ _, c, Q, σ => wev X call (.Name x p) c (seqK (runK1 8 call (wevs X call args c)) Q) σ
  | .Attribute o a _, c, Q, σ => wev X call o c (seqK (runK 9 (attrM X · a)) Q) σ
  | .Subscript o (.Slice lo hi _ _) _, c, Q, σ => wev X call o c (seqK (slcK (wopt X call lo c) (wopt X call hi c)) Q) σ
  | .Subscript o i _, c, Q, σ => wev X call o c (seqK (runK1 11 itemM (wev X call i c)) Q) σ
  | .List es _, c, Q, σ => wevs X call es c (seqK (runK 3 fun vs => alloc (.lst vs)) (mapK .ref Q)) σ
  | .Tuple es _ _, c, Q, σ => wevs X call es c (mapK .tup Q) σ
  | _, _, _, _ => False
noncomputable def wbool (X : Ctx) (call : CallT) : BoolOp → List Expr → Lc → (FV → Store → Prop) → Store → Prop
  | _, [], _, _, _ => False
  | _, [e], c, Q, σ => wev X call e c Q σ
  | op, e :: r, c, Q, σ => wev X call e c (seqK (boolK op (wbool X call op r c)) Q) σ
noncomputable def wevs (X : Ctx) (call : CallT) : List Expr → Lc → (List FV → Store → Prop) → Store → Prop
  | [], _, Q, σ => Q [] σ
  | e :: r, c, Q, σ => wev X call e c (seqK (consK (wevs X call r c)) Q) σ
noncomputable def wopt (X : Ctx) (call : CallT) : Option Expr → Lc → (Option Int → Store → Prop) → Store → Prop
  | none, _, Q, σ => Q none σ
  | some e, c, Q, σ => wev X call e c (seqK optK Q) σ
noncomputable def wtest (X : Ctx) (call : CallT) : Expr → Lc → ((FV → Store → Prop) → Store → Prop) → (Bool → Store → Prop) → Store → Prop
  | .UnaryOp .Not x _, c, _, Q, σ => wtest X call x c (wev X call x c) (mapK (!·) Q) σ
  | .BoolOp op vs _, c, _, Q, σ => wtests2 X call op vs c Q σ
  | .Compare l [op] [r] _, c, _, Q, σ => wev X call l c (seqK (runK1 5 (cmpM op) (wev X call r c)) Q) σ
  | .Compare .., _, _, _, _ => False
  | .IfExp .., _, _, _, _ => False
  | _, _, whole, Q, σ => whole (seqK (runK 2 truthyM) Q) σ
noncomputable def wtests2 (X : Ctx) (call : CallT) : BoolOp → List Expr → Lc → (Bool → Store → Prop) → Store → Prop
  | op, [], _, Q, σ => Q (op == .And) σ
  | op, e :: r, c, Q, σ => wtest X call e c (wev X call e c) (testK op (wtests2 X call op r c) Q) σ
noncomputable def wtests (X : Ctx) (call : CallT) : List Expr → Lc → (Bool → Store → Prop) → Store → Prop
  | [], _, Q, σ => Q true σ
  | e :: r, c, Q, σ => wtest X call e c (wev X call e c) (testK .And (wtests X call r c) Q) σ
end

noncomputable abbrev unitK {α : Type} (c : Lc) (Q : Lc → Store → Prop) : α → Store → Prop := fun _ σ => Q c σ
noncomputable def wassign (X : Ctx) (call : CallT) (c : Lc) : Expr → FV → (Lc → Store → Prop) → Store → Prop
  | .Attribute o a _, v, Q, σ => wev X call o c (seqK (runK 13 fun w => storeAttrM X w a v) (unitK c Q)) σ
  | .Subscript o i _, v, Q, σ => wev X call o c (seqK (runK1 14 (fun w k => storeItemM w k v) (wev X call i c)) (unitK c Q)) σ
  | t, v, Q, σ => SomeP (bindTarget t v c) fun c => Q c σ

noncomputable abbrev flK (fl : Fl) (Q : Fl → Lc → Store → Prop) : Lc → Store → Prop := Q fl
noncomputable abbrev asgK (f : FV → (Lc → Store → Prop) → Store → Prop) (Q : Fl → Lc → Store → Prop) : FV → Store → Prop := fun v σ => f v (flK .next Q) σ
noncomputable abbrev exprK (c : Lc) (Q : Fl → Lc → Store → Prop) : FV → Store → Prop := fun _ σ => Q .next c σ
noncomputable abbrev retK (c : Lc) (Q : Fl → Lc → Store → Prop) : FV → Store → Prop := fun v σ => Q (.ret v) c σ
noncomputable abbrev augK (c : Lc) (x : Str) (a : FV) (Q : Fl → Lc → Store → Prop) : FV → Store → Prop := fun b σ => SomeP (intOf a) fun i => SomeP (intOf b) fun j => SomeP (setN c x (.int (Builtin.bitOr i j))) fun c => Q .next c σ
noncomputable abbrev bodyK (t : Expr) (f : Lc → Wx) : FV → Lc → Wx := fun x c K σ => SomeP (bindTarget t x c) fun c => f c K σ
noncomputable abbrev forK (f : FV → Lc → Wx) (n : Nat) (c : Lc) (Q : Fl → Lc → Store → Prop) : FV → Store → Prop := fun v σ => RunT 12 (itemsM v) σ fun _ σ => wfor f v n 0 c Q σ
noncomputable abbrev keepK (c : Lc) (Q : Fl → Lc → Store → Prop) : Fl → Lc → Store → Prop := fun fl d σ => Q fl (keepN c d) σ
noncomputable abbrev nextK (f : Lc → Wx) (Q : Fl → Lc → Store → Prop) : Fl → Lc → Store → Prop := fun fl c σ => match fl with
  | .next => f c Q σ
  | fl => Q fl c σ
mutual
noncomputable def wex (X : Ctx) (call : CallT) (n : Nat) : Stmt → Lc → (Fl → Lc → Store → Prop) → Store → Prop
  | .Expr e _, c, Q, σ => wev X call e c (exprK c Q) σ
  | .Pass _, c, Q, σ => Q .next c σ
  | .Continue _, c, Q, σ => Q .cont c σ
  | .Return (some e) _, c, Q, σ => wev X call e c (retK c Q) σ
  | .Return none _, c, Q, σ => Q (.ret .none) c σ
  | .Assign [t] e _, c, Q, σ => wev X call e c (asgK (wassign X call c t) Q) σ
  | .AugAssign (.Name x _) _ e _, c, Q, σ => SomeP (nameV X c x) fun a => wev X call e c (augK c x a Q) σ
  | .If t a b _, c, Q, σ => wtest X call t c (wev X call t c) (ifK (wexs X call n a c (keepK c Q)) (wexs X call n b c (keepK c Q))) σ
  | .For t it body _ _, c, Q, σ => wev X call it c (forK (bodyK t (wexs X call n body)) n c Q) σ
  | .While t body _ _, c, Q, σ => wwhile (fun c K σ => wtest X call t c (wev X call t c) K σ) (fun c K σ => wexs X call n body c K σ) n c Q σ
  | _, _, _, _ => False
noncomputable def wexs (X : Ctx) (call : CallT) (n : Nat) : List Stmt → Lc → (Fl → Lc → Store → Prop) → Store → Prop
  | [], c, Q, σ => Q .next c σ
  | s :: r, c, Q, σ => wex X call n s c (nextK (wexs X call n r) Q) σ
end

noncomputable def bindParams : List Arg → List FV → List FV → Option (List (Str × FV))
  | ps, vs, ds =>
    if vs.length ≤ ps.length ∧ ps.length ≤ vs.length + ds.length then
      some ((ps.map (·.arg)).zip (vs ++ ds.drop (vs.length + ds.length - ps.length)))
    else none
/-- the parts of a function's text -/
noncomputable def fnP : Stmt → Option (List Arg × List Stmt × List (Str × NameKind))
  | .FunctionDef _ ⟨_, ps, _, _, _, _, _⟩ body _ _ _ sc _ _ _ => some (ps, body, sc.names)
  | _ => none
noncomputable abbrev retFl (Q : FV → Store → Prop) : Fl → Lc → Store → Prop := fun fl _ σ => match fl with
  | .ret v => Q v σ
  | .next => Q .none σ
  | _ => False
noncomputable def wfn (X : Ctx) (call : CallT) (n : Nat) (s : Stmt) (ds args : List FV) : M FV := fun Q σ => SomeP (fnP s) fun p => SomeP (bindParams p.1 args ds) fun m => wexs X call n p.2.1 ⟨p.2.2, m⟩ (retFl Q) σ

/-- of what kind the first item of a tuple is -/
noncomputable def firstK : FV → Nat
  | .tup (.int _ :: _) => 1
  | .tup (.str _ :: _) => 2
  | .tup (.tup _ :: _) => 3
  | _ => 0
/-- ints, or at most three strs, or at most three tuples of one kind -/
noncomputable def sortable (xs : List FV) : Bool :=
  (xs.all (fun x => keyK x == 1) && decide (xs.length < 64)) || (decide (xs.length ≤ 3) && (xs.all (fun x => keyK x == 2) ||
    (xs.all (hkT 7) && xs.all (fun a => xs.all (likeT a)) && (xs.all (fun x => firstK x == 1) || xs.all (fun x => firstK x == 2) || xs.all (fun x => firstK x == 3)))))
noncomputable def sortM (xs : List FV) : Option (List FV) := if sortable xs = true then sortT [] xs else none
noncomputable def sortedO : MO → M FV
  | .lst xs => fun Q σ => SomeP (sortM xs) fun ys => newM (.lst ys) Q σ
  | .dct kvs => onM (kvs.all (fun p => keyK p.1 == 1) || kvs.all (fun p => keyK p.1 == 2)) fun Q σ => SomeP (sortM (kvs.map (·.1))) fun ys => newM (.lst ys) Q σ
  | _ => failM
noncomputable def builtinM (id : String) (args : List FV) : M FV := match args with
  | [v] => if id = "len" then lenM v else if id = "sorted" then fun Q σ => SomeP (refOf v) fun l => look l sortedO Q σ else failM
  | _ => failM
noncomputable def rngM (v : FV) : M FV := intP v fun n => retM (.rng 0 n)
noncomputable def tupleM : FV → M FV
  | .ref l => look l (lstK fun xs => onM (decide (xs.length ≤ lim)) (retM (.tup xs)))
  | .tup xs => retM (.tup xs)
  | _ => failM
noncomputable def typeM (id : String) (args : List FV) : M FV := match args with
  | [v] => if id = "range" then rngM v else if id = "tuple" then tupleM v else failM
  | _ => failM
noncomputable abbrev madeK (l : Nat) (Q : FV → Store → Prop) : FV → Store → Prop := fun v σ => match v with
  | .none => Q (.ref l) σ
  | _ => False
noncomputable def clsM (call : CallT) (C : Addr) (args : List FV) : Option Addr → M FV
  | some i => fun Q σ => call (.st (.ref i)) (.ref (σ.length + 1) :: args) (madeK (σ.length + 1) Q) (σ ++ [.att []] ++ [.ins C σ.length])
  | none => onM args.isEmpty fun Q σ => Q (.ref (σ.length + 1)) (σ ++ [.att []] ++ [.ins C σ.length])
noncomputable def refM (X : Ctx) (call : CallT) (n : Nat) (a : Addr) (args : List FV) : Option (Stmt × List FV) → M FV
  | some p => wfn X call n p.1 p.2 args
  | none => onM (X.cls a) (clsM call a args (X.meth a "__init__"))
noncomputable def stM (X : Ctx) (call : CallT) (n : Nat) (args : List FV) : Value → M FV
  | .builtin id => builtinM id args
  | .type id => typeM id args
  | .ref a => refM X call n a args (X.fn a)
  | _ => failM
noncomputable def run (X : Ctx) : Nat → CallT
  | 0 => fun _ _ => failM
  | n + 1 => fun f args => match f with
    | .st v => stM X (run X n) (n + 1) args v
    | _ => failM
section
open PySem PySem.W PyProof.Rows PySem.SeqAt
theorem and2 {a b : Bool} (h : (a && b) = true) : a = true ∧ b = true := Bool.and_eq_true_iff.mp h
theorem and3 {a b c : Bool} (h : (a && b && c) = true) : (a = true ∧ b = true) ∧ c = true := ⟨and2 (and2 h).1, (and2 h).2⟩
theorem RunT.r {α : Type} {k : Nat} {m : M α} {σ : Store} {Q : α → Store → Prop} (h : RunT k m σ Q) : m Q σ := by unfold RunT at h; exact h
theorem RunT.mk {α : Type} {k : Nat} {m : M α} {σ : Store} {Q : α → Store → Prop} (h : m Q σ) : RunT k m σ Q := by unfold RunT; exact h
theorem IfB.yes {p q : Prop} (h : IfB true p q) : p := by unfold IfB at h; exact h
theorem IfB.no {p q : Prop} (h : IfB false p q) : q := by unfold IfB at h; exact h
theorem On.b {b : Bool} {p : Prop} (h : On b p) : b = true := by cases b; exact h.elim; rfl
theorem On.q {b : Bool} {p : Prop} (h : On b p) : p := by cases b; exact h.elim; exact h
theorem On.d {p q : Prop} {i : Decidable p} (h : On (@decide p i) q) : p := of_decide_eq_true h.b
theorem On.mk {b : Bool} {p : Prop} (h : b = true) (q : p) : On b p := by subst h; exact q
theorem On.dec {p q : Prop} {i : Decidable p} (h : p) (x : q) : On (@decide p i) q := .mk (decide_eq_true h) x
theorem SomeP.out {α : Type} {o : Option α} {P : α → Prop} (h : SomeP o P) : ∃ a, o = some a ∧ P a := by
  cases o with
  | none => exact h.elim
  | some a => exact ⟨a, rfl, h⟩
theorem SomeP.mk {α : Type} {o : Option α} {P : α → Prop} {a : α} (e : o = some a) (h : P a) : SomeP o P := by subst e; exact h
theorem SomeP.on {α : Type} {o : Option α} {P : α → Prop} {G : Prop} (h : SomeP o P) (k : ∀ a, o = some a → P a → G) : G := let ⟨a, e, p⟩ := h.out; k a e p

theorem intE {v : FV} {P : Int → Prop} {G : FV → Prop} (h : SomeP (intOf v) P) (k : ∀ i, P i → G (.int i)) : G v := by
  cases v with
  | int i => exact k i h
  | _ => exact h.elim
theorem refE {v : FV} {P : Nat → Prop} {G : FV → Prop} (h : SomeP (refOf v) P) (k : ∀ i, P i → G (.ref i)) : G v := by
  cases v with
  | ref i => exact k i h
  | _ => exact h.elim
theorem tupE {v : FV} {P : List FV → Prop} {G : FV → Prop} (h : SomeP (tupOf v) P) (k : ∀ i, P i → G (.tup i)) : G v := by
  cases v with
  | tup i => exact k i h
  | _ => exact h.elim
/-- two lists, item by item -/
inductive F2 {α β : Type} (R : α → β → Prop) : List α → List β → Prop
  | nil : F2 R [] []
  | cons {a : α} {b : β} {as : List α} {bs : List β} : R a b → F2 R as bs → F2 R (a :: as) (b :: bs)
section
variable {α β : Type} {R S : α → β → Prop} {as as' : List α} {bs bs' : List β} {a : α} {b : β}
theorem F2.len (q : F2 R as bs) : as.length = bs.length := by
  induction q with
  | nil => rfl
  | cons _ _ ih => exact congrArg (· + 1) ih
theorem F2.mono (q : F2 R as bs) (h : ∀ a b, R a b → S a b) : F2 S as bs := by
  induction q with
  | nil => exact .nil
  | cons r _ ih => exact .cons (h _ _ r) ih
theorem F2.append (q : F2 R as bs) (q' : F2 R as' bs') : F2 R (as ++ as') (bs ++ bs') := by
  induction q with
  | nil => exact q'
  | cons r _ ih => exact .cons r ih
theorem F2.snoc (q : F2 R as bs) (r : R a b) : F2 R (as ++ [a]) (bs ++ [b]) := q.append (.cons r .nil)
@[elab_as_elim] theorem F2.nilE {P : List β → Prop} (q : F2 R [] bs) (h : P []) : P bs := by cases q; exact h
@[elab_as_elim] theorem F2.consE {P : List β → Prop} (q : F2 R (a :: as) bs) (h : ∀ b bs, R a b → F2 R as bs → P (b :: bs)) : P bs := by cases q with | cons r q => exact h _ _ r q
@[elab_as_elim] theorem F2.oneE {P : List β → Prop} (q : F2 R [a] bs) (h : ∀ b, R a b → P [b]) : P bs := by cases q with | cons r q => cases q; exact h _ r
theorem F2.get (q : F2 R as bs) : ∀ {j : Nat} {a : α} {b : β}, as[j]? = some a → bs[j]? = some b → R a b := by
  induction q with
  | nil => exact fun h _ => nomatch h
  | cons r _ ih => exact fun {j} => match j with
    | 0 => fun h1 h2 => by cases h1; cases h2; exact r
    | j + 1 => fun h1 h2 => ih (j := j) h1 h2
theorem F2.take (q : F2 R as bs) : ∀ n, F2 R (as.take n) (bs.take n) := by
  induction q with
  | nil => exact fun n => by cases n <;> exact .nil
  | cons r _ ih => exact fun n => match n with
    | 0 => .nil
    | n + 1 => .cons r (ih n)
theorem F2.drop (q : F2 R as bs) : ∀ n, F2 R (as.drop n) (bs.drop n) := by
  induction q with
  | nil => exact fun n => by cases n <;> exact .nil
  | cons r q ih => exact fun n => match n with
    | 0 => .cons r q
    | n + 1 => ih n
theorem F2.set (q : F2 R as bs) (r : R a b) : ∀ n, F2 R (as.set n a) (bs.set n b) := by
  induction q with
  | nil => exact fun _ => .nil
  | cons r' q ih => exact fun n => match n with
    | 0 => .cons r q
    | n + 1 => .cons r' (ih n)
theorem F2.mem (q : F2 R as bs) : ∀ {b}, b ∈ bs → ∃ a ∈ as, R a b := by
  induction q with
  | nil => exact fun h => nomatch h
  | cons r _ ih => exact fun h => (List.mem_cons.mp h).elim (fun e => ⟨_, .head _, e ▸ r⟩) fun h => let ⟨a, h1, h2⟩ := ih h; ⟨a, .tail _ h1, h2⟩
end

noncomputable abbrev Rho := List Addr
structure Pt where
  h : Heap
  ρ : Rho
noncomputable abbrev tupObj (vs : List Value) (n : Nat) : Obj := { cls := .type "tuple", data := .seq vs.toArray n }
noncomputable abbrev lstObj (vs : List Value) (n : Nat) : Obj := { cls := .type "list", data := .seq vs.toArray n }
noncomputable abbrev dctObj (es : List DictEntry) (n : Nat) : Obj := { cls := .type "dict", data := .dict es.toArray n }
noncomputable abbrev insObj (C b : Addr) : Obj := { cls := .ref C, dict := some b, data := .plain }

mutual
/-- the value v stands for d over the heap; label l lies at ρ[l] -/
noncomputable def VRel (p : Pt) : FV → Value → Prop
  | .none, v => v = .none
  | .bool b, v => v = .bool b
  | .int i, v => ∃ t, v = .int i t
  | .str s, v => ∃ t, v = .str s t
  | .ref l, v => ∃ a, v = .ref a ∧ p.ρ[l]? = some a
  | .st u, v => v = u
  | .rng lo hi, v => ∃ a t u w, v = .ref a ∧ IsRange p.h a lo hi 1 t u w
  | .tup xs, v => ∃ a n vs, v = .ref a ∧ p.h.get? a = some (tupObj vs n) ∧ VRels p xs vs
noncomputable def VRels (p : Pt) : List FV → List Value → Prop
  | [], vs => vs = []
  | x :: xs, vs => ∃ v r, vs = v :: r ∧ VRel p x v ∧ VRels p xs r
end
theorem rels_of {p : Pt} : ∀ {xs : List FV} {vs : List Value}, VRels p xs vs → F2 (VRel p) xs vs
  | [], _, e => by cases e; exact .nil
  | _ :: _, _, ⟨_, _, e, r, q⟩ => by subst e; exact .cons r (rels_of q)
theorem of_rels {p : Pt} {xs : List FV} {vs : List Value} (q : F2 (VRel p) xs vs) : VRels p xs vs := by
  induction q with
  | nil => rfl
  | cons r _ ih => exact ⟨_, _, rfl, r, ih⟩
section
variable {p : Pt} {v : Value} {P : Value → Prop}
theorem VRel.int {i : Int} {t : Tok} : VRel p (.int i) (.int i t) := ⟨t, rfl⟩
theorem VRel.str {s : Str} {t : Tok} : VRel p (.str s) (.str s t) := ⟨t, rfl⟩
theorem VRel.none : VRel p .none .none := rfl
theorem VRel.bool {b : Bool} : VRel p (.bool b) (.bool b) := rfl
theorem VRel.ref {l : Nat} {a : Addr} (e : p.ρ[l]? = some a) : VRel p (.ref l) (.ref a) := ⟨a, rfl, e⟩
theorem VRel.tup {a : Addr} {n : Nat} {vs : List Value} {xs : List FV} (e : p.h.get? a = some (tupObj vs n)) (q : F2 (VRel p) xs vs) : VRel p (.tup xs) (.ref a) := ⟨a, n, vs, rfl, e, of_rels q⟩
@[elab_as_elim] theorem VRel.intE {i : Int} (r : VRel p (.int i) v) (h : ∀ t, P (.int i t)) : P v := by obtain ⟨t, rfl⟩ := r; exact h t
@[elab_as_elim] theorem VRel.strE {s : Str} (r : VRel p (.str s) v) (h : ∀ t, P (.str s t)) : P v := by obtain ⟨t, rfl⟩ := r; exact h t
@[elab_as_elim] theorem VRel.noneE (r : VRel p .none v) (h : P .none) : P v := by cases r; exact h
@[elab_as_elim] theorem VRel.boolE {b : Bool} (r : VRel p (.bool b) v) (h : P (.bool b)) : P v := by cases r; exact h
@[elab_as_elim] theorem VRel.stE {u : Value} (r : VRel p (.st u) v) (h : P u) : P v := by cases r; exact h
@[elab_as_elim] theorem VRel.refE {l : Nat} (r : VRel p (.ref l) v) (h : ∀ a, p.ρ[l]? = some a → P (.ref a)) : P v := by obtain ⟨a, rfl, e⟩ := r; exact h a e
@[elab_as_elim] theorem VRel.rngE {lo hi : Int} (r : VRel p (.rng lo hi) v) (h : ∀ a t u w, IsRange p.h a lo hi 1 t u w → P (.ref a)) : P v := by obtain ⟨a, t, u, w, rfl, e⟩ := r; exact h a t u w e
@[elab_as_elim] theorem VRel.tupE {xs : List FV} (r : VRel p (.tup xs) v) (h : ∀ a n vs, p.h.get? a = some (tupObj vs n) → F2 (VRel p) xs vs → P (.ref a)) : P v := by obtain ⟨a, n, vs, rfl, e, q⟩ := r; exact h a n vs e (rels_of q)
end

/-- tuples and ranges are never turned -/
noncomputable def fixd (o : Obj) : Bool := match o.data with
  | .seq _ _ => decide (o.cls = .type "tuple")
  | .fields _ => decide (o.cls = .type "range")
  | _ => false
noncomputable def Imm (h h' : Heap) : Prop := ∀ a o, fixd o = true → h.get? a = some o → h'.get? a = some o
theorem Imm.but {h h' : Heap} {I : Addr} {o : Obj} (hs : ∀ a o, a ≠ I → h.get? a = some o → h'.get? a = some o) (ho : h.get? I = some o) (hf : fixd o = false) : Imm h h' := fun a o' f e => hs a o' (fun q => by
  rw [q, ho] at e; cases e; rw [hf] at f; cases f) e
structure Up (p p' : Pt) : Prop where
  imm : Imm p.h p'.h
  pre : ∀ (l : Nat) a, p.ρ[l]? = some a → p'.ρ[l]? = some a
mutual
theorem VRel.up {p p' : Pt} (u : Up p p') : ∀ {d : FV} {v : Value}, VRel p d v → VRel p' d v
  | .none, _, r | .bool _, _, r | .int _, _, r | .str _, _, r | .st _, _, r => r
  | .ref _, _, ⟨a, e, r⟩ => ⟨a, e, u.pre _ _ r⟩
  | .rng _ _, _, ⟨a, t, w, x, e, r⟩ => ⟨a, t, w, x, e, u.imm _ _ rfl r⟩
  | .tup _, _, ⟨a, n, vs, e, g, q⟩ => ⟨a, n, vs, e, u.imm _ _ rfl g, VRels.up u q⟩
theorem VRels.up {p p' : Pt} (u : Up p p') : ∀ {ds : List FV} {vs : List Value}, VRels p ds vs → VRels p' ds vs
  | [], _, e => e
  | _ :: _, _, ⟨v, r, e, a, b⟩ => ⟨v, r, e, a.up u, VRels.up u b⟩
end
theorem Up.vs {p p' : Pt} (u : Up p p') {ds : List FV} {vs : List Value} (q : F2 (VRel p) ds vs) : F2 (VRel p') ds vs := q.mono fun _ _ r => r.up u

mutual
noncomputable def hashFV (w : World) : FV → Int
  | .int i => hashInt i
  | .str s => hashStr w s
  | .tup xs => reduceHash (Builtin.Tuple.tupleHashOf (hashFVs w xs))
  | _ => 0
noncomputable def hashFVs (w : World) : List FV → List Int
  | [] => []
  | x :: r => hashFV w x :: hashFVs w r
end
/-! what the text must be like -/
noncomputable def asAttr : Expr → Option (Expr × Str × Pos)
  | .Attribute o n p => some (o, n, p)
  | _ => none
noncomputable def asTup : Expr → Option (List Expr)
  | .Tuple ts _ _ => some ts
  | _ => none
noncomputable def asSlice : Expr → Option (Option Expr × Option Expr × Option Expr)
  | .Slice a b c _ => some (a, b, c)
  | _ => none
noncomputable def asInt : Expr → Option Int
  | .Constant (.int i) _ _ => some i
  | _ => none
noncomputable def tagE : Expr → Nat
  | .Starred .. => 1
  | .Set .. => 2
  | .ListComp .. => 3
  | .SetComp .. => 3
  | .DictComp .. => 3
  | .Tuple .. => 4
  | .Call .. => 5
  | .Attribute .. => 6
  | .Subscript .. => 7
  | _ => 0
noncomputable def okN (x : Str) : Bool := !(x == ("__debug__" : Str)) && !(x == ("__classdict__" : Str))
noncomputable def okName (e : Expr) : Bool := ((nameOf e).map okN).getD false
noncomputable def noStar (es : List Expr) : Bool := es.all fun e => tagE e != 1
noncomputable def okDict : List (Option Expr) → List Expr → Bool
  | [], [] => true
  | [some k], [v] => okName k && (asInt v).isSome
  | _, _ => false
/-- what the scope of a comprehension must be like -/
noncomputable def scOk (sc : Scope) (t : Str) : Bool := sc.kind == .function && sc.names.all (fun p => p.2 != .cell) && sc.names.all (fun p => p.2 != .local || sc.names.lookup p.1 == some .local) && sc.names.lookup t == some .local &&
  sc.names.all (fun p => p.2 != .free || sc.names.lookup p.1 == some .free)
noncomputable def okG (f : Expr → Bool) (elt : Expr) (sc : Scope) : List Comprehension → Bool
  | [g] => (f elt && f g.iter && g.ifs.all f) && (tagE g.iter != 2 && g.is_async == 0) && ((nameOf g.target).map (scOk sc)).getD false
  | _ => false
noncomputable def okCmp (f : Expr → Bool) : List Expr → Bool
  | [r] => f r && tagE r != 2
  | _ => false
noncomputable def okCall (args : List Expr) (kws : List Keyword) (pos : Pos) (f : Expr) : Bool := kws.isEmpty && noStar args && (match asAttr f with
  | some p => (p.2.2.endLine == pos.line) && decide (args.length < 30)
  | none => true)
noncomputable def okSeq (f : Expr → Bool) (es : List Expr) : Bool := es.all f && noStar es && decide (es.length ≤ 1000)
/-- what the text of an expression must be like -/
noncomputable def okE : Nat → Expr → Bool
  | 0, _ => false
  | n + 1, e => match e with
    | .Constant .. => true
    | .Name x _ => okN x
    | .BoolOp _ vs _ => vs.all (okE n)
    | .BinOp l _ r _ => okE n l && okE n r
    | .UnaryOp _ e _ => okE n e
    | .IfExp t a b _ => okE n t && okE n a && okE n b
    | .Dict ks vs _ => okDict ks vs
    | .ListComp elt gens sc _ => okG (okE n) elt sc gens
    | .Compare l _ rs _ => okE n l && okCmp (okE n) rs
    | .Call f args kws pos => okE n f && args.all (okE n) && okCall args kws pos f
    | .Attribute o _ _ => okE n o && tagE o != 5
    | .Subscript o i _ => okE n o && okE n i
    | .Slice lo hi st _ => lo.all (okE n) && hi.all (okE n) && st.isNone
    | .List es _ => okSeq (okE n) es
    | .Tuple es _ _ => okSeq (okE n) es
    | _ => false
noncomputable def allNames (ts : List Expr) : Bool := ts.all fun t => (nameOf t).isSome
/-- what a target must be like -/
noncomputable def okT (t : Expr) : Bool := (nameOf t).isSome || ((asTup t).map allNames).getD false || (okE 40 t && (tagE t == 6 || tagE t == 7))
noncomputable def okForT (t : Expr) : Bool := (nameOf t).isSome || ((asTup t).map allNames).getD false
/-- no two stores that are turned about, no comprehension that lets go of a value -/
noncomputable def okAssign (e : Expr) : List Expr → Bool
  | [t] => (nameOf t).isSome || (okT t && tagE e != 3 && (tagE t != 4 || tagE e != 4))
  | _ => false
/-- what the text of a statement must be like -/
noncomputable def okS : Nat → Stmt → Bool
  | 0, _ => false
  | n + 1, s => match s with
    | .Expr e _ => okE 40 e && tagE e != 3
    | .Pass _ => true
    | .Continue _ => true
    | .Return e _ => e.all (okE 40)
    | .Assign ts e _ => okAssign e ts && okE 40 e
    | .AugAssign t op e _ => okName t && okE 40 e && (match op with | .BitOr => true | _ => false)
    | .If t a b _ => okE 40 t && a.all (okS n) && b.all (okS n)
    | .For t it body els _ => (okForT t && okE 40 it && tagE it != 2) && els.isEmpty && body.all (okS n)
    | .While t body els _ => okE 40 t && els.isEmpty && body.all (okS n)
    | .Raise .. => true
    | _ => false
/-- what the scope of a function must be like -/
noncomputable def okFn (ps : List Arg) (sc : Scope) (body : List Stmt) : Bool :=
  sc.kind == .function && !sc.isCoroutine && !sc.isGenerator && sc.names.all (fun p => p.2 != .free) && decide ((ps.map (·.arg)).Nodup) && decide (((cellsFrom 0 sc.names []).map (·.1)).Nodup) &&
    ps.all (fun p => sc.names.lookup p.arg == some .local || sc.names.lookup p.arg == some .cell) && body.all (okS 40)
noncomputable def ownOk (K : Frag) (C : Addr) (name : Str) : Bool := plainGet K C name && hasDictIn K C && (match findIn K (.ref C) name with | some attr => noGet K attr | none => false) &&
  findIn K (.ref C) "__setattr__" == some (some (.builtin "object.__setattr__")) && plainOver K C && takerIn K C name == some none
noncomputable def methOk (K : Frag) (C : Addr) (name : Str) (f : Addr) : Bool := plainGet K C name && findIn K (.ref C) name == some (some (.ref f)) && isFn K (.ref f)

/-! where the call begins -/
structure D where
  w : World
  prog : Program
  X : Ctx
  K : Frag
  s : Shared
  k : Addr
  l : Addr
  xs : List FV
  kf : List (FV × FV)
/-- one such case, fixed once for all that follows -/
noncomputable def pick (P : D → Prop) : D := @Classical.epsilon D ⟨⟨⟨fun _ _ => 0, { strHash := fun _ => 0, shareClass := fun _ => 0, mergeTok := id, idOf := fun _ => 0, idOfShared := fun _ _ => 0, followText := fun _ => false, idOfImm := fun _ => 0 }⟩, default, ⟨fun _ => none, fun _ => none, fun _ _ => none, fun _ => false, fun _ _ => false⟩, [], {}, 0, 0, [], []⟩⟩ P
theorem pick_spec {P : D → Prop} {d : D} (h : P d) : P (pick P) := Classical.epsilon_spec (p := P) ⟨d, h⟩

/-- a function of the top, as it stands where the call begins -/
structure FnAt (d : D) (a : Addr) (st : Stmt) (ds : List FV) (o : Obj) (fd : FuncData) (ps : List Arg) (df : List Expr) (body : List Stmt) : Prop where
  ho : d.s.heap.get? a = some o
  hd : o.data = .func fd
  txt : fnP st = some (ps, body, fd.scope.names)
  par : fd.params = ⟨[], ps, none, [], [], none, df⟩
  bdy : fd.body = .stmts body
  glo : fd.globals = mainGlobals
  clo : fd.closure = []
  blt : fd.builtins = builtinsNs
  cod : d.s.heap.CodeRec fd.code fd.qualname
  ok : okFn ps fd.scope body = true
  le : ds.length ≤ ps.length
  dfs : (fd.defaults = .none ∧ ds = []) ∨ ∃ T vs n, fd.defaults = .ref T ∧ d.s.heap.get? T = some (tupObj vs n) ∧ ∀ ρ, F2 (VRel ⟨d.s.heap, ρ⟩) ds vs
/-- what the names of the top stand for, where the call begins -/
structure GlobOk (d : D) (mg mb : Str → Option Value) : Prop where
  g : d.s.heap.Ns mainGlobals mg
  b : d.s.heap.Ns builtinsNs mb
  at_ : ∀ x v, d.X.glob x = some v → ∃ u, (mg x = some u ∨ (mg x = none ∧ mb x = some u)) ∧ ∀ ρ : Rho, ρ[0]? = some d.k → VRel ⟨d.s.heap, ρ⟩ v u
/-- entries of a made object's dict -/
noncomputable def AR (w : World) (p : Pt) (k : Str × FV) (e : DictEntry) : Prop := (∃ t, e.key = .str k.1 t) ∧ e.hash = PyData.keyHash w.params k.1 ∧ VRel p k.2 e.val
theorem AR.up {w : World} {p p' : Pt} (u : Up p p') {k : Str × FV} {e : DictEntry} (r : AR w p k e) : AR w p' k e := ⟨r.1, r.2.1, r.2.2.up u⟩
theorem ff {G : Prop} (h : false = true) : G := (Bool.false_ne_true h).elim
@[elab_as_elim] theorem hkE {n : Nat} {P : FV → Prop} {x : FV} (h : hkT n x = true) (hi : ∀ i, P (.int i)) (hs : ∀ s, P (.str s)) (ht : ∀ m xs, n = m + 1 → hkL m xs = true → P (.tup xs)) : P x := by
  cases x with
  | int i => exact hi i
  | str s => exact hs s
  | tup xs => cases n with
    | zero => exact ff h
    | succ m => exact ht m xs rfl h
  | _ => cases n <;> exact ff h
theorem hkL_all {n : Nat} : ∀ {xs : List FV}, hkL n xs = true → ∀ x ∈ xs, hkT n x = true
  | [], _, _, e => nomatch e
  | _ :: _, h, _, e => (List.mem_cons.mp e).elim (fun e => e ▸ (and2 h).1) (hkL_all (and2 h).2 _)
theorem hkL_get {n : Nat} {xs : List FV} {j : Nat} {x : FV} (h : hkL n xs = true) (e : xs[j]? = some x) : hkT n x = true := hkL_all h x (List.mem_of_getElem? e)
mutual
theorem eqF_refl : ∀ (n : Nat) (a : FV), hkT n a = true → eqF a a = true
  | _, .int a, _ => beq_self_eq_true a
  | _, .str a, _ => beq_self_eq_true a
  | n + 1, .tup xs, h => eqFs_refl n xs h
  | 0, .tup _, h | 0, .none, h | _ + 1, .none, h | 0, .bool _, h | _ + 1, .bool _, h | 0, .rng .., h | _ + 1, .rng .., h | 0, .ref _, h | _ + 1, .ref _, h | 0, .st _, h | _ + 1, .st _, h => ff h
theorem eqFs_refl : ∀ (n : Nat) (xs : List FV), hkL n xs = true → eqFs xs xs = true
  | _, [], _ => rfl
  | n, x :: r, h => Bool.and_eq_true_iff.mpr ⟨eqF_refl n x (and2 h).1, eqFs_refl n r (and2 h).2⟩
end
mutual
theorem eqF_eq : ∀ (a b : FV), eqF a b = true → a = b
  | .int a, b, h => by
    cases b with
    | int b => exact congrArg _ (eq_of_beq h)
    | _ => exact ff h
  | .str a, b, h => by
    cases b with
    | str b => exact congrArg _ (eq_of_beq h)
    | _ => exact ff h
  | .tup xs, b, h => by
    cases b with
    | tup ys => exact congrArg _ (eqFs_eq xs ys h)
    | _ => exact ff h
  | .none, _, h | .bool _, _, h | .rng _ _, _, h | .ref _, _, h | .st _, _, h => ff h
theorem eqFs_eq : ∀ (xs ys : List FV), eqFs xs ys = true → xs = ys
  | [], [], _ => rfl
  | x :: xs, y :: ys, h => by rw [eqF_eq x y (and2 h).1, eqFs_eq xs ys (and2 h).2]
  | [], _ :: _, h | _ :: _, [], h => ff h
end
theorem eqF_dec {n : Nat} {a b : FV} (ha : hkT n a = true) : eqF a b = true ↔ a = b := ⟨eqF_eq a b, fun e => e ▸ eqF_refl n a ha⟩
theorem eqF_ff {a b : FV} (h : ¬ a = b) : eqF a b = false := by
  cases q : eqF a b with
  | false => rfl
  | true => exact absurd (eqF_eq _ _ q) h

theorem F2.flip {α β : Type} {R : α → β → Prop} {as : List α} {bs : List β} (q : F2 R as bs) : F2 (fun b a => R a b) bs as := by
  induction q with
  | nil => exact .nil
  | cons r _ ih => exact .cons r ih
theorem F2.inj {α β : Type} {R : α → β → Prop} {as : List α} {bs : List β} (q : F2 R as bs) : ∀ {as' : List α}, (∀ a ∈ as, ∀ a' ∈ as', ∀ b, R a b → R a' b → a = a') → F2 R as' bs → as = as' := by
  induction q with
  | nil => exact fun _ q' => q'.flip.nilE rfl
  | cons r _ ih =>
    intro as' h q'
    revert h
    exact q'.flip.consE fun a' as' r' q' h => congr (congrArg _ (h _ (.head _) _ (.head _) _ r r')) (ih (fun a ha a' ha' => h a (.tail _ ha) a' (.tail _ ha')) q'.flip)
theorem VRel.det {p : Pt} : ∀ {n : Nat} {a b : FV} {v : Value}, hkT n a = true → hkT n b = true → VRel p a v → VRel p b v → a = b := by
  intro n
  induction n with
  | zero =>
    intro a b v ha hb
    exact hkE ha
      (fun i => hkE hb (fun j ⟨_, e⟩ ⟨_, e'⟩ => by cases e.symm.trans e'; rfl) (fun j ⟨_, e⟩ ⟨_, e'⟩ => nomatch e.symm.trans e') fun _ _ e => nomatch e)
      (fun i => hkE hb (fun j ⟨_, e⟩ ⟨_, e'⟩ => nomatch e.symm.trans e') (fun j ⟨_, e⟩ ⟨_, e'⟩ => by cases e.symm.trans e'; rfl) fun _ _ e => nomatch e) fun _ _ e => nomatch e
  | succ n ih =>
    intro a b v ha hb
    exact hkE ha
      (fun i => hkE hb (fun j ⟨_, e⟩ ⟨_, e'⟩ => by cases e.symm.trans e'; rfl) (fun j ⟨_, e⟩ ⟨_, e'⟩ => nomatch e.symm.trans e') fun _ _ _ _ ⟨_, e⟩ ⟨_, _, _, e', _⟩ => nomatch e.symm.trans e')
      (fun i => hkE hb (fun j ⟨_, e⟩ ⟨_, e'⟩ => nomatch e.symm.trans e') (fun j ⟨_, e⟩ ⟨_, e'⟩ => by cases e.symm.trans e'; rfl) fun _ _ _ _ ⟨_, e⟩ ⟨_, _, _, e', _⟩ => nomatch e.symm.trans e')
      fun m xs hm hx => hkE hb (fun j ⟨_, _, _, e', _⟩ ⟨_, e⟩ => nomatch e.symm.trans e') (fun j ⟨_, _, _, e', _⟩ ⟨_, e⟩ => nomatch e.symm.trans e') fun m' ys hm' hy ⟨a, k, vs, e, g, q⟩ ⟨a', k', vs', e', g', q'⟩ => by
        cases hm
        cases hm'
        cases e.symm.trans e'
        have := List.toArray_inj (congrArg (fun o => match o.data with | .seq x _ => x | _ => #[]) (Option.some.inj (g.symm.trans g')))
        subst this
        exact congrArg _ ((rels_of q).inj (fun x hx' y hy' v r r' => ih (hkL_all hx x hx') (hkL_all hy y hy') r r') (rels_of q'))

theorem succ_beq (a b : Nat) : (a + 1 == b + 1) = (a == b) := by simp
theorem eqFs_all : ∀ (xs ys : List FV), ((List.range (min xs.length ys.length)).all (fun j => eqF ((xs[j]?).getD .none) ((ys[j]?).getD .none)) && xs.length == ys.length) = eqFs xs ys
  | [], [] => rfl
  | [], _ :: _ => rfl
  | _ :: _, [] => rfl
  | x :: xs, y :: ys => by
    refine Eq.trans ?_ (congrArg (eqF x y && ·) (eqFs_all xs ys))
    rw [List.length_cons, List.length_cons, Nat.succ_min_succ, List.range_succ_eq_map, List.all_cons, List.all_map, Bool.and_assoc]
    exact congrArg (eqF x y && ·) (congrArg (_ && ·) (succ_beq _ _))
theorem isTupO {h : Heap} {a : Addr} {vs : List Value} {n : Nat} (e : h.get? a = some (tupObj vs n)) : h.IsTuple a vs.toArray := ⟨_, e, rfl, _, rfl⟩
theorem isLstO {h : Heap} {a : Addr} {vs : List Value} {n : Nat} (e : h.get? a = some (lstObj vs n)) : h.IsList a vs.toArray := ⟨_, e, rfl, _, rfl⟩

/-- what == and != answer -/
structure CmpAt (A : Around) (s : Shared) (u v : Value) (k : Bool) : Prop where
  eq : EqAt A s u v k
  rc : RcAt A s u v k
  ne : RcNeAt A s u v (!k)
section
variable {A : Around} {s : Shared} {ρ : Rho}
/-- the items of two rows of data -/
theorem items_at {n : Nat} {xs ys : List FV} {vs ws : List Value} (ih : ∀ {a b : FV} {u v : Value}, hkT n a = true → hkT n b = true → VRel ⟨s.heap, ρ⟩ a u → VRel ⟨s.heap, ρ⟩ b v → CmpAt A s u v (eqF a b)) (hx : hkL n xs = true) (hy : hkL n ys = true)
    (q : F2 (VRel ⟨s.heap, ρ⟩) xs vs) (q' : F2 (VRel ⟨s.heap, ρ⟩) ys ws) (j : Nat) (h1 : j < vs.toArray.size) (h2 : j < ws.toArray.size) : EqAt A s vs.toArray[j] ws.toArray[j] (eqF ((xs[j]?).getD .none) ((ys[j]?).getD .none)) := by
  have g1 := List.getElem?_eq_getElem (l := xs) (i := j) (q.len ▸ h1)
  have g2 := List.getElem?_eq_getElem (l := ys) (i := j) (q'.len ▸ h2)
  rw [g1, g2]
  exact (ih (hkL_get hx g1) (hkL_get hy g2) (q.get g1 (List.getElem?_eq_getElem h1)) (q'.get g2 (List.getElem?_eq_getElem h2))).eq
theorem cmpAt : ∀ {n : Nat} {A : Around} {a b : FV} {u v : Value}, A.units + n < cLine → hkT n a = true → hkT n b = true → VRel ⟨s.heap, ρ⟩ a u → VRel ⟨s.heap, ρ⟩ b v → CmpAt A s u v (eqF a b) := by
  intro n
  induction n with
  | zero =>
    intro A a b u v hu ha hb
    exact hkE ha
      (fun i => hkE hb (fun j r r' => r.intE fun t => r'.intE fun t' => ⟨.int_int _ _ _ _, .int_int _ _ _ _, .int_int _ _ _ _⟩) (fun j r r' => r.intE fun t => r'.strE fun t' => ⟨.int_str _ _ _ _, .int_str _ _ _ _, .int_str _ _ _ _⟩) fun _ _ e => nomatch e)
      (fun i => hkE hb (fun j r r' => r.strE fun t => r'.intE fun t' => ⟨.str_int _ _ _ _, .str_int _ _ _ _, .str_int _ _ _ _⟩) (fun j r r' => r.strE fun t => r'.strE fun t' => ⟨.str_str _ _ _ _, .str_str _ _ _ _, .str_str _ _ _ _⟩) fun _ _ e => nomatch e) fun _ _ e => nomatch e
  | succ n ih =>
    intro A a b u v hu ha hb
    have hu' := Nat.lt_of_le_of_lt (Nat.le_add_right _ _) hu
    exact hkE ha
      (fun i => hkE hb (fun j r r' => r.intE fun t => r'.intE fun t' => ⟨.int_int _ _ _ _, .int_int _ _ _ _, .int_int _ _ _ _⟩) (fun j r r' => r.intE fun t => r'.strE fun t' => ⟨.int_str _ _ _ _, .int_str _ _ _ _, .int_str _ _ _ _⟩) fun _ _ _ _ r r' => r.intE fun t => r'.tupE fun _ _ _ g _ => ⟨.int_tuple _ _ (isTupO g) hu', .int_tuple _ _ (isTupO g) hu', .int_tuple _ _ (isTupO g) hu'⟩)
      (fun i => hkE hb (fun j r r' => r.strE fun t => r'.intE fun t' => ⟨.str_int _ _ _ _, .str_int _ _ _ _, .str_int _ _ _ _⟩) (fun j r r' => r.strE fun t => r'.strE fun t' => ⟨.str_str _ _ _ _, .str_str _ _ _ _, .str_str _ _ _ _⟩) fun _ _ _ _ r r' => r.strE fun t => r'.tupE fun _ _ _ g _ => ⟨.str_tuple _ _ (isTupO g) hu', .str_tuple _ _ (isTupO g) hu', .str_tuple _ _ (isTupO g) hu'⟩)
      fun m xs hm hx => hkE hb (fun j r r' => r.tupE fun _ _ _ g _ => r'.intE fun t => ⟨.tuple_int _ _ (isTupO g) hu', .tuple_int _ _ (isTupO g) hu', .tuple_int _ _ (isTupO g) hu'⟩) (fun j r r' => r.tupE fun _ _ _ g _ => r'.strE fun t => ⟨.tuple_str _ _ (isTupO g) hu', .tuple_str _ _ (isTupO g) hu', .tuple_str _ _ (isTupO g) hu'⟩)
        fun m' ys hm' hy r r' => r.tupE fun a k vs g q => r'.tupE fun a' k' ws g' q' => by
          cases hm
          cases hm'
          have it := items_at (ih (show A.in1.units + n < cLine from Nat.lt_of_le_of_lt (Nat.le_of_eq (Nat.add_right_comm _ _ _)) hu)) hx hy q q'
          have e : ((List.range (min vs.toArray.size ws.toArray.size)).all (fun j => eqF ((xs[j]?).getD .none) ((ys[j]?).getD .none)) && vs.toArray.size == ws.toArray.size) = eqF (.tup xs) (.tup ys) := by
            rw [List.size_toArray, List.size_toArray, ← q.len, ← q'.len]; exact eqFs_all xs ys
          have rc := RcAt.tuples (isTupO g) (isTupO g') hu' it
          have ne := RcNeAt.tuples (isTupO g) (isTupO g') hu' it
          rw [e] at rc ne
          refine ⟨?_, rc, ne⟩
          by_cases h : a = a'
          · subst h
            have d := VRel.det (n := n + 1) (a := .tup xs) (b := .tup ys) hx hy (.tup g q) (.tup g' q')
            rw [← d, eqF_refl (n + 1) (.tup xs) hx]
            exact EqAt.same _
          · exact EqAt.of_refs h rc
end
end
section
open PySem PySem.W PyProof.Rows PySem.SeqAt
open scoped Classical
mutual
noncomputable def drawsF : FV → Nat
  | .tup xs => drawsL xs + 1
  | _ => 1
noncomputable def drawsL : List FV → Nat
  | [] => 0
  | x :: r => drawsF x + drawsL r
end
theorem hashFVs_map (w : World) : ∀ xs : List FV, hashFVs w xs = xs.map (hashFV w)
  | [] => rfl
  | x :: r => congrArg (hashFV w x :: ·) (hashFVs_map w r)
theorem tupIs {s : Shared} {a : Addr} {vs : List Value} {n : Nat} (g : s.heap.get? a = some (tupObj vs n)) : s.TypeIs (.ref a) "tuple" := ⟨_, g, rfl⟩
section
variable {prog : Program} {w : World} {A : Around} {E : Value → Shared → Prop} {s : Shared} {ρ : Rho} {v : Value}

/-- the hash of data -/
theorem pyHash_data : ∀ {n : Nat} {A : Around} {x : FV} {v : Value} {t : Nat} {Q : Int → Shared → Prop}, A.units + n < cLine → hkT n x = true → VRel ⟨s.heap, ρ⟩ x v → Q (hashFV w x) { s with toks := t + drawsF x } →
    wpAny (model prog w) A (pyHash v) Q E { s with toks := t } := by
  intro n
  induction n with
  | zero =>
    intro A x v t Q hu hx
    exact hkE hx (fun i r h => r.intE fun _ => (intKind prog w).pyHash (intKind_is prog w i _) h) (fun i r h => r.strE fun _ => (strKind prog w).pyHash (strKind_is prog w i _) h) fun _ _ e => nomatch e
  | succ n ih =>
    intro A x v t Q hu hx
    refine hkE hx (fun i r h => r.intE fun _ => (intKind prog w).pyHash (intKind_is prog w i _) h) (fun i r h => r.strE fun _ => (strKind prog w).pyHash (strKind_is prog w i _) h) fun m xs hm hx r hq => r.tupE fun a k vs g q => ?_
    cases hm
    have hT : Shared.TypeIs { s with toks := t } (.ref a) "tuple" := ⟨_, g, rfl⟩
    unfold pyHash
    refine wpAny_bind (wpAny_cRoomFor_or (.inr (Nat.lt_of_le_of_lt (Nat.le_add_right _ _) hu)) ?_)
    refine wpAny_bind (wpAny_specialOf hT F.slot_tuple_hash.lookup ?_)
    show wpAny _ _ (if (some (Value.builtin "tuple.__hash__") == some Value.none) = true then _ else _) Q E _
    rw [if_neg (by rw [beq_builtin_none]; exact Bool.false_ne_true)]
    refine wpAny_bind (wpAny_specialOf hT F.slot_tuple_hash.lookup ?_)
    show wpAny _ _ (callSpecialIfBoundUnlessNone? (.ref a) "__hash__" _ >>= _) Q E _
    refine wpAny_bind (wpAny_callSpecialIfBoundUnlessNone?_slot hT F.slot_tuple_hash (wpAny_call_entry F.slot_tuple_hash hT F.entry_tuple_hash ?_ (F.args_tuple_hash_1 _)))
    show wpAny _ _ (Builtin.Tuple.tupleItemsOf (.ref a) >>= _) _ _ _
    refine wpAny_bind (wpAny_tupleItemsOf g rfl ?_)
    refine wpAny_bind ?_
    rw [← Array.forIn_toList]
    refine wpAny_forIn_list _ (fun rest (b : Array Int) s' => ∃ left u, F2 (VRel ⟨s.heap, ρ⟩) left rest ∧ hkL n left = true ∧ b.toList ++ hashFVs w left = hashFVs w xs ∧ s' = { s with toks := u } ∧ u + drawsL left = t + drawsL xs) _ ?_ ?_ _ _ ⟨xs, t, by simpa using q, hx, rfl, rfl, rfl⟩
    · rintro y rest b _ ⟨left, u, hl, hk, hb, rfl, hu2⟩
      cases left with
      | nil => cases hl
      | cons k left =>
        cases hl with
        | cons h1 hl =>
          refine wpAny_bind (ih (A := A.in1) (Nat.lt_of_le_of_lt (Nat.le_of_eq (Nat.add_right_comm _ _ _)) hu) (and2 hk).1 h1 ?_)
          exact wpAny_pure ⟨left, _, hl, (and2 hk).2, by rw [Array.toList_push, List.append_assoc]; exact hb, rfl, by rw [Nat.add_assoc]; exact hu2⟩
    · rintro b _ ⟨left, u, hl, _, hb, rfl, hu2⟩
      cases hl
      have hb : b.toList = hashFVs w xs := (List.append_nil _).symm.trans hb
      have hu2 : u = t + drawsL xs := hu2
      subst hu2
      show wpAny _ _ (retInt (Builtin.Tuple.tupleHashOf b.toList)) _ _ _
      rw [hb]
      refine wpAny_ret_mkInt ?_
      have hq : Q (reduceHash (Builtin.Tuple.tupleHashOf (hashFVs w xs))) { s with toks := t + drawsL xs + 1 } := hq
      generalize Builtin.Tuple.tupleHashOf (hashFVs w xs) = i at hq ⊢
      show wpAny _ _ (if (decide (-(2 : Int) ^ 63 ≤ i) && decide (i < 2 ^ 63)) = true then _ else _) Q E _
      unfold reduceHash at hq
      by_cases hr : (decide (-(2 : Int) ^ 63 ≤ i) && decide (i < 2 ^ 63)) = true
      · rw [if_pos hr] at hq ⊢
        exact wpAny_pure hq
      · rw [if_neg hr] at hq ⊢
        exact wpAny_bind (wpAny_rule (wpAny_pure hq))

theorem quiet_data : ∀ {n : Nat} {x : FV} {v : Value} {Q : Bool → Shared → Prop}, hkT n x = true → VRel ⟨s.heap, ρ⟩ x v → Q true s → wpAny (model prog w) A (eqIsQuiet (n + 1) v) Q E s := by
  intro n
  induction n with
  | zero =>
    intro x v Q hx
    exact hkE hx (fun i r h => r.intE fun _ => wpAny_pure h) (fun i r h => r.strE fun _ => wpAny_pure h) fun _ _ e => nomatch e
  | succ n ih =>
    intro x v Q hx
    refine hkE hx (fun i r h => r.intE fun _ => wpAny_pure h) (fun i r h => r.strE fun _ => wpAny_pure h) fun m xs hm hx r hq => r.tupE fun a k vs g q => ?_
    cases hm
    unfold eqIsQuiet
    refine wpAny_bind (wpAny_specialOf (tupIs g) F.slot_tuple_eq.lookup ?_)
    show wpAny _ _ (isInstance (.ref a) (.type "tuple") >>= _) _ _ s
    refine wpAny_bind (wpAny_isInstance (tupIs g) isSubtype_tuple_tuple ?_)
    simp only [Bool.not_true, Bool.false_eq_true, if_false]
    refine wpAny_bind (wpAny_seqItems g rfl ?_)
    refine wpAny_bind ?_
    show wpAny _ _ (forIn vs.toArray _ _) _ _ s
    rw [← Array.forIn_toList]
    refine wpAny_forIn_list _ (fun rest r s' => r.1 = none ∧ s' = s ∧ ∃ left, hkL n left = true ∧ F2 (VRel ⟨s.heap, ρ⟩) left rest) _ ?_ ?_ _ _ ⟨rfl, rfl, xs, hx, by simpa using q⟩
    · rintro v rest r _ ⟨hr, rfl, left, hl, hall⟩
      cases left with
      | nil => cases hall
      | cons k left =>
        cases hall with
        | cons h1 hall =>
          refine wpAny_bind (ih (and2 hl).1 h1 ?_)
          simp only [Bool.not_true, Bool.false_eq_true, if_false]
          exact wpAny_pure ⟨rfl, rfl, _, (and2 hl).2, hall⟩
    · rintro ⟨r1, r2⟩ _ ⟨hr, rfl, _⟩
      cases hr
      exact wpAny_pure hq
end
noncomputable def keyV : Value → Option FV
  | .int i _ => some (.int i)
  | .str s _ => some (.str s)
  | _ => none
@[elab_as_elim] theorem keyVE {P : Value → FV → Prop} {v : Value} {k : FV} (h : keyV v = some k) (hi : ∀ i t, P (.int i t) (.int i)) (hs : ∀ s t, P (.str s t) (.str s)) : P v k := by
  cases v with
  | int i t => cases h; exact hi i t
  | str s t => cases h; exact hs s t
  | _ => cases h
/-- keys that are ints or strs -/
noncomputable def fvKind (prog : Program) (w : World) : KeyKind prog w FV where
  is := fun k v => decide (keyV v = some k)
  hash := hashFV w
  inj := fun v a b h1 h2 => Option.some.inj ((of_decide_eq_true h1).symm.trans (of_decide_eq_true h2))
  byValue := fun k v h => keyVE (of_decide_eq_true h) (fun _ _ => rfl) fun _ _ => rfl
  pyHash := fun {_ _ _ _ _ Q} h => keyVE (P := fun v k => Q (hashFV w k) _ → wpAny _ _ (PySem.pyHash v) Q _ _) (of_decide_eq_true h) (fun i _ => (intKind prog w).pyHash (intKind_is prog w i _)) fun i _ => (strKind prog w).pyHash (strKind_is prog w i _)
  eqBool := fun {A E s a b u v Q} h1 h2 h => by
    have e : decide (a = b) = eqF a b := by
      by_cases e : a = b
      · subst e; rw [keyVE (P := fun _ a => eqF a a = true) (of_decide_eq_true h1) (fun i _ => eqF_refl 0 (.int i) rfl) fun i _ => eqF_refl 0 (.str i) rfl]; exact decide_eq_true rfl
      · rw [eqF_ff e]; exact decide_eq_false e
    rw [e] at h
    revert h
    exact keyVE (P := fun u a => Q (eqF a b) s → wpAny _ _ (PySem.eqBool u v) Q E s) (of_decide_eq_true h1)
      (fun i t => keyVE (P := fun v b => Q (eqF (.int i) b) s → wpAny _ _ (PySem.eqBool _ v) Q E s) (of_decide_eq_true h2) (fun j u h => EqAt.int_int _ _ _ _ _ _ _ _ h) fun j u h => EqAt.int_str _ _ _ _ _ _ _ _ h)
      (fun i t => keyVE (P := fun v b => Q (eqF (.str i) b) s → wpAny _ _ (PySem.eqBool _ v) Q E s) (of_decide_eq_true h2) (fun j u h => EqAt.str_int _ _ _ _ _ _ _ _ h) fun j u h => EqAt.str_str _ _ _ _ _ _ _ _ h)
  «strs» := fun k x t v h => by
    cases (of_decide_eq_true h : keyV (.str x t) = some k)
    cases v with
    | str y u =>
      by_cases e : y = x
      · subst e; exact (decide_eq_true rfl).trans (beq_self_eq_true y).symm
      · exact (decide_eq_false fun h => by cases h; exact e rfl).trans (beq_eq_false_iff_ne.mpr e).symm
    | _ => exact decide_eq_false fun h => nomatch h
/-- keys that are tuples of data -/
noncomputable def dataKind (prog : Program) (w : World) (ρ : Rho) : HeapKind prog w FV where
  is := fun h k a => hkT 7 k = true ∧ keyK k = 3 ∧ VRel ⟨h, ρ⟩ k (.ref a)
  hash := hashFV w
  draws := drawsF
  room := fun A => A.units + 8 < cLine
  inj := fun hx hy => VRel.det hx.1 hy.1 hx.2.2 hy.2.2
  keeps := fun {h h' _ _ _ _ _ _} hx ho hd hs => ⟨hx.1, hx.2.1, VRel.up (p := ⟨h, ρ⟩) (p' := ⟨h', ρ⟩) (Up.mk (Imm.but (fun a o h1 h2 => (hs.2 a h1).trans h2) ho (by unfold fixd; rw [hd])) fun _ _ e => e) hx.2.2⟩
  pyHash := fun {_ _ s _ _ _} hu hx h => pyHash_data (s := s) (t := s.toks) (Nat.lt_trans (Nat.lt_succ_self _) hu) hx.1 hx.2.2 h
  eqBool := fun {A E s x y a b Q} hu hx hy h => (cmpAt (Nat.lt_trans (Nat.lt_succ_self _) hu) hx.1 hy.1 hx.2.2 hy.2.2).eq prog w E Q (by
    by_cases e : x = y
    · subst e; rw [eqF_refl 7 _ hx.1]; rw [decide_eq_true rfl] at h; exact h
    · rw [eqF_ff e]; rw [decide_eq_false e] at h; exact h)
  quiet := fun hx h => quiet_data (n := 7) hx.1 hx.2.2 h
noncomputable abbrev KV (p : Pt) (k : FV × FV) (v : FV × Value) : Prop := k.1 = v.1 ∧ VRel p k.2 v.2
noncomputable abbrev KT (p : Pt) (k : FV × FV) (v : FV × Addr × Value) : Prop := k.1 = v.1 ∧ VRel p k.2 v.2.2
noncomputable abbrev D.fk (d : D) := fvKind d.prog d.w
noncomputable abbrev D.tk (d : D) (p : Pt) := dataKind d.prog d.w p.ρ
noncomputable def MRel (d : D) (p : Pt) (a : Addr) : MO → Prop
  | .lst xs => ∃ vs n, p.h.get? a = some (lstObj vs n) ∧ F2 (VRel p) xs vs
  | .dct kvs => (∃ vs, p.h.DictOf d.fk a vs ∧ F2 (KV p) kvs vs) ∨ ∃ vs, p.h.DictOfH (d.tk p) a vs ∧ F2 (KT p) kvs vs
  | .ins C c => ∃ b, p.ρ[c]? = some b ∧ p.h.get? a = some (insObj C b)
  | .att kvs => ∃ es n, p.h.get? a = some (dctObj es n) ∧ F2 (AR d.w p) kvs es
theorem MRel.up {d : D} {p p' : Pt} {a : Addr} (u : Up p p') (k : ∀ o, p.h.get? a = some o → p'.h.get? a = some o) {o : MO} (m : MRel d p a o) : MRel d p' a o := by
  cases o with
  | lst _ => exact m.imp fun vs => Exists.imp fun n => And.imp (k _) u.vs
  | dct _ =>
    refine m.imp (Exists.imp fun vs => And.imp ?_ fun q => q.mono fun _ _ r => ⟨r.1, r.2.up u⟩) (Exists.imp fun vs => And.imp ?_ fun q => q.mono fun _ _ r => ⟨r.1, r.2.up u⟩)
    · exact Exists.imp fun o => Exists.imp fun es => Exists.imp fun ep => And.imp (k _) id
    · exact Exists.imp fun o => Exists.imp fun es => Exists.imp fun ep => And.imp (k _) (And.imp id (And.imp id (And.imp id (And.imp (fun f x hx => ⟨(f x hx).1, (f x hx).2.1, (f x hx).2.2.up u⟩) id))))
  | ins _ _ => exact m.imp fun b => And.imp (u.pre _ _) (k _)
  | att _ => exact m.imp fun es => Exists.imp fun n => And.imp (k _) fun q => q.mono fun _ _ r => r.up u
/-- what stands for a list, a dict or a made object is none of what never turns -/
theorem fix_dict {o : Obj} {es ep} (h : o.data = .dict es ep) : fixd o = false := by unfold fixd; rw [h]
theorem MRel.obj {d : D} {p : Pt} {a : Addr} {o : MO} (m : MRel d p a o) : ∃ ob, p.h.get? a = some ob ∧ fixd ob = false := by
  cases o with
  | lst _ => exact m.elim fun vs m => m.elim fun n m => ⟨_, m.1, rfl⟩
  | dct _ => exact m.elim (fun m => m.elim fun _ m => m.1.imp fun o m => m.elim fun _ m => m.elim fun _ m => ⟨m.1, fix_dict m.2.2.1⟩) fun m => m.elim fun _ m => m.1.imp fun o m => m.elim fun _ m => m.elim fun _ m => ⟨m.1, fix_dict m.2.2.1⟩
  | ins _ _ => exact m.elim fun b m => ⟨_, m.2, rfl⟩
  | att _ => exact m.elim fun vs m => m.elim fun n m => ⟨_, m.1, rfl⟩

/-- room for calls n deep -/
structure Room (n : Nat) (A : Around) : Prop where
  h : A.handled = none
  u : A.units + 10 * n + 20 < cLine
  d : A.depth + 3 * n + 3 < recursionLimit
structure Good (d : D) : Prop where
  k0 : MRel d ⟨d.s.heap, [d.k, d.l]⟩ d.k (.dct d.kf)
  l0 : MRel d ⟨d.s.heap, [d.k, d.l]⟩ d.l (.lst d.xs)
  kl : d.k ≠ d.l
  ks : d.k ≠ sysModules
  ls : d.l ≠ sysModules
  sys : ∃ o, d.s.heap.get? sysModules = some o
  lim : d.s.heap.NoLimit
  inn : d.K.In d.s.heap
  own : ∀ C a, d.X.own C a = true → ownOk d.K C a = true
  meth : ∀ C a f, d.X.meth C a = some f → methOk d.K C a f = true
  fn : ∀ a st ds, d.X.fn a = some (st, ds) → keepIn d.K (.ref a) = true ∧ ∃ o fd ps df body, FnAt d a st ds o fd ps df body
  cls : ∀ a, d.X.cls a = true → keepIn d.K (.ref a) = true ∧ makesIn d.K a = true ∧ (d.X.meth a "__init__" = none → findIn d.K (.ref a) "__init__" = some (some (.builtin "object.__init__")))
  glob : ∃ mg mb, GlobOk d mg mb
/-- the call, from where it begins -/
noncomputable def Final (d : D) : Prop := ∀ (n : Nat) (A : Around) (f : Addr) (R : Result → Shared → Prop), Room n A → run d.X n (.st (.ref f)) [.ref 1] (fun v _ => v = .bool true) [.dct d.kf, .lst d.xs] →
  (∀ s', (∀ a o, d.s.heap.get? a = some o → s'.heap.get? a = some o) → (∃ h t, s' = { d.s with heap := h, toks := t }) → R (.ok (.ret (.bool true))) s') → codeAny (model d.prog d.w) A (.call (.ref f) ⟨[.ref d.l], []⟩) R d.s
noncomputable def d0 : D := pick fun d => ¬ (Good d → Final d)
theorem all_of (h : Good d0 → Final d0) (d : D) (g : Good d) : Final d := Classical.byContradiction fun n => pick_spec (P := fun d => ¬ (Good d → Final d)) (fun q => n (q g)) h

noncomputable abbrev Free (h : Heap) (a : Addr) : Prop := h.get? a = none
noncomputable abbrev Live (h : Heap) (a : Addr) : Prop := ∃ o, h.get? a = some o
theorem Live.no {h : Heap} {a : Addr} {G : Prop} (x : Live h a) (y : Free h a) : G := x.elim fun _ e => nomatch e.symm.trans y
structure St (s : Shared) (ρ : Rho) (σ : Store) : Prop where
  good : Good d0
  len : ρ.length = σ.length
  nd : ρ.Nodup
  at_ : ∀ (l : Nat) a o, ρ[l]? = some a → σ[l]? = some o → MRel d0 ⟨s.heap, ρ⟩ a o
  keep : ∀ a o, d0.s.heap.get? a = some o → s.heap.get? a = some o
  new : ∀ a ∈ ρ.drop 2, Free d0.s.heap a
  zero : ρ[0]? = some d0.k
  one : ρ[1]? = some d0.l
  same : ∃ h t, s = { d0.s with heap := h, toks := t }
structure Z where
  s : Shared
  ρ : Rho
  σ : Store
  st : St s ρ σ
noncomputable abbrev Z.p (z : Z) : Pt := ⟨z.s.heap, z.ρ⟩
noncomputable abbrev Z.sz (z : Z) : Nat := z.s.heap.objs.size
noncomputable abbrev V (z : Z) : FV → Value → Prop := VRel z.p
noncomputable abbrev Vs (z : Z) : List FV → List Value → Prop := F2 (VRel z.p)
structure Nx (F : List Addr) (z z' : Z) : Prop where
  pre : ∃ r, z'.ρ = z.ρ ++ r ∧ ∀ a ∈ r, Free z.s.heap a
  imm : Imm z.s.heap z'.s.heap
  ext : ∀ a o, a ∉ z.ρ.drop 2 → a ∉ F → z.s.heap.get? a = some o → z'.s.heap.get? a = some o
  live : ∀ a, Live z.s.heap a → Live z'.s.heap a

theorem drop_app {ρ r : Rho} {a : Addr} (h : a ∈ (ρ ++ r).drop 2) (z : 2 ≤ ρ.length) : a ∈ ρ.drop 2 ∨ a ∈ r := by
  rw [List.drop_append_of_le_length z] at h; exact List.mem_append.mp h
theorem Z.two (z : Z) : 2 ≤ z.ρ.length := (List.getElem?_eq_some_iff.mp z.st.one).1
theorem Z.get (z : Z) {l : Nat} {a : Addr} (e : z.ρ[l]? = some a) : ∃ o, z.σ[l]? = some o ∧ MRel d0 z.p a o :=
  have h := List.getElem?_eq_getElem (l := z.σ) (i := l) (z.st.len ▸ (List.getElem?_eq_some_iff.mp e).1)
  ⟨_, h, z.st.at_ l a _ e h⟩
theorem Z.obj (z : Z) {a : Addr} (h : a ∈ z.ρ) : ∃ ob, z.s.heap.get? a = some ob ∧ fixd ob = false :=
  let ⟨l, e⟩ := List.getElem?_of_mem h
  let ⟨_, _, m⟩ := z.get e
  m.obj
theorem Z.live (z : Z) {a : Addr} (h : a ∈ z.ρ) : Live z.s.heap a := (z.obj h).imp fun _ => And.left
theorem Z.out (z : Z) {a : Addr} (h : Free z.s.heap a) : a ∉ z.ρ := fun q => (z.live q).no h
theorem Z.base (z : Z) {a : Addr} (h : Free z.s.heap a) : Free d0.s.heap a := by
  cases e : d0.s.heap.get? a with
  | none => exact e
  | some o => exact nomatch (z.st.keep a o e).symm.trans h
theorem mem_drop2 {ρ : Rho} {l : Nat} {a : Addr} (h : 2 ≤ l) (e : ρ[l]? = some a) : a ∈ ρ.drop 2 := by
  refine List.mem_of_getElem? (i := l - 2) ?_
  rw [List.getElem?_drop, Nat.add_sub_of_le h]; exact e
theorem free_size (h : Heap) : h.get? h.objs.size = none := by
  cases e : h.get? h.objs.size with
  | none => rfl
  | some o => exact absurd (Heap.lt_size e) (Nat.lt_irrefl _)

/-- an object that is no label's is turned, or made, or gone -/
noncomputable def Z.off (z : Z) (a : Addr) (h : Heap) (t : Nat) (ha : a ∉ z.ρ) (h0 : Free d0.s.heap a) (hs : ∀ c o, c ≠ a → z.s.heap.get? c = some o → h.get? c = some o) (im : Imm z.s.heap h) : Z :=
  ⟨{ z.s with heap := h, toks := t }, z.ρ, z.σ, z.st.good, z.st.len, z.st.nd, fun l c o e1 e2 => MRel.up (p := z.p) (p' := ⟨h, z.ρ⟩) ⟨im, fun _ _ e => e⟩ (fun ob e => hs c ob (fun q => ha (q ▸ List.mem_of_getElem? e1)) e) (z.st.at_ l c o e1 e2),
    fun c o e => hs c o (fun q => nomatch (q ▸ e : d0.s.heap.get? a = some o).symm.trans h0) (z.st.keep c o e), z.st.new, z.st.zero, z.st.one, let ⟨_, _, e⟩ := z.st.same; ⟨h, t, congrArg (fun s : Shared => { s with heap := h, toks := t }) e⟩⟩
theorem Nx.off {z : Z} {a : Addr} {h : Heap} {t : Nat} {ha h0 hs im} {F : List Addr} (f : (a ∈ F ∧ Live h a) ∨ Free z.s.heap a) : Nx F z (z.off a h t ha h0 hs im) :=
  ⟨⟨[], (List.append_nil _).symm, fun _ h => nomatch h⟩, im, fun c o _ h2 e => hs c o (fun q => f.elim (fun f => h2 (q ▸ f.1)) fun f => nomatch f.symm.trans (q ▸ e : z.s.heap.get? a = some o)) e,
    fun c x => (Classical.em (c = a)).elim (fun q => f.elim (fun f => q ▸ f.2) fun f => (q ▸ x : Live z.s.heap a).no f) fun q => x.imp fun o e => hs c o q e⟩
/-- the heap grows -/
noncomputable def Z.to (z : Z) (h : Heap) (t : Nat) (k : ∀ a o, z.s.heap.get? a = some o → h.get? a = some o) : Z := z.off z.sz h t (z.out (free_size _)) (z.base (free_size _)) (fun c o _ => k c o) (fun a o _ => k a o)
theorem Nx.to {z : Z} {h : Heap} {t : Nat} {k} {F : List Addr} : Nx F z (z.to h t k) := Nx.off (.inr (free_size _))
noncomputable def Z.tok (z : Z) (t : Nat) : Z := z.to z.s.heap t (fun _ _ e => e)
theorem app_at {α : Type} {l : List α} {x y : α} {i : Nat} (h : (l ++ [x])[i]? = some y) : (i < l.length ∧ l[i]? = some y) ∨ (i = l.length ∧ x = y) := by
  by_cases q : i < l.length
  · exact .inl ⟨q, (List.getElem?_append_left q).symm.trans h⟩
  · have q := Nat.le_of_not_lt q
    rw [List.getElem?_append_right q, List.getElem?_singleton] at h
    by_cases e : i - l.length = 0
    · rw [if_pos e] at h; exact .inr ⟨Nat.le_antisymm (Nat.sub_eq_zero_iff_le.mp e) q, Option.some.inj h⟩
    · rw [if_neg e] at h; cases h
theorem at_end {α : Type} (l : List α) (x : α) : (l ++ [x])[l.length]? = some x := by rw [List.getElem?_append_right (Nat.le_refl _), Nat.sub_self]; rfl
theorem Up.more {h : Heap} {ρ : Rho} (r : Rho) : Up ⟨h, ρ⟩ ⟨h, ρ ++ r⟩ := ⟨fun _ _ _ e => e, fun _ _ e => (List.getElem?_append_left (List.getElem?_eq_some_iff.mp e).1).trans e⟩
/-- an object that stands in the heap is taken up -/
noncomputable def Z.reg (z : Z) (a : Addr) (o : MO) (ha : a ∉ z.ρ) (h0 : Free d0.s.heap a) (m : MRel d0 ⟨z.s.heap, z.ρ ++ [a]⟩ a o) : Z :=
  ⟨z.s, z.ρ ++ [a], z.σ ++ [o], z.st.good, by rw [List.length_append, List.length_append, z.st.len]; rfl, List.nodup_append.mpr ⟨z.st.nd, List.nodup_cons.mpr ⟨List.not_mem_nil, List.nodup_nil⟩, fun x hx y hy q => ha (List.mem_singleton.mp hy ▸ q ▸ hx)⟩,
    fun l c o' e1 e2 => (app_at e1).elim (fun h => (app_at e2).elim (fun g => MRel.up (.more _) (fun _ e => e) (z.st.at_ l c o' h.2 g.2)) fun g => absurd g.1 (Nat.ne_of_lt (z.st.len ▸ h.1))) fun h => (app_at e2).elim (fun g => absurd h.1 (Nat.ne_of_lt (z.st.len ▸ g.1))) fun g => h.2 ▸ g.2 ▸ m,
    z.st.keep, fun c hc => (drop_app hc z.two).elim (z.st.new c) fun h => List.mem_singleton.mp h ▸ h0, (Up.more (h := z.s.heap) _).pre _ _ z.st.zero, (Up.more (h := z.s.heap) _).pre _ _ z.st.one, z.st.same⟩
theorem Nx.reg {z₀ z : Z} {a : Addr} {o : MO} {ha h0 m} {F : List Addr} (n : Nx F z₀ z) (h : Free z₀.s.heap a) : Nx F z₀ (z.reg a o ha h0 m) :=
  let ⟨r, e, k⟩ := n.pre
  ⟨⟨r ++ [a], by show z.ρ ++ [a] = _; rw [e, List.append_assoc], fun c hc => (List.mem_append.mp hc).elim (k c) fun h' => List.mem_singleton.mp h' ▸ h⟩, n.imm, n.ext, n.live⟩
/-- a label's object is turned -/
noncomputable def Z.put (z : Z) (l : Nat) (a : Addr) (h : Heap) (t : Nat) (o : MO) (hl : 2 ≤ l) (e : z.ρ[l]? = some a) (hs : Heap.SameBut a z.s.heap h) (im : Imm z.s.heap h) (m : MRel d0 ⟨h, z.ρ⟩ a o) : Z :=
  ⟨{ z.s with heap := h, toks := t }, z.ρ, z.σ.set l o, z.st.good, by rw [List.length_set]; exact z.st.len, z.st.nd, fun k c o' e1 e2 => by
      by_cases q : l = k
      · subst q
        cases e.symm.trans e1
        rw [List.getElem?_set_self (z.st.len ▸ (List.getElem?_eq_some_iff.mp e).1)] at e2
        cases e2; exact m
      · rw [List.getElem?_set_ne q] at e2
        exact MRel.up (p := z.p) (p' := ⟨h, z.ρ⟩) ⟨im, fun _ _ e => e⟩ (fun ob g => (hs.2 c fun r => q ((List.getElem?_inj (List.getElem?_eq_some_iff.mp e).1 z.st.nd).mp (e.trans (r ▸ e1.symm)))).trans g) (z.st.at_ k c o' e1 e2),
    fun c o' g => (hs.2 c fun q => nomatch (q ▸ g : d0.s.heap.get? a = some o').symm.trans (z.st.new a (mem_drop2 hl e))).trans (z.st.keep c o' g), z.st.new, z.st.zero, z.st.one, let ⟨_, _, e⟩ := z.st.same; ⟨h, t, congrArg (fun s : Shared => { s with heap := h, toks := t }) e⟩⟩
theorem Nx.put {z : Z} {l : Nat} {a : Addr} {h : Heap} {t : Nat} {o : MO} {hl e hs im m} {F : List Addr} : Nx F z (z.put l a h t o hl e hs im m) :=
  ⟨⟨[], (List.append_nil _).symm, fun _ h => nomatch h⟩, im, fun c o g _ f => (hs.2 c fun q => g (q ▸ mem_drop2 hl e)).trans f,
    fun c x => (Classical.em (c = a)).elim (fun q => q ▸ (m.obj.imp fun _ => And.left : Live h a)) fun q => x.imp fun o e => (hs.2 c q).trans e⟩
theorem Z.imm (z : Z) {a : Addr} {h : Heap} (ha : a ∈ z.ρ) (hs : Heap.SameBut a z.s.heap h) : Imm z.s.heap h := let ⟨_, e, f⟩ := z.obj ha; .but (fun c o h1 h2 => (hs.2 c h1).trans h2) e f

section
variable {z z₁ z₂ : Z} {F G : List Addr}
theorem Nx.refl : Nx F z z := ⟨⟨[], (List.append_nil _).symm, fun _ h => nomatch h⟩, fun _ _ _ e => e, fun _ _ _ _ e => e, fun _ x => x⟩
theorem Nx.up (n : Nx F z z₁) : Up z.p z₁.p := ⟨n.imm, fun l a e => let ⟨r, q, _⟩ := n.pre; by show z₁.ρ[l]? = _; rw [q]; exact (Up.more (h := z.s.heap) r).pre l a e⟩
theorem Nx.v (n : Nx F z z₁) {d : FV} {v : Value} (r : V z d v) : V z₁ d v := r.up n.up
theorem Nx.vs (n : Nx F z z₁) {d : List FV} {v : List Value} (r : Vs z d v) : Vs z₁ d v := n.up.vs r
/-- what was no label's is none -/
theorem Nx.not (n : Nx F z z₁) {a : Addr} (h : Live z.s.heap a) (q : a ∉ z.ρ) : a ∉ z₁.ρ := fun m => by
  obtain ⟨r, e, k⟩ := n.pre
  rw [e] at m
  exact (List.mem_append.mp m).elim q fun m => h.no (k a m)
theorem Nx.not2 (n : Nx F z z₁) {a : Addr} (h : Live z.s.heap a) (q : a ∉ z.ρ.drop 2) : a ∉ z₁.ρ.drop 2 := fun m => by
  obtain ⟨r, e, k⟩ := n.pre
  rw [e] at m
  exact (drop_app m z.two).elim q fun m => h.no (k a m)
theorem Nx.trans (x : Nx F z z₁) (y : Nx F z₁ z₂) : Nx F z z₂ :=
  ⟨let ⟨r, e, k⟩ := x.pre; let ⟨r', e', k'⟩ := y.pre; ⟨r ++ r', by rw [e', e, List.append_assoc], fun a h => (List.mem_append.mp h).elim (k a) fun h => Classical.byContradiction fun q => (x.live a (Option.ne_none_iff_exists'.mp q)).no (k' a h)⟩,
    fun a o f e => y.imm a o f (x.imm a o f e), fun a o h1 h2 e => y.ext a o (x.not2 ⟨_, e⟩ h1) h2 (x.ext a o h1 h2 e), fun a l => y.live a (x.live a l)⟩
theorem Nx.sub (n : Nx F z z₁) (h : ∀ a o, a ∈ F → z.s.heap.get? a = some o → a ∈ G) : Nx G z z₁ := ⟨n.pre, n.imm, fun a o h1 h2 e => n.ext a o h1 (fun m => h2 (h a o m e)) e, n.live⟩
theorem Nx.wide (n : Nx [] z z₁) : Nx G z z₁ := n.sub fun _ _ h => nomatch h
theorem Z.sys (z : Z) {a : Addr} (h : a ∈ z.ρ) : (a == sysModules) = false := beq_eq_false_iff_ne.mpr fun q => by
  obtain ⟨l, e⟩ := List.getElem?_of_mem h
  match l, e with
  | 0, e => exact z.st.good.ks ((Option.some.inj (z.st.zero.symm.trans e)).trans q)
  | 1, e => exact z.st.good.ls ((Option.some.inj (z.st.one.symm.trans e)).trans q)
  | l + 2, e => exact (q ▸ z.st.good.sys : Live _ a).no (z.st.new a (mem_drop2 (Nat.le_add_left _ _) e))
end
noncomputable abbrev noE : Value → Shared → Prop := fun _ _ => False
noncomputable abbrev W {α : Type} (A : Around) (t : Sem α) (P : α → Shared → Prop) (s : Shared) : Prop := wpAny (model d0.prog d0.w) A t P noE s
/-- what goes on behind an evaluation -/
noncomputable abbrev KP {α β : Type} (R : Z → β → α → Prop) (z : Z) (Q : β → Store → Prop) (P : α → Shared → Prop) : Prop := ∀ (z' : Z) (y : β) (v : α), Nx [] z z' → R z' y v → Q y z'.σ → P v z'.s
noncomputable abbrev IsB (_ : Z) (b : Bool) (v : Value) : Prop := v = .bool b
noncomputable abbrev IsBB (_ : Z) (b v : Bool) : Prop := v = b
theorem line_of {n : Nat} (h : n ≤ 1000000) : n ≤ sizeLine := Nat.le_trans h (by rw [sizeLine_eq]; decide)
theorem small63 {n : Nat} (h : n ≤ 1000000) : (n : Int) < 2 ^ 63 := Int.lt_of_le_of_lt (Int.ofNat_le.mpr h) (by decide)
theorem push_keep {h : Heap} {o : Obj} (a : Addr) (ob : Obj) (e : h.get? a = some ob) : (h.push o).get? a = some ob := Heap.get?_push_of_some _ e
theorem SomeP.ite {α : Type} {c : Prop} [i : Decidable c] {a : α} {P : α → Prop} (h : SomeP (if c then some a else none) P) : c ∧ P a := by
  by_cases e : c
  · rw [if_pos e] at h; exact ⟨e, h⟩
  · rw [if_neg e] at h; exact h.elim
section
variable {A : Around} {z : Z} {σ : Store}
/-- a new object that is a label's -/
noncomputable def Z.new (z : Z) (ob : Obj) (t : Nat) (o : MO) (m : MRel d0 ⟨z.s.heap.push ob, z.ρ ++ [z.sz]⟩ z.sz o) : Z := (z.to (z.s.heap.push ob) t push_keep).reg z.sz o (z.out (free_size _)) (z.base (free_size _)) m
theorem Nx.new {ob : Obj} {t : Nat} {o : MO} {m} {F : List Addr} : Nx F z (z.new ob t o m) := Nx.reg Nx.to (free_size _)
theorem Z.new_ref {ob : Obj} {t : Nat} {o : MO} {m} : V (z.new ob t o m) (.ref z.σ.length) (.ref z.sz) := .ref (z.st.len ▸ at_end _ _)
theorem Z.up_new {ob : Obj} : Up z.p ⟨z.s.heap.push ob, z.ρ ++ [z.sz]⟩ := ⟨fun a o _ e => push_keep a o e, (Up.more (h := z.s.heap) _).pre⟩
theorem new_lst {arr : Array Value} {xs : List FV} {t : Nat} {Q : FV → Store → Prop} {P : Value → Shared → Prop} (r : Vs z xs arr.toList) (h : newM (.lst xs) Q z.σ) (k : KP V z Q P) : P (.ref z.sz) { z.s with heap := z.s.heap.push { cls := .type "list", data := .seq arr }, toks := t } :=
  k (z.new { cls := .type "list", data := .seq arr } t (.lst xs) ⟨arr.toList, 0, Heap.get?_push_size _ rfl, Z.up_new.vs r⟩) _ _ .new Z.new_ref h
theorem new_tup {arr : Array Value} {xs : List FV} {t : Nat} {Q : FV → Store → Prop} {P : Value → Shared → Prop} (r : Vs z xs arr.toList) (h : Q (.tup xs) z.σ) (k : KP V z Q P) : P (.ref z.sz) { z.s with heap := z.s.heap.push { cls := .type "tuple", data := .seq arr }, toks := t } :=
  k (z.to (z.s.heap.push { cls := .type "tuple", data := .seq arr }) t push_keep) _ _ .to (.tup (vs := arr.toList) (n := 0) (Heap.get?_push_size _ rfl) ((Nx.to (k := push_keep) (t := t) (F := [])).vs r)) h
theorem KP.now {α β : Type} {R : Z → β → α → Prop} {Q : β → Store → Prop} {P : α → Shared → Prop} {y : β} {v : α} (k : KP R z Q P) (r : R z y v) (h : Q y z.σ) : P v z.s := k z y v .refl r h
theorem KP.tok {β : Type} {R : Z → β → Value → Prop} {Q : β → Store → Prop} {P : Value → Shared → Prop} {y : β} {v : Value} (k : KP R z Q P) (t : Nat) (r : R (z.tok t) y v) (h : Q y z.σ) : P v { z.s with toks := t } := k (z.tok t) y v .to r h
theorem KP.tokB {Q : Bool → Store → Prop} {P : Bool → Shared → Prop} {y v : Bool} (k : KP IsBB z Q P) (t : Nat) (r : v = y) (h : Q y z.σ) : P v { z.s with toks := t } := k (z.tok t) y v .to r h
theorem KP.then {α β : Type} {R : Z → β → α → Prop} {Q : β → Store → Prop} {P : α → Shared → Prop} {z' : Z} (k : KP R z Q P) (N : Nx [] z z') : KP R z' Q P := fun z'' y v N' r h => k z'' y v (N.trans N') r h
/-- where a label's object lies -/
theorem lookE {α : Type} {l : Nat} {a : Addr} {f : MO → M α} {Q : α → Store → Prop} {G : Prop} (e : z.ρ[l]? = some a) (h : look l f Q z.σ) (k : ∀ o, MRel d0 z.p a o → f o Q z.σ → G) : G :=
  SomeP.on h fun o e' h => k o (z.st.at_ l a o e e') h
theorem lookL {α : Type} {l : Nat} {a : Addr} {f : List FV → M α} {Q : α → Store → Prop} {G : Prop} (e : z.ρ[l]? = some a) (h : look l (lstK f) Q z.σ) (k : ∀ xs vs n, z.s.heap.get? a = some (lstObj vs n) → Vs z xs vs → f xs Q z.σ → G) : G :=
  lookE e h fun o m h => by
    cases o with
    | lst xs => exact m.elim fun vs m => m.elim fun n m => k xs vs n m.1 m.2 h
    | _ => exact h.elim

theorem pylong_no {x y : Int} (h0 : 0 < y) (h1 : y < 1073741824) : Builtin.divisionGoesByPylong x y = false := by
  unfold Builtin.divisionGoesByPylong
  have hy : y.natAbs < 2 ^ 30 := by omega
  have hl : y.natAbs.log2 < 30 := (Nat.log2_lt (by omega)).mpr hy
  have hd : (if (y == 0) = true then 0 else y.natAbs.log2 / 30 + 1) ≤ 1 := by
    rw [if_neg (by simp; omega), Nat.div_eq_of_lt hl]; exact Nat.le_refl _
  exact Bool.and_eq_false_iff.mpr (.inl (decide_eq_false fun q => absurd (Nat.lt_of_lt_of_le q hd) (by decide)))
theorem bin_int {op : Operator} {x y : Int} {t u : Tok} {Q : FV → Store → Prop} {P : Value → Shared → Prop} (h : optM (intV op x y) Q z.σ) (k : KP V z Q P) : W A (binaryOp op (.int x t) (.int y u)) P z.s := by
  induction op using Operator.casesOn with
  | Add => exact PySem.P.add_int (k.tok _ .int h)
  | Sub => exact PySem.P.sub_int (k.tok _ .int h)
  | BitAnd => exact and_int (k.tok _ .int h)
  | BitOr => exact or_int (k.tok _ .int h)
  | FloorDiv =>
    have c := SomeP.ite h
    exact AutoIntOps.floordiv_1 (fun q => Int.lt_irrefl 0 (eq_of_beq q ▸ c.1.1)) (fun q => nomatch (pylong_no c.1.1 c.1.2).symm.trans q) (k.tok _ .int c.2)
  | Mod =>
    have c := SomeP.ite h
    refine AutoIntOpsIf.mod ?_
    rw [if_neg fun q => c.1 (eq_of_beq q)]
    exact k.tok _ .int c.2
  | Pow =>
    have c := SomeP.ite h
    cases c.1.1
    refine AutoIntOpsIf.pow ?_
    rw [if_pos c.1.2.1]
    by_cases h0 : (y == 0) = true
    · rw [if_pos h0]
      cases eq_of_beq h0
      exact k.tok _ .int c.2
    · rw [if_neg h0, if_neg (by decide), if_neg (by decide), if_neg ?_]
      · exact k.tok _ .int c.2
      · have : ∀ k : Nat, k ≤ 60 → ¬ Builtin.Int.intTooBig (((Builtin.Int.intBits 2 : Nat) : Int) * (k : Int)) = true := by decide +kernel
        obtain ⟨k, rfl⟩ := Int.eq_ofNat_of_zero_le c.1.2.1
        exact this k (Int.ofNat_le.mp c.1.2.2)
  | _ => exact False.elim h
theorem add_tups {p q : Addr} {vs ws : List Value} {xs ys : List FV} {n m : Nat} {Q : FV → Store → Prop} {P : Value → Shared → Prop} (e1 : z.s.heap.get? p = some (tupObj vs n)) (e2 : z.s.heap.get? q = some (tupObj ws m)) (r1 : Vs z xs vs) (r2 : Vs z ys ws) (hl : xs.length + ys.length ≤ 1000000)
    (h : Q (.tup (xs ++ ys)) z.σ) (k : KP V z Q P) : W A (binaryOp .Add (.ref p) (.ref q)) P z.s := by
  cases vs with
  | nil =>
    cases r1
    exact concat_meets ⟨_, e1, rfl⟩ ⟨_, e2, rfl⟩ noFill_tuple_add seq_tuple_add F.slot_tuple_add F.entry_tuple_add (F.args_tuple_add_2 _ _) (AutoSeq1.tuple___add___tuple_tuple_0 p _ n q _ m rfl) ⟨e1, e2, k.now (.tup e2 r2) h⟩
  | cons v vs =>
    cases ws with
    | nil =>
      cases r2
      rw [List.append_nil] at h
      exact concat_meets ⟨_, e1, rfl⟩ ⟨_, e2, rfl⟩ noFill_tuple_add seq_tuple_add F.slot_tuple_add F.entry_tuple_add (F.args_tuple_add_2 _ _) (AutoSeq1.tuple___add___tuple_tuple_1 p _ n q _ m (by simp) rfl) ⟨e1, e2, k.now (.tup e1 r1) h⟩
    | cons u ws =>
      rw [r1.len, r2.len] at hl
      exact PySem.P.add_tuple e1 e2 (by simp) (by simp) (new_tup (by rw [Array.toList_append]; exact r1.append r2) h k) (line_of hl)
@[elab_as_elim] theorem addE {op : Operator} {G : Operator → Prop} (h : isAdd op = true) (k : G .Add) : G op := by
  induction op using Operator.casesOn with
  | Add => exact k
  | _ => exact ff h
theorem bin_ok {op : Operator} {u v : Value} {x y : FV} {Q : FV → Store → Prop} {P : Value → Shared → Prop} (r1 : V z x u) (r2 : V z y v) (h : binM op x y Q z.σ) (k : KP V z Q P) : W A (binaryOp op u v) P z.s := by
  revert r2
  induction x using FV.casesOn with
  | int i => exact intE (G := fun y => V z y v → _) h fun j h r2 => r1.intE fun t => r2.intE fun t' => bin_int h k
  | tup xs =>
    refine tupE (G := fun y => V z y v → _) h fun ys h r2 => ?_
    have c := SomeP.ite h
    refine addE c.1.1 ?_
    exact r1.tupE fun a n vs e1 q1 => r2.tupE fun b m ws e2 q2 => add_tups e1 e2 q1 q2 c.1.2 c.2 k
  | ref l =>
    refine refE (G := fun y => V z y v → _) h fun m h r2 => r1.refE fun a e1 => r2.refE fun b e2 => lookL e1 h fun xs vs n g1 q1 h => lookL e2 h fun ys ws m g2 q2 h => ?_
    have c := and2 h.b
    refine addE c.1 (PySem.P.add_list g1 g2 (new_lst (by rw [Array.toList_append]; exact q1.append q2) h.q k) (line_of (show vs.length + ws.length ≤ 1000000 from q1.len ▸ q2.len ▸ of_decide_eq_true c.2)))
  | _ => exact h.elim
end
section
variable {A : Around} {z : Z} {Q : Bool → Store → Prop}
theorem Room.c {n : Nat} {A : Around} (r : Room n A) {k : Nat} (h : k ≤ 20) : A.units + k < cLine := Nat.lt_of_le_of_lt (Nat.add_le_add (Nat.le_add_right _ _) h) r.u
theorem Room.c0 {n : Nat} {A : Around} (r : Room n A) : A.units < cLine := r.c (k := 0) (Nat.zero_le _)
theorem Room.c1 {n : Nat} {A : Around} (r : Room n A) {k : Nat} (h : k ≤ 19) : A.in1.units + k < cLine := Nat.lt_of_le_of_lt (Nat.le_of_eq ((Nat.add_assoc _ _ _).trans (congrArg _ (Nat.add_comm _ _)))) (r.c (k := k + 1) (Nat.succ_le_succ h))
/-- what == and != answer, where they are asked -/
theorem eq_inv {n : Nat} {u v : Value} {x y : FV} (rm : Room n A) (r1 : V z x u) (r2 : V z y v) (h : eqM x y Q z.σ) : ∃ b, Q b z.σ ∧ RcAt A z.s u v b ∧ RcNeAt A z.s u v (!b) := by
  have dat : SomeP (eqT x y) (fun b => Q b z.σ) → ∃ b, Q b z.σ ∧ RcAt A z.s u v b ∧ RcNeAt A z.s u v (!b) := fun h => by
    have go : SomeP (if (hkT 7 x && hkT 7 y) = true then some (eqF x y) else none) (fun b => Q b z.σ) → ∃ b, Q b z.σ ∧ RcAt A z.s u v b ∧ RcNeAt A z.s u v (!b) := fun h =>
      have c := SomeP.ite h
      have g := cmpAt (s := z.s) (ρ := z.ρ) (rm.c (k := 7) (by decide)) (and2 c.1).1 (and2 c.1).2 r1 r2
      ⟨_, c.2, g.rc, g.ne⟩
    induction x using FV.casesOn with
    | bool a => induction y using FV.casesOn with
      | bool b => exact r1.boolE (r2.boolE ⟨_, h, RcAt.bool_bool _ _, RcNeAt.bool_bool _ _⟩)
      | _ => exact go h
    | _ => exact go h
  induction x using FV.casesOn with
  | ref l => induction y using FV.casesOn with
    | ref m => exact r1.refE fun a e1 => r2.refE fun b e2 => lookL e1 h fun xs vs n g1 q1 h => lookL e2 h fun ys ws m g2 q2 h =>
        have c := SomeP.ite h
        have e := eqFs_eq _ _ (and2 c.1).2
        have hs : vs.toArray.size = ws.toArray.size := q1.len.symm.trans ((congrArg _ e).trans q2.len)
        have it := items_at (n := 6) (cmpAt (A := A.in1) (s := z.s) (ρ := z.ρ) (rm.c1 (by decide))) (and2 c.1).1 (e ▸ (and2 c.1).1) q1 q2
        have t : (List.range vs.toArray.size).all (fun j => eqF ((xs[j]?).getD .none) ((ys[j]?).getD .none)) = true := by
          refine (and2 (?_ : (_ && xs.length == ys.length) = true)).1
          rw [List.size_toArray, ← q1.len]
          have := eqFs_all xs ys
          rw [← e, Nat.min_self] at this
          rw [← e]
          exact this.trans (e ▸ (and2 c.1).2)
        ⟨true, c.2, t ▸ RcAt.lists (isLstO g1) (isLstO g2) hs rm.c0 it, (by have := RcNeAt.lists (isLstO g1) (isLstO g2) hs rm.c0 it; rw [t] at this; exact this)⟩
    | _ => exact dat h
  | _ => exact dat h

noncomputable def eV (p : Pt) (x : FV) (y : Value) : Bool := @decide (∃ d, hkT 7 d = true ∧ VRel p d y ∧ eqF d x = true) (Classical.propDecidable _)
theorem eV_of {p : Pt} {x d : FV} {y : Value} (hd : hkT 7 d = true) (r : VRel p d y) : eV p x y = eqF d x := by
  unfold eV
  cases q : eqF d x with
  | true => exact @decide_eq_true _ (Classical.propDecidable _) ⟨d, hd, r, q⟩
  | false => exact @decide_eq_false _ (Classical.propDecidable _) fun ⟨d', h1, h2, h3⟩ => nomatch (VRel.det h1 hd h2 r ▸ h3).symm.trans q
theorem any_data {p : Pt} {x : FV} {vs : List Value} {ys : List FV} (q : F2 (VRel p) ys vs) : hkL 7 ys = true → vs.any (eV p x) = ys.any fun y => eqF y x := by
  induction q with
  | nil => exact fun _ => rfl
  | cons r _ ih => exact fun h => congr (congrArg or (eV_of (and2 h).1 r)) (ih (and2 h).2)
theorem in_at {n : Nat} {vs : List Value} {ys : List FV} {v : Value} {x : FV} (rm : Room n A) (q : Vs z ys vs) (c : (hkT 7 x && hkL 7 ys) = true) (r : V z x v) : ∀ y, y ∈ vs.toArray → EqAt A.in1 z.s y v (eV z.p x y) := fun y hm => by
  obtain ⟨d, hd, rd⟩ := q.mem (List.mem_toArray.mp hm)
  have hd := hkL_all (and2 c).2 d hd
  rw [eV_of hd rd]
  exact (cmpAt (rm.c1 (by decide)) hd (and2 c).1 rd r).eq
theorem any_at {ys : List FV} {vs : List Value} {x : FV} (q : Vs z ys vs) (c : (hkT 7 x && hkL 7 ys) = true) : (vs.toArray.any (eV z.p x)) = ys.any fun y => eqF y x := by
  rw [List.any_toArray]; exact any_data q (and2 c).2

/-! dicts -/
theorem find2 {β : Type} {R : FV → β → Prop} {k : FV} (hk : hkT 7 k = true) {kvs : List (FV × FV)} {vs : List (FV × β)} (q : F2 (fun a b => a.1 = b.1 ∧ R a.2 b.2) kvs vs) :
    ((vs.find? fun x => decide (x.1 = k)).map (·.2) = none ∧ kvFind k kvs = none) ∨ ∃ u d, (vs.find? fun x => decide (x.1 = k)).map (·.2) = some u ∧ kvFind k kvs = some d ∧ R d u := by
  induction q with
  | nil => exact .inl ⟨rfl, rfl⟩
  | @cons a b as bs r _ ih =>
    by_cases e : b.1 = k
    · refine .inr ⟨b.2, a.2, ?_, ?_, r.2⟩
      · exact congrArg (Option.map (fun x : FV × β => x.2)) (List.find?_cons_of_pos (p := fun x : FV × β => decide (x.1 = k)) (decide_eq_true e))
      · exact if_pos (by rw [r.1, e]; exact eqF_refl 7 k hk)
    · rw [List.find?_cons_of_neg (p := fun x : FV × β => decide (x.1 = k)) (by rw [decide_eq_false e]; exact Bool.false_ne_true)]
      have : kvFind k (a :: as) = kvFind k as := if_neg (by rw [eqF_ff (r.1 ▸ e)]; exact Bool.false_ne_true)
      rw [this]; exact ih
theorem pairs_nil {knd : KeyKind d0.prog d0.w FV} {l : List DictEntry} (h : Pairs knd l []) : l = [] := by cases h; rfl
theorem pairs_cons {knd : KeyKind d0.prog d0.w FV} {l : List DictEntry} {x : FV × Value} {r : List (FV × Value)} (h : Pairs knd l (x :: r)) : ∃ e, knd.is x.1 e = true := by cases h with | cons h => exact ⟨_, h⟩
/-- what may be asked of a dict at a key -/
theorem asA {p : Pt} {a : Addr} {k : FV} {kvs : List (FV × FV)} (m : MRel d0 p a (.dct kvs)) (h : homog k kvs = true) (hk : keyK k ≠ 3) : ∃ vs, p.h.DictOf d0.fk a vs ∧ F2 (KV p) kvs vs :=
  m.elim id fun ⟨vs, ⟨o, es, ep, ho, hc, hd, he, hi, _⟩, q⟩ => by
    cases q with
    | nil =>
      cases (Array.toList_inj.mp he : es = #[])
      exact ⟨[], ⟨o, #[], ep, ho, hc, hd, (fun e h => (Array.not_mem_empty e h).elim), .nil, List.nodup_nil⟩, .nil⟩
    | cons r _ => exact absurd ((r.1 ▸ (hi _ (.head _)).2.1).symm.trans (eq_of_beq (and2 (and2 h).2).1)).symm hk
theorem asB {p : Pt} {a : Addr} {k : FV} {kvs : List (FV × FV)} (m : MRel d0 p a (.dct kvs)) (h : homog k kvs = true) (hk : keyK k = 3) : ∃ vs, p.h.DictOfH (d0.tk p) a vs ∧ F2 (KT p) kvs vs :=
  m.elim (fun ⟨vs, ⟨o, es, ep, ho, hc, hd, _, hp, _⟩, q⟩ => by
    cases q with
    | nil => exact ⟨[], ⟨o, es, ep, ho, hc, hd, pairs_nil hp, (fun _ h => nomatch h), List.nodup_nil⟩, .nil⟩
    | cons r _ =>
      have e := (eq_of_beq (and2 (and2 h).2).1).trans hk
      rw [r.1] at e
      exact (pairs_cons hp).elim fun e' h1 => absurd e (keyVE (P := fun _ k => keyK k ≠ 3) (of_decide_eq_true h1) (fun _ _ e => nomatch e) fun _ _ e => nomatch e)) id
end
section
variable {A : Around} {z : Z} {n : Nat}
theorem key_kind {p : Pt} {k : FV} {v : Value} {G : Prop} (r : VRel p k v) (h : (keyK k != 0) = true) (ha : keyK k ≠ 3 → hkT 7 k = true → keyV v = some k → G) (hb : ∀ a, v = .ref a → hkT 7 k = true → keyK k = 3 → G) : G := by
  induction k using FV.casesOn with
  | int i => exact r.elim fun t e => ha (fun e => nomatch e) rfl (e ▸ rfl)
  | str i => exact r.elim fun t e => ha (fun e => nomatch e) rfl (e ▸ rfl)
  | tup xs =>
    refine r.elim fun a r => r.elim fun n r => r.elim fun vs r => ?_
    by_cases c : hkL 6 xs = true
    · exact hb a r.1 c (if_pos c)
    · rw [show keyK (.tup xs) = 0 from if_neg c] at h; exact ff h
  | _ => exact ff h
/-- a dict, and what is asked at a key -/
inductive Ask (z : Z) (a : Addr) (k : FV) (v : Value) (kvs : List (FV × FV)) : Prop
  | a (vs : List (FV × Value)) (hk : d0.fk.is k v = true) (h : z.s.heap.DictOf d0.fk a vs) (q : F2 (KV z.p) kvs vs)
  | b (c : Addr) (vs : List (FV × Addr × Value)) (e : v = .ref c) (hk : (d0.tk z.p).is z.s.heap k c) (h : z.s.heap.DictOfH (d0.tk z.p) a vs) (q : F2 (KT z.p) kvs vs)
theorem ask {a : Addr} {k : FV} {v : Value} {kvs : List (FV × FV)} (r : V z k v) (h : homog k kvs = true) (m : MRel d0 z.p a (.dct kvs)) : hkT 7 k = true ∧ Ask z a k v kvs :=
  key_kind r (and2 h).1 (fun h3 ht e => (asA m h h3).elim fun vs g => ⟨ht, .a vs (decide_eq_true e) g.1 g.2⟩) fun c e ht h3 => (asB m h h3).elim fun vs g => ⟨ht, .b c vs e ⟨ht, h3, e ▸ r⟩ g.1 g.2⟩
theorem tok_at {β : Type} {R : Z → β → Value → Prop} {Q : β → Store → Prop} {P : Value → Shared → Prop} {y : β} {v : Value} (k : KP R z Q P) (t : Nat) (r : R (z.tok t) y v) (h : Q y z.σ) : P v { z.s with toks := t } := k.tok t r h
theorem dict_in {a : Addr} {v : Value} {k : FV} {kvs : List (FV × FV)} {Q : Bool → Store → Prop} {P : Value → Shared → Prop} (rm : Room n A) (ha : a ∈ z.ρ) (hk : hkT 7 k = true) (D : Ask z a k v kvs) (h : Q (kvFind k kvs).isSome z.σ) (kp : KP IsB z Q P) : W A (compareOp .In v (.ref a)) P z.s := by
  have fin : ∀ {β : Type} {o : Option β} {R : FV → β → Prop} t, (o = none ∧ kvFind k kvs = none ∨ ∃ u d, o = some u ∧ kvFind k kvs = some d ∧ R d u) → P (.bool o.isSome) { z.s with toks := t } := fun t f =>
    f.elim (fun f => by rw [f.1]; rw [f.2] at h; exact kp.tok t rfl h) fun f => f.elim fun u f => f.elim fun d f => by rw [f.1]; rw [f.2.1] at h; exact kp.tok t rfl h
  induction D using Ask.casesOn with
  | a vs h1 h2 q => exact wpAny_in_of h1 (z.sys ha) h2.mapOf (fin _ (find2 hk q))
  | b c vs e h1 h2 q => subst e; exact wpAny_in_heap (rm.c1 (by decide)) h1 (z.sys ha) h2 (fin _ (find2 (R := fun d (p : Addr × Value) => VRel z.p d p.2) hk q))
theorem dict_get {a : Addr} {v : Value} {k d : FV} {kvs : List (FV × FV)} {Q : FV → Store → Prop} {P : Value → Shared → Prop} (rm : Room n A) (hk : hkT 7 k = true) (D : Ask z a k v kvs) (e : kvFind k kvs = some d) (h : Q d z.σ) (kp : KP V z Q P) : W A (getItem (.ref a) v) P z.s := by
  have no : ∀ {G : Prop}, kvFind k kvs = none → G := fun g => nomatch g.symm.trans e
  induction D using Ask.casesOn with
  | a vs h1 h2 q => exact (find2 hk q).elim (fun f => no f.2) fun f => f.elim fun u f => f.elim fun d' f => wpAny_getItem_of h1 h2.mapOf f.1 (kp.tok _ (Option.some.inj (f.2.1.symm.trans e) ▸ f.2.2) h)
  | b c vs e' h1 h2 q =>
    subst e'
    exact (find2 (R := fun d (p : Addr × Value) => VRel z.p d p.2) hk q).elim (fun f => no f.2) fun f => f.elim fun u f => f.elim fun d' f => wpAny_getItem_heap (rm.c1 (by decide)) h1 h2 f.1 (kp.tok _ (Option.some.inj (f.2.1.symm.trans e) ▸ f.2.2) h)
theorem dict_get2 {a : Addr} {v dv : Value} {k d : FV} {kvs : List (FV × FV)} {Q : FV → Store → Prop} {P : Value → Shared → Prop} (rm : Room n A) (ha : a ∈ z.ρ) (hk : hkT 7 k = true) (D : Ask z a k v kvs) (rd : V z d dv) (h : Q ((kvFind k kvs).getD d) z.σ) (kp : KP V z Q P) :
    W A (call (.builtin "dict.get") [.ref a, v, dv]) P z.s := by
  have fin : ∀ {β : Type} {o : Option β} {f : β → Value} t, (o = none ∧ kvFind k kvs = none ∨ ∃ u d, o = some u ∧ kvFind k kvs = some d ∧ VRel z.p d (f u)) → P ((o.map f).getD dv) { z.s with toks := t } := fun t f =>
    f.elim (fun f => by rw [f.1]; rw [f.2] at h; exact kp.tok t rd h) fun f => f.elim fun u f => f.elim fun d f => by rw [f.1]; rw [f.2.1] at h; exact kp.tok t f.2.2 h
  induction D using Ask.casesOn with
  | a vs h1 h2 q =>
    refine call_meetsIn F.slot_dict_get h2.typeIs F.entry_dict_get (F.args_dict_get_3 _ _ _) (meets_dict_get_default _ _ h1 (z.sys ha) dv) ⟨_, h2.mapOf, ?_⟩
    have := fin (f := id) (z.s.toks + 1) (find2 hk q)
    rw [Option.map_id] at this
    exact this
  | b c vs e h1 h2 q =>
    subst e
    exact call_meetsIn F.slot_dict_get h2.typeIs F.entry_dict_get (F.args_dict_get_3 _ _ _) (meetsH_dict_get_default (d0.tk z.p) _ _ (z.sys ha) dv) ⟨rm.c1 (by decide), k, _, h1, h2, fin (f := fun p : Addr × Value => p.2) _ (find2 (R := fun d (p : Addr × Value) => VRel z.p d p.2) hk q)⟩

theorem nd_eq {α β : Type} {f : α → β} {k : β} {x : α} {l : List α} (h : ∀ y ∈ l, f y ≠ k) (g : α → α) (e : ∀ y, f y ≠ k → g y = y) : l.map g = l := by
  induction l with
  | nil => rfl
  | cons a l ih => rw [List.map_cons, e _ (h _ (.head _)), ih fun y hy => h y (.tail _ hy)]
/-- the keys as they are when one is stored -/
theorem store2 {β : Type} {R : FV → β → Prop} {k d : FV} {nw : FV × β} {g : FV × β → FV × β} (hk : hkT 7 k = true) (e : nw.1 = k ∧ R d nw.2) (g1 : ∀ y, y.1 ≠ k → g y = y) (g2 : ∀ y, y.1 = k → (g y).1 = k ∧ R d (g y).2) {kvs : List (FV × FV)} {vs : List (FV × β)}
    {c : Bool} (hc : c = true ↔ ∃ x, x ∈ vs ∧ x.1 = k) (q : F2 (fun a b => a.1 = b.1 ∧ R a.2 b.2) kvs vs) : (vs.map (·.1)).Nodup → F2 (fun a b => a.1 = b.1 ∧ R a.2 b.2) (kvIns k d kvs) (if c = true then vs.map g else vs ++ [nw]) := by
  rw [show (if c = true then vs.map g else vs ++ [nw]) = if (∃ x, x ∈ vs ∧ x.1 = k) then vs.map g else vs ++ [nw] from ite_congr (propext hc) (fun _ => rfl) fun _ => rfl]
  clear hc
  induction q with
  | nil => exact fun _ => by rw [if_neg (fun h => h.elim fun _ h => nomatch h.1)]; exact .cons ⟨e.1.symm, e.2⟩ .nil
  | @cons a b as bs r q ih =>
    intro nd
    have nd := List.nodup_cons.mp nd
    by_cases c : b.1 = k
    · have e1 : kvIns k d (a :: as) = (a.1, d) :: as := if_pos (by rw [r.1, c]; exact eqF_refl 7 k hk)
      rw [e1, if_pos ⟨b, .head _, c⟩, List.map_cons, nd_eq (f := (·.1)) (k := k) (x := b) (fun y hy h => nd.1 (List.mem_map.mpr ⟨y, hy, h.trans c.symm⟩)) g g1]
      exact .cons ⟨r.1.trans (c.trans (g2 b c).1.symm), (g2 b c).2⟩ q
    · have e1 : kvIns k d (a :: as) = a :: kvIns k d as := if_neg (by rw [eqF_ff (r.1 ▸ c)]; exact Bool.false_ne_true)
      have ih := ih nd.2
      rw [e1]
      by_cases h : ∃ x ∈ bs, x.1 = k
      · rw [if_pos h] at ih
        rw [if_pos (h.imp fun x h => ⟨.tail _ h.1, h.2⟩), List.map_cons, g1 b c]
        exact .cons r ih
      · rw [if_neg h] at ih
        rw [if_neg (fun h' => h'.elim fun x h' => (List.mem_cons.mp h'.1).elim (fun e => c (e ▸ h'.2)) fun m => h ⟨x, m, h'.2⟩)]
        exact .cons r ih
theorem dict_set {l : Nat} {a : Addr} {v u : Value} {k d : FV} {kvs : List (FV × FV)} {Q : Unit → Store → Prop} {P : Unit → Shared → Prop} (rm : Room n A) (ha : z.ρ[l]? = some a) (hk : hkT 7 k = true) (D : Ask z a k v kvs) (rd : V z d u) (hz : kvs.length ≤ 1000000) (h : put l (.dct (kvIns k d kvs)) Q z.σ)
    (kp : KP (fun _ _ _ => True) z Q P) : W A (setItem (.ref a) v u) P z.s := by
  have fin : ∀ h' t, (hs : Heap.SameBut a z.s.heap h') → (Up z.p ⟨h', z.ρ⟩ → MRel d0 ⟨h', z.ρ⟩ a (.dct (kvIns k d kvs))) → P () { z.s with heap := h', toks := t } := fun h' t hs m =>
    have im := z.imm (List.mem_of_getElem? ha) hs
    kp (z.put l a h' t _ (Nat.le_of_ble_eq_true h.b) ha hs im (m ⟨im, fun _ _ e => e⟩)) () () .put trivial h.q
  induction D using Ask.casesOn with
  | a vs h1 h2 q =>
    refine wpAny_setItem_pairs h1 h2 (fun h' hd hs => fin h' _ hs fun up => .inl ⟨_, hd, ?_⟩) (by rw [← q.len]; exact line_of hz)
    refine store2 (R := VRel ⟨h', z.ρ⟩) (d := d) (nw := (k, u)) (g := fun kv => if kv.1 = k then (kv.1, u) else kv) hk ⟨rfl, rd.up up⟩ (fun y h => if_neg h) (fun y h => by rw [if_pos h]; exact ⟨h, rd.up up⟩) ?_ (q.mono fun _ _ r => ⟨r.1, r.2.up up⟩) (h2.elim fun _ h => h.elim fun _ h => h.elim fun _ h => h.2.2.2.2.2)
    exact List.any_eq_true.trans (exists_congr fun x => and_congr_right fun _ => decide_eq_true_iff)
  | b c vs e h1 h2 q =>
    subst e
    refine wpAny_setItem_heap (rm.c1 (by decide)) h1 h2 (fun h' hd hs => fin h' _ hs fun up => .inr ⟨_, hd, ?_⟩) (by rw [← q.len]; exact line_of hz)
    refine store2 (R := fun d (p : Addr × Value) => VRel ⟨h', z.ρ⟩ d p.2) (d := d) (nw := (k, c, u)) (g := putAt k u) hk ⟨rfl, rd.up up⟩ (fun y h => if_neg h) (fun y h => by unfold putAt; rw [if_pos h]; exact ⟨h, rd.up up⟩) ?_ (q.mono fun _ _ r => ⟨r.1, r.2.up up⟩) (h2.elim fun _ h => h.elim fun _ h => h.elim fun _ h => h.2.2.2.2.2)
    unfold atKey
    rw [Option.isSome_map, List.find?_isSome]
    exact exists_congr fun x => and_congr_right fun _ => decide_eq_true_iff
end
section
variable {A : Around} {z : Z} {n : Nat}
theorem in_ok {u v : Value} {x y : FV} {Q : Bool → Store → Prop} {P : Value → Shared → Prop} (rm : Room n A) (r1 : V z x u) (r2 : V z y v) (h : inM x y Q z.σ) (k : KP IsB z Q P) : W A (compareOp .In u v) P z.s := by
  induction y using FV.casesOn with
  | tup ys =>
    have c := SomeP.ite h
    exact r2.tupE fun a n vs g q => in_tupleAt (eV z.p x) (isTupO g) (in_at rm q c.1 r1) (k.now rfl (any_at q c.1 ▸ c.2))
  | ref l =>
    refine r2.refE fun a e => lookE e h fun o m h => ?_
    induction o using MO.casesOn with
    | lst ys =>
      have c := SomeP.ite h
      exact m.elim fun vs m => m.elim fun n m => in_listAt (eV z.p x) (isLstO m.1) (in_at rm m.2 c.1 r1) (k.now rfl (any_at m.2 c.1 ▸ c.2))
    | dct kvs =>
      refine SomeP.on h fun b e' h => (Option.map_eq_some_iff.mp e').elim fun o e' => ?_
      have c := SomeP.ite (P := fun o => o.isSome = b) (SomeP.mk e'.1 e'.2)
      have g := ask r1 c.1 m
      exact dict_in rm (List.mem_of_getElem? e) g.1 g.2 (c.2 ▸ h) k
    | _ => exact h.elim
  | _ => exact h.elim
theorem notIn_of_in {M : Model} {E : Value → Shared → Prop} {s : Shared} {v c : Value} {Q : Value → Shared → Prop} (h : wpAny M A (compareOp .In v c) (fun u s' => ∃ k, u = .bool k ∧ Q (.bool (!k)) s') E s) : wpAny M A (compareOp .NotIn v c) Q E s := by
  have e1 : compareOp .In v c = (contains c v >>= fun k => (Pure.pure (Value.bool k) : Sem Value)) := rfl
  have e2 : compareOp .NotIn v c = (contains c v >>= fun k => (Pure.pure (Value.bool (!k)) : Sem Value)) := rfl
  intro Γ p hp
  have h := h Γ p hp
  rw [e1, Sem.wp_bind'] at h
  rw [e2, Sem.wp_bind']
  exact Sem.wp_mono _ _ _ (fun u p' s' hq => Exists.elim (hq : ∃ k, Value.bool u = .bool k ∧ Q (.bool (!k)) s') fun k hq => (Value.bool.inj hq.1 ▸ hq.2 : Q (.bool (!u)) s')) (fun _ _ _ x => x) _ _ h
theorem int_cmp {f : Int → Int → Bool} {op : CmpOp} {u v : Value} {x y : FV} {Q : Bool → Store → Prop} {P : Value → Shared → Prop} (r1 : V z x u) (r2 : V z y v) (h : intC f x y Q z.σ) (k : KP IsB z Q P) (g : ∀ (i j : Int) (t t' : Tok), P (.bool (f i j)) z.s → W A (compareOp op (.int i t) (.int j t')) P z.s) : W A (compareOp op u v) P z.s :=
  intE (G := fun x => V z x u → W A (compareOp op u v) P z.s) h (fun i h r1 => intE (G := fun y => V z y v → W A (compareOp op u v) P z.s) h (fun j h r2 => r1.intE fun t => r2.intE fun t' => g i j t t' (k.now rfl h)) r2) r1
theorem cmp_ok {op : CmpOp} {u v : Value} {x y : FV} {Q : Bool → Store → Prop} {P : Value → Shared → Prop} (rm : Room n A) (r1 : V z x u) (r2 : V z y v) (h : cmpM op x y Q z.σ) (k : KP IsB z Q P) : W A (compareOp op u v) P z.s := by
  induction op using CmpOp.casesOn with
  | Eq => exact (eq_inv rm r1 r2 h).elim fun b g => EqBoolInt.of_rc g.2.1 (k.now rfl g.1)
  | NotEq => exact (eq_inv rm r1 r2 h).elim fun b g => EqBoolInt.of_rcne g.2.2 (k.now rfl g.1)
  | In => exact in_ok rm r1 r2 h k
  | NotIn => exact notIn_of_in (in_ok rm r1 r2 h fun z' b v N r q => ⟨b, r, k z' _ _ N rfl q⟩)
  | Lt => exact int_cmp r1 r2 h k fun _ _ _ _ q => PySem.P.lt_int q
  | LtE => exact int_cmp r1 r2 h k fun _ _ _ _ q => PySem.P.le_int q
  | Gt => exact int_cmp r1 r2 h k fun _ _ _ _ q => PySem.P.gt_int q
  | GtE => exact int_cmp r1 r2 h k fun _ _ _ _ q => PySem.P.ge_int q
  | _ => exact h.elim

theorem isEmpty_rel {xs : List FV} {vs : List Value} (q : Vs z xs vs) : (!vs.toArray.isEmpty) = !xs.isEmpty := by
  rw [List.isEmpty_toArray]; cases q <;> rfl
theorem fit {xs : List FV} {vs : List Value} (q : Vs z xs vs) (h : xs.length ≤ lim) : (vs.toArray.size : Int) < 2 ^ 63 := small63 (show vs.length ≤ 1000000 from q.len ▸ h)
theorem tupI {a : Addr} {vs : List Value} {n : Nat} {h : Heap} (e : h.get? a = some (tupObj vs n)) : IsTup h a vs.toArray := ⟨_, e, rfl, _, rfl⟩
theorem emp_str {kvs : List (FV × FV)} {a : Addr} (m : MRel d0 z.p a (.dct kvs)) (h : homog (.str ⟨#[]⟩) kvs = true) : ∃ vs, z.s.heap.DictOf d0.fk a vs ∧ F2 (KV z.p) kvs vs := asA m h fun e => nomatch e
theorem truthy_ok {v : Value} {x : FV} {Q : Bool → Store → Prop} {P : Bool → Shared → Prop} (r : V z x v) (h : truthyM x Q z.σ) (k : KP IsBB z Q P) : W A (truthy v) P z.s := by
  induction x using FV.casesOn with
  | none => exact r.noneE (truthy_none (k.now rfl h))
  | bool b => exact r.boolE (wpAny_truthy_bool (k.now rfl h))
  | int i => exact r.intE fun t => PySem.P.truthy_int (k.now (by by_cases e : i = 0 <;> simp [e]) h)
  | tup xs => exact r.tupE fun a n vs g q => truthy_tuple (tupI g) (fit q h.d) (isEmpty_rel q ▸ k.tokB _ rfl h.q)
  | ref l =>
    refine r.refE fun a e => lookE e h fun o m h => ?_
    induction o using MO.casesOn with
    | lst xs => exact m.elim fun vs m => m.elim fun n m => wpAny_truthy_list (isLstO m.1) (fit m.2 h.d) (isEmpty_rel m.2 ▸ k.tokB _ rfl h.q)
    | dct kvs => exact (emp_str m h.d.2).elim fun vs m => wpAny_truthy_dict (z.sys (List.mem_of_getElem? e)) m.1 (small63 (m.2.len ▸ h.d.1)) (k.tokB _ (by cases m.2 <;> rfl) h.q)
    | _ => exact h.elim
  | _ => exact h.elim
theorem size_rel {xs : List FV} {vs : List Value} (q : Vs z xs vs) : vs.toArray.size = xs.length := List.size_toArray.trans q.len.symm
theorem len_ok {v : Value} {x : FV} {Q : FV → Store → Prop} {P : Value → Shared → Prop} (r : V z x v) (h : lenM x Q z.σ) (k : KP V z Q P) : W A (call (.builtin "len") [v]) P z.s := by
  induction x using FV.casesOn with
  | tup xs => exact r.tupE fun a n vs g q => len_tuple (tupI g) (fit q h.d) (k.tok _ (size_rel q ▸ .int) h.q)
  | ref l =>
    refine r.refE fun a e => lookE e h fun o m h => ?_
    induction o using MO.casesOn with
    | lst xs => exact m.elim fun vs m => m.elim fun n m => PyProof.Rows.len_list (isLstO m.1) (fit m.2 h.d) (k.tok _ (size_rel m.2 ▸ .int) h.q)
    | dct kvs => exact (emp_str m h.d.2).elim fun vs m => call_len_dict (z.sys (List.mem_of_getElem? e)) m.1 (small63 (m.2.len ▸ h.d.1)) (k.tok _ (m.2.len ▸ .int) h.q)
    | _ => exact h.elim
  | _ => exact h.elim

theorem idx_some {n j : Nat} {i : Int} (h : idx n i = some j) : n ≤ 1000000 ∧ j < n ∧ seqIndex? i n = some j ∧ -(2 ^ 63) ≤ i ∧ i < 2 ^ 63 ∧ ((0 ≤ i ∧ i.toNat = j) ∨ (i < 0 ∧ -(n : Int) ≤ i ∧ (i + n).toNat = j)) := by
  unfold idx at h
  by_cases h0 : lim < n
  · rw [if_pos h0] at h; cases h
  rw [if_neg h0] at h
  have h0 : n ≤ 1000000 := Nat.le_of_not_lt h0
  by_cases h1 : 0 ≤ i
  · rw [if_pos h1] at h
    by_cases h2 : i.toNat < n
    · rw [if_pos h2] at h
      cases h
      refine ⟨h0, h2, ?_, by omega, by omega, .inl ⟨h1, rfl⟩⟩
      unfold seqIndex?
      have : ¬ i < 0 := by omega
      simp [this]
      omega
    · rw [if_neg h2] at h; cases h
  · rw [if_neg h1] at h
    by_cases h2 : i + n < 0
    · rw [if_pos h2] at h; cases h
    · rw [if_neg h2] at h
      cases h
      exact ⟨h0, by omega, MeetsSeq.seqIndex_neg (by omega) (by omega), by omega, by omega, .inr ⟨by omega, by omega, rfl⟩⟩
theorem atE {xs : List FV} {k : FV} {Q : FV → Store → Prop} {σ : Store} {v : Value} {p : Pt} {G : Prop} (h : atM xs k Q σ) (r : VRel p k v) (g : ∀ i t j y, idx xs.length i = some j → xs[j]? = some y → Q y σ → v = .int i t → G) : G :=
  intE (G := fun k => VRel p k v → G) h (fun i h r => r.elim fun t e => SomeP.on h fun y e1 h => (Option.bind_eq_some_iff.mp e1).elim fun j e1 => g i t j y e1.1 e1.2 h e) r
theorem item_ok {u v : Value} {x i : FV} {value slice : Expr} {Q : FV → Store → Prop} {P : Value → Shared → Prop} (rm : Room n A) (r1 : V z x u) (r2 : V z i v) (h : itemM x i Q z.σ) (k : KP V z Q P)
    (hs : ∀ o k : Value, subscripted slice false o k = operate [o, k] (getItem o k)) : W A (subscriptTail value slice u v) P z.s := by
  induction x using FV.casesOn with
  | tup xs =>
    refine r1.tupE fun a n vs g q => atE h r2 fun i t j y e1 e2 h e => ?_
    subst e
    have c := idx_some e1
    have hj : j < vs.length := q.len ▸ c.2.1
    exact item_tupleT (j := j) (x := vs[j]) (tupI g) c.2.2.2.1 c.2.2.2.2.1 (q.len ▸ c.2.2.1) (List.getElem?_eq_getElem hj) (k.now (q.get e2 (List.getElem?_eq_getElem hj)) h) (hs _ _)
  | str s =>
    refine r1.strE fun t => intE (G := fun i => V z i v → _) h (fun i h r2 => r2.intE fun t' => SomeP.on h fun y e1 h => (Option.bind_eq_some_iff.mp e1).elim fun j e1 => (Option.map_eq_some_iff.mp e1.2).elim fun ch e2 => ?_) r2
    have c := idx_some e1.1
    have c4 := c.2.2.2.1
    have c5 := c.2.2.2.2.1
    refine tail_any (T := "str") rfl F.slot_str_getitem.lookup (PyProof.Rows.getItem_str (c := ch) (by simp; omega) ?_ (k.tok _ (e2.2 ▸ .str) h)) (hs _ _)
    show (seqIndex? i s.cps.size).bind _ = _
    rw [c.2.2.1]; exact e2.1
  | ref l =>
    refine r1.refE fun a e => lookE e h fun o m h => ?_
    induction o using MO.casesOn with
    | lst xs =>
      refine m.elim fun vs m => m.elim fun n m => atE h r2 fun i t j y e1 e2 h e => ?_
      subst e
      have c := idx_some e1
      have hj : j < vs.length := m.2.len ▸ c.2.1
      have kk := k.now (m.2.get e2 (List.getElem?_eq_getElem hj)) h
      refine tail_any (isLstO m.1).typeIs slot_list_getitem.lookup ?_ (hs _ _)
      exact c.2.2.2.2.2.elim (fun g => wpAny_getItem_list (isLstO m.1) g.1 c.2.2.2.2.1 (x := vs[j]) (by rw [List.getElem?_toArray, g.2]; exact List.getElem?_eq_getElem hj) kk) fun g => wpAny_getItem_list_neg (isLstO m.1) g.1 (show -((vs.length : Nat) : Int) ≤ i from m.2.len ▸ g.2.1) c.2.2.2.1 (x := vs[j]) (by rw [List.getElem?_toArray, size_rel m.2, g.2.2]; exact List.getElem?_eq_getElem hj) kk
    | dct kvs =>
      refine SomeP.on h fun y e1 h => (Option.bind_eq_some_iff.mp e1).elim fun o e1 => ?_
      have c := SomeP.ite (P := fun b => b = some y) (SomeP.mk e1.1 e1.2)
      have g := ask r2 c.1 m
      have T : z.s.TypeIs (.ref a) "dict" := m.elim (fun m => m.elim fun _ m => m.1.typeIs) fun m => m.elim fun _ m => m.1.elim fun o m => m.elim fun _ m => m.elim fun _ m => ⟨o, m.1, m.2.1.1⟩
      exact tail_any T slot_dict_getitem.lookup (dict_get rm g.1 g.2 c.2 h k) (hs _ _)
    | _ => exact h.elim
  | _ => exact h.elim
end
section
variable {A : Around} {z : Z} {n : Nat}
/-! instances -/
theorem Imm.up {h h' : Heap} {ρ : Rho} (im : Imm h h') : Up ⟨h, ρ⟩ ⟨h', ρ⟩ := ⟨im, fun _ _ e => e⟩
theorem ar_noRef {w : World} {p : Pt} {es : List DictEntry} {kvs : List (Str × FV)} (r : F2 (AR w p) kvs es) : es.any (·.refKey) = false := by
  induction r with
  | nil => rfl
  | cons a _ ih => rw [List.any_cons, ih, Bool.or_false]; exact a.1.elim fun t e => by unfold DictEntry.refKey; rw [e]
theorem ar_get {w : World} {p : Pt} {es : List DictEntry} {kvs : List (Str × FV)} (name : Str) (r : F2 (AR w p) kvs es) :
    (kvs.lookup name = none ∧ es.find? (·.key.isStr name) = none) ∨ ∃ e d, kvs.lookup name = some d ∧ es.find? (·.key.isStr name) = some e ∧ VRel p d e.val := by
  induction r with
  | nil => exact .inl ⟨rfl, rfl⟩
  | @cons k e kvs es a _ ih =>
    have hk : e.key.isStr name = (name == k.1) := a.1.elim fun t g => by rw [g]; exact Bool.beq_comm
    rw [List.find?_cons, List.lookup_cons, hk]
    cases q : name == k.1 with
    | true => exact .inr ⟨e, k.2, rfl, rfl, a.2.2⟩
    | false => exact ih
theorem ar_getL {w : World} {p : Pt} {es : List DictEntry} {kvs : List (Str × FV)} (name : Str) (r : F2 (AR w p) kvs es) :
    (kvs.lookup name = none ∧ getL name es = some none) ∨ ∃ v d, kvs.lookup name = some d ∧ getL name es = some (some v) ∧ VRel p d v := by
  unfold PySem.W.getL
  exact (ar_get name r).imp (fun h => by rw [h.2, ar_noRef r]; exact ⟨h.1, rfl⟩) fun h => h.elim fun e h => h.elim fun d h => by rw [h.2.1]; exact ⟨e.val, d, h.1, rfl, h.2.2⟩
theorem ar_putL {w : World} {p : Pt} {es : List DictEntry} {kvs : List (Str × FV)} (name : Str) {t : Tok} {v : Value} {d : FV} (r : F2 (AR w p) kvs es) (rv : VRel p d v) :
    F2 (AR w p) (attPut name d kvs) (putL name (PyData.keyHash w.params name) (.str name t) v es) := by
  induction r with
  | nil => exact .cons ⟨⟨_, rfl⟩, rfl, rv⟩ .nil
  | @cons k e kvs es a q ih =>
    have hk : e.key.isStr name = (k.1 == name) := a.1.elim fun t g => by rw [g]; rfl
    by_cases hx : k.1 = name
    · rw [show attPut name d (k :: kvs) = (k.1, d) :: kvs from if_pos hx, show putL name _ _ v (e :: es) = _ from if_pos (hk.trans (beq_iff_eq.mpr hx))]
      exact .cons ⟨a.1, a.2.1, rv⟩ q
    · rw [show attPut name d (k :: kvs) = k :: attPut name d kvs from if_neg hx, show putL name _ _ v (e :: es) = _ from if_neg (fun h => hx (beq_iff_eq.mp (hk.symm.trans h)))]
      exact .cons a ih
theorem putL_len (name : Str) (hs : Int) (k v : Value) : ∀ es : List DictEntry, (putL name hs k v es).length ≤ es.length + 1
  | [] => Nat.le_refl _
  | e :: r => by
    by_cases h : e.key.isStr name = true
    · rw [show putL name hs k v (e :: r) = _ from if_pos h]; exact Nat.le_succ _
    · rw [show putL name hs k v (e :: r) = _ from if_neg h]; exact Nat.succ_le_succ (putL_len name hs k v r)
theorem handed_of {p : Pt} {v : Value} {d : FV} (r : VRel p d v) (hs : (!isSt d) = true) : handedIn v = true := by
  induction d using FV.casesOn with
  | none => exact r.noneE rfl
  | bool b => exact r.boolE rfl
  | int i => exact r.intE fun _ => rfl
  | str i => exact r.strE fun _ => rfl
  | tup xs => exact r.tupE fun _ _ _ _ _ => rfl
  | rng _ _ => exact r.rngE fun _ _ _ _ _ => rfl
  | ref l => exact r.refE fun _ _ => rfl
  | st v => exact ff hs
/-- a made object, its class and its own names -/
theorem lookIE {α : Type} {l : Nat} {a : Addr} {f : Addr → Nat → List (Str × FV) → M α} {Q : α → Store → Prop} {G : Prop} (e : z.ρ[l]? = some a) (h : lookI l f Q z.σ)
    (k : ∀ C d kvs dx es n, z.ρ[d]? = some dx → z.s.heap.get? dx = some (dctObj es n) → F2 (AR d0.w z.p) kvs es → InstAt z.s.heap a (insObj C dx) C (some (dictOf es n)) → f C d kvs Q z.σ → G) : G :=
  lookE e h fun o m h => by
    induction o using MO.casesOn with
    | ins C d =>
      refine m.elim fun dx m => lookE (l := d) (a := dx) m.1 h fun o m' h => ?_
      induction o using MO.casesOn with
      | att kvs => exact m'.elim fun es m' => m'.elim fun n m' => k C d kvs dx es n m.1 m'.1 m'.2 ⟨m.2, rfl, rfl, m'.1⟩ h
      | _ => exact h.elim
    | _ => exact h.elim
theorem Z.inn (z : Z) : d0.K.In z.s.heap := z.st.good.inn.keeps z.st.keep
theorem attr_ok {v : Value} {x : FV} {name : Str} {expr : Bool} {Q : FV → Store → Prop} {P : Value → Shared → Prop} (r : V z x v) (h : attrM d0.X x name Q z.σ) (k : KP V z Q P) : W A (getAttr v name expr) P z.s := by
  induction x using FV.casesOn with
  | ref l =>
    refine r.refE fun a e => lookIE e h fun C d kvs dx es n e1 g q I h => SomeP.on h fun y e2 h => ?_
    have c := and2 h.b
    have ho := and3 (z.st.good.own C name c.1)
    have o3 := (and3 (and2 ho.1.1).1)
    refine (ar_getL name q).elim (fun g => nomatch g.1.symm.trans e2) fun g => g.elim fun u g => g.elim fun d' g => ?_
    cases g.1.symm.trans e2
    have o4 := o3.2
    cases q4 : findIn d0.K (.ref C) name with
    | none => rw [q4] at o4; exact ff o4
    | some attr => rw [q4] at o4; exact get_value z.inn I (plainGet_of o3.1.1).1 (findObj_own o3.1.2 q4 o4 g.2.1) (handed_of g.2.2 c.2) (k.tok _ g.2.2 h.q)
  | _ => exact h.elim
theorem osa_put {C x dx : Addr} {s : Shared} {es : List DictEntry} {n : Nat} {name : Str} {tk : Tok} {v : Value} {R : Result → Shared → Prop} (X : d0.K.In s.heap) (I : InstAt s.heap x (insObj C dx) C (some (dictOf es n))) (hD : s.heap.get? dx = some (dctObj es n))
    (hp : plainOver d0.K C = true) (ht : takerIn d0.K C name = some none) (hh : hasDictIn d0.K C = true) (hr : es.any (·.refKey) = false) (hz : (putL name (PyData.keyHash d0.w.params name) (.str name s.toks) v es).length ≤ 1000)
    (h : ∀ h', Heap.SameBut dx s.heap h' → h'.get? dx = some (dctObj (putL name (PyData.keyHash d0.w.params name) (.str name s.toks) v es) (putN name es n)) → R (.ok (.ret .none)) { s with heap := h', toks := s.toks + 1 }) :
    codeAny (model d0.prog d0.w) A (.call (.builtin "object.__setattr__") ⟨[.ref x, .str name tk, v], []⟩) R s := by
  refine osa_open X I hp ht fun bb => ?_
  refine (any_some hh).elim fun cd hc => ?_
  have D' := Heap.get?_update_self (Obj.putName name (PyData.keyHash d0.w.params name) (.str name s.toks) v) hD (by rw [putName_dict]; rfl)
  rw [putName_dict] at D'
  refine wpAny_bind (wpAny_pure (wpAny_bind (wpAny_bind (wpAny_loadPart I.at_ (wpAny_bind ((looks_clsIn X hc.1).here ?_))))))
  rw [hc.2]
  refine wpAny_pure (a := some dx) (wpAny_bind (wpAny_pure (wpAny_bind ?_)))
  unfold nsSet
  refine wpAny_bind (wpAny_bind (wpAny_askSetting (wpAny_pure (wpAny_bind (wpAny_mkText (wpAny_bind (wpAny_loadPart hD ?_)))))))
  have c : (!es.toArray.any (·.key.isStr name) && es.toArray.any (·.refKey)) = false := by
    rw [← Array.any_toList, ← Array.any_toList, hr, Bool.and_false]
  dsimp only
  rw [aRefKeyMayBeTheName_at, c]
  refine wpAny_updatePart hD ?_
  refine wpAny_bind (wpAny_lookBehind D' (pastItsLine_dict (Nat.le_trans hz (by rw [sizeLine_eq]; decide))) ?_)
  exact wpAny_pure (h _ (Heap.SameBut.update ..) D')
theorem setAttr_ok {v u : Value} {x d : FV} {name : Str} {Q : Unit → Store → Prop} {P : Unit → Shared → Prop} (r : V z x v) (rd : V z d u) (h : storeAttrM d0.X x name d Q z.σ) (k : KP (fun _ _ _ => True) z Q P) : W A (setAttr v name u) P z.s := by
  induction x using FV.casesOn with
  | ref l =>
    refine r.refE fun a e => lookIE e h fun C dl kvs dx es n e1 g q I h => ?_
    have c := and2 h.b
    have ho := and3 (z.st.good.own C name c.1)
    have o2 := and2 ho.1.1
    refine set_plain z.inn I (beq_iff_eq.mp o2.2) (osa_put (s := { z.s with toks := z.s.toks + 1 }) z.inn I g ho.1.2 (beq_iff_eq.mp ho.2) (and3 o2.1).1.2 (ar_noRef q) ?_ fun h' hs ho' => ?_)
    · exact Nat.le_trans (putL_len _ _ _ _ es) (Nat.le_trans (Nat.succ_le_succ (q.len ▸ of_decide_eq_true c.2)) (by decide))
    · have im := z.imm (List.mem_of_getElem? e1) hs
      exact k (z.put dl dx h' (z.s.toks + 1 + 1) (.att (attPut name d kvs)) (Nat.le_of_ble_eq_true h.q.b) e1 hs im ⟨_, _, ho', ar_putL name (q.mono fun _ _ r => r.up im.up) (rd.up im.up)⟩) () () .put trivial h.q.q
  | _ => exact h.elim

/-! lists -/
theorem putL_ok {α β : Type} {R : Z → β → α → Prop} {l : Nat} {a : Addr} {h' : Heap} {vs : List Value} {n : Nat} {xs : List FV} {t : Nat} {y : β} {v : α} {Q : β → Store → Prop} {P : α → Shared → Prop} (ha : z.ρ[l]? = some a) (hs : Heap.SameBut a z.s.heap h') (ho : h'.get? a = some (lstObj vs n)) (q : Vs z xs vs)
    (h : On (Nat.ble 2 l) (Q y (z.σ.set l (.lst xs)))) (k : KP R z Q P) (r : ∀ z', Nx [] z z' → R z' y v) : P v { z.s with heap := h', toks := t } :=
  have im := z.imm (List.mem_of_getElem? ha) hs
  k (z.put l a h' t (.lst xs) (Nat.le_of_ble_eq_true h.b) ha hs im ⟨vs, n, ho, im.up.vs q⟩) y v .put (r _ .put) h.q
theorem lst_of {h : Heap} {a : Addr} {items : Array Value} (q : h.PlainList a items) : ∃ n, h.get? a = some (lstObj items.toList n) := q.imp fun n e => by rw [e, Array.toArray_toList]
theorem mapSeq_lst (f : Array Value → Array Value) (vs : List Value) (n : Nat) : ∃ k, Obj.mapSeq f (lstObj vs n) = lstObj (f vs.toArray).toList k :=
  ⟨if (f vs.toArray).size == vs.toArray.size then n else n + 1, by simp [Obj.mapSeq, lstObj]⟩
theorem upd_lst {h : Heap} {a : Addr} {vs : List Value} {n : Nat} (f : Array Value → Array Value) (ho : h.get? a = some (lstObj vs n)) : ∃ k, (h.update a (Obj.mapSeq f)).get? a = some (lstObj (f vs.toArray).toList k) :=
  (mapSeq_lst f vs n).imp fun k e => (Heap.get?_update_self (Obj.mapSeq f) ho (by rw [e]; rfl)).trans (congrArg some e)
theorem app_ok {l : Nat} {a : Addr} {xs : List FV} {x : FV} {ws : List Value} {n : Nat} {v : Value} {Q : FV → Store → Prop} {P : Value → Shared → Prop} (ha : z.ρ[l]? = some a) (ho : z.s.heap.get? a = some (lstObj ws n)) (q : Vs z xs ws) (r : V z x v) (h : onM (decide (xs.length ≤ lim)) (putR l (.lst (xs ++ [x])) .none) Q z.σ) (k : KP V z Q P) :
    W A (call (.builtin "list.append") [.ref a, v]) P z.s :=
  wpAny_list_append_plain ⟨n, ho⟩ (fun h' hp hs => (lst_of hp).elim fun n' ho' => putL_ok (t := z.s.toks) ha hs ho' (by rw [Array.toList_push]; exact q.snoc r) h.q k fun _ _ => .none) (line_of (show ws.length ≤ 1000000 from q.len ▸ h.d))
theorem pop_ok {l : Nat} {a : Addr} {xs : List FV} {ws : List Value} {n : Nat} {Q : FV → Store → Prop} {P : Value → Shared → Prop} (ha : z.ρ[l]? = some a) (ho : z.s.heap.get? a = some (lstObj ws n)) (q : Vs z xs ws) (h : SomeP xs.getLast? fun x => On (decide (xs.length ≤ lim)) (putR l (.lst xs.dropLast) x Q z.σ)) (k : KP V z Q P) :
    W A (call (.builtin "list.pop") [.ref a]) P z.s := SomeP.on h fun y e h => by
  have e : xs[ws.length - 1]? = some y := by rw [← q.len, ← List.getLast?_eq_getElem?]; exact e
  have hlt : ws.length - 1 < ws.length := q.len ▸ (List.getElem?_eq_some_iff.mp e).1
  have hy := List.getElem?_eq_getElem hlt
  refine call_meets F.slot_list_pop ⟨_, ho, rfl⟩ F.entry_list_pop (F.args_list_pop_1 _) (MeetsSeq.list_pop_last a ws.toArray n _ (by rw [List.getElem?_toArray]; exact hy) (line_of (show ws.length ≤ 1000000 from q.len ▸ h.d))) ⟨ho, ?_⟩
  refine (upd_lst (fun xs => xs.eraseIdxIfInBounds (ws.toArray.size - 1)) ho).elim fun k' hg => ?_
  rw [Array.toList_eraseIdxIfInBounds, show ws.toArray.toList.eraseIdx (ws.toArray.size - 1) = ws.take (ws.length - 1) by simp [List.dropLast_eq_take]] at hg
  have f : P ws[ws.length - 1] _ := putL_ok (t := z.s.toks) ha (Heap.SameBut.update ..) hg (xs := xs.dropLast) (by rw [List.dropLast_eq_take, q.len]; exact q.take _) h.q k fun _ N => N.v (q.get e hy)
  exact f
theorem long_no {n : Nat} (h : n ≤ 1000000) : Builtin.List.listTooLong n = false := decide_eq_false (Nat.not_lt.mpr (line_of h))
theorem ext_ok {l : Nat} {a : Addr} {xs : List FV} {x : FV} {ws : List Value} {n : Nat} {v : Value} {Q : FV → Store → Prop} {P : Value → Shared → Prop} (ha : z.ρ[l]? = some a) (ho : z.s.heap.get? a = some (lstObj ws n)) (q : Vs z xs ws) (r : V z x v) (h : extO l xs x Q z.σ) (k : KP V z Q P) :
    W A (call (.builtin "list.extend") [.ref a, v]) P z.s := by
  have fin : ∀ {ys : List FV} {us : List Value}, Vs z ys us → putR l (.lst (xs ++ ys)) FV.none Q z.σ → P .none { z.s with heap := z.s.heap.update a (Obj.mapSeq fun x => x ++ us.toArray) } := fun q1 h =>
    (upd_lst (fun x => x ++ _) ho).elim fun k' hg => putL_ok (t := z.s.toks) ha (Heap.SameBut.update ..) hg (by rw [Array.toList_append]; exact q.append q1) h k fun _ _ => .none
  have z1 : ∀ {ys : List FV} {us : List Value}, Vs z ys us → xs.length + ys.length ≤ lim → ws.length + us.length ≤ 1000000 := fun q1 h => q.len ▸ q1.len ▸ h
  induction x using FV.casesOn with
  | tup ys => exact r.tupE fun c m us g q1 =>
      have zz := z1 q1 h.d
      call_meets F.slot_list_extend ⟨_, ho, rfl⟩ F.entry_list_extend (F.args_list_extend_2 _ _) (AutoSeq1.list_extend_list_tuple_0 a ws.toArray n c us.toArray m (by simp [long_no, zz]) (line_of (Nat.le_trans (Nat.le_add_right _ _) zz)) (Nat.le_succ_of_le (line_of zz))) ⟨ho, g, fin q1 h.q⟩
  | ref m => exact r.refE fun c e => lookL e h fun ys us m' g q1 h =>
      have cc := and2 h.b
      have zz := z1 q1 (of_decide_eq_true cc.2)
      call_meets F.slot_list_extend ⟨_, ho, rfl⟩ F.entry_list_extend (F.args_list_extend_2 _ _) (AutoSeq1.list_extend_list_list_0 a ws.toArray n c us.toArray m' (by simp [long_no, zz]) (line_of (Nat.le_trans (Nat.le_add_right _ _) zz)) (Nat.le_succ_of_le (line_of zz))) ⟨ho, g, fin q1 h.q⟩
  | _ => exact h.elim
end
theorem adjust_ab {a b n : Nat} (h : a ≤ b) (hb : b ≤ n) : Builtin.Slice.sliceAdjust (some (a : Int)) (some (b : Int)) 1 (n : Int) = ((a : Int), (b : Int)) :=
  have c : ∀ m : Nat, m ≤ n → (if (m : Int) < 0 then max ((m : Int) + n) 0 else min (m : Int) n) = m := fun m h => (if_neg (Int.not_lt.mpr (Int.natCast_nonneg m))).trans (Int.min_eq_left (Int.ofNat_le.mpr h))
  Prod.ext (c a (Nat.le_trans h hb)) (c b hb)
theorem places_ab {a b : Nat} (h : a ≤ b) : Builtin.Slice.slicePlaces (a : Int) (b : Int) 1 = b - a := by
  show (if (a : Int) < b then ((b : Int) - a - 1) / 1 + 1 else 0).toNat = b - a
  by_cases c : (a : Int) < b
  · rw [if_pos c, Int.ediv_one, Int.sub_add_cancel, Int.toNat_sub]
  · rw [if_neg c, Nat.sub_eq_zero_of_le (Int.ofNat_le.mp (Int.not_lt.mp c))]; rfl
theorem pick_ab (xs : Array Value) (a k : Nat) : ((List.range k).filterMap fun (j : Nat) => xs[((a : Int) + (j : Int) * 1).toNat]?).toArray = ((xs.toList.drop a).take k).toArray := by
  have e : (fun (k : Nat) => xs[((a : Int) + (k : Int) * 1).toNat]?) = (fun x => xs[x]?) ∘ fun k => a + k := funext fun k => by
    rw [Int.mul_one]; exact congrArg (xs[·]?) (Int.toNat_natCast (a + k))
  rw [e, ← List.filterMap_map, pick_run xs a k]
section
variable {A : Around} {z : Z} {n : Nat}
theorem sliceApplied_ab {s : Shared} {sl : Addr} {a b n : Nat} {u v : Tok} {Q : Int × Int × Nat → Shared → Prop} (hs : s.heap.IsSliceOf sl (.int a u) (.int b v) .none) (h1 : a ≤ b) (h2 : b ≤ n) (h : Q ((a : Int), 1, b - a) s) :
    W A (Builtin.Slice.sliceApplied (.ref sl) (pure (n : Int))) Q s := hs.elim fun os hs => by
  unfold Builtin.Slice.sliceApplied Builtin.Slice.sliceFields
  refine wpAny_bind (wpAny_bind (wpAny_field hs.1 hs.2.2 (x := .int a u) rfl (wpAny_bind (wpAny_field hs.1 hs.2.2 (x := .int b v) rfl (wpAny_bind (wpAny_field hs.1 hs.2.2 (x := .none) rfl (wpAny_pure ?_)))))))
  refine wpAny_bind (slicePart_none ?_)
  show wpAny _ _ (if ((1 : Int) == 0) = true then _ else _) _ _ s
  rw [if_neg (by decide)]
  refine wpAny_bind (slicePart_int (wpAny_bind (slicePart_int (wpAny_bind (wpAny_pure ?_)))))
  show wpAny _ _ (match Builtin.Slice.sliceAdjust (some (a : Int)) (some (b : Int)) 1 (n : Int) with | (lo, hi) => pure (lo, (1 : Int), Builtin.Slice.slicePlaces lo hi 1)) _ _ s
  rw [adjust_ab h1 h2]
  show wpAny _ _ (pure ((a : Int), (1 : Int), Builtin.Slice.slicePlaces (a : Int) (b : Int) 1)) _ _ s
  rw [places_ab h1]
  exact wpAny_pure h
theorem getItem_tuple_ab {s : Shared} {t sl : Addr} {items : Array Value} {a b : Nat} {u v : Tok} {Q : Value → Shared → Prop} (ht : IsTup s.heap t items) (hs : s.heap.IsSliceOf sl (.int a u) (.int b v) .none) (h1 : 1 ≤ a) (h2 : a ≤ b) (h3 : b ≤ items.size)
    (h : Q (.ref s.heap.objs.size) { s with heap := s.heap.push { cls := .type "tuple", data := .seq ((items.toList.drop a).take (b - a)).toArray } })
    (hsz : items.size ≤ sizeLine) : W A (getItem (.ref t) (.ref sl)) Q s := by
  have hdrop : sizeOk (.seq ((items.toList.drop a).take (b - a)).toArray) := Nat.le_trans (Nat.le_trans (List.length_take_le _ _) (Nat.le_trans (Nat.sub_le _ _) h3)) hsz
  have hTs : s.TypeIs (.ref sl) "slice" := hs.elim fun os hs => ⟨os, hs.1, hs.2.1⟩
  unfold getItem
  try with_reducible refine wpAny_holding ?_
  first | refine wpAny_bind (wpAny_pure ?_) | skip
  refine wpAny_bind (wpAny_sequenceKey ht.typeIs (by decide) ?_)
  refine wpAny_bind (wpAny_callSpecial?_slot (name := Str.ofString "__getitem__") ht.typeIs slot_tuple_getitem
    (wpAny_call_entry slot_tuple_getitem ht.typeIs entry_tuple_getitem ?_ (args_tuple_getitem _ _)))
  show wpAny _ _ (Builtin.Tuple.tupleItemsOf (.ref t) >>= _) _ _ s
  refine wpAny_bind (tupleItemsOf_ ht ?_)
  refine wpAny_bind (wpAny_typeOf hTs ?_)
  rw [if_pos (by decide)]
  refine wpAny_bind (sliceApplied_ab hs h2 h3 ?_)
  show wpAny _ _ (if ((a : Int) == 0 && (1 : Int) == 1 && (b - a) == items.size) = true then _ else _) _ _ s
  have hno : ¬ ((a : Int) == 0 && (1 : Int) == 1 && (b - a) == items.size) = true := fun q => absurd (eq_of_beq (and3 q).1.1) (Int.ne_of_gt (Int.natCast_pos.mpr h1))
  rw [if_neg hno, pick_ab items a (b - a)]
  first
    | exact wpAny_bind (m := Builtin.Tuple.tupleExact _) (wpAny_newObj_type (wpAny_pure ⟨_, rfl, wpAny_pure h⟩) hdrop)
    | exact wpAny_bind (m := Builtin.Tuple.tupleExact _) (wpAny_newObj_type (wpAny_bind (wpAny_pure (wpAny_pure ⟨_, rfl, wpAny_pure h⟩))) hdrop)
    | exact wpAny_bind (wpAny_bind (m := Builtin.Tuple.tupleExact _) (wpAny_newObj_type (wpAny_pure (wpAny_pure ⟨_, rfl, wpAny_pure h⟩)) hdrop))
    | exact wpAny_bind (wpAny_bind (m := Builtin.Tuple.tupleExact _) (wpAny_newObj_type (wpAny_pure ⟨_, rfl, wpAny_pure h⟩) hdrop))
theorem pick_upto (items : Array Value) {h : Int} (h0 : 0 ≤ h) : slicePick items none (some h) none = (items.toList.take h.toNat).toArray := by
  obtain ⟨b, rfl⟩ := Int.eq_ofNat_of_zero_le h0
  exact slicePick_upto' items b
/-- a part of a slice -/
noncomputable def PartV (o : Option Int) (v : Value) : Prop := match o with
  | none => v = .none
  | some i => ∃ t, v = .int i t
theorem cutL_some {xs ys : List FV} {lo hi : Option Int} (h : cutL xs lo hi = some ys) : ∃ h, lo = none ∧ hi = some h ∧ (0 ≤ h ∧ xs.length ≤ lim) ∧ ys = xs.take h.toNat := by
  cases lo with
  | some _ => cases h
  | none => cases hi with
    | none => cases h
    | some i =>
      have c := SomeP.ite (P := fun a => a = ys) (SomeP.mk h rfl)
      exact ⟨i, rfl, rfl, c.1, c.2.symm⟩
theorem cutT_some {xs ys : List FV} {lo hi : Option Int} (h : cutT xs lo hi = some ys) : ∃ l h, lo = some l ∧ hi = some h ∧ (1 ≤ l ∧ l ≤ h ∧ h ≤ (xs.length : Int) ∧ xs.length ≤ lim) ∧ ys = (xs.drop l.toNat).take (h - l).toNat := by
  cases lo with
  | none => cases h
  | some l => cases hi with
    | none => cases h
    | some i =>
      have c := SomeP.ite (P := fun a => a = ys) (SomeP.mk h rfl)
      exact ⟨l, i, rfl, rfl, c.1, c.2.symm⟩
noncomputable abbrev slcObj (a b : Value) : Obj := { cls := .type "slice", data := .fields #[a, b, .none] }
theorem slice_tup {a sl : Addr} {vs : List Value} {n : Nat} {xs : List FV} {i j : Int} {t u : Tok} {Q : FV → Store → Prop} {P : Value → Shared → Prop} (g : z.s.heap.get? a = some (tupObj vs n)) (q : Vs z xs vs) (hs : z.s.heap.IsSliceOf sl (.int i t) (.int j u) .none)
    (c : 1 ≤ i ∧ i ≤ j ∧ j ≤ (xs.length : Int) ∧ xs.length ≤ lim) (h : Q (.tup ((xs.drop i.toNat).take (j - i).toNat)) z.σ) (k : KP V z Q P) : W A (getItem (.ref a) (.ref sl)) P z.s := by
  obtain ⟨i, rfl⟩ := Int.eq_ofNat_of_zero_le (Int.le_trans (by decide) c.1)
  obtain ⟨j, rfl⟩ := Int.eq_ofNat_of_zero_le (Int.le_trans (Int.natCast_nonneg i) c.2.1)
  rw [Int.toNat_sub] at h
  exact getItem_tuple_ab (tupI g) hs (Int.ofNat_le.mp c.1) (Int.ofNat_le.mp c.2.1) (size_rel q ▸ Int.ofNat_le.mp c.2.2.1) (new_tup ((q.drop i).take (j - i)) h k) (line_of (size_rel q ▸ c.2.2.2))
theorem slice_lst {a sl : Addr} {vs : List Value} {n : Nat} {xs : List FV} {h : Int} {t : Tok} {Q : FV → Store → Prop} {P : Value → Shared → Prop} (g : z.s.heap.get? a = some (lstObj vs n)) (q : Vs z xs vs) (hs : z.s.heap.IsSliceOf sl .none (.int h t) .none)
    (c : 0 ≤ h ∧ xs.length ≤ lim) (hh : newM (.lst (xs.take h.toNat)) Q z.σ) (k : KP V z Q P) : W A (getItem (.ref a) (.ref sl)) P z.s := by
  refine wpAny_getItem_list_slice (isLstO g) hs .none (.int _ _) .none (by simp) ?_ (line_of (size_rel q ▸ c.2))
  rw [pick_upto _ c.1]
  exact new_lst (q.take _) hh k
theorem slice_end {value : Expr} {lo hi : Option Expr} {p : Pos} {u vl vh : Value} {x : FV} {l h : Option Int} {Q : FV → Store → Prop} {P : Value → Shared → Prop} (r : V z x u) (rl : PartV l vl) (rh : PartV h vh) (hh : sliceM x l h Q z.σ) (k : KP V z Q P) :
    W A (subscriptTail value (.Slice lo hi none p) u (.ref z.sz)) P { z.s with heap := z.s.heap.push (slcObj vl vh) } := by
  have N : Nx [] z (z.to (z.s.heap.push (slcObj vl vh)) z.s.toks push_keep) := .to
  have hsl : (z.s.heap.push (slcObj vl vh)).IsSliceOf z.sz vl vh .none := Heap.IsSliceOf.new ..
  have k := k.then N
  induction x using FV.casesOn with
  | tup xs =>
    refine r.tupE fun a n vs g q => SomeP.on hh fun y e1 hh => (Option.map_eq_some_iff.mp e1).elim fun ys e1 => (cutT_some e1.1).elim fun i e2 => e2.elim fun j e2 => (show PartV (some i) vl from e2.1 ▸ rl).elim fun t e3 => (show PartV (some j) vh from e2.2.1 ▸ rh).elim fun t' e4 => ?_
    have g := push_keep (o := slcObj vl vh) _ _ g
    subst e3 e4
    exact tail_any (tupI g).typeIs slot_tuple_getitem.lookup (slice_tup g (N.vs q) hsl e2.2.2.1 (e2.2.2.2 ▸ e1.2 ▸ hh) k) rfl
  | ref m =>
    refine r.refE fun a e => lookL e hh fun xs vs n g q hh => SomeP.on hh fun ys e1 hh => (cutL_some e1).elim fun i e2 => (show PartV (some i) vh from e2.2.1 ▸ rh).elim fun t e4 => ?_
    have g := push_keep (o := slcObj vl vh) _ _ g
    have e3 : vl = .none := show PartV none vl from e2.1 ▸ rl
    subst e3 e4
    exact tail_any (isLstO g).typeIs slot_list_getitem.lookup (slice_lst g (N.vs q) hsl e2.2.2.1 (e2.2.2.2 ▸ hh) k) rfl
  | _ => exact hh.elim

/-! an item is stored -/
set_option maxRecDepth 100000 in
theorem setItem_lst {s : Shared} {l : Addr} {vs : List Value} {n : Nat} {i : Int} {t : Tok} {v : Value} {P : Unit → Shared → Prop} (ho : s.heap.get? l = some (lstObj vs n)) (h0 : 0 ≤ i) (hfit : i < 2 ^ 63) (hj : i.toNat < vs.length)
    (hQ : ∀ h' n', h'.get? l = some (lstObj (vs.set i.toNat v) n') → Heap.SameBut l s.heap h' → P () { s with heap := h' }) : W A (setItem (.ref l) (.int i t) v) P s := by
  have hl := isLstO ho
  unfold setItem
  try with_reducible refine wpAny_holding ?_
  first | refine wpAny_bind (wpAny_pure ?_) | skip
  refine wpAny_bind (wpAny_sequenceKey hl.typeIs (by decide) ?_)
  refine wpAny_bind (wpAny_callSpecial?_slot (name := Str.ofString "__setitem__") hl.typeIs slot_list_setitem
    (wpAny_call_entry slot_list_setitem hl.typeIs entry_list_setitem ?_ (args_list_setitem _ _ _)))
  show wpAny _ _ (Builtin.List.listSubscript? (.int i t) >>= _) _ _ s
  refine wpAny_bind (wpAny_listSubscript_int (fitsIndex_of h0 hfit) ?_)
  clear hfit
  obtain ⟨j, rfl⟩ := Int.eq_ofNat_of_zero_le h0
  show wpAny _ _ ((seqItemAt l j >>= fun r => pure (r.map (j, ·))) >>= _) _ _ s
  refine wpAny_bind (wpAny_bind (wpAny_seqItemAt ho rfl (wpAny_pure ?_)))
  rw [show vs.toArray[j]? = some (vs[j]'hj) from (List.getElem?_toArray ..).trans (List.getElem?_eq_getElem hj)]
  show wpAny _ _ (setSeqItemAt l j v >>= _) _ _ s
  refine (upd_lst (·.setIfInBounds j v) ho).elim fun k hg => ?_
  rw [Array.toList_setIfInBounds] at hg
  refine wpAny_bind (wpAny_setSeqItemAt ho rfl ?_)
  first
    | exact wpAny_bind (wpAny_pure (wpAny_pure ⟨.none, rfl, wpAny_pure (hQ _ _ hg (Heap.SameBut.update ..))⟩))
    | exact wpAny_pure ⟨.none, rfl, wpAny_pure (hQ _ _ hg (Heap.SameBut.update ..))⟩
theorem setItem_ok {m : Nat} {u v w : Value} {x i d : FV} {Q : Unit → Store → Prop} {P : Unit → Shared → Prop} (rm : Room m A) (r : V z x u) (r1 : V z i v) (rd : V z d w) (h : storeItemM x i d Q z.σ) (k : KP (fun _ _ _ => True) z Q P) : W A (setItem u v w) P z.s := by
  induction x using FV.casesOn with
  | ref l =>
    refine r.refE fun a e => lookE e h fun o m h => ?_
    induction o using MO.casesOn with
    | lst xs =>
      refine m.elim fun vs m => m.elim fun n m => intE (G := fun i => V z i v → _) h (fun i h r1 => r1.intE fun t => SomeP.on h.q fun j e1 h' => ?_) r1
      have c := idx_some e1
      have ej : i.toNat = j := c.2.2.2.2.2.elim (fun g => g.2) fun g => absurd h.d (Int.not_le.mpr g.1)
      subst ej
      exact setItem_lst m.1 h.d c.2.2.2.2.1 (m.2.len ▸ c.2.1) fun h'' n' ho' hs => putL_ok (t := z.s.toks) e hs ho' (m.2.set rd _) h' k fun _ _ => trivial
    | dct kvs =>
      refine SomeP.on h fun ys e1 h => ?_
      have c := SomeP.ite (P := fun b => b = ys) (SomeP.mk e1 rfl)
      have g := ask r1 c.1.1 m
      exact dict_set rm e g.1 g.2 rd c.1.2 (c.2 ▸ h) k
    | _ => exact h.elim
  | _ => exact h.elim
end
noncomputable abbrev fs (env : Env) : List Addr := env.locals :: env.cells.map (·.2)
/-- what stands for a call is done by the model -/
noncomputable def CallOk (n : Nat) : Prop := ∀ {A : Around} {z : Z} {f : FV} {args : List FV} {v : Value} {vs : List Value} {Q : FV → Store → Prop} {P : Value → Shared → Prop}, Room n A → V z f v → Vs z args vs → run d0.X n f args Q z.σ → KP V z Q P → W A (PySem.call v vs) P z.s
/-- what stands fast while a function's text is run -/
structure Fm where
  A : Around
  n : Nat
  env : Env
  rm : Room n A
  kind : env.scope.kind = .function
  glob : env.globals = mainGlobals
  blt : env.builtins = builtinsNs
  new : ∀ a ∈ fs env, Free d0.s.heap a
  apart : ∀ x y a, env.cells.lookup x = some a → env.cells.lookup y = some a → x = y
  apl : ∀ x a, env.cells.lookup x = some a → a ≠ env.locals
  ih : CallOk n
structure Fr (Γ : Fm) (z : Z) (c : Lc) : Prop where
  names : ∀ x, c.names.lookup x = Γ.env.kindOf x ∨ (c.names.lookup x = some .free ∧ Γ.env.kindOf x = some .cell)
  ns : ∃ mv, z.s.heap.Ns Γ.env.locals mv ∧ ∀ x d, Γ.env.kindOf x = some .local → c.m.lookup x = some d → ∃ v, mv x = some v ∧ V z d v
  cells : ∀ x, Γ.env.kindOf x = some .cell ∨ Γ.env.kindOf x = some .free → ∃ a cv, Γ.env.cells.lookup x = some a ∧ z.s.heap.IsCell a cv ∧ ∀ d, c.m.lookup x = some d → ∃ v, cv = some v ∧ V z d v
  out : ∀ a ∈ fs Γ.env, a ∉ z.ρ.drop 2 ∧ Live z.s.heap a

section
variable {Γ : Fm} {z z' : Z} {c c' : Lc} {F : List Addr}
theorem mem_fs {env : Env} {x : Str} {a : Addr} (h : env.cells.lookup x = some a) : a ∈ fs env := .tail _ (List.mem_map_of_mem (f := (·.2)) (PySem.mem_of_lookup h))
theorem Fr.to (f : Fr Γ z c) (n : Nx F z z') (k : ∀ a ∈ fs Γ.env, ∀ o, z.s.heap.get? a = some o → z'.s.heap.get? a = some o) : Fr Γ z' c :=
  ⟨f.names, f.ns.imp fun mv => And.imp (Exists.imp fun o => Exists.imp fun es => Exists.imp fun ep => And.imp (k _ (.head _) o) id) fun g x d h1 h2 => (g x d h1 h2).imp fun v => And.imp id n.v,
    fun x hx => (f.cells x hx).imp fun a => Exists.imp fun cv h => ⟨h.1, h.2.1.imp fun o => And.imp (k _ (mem_fs h.1) o) id, fun d e => (h.2.2 d e).imp fun v => And.imp id n.v⟩,
    fun a h => ⟨n.not2 (f.out a h).2 (f.out a h).1, n.live a (f.out a h).2⟩⟩
theorem Fr.nxF (f : Fr Γ z c) (n : Nx F z z') (h : ∀ a ∈ fs Γ.env, a ∉ F) : Fr Γ z' c := f.to n fun a m o e => n.ext a o (f.out a m).1 (h a m) e
theorem Fr.nx (f : Fr Γ z c) (n : Nx [] z z') : Fr Γ z' c := f.nxF n fun _ _ => List.not_mem_nil

theorem nameV_inv {X : Ctx} {x : Str} {d : FV} (h : nameV X c x = some d) : (∃ k, c.names.lookup x = some k ∧ (k = .local ∨ k = .cell ∨ k = .free) ∧ c.m.lookup x = some d) ∨ (c.names.lookup x = some .globalImplicit ∧ X.glob x = some d) := by
  unfold nameV at h
  cases hk : c.names.lookup x with
  | none => rw [hk] at h; cases h
  | some k =>
    rw [hk] at h
    induction k using NameKind.casesOn with
    | «local» => exact .inl ⟨_, rfl, .inl rfl, h⟩
    | cell => exact .inl ⟨_, rfl, .inr (.inl rfl), h⟩
    | free => exact .inl ⟨_, rfl, .inr (.inr rfl), h⟩
    | globalImplicit => exact .inr ⟨rfl, h⟩
    | _ => cases h
theorem load_ok {x : Str} {d : FV} {P : Value → Shared → Prop} (f : Fr Γ z c) (h : ∃ k, c.names.lookup x = some k ∧ (k = .local ∨ k = .cell ∨ k = .free) ∧ c.m.lookup x = some d) (hc : (x == ("__classdict__" : Str)) = false) (k : ∀ v, V z d v → P v z.s) : W Γ.A (loadName Γ.env x) P z.s := by
  refine h.elim fun kd h => ?_
  have cel : Γ.env.kindOf x = some .cell → W Γ.A (loadName Γ.env x) P z.s := fun hk => (f.cells x (.inl hk)).elim fun a g => g.elim fun cv g => (g.2.2 d h.2.2).elim fun v q => wpAny_loadName_cell Γ.kind hk g.1 (q.1 ▸ g.2.1) (k v q.2)
  refine (f.names x).elim (fun e => ?_) fun e => cel e.2
  have e := e.symm.trans h.1
  refine h.2.1.elim (fun q => ?_) fun q => q.elim (fun q => cel (q ▸ e)) fun q => ?_
  · exact f.ns.elim fun mv g => (g.2 x d (q ▸ e) h.2.2).elim fun v r => wpAny_loadName_local Γ.kind (q ▸ e) g.1 r.1 (k v r.2)
  · exact (f.cells x (.inr (q ▸ e))).elim fun a g => g.elim fun cv g => (g.2.2 d h.2.2).elim fun v r => wpAny_loadName_free Γ.kind (q ▸ e) g.1 (r.1 ▸ g.2.1) (k v r.2) hc
theorem okN_1 {x : Str} (h : okN x = true) : (x == ("__debug__" : Str)) = false := (Bool.not_eq_true' _).mp (and2 h).1
theorem okN_2 {x : Str} (h : okN x = true) : (x == ("__classdict__" : Str)) = false := (Bool.not_eq_true' _).mp (and2 h).2
theorem Z.up0 (z : Z) : Up ⟨d0.s.heap, z.ρ⟩ z.p := ⟨fun a o _ e => z.st.keep a o e, fun _ _ e => e⟩
theorem load_glob {x : Str} {P : Value → Shared → Prop} {s : Shared} (hx : Γ.env.kindOf x = some .globalImplicit) (h : W Γ.A (loadGlobal Γ.env x) P s) : W Γ.A (loadName Γ.env x) P s := by
  unfold loadName
  simp only [Env.blockKind, Γ.kind, hx, ScopeKind.isAnnotationScope, Bool.false_and, Bool.false_eq_true, if_false]
  exact h
theorem loadV_ok {x : Str} {Q : FV → Store → Prop} {P : Value → Shared → Prop} (hx : okN x = true) (f : Fr Γ z c) (h : SomeP (nameV d0.X c x) fun d => Q d z.σ) (k : KP V z Q P) : W Γ.A (loadName Γ.env x) P z.s :=
  SomeP.on h fun d e q => (nameV_inv e).elim (fun g => load_ok f g (okN_2 hx) fun v r => k.now r q) fun g => z.st.good.glob.elim fun mg G => G.elim fun mb G => (G.at_ x d g.2).elim fun u h => by
    have hk : Γ.env.kindOf x = some .globalImplicit := (f.names x).elim (fun e => e.symm.trans g.1) fun e => nomatch e.1.symm.trans g.1
    have fin := k.now ((h.2 z.ρ z.st.zero).up z.up0) q
    exact load_glob hk (h.1.elim (fun h => Calls.loadGlobal_global (by rw [Γ.glob]; exact G.g.keeps z.st.keep) h fin) fun h => Calls.loadGlobal_builtin (by rw [Γ.glob]; exact G.g.keeps z.st.keep) h.1 (by rw [Γ.blt]; exact G.b.keeps z.st.keep) h.2 fin)
theorem name_ok {x : Str} {pos : Pos} {Q : FV → Store → Prop} {P : Value → Shared → Prop} (hx : okN x = true) (f : Fr Γ z c) (h : SomeP (nameV d0.X c x) fun d => Q d z.σ) (k : KP V z Q P) : W Γ.A (eval (.Name x pos) Γ.env) P z.s := wpAny_Name (loadV_ok hx f h k) (okN_1 hx)
theorem const_ok {A : Around} {env : Env} {i : Const} {u : Nat} {pos : Pos} {Q : FV → Store → Prop} {P : Value → Shared → Prop} (h : SomeP (constV i) fun v => Q v z.σ) (k : KP V z Q P) : W A (eval (.Constant i u pos) env) P z.s := by
  induction i using Const.casesOn with
  | none => exact wpAny_Constant_none (k.now .none h)
  | bool v => exact wpAny_Constant_bool (k.now .bool h)
  | int v => exact wpAny_Constant_int (k.tok _ .int h)
  | str v => exact wpAny_Constant_str (k.tok _ .str h)
  | _ => exact h.elim

theorem lookup_attPut (x : Str) (d : FV) (y : Str) : ∀ m : List (Str × FV), (attPut x d m).lookup y = if y = x then some d else m.lookup y
  | [] => by
    rw [show attPut x d [] = [(x, d)] from rfl, List.lookup_cons]
    by_cases h : y = x
    · rw [if_pos h, beq_iff_eq.mpr h]
    · rw [if_neg h, beq_eq_false_iff_ne.mpr h]
  | (a, b) :: r => by
    by_cases ha : a = x
    · rw [show attPut x d ((a, b) :: r) = (a, d) :: r from if_pos ha, List.lookup_cons, List.lookup_cons, ha]
      by_cases h : y = x
      · rw [if_pos h, beq_iff_eq.mpr h]
      · rw [if_neg h, beq_eq_false_iff_ne.mpr h]
    · rw [show attPut x d ((a, b) :: r) = (a, b) :: attPut x d r from if_neg ha, List.lookup_cons, List.lookup_cons, lookup_attPut x d y r]
      by_cases h : y = x
      · rw [if_pos h, if_pos h, beq_eq_false_iff_ne.mpr fun e => ha (e.symm.trans h)]
      · rw [if_neg h, if_neg h]
theorem setN_inv {x : Str} {d : FV} (e : setN c x d = some c') : (c.names.lookup x = some .local ∨ c.names.lookup x = some .cell) ∧ c' = ⟨c.names, attPut x d c.m⟩ := by
  unfold setN at e
  cases hk : c.names.lookup x with
  | none => rw [hk] at e; cases e
  | some k =>
    rw [hk] at e
    induction k using NameKind.casesOn with
    | «local» => exact ⟨.inl rfl, (Option.some.inj e).symm⟩
    | cell => exact ⟨.inr rfl, (Option.some.inj e).symm⟩
    | _ => cases e
/-- the names behind a store -/
theorem attPut_some {x y : Str} {d e : FV} {m : List (Str × FV)} (h : (attPut x d m).lookup y = some e) : (y = x ∧ d = e) ∨ (y ≠ x ∧ m.lookup y = some e) := by
  rw [lookup_attPut] at h
  by_cases q : y = x
  · rw [if_pos q] at h; exact .inl ⟨q, Option.some.inj h⟩
  · rw [if_neg q] at h; exact .inr ⟨q, h⟩
theorem not_rho {a : Addr} (h1 : a ∉ z.ρ.drop 2) (h2 : Free d0.s.heap a) : a ∉ z.ρ := fun hm => by
  obtain ⟨l, e⟩ := List.getElem?_of_mem hm
  match l, e with
  | 0, e => exact (Option.some.inj (z.st.zero.symm.trans e) ▸ z.st.good.k0.obj.imp fun _ => And.left : Live _ a).no h2
  | 1, e => exact (Option.some.inj (z.st.one.symm.trans e) ▸ z.st.good.l0.obj.imp fun _ => And.left : Live _ a).no h2
  | l + 2, e => exact h1 (mem_drop2 (Nat.le_add_left _ _) e)
theorem fix_cell {o : Obj} {v} (h : o.data = .cell v) : fixd o = false := by unfold fixd; rw [h]
theorem SameBut.o {a : Addr} {h h' : Heap} (hs : Heap.SameBut a h h') (c : Addr) (o : Obj) (q : c ≠ a) (e : h.get? c = some o) : h'.get? c = some o := (hs.2 c q).trans e
theorem store_ok {x : Str} {v : Value} {d : FV} {P : Unit → Shared → Prop} (f : Fr Γ z c) (r : V z d v) (e : setN c x d = some c') (k : ∀ z', Nx (fs Γ.env) z z' → z'.σ = z.σ → z'.ρ = z.ρ → Fr Γ z' c' → P () z'.s) : W Γ.A (storeName Γ.env x v) P z.s := by
  have i := setN_inv e
  have pk : (Γ.env.scope.kind == .class || (Γ.env.scope.kind == .module && Γ.env.locals != Γ.env.globals)) = false := by rw [Γ.kind]; rfl
  have kn : ∀ kd, c.names.lookup x = some kd → kd ≠ .free → Γ.env.kindOf x = some kd := fun kd h1 h2 => (f.names x).elim (fun h => h.symm.trans h1) fun h => absurd (Option.some.inj (h1.symm.trans h.1)) h2
  rw [i.2] at k
  -- what an object of the frame is turned to
  have fin : ∀ a h' t o, a ∈ fs Γ.env → (hs : Heap.SameBut a z.s.heap h') → Live h' a → z.s.heap.get? a = some o → fixd o = false →
      ((∀ {d v}, V z d v → VRel ⟨h', z.ρ⟩ d v) → (∃ mv, h'.Ns Γ.env.locals mv ∧ ∀ x' d', Γ.env.kindOf x' = some .local → (attPut x d c.m).lookup x' = some d' → ∃ v, mv x' = some v ∧ VRel ⟨h', z.ρ⟩ d' v) ∧
        ∀ x', Γ.env.kindOf x' = some .cell ∨ Γ.env.kindOf x' = some .free → ∃ a cv, Γ.env.cells.lookup x' = some a ∧ h'.IsCell a cv ∧ ∀ d', (attPut x d c.m).lookup x' = some d' → ∃ v, cv = some v ∧ VRel ⟨h', z.ρ⟩ d' v) → P () { z.s with heap := h', toks := t } := fun a h' t o m hs lv ho hf g => by
    have im := Imm.but (SameBut.o hs) ho hf
    have g := g fun r => r.up im.up
    have ha := not_rho (f.out a m).1 (Γ.new a m)
    have N : Nx (fs Γ.env) z (z.off a h' t ha (Γ.new a m) (SameBut.o hs) im) := .off (.inl ⟨m, lv⟩)
    exact k _ N rfl rfl ⟨f.names, g.1, g.2, fun b hb => ⟨(f.out b hb).1, N.live b (f.out b hb).2⟩⟩
  refine i.1.elim (fun hk => ?_) fun hk => ?_
  · have hl := kn _ hk (fun e => nomatch e)
    refine f.ns.elim fun mv g => wpAny_storeName_local hl g.1 (fun h' hn hs => g.1.elim fun o q => q.elim fun es q => q.elim fun ep q => fin _ h' _ o (.head _) hs (hn.imp fun _ q => q.elim fun _ q => q.elim fun _ q => q.1) q.1 (fix_dict q.2.1) fun up => ⟨⟨_, hn, fun y dy h1 h2 => ?_⟩, fun y hy => ?_⟩) pk
    · refine (attPut_some h2).elim (fun h => ⟨v, if_pos h.1, h.2 ▸ up r⟩) fun h => (g.2 y dy h1 h.2).imp fun u q => ⟨(if_neg h.1).trans q.1, up q.2⟩
    · refine (f.cells y hy).imp fun a => Exists.imp fun cv q => ⟨q.1, q.2.1.sameBut hs (Γ.apl y a q.1), fun dy h2 => (attPut_some h2).elim (fun h => ?_) fun h => (q.2.2 dy h.2).imp fun u q => ⟨q.1, up q.2⟩⟩
      exact hy.elim (fun hy => nomatch (h.1 ▸ hy).symm.trans hl) fun hy => nomatch (h.1 ▸ hy).symm.trans hl
  · have hl := kn _ hk (fun e => nomatch e)
    refine (f.cells x (.inl hl)).elim fun a g => g.elim fun cv g => wpAny_storeName_cell Γ.kind hl g.1 g.2.1 fun h' hc hs => g.2.1.elim fun o q => fin a h' z.s.toks o (mem_fs g.1) hs (hc.imp fun _ => And.left) q.1 (fix_cell q.2) fun up => ⟨f.ns.imp fun mv n => ⟨n.1.sameBut hs (Γ.apl x a g.1).symm, fun y dy h1 h2 => (attPut_some h2).elim (fun h => nomatch (h.1 ▸ h1).symm.trans hl) fun h => (n.2 y dy h1 h.2).imp fun u q => ⟨q.1, up q.2⟩⟩, fun y hy => ?_⟩
    by_cases q : y = x
    · subst q
      exact ⟨a, some v, g.1, hc, fun dy h2 => (attPut_some h2).elim (fun h => ⟨v, rfl, h.2 ▸ up r⟩) fun h => absurd rfl h.1⟩
    · refine (f.cells y hy).imp fun b => Exists.imp fun cv' g' => ⟨g'.1, g'.2.1.sameBut hs fun e => q (Γ.apart y x a (e ▸ g'.1) g.1), fun dy h2 => (attPut_some h2).elim (fun h => absurd h.1 q) fun h => (g'.2.2 dy h.2).imp fun u q => ⟨q.1, up q.2⟩⟩
end
/-- as it was, but for one object that is no label's -/
structure But (I : Addr) (z z' : Z) : Prop where
  σ : z'.σ = z.σ
  ρ : z'.ρ = z.ρ
  get : ∀ a o, a ≠ I → z.s.heap.get? a = some o → z'.s.heap.get? a = some o
  imm : Imm z.s.heap z'.s.heap
/-- an iterator over x, where its i-th item is next -/
noncomputable def ItAt (p : Pt) (I : Addr) (x : FV) (i : Nat) : Prop := match x with
  | .ref l => ∃ a, p.ρ[l]? = some a ∧ p.h.IsListIter I a i
  | .tup xs => ∃ a vs n, p.h.get? a = some (tupObj vs n) ∧ F2 (VRel p) xs vs ∧ p.h.IsTupleIter I a i
  | .rng lo hi => lo = 0 ∧ i ≤ hi.toNat ∧ IsRangeIter p.h I (i : Int) ((hi.toNat : Int) - i) 1
  | _ => False
section
variable {A : Around} {z z₀ z' : Z} {I : Addr} {x : FV} {i : Nat} {F : List Addr} {p p' : Pt}
theorem But.up (b : But I z z') : Up z.p z'.p := ⟨b.imm, fun l a e => (congrArg (fun r : Rho => r[l]?) b.ρ).trans e⟩
theorem But.nx (b : But I z z') (n : Nx F z₀ z) (f : Free z₀.s.heap I) : Nx F z₀ z' :=
  ⟨n.pre.imp fun r h => ⟨b.ρ.trans h.1, h.2⟩, fun a o h e => b.imm a o h (n.imm a o h e), fun a o h1 h2 e => b.get a o (fun q => Live.no ⟨o, (q ▸ e : z₀.s.heap.get? I = some o)⟩ f) (n.ext a o h1 h2 e), fun a l => (n.live a l).imp fun o e => b.get a o (fun q => (q ▸ l : Live _ I).no f) e⟩
theorem But.of {h : Heap} {t : Nat} {ha h0 hs im} : But I z (z.off I h t ha h0 hs im) := ⟨rfl, rfl, hs, im⟩
theorem fix_iter {o : Obj} {vs} (hc : o.cls ≠ .type "range") (h : o.data = .fields vs) : fixd o = false := by unfold fixd; rw [h]; exact decide_eq_false hc
theorem ItAt.obj (t : ItAt p I x i) : ∃ o, p.h.get? I = some o ∧ fixd o = false ∧ ∃ vs, o.data = .fields vs := by
  induction x using FV.casesOn with
  | ref l => exact t.elim fun a t => t.2.imp fun o q => ⟨q.1, fix_iter (by rw [q.2.1]; decide) q.2.2, _, q.2.2⟩
  | tup xs => exact t.elim fun a t => t.elim fun vs t => t.elim fun n t => t.2.2.imp fun o q => ⟨q.1, fix_iter (by rw [q.2.1]; decide) q.2.2, _, q.2.2⟩
  | rng _ _ => exact ⟨_, t.2.2, fix_iter (show Value.type "range_iterator" ≠ .type "range" by decide) rfl, _, rfl⟩
  | _ => exact t.elim
theorem ItAt.keep (t : ItAt p I x i) (u : Up p p') (k : ∀ o, p.h.get? I = some o → p'.h.get? I = some o) : ItAt p' I x i := by
  induction x using FV.casesOn with
  | ref l => exact t.imp fun a t => ⟨u.pre _ _ t.1, t.2.imp fun o q => ⟨k o q.1, q.2⟩⟩
  | tup xs => exact t.imp fun a => Exists.imp fun vs => Exists.imp fun n t => ⟨u.imm _ _ rfl t.1, u.vs t.2.1, t.2.2.imp fun o q => ⟨k o q.1, q.2⟩⟩
  | rng _ _ => exact ⟨t.1, t.2.1, k _ t.2.2⟩
  | _ => exact t.elim
theorem rng_fit {y : Int} (h1 : -2000000 ≤ y) (h2 : y ≤ 2000000) : Builtin.Range.rangeFitsLong y = true := by
  unfold Builtin.Range.rangeFitsLong
  exact Bool.and_eq_true_iff.mpr ⟨decide_eq_true (Int.le_trans (by decide) h1), decide_eq_true (Int.lt_of_le_of_lt h2 (by decide))⟩
theorem iter_ok {v : Value} {Q : List FV → Store → Prop} {P : Value → Shared → Prop} (r : V z x v) (h : itemsM x Q z.σ) (k : ∀ z', Nx [] z z' → But z.sz z z' → ItAt z'.p z.sz x 0 → (∃ xs, Q xs z.σ) → P (.ref z.sz) z'.s) : W A (pyIter v) P z.s := by
  have fin : ∀ ob, ItAt ⟨z.s.heap.push ob, z.ρ⟩ z.sz x 0 → (∃ xs, Q xs z.σ) → P (.ref z.sz) { z.s with heap := z.s.heap.push ob } := fun ob t q => k (z.to (z.s.heap.push ob) z.s.toks push_keep) .to .of t q
  induction x using FV.casesOn with
  | ref l => exact r.refE fun a e => lookL e h fun xs vs n g q h => wpAny_pyIter_list (isLstO g) (fin _ ⟨a, e, _, Heap.get?_push_size _ rfl, rfl, rfl⟩ ⟨xs, h⟩)
  | tup xs => exact r.tupE fun a n vs g q => wpAny_pyIter_tuple (isTupO g) (fin _ ⟨a, vs, n, push_keep _ _ g, (Nx.to (F := []) (k := push_keep) (t := 0)).vs q, _, Heap.get?_push_size _ rfl, rfl, rfl⟩ ⟨xs, h⟩)
  | rng lo hi =>
    have c := h.d
    cases c.1
    have hsz : Builtin.Range.rangeSize 0 hi 1 = (hi.toNat : Int) := by
      unfold Builtin.Range.rangeSize
      rw [if_pos (by decide)]
      by_cases q : (0 : Int) < hi
      · rw [if_pos q, Int.ediv_one, Int.sub_zero, Int.sub_add_cancel, Int.toNat_of_nonneg (Int.le_of_lt q)]
      · rw [if_neg q, Int.toNat_of_nonpos (Int.not_lt.mp q)]; rfl
    refine r.rngE fun a t u w g => wpAny_pyIter_range g ?_ (fin _ ⟨rfl, Nat.zero_le _, ?_⟩ ⟨_, h.q⟩)
    · have l1 : -2000000 ≤ hi := Int.le_trans (by decide) c.2.1
      have l2 : hi ≤ 2000000 := Int.le_trans c.2.2 (by decide)
      have l3 : (hi.toNat : Int) ≤ 2000000 := by lia
      have l4 : hi + (1 - 1) = hi := Int.add_zero hi
      unfold Builtin.Range.small
      rw [hsz, rng_fit (y := 0) (by decide) (by decide), rng_fit l1 l2, rng_fit (y := 1) (by decide) (by decide), rng_fit (Int.le_trans (by decide) (Int.natCast_nonneg _)) l3, if_pos (by decide), l4, rng_fit l1 l2]
      exact Bool.or_true _
    · rw [hsz]; exact Heap.get?_push_size z.s.heap rfl
  | _ => exact h.elim
theorem next_ok {Q : List FV → Store → Prop} {P : Option Value → Shared → Prop} (hh : A.handled = none) (hI : I ∉ z.ρ) (h0 : Free d0.s.heap I) (t : ItAt z.p I x i) (h : itemsM x Q z.σ)
    (ks : ∀ z' xs y u, But I z z' → Live z'.s.heap I → ItAt z'.p I x (i + 1) → xs[i]? = some y → V z' y u → Q xs z.σ → P (some u) z'.s) (kn : ∀ z' xs, But I z z' → xs[i]? = none → Q xs z.σ → P none z'.s) : W A (pyNext (.ref I)) P z.s := by
  have ob := t.obj
  have fs : ∀ h' tk xs y u, Heap.SameBut I z.s.heap h' → Live h' I → (Up z.p ⟨h', z.ρ⟩ → ItAt ⟨h', z.ρ⟩ I x (i + 1)) → xs[i]? = some y → V z y u → Q xs z.σ → P (some u) { z.s with heap := h', toks := tk } := fun h' tk xs y u hs lv it e r q => ob.elim fun o ob =>
    have im := Imm.but (SameBut.o hs) ob.1 ob.2.1
    ks (z.off I h' tk hI h0 (SameBut.o hs) im) xs y u .of lv (it im.up) e (r.up im.up) q
  have fn : ∀ h' xs, Heap.ExtBut I z.s.heap h' → xs[i]? = none → Q xs z.σ → P none { z.s with heap := h' } := fun h' xs hs e q => ob.elim fun o ob => kn (z.off I h' z.s.toks hI h0 hs (Imm.but hs ob.1 ob.2.1)) xs .of e q
  induction x using FV.casesOn with
  | ref l =>
    refine t.elim fun a t => lookL t.1 h fun xs vs n g q h => ?_
    cases hx : xs[i]? with
    | some y =>
      have hy := List.getElem?_eq_getElem (l := vs) (i := i) (q.len ▸ (List.getElem?_eq_some_iff.mp hx).1)
      exact wpAny_pyNext_list_item t.2 (isLstO g) ((List.getElem?_toArray ..).trans hy) fun h' it' hs => fs h' z.s.toks xs y _ hs (it'.imp fun _ => And.left) (fun _ => ⟨a, t.1, it'⟩) hx (q.get hx hy) h
    | none => exact wpAny_pyNext_list_end hh t.2 (isLstO g) ((List.getElem?_toArray ..).trans (List.getElem?_eq_none_iff.mpr (q.len ▸ List.getElem?_eq_none_iff.mp hx))) fun h' hs => fn h' xs hs hx h
  | tup xs =>
    refine t.elim fun a t => t.elim fun vs t => t.elim fun n t => ?_
    cases hx : xs[i]? with
    | some y =>
      have hy := List.getElem?_eq_getElem (l := vs) (i := i) (t.2.1.len ▸ (List.getElem?_eq_some_iff.mp hx).1)
      exact wpAny_pyNext_tuple_item t.2.2 (isTupO t.1) ((List.getElem?_toArray ..).trans hy) fun h' it' hs => fs h' z.s.toks xs y _ hs (it'.imp fun _ => And.left) (fun u => ⟨a, vs, n, u.imm _ _ rfl t.1, u.vs t.2.1, it'⟩) hx (t.2.1.get hx hy) h
    | none => exact wpAny_pyNext_tuple_end hh t.2.2 (isTupO t.1) ((List.getElem?_toArray ..).trans (List.getElem?_eq_none_iff.mpr (t.2.1.len ▸ List.getElem?_eq_none_iff.mp hx))) fun h' hs => fn h' xs hs hx h
  | rng lo hi =>
    cases t.1
    by_cases hx : i < hi.toNat
    · have hy : ((List.range (hi - 0).toNat).map fun (k : Nat) => FV.int (0 + (k : Int)))[i]? = some (.int i) := by
        rw [Int.sub_zero, List.getElem?_map, List.getElem?_range hx]; exact congrArg (some ∘ FV.int) (Int.zero_add _)
      refine wpAny_pyNext_range_item t.2.2 (Int.sub_pos_of_lt (Int.ofNat_lt.mpr hx)) fun h' it' hs => fs h' _ _ _ _ hs ⟨_, it'⟩ (fun _ => ⟨rfl, hx, ?_⟩) hy .int h.q
      rw [Int.natCast_succ, ← Int.sub_sub]; exact it'
    · have hy : ((List.range (hi - 0).toNat).map fun (k : Nat) => FV.int (0 + (k : Int)))[i]? = none := by
        rw [Int.sub_zero, List.getElem?_map, List.getElem?_eq_none (by rw [List.length_range]; exact Nat.le_of_not_lt hx)]; rfl
      exact wpAny_pyNext_range_end hh t.2.2 (Int.sub_nonpos_of_le (Int.ofNat_le.mpr (Nat.le_of_not_lt hx))) fun h' hs => fn h' _ hs hy h.q
  | _ => exact t.elim
theorem self_iter {P : Value → Shared → Prop} (t : ItAt z.p I x i) (h : P (.ref I) z.s) : W A (pyIter (.ref I)) P z.s := by
  induction x using FV.casesOn with
  | ref l => exact t.elim fun a t => wpAny_pyIter_listiter t.2 h
  | tup xs => exact t.elim fun a t => t.elim fun vs t => t.elim fun n t => wpAny_pyIter_tupleiter t.2.2 h
  | rng _ _ => exact wpAny_pyIter_rangeiter t.2.2 h
  | _ => exact t.elim
end
theorem anyE {α : Type} {A : Around} {t : Sem α} {P : α → Shared → Prop} {s : Shared} {E : Value → Shared → Prop} (h : W A t P s) : wpAny (model d0.prog d0.w) A t P E s := wpAny_mono h (fun _ _ x => x) fun _ _ x => x.elim
/-! what a comprehension is handed -/
noncomputable def clStep (env : Env) (n : Str) (k : NameKind) (acc : List (Str × Addr)) : List (Str × Addr) := if k = .free then (match env.cells.lookup n with | some a => (n, a) :: acc | none => acc) else acc
noncomputable def clGo (env : Env) : List (Str × NameKind) → List (Str × Addr) → List (Str × Addr)
  | [], acc => acc
  | (n, k) :: r, acc => clGo env r (clStep env n k acc)
theorem clStep_free {env : Env} {n : Str} {a : Addr} {acc : List (Str × Addr)} (h : env.cells.lookup n = some a) : clStep env n .free acc = (n, a) :: acc := by unfold clStep; rw [if_pos rfl, h]
theorem clStep_not {env : Env} {n : Str} {k : NameKind} {acc : List (Str × Addr)} (h : k ≠ .free) : clStep env n k acc = acc := if_neg h
noncomputable abbrev CellsOf (env : Env) (names : List (Str × NameKind)) : Prop := ∀ p ∈ names, p.2 = .free → ∃ a, env.cells.lookup p.1 = some a
section
variable {env : Env}
theorem clGo_sub : ∀ {names : List (Str × NameKind)} {acc : List (Str × Addr)}, CellsOf env names → (∀ p ∈ acc, env.cells.lookup p.1 = some p.2) → ∀ p ∈ clGo env names acc, env.cells.lookup p.1 = some p.2
  | [], _, _, h => h
  | (n, k) :: r, acc, hf, h => clGo_sub (names := r) (acc := clStep env n k acc) (fun p hp => hf p (.tail _ hp)) (by
    by_cases e : k = .free
    · subst e
      refine (hf _ (.head _) rfl).elim fun a ha => ?_
      rw [clStep_free (n := n) ha]
      exact fun p hp => (List.mem_cons.mp hp).elim (fun e => e ▸ ha) (h p)
    · rw [clStep_not e]; exact h)
theorem clGo_has {x : Str} : ∀ {names : List (Str × NameKind)} {acc : List (Str × Addr)}, CellsOf env names → ((x, NameKind.free) ∈ names ∨ ∃ a, acc.lookup x = some a) → ∃ a, (clGo env names acc).lookup x = some a
  | [], _, _, h => h.elim (fun h => nomatch h) id
  | (n, k) :: r, acc, hf, h => clGo_has (names := r) (acc := clStep env n k acc) (fun p hp => hf p (.tail _ hp)) (by
    by_cases e : k = .free
    · subst e
      refine (hf _ (.head _) rfl).elim fun a ha => ?_
      rw [clStep_free (n := n) ha, List.lookup_cons]
      cases q : x == n with
      | true => exact .inr ⟨a, rfl⟩
      | false => exact h.imp (fun h => (List.mem_cons.mp h).elim (fun e => by cases e; rw [beq_self_eq_true] at q; cases q) id) id
    · rw [clStep_not e]; exact h.imp (fun h => (List.mem_cons.mp h).elim (fun q => absurd (congrArg Prod.snd q).symm e) id) id)
theorem closure_go (f : Str × NameKind → List (Str × Addr) → Sem (ForInStep (List (Str × Addr))))
    (hfe : ∀ p cs, f p cs = if (p.2 == NameKind.free) = true then (cellOf env p.1 >>= fun a => pure (ForInStep.yield ((p.1, a) :: cs))) else pure (ForInStep.yield cs)) :
    ∀ (names : List (Str × NameKind)) (acc : List (Str × Addr)), CellsOf env names → (forIn names acc f : Sem _) = pure (clGo env names acc)
  | [], acc, _ => rfl
  | (n, k) :: r, acc, hf => by
    rw [List.forIn_cons, hfe, clGo]
    by_cases hk : k = .free
    · subst hk
      refine (hf _ (.head _) rfl).elim fun a ha => ?_
      rw [clStep_free (n := n) ha, if_pos (by rfl), show cellOf env n = pure a by unfold cellOf; rw [show env.cells.lookup n = some a from ha]]
      exact closure_go f hfe r _ fun p hp => hf p (.tail _ hp)
    · rw [clStep_not hk, if_neg (fun q => hk (eq_of_beq q))]
      exact closure_go f hfe r _ fun p hp => hf p (.tail _ hp)
theorem closure_eq {scope : Scope} (hf : CellsOf env scope.names) : closureFor scope env = pure (clGo env scope.names []) := by
  unfold closureFor
  have := closure_go (fun x cs => match x with
            | (name, kind) =>
              if (kind == NameKind.free) = true then cellOf env name >>= fun a => pure (ForInStep.yield ((name, a) :: cs))
              else pure (ForInStep.yield cs)) (fun p cs => rfl) scope.names [] hf
  dsimp only at this ⊢
  rw [this]
  rfl
end
theorem lookup_map_kind (f : Str → NameKind → NameKind) (x : Str) : ∀ names : List (Str × NameKind), (names.map fun p => (p.1, f p.1 p.2)).lookup x = (names.lookup x).map (f x)
  | [] => rfl
  | (n, k) :: r => by
    rw [List.map_cons, List.lookup_cons, List.lookup_cons, lookup_map_kind f x r]
    cases q : x == n with
    | true => rw [eq_of_beq q]; rfl
    | false => rfl
theorem relabel_lookup (sc : Scope) (env : Env) (x : Str) : (relabel sc env).names.lookup x = (sc.names.lookup x).map fun k => if (k == .free && env.scope.kind == .function && env.kindOf x == some .cell) = true then .cell else k := by
  unfold relabel
  rw [← lookup_map_kind (fun n k => if (k == .free && env.scope.kind == .function && env.kindOf n == some .cell) = true then .cell else k)]
  refine congrArg (List.lookup x) (List.map_congr_left fun p _ => ?_)
  obtain ⟨n, k⟩ := p
  dsimp only
  split <;> rfl
section
variable {Γ : Fm} {z : Z} {c : Lc} {sc : Scope} {t : Str} {C : Addr}
structure ScOk (sc : Scope) (t : Str) : Prop where
  kind : sc.kind = .function
  cell : ∀ p ∈ sc.names, p.2 ≠ .cell
  loc : ∀ p ∈ sc.names, p.2 = .local → sc.names.lookup p.1 = some .local
  at_ : sc.names.lookup t = some .local
  free : ∀ p ∈ sc.names, p.2 = .free → sc.names.lookup p.1 = some .free
theorem scOk_of (h : scOk sc t = true) : ScOk sc t := by
  have h1 := and2 h
  have h2 := and2 h1.1
  have h3 := and3 h2.1
  have or_of : ∀ {k : NameKind} {x : Str}, (sc.names.all fun p => p.2 != k || sc.names.lookup p.1 == some k) = true → ∀ p ∈ sc.names, p.2 = k → sc.names.lookup p.1 = some k := fun h p hp e => (Bool.or_eq_true_iff.mp (List.all_eq_true.mp h p hp)).elim (fun q => absurd e (bne_iff_ne.mp q)) eq_of_beq
  exact ⟨eq_of_beq h3.1.1, fun p hp => bne_iff_ne.mp (List.all_eq_true.mp h3.1.2 p hp), or_of (x := t) h3.2, eq_of_beq h2.2, or_of (x := t) h1.2⟩
theorem handed_at (f : Fr Γ z c) (hh : handed sc c.names = true) (p : Str × NameKind) (hp : p ∈ sc.names) (hk : p.2 = .free) : Γ.env.kindOf p.1 = some .cell ∨ Γ.env.kindOf p.1 = some .free := by
  have h := List.all_eq_true.mp hh p hp
  rw [hk] at h
  exact (f.names p.1).elim (fun e => (Bool.or_eq_true_iff.mp h).elim (fun h => .inr (e.symm.trans (eq_of_beq h))) fun h => .inl (e.symm.trans (eq_of_beq h))) fun e => .inl e.2
theorem cells_of (f : Fr Γ z c) (hh : handed sc c.names = true) : CellsOf Γ.env sc.names := fun p hp hk => (f.cells p.1 (handed_at f hh p hp hk)).imp fun a h => h.elim fun _ h => h.1
theorem lookup_filter {p : Str × FV → Bool} {x : Str} {d : FV} (hp : ∀ a b : FV, p (x, a) = p (x, b)) : ∀ {m : List (Str × FV)}, (m.filter p).lookup x = some d → m.lookup x = some d
  | [], h => h
  | (n, u) :: m, h => by
    rw [List.lookup_cons]
    by_cases g : p (n, u) = true
    · rw [List.filter_cons_of_pos g, List.lookup_cons] at h
      cases q : x == n with
      | true => rw [q] at h; exact h
      | false => rw [q] at h; exact lookup_filter hp h
    · rw [List.filter_cons_of_neg g] at h
      cases q : x == n with
      | true => exact absurd ((hp _ _).trans (List.mem_filter.mp (PySem.mem_of_lookup h)).2) (eq_of_beq q ▸ g)
      | false => exact lookup_filter hp h
/-- the frame of a comprehension -/
noncomputable def Fm.comp (Γ : Fm) (sc : Scope) (C : Addr) (k : sc.kind = .function) (cl : CellsOf Γ.env sc.names) (h0 : Free d0.s.heap C) (hC : C ∉ fs Γ.env) : Fm :=
  have sub : ∀ x a, (clGo Γ.env sc.names []).lookup x = some a → Γ.env.cells.lookup x = some a := fun x a h => clGo_sub cl (acc := []) (fun _ h => nomatch h) (x, a) (PySem.mem_of_lookup h)
  ⟨Γ.A, Γ.n, compEnvC sc (clGo Γ.env sc.names []) C Γ.env, Γ.rm, k, Γ.glob, Γ.blt,
    fun a h => (List.mem_cons.mp h).elim (fun e => e ▸ h0) fun h => (List.mem_map.mp h).elim fun p h => h.2 ▸ Γ.new p.2 (mem_fs (clGo_sub cl (acc := []) (fun _ h => nomatch h) p h.1)),
    fun x y a h1 h2 => Γ.apart x y a (sub x a h1) (sub y a h2), fun x a h (q : a = C) => hC (q ▸ mem_fs (sub x a h)), Γ.ih⟩
theorem comp_frame {mv : Str → Option Value} {v : Value} {x : FV} {k cl h0 hC} (hs : ScOk sc t) (f : Fr Γ z c) (hh : handed sc c.names = true) (hns : z.s.heap.Ns C mv) (hv : mv t = some v) (r : V z x v) (h1 : C ∉ z.ρ.drop 2) :
    Fr (Γ.comp sc C k cl h0 hC) z ⟨sc.names, compM sc t x c.m⟩ := by
  -- what a name of the comprehension is in its own text
  have own : ∀ y k', (Γ.comp sc C k cl h0 hC).env.kindOf y = some k' → sc.names.lookup y = some k' ∨ (sc.names.lookup y = some .free ∧ k' = .cell) := fun y k' e => by
    refine (Option.map_eq_some_iff.mp ((relabel_lookup sc Γ.env y).symm.trans e)).elim fun q e => ?_
    by_cases g : (q == .free && Γ.env.scope.kind == .function && Γ.env.kindOf y == some .cell) = true
    · exact .inr ⟨eq_of_beq (and3 g).1.1 ▸ e.1, (e.2.symm.trans (if_pos g))⟩
    · exact .inl (e.1.trans (congrArg some ((if_neg g).symm.trans e.2)))
  have fre : ∀ y, (Γ.comp sc C k cl h0 hC).env.kindOf y = some .cell ∨ (Γ.comp sc C k cl h0 hC).env.kindOf y = some .free → sc.names.lookup y = some .free := fun y hy =>
    hy.elim (fun e => (own y _ e).elim (fun e => absurd rfl (hs.cell _ (PySem.mem_of_lookup e))) And.left) fun e => (own y _ e).elim id And.left
  refine ⟨fun y => ?_, ⟨mv, hns, fun y d e1 e2 => ?_⟩, fun y hy => ?_, fun a ha => ?_⟩
  · rw [show (Γ.comp sc C k cl h0 hC).env.kindOf y = _ from relabel_lookup sc Γ.env y]
    cases e : sc.names.lookup y with
    | none => exact .inl rfl
    | some q =>
      by_cases g : (q == .free && Γ.env.scope.kind == .function && Γ.env.kindOf y == some .cell) = true
      · exact .inr ⟨congrArg some (eq_of_beq (and3 g).1.1), congrArg some (if_pos g)⟩
      · exact .inl (congrArg some (if_neg g)).symm
  · refine (attPut_some e2).elim (fun h => ⟨v, h.1 ▸ hv, h.2 ▸ r⟩) fun h => ?_
    have g := eq_of_beq (List.mem_filter.mp (PySem.mem_of_lookup h.2)).2
    exact (own y _ e1).elim (fun e => nomatch e.symm.trans g) fun e => nomatch e.2
  · have hl := fre y hy
    have hm := PySem.mem_of_lookup hl
    refine (clGo_has cl (acc := []) (.inl hm)).elim fun a ha => ?_
    have ha' := clGo_sub cl (acc := []) (fun _ h => nomatch h) (y, a) (PySem.mem_of_lookup ha)
    refine (f.cells y (handed_at f hh _ hm rfl)).elim fun b g => g.elim fun cv g => ⟨b, cv, ha.trans (ha'.symm.trans g.1), g.2.1, fun d e => (attPut_some e).elim (fun h => nomatch (h.1 ▸ hl).symm.trans hs.at_) fun h => g.2.2 d ?_⟩
    exact lookup_filter (fun _ _ => rfl) h.2
  · refine (List.mem_cons.mp ha).elim (fun e => e ▸ ⟨h1, hns.imp fun _ h => h.elim fun _ h => h.elim fun _ h => h.1⟩) fun h => (List.mem_map.mp h).elim fun p h => h.2 ▸ f.out p.2 (mem_fs (clGo_sub cl (acc := []) (fun _ h => nomatch h) p h.1))
end
noncomputable abbrev Fm.call (Γ : Fm) : CallT := run d0.X Γ.n
noncomputable abbrev EvP (Γ : Fm) (e : Expr) : Prop := ∀ {z : Z} {c : Lc} {Q : FV → Store → Prop} {P : Value → Shared → Prop}, Fr Γ z c → wev d0.X Γ.call e c Q z.σ → KP V z Q P → W Γ.A (eval e Γ.env) P z.s
noncomputable abbrev TeP (Γ : Fm) (e : Expr) : Prop := ∀ {z : Z} {c : Lc} {Q : Bool → Store → Prop} {P : Bool → Shared → Prop}, Fr Γ z c → wtest d0.X Γ.call e c (wev d0.X Γ.call e c) Q z.σ → KP IsBB z Q P → W Γ.A (isTrue e Γ.env (eval e Γ.env)) P z.s

theorem forIn_no (env : Env) : ∀ ifs : List Expr, (forIn ifs false fun c r => if r = true then do let ok ← isTrue c env (eval c env); pure (ForInStep.yield ok) else pure (ForInStep.yield r) : Sem Bool) = pure false
  | [] => rfl
  | e :: r => (List.forIn_cons ..).trans (forIn_no env r)
theorem tests_ok {Γ : Fm} : ∀ {ifs : List Expr}, (∀ e ∈ ifs, TeP Γ e) → ∀ {z : Z} {c : Lc} {Q : Bool → Store → Prop} {P : Bool → Shared → Prop}, Fr Γ z c → wtests d0.X Γ.call ifs c Q z.σ → KP IsBB z Q P →
    W Γ.A (forIn ifs true fun c r => if r = true then do let ok ← isTrue c Γ.env (eval c Γ.env); pure (ForInStep.yield ok) else pure (ForInStep.yield r)) P z.s
  | [], _, z, c, Q, P, f, h, k => wpAny_pure (k.now rfl h)
  | x :: r, hx, z, c, Q, P, f, h, k => by
    rw [List.forIn_cons]
    refine wpAny_bind (wpAny_bind (hx x (.head _) f h fun z1 b v N e q => wpAny_pure ?_))
    cases e
    cases b with
    | true => exact tests_ok (fun e he => hx e (.tail _ he)) (f.nx N) q.yes (k.then N)
    | false =>
      show wpAny _ _ (forIn r false _ : Sem Bool) _ _ _
      rw [forIn_no]
      exact wpAny_pure (k.then N z1 _ _ .refl rfl q.no)

structure C0 (z₀ : Z) (I D C : Addr) : Prop where
  fI : Free z₀.s.heap I
  fD : Free z₀.s.heap D
  fC : Free z₀.s.heap C
  ID : I ≠ D
  DC : D ≠ C
  IC : I ≠ C
/-- how things stand at a turn of a comprehension: its iterator, its list, its names -/
structure CI (z₀ z : Z) (I D C : Addr) (x : FV) (i : Nat) (out : List FV) : Prop where
  N : Nx [] z₀ z
  it : ItAt z.p I x i
  ls : ∃ vs k, z.s.heap.get? D = some (lstObj vs k) ∧ Vs z out vs
  ns : ∃ mv, z.s.heap.Ns C mv
  nI : I ∉ z.ρ
  nD : D ∉ z.ρ
  nC : C ∉ z.ρ
section
variable {z₀ z z' : Z} {I D C J : Addr} {x : FV} {i : Nat} {out : List FV}
theorem Nx.oth (n : Nx [] z z') {a : Addr} (h : a ∉ z.ρ) (o : Obj) (e : z.s.heap.get? a = some o) : z'.s.heap.get? a = some o := n.ext a o (fun q => h (List.mem_of_mem_drop q)) List.not_mem_nil e
theorem CI.nx (c : CI z₀ z I D C x i out) (n : Nx [] z z') : CI z₀ z' I D C x i out :=
  ⟨c.N.trans n, c.it.keep n.up (n.oth c.nI), c.ls.imp fun vs => Exists.imp fun k h => ⟨n.oth c.nD _ h.1, n.vs h.2⟩, c.ns.imp fun mv => Exists.imp fun o => Exists.imp fun es => Exists.imp fun ep => And.imp (n.oth c.nC o) id,
    c.it.obj.elim fun o h => n.not ⟨o, h.1⟩ c.nI, c.ls.elim fun _ h => h.elim fun _ h => n.not ⟨_, h.1⟩ c.nD, c.ns.elim fun _ h => h.elim fun o h => h.elim fun _ h => h.elim fun _ h => n.not ⟨o, h.1⟩ c.nC⟩
theorem CI.but (c : CI z₀ z I D C x i out) (b : But J z z') (f : Free z₀.s.heap J) {i' : Nat} {out' : List FV} (it : ItAt z'.p I x i') (ls : ∃ vs k, z'.s.heap.get? D = some (lstObj vs k) ∧ Vs z' out' vs) (ns : ∃ mv, z'.s.heap.Ns C mv) : CI z₀ z' I D C x i' out' :=
  ⟨b.nx c.N f, it, ls, ns, fun h => c.nI (b.ρ ▸ h), fun h => c.nD (b.ρ ▸ h), fun h => c.nC (b.ρ ▸ h)⟩
theorem CI.it' (c : CI z₀ z I D C x i out) (b : But J z z') (h : I ≠ J) : ItAt z'.p I x i := c.it.keep b.up fun o => b.get I o h
theorem CI.ls' (c : CI z₀ z I D C x i out) (b : But J z z') (h : D ≠ J) : ∃ vs k, z'.s.heap.get? D = some (lstObj vs k) ∧ Vs z' out vs := c.ls.imp fun vs => Exists.imp fun k g => ⟨b.get D _ h g.1, b.up.vs g.2⟩
theorem CI.ns' (c : CI z₀ z I D C x i out) (b : But J z z') (h : C ≠ J) : ∃ mv, z'.s.heap.Ns C mv := c.ns.imp fun mv => Exists.imp fun o => Exists.imp fun es => Exists.imp fun ep => And.imp (b.get C o h) id
end
section
variable {Γ : Fm} {c : Lc} {sc : Scope} {t : Str} {elt iter : Expr} {ifs : List Expr} {px pos : Pos}
theorem itm_some {xs : List FV} {i : Nat} {y : FV} {p : Prop} {f : FV → Prop} (e : xs[i]? = some y) (h : match xs[i]? with | none => p | some x => f x) : f y := by rw [e] at h; exact h
theorem itm_none {xs : List FV} {i : Nat} {p : Prop} {f : FV → Prop} (e : xs[i]? = none) (h : match xs[i]? with | none => p | some x => f x) : p := by rw [e] at h; exact h
theorem offE {z : Z} {J : Addr} {h' : Heap} {t : Nat} {o : Obj} (ho : z.s.heap.get? J = some o) (hf : fixd o = false) (hJ : J ∉ z.ρ) (h0 : Free d0.s.heap J) (hs : Heap.SameBut J z.s.heap h') : ∃ z', But J z z' ∧ z'.s.heap = h' ∧ z'.s = { z.s with heap := h', toks := t } :=
  ⟨z.off J h' t hJ h0 (SameBut.o hs) (Imm.but (SameBut.o hs) ho hf), .of, rfl, rfl⟩
section
variable {z₀ z : Z} {I D : Addr} {x y : FV} {i : Nat} {out : List FV} {m : List (Str × FV)} {G : Shared → Prop} {K : List FV → Store → Prop} {E : Value → Shared → Prop}
theorem comp_app {v : Value} (c0 : C0 z₀ I D Γ.env.locals) (ci : CI z₀ z I D Γ.env.locals x i out) (r : V z y v) (q : outK out K y z.σ) (hG : ∀ z out, CI z₀ z I D Γ.env.locals x i out → K out z.σ → G z.s) :
    wpAny (model d0.prog d0.w) Γ.A (call (.builtin "list.append") [.ref D, v]) (fun _ s => G s) E z.s :=
  ci.ls.elim fun vs g => g.elim fun kk g => wpAny_list_append_plain ⟨kk, g.1⟩ (fun h5 hp hs5 => (lst_of hp).elim fun n' ho' => (offE (t := z.s.toks) g.1 rfl ci.nD (z₀.base c0.fD) hs5).elim fun z5 g5 =>
    g5.2.2 ▸ hG z5 (out ++ [y]) (ci.but g5.1 c0.fD (ci.it' g5.1 c0.ID) ⟨vs ++ [v], n', by rw [g5.2.1, ho', Array.toList_push], g5.1.up.vs (g.2.snoc r)⟩ (ci.ns' g5.1 c0.DC.symm)) (g5.1.σ ▸ q.2)) (line_of (show vs.length ≤ 1000000 from g.2.len ▸ q.1))
theorem comp_test {c : Lc} (c0 : C0 z₀ I D Γ.env.locals) (hel : EvP Γ elt) (hte : ∀ e ∈ ifs, TeP Γ e) (ci : CI z₀ z I D Γ.env.locals x i out) (f : Fr Γ z c) (q : wtests d0.X Γ.call ifs c (ifK (wev d0.X Γ.call elt c (outK out K)) (K out)) z.σ) (hG : ∀ z out, CI z₀ z I D Γ.env.locals x i out → K out z.σ → G z.s) :
    W Γ.A (forIn ifs true fun c r => if r = true then do let ok ← isTrue c Γ.env (eval c Γ.env); pure (ForInStep.yield ok) else pure (ForInStep.yield r)) (fun ok s => if ok = true then wpAny (model d0.prog d0.w) Γ.A (eval elt Γ.env) (fun x s => wpAny (model d0.prog d0.w) Γ.A (call (.builtin "list.append") [.ref D, x]) (fun _ s => G s) E s) E s else G s) z.s :=
  tests_ok hte f q fun z3 k v N3 e3 q3 => by
    cases e3
    cases k with
    | false => exact (if_neg Bool.false_ne_true).mpr (hG z3 out (ci.nx N3) q3.no)
    | true => exact (if_pos rfl).mpr (anyE (hel (f.nx N3) q3.yes fun z4 y4 v4 N4 r4 q4 => comp_app c0 ((ci.nx N3).nx N4) r4 q4 hG))
theorem comp_turn {u : Value} (c0 : C0 z₀ I D Γ.env.locals) (hl : Γ.env.kindOf t = some .local) (hf : ∀ z mv v y, Nx [] z₀ z → z.s.heap.Ns Γ.env.locals mv → mv t = some v → V z y v → Γ.env.locals ∉ z.ρ → Fr Γ z ⟨sc.names, compM sc t y m⟩)
    (hel : EvP Γ elt) (hte : ∀ e ∈ ifs, TeP Γ e) (ci : CI z₀ z I D Γ.env.locals x i out) (r : V z y u) (q : stepK sc t m (wtests d0.X Γ.call ifs) (wev d0.X Γ.call elt) y out K z.σ) (hG : ∀ z out, CI z₀ z I D Γ.env.locals x i out → K out z.σ → G z.s) :
    W Γ.A (assign (.Name t px) Γ.env u) (fun _ s => wpAny (model d0.prog d0.w) Γ.A (forIn ifs true fun c r => if r = true then do let ok ← isTrue c Γ.env (eval c Γ.env); pure (ForInStep.yield ok) else pure (ForInStep.yield r)) (fun ok s => if ok = true then wpAny (model d0.prog d0.w) Γ.A (eval elt Γ.env) (fun x s => wpAny (model d0.prog d0.w) Γ.A (call (.builtin "list.append") [.ref D, x]) (fun _ s => G s) E s) E s else G s) E s) z.s :=
  ci.ns.elim fun mv hns => wpAny_assign_Name (wpAny_storeName_local hl hns (fun h' hns' hs => by
    refine (hns.elim fun o g => g.elim fun es g => g.elim fun ep g => offE (t := z.s.toks + 1) g.1 (fix_dict g.2.1) ci.nC (z₀.base c0.fC) hs).elim fun z2 g2 => g2.2.2 ▸ anyE (?_ : W _ _ _ z2.s)
    have ns2 : z2.s.heap.Ns Γ.env.locals _ := g2.2.1 ▸ hns'
    have ci2 := ci.but g2.1 c0.fC (ci.it' g2.1 c0.IC) (ci.ls' g2.1 c0.DC) ⟨_, ns2⟩
    exact comp_test c0 hel hte ci2 (hf z2 _ u y ci2.N ns2 (if_pos rfl) (r.up g2.1.up) ci2.nC) (g2.1.σ ▸ q) hG) (by rw [Γ.kind]; rfl))
end
/-- what is kept from turn to turn -/
noncomputable def Inv (stp : FV → List FV → (List FV → Store → Prop) → Store → Prop) (z₀ : Z) (I D C : Addr) (x : FV) (Q : List FV → Store → Prop) (n : Nat) (s : Shared) : Prop := ∃ z i out, z.s = s ∧ CI z₀ z I D C x i out ∧ wcomp stp x n i out Q z.σ
theorem Inv.out {stp : FV → List FV → (List FV → Store → Prop) → Store → Prop} {z₀ : Z} {I D C : Addr} {x : FV} {Q : List FV → Store → Prop} {n : Nat} {s : Shared} {P : Shared → Prop} (h : Inv stp z₀ I D C x Q n s)
    (k : ∀ z i out n', CI z₀ z I D C x i out → n' < n → itemsM x (fun items σ => match items[i]? with
    | none => Q out σ
    | some y => stp y out (fun out σ => wcomp stp x n' (i + 1) out Q σ) σ) z.σ → P z.s) : P s :=
  h.elim fun z h => h.elim fun i h => h.elim fun out h => by
    cases n with
    | zero => exact h.2.2.elim
    | succ n => exact h.1 ▸ k z i out n h.2.1 (Nat.lt_succ_self n) h.2.2.r
theorem comp_loop {z₀ : Z} {I D : Addr} {x : FV} {m : List (Str × FV)} {Q : List FV → Store → Prop} {R : Result → Shared → Prop} (c0 : C0 z₀ I D Γ.env.locals) (hl : Γ.env.kindOf t = some .local)
    (hf : ∀ z mv v y, Nx [] z₀ z → z.s.heap.Ns Γ.env.locals mv → mv t = some v → V z y v → Γ.env.locals ∉ z.ρ → Fr Γ z ⟨sc.names, compM sc t y m⟩) (hel : EvP Γ elt) (hte : ∀ e ∈ ifs, TeP Γ e)
    (hQ : ∀ z out, Nx [] z₀ z → (∃ m, z.s.heap.Ns Γ.env.locals m) → Γ.env.locals ∉ z.ρ → D ∉ z.ρ → (∃ vs k, z.s.heap.get? D = some (lstObj vs k) ∧ Vs z out vs) → Q out z.σ → R (.ok .next) z.s)
    {n : Nat} {s : Shared} (h : Inv (stepK sc t m (wtests d0.X Γ.call ifs) (wev d0.X Γ.call elt)) z₀ I D Γ.env.locals x Q n s) :
    codeAny (model d0.prog d0.w) Γ.A (.compLoop (.ListComp elt [⟨.Name t px, iter, ifs, 0⟩] sc pos) 0 (.ref I) (.ref D) Γ.env) R s :=
  codeAny_compLoop_tests (Inv (stepK sc t m (wtests d0.X Γ.call ifs) (wev d0.X Γ.call elt)) z₀ I D Γ.env.locals x Q) (fun n s h => h.out fun z i out n' ci hn h => anyE (next_ok Γ.rm.h ci.nI (z₀.base c0.fI) ci.it h
    (fun z1 xs y u b lv it1 e r q => anyE (comp_turn c0 hl hf hel hte (ci.but b c0.fI it1 (ci.ls' b c0.ID.symm) (ci.ns' b c0.IC.symm)) r (itm_some e (b.σ.symm ▸ q)) fun z' out' ci' h' => ⟨n', hn, z', i + 1, out', rfl, ci', h'⟩))
    fun z1 xs b e q => hQ z1 out (b.nx ci.N c0.fI) (ci.ns' b c0.IC.symm) (b.ρ ▸ ci.nC) (b.ρ ▸ ci.nD) (ci.ls' b c0.ID.symm) (itm_none e (b.σ.symm ▸ q)))) n h
end
theorem items_out {x : FV} {Q : List FV → Store → Prop} {σ : Store} (h : itemsM x Q σ) : ∃ xs, Q xs σ := by
  induction x using FV.casesOn with
  | tup xs => exact ⟨xs, h⟩
  | rng _ _ => exact ⟨_, h.q⟩
  | ref l =>
    refine SomeP.on h fun o _ h => ?_
    cases o with
    | lst xs => exact ⟨xs, h⟩
    | _ => exact h.elim
  | _ => exact h.elim
theorem Nx.free {F : List Addr} {z z' : Z} (n : Nx F z z') {a : Addr} (h : Free z'.s.heap a) : Free z.s.heap a := Classical.byContradiction fun q => (n.live a (Option.ne_none_iff_exists'.mp q)).no h
theorem toE {z : Z} {h : Heap} {t : Nat} (k : ∀ a o, z.s.heap.get? a = some o → h.get? a = some o) : ∃ z', Nx [] z z' ∧ z'.σ = z.σ ∧ z'.ρ = z.ρ ∧ z'.s.heap = h ∧ z'.s = { z.s with heap := h, toks := t } := ⟨z.to h t k, .to, rfl, rfl, rfl, rfl⟩
theorem Live.ne {h : Heap} {a b : Addr} (x : Live h a) (y : Free h b) : a ≠ b := fun e => (e ▸ x : Live h b).no y
section
variable {Γ : Fm} {c : Lc} {sc : Scope} {t : Str} {elt iter : Expr} {ifs : List Expr} {px pos : Pos} {z : Z} {E : Value → Shared → Prop}
/-- more objects, the same labels -/
structure More (z z' : Z) : Prop where
  n : Nx [] z z'
  k : ∀ a o, z.s.heap.get? a = some o → z'.s.heap.get? a = some o
  σ : z'.σ = z.σ
  ρ : z'.ρ = z.ρ
theorem moreE {h : Heap} {t : Nat} (k : ∀ a o, z.s.heap.get? a = some o → h.get? a = some o) : ∃ z', More z z' ∧ z'.s.heap = h ∧ z'.s = { z.s with heap := h, toks := t } := ⟨z.to h t k, ⟨.to, k, rfl, rfl⟩, rfl, rfl⟩
theorem newl_ok {A : Around} {P : Value → Shared → Prop} (k : ∀ z', More z z' → z'.s.heap.get? z.sz = some (lstObj [] 0) → P (.ref z.sz) z'.s) : wpAny (model d0.prog d0.w) A (newList []) P E z.s :=
  wpAny_newList ((moreE (t := z.s.toks) push_keep).elim fun z' g => (g.2.2 ▸ k z' g.1 (g.2.1 ▸ Heap.get?_push_size _ rfl) : P (.ref z.sz) { z.s with heap := z.s.heap.push { cls := .type "list", data := .seq ([] : List Value).toArray }, toks := z.s.toks })) (Nat.zero_le _)
theorem fenv_ok {A : Around} {P : Env → Shared → Prop} {cl : List (Str × Addr)} (hs : ScOk sc t) (k : ∀ z', More z z' → (∃ m, z'.s.heap.Ns z.sz m) → P (newEnv sc z.sz Γ.env.globals cl Γ.env.qual none .none (some Γ.env) builtinsNs) z'.s) :
    wpAny (model d0.prog d0.w) A (newFunctionEnv sc Γ.env.globals cl [] Γ.env.qual none .none (some Γ.env)) P E z.s :=
  wpAny_newFunctionEnv hs.cell (fun _ h => nomatch h) (fun h' hns hsb => (moreE (t := z.s.toks + ([] : List (Str × Value)).length) fun a o e => (hsb.2 a (Live.ne ⟨o, e⟩ (free_size _))).trans (push_keep a o e)).elim fun z' g => g.2.2 ▸ k z' g.1 (g.2.1 ▸ ⟨_, hns⟩)) hs.kind
theorem comp_go {z₀ : Z} {I D : Addr} {x : FV} {m : List (Str × FV)} {Q : List FV → Store → Prop} {R : Result → Shared → Prop} (c0 : C0 z₀ I D Γ.env.locals) (hl : Γ.env.kindOf t = some .local)
    (hf : ∀ z mv v y, Nx [] z₀ z → z.s.heap.Ns Γ.env.locals mv → mv t = some v → V z y v → Γ.env.locals ∉ z.ρ → Fr Γ z ⟨sc.names, compM sc t y m⟩) (hel : EvP Γ elt) (hte : ∀ e ∈ ifs, TeP Γ e)
    (hQ : ∀ z out, Nx [] z₀ z → (∃ m, z.s.heap.Ns Γ.env.locals m) → Γ.env.locals ∉ z.ρ → D ∉ z.ρ → (∃ vs k, z.s.heap.get? D = some (lstObj vs k) ∧ Vs z out vs) → Q out z.σ → R (.ok .next) z.s)
    {n : Nat} (ci : CI z₀ z I D Γ.env.locals x 0 []) (h : wcomp (stepK sc t m (wtests d0.X Γ.call ifs) (wev d0.X Γ.call elt)) x n 0 [] Q z.σ) :
    codeAny (model d0.prog d0.w) Γ.A (.compStart (.ListComp elt [⟨.Name t px, iter, ifs, 0⟩] sc pos) 0 (.ref I) (.ref D) Γ.env) R z.s :=
  have L := comp_loop (iter := iter) (px := px) (pos := pos) c0 hl hf hel hte hQ ⟨z, 0, [], rfl, ci, h⟩
  codeAny_compStart_list L (anyE (self_iter ci.it L))
theorem comp_start {z₀ : Z} {v : Value} {x : FV} {Q : List FV → Store → Prop} {RR : Value → Addr → Result → Shared → Prop} {E1 E2 E3 : Value → Shared → Prop} (hs : ScOk sc t) (f : Fr Γ z₀ c) (hh : handed sc c.names = true) (r : V z₀ x v)
    (hel : ∀ C h0 hC, EvP (Γ.comp sc C hs.kind (cells_of f hh) h0 hC) elt) (hte : ∀ C h0 hC, ∀ e ∈ ifs, TeP (Γ.comp sc C hs.kind (cells_of f hh) h0 hC) e)
    (h : itemsC x (fun items σ => wcomp (stepK sc t c.m (wtests d0.X Γ.call ifs) (wev d0.X Γ.call elt)) x (items.length + 1) 0 [] Q σ) z₀.σ)
    (hQ : ∀ z C out, Nx [] z₀ z → (∃ m, z.s.heap.Ns C m) → C ∉ z.ρ → Free z₀.s.heap C → ∀ D, D ∉ z.ρ → Free z₀.s.heap D → (∃ vs k, z.s.heap.get? D = some (lstObj vs k) ∧ Vs z out vs) → D ≠ C → Q out z.σ → RR (.ref D) C (.ok .next) z.s) :
    wpAny (model d0.prog d0.w) Γ.A (pyIter v) (fun it s₂ => wpAny (model d0.prog d0.w) Γ.A (newList []) (fun acc s₃ => wpAny (model d0.prog d0.w) Γ.A (newFunctionEnv sc Γ.env.globals (clGo Γ.env sc.names []) [] Γ.env.qual none .none (some Γ.env)) (fun cenv s₄ =>
      codeAny (model d0.prog d0.w) Γ.A (.compStart (.ListComp elt [⟨.Name t px, iter, ifs, 0⟩] sc pos) 0 it acc { cenv with scope := relabel sc Γ.env }) (RR acc cenv.locals) s₄) E3 s₃) E2 s₂) E1 z₀.s :=
  anyE (iter_ok r h fun z1 N1 B1 it1 q => q.elim fun xs q => newl_ok fun z2 m2 g2 => fenv_ok hs fun z3 m3 ns3 => by
    have lI : Live z1.s.heap z₀.sz := it1.obj.imp fun _ => And.left
    have N12 := N1.trans m2.n
    have lD : Live z2.s.heap z1.sz := ⟨_, g2⟩
    have c0 : C0 z₀ z₀.sz z1.sz z2.sz := ⟨free_size _, N1.free (free_size _), N12.free (free_size _), lI.ne (free_size _), lD.ne (free_size _), Live.ne (m2.n.live _ lI) (free_size _)⟩
    have hC : z2.sz ∉ fs Γ.env := fun q => (N12.live _ (f.out _ q).2).no (free_size _)
    have e3 : z3.ρ = z₀.ρ := m3.ρ.trans (m2.ρ.trans B1.ρ)
    refine comp_go (Γ := Γ.comp sc z2.sz hs.kind (cells_of f hh) (z2.base (free_size _)) hC) (m := c.m) c0 (lookup_relabel_local hs.at_) (fun z mv v y n hn hv r hr => comp_frame hs (f.nx n) hh hn hv r (fun q => hr (List.mem_of_mem_drop q))) (hel _ _ _) (hte _ _ _) (fun z out n m nC nD ls q => hQ z z2.sz out n m nC c0.fC z1.sz nD c0.fD ls c0.DC q)
      ⟨N12.trans m3.n, (it1.keep m2.n.up (m2.k _)).keep m3.n.up (m3.k _), ⟨[], 0, m3.k _ _ g2, .nil⟩, ns3, e3 ▸ z₀.out c0.fI, e3 ▸ z₀.out c0.fD, e3 ▸ z₀.out c0.fC⟩ (n := xs.length + 1) ?_
    rw [m3.σ, m2.σ, B1.σ]
    exact q.q)
end
noncomputable abbrev Kpr (v : Value) : Prop := ∀ h : Heap, d0.K.In h → ∃ k, (k = Keeper.frame ∨ k = Keeper.machine ∨ k = Keeper.boundFrame) ∧ Looks (model d0.prog d0.w) h (keeperOf v) k
theorem kp_st {n : Nat} {call : CallT} {v : Value} {args : List FV} {Q : FV → Store → Prop} {σ : Store} (g : Good d0) (h : stM d0.X call n args v Q σ) : Kpr v := by
  induction v using Value.casesOn with
  | builtin id => exact fun _ _ => ⟨_, .inr (.inl rfl), Looks.of_pure rfl⟩
  | type id => exact fun _ _ => ⟨_, .inr (.inl rfl), Looks.of_pure rfl⟩
  | ref a =>
    have : keepIn d0.K (.ref a) = true := by
      have h : refM d0.X call n a args (d0.X.fn a) Q σ := h
      cases e : d0.X.fn a with
      | some p => exact (g.fn a p.1 p.2 e).1
      | none => rw [e] at h; exact (g.cls a h.b).1
    exact fun h' i => keeps_K this h' i
  | _ => exact h.elim
theorem kp_run {n : Nat} {p : Pt} {f : FV} {u : Value} {args : List FV} {Q : FV → Store → Prop} {σ : Store} (g : Good d0) (r : VRel p f u) (h : run d0.X n f args Q σ) : Kpr u := by
  cases n with
  | zero => exact h.elim
  | succ n =>
    induction f using FV.casesOn with
    | st v => exact r.stE (kp_st g h)
    | _ => exact h.elim

theorem star_cons {env : Env} {e : Expr} {r : List Expr} (h : noStar (e :: r) = true) : starEach (e :: r) env = (false, eval e env) :: starEach r env ∧ noStar r = true := by
  refine ⟨?_, (and2 h).2⟩
  have h := (and2 h).1
  induction e using Expr.casesOn with
  | Starred => exact ff h
  | _ => rfl
theorem star_no {env : Env} {es : List Expr} {pos : Pos} (h : noStar es = true) : (backTo pos (starEach es env)).any (·.1) = false := by
  induction es with
  | nil => rfl
  | cons e r ih =>
    rw [(star_cons (env := env) h).1]
    exact ih (star_cons (env := env) h).2
section
variable {Γ : Fm} {c : Lc} {z : Z}
noncomputable abbrev VsN (n : Nat) (z : Z) (ys : List FV) (vs : List Value) : Prop := Vs z ys vs ∧ ys.length = n
theorem evs_ok {pos : Pos} : ∀ {es : List Expr}, noStar es = true → (∀ e ∈ es, EvP Γ e) → ∀ {z : Z} {Q : List FV → Store → Prop} {P : List Value → Shared → Prop}, Fr Γ z c → wevs d0.X Γ.call es c Q z.σ → KP (VsN es.length) z Q P → W Γ.A (spliced (backTo pos (starEach es Γ.env))) P z.s
  | [], _, _, z, Q, P, f, h, k => args_nil (k.now ⟨.nil, rfl⟩ h)
  | x :: r, hn, hx, z, Q, P, f, h, k => args_cons (hx x (.head _) f h fun z1 y v N1 r1 h1 => evs_ok (star_cons (env := Γ.env) hn).2 (fun e he => hx e (.tail _ he)) (f.nx N1) h1 fun z2 ys vs N2 r2 h2 => k z2 (y :: ys) (v :: vs) (N1.trans N2) ⟨.cons (N2.v r1) r2.1, congrArg (· + 1) r2.2⟩ h2) (star_cons hn).1
theorem args_ok {pos : Pos} {g : Value} {es : List Expr} (hn : noStar es = true) (hx : ∀ e ∈ es, EvP Γ e) {Q : List FV → Store → Prop} {P : Args → Shared → Prop} (f : Fr Γ z c) (h : wevs d0.X Γ.call es c Q z.σ) (k : KP Vs z Q fun vs => P ⟨vs, []⟩) : W Γ.A (evalArgs g true (backTo pos (starEach es Γ.env)) []) P z.s := by
  cases es with
  | nil => exact PyProof.Rows.evalArgs_none (k.now .nil h)
  | cons x r =>
    have := evs_ok (pos := pos) hn hx f h fun z' ys vs N r h => k z' ys vs N r.1 h
    rw [(star_cons (env := Γ.env) hn).1] at this ⊢
    exact Calls.evalArgs_plain this
theorem binOp_ok {l r : Expr} {op : Operator} {pos : Pos} (h1 : EvP Γ l) (h2 : EvP Γ r) : EvP Γ (.BinOp l op r pos) := fun f h k =>
  wpAny_BinOp (h1 f h fun z1 y v N1 r1 h => h2 (f.nx N1) h fun z2 y2 v2 N2 r2 h => bin_ok (N2.v r1) r2 h.r (k.then (N1.trans N2)))
theorem un_ok {x : Expr} {op : UnaryOp} {pos : Pos} (h1 : EvP Γ x) : EvP Γ (.UnaryOp op x pos) := by
  induction op using UnaryOp.casesOn with
  | Not => exact fun f h k => wpAny_UnaryOp (h1 f h fun z1 y v N1 r1 h => not_of (truthy_ok r1 h.r fun z2 b w N2 e h => e ▸ k z2 (.bool (!b)) _ (N1.trans N2) .bool h))
  | USub => exact fun f h k => wpAny_UnaryOp (h1 f h fun z1 y v N1 r1 h => intE (G := fun y => V z1 y v → _) h (fun i h r1 => r1.intE fun t => PySem.P.neg_int ((k.then N1).tok _ .int h)) r1)
  | _ => exact fun f h k => h.elim
theorem ifExp_ok {t x y : Expr} {pos : Pos} (h : TeP Γ t) (h1 : EvP Γ x) (h2 : EvP Γ y) : EvP Γ (.IfExp t x y pos) := fun f h' k =>
  wpAny_IfExp (h f h' fun z1 b w N1 e h => by
    cases e
    cases b with
    | true => rw [if_pos rfl]; exact h1 (f.nx N1) h.yes (k.then N1)
    | false => rw [if_neg Bool.false_ne_true]; exact h2 (f.nx N1) h.no (k.then N1))
theorem boolOp_ok {op : BoolOp} {pos : Pos} : ∀ {vs : List Expr}, (∀ e ∈ vs, EvP Γ e) → ∀ {z : Z} {Q : FV → Store → Prop} {P : Value → Shared → Prop}, Fr Γ z c → wbool d0.X Γ.call op vs c Q z.σ → KP V z Q P → W Γ.A (boolOp pos op (evalEach vs Γ.env)) P z.s
  | [], _, z, Q, P, f, h, k => h.elim
  | [x], hx, z, Q, P, f, h, k => hx x (.head _) f h k
  | x :: y :: r, hx, z, Q, P, f, h, k => by
    show wpAny _ _ (eval x Γ.env >>= _) _ _ _
    refine wpAny_bind (hx x (.head _) f h fun z1 y v N1 r1 h => wpAny_bind (wpAny_standAt (wpAny_bind (wpAny_holding (truthy_ok r1 h.r fun z2 b w N2 e h => ?_)))))
    cases e
    have T := N1.trans N2
    have rec_ := fun h => boolOp_ok (op := op) (pos := pos) (vs := _ :: r) (fun e he => hx e (.tail _ he)) (f.nx T) h (k.then T)
    have now := fun h => wpAny_pure (M := model d0.prog d0.w) (A := Γ.A) (E := noE) (k z2 y v T (N2.v r1) h)
    cases op <;> cases b
    · exact now h.no
    · exact rec_ h.yes
    · exact rec_ h.no
    · exact now h.yes
theorem behind_no {op : CmpOp} {r : Expr} (h : (tagE r != 2) = true) : behindInMarks op r = false := by
  induction r using Expr.casesOn with
  | Set => exact ff h
  | _ => rfl
theorem compare_ok {l r : Expr} {op : CmpOp} {pos : Pos} (hn : (tagE r != 2) = true) (h1 : EvP Γ l) (h2 : EvP Γ r) : EvP Γ (.Compare l [op] [r] pos) := fun f h k =>
  wpAny_Compare1 (h1 f h fun z1 y v N1 r1 h => h2 (f.nx N1) h fun z2 y2 v2 N2 r2 h => cmp_ok Γ.rm (N2.v r1) r2 h.r fun z3 b w N3 e h => e ▸ k z3 (.bool b) _ ((N1.trans N2).trans N3) .bool h) (behind_no hn)
theorem new_dct {kvs : List (FV × FV)} {ob : Obj} {t : Nat} {Q : FV → Store → Prop} {P : Value → Shared → Prop} (m : MRel d0 ⟨z.s.heap.push ob, z.ρ ++ [z.sz]⟩ z.sz (.dct kvs)) (h : RunT 3 (alloc (.dct kvs)) z.σ (mapK .ref Q)) (k : KP V z Q P) : P (.ref z.sz) { z.s with heap := z.s.heap.push ob, toks := t } :=
  k (z.new ob t (.dct kvs) m) _ _ .new Z.new_ref h.r
theorem dict0_ok {pos : Pos} : EvP Γ (.Dict [] [] pos) := fun f h k => wpAny_Dict_empty (new_dct (.inl ⟨[], ⟨_, #[], 0, Heap.get?_push_size _ rfl, ⟨rfl, rfl, rfl⟩, rfl, (fun _ h => (Array.not_mem_empty _ h).elim), .nil, List.nodup_nil⟩, .nil⟩) h k)
theorem list_ok {es : List Expr} {pos : Pos} (hn : noStar es = true) (hz : es.length ≤ 1000) (hx : ∀ e ∈ es, EvP Γ e) : EvP Γ (.List es pos) := fun f h k =>
  List_ (evs_ok hn hx f h fun z1 ys vs N1 r1 h => wpAny_newList (new_lst (t := z1.s.toks) r1.1 h.r (k.then N1)) (Nat.le_trans (show vs.length ≤ 1000 from r1.1.len ▸ r1.2 ▸ hz) (by rw [sizeLine_eq]; decide)))
theorem tuple_ok {es : List Expr} {i : Nat} {pos : Pos} (hn : noStar es = true) (hz : es.length ≤ 1000) (hx : ∀ e ∈ es, EvP Γ e) : EvP Γ (.Tuple es i pos) := fun f h k =>
  Tuple_ (evs_ok hn hx f h fun z1 ys vs N1 r1 h => wpAny_newTuple (new_tup (t := z1.s.toks) r1.1 h (k.then N1)) (Nat.le_trans (show vs.length ≤ 1000 from r1.1.len ▸ r1.2 ▸ hz) (by rw [sizeLine_eq]; decide)))
theorem base_plain {o : Expr} {attr : Str} {env : Env} {whole : Sem Value} (h : (tagE o != 5) = true) : attributeBase o attr env whole = whole := by
  induction o using Expr.casesOn with
  | Call => exact ff h
  | _ => rfl
theorem attribute_ok {o : Expr} {attr : Str} {pos : Pos} (hn : (tagE o != 5) = true) (h1 : EvP Γ o) : EvP Γ (.Attribute o attr pos) := fun f h k =>
  Attribute_any_ (h1 f h fun z1 y v N1 r1 h => attr_ok r1 h.r (k.then N1)) (by rw [arm_eval_Attribute, base_plain hn])
theorem subscript_ok {o i : Expr} {pos : Pos} (hi : asSlice i = none) (h1 : EvP Γ o) (h2 : EvP Γ i) : EvP Γ (.Subscript o i pos) := fun {z c Q P} f h k => by
  have g : wev d0.X Γ.call o c (seqK (runK1 11 itemM (wev d0.X Γ.call i c)) Q) z.σ ∧ ∀ o k : Value, subscripted i false o k = operate [o, k] (getItem o k) := by
    induction i using Expr.casesOn with
    | Slice => cases hi
    | _ => exact ⟨h, fun _ _ => rfl⟩
  exact Subscript_ (h1 f g.1 fun z1 y v N1 r1 h => h2 (f.nx N1) h fun z2 y2 v2 N2 r2 h => item_ok Γ.rm (N2.v r1) r2 h.r (k.then (N1.trans N2)) g.2)
theorem opt_ok {lo : Option Expr} (hx : ∀ e, lo = some e → EvP Γ e) {Q : Option Int → Store → Prop} {P : Value → Shared → Prop} (f : Fr Γ z c) (h : wopt d0.X Γ.call lo c Q z.σ) (k : KP (fun _ => PartV) z Q P) : W Γ.A (valueOrNone (evalOpt lo Γ.env)) P z.s := by
  cases lo with
  | none => exact wpAny_pure (k.now (show PartV none .none from rfl) h)
  | some x => exact (hx x rfl f h fun z1 y v N1 r1 h => intE (G := fun y => V z1 y v → _) h (fun i h r1 => k z1 (some i) v N1 r1 h) r1 : W Γ.A (eval x Γ.env) P z.s)
theorem slice_ok {o : Expr} {lo hi : Option Expr} {p pos : Pos} (h1 : EvP Γ o) (h2 : ∀ e, lo = some e → EvP Γ e) (h3 : ∀ e, hi = some e → EvP Γ e) : EvP Γ (.Subscript o (.Slice lo hi none p) pos) := fun f h k =>
  Subscript_ (h1 f h fun z1 y v N1 r1 h => by
    rw [show eval (.Slice lo hi none p) Γ.env = (do
      let l ← valueOrNone (evalOpt lo Γ.env)
      let u ← holding [l] (valueOrNone (evalOpt hi Γ.env))
      let s ← holding [l, u] (valueOrNone (evalOpt none Γ.env))
      newFields "slice" [l, u, s]) from rfl]
    exact wpAny_bind (opt_ok h2 (f.nx N1) h fun z2 l vl N2 r2 h => wpAny_bind (wpAny_holding (opt_ok h3 (f.nx (N1.trans N2)) h fun z3 u vu N3 r3 h => wpAny_bind (wpAny_holding (wpAny_pure (wpAny_newObj_type (slice_end (N3.v (N2.v r1)) r2 r3 h.r (k.then ((N1.trans N2).trans N3))))))))))
end
section
variable {Γ : Fm} {c : Lc} {z : Z}
theorem folded_not {e : Expr} {env : Env} (h : (tagE e != 2) = true) (x : Value) : foldedSetIterable e env x = pure x := by
  induction e using Expr.casesOn with
  | Set => exact ff h
  | _ => rfl
theorem names_loc {sc : Scope} {t : Str} (hs : ScOk sc t) (x : Str × NameKind) (h : x ∈ sc.names) (e : x.2 = .local) : sc.names.lookup x.1 = some .local := hs.loc x h e
theorem itemsC_out {x : FV} {Q : List FV → Store → Prop} {σ : Store} (h : itemsC x Q σ) : ∃ xs, Q xs σ := (items_out h).imp fun _ h => h.q
/-- behind a comprehension: its list is taken up, its names are gone -/
theorem comp_end {z₀ z : Z} {C D : Addr} {out : List FV} {Q : FV → Store → Prop} {P : Value → Shared → Prop} (N : Nx [] z₀ z) (hC : C ∉ z.ρ) (fC : Free z₀.s.heap C) (hD : D ∉ z.ρ) (fD : Free z₀.s.heap D) (ls : ∃ vs k, z.s.heap.get? D = some (lstObj vs k) ∧ Vs z out vs) (hDC : D ≠ C)
    (h : RunT 3 (alloc (.lst out)) z.σ (mapK .ref Q)) {h' : Heap} (ns : ∃ m, z.s.heap.Ns C m) (hs : Heap.SameBut C z.s.heap h') (k : KP V z₀ Q P) : P (.ref D) { z.s with heap := h' } :=
  ns.elim fun _ g => g.elim fun o g => g.elim fun es g => g.elim fun ep g => (offE (t := z.s.toks) g.1 (fix_dict g.2.1) hC (z₀.base fC) hs).elim fun z1 g1 => ls.elim fun vs ls => ls.elim fun kk ls =>
    have nD : D ∉ z1.ρ := fun q => hD (g1.1.ρ ▸ q)
    have m : MRel d0 ⟨z1.s.heap, z1.ρ ++ [D]⟩ D (.lst out) := ⟨vs, kk, g1.1.get _ _ hDC ls.1, (Up.more (h := z1.s.heap) [D]).vs (g1.1.up.vs ls.2)⟩
    g1.2.2 ▸ k (z1.reg D (.lst out) nD (z₀.base fD) m) (.ref z1.σ.length) (.ref D) ((g1.1.nx N fC).reg fD) (.ref (z1.st.len ▸ at_end _ _)) (show mapK .ref Q z1.σ.length (z1.σ ++ [.lst out]) by rw [g1.1.σ]; exact h.r)
theorem comp_ok {elt it : Expr} {ifs : List Expr} {sc : Scope} {pos : Pos} {t : Str} {px : Pos} (hs : ScOk sc t) (hn : (tagE it != 2) = true) (h1 : EvP Γ it) (hel : ∀ Γ : Fm, EvP Γ elt) (hte : ∀ Γ : Fm, ∀ e ∈ ifs, TeP Γ e) : EvP Γ (.ListComp elt [⟨.Name t px, it, ifs, 0⟩] sc pos) := fun {z c Q P} f h k => by
  have h : On (handed sc c.names) (wev d0.X Γ.call it c (seqK (compK sc t c (wtests d0.X Γ.call ifs) (wev d0.X Γ.call elt)) Q) z.σ) := h
  rw [eval_ListComp]
  exact wpAny_comprehension_free (use := none) rfl (folded_not hn) (closure_eq (cells_of f h.b)) hs.kind (names_loc hs) (h1 f h.q fun z1 y v N1 r1 q => comp_start (iter := it) (px := px) (pos := pos) (RR := fun acc C => compPost (model d0.prog d0.w) Γ.A noE none P acc C) hs (f.nx N1) h.b r1 (fun C _ _ => hel _) (fun C _ _ => hte _) q.r
    fun z2 C out N ns hC fC D hD fD ls hDC h => ns.elim fun m hns => ⟨m, hns, fun h' hs => comp_end N hC fC hD fD ls hDC h ⟨m, hns⟩ hs (k.then N1)⟩)

theorem noS {α : Type} {x : α} {G : Prop} (h : none = some x) : G := nomatch h
theorem name_eq {e : Expr} {x : Str} {P : Expr → Prop} (h : nameOf e = some x) (k : ∀ p, P (.Name x p)) : P e := by
  induction e using Expr.casesOn with
  | Name y p => exact Option.some.inj h ▸ k p
  | _ => exact noS h
theorem attr_eq {e : Expr} {x : Expr × Str × Pos} {P : Expr → Prop} (h : asAttr e = some x) (k : P (.Attribute x.1 x.2.1 x.2.2)) : P e := by
  induction e using Expr.casesOn with
  | Attribute o n p => exact (Option.some.inj h ▸ k : P (.Attribute (o, n, p).1 (o, n, p).2.1 (o, n, p).2.2))
  | _ => exact noS h
theorem tup_eq {e : Expr} {ts : List Expr} {P : Expr → Prop} (h : asTup e = some ts) (k : ∀ i p, P (.Tuple ts i p)) : P e := by
  induction e using Expr.casesOn with
  | Tuple es i p => exact Option.some.inj h ▸ k i p
  | _ => exact noS h
theorem slice_eq {e : Expr} {x : Option Expr × Option Expr × Option Expr} {P : Expr → Prop} (h : asSlice e = some x) (k : ∀ p, P (.Slice x.1 x.2.1 x.2.2 p)) : P e := by
  induction e using Expr.casesOn with
  | Slice a b c p => exact (Option.some.inj h ▸ k : ∀ p, P (.Slice (a, b, c).1 (a, b, c).2.1 (a, b, c).2.2 p)) p
  | _ => exact noS h
theorem int_eq {e : Expr} {i : Int} {P : Expr → Prop} (h : asInt e = some i) (k : ∀ u p, P (.Constant (.int i) u p)) : P e := by
  induction e using Expr.casesOn with
  | Constant j u p => cases j <;> cases h; exact k u p
  | _ => exact noS h

theorem dict1_ok {x : Str} {p1 p2 pos : Pos} {i : Int} {u : Nat} (hx : okN x = true) : EvP Γ (.Dict [some (.Name x p1)] [.Constant (.int i) u p2] pos) := fun {z c Q P} f h k => by
  refine SomeP.on h fun d e h => intE (G := fun d => nameV d0.X c x = some d → _) h (fun j h e => ?_) e
  refine wpAny_Dict_walk (knd := fvKind d0.prog d0.w) rfl rfl (fun e => nomatch e) (Nat.le_of_ble_eq_true rfl) ((moreE (z := z) (t := z.s.toks) (push_keep (o := { cls := .type "dict", data := .dict #[] }))).elim fun z1 g => ?_)
  have g1 : z1.s.heap.get? z.sz = some { cls := .type "dict", data := .dict #[] } := g.2.1 ▸ Heap.get?_push_size _ rfl
  have n1 : z.sz ∉ z1.ρ := g.1.ρ ▸ z.out (free_size _)
  refine g.2.2 ▸ pairTrees_cons_walk (name_ok (Q := fun d σ => d = .int j ∧ σ = z1.σ) hx (f.nx g.1.n) (SomeP.mk e ⟨rfl, rfl⟩) fun z2 y v N2 r2 q => ?_)
  cases q.1
  have gD := N2.oth n1 _ g1
  have n2 := N2.not ⟨_, g1⟩ n1
  refine r2.intE fun t => wpAny_Constant_int (pairTrees_nil_walk ⟨[(.int j, .int i _)], ⟨decide_eq_true rfl, rfl, trivial⟩, ⟨_, #[], 0, gD, ⟨rfl, rfl, rfl⟩, rfl, (fun _ h => (Array.not_mem_empty _ h).elim), .nil, List.nodup_nil⟩, fun h' hd hs => ?_⟩)
  refine (offE (t := z2.s.toks + 1 + 1) gD rfl n2 (z.base (free_size _)) hs).elim fun z3 g3 => ?_
  have n3 : z.sz ∉ z3.ρ := fun q => n2 (g3.1.ρ ▸ q)
  have hd : z3.s.heap.DictOf d0.fk z.sz [(.int j, .int i z2.s.toks)] := g3.2.1 ▸ hd
  have e3 : z3.σ = z.σ := g3.1.σ.trans (q.2.trans g.1.σ)
  have fin : P (.ref z.sz) z3.s := k (z3.reg z.sz (.dct [(.int j, .int i)]) n3 (z.base (free_size _)) (.inl ⟨_, hd, .cons ⟨rfl, .int⟩ .nil⟩)) (.ref z3.σ.length) _ ((g3.1.nx (g.1.n.trans N2) (free_size _)).reg (free_size _)) (.ref (z3.st.len ▸ at_end _ _)) (show mapK .ref Q z3.σ.length (z3.σ ++ [.dct [(.int j, .int i)]]) by rw [e3]; exact h.r)
  exact (g3.2.2 ▸ fin : P (.ref z.sz) _)
end
section
variable {Γ : Fm} {c : Lc} {z : Z}
theorem any2 {es : List Expr} {pos : Pos} {env : Env} (hn : noStar es = true) : ((backTo pos (starEach es env)).any (·.1) || ([] : List (Option Str × Sem Value)).any (·.1.isNone)) = false := by rw [star_no hn]; rfl
theorem fn_ok {f : Value} {x : FV} {args : List Expr} {pos : Pos} {fs : List FV} {first : List Value} (hn : noStar args = true) (h2 : ∀ e ∈ args, EvP Γ e) (fr : Fr Γ z c) (r : V z x f) (rs : Vs z fs first) {j : Nat} {Q : FV → Store → Prop} {P : Value → Shared → Prop}
    (h : wevs d0.X Γ.call args c (seqK (runK j fun vs => Γ.call x (fs ++ vs)) Q) z.σ) (k : KP V z Q P) : W Γ.A (callWith pos f first (backTo pos (starEach args Γ.env)) []) P z.s :=
  callWith_of (P := fun h => d0.K.In h ∧ Kpr f) (any2 hn) (fun h hp => hp.2 h hp.1) (args_ok hn h2 fr h fun z2 ys vs N2 r2 h => ⟨⟨z2.inn, kp_run z2.st.good (N2.v r) h.r⟩, Γ.ih Γ.rm (N2.v r) ((N2.vs rs).append r2) h.r (k.then N2)⟩)
theorem call_ok {f : Str} {p : Pos} {args : List Expr} {pos : Pos} (hn : noStar args = true) (h1 : EvP Γ (.Name f p)) (h2 : ∀ e ∈ args, EvP Γ e) : EvP Γ (.Call (.Name f p) args [] pos) := fun {z c Q P} fr h k => by
  rw [show eval (.Call (.Name f p) args [] pos) Γ.env = (do callWith pos (← eval (.Name f p) Γ.env) [] (backTo pos (starEach args Γ.env)) []) from rfl]
  exact wpAny_bind (h1 fr h fun z1 y v N1 r1 h => fn_ok (fs := []) hn h2 (fr.nx N1) r1 .nil h (k.then N1))

theorem star_len {env : Env} {pos : Pos} : ∀ {es : List Expr}, noStar es = true → (backTo pos (starEach es env)).all (fun x => !x.1) = true
  | [], _ => rfl
  | e :: r, h => by
    rw [(star_cons (env := env) h).1]
    exact star_len (es := r) (star_cons (env := env) h).2
theorem few_ok {env : Env} {args : List Expr} {pos : Pos} (hn : noStar args = true) (hz : args.length < 30) : methodCallForm (args.length + ([] : List Keyword).length) (backTo pos (starEach args env)) (backToKw pos (keywordEach [] env)) = true := by
  unfold methodCallForm
  rw [star_len hn]
  exact decide_eq_true (show args.length + 0 + 0 < 30 from hz)
noncomputable abbrev MC (Γ : Fm) (o : Expr) (name : Str) (apos pos : Pos) (args : List Expr) (u : Value) (P : Value → Shared → Prop) (s : Shared) : Prop :=
  W Γ.A (methodCall o name apos pos Γ.env u (args.length + ([] : List Keyword).length) (backTo pos (starEach args Γ.env)) (backToKw pos (keywordEach [] Γ.env))) P s
theorem meth_step {o : Expr} {name : Str} {apos pos : Pos} {args : List Expr} {u f : Value} {first : List Value} {P : Value → Shared → Prop} {s : Shared} (hn : noStar args = true) (hz : args.length < 30) (hl : (apos.endLine == pos.line) = true)
    (hg : ∀ {Q : Value × List Value → Shared → Prop}, Q (f, first) s → W Γ.A (getMethod u name (do return (← importBound o Γ.env).getD true)) Q s) (hc : W Γ.A (callWith pos f first (backTo pos (starEach args Γ.env)) []) P s) : MC Γ o name apos pos args u P s := by
  unfold MC methodCall
  rw [few_ok hn hz]
  refine wpAny_bind (wpAny_holding (hg (wpAny_bind (wpAny_of_eq (?_ : methodCallPos true o Γ.env apos pos = pure pos) hc))))
  unfold methodCallPos
  rw [hl]
  rfl
theorem meth_blt {o : Expr} {name : Str} {apos pos : Pos} {args : List Expr} {a : Addr} {T id : String} {P : Value → Shared → Prop} {K : List FV → Store → Prop} (hn : noStar args = true) (hz : args.length < 30) (hl : (apos.endLine == pos.line) = true) (h2 : ∀ e ∈ args, EvP Γ e) (fr : Fr Γ z c)
    (ho : ∃ o, z.s.heap.get? a = some o ∧ o.cls = .type T ∧ o.dict = none) (pa : PlainAttrs T) (sl : Slot T name id) (ty : typeOf (.builtin id) = pure (.type "method_descriptor")) (h : wevs d0.X Γ.call args c K z.σ)
    (go : ∀ z' ys vs, Nx [] z z' → Vs z' ys vs → K ys z'.σ → W Γ.A (PySem.call (.builtin id) (.ref a :: vs)) P z'.s) : MC Γ o name apos pos args (.ref a) P z.s :=
  meth_step hn hz hl (fun hq => getMethod_builtin (ho.imp fun _ h => ⟨h.1, h.2.1⟩) pa sl ty (fun a' q => Value.ref.inj q ▸ ho.imp fun _ h => ⟨h.1, h.2.2⟩) hq) (Calls.callWith_builtin (star_no hn) (args_ok hn h2 fr h go))
theorem cg {m m' : M FV} {σ : Store} {Q : FV → Store → Prop} (e : m = m') (h : m Q σ) : m' Q σ := e ▸ h
theorem lstM_1 {l : Nat} {xs args : List FV} {σ : Store} {Q : FV → Store → Prop} (h : lstM l xs "append" args Q σ) : ∃ x, args = [x] ∧ onM (decide (xs.length ≤ lim)) (putR l (.lst (xs ++ [x])) .none) Q σ := by
  induction args using List.casesOn with
  | nil => exact (cg (m := lstM l xs "append" []) (m' := failM) (if_pos rfl) h).elim
  | cons x r =>
    induction r using List.casesOn with
    | nil => exact ⟨x, rfl, cg (m := lstM l xs "append" [x]) (m' := onM (decide (xs.length ≤ lim)) (putR l (.lst (xs ++ [x])) .none)) (if_pos rfl) h⟩
    | cons y r => exact (cg (m := lstM l xs "append" (x :: y :: r)) (m' := failM) (if_pos rfl) h).elim
theorem lstM_2 {l : Nat} {xs args : List FV} {σ : Store} {Q : FV → Store → Prop} (h : lstM l xs "pop" args Q σ) : args = [] ∧ SomeP xs.getLast? fun x => On (decide (xs.length ≤ lim)) (putR l (.lst xs.dropLast) x Q σ) := by
  have e : ("pop" : Str) ≠ "append" := by decide
  induction args using List.casesOn with
  | nil => exact ⟨rfl, cg (m := lstM l xs "pop" []) (m' := fun Q σ => SomeP xs.getLast? fun x => On (decide (xs.length ≤ lim)) (putR l (.lst xs.dropLast) x Q σ)) ((if_neg e).trans (if_pos rfl)) h⟩
  | cons x r => exact (cg (m := lstM l xs "pop" (x :: r)) (m' := failM) ((if_neg e).trans (if_pos rfl)) h).elim
theorem lstM_e {f f' g : M FV} : (if ("extend" : Str) = "append" then f else if ("extend" : Str) = "pop" then f' else g) = g := (if_neg (by decide)).trans (if_neg (by decide))
theorem lstM_3 {l : Nat} {xs args : List FV} {σ : Store} {Q : FV → Store → Prop} (h : lstM l xs "extend" args Q σ) : ∃ x, args = [x] ∧ extO l xs x Q σ := by
  induction args using List.casesOn with
  | nil => exact (cg (m := lstM l xs "extend" []) (m' := failM) (lstM_e.trans (if_pos rfl)) h).elim
  | cons x r =>
    induction r using List.casesOn with
    | nil => exact ⟨x, rfl, cg (m := lstM l xs "extend" [x]) (m' := extO l xs x) (lstM_e.trans (if_pos rfl)) h⟩
    | cons y r => exact (cg (m := lstM l xs "extend" (x :: y :: r)) (m' := failM) (lstM_e.trans (if_pos rfl)) h).elim
theorem dctM_1 {kvs : List (FV × FV)} {args : List FV} {σ : Store} {Q : FV → Store → Prop} (h : dctM kvs "get" args Q σ) : ∃ k d, args = [k, d] ∧ SomeP (kvGet k kvs) fun o => Q (o.getD d) σ := by
  match args, h with
  | [k, d], h => exact ⟨k, d, rfl, cg (m := if ("get" : Str) = "get" then fun Q σ => SomeP (kvGet k kvs) fun o => Q (o.getD d) σ else failM) (if_pos rfl) h⟩
theorem meth_ok {o : Expr} {name : Str} {apos : Pos} {args : List Expr} {pos : Pos} (hn : noStar args = true) (hs : (tagE o != 5) = true) (hl : (apos.endLine == pos.line) = true) (hz : args.length < 30) (h1 : EvP Γ o) (h2 : ∀ e ∈ args, EvP Γ e) :
    EvP Γ (.Call (.Attribute o name apos) args [] pos) := fun {z₀ c Q P} fr h k => by
  rw [arm_eval_Call, base_plain hs]
  refine wpAny_bind (h1 fr h fun z y u N r h => wpAny_bind (wpAny_standAt ?_))
  refine (?_ : MC Γ o name apos pos args u P z.s)
  have h := h.r
  replace k := k.then N
  replace fr := fr.nx N
  clear N h1
  induction y using FV.casesOn with
  | ref l =>
    refine r.refE fun a e => lookE e h fun ob m h => ?_
    induction ob using MO.casesOn with
    | lst xs =>
      have ho : ∃ o, z.s.heap.get? a = some o ∧ o.cls = .type "list" ∧ o.dict = none := m.elim fun _ m => m.elim fun _ m => ⟨_, m.1, rfl, rfl⟩
      have at_ : ∀ {z' : Z}, Nx [] z z' → z'.ρ[l]? = some a := fun N => N.up.pre _ _ e
      have h : On (name == "append" || name == "pop" || name == "extend") (wevs d0.X Γ.call args c (seqK (runK 7 (methM Γ.call .lst (.ref l) name)) Q) z.σ) := h
      have w := h.q
      refine ((Bool.or_eq_true _ _).mp h.b).elim (fun g => ((Bool.or_eq_true _ _).mp g).elim (fun g => ?_) fun g => ?_) fun g => ?_
      · cases eq_of_beq g
        exact meth_blt hn hz hl h2 fr ho F.plainAttrs_list F.slot_list_append F.type_list_append w fun z' ys vs N r h => lookL (at_ N) h.r fun xs ws n g q h => (lstM_1 h).elim fun x h => by
          cases h.1
          exact r.oneE fun v r => app_ok (at_ N) g q r h.2 (k.then N)
      · cases eq_of_beq g
        exact meth_blt hn hz hl h2 fr ho F.plainAttrs_list F.slot_list_pop F.type_list_pop w fun z' ys vs N r h => lookL (at_ N) h.r fun xs ws n g q h => by
          cases (lstM_2 h).1
          exact r.nilE (pop_ok (at_ N) g q (lstM_2 h).2 (k.then N))
      · cases eq_of_beq g
        exact meth_blt hn hz hl h2 fr ho F.plainAttrs_list F.slot_list_extend F.type_list_extend w fun z' ys vs N r h => lookL (at_ N) h.r fun xs ws n g q h => (lstM_3 h).elim fun x h => by
          cases h.1
          exact r.oneE fun v r => ext_ok (at_ N) g q r h.2 (k.then N)
    | dct kvs =>
      have h : On (name == "get") (wevs d0.X Γ.call args c (seqK (runK 7 (methM Γ.call .dct (.ref l) name)) Q) z.σ) := h
      have w := h.q
      cases eq_of_beq h.b
      refine meth_blt hn hz hl h2 fr (m.elim (fun m => m.elim fun _ m => m.1.imp fun _ m => m.elim fun _ m => m.elim fun _ m => ⟨m.1, m.2.1.1, m.2.1.2.1⟩) fun m => m.elim fun _ m => m.1.imp fun _ m => m.elim fun _ m => m.elim fun _ m => ⟨m.1, m.2.1.1, m.2.1.2.1⟩) F.plainAttrs_dict F.slot_dict_get F.type_dict_get w fun z' ys vs N r h => lookE (N.up.pre _ _ e) h.r fun ob m h => ?_
      induction ob using MO.casesOn with
      | dct kvs =>
        exact (dctM_1 h).elim fun k1 h => h.elim fun d h => by
          cases h.1
          have c := SomeP.ite h.2
          exact r.consE fun v vs r1 r => r.oneE fun w r2 => (ask r1 c.1 m).elim fun hk D => dict_get2 Γ.rm (List.mem_of_getElem? (N.up.pre _ _ e)) hk D r2 c.2 (k.then N)
      | _ => exact h.elim
    | ins C d =>
      exact m.elim fun dx m => lookE (l := d) (a := dx) m.1 h fun ob m' h => by
        induction ob using MO.casesOn with
        | att kvs =>
          exact m'.elim fun es m' => m'.elim fun n m' => SomeP.on h.q fun f e2 h' => by
            have o := and3 (z.st.good.meth _ _ _ e2)
            have hgl : getL name es = some none := (ar_getL name m'.2).elim And.right fun g => g.elim fun _ g => g.elim fun _ g => nomatch g.1.symm.trans (Option.isNone_iff_eq_none.mp h.b)
            have p := plainGet_of o.1.1
            exact meth_step (f := .ref f) (first := [.ref a]) hn hz hl (fun hq => method_fn (od := some (dictOf es n)) z.inn ⟨m.2, rfl, rfl, m'.1⟩ p.1 p.2 (beq_iff_eq.mp o.1.2) (beq_iff_eq.mp o.2) (by show (lookIn name (dictOf es n)).map _ = _; rw [lookIn_dict, hgl]; rfl) hq) (fn_ok (fs := [.ref l]) hn h2 fr (show V z (.st (.ref f)) _ from rfl) (.cons (.ref e) .nil) h' k)
        | _ => exact h.elim
    | att kvs => exact h.elim
  | _ => exact h.elim

/-! tests -/
theorem teNot_ok {x : Expr} {pos : Pos} (h : TeP Γ x) : TeP Γ (.UnaryOp .Not x pos) := fun f q k => wpAny_isTrue_Not (h f q fun z1 b v N e q => k z1 (!b) (!v) N (congrArg (!·) e) q)
theorem allTrue_ok {op : BoolOp} : ∀ {vs : List Expr}, (∀ e ∈ vs, TeP Γ e) → ∀ {z : Z} {Q : Bool → Store → Prop} {P : Bool → Shared → Prop}, Fr Γ z c → wtests2 d0.X Γ.call op vs c Q z.σ → KP IsBB z Q P → W Γ.A (allTrue op vs Γ.env) P z.s
  | [], _, z, Q, P, f, h, k => wpAny_pure (k.now rfl h)
  | x :: r, hx, z, Q, P, f, h, k => by
    show wpAny _ _ (isTrue x Γ.env (eval x Γ.env) >>= _) _ _ _
    refine wpAny_bind (hx x (.head _) f h fun z1 b v N e h => ?_)
    cases e
    have rec_ := fun h => allTrue_ok (op := op) (vs := r) (fun e he => hx e (.tail _ he)) (f.nx N) h (k.then N)
    have now := fun h => wpAny_pure (M := model d0.prog d0.w) (A := Γ.A) (E := noE) (k z1 b b N rfl h)
    cases op <;> cases b
    · exact now h.no
    · exact rec_ h.yes
    · exact rec_ h.no
    · exact now h.yes
theorem teCmp_ok {l r : Expr} {op : CmpOp} {pos : Pos} (hn : (tagE r != 2) = true) (h1 : EvP Γ l) (h2 : EvP Γ r) : TeP Γ (.Compare l [op] [r] pos) := fun f h k =>
  wpAny_isTrue_Compare1 (h1 f h fun z1 y v N1 r1 h => h2 (f.nx N1) h fun z2 y2 v2 N2 r2 h => cmp_ok Γ.rm (N2.v r1) r2 h.r fun z3 b w N3 e h => e ▸ wpAny_truthy_bool (k z3 b _ ((N1.trans N2).trans N3) rfl h)) (behind_no hn)
noncomputable abbrev EvT (Γ : Fm) (e : Expr) : Prop := EvP Γ e ∧ TeP Γ e
theorem ev_pl {x : Expr} (hi : ∀ whole : Sem Value, isTrue x Γ.env whole = (do let v ← whole; standAt x.pos; holding [v] (truthy v))) (ht : ∀ c m (Q : Bool → Store → Prop) σ, wtest d0.X Γ.call x c m Q σ = m (seqK (runK 2 truthyM) Q) σ) (h : EvP Γ x) : EvT Γ x :=
  ⟨h, fun f q k => isTrue_plain (h f (ht _ _ _ _ ▸ q) fun z1 y v N r q => truthy_ok r q.r (k.then N)) (hi _)⟩
end
section
variable {Γ : Fm}
noncomputable abbrev AllOk (n : Nat) : Prop := ∀ e, okE n e = true → ∀ Γ, EvT Γ e
theorem okName_eq {e : Expr} {P : Expr → Prop} (h : okName e = true) (k : ∀ x p, okN x = true → P (.Name x p)) : P e := by
  induction e using Expr.casesOn with
  | Name x p => exact k x p h
  | _ => exact ff h
theorem dict_ok {ks : List (Option Expr)} {vs : List Expr} {p : Pos} (h : okDict ks vs = true) : EvP Γ (.Dict ks vs p) := by
  rcases ks with _ | ⟨k, _ | ⟨k2, ks⟩⟩
  · rcases vs with _ | ⟨v, vs⟩
    · exact dict0_ok
    · exact ff h
  · rcases k with _ | k
    · exact ff h
    rcases vs with _ | ⟨v, _ | ⟨v2, vs⟩⟩
    · exact ff h
    · exact okName_eq (P := fun k => EvP Γ (.Dict [some k] [v] p)) (and2 h).1 fun x p1 hx => (Option.isSome_iff_exists.mp (and2 h).2).elim fun i e => int_eq (P := fun v => EvP Γ (.Dict [some (.Name x p1)] [v] p)) e fun u p2 => dict1_ok hx
    · exact ff h
  · rcases k with _ | k <;> exact ff h
theorem all_mem {n : Nat} (ih : AllOk n) {es : List Expr} (h : es.all (okE n) = true) (Γ : Fm) (e : Expr) (he : e ∈ es) : EvT Γ e := ih e (List.all_eq_true.mp h e he) Γ
theorem all_opt {n : Nat} (ih : AllOk n) {o : Option Expr} (h : o.all (okE n) = true) (e : Expr) (he : o = some e) : EvP Γ e := (ih e (by subst he; exact h) Γ).1
theorem okG_sh {f : Expr → Bool} {elt : Expr} {gs : List Comprehension} {sc : Scope} {P : List Comprehension → Prop} (h : okG f elt sc gs = true)
    (k : ∀ t px it ifs, f elt = true → f it = true → (∀ e ∈ ifs, f e = true) → (tagE it != 2) = true → ScOk sc t → P [⟨.Name t px, it, ifs, 0⟩]) : P gs := by
  rcases gs with _ | ⟨⟨te, it, ifs, i⟩, _ | ⟨g2, gs⟩⟩
  · exact ff h
  · have h1 := and3 h
    have h2 := and3 h1.1.1
    have h3 := and2 h1.1.2
    cases eq_of_beq h3.2
    cases e : nameOf te with
    | none => have := h1.2; rw [show nameOf (Comprehension.target ⟨te, it, ifs, 0⟩) = none from e] at this; exact ff this
    | some t =>
      have := h1.2; rw [show nameOf (Comprehension.target ⟨te, it, ifs, 0⟩) = some t from e] at this
      exact name_eq (P := fun te => P [⟨te, it, ifs, 0⟩]) e fun px => k t px it ifs h2.1.1 h2.1.2 (List.all_eq_true.mp h2.2) h3.1 (scOk_of this)
  · exact ff h
theorem comps_ok {n : Nat} (ih : AllOk n) {elt : Expr} {gs : List Comprehension} {sc : Scope} {p : Pos} (h : okG (okE n) elt sc gs = true) : EvP Γ (.ListComp elt gs sc p) :=
  okG_sh (P := fun gs => EvP Γ (.ListComp elt gs sc p)) h fun t px it ifs h1 h2 h3 h4 h5 => comp_ok h5 h4 (ih it h2 Γ).1 (fun Γ => (ih elt h1 Γ).1) fun Γ e he => (ih e (h3 e he) Γ).2
theorem cmps_ok {n : Nat} (ih : AllOk n) {l : Expr} {ops : List CmpOp} {rs : List Expr} {p : Pos} (hl : EvP Γ l) (h : okCmp (okE n) rs = true) : EvT Γ (.Compare l ops rs p) := by
  rcases rs with _ | ⟨r, _ | ⟨r2, rs⟩⟩
  · exact ff h
  · have h := and2 h
    rcases ops with _ | ⟨op, _ | ⟨o2, ops⟩⟩
    · exact ⟨fun _ h _ => h.elim, fun _ h _ => h.elim⟩
    · exact ⟨compare_ok h.2 hl (ih r h.1 Γ).1, teCmp_ok h.2 hl (ih r h.1 Γ).1⟩
    · exact ⟨fun _ h _ => h.elim, fun _ h _ => h.elim⟩
  · exact ff h
theorem calls_ok {n : Nat} (ih : AllOk n) (ih2 : ∀ o nm q, okE n (.Attribute o nm q) = true → EvP Γ o ∧ (tagE o != 5) = true) {f : Expr} {args : List Expr} {kws : List Keyword} {p : Pos} (h1 : okE n f = true) (h2 : args.all (okE n) = true) (h : okCall args kws p f = true) : EvP Γ (.Call f args kws p) := by
  have h := and3 h
  cases List.isEmpty_iff.mp h.1.1
  have ha : ∀ e ∈ args, EvP Γ e := fun e he => (all_mem ih h2 Γ e he).1
  intro z c Q P
  induction f using Expr.casesOn with
  | Attribute o nm q =>
    have g := and2 h.2
    have i := ih2 o nm q h1
    exact meth_ok h.1.2 i.2 g.1 (of_decide_eq_true g.2) i.1 ha
  | Name x q => exact call_ok h.1.2 (ih _ h1 Γ).1 ha
  | _ => exact fun _ h _ => h.elim
theorem subs_ok {n : Nat} (ih : AllOk n) (ih2 : ∀ a b c q, okE n (.Slice a b c q) = true → (∀ e, a = some e → EvP Γ e) ∧ (∀ e, b = some e → EvP Γ e) ∧ c = none) {o i : Expr} {p : Pos} (h1 : okE n o = true) (h2 : okE n i = true) : EvP Γ (.Subscript o i p) := by
  have ho : EvP Γ o := (ih o h1 Γ).1
  intro z c Q P
  cases e : asSlice i with
  | none => exact subscript_ok e ho (ih i h2 Γ).1
  | some x =>
    revert h2
    refine fun h2 => slice_eq (P := fun i => okE n i = true → EvP Γ (.Subscript o i p)) e (fun q h2 => ?_) h2
    intro z c Q P
    have g := ih2 _ _ _ _ h2
    rw [g.2.2]
    exact slice_ok ho g.1 g.2.1
theorem all_ok (n : Nat) : AllOk n := by
  induction n using Nat.strongRecOn with | ind n IH => ?_
  cases n with
  | zero => exact fun e h => ff h
  | succ n =>
    have ih : AllOk n := IH n (Nat.lt_succ_self n)
    intro e h Γ
    have ih2 : ∀ o nm q, okE n (.Attribute o nm q) = true → EvP Γ o ∧ (tagE o != 5) = true := fun o nm q h => by
      cases n with
      | zero => exact ff h
      | succ n => exact ⟨(IH n (Nat.lt_succ_of_lt (Nat.lt_succ_self n)) o (and2 h).1 Γ).1, (and2 h).2⟩
    have ih3 : ∀ a b c q, okE n (.Slice a b c q) = true → (∀ e, a = some e → EvP Γ e) ∧ (∀ e, b = some e → EvP Γ e) ∧ c = none := fun a b c q h => by
      cases n with
      | zero => exact ff h
      | succ n =>
        have h := and3 h
        have ih := IH n (Nat.lt_succ_of_lt (Nat.lt_succ_self n))
        exact ⟨all_opt ih h.1.1, all_opt ih h.1.2, Option.isNone_iff_eq_none.mp h.2⟩
    clear IH
    induction e using Expr.casesOn with
    | Constant k u p => exact ev_pl (fun _ => rfl) (fun _ _ _ _ => rfl) fun _ h k => const_ok h k
    | Name x p => exact ev_pl (fun _ => rfl) (fun _ _ _ _ => rfl) (name_ok h)
    | BoolOp op vs p => exact ⟨fun f h' k => arm_eval_BoolOp .. ▸ boolOp_ok (fun e he => (all_mem ih h Γ e he).1) f h' k, fun f h' k => wpAny_isTrue_BoolOp (allTrue_ok (fun e he => (all_mem ih h Γ e he).2) f h' k)⟩
    | BinOp l op r p => exact ev_pl (fun _ => rfl) (fun _ _ _ _ => rfl) (binOp_ok (ih l (and2 h).1 Γ).1 (ih r (and2 h).2 Γ).1)
    | UnaryOp op x p =>
      have hx := ih x h Γ
      induction op using UnaryOp.casesOn with
      | Not => exact ⟨un_ok hx.1, teNot_ok hx.2⟩
      | _ => exact ev_pl (fun _ => rfl) (fun _ _ _ _ => rfl) (un_ok hx.1)
    | IfExp t x y p => exact ⟨ifExp_ok (ih t (and3 h).1.1 Γ).2 (ih x (and3 h).1.2 Γ).1 (ih y (and3 h).2 Γ).1, fun _ h _ => h.elim⟩
    | Dict ks vs p => exact ev_pl (fun _ => rfl) (fun _ _ _ _ => rfl) (dict_ok h)
    | ListComp elt gens sc p => exact ev_pl (fun _ => rfl) (fun _ _ _ _ => rfl) (comps_ok ih h)
    | Compare l ops rs p => exact cmps_ok ih (ih l (and2 h).1 Γ).1 (and2 h).2
    | Call f args kws p => exact ev_pl (fun _ => rfl) (fun _ _ _ _ => rfl) (calls_ok ih ih2 (and3 h).1.1 (and3 h).1.2 (and3 h).2)
    | Attribute o a p => exact ev_pl (fun _ => rfl) (fun _ _ _ _ => rfl) (attribute_ok (and2 h).2 (ih o (and2 h).1 Γ).1)
    | Subscript o i p => exact ev_pl (fun _ => rfl) (fun _ _ _ _ => rfl) (subs_ok ih ih3 (and2 h).1 (and2 h).2)
    | Slice lo hi st p => exact ev_pl (fun _ => rfl) (fun _ _ _ _ => rfl) fun _ h _ => h.elim
    | List es p => exact ev_pl (fun _ => rfl) (fun _ _ _ _ => rfl) (list_ok (and3 h).1.2 (of_decide_eq_true (and3 h).2) fun e he => (all_mem ih (and3 h).1.1 Γ e he).1)
    | Tuple es k p => exact ev_pl (fun _ => rfl) (fun _ _ _ _ => rfl) (tuple_ok (and3 h).1.2 (of_decide_eq_true (and3 h).2) fun e he => (all_mem ih (and3 h).1.1 Γ e he).1)
    | _ => exact ff h
end
noncomputable def FlR (z : Z) (fl : Fl) (f : Flow) : Prop := match fl with
  | .next => f = .next
  | .cont => f = .cont
  | .ret d => ∃ v, f = .ret v ∧ V z d v
/-- behind a block -/
noncomputable abbrev KS (Γ : Fm) (z : Z) (Q : Fl → Lc → Store → Prop) (P : Flow → Shared → Prop) : Prop := ∀ (z' : Z) (fl : Fl) (c : Lc) (f : Flow), Nx (fs Γ.env) z z' → Fr Γ z' c → FlR z' fl f → Q fl c z'.σ → P f z'.s
noncomputable abbrev KTg (Γ : Fm) (z : Z) (K : Lc → Store → Prop) (P : Unit → Shared → Prop) : Prop := ∀ (z' : Z) (c : Lc), Nx (fs Γ.env) z z' → Fr Γ z' c → K c z'.σ → P () z'.s
noncomputable abbrev ExP (Γ : Fm) (n : Nat) (st : Stmt) : Prop := ∀ {z : Z} {c : Lc} {Q : Fl → Lc → Store → Prop} {P : Flow → Shared → Prop}, Fr Γ z c → wex d0.X Γ.call n st c Q z.σ → KS Γ z Q P → W Γ.A (exec st Γ.env) P z.s
noncomputable abbrev ExsP (Γ : Fm) (n : Nat) (sts : List Stmt) : Prop := ∀ {z : Z} {c : Lc} {Q : Fl → Lc → Store → Prop} {P : Flow → Shared → Prop}, Fr Γ z c → wexs d0.X Γ.call n sts c Q z.σ → KS Γ z Q P → W Γ.A (execs sts Γ.env) P z.s
/-- a target is stored -/
noncomputable abbrev TgP (Γ : Fm) (t : Expr) (m : Lc → FV → (Lc → Store → Prop) → Store → Prop) : Prop := ∀ {z : Z} {c : Lc} {v : Value} {d : FV} {K : Lc → Store → Prop} {P : Unit → Shared → Prop}, Fr Γ z c → V z d v → m c d K z.σ → KTg Γ z K P → W Γ.A (assign t Γ.env v) P z.s
noncomputable abbrev bindM (t : Expr) : Lc → FV → (Lc → Store → Prop) → Store → Prop := fun c d K σ => SomeP (bindTarget t d c) fun c => K c σ

section
variable {Γ : Fm} {n : Nat}
theorem KS.then {z z' : Z} {Q : Fl → Lc → Store → Prop} {P : Flow → Shared → Prop} (k : KS Γ z Q P) (N : Nx (fs Γ.env) z z') : KS Γ z' Q P := fun z2 fl c f N2 => k z2 fl c f (N.trans N2)
theorem set_names {env : Env} : ∀ {ts : List Expr} {ds : List FV} {c c' : Lc}, setNs ts ds c = some c' → (assignEach ts env).length = ds.length ∧ (assignEach ts env).findIdx? (·.1) = none
  | [], [], _, _, _ => ⟨rfl, rfl⟩
  | [], _ :: _, _, _, e => noS e
  | _ :: _, [], _, _, e => noS e
  | t :: ts, d :: ds, c, c', e => (Option.bind_eq_some_iff.mp e).elim fun x h => (Option.bind_eq_some_iff.mp h.2).elim fun c1 g => by
    have ih := set_names (env := env) g.2
    refine name_eq (P := fun t => (assignEach (t :: ts) env).length = ds.length + 1 ∧ (assignEach (t :: ts) env).findIdx? (·.1) = none) h.1 fun p => ⟨congrArg (· + 1) ih.1, ?_⟩
    rw [show assignEach (.Name x p :: ts) env = (false, assign (.Name x p) env) :: assignEach ts env from rfl, List.findIdx?_cons, ih.2]
    rfl
theorem order_ok : ∀ {ts : List Expr} {ds : List FV} {c c' : Lc}, setNs ts ds c = some c' → ∀ {z : Z} {vs : List Value} {P : Unit → Shared → Prop}, Fr Γ z c → Vs z ds vs → (∀ z', Nx (fs Γ.env) z z' → z'.σ = z.σ → Fr Γ z' c' → P () z'.s) →
    W Γ.A (assignInOrder ((assignEach ts Γ.env).map (·.2)) vs) P z.s
  | [], [], c, c', e, z, vs, P, f, q, k => q.nilE (wpAny_pure (k z .refl rfl (Option.some.inj e ▸ f)))
  | [], _ :: _, _, _, e, _, _, _, _, _, _ => noS e
  | _ :: _, [], _, _, e, _, _, _, _, _, _ => noS e
  | t :: ts, d :: ds, c, c', e, z, vs, P, f, q, k => (Option.bind_eq_some_iff.mp e).elim fun x h => (Option.bind_eq_some_iff.mp h.2).elim fun c1 g => q.consE fun v vs r q => by
    refine name_eq (P := fun t => W Γ.A (assignInOrder ((assignEach (t :: ts) Γ.env).map (·.2)) (v :: vs)) P z.s) h.1 fun p => ?_
    show wpAny _ _ (holding _ (assign (.Name x p) Γ.env _) >>= fun _ => assignInOrder ((assignEach ts Γ.env).map (·.2)) _) _ _ _
    exact wpAny_bind (wpAny_holding (wpAny_assign_Name (store_ok f r g.1 fun z1 N e1 e2 f1 => order_ok g.2 f1 (N.vs q) fun z2 N2 e3 => k z2 (N.trans N2) (e3.trans e1))))
theorem tg_bind {t : Expr} : TgP Γ t (bindM t) := by
  induction t using Expr.casesOn with
  | Name x p => exact fun f r h k => SomeP.on h fun c' e q => wpAny_assign_Name (store_ok f r e fun z' N e1 e2 F => k z' c' N F (e1 ▸ q))
  | Tuple ts i p =>
      intro z c v d K P f r h k
      induction d using FV.casesOn with
      | tup xs =>
        exact r.tupE fun a n vs e1 q => SomeP.on h fun c' e h => by
          have h2 := set_names (env := Γ.env) e
          refine wpAny_assign_Tuple Γ.rm.h (isTupO e1) (h2.1.trans (q.len.trans (List.size_toArray ..).symm)) h2.2 fun h' hs => ?_
          have kp : ∀ a o, z.s.heap.get? a = some o → h'.get? a = some o := fun a o e => hs a o (Nat.ne_of_lt (Heap.lt_size e)) e
          have N1 : Nx [] z (z.to h' z.s.toks kp) := .to
          exact order_ok (z := z.to h' z.s.toks kp) e (f.nx N1) (N1.vs q) fun z2 N2 e2 f2 => k z2 c' (N1.wide.trans N2) f2 (e2 ▸ h)
      | _ => exact h.elim
  | _ => exact fun _ _ h _ => h.elim
theorem tg_attr {o : Expr} {a : Str} {p : Pos} (h1 : EvP Γ o) : TgP Γ (.Attribute o a p) (fun c d => wassign d0.X Γ.call c (.Attribute o a p) d) := fun {z c v d K P} f r h k => by
  rw [arm_assign_Attribute]
  exact wpAny_bind (wpAny_holding (h1 f h fun z1 y u N1 r1 h => wpAny_bind (wpAny_standAt (wpAny_bind (wpAny_holding (setAttr_ok r1 (N1.v r) h.r fun z2 _ _ N2 _ q => wpAny_release (k z2 c (N1.trans N2).wide (f.nx (N1.trans N2)) q)))))))
theorem tg_item {o i : Expr} {p : Pos} (h1 : EvP Γ o) (h2 : EvP Γ i) : TgP Γ (.Subscript o i p) (fun c d => wassign d0.X Γ.call c (.Subscript o i p) d) := fun {z c v d K P} f r h k => by
  rw [arm_assign_Subscript]
  exact wpAny_bind (wpAny_holding (h1 f h fun z1 y u N1 r1 h => wpAny_bind (wpAny_holding (h2 (f.nx N1) h fun z2 y2 u2 N2 r2 h => wpAny_bind (wpAny_standAt (wpAny_bind (wpAny_holding (setItem_ok Γ.rm (N2.v r1) r2 ((N1.trans N2).v r) h.r fun z3 _ _ N3 _ q =>
    wpAny_release (k z3 c ((N1.trans N2).trans N3).wide (f.nx ((N1.trans N2).trans N3)) q))))))))) 
theorem tg_all {t : Expr} (h : okT t = true) : TgP Γ t (fun c d => wassign d0.X Γ.call c t d) := by
  induction t using Expr.casesOn with
  | Attribute o a p => exact tg_attr (all_ok 39 o (and2 (and2 (show (okE 40 (.Attribute o a p) && _) = true from h)).1).1 Γ).1
  | Subscript o i p => exact tg_item (all_ok 39 o (and2 (and2 (show (okE 40 (.Subscript o i p) && _) = true from h)).1).1 Γ).1 (all_ok 39 i (and2 (and2 (show (okE 40 (.Subscript o i p) && _) = true from h)).1).2 Γ).1
  | _ => exact fun f r h k => tg_bind f r h k
theorem each_one {t : Expr} {env : Env} (h : okT t = true) : (assignEach [t] env).map (·.2) = [assign t env] := by
  induction t using Expr.casesOn with
  | Starred => exact ff h
  | _ => rfl
theorem swaps_no {e : Expr} {t : Option Expr} {l : Nat} {env : Env} (h : (tagE e != 3) = true) : swapsWith e t l env = pure false := by
  induction e using Expr.casesOn with
  | ListComp => exact ff h
  | SetComp => exact ff h
  | DictComp => exact ff h
  | _ => rfl
theorem swapped_name {x : Str} {p : Pos} {e : Expr} {env : Env} : swappedStores [.Name x p] e env = pure none := rfl
theorem swapped_no {t e : Expr} {env : Env} (ht : okT t = true) (h : (tagE t != 4 || tagE e != 4) = true) : swappedStores [t] e env = pure none := by
  induction t using Expr.casesOn with
  | Tuple =>
    induction e using Expr.casesOn with
    | Tuple => exact ff h
    | _ => rfl
  | List es p => exact ff (and2 (show (okE 40 (.List es p) && false) = true from ht)).2
  | _ => rfl
theorem assign_plain {t value : Expr} {pos : Pos} (ht : okT t = true) (h : EvP Γ value) (hs : swapsWith value (some t) pos.line Γ.env = pure false) (hw : swappedStores [t] value Γ.env = pure none) : ExP Γ n (.Assign [t] value pos) := fun f q k =>
  wpAny_Assign_stores (h f q fun z1 y u N1 r1 q => by rw [each_one ht]; exact tg_all ht (f.nx N1) r1 q fun z2 c2 N2 F2 q => k z2 .next c2 .next (N1.wide.trans N2) F2 rfl q) hs hw
/-- an object that is of no frame is turned or gone -/
theorem Fr.but {z z' : Z} {c : Lc} {I : Addr} (f : Fr Γ z c) (b : But I z z') (h : I ∉ fs Γ.env) : Fr Γ z' c :=
  have g : ∀ a ∈ fs Γ.env, ∀ o, z.s.heap.get? a = some o → z'.s.heap.get? a = some o := fun a m o => b.get a o fun q => h (q ▸ m)
  ⟨f.names, f.ns.imp fun mv => And.imp (Exists.imp fun o => Exists.imp fun es => Exists.imp fun ep => And.imp (g _ (.head _) o) id) fun q x d h1 h2 => (q x d h1 h2).imp fun v => And.imp id fun r => r.up b.up,
    fun x hx => (f.cells x hx).imp fun a => Exists.imp fun cv h => ⟨h.1, h.2.1.imp fun o => And.imp (g _ (mem_fs h.1) o) id, fun d e => (h.2.2 d e).imp fun v => And.imp id fun r => r.up b.up⟩,
    fun a h => ⟨b.ρ.symm ▸ (f.out a h).1, (f.out a h).2.imp fun o => g a h o⟩⟩
/-- an assignment of a comprehension to a name: the name is stored ahead of the letting go -/
theorem assign_end {z₀ z : Z} {C D : Addr} {out : List FV} {y : Str} {py : Pos} {c : Lc} {Q : Fl → Lc → Store → Prop} {P : Flow → Shared → Prop} (N : Nx [] z₀ z) (f : Fr Γ z₀ c) (hC : C ∉ z.ρ) (fC : Free z₀.s.heap C) (hD : D ∉ z.ρ) (fD : Free z₀.s.heap D)
    (ls : ∃ vs k, z.s.heap.get? D = some (lstObj vs k) ∧ Vs z out vs) (hDC : D ≠ C) (ns : ∃ m, z.s.heap.Ns C m) (h : RunT 3 (alloc (.lst out)) z.σ (mapK .ref (asgK (wassign d0.X Γ.call c (.Name y py)) Q))) (k : KS Γ z₀ Q P) :
    W Γ.A (assign (.Name y py) Γ.env (.ref D)) (fun _ s'' => ∃ m, s''.heap.Ns C m ∧ ∀ h', Heap.SameBut C s''.heap h' → P .next { s'' with heap := h' }) z.s :=
  ls.elim fun vs ls => ls.elim fun kk ls => by
    have m : MRel d0 ⟨z.s.heap, z.ρ ++ [D]⟩ D (.lst out) := ⟨vs, kk, ls.1, (Up.more (h := z.s.heap) [D]).vs ls.2⟩
    have N1 : Nx [] z₀ (z.reg D (.lst out) hD (z₀.base fD) m) := N.reg fD
    have hF : C ∉ fs Γ.env := fun q => (f.out C q).2.no fC
    have hC1 : C ∉ z.ρ ++ [D] := fun q => (List.mem_append.mp q).elim hC fun q => hDC (List.mem_singleton.mp q).symm
    have q : SomeP (setN c y (.ref z.σ.length)) fun c => Q .next c (z.σ ++ [.lst out]) := h.r
    refine SomeP.on q fun c' e q => wpAny_assign_Name (store_ok (z := z.reg D (.lst out) hD (z₀.base fD) m) (f.nx N1) (.ref (z.st.len ▸ at_end _ _)) e fun z2 N2 e2 e3 F2 => ns.imp fun mv ns => ns.elim fun o ns => ns.elim fun es ns => ns.elim fun ep ns => ?_)
    have ho := N2.ext C o (fun q => hC1 (List.mem_of_mem_drop q)) hF ns.1
    exact ⟨⟨o, es, ep, ho, ns.2⟩, fun h' hs => (offE (t := z2.s.toks) ho (fix_dict ns.2.1) (fun q => hC1 (by rw [e3] at q; exact q)) (z₀.base fC) hs).elim fun z3 g => (g.2.2 ▸ k z3 .next c' .next (g.1.nx (N1.wide.trans N2) fC) (F2.but g.1 hF) rfl (by rw [g.1.σ, e2]; exact q) : P .next { z2.s with heap := h' })⟩
theorem assign_comp {y t : Str} {py px pos spos : Pos} {elt it : Expr} {ifs : List Expr} {sc : Scope} (hs : ScOk sc t) (hn : (tagE it != 2) = true) (h1 : EvP Γ it) (hel : ∀ Γ : Fm, EvP Γ elt) (hte : ∀ Γ : Fm, ∀ e ∈ ifs, TeP Γ e)
    (hsw : swapsWith (.ListComp elt [⟨.Name t px, it, ifs, 0⟩] sc pos) (some (.Name y py)) spos.line Γ.env = pure true) : ExP Γ n (.Assign [.Name y py] (.ListComp elt [⟨.Name t px, it, ifs, 0⟩] sc pos) spos) := fun {z c Q P} f h k => by
  have h : On (handed sc c.names) (wev d0.X Γ.call it c (seqK (compK sc t c (wtests d0.X Γ.call ifs) (wev d0.X Γ.call elt)) (asgK (wassign d0.X Γ.call c (.Name y py)) Q)) z.σ) := h
  rw [exec_Assign_Name_used _ _ _ _ hsw]
  refine wpAny_bind (wpAny_standAt (wpAny_bind ?_))
  show wpAny _ Γ.A (do let _ ← comprehension (.ListComp elt [⟨.Name t px, it, ifs, 0⟩] sc pos) sc Γ.env _ (newList []) false (eval it Γ.env) (some (assign (.Name y py) Γ.env))) _ _ z.s
  refine wpAny_bind (wpAny_mono (wpAny_comprehension_free (use := some (assign (.Name y py) Γ.env)) (Q := fun _ => P .next) rfl (folded_not hn) (closure_eq (cells_of f h.b)) hs.kind (names_loc hs)
    (h1 f h.q fun z1 y v N1 r1 q => comp_start (iter := it) (px := px) (pos := pos) (RR := fun acc C => compPost (model d0.prog d0.w) Γ.A noE _ _ acc C) hs (f.nx N1) h.b r1 (fun C _ _ => hel _) (fun C _ _ => hte _) q.r
      fun z2 C out N ns hC fC D hD fD ls hDC h => assign_end N (f.nx N1) hC fC hD fD ls hDC ns h (k.then N1.wide))) (fun _ s' hq => wpAny_pure (wpAny_pure hq)) fun _ _ e => e)
end
section
variable {Γ : Fm} {n : Nat}
theorem letGo_at {E : Value → Shared → Prop} {target : Expr} {z : Z} {I : Addr} {x : FV} {i : Nat} {v : Value} {P : Unit → Shared → Prop} (t : ItAt z.p I x i) (h : P () z.s) : wpAny (model d0.prog d0.w) Γ.A (letOwnedTupleGo target (.ref I) v) P E z.s := by
  induction x using FV.casesOn with
  | ref l => exact t.elim fun a t => letGo_listiter t.2 h
  | tup xs => exact t.elim fun a t => t.elim fun vs t => t.elim fun n t => letGo_tupleiter t.2.2 h
  | rng lo hi =>
    unfold letOwnedTupleGo
    induction target using Expr.casesOn with
    | Tuple =>
      induction v using Value.casesOn with
      | ref a =>
        refine wpAny_bind (wpAny_load t.2.2 ?_)
        exact wpAny_pure h
      | _ => exact wpAny_pure h
    | List =>
      induction v using Value.casesOn with
      | ref a =>
        refine wpAny_bind (wpAny_load t.2.2 ?_)
        exact wpAny_pure h
      | _ => exact wpAny_pure h
    | _ => exact wpAny_pure h
  | _ => exact t.elim
theorem lookup_keep {x : Str} {d : FV} : ∀ {m : List (Str × FV)} {n : Nat}, (m.take n).lookup x = some d → m.lookup x = some d
  | [], n, h => by rw [List.take_nil] at h; exact h
  | _ :: _, 0, h => noS h
  | (a, u) :: m, n + 1, h => by
    rw [List.take_succ_cons, List.lookup_cons] at h
    rw [List.lookup_cons]
    cases e : x == a with
    | true => rw [e] at h; exact h
    | false => rw [e] at h; exact lookup_keep h
theorem Fr.keep {z : Z} {d : Lc} (f : Fr Γ z d) (c : Lc) : Fr Γ z (keepN c d) :=
  ⟨f.names, f.ns.imp fun mv => And.imp id fun h x u k e => h x u k (lookup_keep e), fun x hx => (f.cells x hx).imp fun a => Exists.imp fun cv h => ⟨h.1, h.2.1, fun u e => h.2.2 u (lookup_keep e)⟩, f.out⟩
/-- how things stand at a turn of a for -/
structure ForI (z₀ z : Z) (Γ : Fm) (I : Addr) (x : FV) (i : Nat) (c : Lc) : Prop where
  N : Nx (fs Γ.env) z₀ z
  f : Fr Γ z c
  it : ItAt z.p I x i
  nI : I ∉ z.ρ
noncomputable def ForS (z₀ : Z) (Γ : Fm) (I : Addr) (x : FV) (B : FV → Lc → Wx) (Q : Fl → Lc → Store → Prop) (n : Nat) (s : Shared) : Prop := ∃ z i c, z.s = s ∧ ForI z₀ z Γ I x i c ∧ wfor B x n i c Q z.σ
noncomputable abbrev afterK (c : Lc) (g : Lc → Store → Prop) (Q : Fl → Lc → Store → Prop) : Fl → Lc → Store → Prop := fun fl d σ => match fl with
  | .ret r => Q (.ret r) d σ
  | _ => g (keepN c d) σ
theorem ForS.out {z₀ : Z} {I : Addr} {x : FV} {B : FV → Lc → Wx} {Q : Fl → Lc → Store → Prop} {s : Shared} {P : Shared → Prop} (h : ForS z₀ Γ I x B Q n s)
    (k : ∀ z i c n', ForI z₀ z Γ I x i c → n' < n → itemsM x (fun items σ => match items[i]? with
    | none => Q .next c σ
    | some y => B y c (afterK c (fun d σ => wfor B x n' (i + 1) d Q σ) Q) σ) z.σ → P z.s) : P s :=
  h.elim fun z h => h.elim fun i h => h.elim fun c h => by
    cases n with
    | zero => exact h.2.2.elim
    | succ n => exact h.1 ▸ k z i c n h.2.1 (Nat.lt_succ_self n) h.2.2.r
/-- what goes on behind a turn -/
noncomputable abbrev TurnP (J : Nat → Shared → Prop) (R : Result → Shared → Prop) (n : Nat) : Flow → Shared → Prop := fun f s₃ => match f with
  | .next | .cont => ∃ m, m < n ∧ J m s₃
  | .brk => R (.ok .next) s₃
  | .ret v => R (.ok (.ret v)) s₃
theorem for_turn {z₀ z : Z} {I : Addr} {x y : FV} {u : Value} {i n' m : Nat} {c : Lc} {t : Expr} {body : List Stmt} {Q : Fl → Lc → Store → Prop} {R : Result → Shared → Prop} (hn : n' < m) (hb : ExsP Γ n body) (fI : Free z₀.s.heap I) (eI : I ∉ fs Γ.env) (J : ForI z₀ z Γ I x (i + 1) c) (r : V z y u)
    (h : bodyK t (wexs d0.X Γ.call n body) y c (afterK c (fun d σ => wfor (bodyK t (wexs d0.X Γ.call n body)) x n' (i + 1) d Q σ) Q) z.σ) (kr : ∀ z' d v w, Nx (fs Γ.env) z₀ z' → Fr Γ z' d → V z' v w → Q (.ret v) d z'.σ → R (.ok (.ret w)) z'.s) :
    W Γ.A (assign t Γ.env u) (fun _ s => W Γ.A (execs body Γ.env) (TurnP (ForS z₀ Γ I x (bodyK t (wexs d0.X Γ.call n body)) Q) R m) s) z.s :=
  tg_bind (K := fun c' σ => wexs d0.X Γ.call n body c' (afterK c (fun d σ => wfor (bodyK t (wexs d0.X Γ.call n body)) x n' (i + 1) d Q σ) Q) σ) J.f r h fun z1 c1 N1 f1 h => hb f1 h fun z2 fl c2 f N2 f2 q h => by
    have N := N1.trans N2
    have go : wfor (bodyK t (wexs d0.X Γ.call n body)) x n' (i + 1) (keepN c c2) Q z2.σ → ∃ k, k < m ∧ ForS z₀ Γ I x (bodyK t (wexs d0.X Γ.call n body)) Q k z2.s := fun h =>
      ⟨n', hn, z2, i + 1, keepN c c2, rfl, ⟨J.N.trans N, f2.keep c, J.it.keep N.up fun o e => N.ext I o (fun q => J.nI (List.mem_of_mem_drop q)) eI e, J.it.obj.elim fun o g => N.not ⟨o, g.1⟩ J.nI⟩, h⟩
    induction fl using Fl.casesOn with
    | next => cases q; exact go h
    | cont => cases q; exact go h
    | ret d => exact q.elim fun v q => q.1 ▸ kr z2 c2 d v (J.N.trans N) f2 q.2 h
theorem for_ok {t it : Expr} {body : List Stmt} {pos : Pos} (hn : (tagE it != 2) = true) (h1 : EvP Γ it) (hb : ExsP Γ n body) : ExP Γ n (.For t it body [] pos) := fun {z c Q P} f h k =>
  wpAny_For (h1 f h fun z₀ x v N0 r h => iter_ok r h.r fun z1 N1 b1 it0 q => q.elim fun xs q => by
    have f0 := f.nx N0
    have fI := free_size z₀.s.heap
    have eI : z₀.sz ∉ fs Γ.env := fun m => (f0.out _ m).2.no fI
    have q : wfor (bodyK t (wexs d0.X Γ.call n body)) x n 0 c Q z1.σ := by rw [b1.σ]; exact q
    have kk := KS.then k N0.wide
    refine codeAny_forLoop_any (ForS z₀ Γ z₀.sz x (bodyK t (wexs d0.X Γ.call n body)) Q) (fun m s h => h.out fun z2 i c2 n' J hn' h => anyE (next_ok Γ.rm.h J.nI (z₀.base fI) J.it h
      (fun z3 xs y u b lv it3 e r q => letGo_at it3 (anyE (wpAny_mono (for_turn (R := fun r s' => match r with | .ok f => P f s' | .error e => cameBackBy (model d0.prog d0.w) Γ.A Γ.env noE e s') hn' hb fI eI ⟨b.nx J.N fI, J.f.but b eI, it3, b.ρ.symm ▸ J.nI⟩ r (itm_some e (b.σ.symm ▸ q)) fun z' d v w N' f' r' q' => kk z' (.ret v) d (.ret w) N' f' ⟨w, rfl, r'⟩ q') (fun _ _ h => anyE h) fun _ _ x => x)))
      fun z3 xs b e q => wpAny_execs_nil (kk z3 .next c2 .next (b.nx J.N fI) (J.f.but b eI) rfl (itm_none e (b.σ.symm ▸ q))))) n ⟨z1, 0, c, rfl, ⟨N1.wide, f0.nx N1, it0, b1.ρ.symm ▸ z₀.out fI⟩, q⟩) (folded_not hn)
end
section
variable {Γ : Fm} {n : Nat}
noncomputable def WhS (z₀ : Z) (Γ : Fm) (T : Lc → M Bool) (B : Lc → Wx) (Q : Fl → Lc → Store → Prop) (n : Nat) (s : Shared) : Prop := ∃ z c, z.s = s ∧ Nx (fs Γ.env) z₀ z ∧ Fr Γ z c ∧ wwhile T B n c Q z.σ
noncomputable abbrev WT (Γ : Fm) (t : Expr) : Lc → M Bool := fun c K σ => wtest d0.X Γ.call t c (wev d0.X Γ.call t c) K σ
noncomputable abbrev WB (Γ : Fm) (n : Nat) (body : List Stmt) : Lc → Wx := fun c K σ => wexs d0.X Γ.call n body c K σ
theorem while_ok {t : Expr} {body : List Stmt} {pos : Pos} (h1 : TeP Γ t) (hb : ExsP Γ n body) : ExP Γ n (.While t body [] pos) := fun {z₀ c Q P} f h k =>
  wpAny_While (codeAny_whileLoop (WhS z₀ Γ (WT Γ t) (WB Γ n body) Q) (fun m s h => h.elim fun z h => h.elim fun c h => by
    cases m with
    | zero => exact h.2.2.2.elim
    | succ m =>
      refine h.1 ▸ anyE (h1 h.2.2.1 h.2.2.2 fun z1 b v N1 e q => ?_)
      cases e
      have N := h.2.1.trans N1.wide
      cases b with
      | true => exact (if_pos rfl).mpr (anyE (hb (h.2.2.1.nx N1) q.yes fun z2 fl c2 f N2 f2 r q => by
          have go : wwhile (WT Γ t) (WB Γ n body) m (keepN c c2) Q z2.σ → ∃ k, k < m + 1 ∧ WhS z₀ Γ (WT Γ t) (WB Γ n body) Q k z2.s := fun q => ⟨m, Nat.lt_succ_self m, z2, _, rfl, N.trans N2, f2.keep c, q⟩
          induction fl using Fl.casesOn with
          | next => cases r; exact go q
          | cont => cases r; exact go q
          | ret d => exact r.elim fun v r => r.1 ▸ k z2 (.ret d) c2 (.ret v) (N.trans N2) f2 ⟨v, rfl, r.2⟩ q))
      | false => exact (if_neg Bool.false_ne_true).mpr (wpAny_execs_nil (k z1 .next c .next N (h.2.2.1.nx N1) rfl q.no))) n ⟨z₀, c, rfl, .refl, f, h⟩)
theorem inter_no (env : Env) (h : env.scope.kind = .function) : interactive env = false := by unfold interactive; rw [h]; rfl
theorem expr_ok {e : Expr} {pos : Pos} (hn : (tagE e != 3) = true) (h : EvP Γ e) : ExP Γ n (.Expr e pos) := fun {z c Q P} f q k => wpAny_Expr_any (h f q fun z1 y v N r q => k z1 .next c .next N.wide (f.nx N) rfl q) (inter_no Γ.env Γ.kind) (swaps_no hn)
theorem return_ok {e : Expr} {pos : Pos} (h : EvP Γ e) : ExP Γ n (.Return (some e) pos) := fun {z c Q P} f q k => wpAny_Return_some (h f q fun z1 y v N r q => k z1 (.ret y) c (.ret v) N.wide (f.nx N) ⟨v, rfl, r⟩ q)
theorem KS.keep {z : Z} {Q : Fl → Lc → Store → Prop} {P : Flow → Shared → Prop} (k : KS Γ z Q P) (c : Lc) : KS Γ z (keepK c Q) P := fun z2 fl d f N f2 r q => k z2 fl (keepN c d) f N (f2.keep c) r q
theorem if_ok {t : Expr} {x y : List Stmt} {pos : Pos} (h : TeP Γ t) (h1 : ExsP Γ n x) (h2 : ExsP Γ n y) : ExP Γ n (.If t x y pos) := fun {z c Q P} f q k =>
  wpAny_If (h f q fun z1 b v N e q => by
    cases e
    have kk := (KS.then k N.wide).keep c
    cases b with
    | true => exact (if_pos rfl).mpr (h1 (f.nx N) q.yes kk)
    | false => exact (if_neg Bool.false_ne_true).mpr (h2 (f.nx N) q.no kk))
theorem aug_ok {x : Str} {e : Expr} {p pos : Pos} (hx : okN x = true) (h : EvP Γ e) : ExP Γ n (.AugAssign (.Name x p) .BitOr e pos) := fun {z c Q P} f q k =>
  wpAny_AugAssign_Name (loadV_ok (Q := fun a σ => wev d0.X Γ.call e c (augK c x a Q) σ) hx f q fun z1 y u N1 r1 q => h (f.nx N1) q fun z2 y2 u2 N2 r2 q => intE (G := fun y => V z1 y u → _) q (fun i q r1 => intE (G := fun y => V z2 y u2 → _) q (fun j q r2 => SomeP.on q fun c' e q =>
    r1.intE fun t1 => r2.intE fun t2 => ior_int ((moreE (z := z2) (t := z2.s.toks + 1) (fun _ _ e => e)).elim fun z3 g => by
      have N := (N1.trans N2).trans g.1.n
      have m : W Γ.A (storeName Γ.env x (.int (Builtin.bitOr i j) z2.s.toks)) (fun _ s => P .next s) z3.s := store_ok (f.nx N) .int e fun z4 N4 e1 e2 f4 => k z4 .next c' .next (N.wide.trans N4) f4 rfl (by rw [e1, g.1.σ]; exact q)
      rw [g.2.2] at m
      exact m)) r2) r1)
theorem execs_cons {st : Stmt} {r : List Stmt} (h1 : ExP Γ n st) (h2 : ExsP Γ n r) : ExsP Γ n (st :: r) := fun {z c Q P} f q k =>
  wpAny_execs_cons (h1 f q fun z1 fl c1 fw N1 f1 e q => by
    induction fl using Fl.casesOn with
    | next => cases e; exact h2 f1 q (KS.then k N1)
    | cont => cases e; exact k z1 .cont c1 .cont N1 f1 rfl q
    | ret d => exact e.elim fun v e => e.1 ▸ k z1 (.ret d) c1 (.ret v) N1 f1 ⟨v, rfl, e.2⟩ q)
theorem as_comp {e : Expr} {x : Str} {q p : Pos} (h : okE 40 e = true) : ExP Γ n (.Assign [.Name x q] e p) := by
  by_cases hc : (tagE e != 3) = true
  · exact assign_plain rfl (all_ok 40 e h Γ).1 (swaps_no hc) swapped_name
  · induction e using Expr.casesOn with
    | ListComp elt gens sc pos =>
      refine (⟨_, rfl⟩ : ∃ bb, swapsWith (.ListComp elt gens sc pos) (some (.Name x q)) p.line Γ.env = pure bb).elim fun bb hsw => ?_
      cases bb with
      | false => exact assign_plain rfl (all_ok 40 _ h Γ).1 hsw swapped_name
      | true =>
        refine okG_sh (P := fun gens => swapsWith (.ListComp elt gens sc pos) (some (.Name x q)) p.line Γ.env = pure true → ExP Γ n (.Assign [.Name x q] (.ListComp elt gens sc pos) p)) h (fun t px it ifs h1 h2 h3 h4 h5 hsw => ?_) hsw
        intro z c Q P
        exact assign_comp h5 h4 (all_ok 39 it h2 Γ).1 (fun Γ => (all_ok 39 elt h1 Γ).1) (fun Γ e he => (all_ok 39 e (h3 e he) Γ).2) hsw
    | SetComp => exact ff h
    | DictComp => exact ff h
    | _ => exact absurd rfl hc
theorem seq_ok {m : Nat} (ih : ∀ st, okS m st = true → ExP Γ n st) {sts : List Stmt} : sts.all (okS m) = true → ExsP Γ n sts := by
  induction sts with
  | nil => exact fun _ {z c Q P} f q k => wpAny_execs_nil (k z .next c .next .refl f rfl q)
  | cons st r ihr => exact fun h => execs_cons (ih st (and2 h).1) (ihr (and2 h).2)
theorem aug_s {t e : Expr} {op : Operator} {p : Pos} (h : (okName t && okE 40 e && (match op with | .BitOr => true | _ => false)) = true) : ExP Γ n (.AugAssign t op e p) := by
  refine okName_eq (P := fun t => ExP Γ n (.AugAssign t op e p)) (and3 h).1.1 fun x q hx => ?_
  intro z c Q P
  have h := and3 h
  induction op using Operator.casesOn with
  | BitOr => exact aug_ok hx (all_ok 40 e h.1.2 Γ).1
  | _ => exact ff h.2
theorem assign_s {ts : List Expr} {e : Expr} {p : Pos} (h : (okAssign e ts && okE 40 e) = true) : ExP Γ n (.Assign ts e p) := by
  rcases ts with _ | ⟨t, _ | ⟨t2, ts⟩⟩
  · exact ff (and2 h).1
  · intro z c Q P
    have h := and2 h
    refine (Bool.or_eq_true _ _ ▸ h.1 : (nameOf t).isSome = true ∨ (okT t && tagE e != 3 && (tagE t != 4 || tagE e != 4)) = true).elim (fun g => ?_) fun g => ?_
    · exact (Option.isSome_iff_exists.mp g).elim fun x g => name_eq (P := fun t => ExP Γ n (.Assign [t] e p)) g fun q => as_comp h.2
    · have g := and3 g
      exact assign_plain g.1.1 (all_ok 40 e h.2 Γ).1 (swaps_no g.1.2) (swapped_no g.1.1 g.2)
  · exact ff (and2 h).1
theorem exec_ok (n m : Nat) : ∀ st : Stmt, okS m st = true → ExP Γ n st := by
  induction m with
  | zero => exact fun st h => ff h
  | succ m ih =>
    intro st h
    have ihs : ∀ {sts : List Stmt}, sts.all (okS m) = true → ExsP Γ n sts := seq_ok ih
    have ev := fun e h => all_ok 40 e h Γ
    intro z c Q P
    induction st using Stmt.casesOn with
    | Expr e p => exact expr_ok (and2 h).2 (ev e (and2 h).1).1
    | Pass p => exact fun f q k => wpAny_Pass (k z .next c .next .refl f rfl q)
    | Continue p => exact fun f q k => wpAny_Continue (k z .cont c .cont .refl f rfl q)
    | Return e p =>
      cases e with
      | none => exact fun f q k => wpAny_Return_none (k z (.ret .none) c (.ret .none) .refl f ⟨.none, rfl, .none⟩ q)
      | some e => exact return_ok (ev e h).1
    | If t a b p => exact if_ok (ev t (and3 h).1.1).2 (ihs (and3 h).1.2) (ihs (and3 h).2)
    | While t body orelse p =>
      cases List.isEmpty_iff.mp (and3 h).1.2
      exact while_ok (ev t (and3 h).1.1).2 (ihs (and3 h).2)
    | For t it body orelse p =>
      have h1 := and3 h
      have h2 := and3 h1.1.1
      cases List.isEmpty_iff.mp h1.1.2
      exact for_ok h2.2 (ev it h2.1.2).1 (ihs h1.2)
    | AugAssign t op e p => exact aug_s h
    | Assign ts e p => exact assign_s h
    | Raise _ _ _ => exact fun f q k => q.elim
    | _ => exact ff h
end
theorem lookup_nd {α : Type} {l : List (Str × α)} (h : (l.map (·.1)).Nodup) : ∀ p ∈ l, l.lookup p.1 = some p.2 := by
  induction l with
  | nil => exact fun p h => nomatch h
  | cons a r ih =>
    have h := List.nodup_cons.mp h
    intro p hp
    rw [List.lookup_cons]
    refine (List.mem_cons.mp hp).elim (fun e => ?_) fun m => ?_
    · rw [e, beq_self_eq_true]
    · rw [beq_eq_false_iff_ne.mpr fun q => h.1 (List.mem_map.mpr ⟨p, m, q⟩)]
      exact ih h.2 p m
theorem lookup_no {α : Type} {l : List (Str × α)} {x : Str} (h : x ∉ l.map (·.1)) : l.lookup x = none := by
  induction l with
  | nil => rfl
  | cons a r ih =>
    rw [List.lookup_cons, beq_eq_false_iff_ne.mpr fun q => h (List.mem_cons.mpr (.inl q))]
    exact ih fun m => h (.tail _ m)
theorem lookup_yes {α : Type} {l : List (Str × α)} {x : Str} (h : x ∈ l.map (·.1)) : ∃ v, l.lookup x = some v := by
  cases e : l.lookup x with
  | some v => exact ⟨v, rfl⟩
  | none =>
    induction l with
    | nil => exact nomatch h
    | cons a r ih =>
      rw [List.lookup_cons] at e
      by_cases q : x = a.1
      · rw [q, beq_self_eq_true] at e; exact nomatch e
      · rw [beq_eq_false_iff_ne.mpr q] at e
        exact ih ((List.mem_cons.mp h).elim (fun r => absurd r q) id) e
theorem filterMap_lookup {α : Type} {f : Str → Option α} {l : List (Str × α)} (h : ∀ p ∈ l, f p.1 = some p.2) : (l.map (·.1)).filterMap (fun m => (f m).map (m, ·)) = l := by
  induction l with
  | nil => rfl
  | cons p r ih =>
    rw [List.map_cons, List.filterMap_cons_some (b := p) (congrArg (Option.map _) (h p (.head _))), ih fun q hq => h q (.tail _ hq)]
theorem zip_take {α β : Type} : ∀ (a : List α) (b : List β), (a.zip b).map (·.1) = a.take b.length
  | [], b => by rw [List.take_nil]; rfl
  | x :: a, [] => rfl
  | x :: a, y :: b => congrArg (x :: ·) (zip_take a b)
noncomputable abbrev slotStep (slots : List (Str × Value)) (x : Str × Value) : List (Str × Value) := if (slots.lookup x.1).isNone = true then slots ++ [(x.1, x.2)] else slots
theorem fold_lookup {m : Str} : ∀ {l s : List (Str × Value)}, (l.foldl slotStep s).lookup m = (s.lookup m).or (l.lookup m)
  | [], s => (Option.or_none ..).symm
  | x :: l, s => by
    rw [List.foldl_cons, fold_lookup (l := l) (s := slotStep s x), List.lookup_cons]
    unfold slotStep
    by_cases q : m = x.1
    · rw [q, beq_self_eq_true]
      cases e : s.lookup x.1 with
      | none => rw [if_pos (show (none : Option Value).isNone = true from rfl), List.lookup_append, e, List.lookup_cons, beq_self_eq_true]; rfl
      | some v => rw [if_neg (show ¬ (some v).isNone = true from Bool.false_ne_true), e]; rfl
    · rw [beq_eq_false_iff_ne.mpr q]
      by_cases e : (s.lookup x.1).isNone = true
      · rw [if_pos e, List.lookup_append, List.lookup_cons, beq_eq_false_iff_ne.mpr q, List.lookup_nil, Option.or_none]
      · rw [if_neg e]
theorem forIn_fold {α β : Type} {f : α → β → Sem (ForInStep β)} {g : β → α → β} (h : ∀ x r, f x r = pure (.yield (g r x))) : ∀ {l : List α} {init : β}, (forIn l init f : Sem β) = pure (l.foldl g init)
  | [], _ => rfl
  | x :: r, init => by
    rw [List.forIn_cons, h]
    exact forIn_fold h (l := r) (init := g init x)
/-- what the names are bound to -/
theorem slots_ok {names : List Str} {vs D : List Value} (hn : names.Nodup) (h1 : vs.length ≤ names.length) (h2 : names.length ≤ vs.length + D.length) (h3 : D.length ≤ names.length) :
    (names ++ []).filterMap (fun m => ((((names.drop (names.length - D.length)).zip D).foldl slotStep (names.zip vs)).lookup m).map (m, ·)) = names.zip (vs ++ D.drop (vs.length + D.length - names.length)) := by
  have hk : names.length - D.length ≤ vs.length := Nat.sub_le_iff_le_add.mpr h2
  have ek : vs.length + D.length - names.length = vs.length - (names.length - D.length) := (Nat.sub_sub_right _ h3).symm
  have sp := List.take_append_drop vs.length names
  have nd := List.nodup_append.mp (sp.symm ▸ hn : (names.take vs.length ++ names.drop vs.length).Nodup)
  have l1 : (names.take vs.length).length = vs.length := List.length_take_of_le h1
  have e1 : ∀ E : List Value, names.zip (vs ++ E) = (names.take vs.length).zip vs ++ (names.drop vs.length).zip E := fun E => (congrArg (·.zip (vs ++ E)) sp.symm).trans (List.zip_append l1)
  have e2 : names.zip vs = (names.take vs.length).zip vs := by
    have := e1 []
    rw [List.append_nil, List.zip_nil_right, List.append_nil] at this; exact this
  have k1 : ((names.take vs.length).zip vs).map (·.1) = names.take vs.length := List.map_fst_zip (Nat.le_of_eq l1)
  have e3 : (names.drop vs.length).zip (D.drop (vs.length - (names.length - D.length))) = ((names.drop (names.length - D.length)).zip D).drop (vs.length - (names.length - D.length)) := by
    rw [List.zip_eq_zipWith, List.zip_eq_zipWith, List.drop_zipWith, List.drop_drop, Nat.add_sub_of_le hk]
  rw [List.append_nil, ek, e1]
  have ks : ((names.take vs.length).zip vs ++ (names.drop vs.length).zip (D.drop (vs.length - (names.length - D.length)))).map (·.1) = names := by
    rw [List.map_append, k1, List.map_fst_zip (by
      rw [List.length_drop, List.length_drop, ← ek]
      have g : names.length - vs.length ≤ D.length := Nat.sub_le_iff_le_add'.mpr h2
      exact Nat.le_sub_of_add_le (Nat.le_of_eq ((congrArg _ ((congrArg (· - names.length) (Nat.add_comm _ _)).trans (Nat.sub_sub_right _ h1).symm)).trans (Nat.add_sub_of_le g)))), sp]
  refine (congrArg (List.filterMap _) ks.symm).trans (filterMap_lookup fun p hp => ?_)
  rw [fold_lookup, e2]
  refine (List.mem_append.mp hp).elim (fun m => ?_) fun m => ?_
  · rw [lookup_nd (k1.symm ▸ nd.1) p m]; rfl
  · have mk : p.1 ∈ names.drop vs.length := (List.of_mem_zip m).1
    rw [lookup_no (fun q => nd.2.2 _ (k1 ▸ q) _ mk rfl)]
    rw [e3] at m
    refine lookup_nd ?_ p (List.mem_of_mem_drop m)
    rw [List.map_fst_zip (by rw [List.length_drop, Nat.sub_sub_self h3]; exact Nat.le_refl _)]
    exact hn.sublist (List.drop_sublist ..)
theorem wp_else {M : PySem.Model} {A : Around} {α : Type} {E : Value → Shared → Prop} {Q : α → Shared → Prop} {s : Shared} {c : Prop} [Decidable c] {t e : Sem α} (h : ¬c) (k : wpAny M A e Q E s) : wpAny M A (if c then t else e) Q E s := by rw [if_neg h]; exact k
noncomputable abbrev pnames (ps : List Arg) : List Str := ps.map fun x => x.arg
theorem miss_ok {names : List Str} {vs : List Value} {k : Nat} (hk : k ≤ vs.length) : (!((names.take k).filter fun n => ((names.zip vs).lookup n).isNone).isEmpty) = false := by
  rw [List.filter_eq_nil_iff.mpr fun m hm => ?_]; rfl
  have : m ∈ names.take vs.length := by
    rw [show names.take k = (names.take vs.length).take k by rw [List.take_take, Nat.min_eq_left hk]] at hm
    exact List.mem_of_mem_take hm
  exact (lookup_yes (l := names.zip vs) ((zip_take names vs).symm ▸ this)).elim fun v e => by rw [e]; exact Bool.false_ne_true
theorem bind_ok {s : Shared} {fd : FuncData} {ps : List Arg} {df : List Expr} {vs : List Value} {arr : Option (Array Value)} (hp : fd.params = ⟨[], ps, none, [], [], none, df⟩) (hn : (pnames ps).Nodup)
    (hD : ∀ (M : PySem.Model) (A : Around) (E : Value → Shared → Prop) (Q : Option (Array Value) → Shared → Prop), Q arr s → wpAny M A (seqItems? fd.defaults) Q E s)
    (h1 : vs.length ≤ (pnames ps).length) (h2 : (pnames ps).length ≤ vs.length + (arr.getD #[]).toList.length) (h3 : (arr.getD #[]).toList.length ≤ (pnames ps).length) :
    BindsTo s fd ⟨vs, []⟩ ((pnames ps).zip (vs ++ (arr.getD #[]).toList.drop (vs.length + (arr.getD #[]).toList.length - (pnames ps).length))) := by
  intro M A E Q hq
  unfold bindArgs
  rw [hp]
  have z0 : (arr.getD #[]).toList.length - (pnames ps).length = 0 := Nat.sub_eq_zero_of_le h3
  have hk : (pnames ps).length - (arr.getD #[]).toList.length ≤ vs.length := Nat.sub_le_iff_le_add.mpr h2
  refine wpAny_bind (wpAny_pure (wpAny_bind (hD _ _ _ _ ?_)))
  refine wp_else (fun q => absurd (of_decide_eq_true (and2 q).1) (Nat.not_lt.mpr h1)) ?_
  have hd : (arr.getD #[]).toList.drop ((arr.getD #[]).toList.length - (pnames ps).length) = (arr.getD #[]).toList := by rw [z0]; rfl
  refine wp_else (fun q => Bool.false_ne_true ((miss_ok (names := pnames ps) (vs := vs) ?_).symm.trans q)) ?_
  · exact (congrArg (fun D : List Value => (pnames ps).length - D.length ≤ vs.length) hd).mpr hk
  refine wpAny_bind (wpAny_of_eq (forIn_fold (g := slotStep) fun x r => (apply_ite (fun r => (pure (ForInStep.yield r) : Sem (ForInStep (List (Str × Value))))) _ _ _).symm) ?_)
  exact wpAny_pure ((congrArg (fun b => Q b s) ((congrArg (fun D : List Value => (pnames ps ++ []).filterMap fun m => (((((pnames ps).drop ((pnames ps).length - D.length)).zip D).foldl slotStep ((pnames ps).zip vs)).lookup m).map (m, ·)) hd).trans (slots_ok hn h1 h2 h3))).mpr hq)
theorem zip_rel {p : Pt} {x : Str} {d : FV} : ∀ {names : List Str} {ds : List FV} {vs : List Value}, F2 (VRel p) ds vs → (names.zip ds).lookup x = some d → ∃ v, (names.zip vs).lookup x = some v ∧ VRel p d v
  | [], _, _, _, e => noS e
  | n :: names, [], _, q, e => noS e
  | n :: names, d' :: ds, vs, q, e => q.consE fun v vs r q => by
    rw [List.zip_cons_cons, List.lookup_cons] at e ⊢
    by_cases h : x = n
    · rw [h, beq_self_eq_true] at e ⊢
      exact ⟨v, rfl, Option.some.inj e ▸ r⟩
    · rw [beq_eq_false_iff_ne.mpr h] at e ⊢
      exact zip_rel q e
section
variable {k : Str → Option NameKind} {x : Str} {v : Value}
theorem bindL_no : ∀ {l : List (Str × Value)} {m : Str → Option Value}, x ∉ l.map (·.1) → bindL k l m x = m x
  | [], _, _ => rfl
  | (n, u) :: r, m, h => by
    rw [bindL, bindL_no fun q => h (.tail _ q)]
    by_cases c : k n = some .local
    · rw [if_pos c]; exact if_neg fun q => h (List.mem_cons.mpr (.inl q))
    · rw [if_neg c]
theorem bindL_at (hx : k x = some .local) : ∀ {l : List (Str × Value)} {m : Str → Option Value}, (l.map (·.1)).Nodup → l.lookup x = some v → bindL k l m x = some v
  | [], _, _, e => noS e
  | (n, u) :: r, m, h, e => by
    have h := List.nodup_cons.mp h
    rw [List.lookup_cons] at e
    rw [bindL]
    by_cases c : x = n
    · rw [c, beq_self_eq_true] at e
      rw [bindL_no (c ▸ h.1), if_pos (c ▸ hx)]
      exact (if_pos c).trans e
    · rw [beq_eq_false_iff_ne.mpr c] at e
      exact bindL_at hx h.2 e
theorem bindC_no : ∀ {l : List (Str × Value)} {m : Str → Option Value}, x ∉ l.map (·.1) → bindC k l m x = m x
  | [], _, _ => rfl
  | (n, u) :: r, m, h => by
    rw [bindC, bindC_no fun q => h (.tail _ q)]
    by_cases c : k n = some .local
    · rw [if_pos c]
    · rw [if_neg c]; exact if_neg fun q => h (List.mem_cons.mpr (.inl q))
theorem bindC_at (hx : k x ≠ some .local) : ∀ {l : List (Str × Value)} {m : Str → Option Value}, (l.map (·.1)).Nodup → l.lookup x = some v → bindC k l m x = some v
  | [], _, _, e => noS e
  | (n, u) :: r, m, h, e => by
    have h := List.nodup_cons.mp h
    rw [List.lookup_cons] at e
    rw [bindC]
    by_cases c : x = n
    · rw [c, beq_self_eq_true] at e
      rw [bindC_no (c ▸ h.1), if_neg (c ▸ hx)]
      exact (if_pos c).trans e
    · rw [beq_eq_false_iff_ne.mpr c] at e
      exact bindC_at hx h.2 e
end
theorem cells_has {x : Str} : ∀ {names : List (Str × NameKind)} {n : Nat} {acc : List (Str × Addr)}, (x, NameKind.cell) ∈ names ∨ x ∈ acc.map (·.1) → x ∈ (cellsFrom n names acc).map (·.1)
  | [], n, acc, h => h.elim (fun h => nomatch h) id
  | (m, k) :: r, n, acc, h => by
    rw [cellsFrom]
    by_cases c : (k == .cell) = true
    · rw [if_pos c]
      exact cells_has (h.elim (fun h => (List.mem_cons.mp h).elim (fun e => .inr ((Prod.mk.inj e).1 ▸ .head _)) .inl) fun h => .inr (.tail _ h))
    · rw [if_neg c]
      exact cells_has (h.imp (fun h => (List.mem_cons.mp h).elim (fun e => absurd ((Prod.mk.inj e).2 ▸ rfl) c) id) id)
theorem free_ge {h : Heap} {a : Addr} (q : h.objs.size ≤ a) : Free h a := by
  cases e : h.get? a with
  | none => exact e
  | some o => exact absurd (Heap.lt_size e) (Nat.not_lt.mpr q)
section
variable {z : Z} {a : Addr} {st : Stmt} {ds : List FV} {o : Obj} {fd : FuncData} {ps : List Arg} {df : List Expr} {body : List Stmt}
/-- what the text of a function is like -/
structure FnOk (ps : List Arg) (sc : Scope) (body : List Stmt) : Prop where
  kind : sc.kind = .function
  co : sc.isCoroutine = false
  ge : sc.isGenerator = false
  free : ∀ p ∈ sc.names, p.2 ≠ .free
  nd : (pnames ps).Nodup
  cnd : ((cellsFrom 0 sc.names []).map (·.1)).Nodup
  par : ∀ x ∈ pnames ps, sc.names.lookup x = some .local ∨ sc.names.lookup x = some .cell
  body : body.all (okS 40) = true
theorem fnOk_of {sc : Scope} (h : okFn ps sc body = true) : FnOk ps sc body :=
  have h1 := and3 h
  have h2 := and3 h1.1.1
  have h3 := and3 h2.1.1
  have h4 := and2 h3.1.1
  ⟨eq_of_beq h4.1, (Bool.not_eq_true' _).mp h4.2, (Bool.not_eq_true' _).mp h3.1.2, fun p m q => absurd (List.all_eq_true.mp h3.2 p m) (by rw [q]; exact Bool.false_ne_true), of_decide_eq_true h2.1.2, of_decide_eq_true h2.2,
    fun x m => (List.mem_map.mp m).elim fun p m => m.2 ▸ ((Bool.or_eq_true _ _).mp (List.all_eq_true.mp h1.1.2 p m.1)).imp eq_of_beq eq_of_beq, h1.2⟩
theorem dfs_ok (f : FnAt d0 a st ds o fd ps df body) : ∃ arr : Option (Array Value), (∀ (M : PySem.Model) (A : Around) (E : Value → Shared → Prop) (Q : Option (Array Value) → Shared → Prop), Q arr z.s → wpAny M A (seqItems? fd.defaults) Q E z.s) ∧ Vs z ds (arr.getD #[]).toList :=
  f.dfs.elim (fun h => ⟨none, fun M A E Q q => by rw [h.1]; exact wpAny_pure q, h.2 ▸ .nil⟩) fun h => h.elim fun T h => h.elim fun ws h => h.elim fun n h => ⟨some ws.toArray, fun M A E Q q => by rw [h.1]; exact wpAny_seqItems (z.st.keep _ _ h.2.1) rfl q, (show Up ⟨d0.s.heap, z.ρ⟩ z.p from z.up0).vs (h.2.2 z.ρ)⟩
/-- a function's frame, as it is entered -/
structure In0 (z z1 : Z) (fd : FuncData) (env : Env) (mv : Str → Option Value) (cm : Str → Option Value) : Prop where
  m : More z z1
  sc : env.scope = fd.scope
  loc : env.locals = z.sz
  cells : env.cells = cellsFrom (z.sz + 1) fd.scope.names []
  x : InCallC z.s env.locals mv env.cells cm z1.s
section
variable {z1 : Z} {env : Env} {m cm : Str → Option Value}
theorem In0.free (i : In0 z z1 fd env m cm) {a : Addr} (h : a ∈ fs env) : Free z.s.heap a :=
  (List.mem_cons.mp h).elim (fun e => e ▸ i.loc ▸ free_size _) fun h => (List.mem_map.mp h).elim fun p h => h.2 ▸ free_ge (Nat.le_of_lt (Nat.lt_of_le_of_lt (Nat.le_of_eq i.loc.symm) (i.x.above p.1 p.2 h.1)))
noncomputable def In0.fm (i : In0 z z1 fd env m cm) (A : Around) (n : Nat) (rm : Room n A) (ih : CallOk n) (k : fd.scope.kind = .function) (hg : env.globals = mainGlobals) (hb : env.builtins = builtinsNs) : Fm :=
  ⟨A, n, env, rm, i.sc ▸ k, hg, hb, fun a h => z.base (i.free h), fun x y a h1 h2 => name_of_addr i.x.apart (PySem.mem_of_lookup h1) (PySem.mem_of_lookup h2), fun x a h => (Nat.ne_of_lt (i.x.above x a (PySem.mem_of_lookup h))).symm, ih⟩
theorem In0.fr {c : Lc} {A n rm ih k hg hb} (i : In0 z z1 fd env m cm) (ok : FnOk ps fd.scope body) (hc : c.names = fd.scope.names) (hm : ∀ x d, fd.scope.names.lookup x = some .local → c.m.lookup x = some d → ∃ v, m x = some v ∧ V z d v)
    (hcm : ∀ x d, fd.scope.names.lookup x = some .cell → c.m.lookup x = some d → ∃ v, cm x = some v ∧ V z d v) : Fr (i.fm A n rm ih k hg hb) z1 c := by
  have kd : ∀ x, env.kindOf x = fd.scope.names.lookup x := fun x => by unfold Env.kindOf; rw [i.sc]
  have cnd : (env.cells.map (·.1)).Nodup := by rw [i.cells, cellsFrom_names fd.scope.names _ 0 [] [] rfl]; exact ok.cnd
  refine ⟨fun x => .inl (by rw [hc]; exact (kd x).symm), ⟨_, i.x.toInCall.ns, fun x d e1 e2 => (hm x d ((kd x).symm.trans e1) e2).imp fun v => And.imp id i.m.n.v⟩, fun x hx => ?_, fun a ha => ⟨fun q => z.out (i.free ha) (i.m.ρ ▸ List.mem_of_mem_drop q), ?_⟩⟩
  · refine hx.elim (fun e => ?_) fun e => absurd rfl (ok.free _ (PySem.mem_of_lookup ((kd x).symm.trans e)))
    have e := (kd x).symm.trans e
    exact (lookup_yes (l := env.cells) (i.cells ▸ cells_has (.inl (PySem.mem_of_lookup e)))).imp fun a h => ⟨cm x, h, i.x.cell x a h, fun d e2 => (hcm x d e e2).imp fun v => And.imp id i.m.n.v⟩
  · exact (List.mem_cons.mp ha).elim (fun e => e ▸ i.x.toInCall.ns.imp fun _ h => h.elim fun _ h => h.elim fun _ h => h.1) fun h => (List.mem_map.mp h).elim fun p h => h.2 ▸ (i.x.cell p.1 p.2 (lookup_of_mem_nodup cnd h.1)).imp fun _ => And.left
end
theorem fn_ok' {n : Nat} {A : Around} {args : List FV} {vs : List Value} {Q : FV → Store → Prop} {R : Result → Shared → Prop} (rm : Room (n + 1) A) (ih : CallOk n) (f : FnAt d0 a st ds o fd ps df body) (r : Vs z args vs) (h : wfn d0.X (run d0.X n) (n + 1) st ds args Q z.σ) (k : KP V z Q fun v => R (.ok (.ret v))) :
    codeAny (model d0.prog d0.w) A (.call (.ref a) ⟨vs, []⟩) R z.s :=
  SomeP.on h fun p e h => by
    cases e.symm.trans f.txt
    have h := SomeP.ite h
    have ok := fnOk_of f.ok
    refine (dfs_ok (z := z) f).elim fun arr D => ?_
    have ln : (pnames ps).length = ps.length := List.length_map ..
    have rf := r.append (D.2.drop (args.length + ds.length - ps.length))
    have hb := bind_ok (vs := vs) f.par ok.nd D.1 (by rw [ln, ← r.len]; exact h.1.1) (by rw [ln, ← r.len, ← D.2.len]; exact h.1.2) (by rw [ln, ← D.2.len]; exact f.le)
    rw [ln, ← r.len, ← D.2.len] at hb
    have nd : (((pnames ps).zip (vs ++ (arr.getD #[]).toList.drop (args.length + ds.length - ps.length))).map (·.1)).Nodup := by rw [zip_take]; exact ok.nd.sublist (List.take_sublist ..)
    refine codeAny_call_function (Nat.lt_of_le_of_lt (Nat.le_trans (Nat.le_add_right _ _) (Nat.le_add_right _ _)) rm.d) (z.st.keep _ _ f.ho) f.hd ok.co ok.ge f.bdy (f.cod.keeps z.st.keep) (hb _ _ _ _ ?_)
    rw [f.clo]
    refine wpAny_newFunctionEnv_cells ok.kind (fun x hx => ?_) fun env he s1 x => ?_
    · have m : x.1 ∈ pnames ps := List.mem_of_mem_take (zip_take (pnames ps) _ ▸ List.mem_map_of_mem (f := fun x : Str × Value => x.1) hx)
      exact (ok.par _ m).imp id fun q => ⟨q, Option.isSome_iff_exists.mpr (lookup_yes (cells_has (.inl (PySem.mem_of_lookup q))))⟩
    · refine x.toInCall.same.elim fun h' e => e.elim fun t e => ?_
      cases e
      refine (moreE (t := t) x.toInCall.keep).elim fun z1 g => ?_
      have i : In0 z z1 fd env _ _ := ⟨g.1, he ▸ rfl, he ▸ rfl, he ▸ rfl, g.2.2.symm ▸ x⟩
      refine ⟨(z.st.good.lim.keeps z.st.keep).keeps x.toInCall.keep, codeAny_func ?_⟩
      have rm' : Room n (A.deeper env) := ⟨rm.h, Nat.lt_of_le_of_lt (show A.units + 3 + 10 * n + 20 ≤ A.units + 10 * (n + 1) + 20 by omega) rm.u, Nat.lt_of_le_of_lt (show A.depth + 1 + 3 * n + 3 ≤ A.depth + 3 * (n + 1) + 3 by omega) rm.d⟩
      have fr : Fr (i.fm (A.deeper env) n rm' ih ok.kind ((show env.globals = fd.globals from he ▸ rfl).trans f.glo) ((show env.builtins = fd.builtins from he ▸ rfl).trans f.blt)) z1 ⟨fd.scope.names, _⟩ :=
        i.fr ok rfl (fun x d e1 e2 => (zip_rel rf e2).imp fun v q => ⟨bindL_at (by unfold Env.kindOf; rw [i.sc]; exact e1) nd q.1, q.2⟩) fun x d e1 e2 => (zip_rel rf e2).imp fun v q => ⟨bindC_at (by unfold Env.kindOf; rw [i.sc, e1]; exact fun e => nomatch e) nd q.1, q.2⟩
      rw [← g.2.2]
      refine anyE (seq_ok (exec_ok (n + 1) 40) ok.body fr (g.1.σ.symm ▸ h.2) fun z2 fl c2 w N2 f2 q h => ?_)
      have T : Nx [] z z2 := (g.1.n.wide.trans N2).sub fun a o m e => (Live.no ⟨o, e⟩ (i.free m))
      induction fl using Fl.casesOn with
      | next => cases q; exact k z2 .none .none T .none h
      | cont => exact h.elim
      | ret d => exact q.elim fun v q => q.1 ▸ k z2 d v T q.2 h
end
end
section
open PySem PySem.W PyProof.Rows PySem.SeqAt
open scoped Classical
open PySem.MeetsSeq PySem.MeetsSeq2 PySem.MeetsSeq3
/-! the order of data -/
theorem strLtL_eq : ∀ (a b : List Nat), strLtL a b = decide (a < b)
  | [], [] => rfl
  | [], _ :: _ => rfl
  | _ :: _, [] => rfl
  | a :: x, b :: y => by
    rw [strLtL, strLtL_eq x y]
    by_cases h : a = b
    · rw [if_pos h]; exact decide_eq_decide.mpr ⟨fun q => List.cons_lt_cons_iff.mpr (.inr ⟨h, q⟩), fun q => (List.cons_lt_cons_iff.mp q).elim (fun q => absurd h (Nat.ne_of_lt q)) And.right⟩
    · rw [if_neg h]; exact decide_eq_decide.mpr ⟨fun q => List.cons_lt_cons_iff.mpr (.inl q), fun q => (List.cons_lt_cons_iff.mp q).elim id fun q => absurd q.1 h⟩
theorem strLt_at (a b : Str) : strLt a b = decide (a.cps.toList < b.cps.toList) := strLtL_eq _ _
theorem ltFs_yes {x y : FV} {xs ys : List FV} (h : eqF x y = true) : ltFs (x :: xs) (y :: ys) = ltFs xs ys := if_pos h
theorem ltFs_no {x y : FV} {xs ys : List FV} (h : ¬ eqF x y = true) : ltFs (x :: xs) (y :: ys) = ltF x y := if_neg h
theorem ltFs_irr {n : Nat} (ih : ∀ {a}, hkT n a = true → ltF a a = false) : ∀ {xs : List FV}, hkL n xs = true → ltFs xs xs = false
  | [], _ => rfl
  | x :: xs, h => (ltFs_yes (eqF_refl n x (and2 h).1)).trans (ltFs_irr ih (and2 h).2)
theorem ltF_irrefl : ∀ {n : Nat} {a : FV}, hkT n a = true → ltF a a = false := by
  intro n
  induction n with
  | zero => exact fun h => hkE h (fun i => decide_eq_false (Int.lt_irrefl i)) (fun s => (strLt_at s s).trans (decide_eq_false (List.lt_irrefl _))) fun _ _ e => nomatch e
  | succ n ih => exact fun h => hkE h (fun i => decide_eq_false (Int.lt_irrefl i)) (fun s => (strLt_at s s).trans (decide_eq_false (List.lt_irrefl _))) fun m xs e hx => by cases e; exact ltFs_irr ih hx
theorem str_trans {a b c : Str} (h1 : strLt a b = true) (h2 : strLt b c = true) : strLt a c = true := by
  rw [strLt_at] at *
  exact decide_eq_true (List.lt_trans (of_decide_eq_true h1) (of_decide_eq_true h2))
theorem int_trans {a b c : Int} (h1 : decide (a < b) = true) (h2 : decide (b < c) = true) : decide (a < c) = true := decide_eq_true (Int.lt_trans (of_decide_eq_true h1) (of_decide_eq_true h2))
theorem ltFs_tr {n : Nat} (ih : ∀ {a b c}, hkT n a = true → hkT n b = true → hkT n c = true → ltF a b = true → ltF b c = true → ltF a c = true) :
    ∀ {xs ys zs : List FV}, hkL n xs = true → hkL n ys = true → hkL n zs = true → ltFs xs ys = true → ltFs ys zs = true → ltFs xs zs = true
  | [], [], _, _, _, _, h, _ => ff h
  | _ :: _, [], _, _, _, _, h, _ => ff h
  | _, _ :: _, [], _, _, _, _, h => ff h
  | [], _ :: _, _ :: _, _, _, _, _, _ => rfl
  | x :: xs, y :: ys, z :: zs, hx, hy, hz, h1, h2 => by
    by_cases e1 : eqF x y = true
    · have e := eqF_eq _ _ e1
      rw [ltFs_yes e1] at h1
      by_cases e2 : eqF y z = true
      · rw [ltFs_yes e2] at h2; rw [ltFs_yes (e ▸ e2)]; exact ltFs_tr ih (and2 hx).2 (and2 hy).2 (and2 hz).2 h1 h2
      · rw [ltFs_no e2] at h2; rw [ltFs_no (e ▸ e2), e]; exact h2
    · rw [ltFs_no e1] at h1
      by_cases e2 : eqF y z = true
      · have e := eqF_eq _ _ e2
        rw [ltFs_no (e ▸ e1), ← e]; exact h1
      · rw [ltFs_no e2] at h2
        have t := ih (and2 hx).1 (and2 hy).1 (and2 hz).1 h1 h2
        by_cases e3 : eqF x z = true
        · rw [eqF_eq _ _ e3, ltF_irrefl (and2 hz).1] at t; exact ff t
        · rw [ltFs_no e3]; exact t
theorem ltF_trans : ∀ {n : Nat} {a b c : FV}, hkT n a = true → hkT n b = true → hkT n c = true → ltF a b = true → ltF b c = true → ltF a c = true := by
  intro n
  induction n with
  | zero =>
    exact fun {a b c} ha hb hc => hkE ha (fun i => hkE hb (fun j => hkE hc (fun k => int_trans) (fun k _ h => ff h) fun _ _ e => nomatch e) (fun j h => ff h) fun _ _ e => nomatch e)
      (fun i => hkE hb (fun j h => ff h) (fun j => hkE hc (fun k _ h => ff h) (fun k => str_trans) fun _ _ e => nomatch e) fun _ _ e => nomatch e) fun _ _ e => nomatch e
  | succ n ih =>
    exact fun {a b c} ha hb hc => hkE ha (fun i => hkE hb (fun j => hkE hc (fun k => int_trans) (fun k _ h => ff h) fun _ _ _ _ _ h => ff h) (fun j h => ff h) fun _ _ _ _ h => ff h)
      (fun i => hkE hb (fun j h => ff h) (fun j => hkE hc (fun k _ h => ff h) (fun k => str_trans) fun _ _ _ _ _ h => ff h) fun _ _ _ _ h => ff h)
      fun m xs e hx => hkE hb (fun j h => ff h) (fun j h => ff h) fun m' ys e' hy => hkE hc (fun k _ h => ff h) (fun k _ h => ff h) fun m2 zs e2 hz => by cases e; cases e'; cases e2; exact ltFs_tr ih hx hy hz
theorem ltF_asymm {n : Nat} {a b : FV} (ha : hkT n a = true) (hb : hkT n b = true) (h : ltF a b = true) : ltF b a = false := by
  cases q : ltF b a with
  | false => rfl
  | true => exact ff ((ltF_irrefl ha).symm.trans (ltF_trans ha hb ha h q))
theorem ltFs_tr3 {n : Nat} (ih : ∀ {a b}, hkT n a = true → hkT n b = true → likeT a b = true → ltF a b = false → ltF b a = false → eqF a b = true) :
    ∀ {xs ys : List FV}, hkL n xs = true → hkL n ys = true → likeL xs ys = true → ltFs xs ys = false → ltFs ys xs = false → eqFs xs ys = true
  | [], [], _, _, _, _, _ => rfl
  | [], _ :: _, _, _, _, h, _ => ff h.symm
  | _ :: _, [], _, _, _, _, h => ff h.symm
  | x :: xs, y :: ys, hx, hy, hl, h1, h2 => by
    by_cases e : eqF x y = true
    · have q := eqF_eq _ _ e
      rw [ltFs_yes e] at h1
      rw [ltFs_yes (q ▸ q ▸ e)] at h2
      rw [show likeL (x :: xs) (y :: ys) = likeL xs ys from if_pos e] at hl
      exact Bool.and_eq_true_iff.mpr ⟨e, ltFs_tr3 ih (and2 hx).2 (and2 hy).2 hl h1 h2⟩
    · rw [ltFs_no e] at h1
      rw [ltFs_no fun e' => e (by have q := eqF_eq _ _ e'; rw [q] at e' ⊢; exact e')] at h2
      rw [show likeL (x :: xs) (y :: ys) = likeT x y from if_neg e] at hl
      exact absurd (ih (and2 hx).1 (and2 hy).1 hl h1 h2) e
theorem int_tri {a b : Int} (h1 : decide (a < b) = false) (h2 : decide (b < a) = false) : (a == b) = true := beq_iff_eq.mpr (Int.le_antisymm (Int.not_lt.mp (of_decide_eq_false h2)) (Int.not_lt.mp (of_decide_eq_false h1)))
theorem str_tri {a b : Str} (h1 : strLt a b = false) (h2 : strLt b a = false) : (a == b) = true := by
  rw [strLt_at] at *
  have := List.le_antisymm (List.not_lt.mp (of_decide_eq_false h2)) (List.not_lt.mp (of_decide_eq_false h1))
  cases a; cases b
  exact beq_iff_eq.mpr (congrArg Str.mk (Array.toList_inj.mp this))
theorem ltF_tri : ∀ {n : Nat} {a b : FV}, hkT n a = true → hkT n b = true → likeT a b = true → ltF a b = false → ltF b a = false → eqF a b = true := by
  intro n
  induction n with
  | zero => exact fun {a b} ha hb => hkE ha (fun i => hkE hb (fun j _ => int_tri) (fun j h => ff h) fun _ _ e => nomatch e) (fun i => hkE hb (fun j h => ff h) (fun j _ => str_tri) fun _ _ e => nomatch e) fun _ _ e => nomatch e
  | succ n ih =>
    exact fun {a b} ha hb => hkE ha (fun i => hkE hb (fun j _ => int_tri) (fun j h => ff h) fun _ _ _ _ h => ff h) (fun i => hkE hb (fun j h => ff h) (fun j _ => str_tri) fun _ _ _ _ h => ff h)
      fun m xs e hx => hkE hb (fun j h => ff h) (fun j h => ff h) fun m' ys e' hy => by cases e; cases e'; exact ltFs_tr3 ih hx hy
/-! `<` of tuples in the model -/
noncomputable def LtAt (A : Around) (s : Shared) (u v : Value) (k : Bool) : Prop :=
  ∀ (prog : Program) (w : World) (E : Value → Shared → Prop) (Q : Value → Shared → Prop), Q (.bool k) s → wpAny (model prog w) A (richCompare .Lt u v) Q E s
/-- the answer of `<` by the first pair that differs -/
noncomputable def LexAt (A : Around) (s : Shared) (fin : Bool) : List (Value × Value) → Bool → Prop
  | [], k => k = fin
  | (p, q) :: r, k => (EqAt A s p q true ∧ LexAt A s fin r k) ∨ (EqAt A s p q false ∧ LtAt A s p q k)
theorem lt_loop {prog : Program} {w : World} {A : Around} {s : Shared} {E : Value → Shared → Prop} {fin k : Bool} {P : Option PySem.Fin × Unit → Shared → Prop} {body : Value × Value → Option PySem.Fin × Unit → Sem (ForInStep (Option PySem.Fin × Unit))}
    (h1 : ∀ {p q : Value} {R : ForInStep (Option PySem.Fin × Unit) → Shared → Prop}, EqAt A s p q true → R (.yield (none, ())) s → wpAny (model prog w) A (body (p, q) (none, ())) R E s)
    (h2 : ∀ {p q : Value} {k : Bool} {R : ForInStep (Option PySem.Fin × Unit) → Shared → Prop}, EqAt A s p q false → LtAt A s p q k → R (.done (some (.done (.ret (.bool k))), ())) s → wpAny (model prog w) A (body (p, q) (none, ())) R E s)
    (h3 : k = fin → P (none, ()) s) (h4 : P (some (.done (.ret (.bool k))), ()) s) : ∀ {l : List (Value × Value)}, LexAt A s fin l k → wpAny (model prog w) A (forIn l (none, ()) body) P E s
  | [], h => wpAny_pure (h3 h)
  | (p, q) :: r, h => by
    rw [List.forIn_cons]
    exact wpAny_bind (h.elim (fun h => h1 h.1 (lt_loop h1 h2 h3 h4 h.2)) fun h => h2 h.1 h.2 (wpAny_pure h4))
theorem tup_lt {l b : Addr} {vs ws : List Value} {n n2 : Nat} {k : Bool} :
    Meets (Builtin.«tuple.__lt__» ⟨[.ref l, .ref b], []⟩) (fun A R s => s.heap.get? l = some (tupObj vs n) ∧ s.heap.get? b = some (tupObj ws n2) ∧ LexAt A.in1 s (decide (vs.length < ws.length)) (vs.zip ws) k ∧ R (.ok (.ret (.bool k))) s) :=
  .of_wp fun prog w A R s h => by
    obtain ⟨hp, g, d, tk, os⟩ := s; obtain ⟨hl, hb, hx, h⟩ := h
    have f2 := AutoSeq1.sub_tuple_tuple
    wp_walk using AutoSeq1.wpAny_loadPart' hl, AutoSeq1.wpAny_loadPart' hb
    refine lt_loop (fun e r => ?_) (fun e lt r => ?_) (fun e => ?_) ?_ hx
    · refine wpAny_bind (e prog w _ _ ?_)
      exact wpAny_pure r
    · refine wpAny_bind (e prog w _ _ ?_)
      refine wpAny_bind (wpAny_rule (wpAny_bind (lt prog w _ _ (wpAny_bind ?_))))
      exact wpAny_pure (wpAny_pure r)
    · rw [e] at h
      exact wpAny_pure ⟨_, rfl, h⟩
    · exact wpAny_pure ⟨_, rfl, h⟩
theorem LtAt.tuples {A : Around} {s : Shared} {l b : Addr} {vs ws : List Value} {n n2 : Nat} {k : Bool} (hl : s.heap.get? l = some (tupObj vs n)) (hb : s.heap.get? b = some (tupObj ws n2)) (hu : A.units < cLine) (h : LexAt A.in1 s (decide (vs.length < ws.length)) (vs.zip ws) k) : LtAt A s (.ref l) (.ref b) k := fun prog w E Q q =>
  richCompare_meets_room (op := .Lt) ⟨_, hl, rfl⟩ ⟨_, hb, rfl⟩ F.slot_tuple_lt F.entry_tuple_lt (F.args_tuple_lt_2 _ _) tup_lt ⟨hl, hb, h, show Value.bool _ ≠ Value.notImplemented ∧ Q (.bool _) s from ⟨(fun x => nomatch x), q⟩⟩ hu
section
variable {s : Shared} {ρ : Rho}
theorem lex_of {n : Nat} {A : Around} {fin : Bool} (hu : A.units + n < cLine) (ih : ∀ {a b : FV} {u v : Value}, hkT n a = true → hkT n b = true → likeT a b = true → VRel ⟨s.heap, ρ⟩ a u → VRel ⟨s.heap, ρ⟩ b v → LtAt A s u v (ltF a b)) :
    ∀ {xs ys : List FV} {vs ws : List Value}, hkL n xs = true → hkL n ys = true → likeL xs ys = true → F2 (VRel ⟨s.heap, ρ⟩) xs vs → F2 (VRel ⟨s.heap, ρ⟩) ys ws → decide (xs.length < ys.length) = fin → LexAt A s fin (vs.zip ws) (ltFs xs ys)
  | [], [], _, _, _, _, _, q, q', e => q.nilE e
  | [], _ :: _, _, _, _, _, _, q, q', e => q.nilE e
  | _ :: _, [], _, _, _, _, _, q, q', e => q.consE fun v vs r q => q'.nilE e
  | x :: xs, y :: ys, _, _, hx, hy, hl, q, q', e => q.consE fun v vs r q => q'.consE fun u ws r' q' => by
    have c := (cmpAt hu (and2 hx).1 (and2 hy).1 r r').eq
    by_cases h : eqF x y = true
    · rw [h] at c
      rw [ltFs_yes h]
      rw [show likeL (x :: xs) (y :: ys) = likeL xs ys from if_pos h] at hl
      exact .inl ⟨c, lex_of hu ih (and2 hx).2 (and2 hy).2 hl q q' ((decide_eq_decide.mpr Nat.succ_lt_succ_iff.symm).trans e)⟩
    · rw [Bool.eq_false_iff.mpr h] at c
      rw [ltFs_no h]
      rw [show likeL (x :: xs) (y :: ys) = likeT x y from if_neg h] at hl
      exact .inr ⟨c, ih (and2 hx).1 (and2 hy).1 hl r r'⟩
theorem LtAt.int {A : Around} {a b : Int} {t u : Tok} : LtAt A s (.int a t) (.int b u) (decide (a < b)) := fun prog w _ _ h => PySem.P.lt_int (prog := prog) (w := w) h
theorem LtAt.str {A : Around} {a b : Str} {t u : Tok} : LtAt A s (.str a t) (.str b u) (strLt a b) := fun prog w _ _ h => PySem.P.lt_str (prog := prog) (w := w) (by rw [strLt_at] at h; exact h)
theorem ltAt_of : ∀ {n : Nat} {A : Around} {a b : FV} {u v : Value}, A.units + n < cLine → hkT n a = true → hkT n b = true → likeT a b = true → VRel ⟨s.heap, ρ⟩ a u → VRel ⟨s.heap, ρ⟩ b v → LtAt A s u v (ltF a b) := by
  intro n
  induction n with
  | zero =>
    exact fun {A a b u v} hu ha hb => hkE ha (fun i => hkE hb (fun j _ r r' => r.intE fun t => r'.intE fun t' => .int) (fun j h => ff h) fun _ _ e => nomatch e)
      (fun i => hkE hb (fun j h => ff h) (fun j _ r r' => r.strE fun t => r'.strE fun t' => .str) fun _ _ e => nomatch e) fun _ _ e => nomatch e
  | succ n ih =>
    exact fun {A a b u v} hu ha hb => hkE ha (fun i => hkE hb (fun j _ r r' => r.intE fun t => r'.intE fun t' => .int) (fun j h => ff h) fun _ _ _ _ h => ff h)
      (fun i => hkE hb (fun j h => ff h) (fun j _ r r' => r.strE fun t => r'.strE fun t' => .str) fun _ _ _ _ h => ff h)
      fun m xs e hx => hkE hb (fun j h => ff h) (fun j h => ff h) fun m' ys e' hy hl r r' => r.tupE fun a k vs g q => r'.tupE fun a' k' ws g' q' => by
        cases e; cases e'
        have hu' : A.in1.units + n < cLine := Nat.lt_of_le_of_lt (Nat.le_of_eq (Nat.add_right_comm _ _ _)) hu
        exact .tuples g g' (Nat.lt_of_le_of_lt (Nat.le_add_right _ _) hu) (lex_of hu' (ih hu') hx hy hl q q' (by rw [q.len, q'.len]))
end
end
section
open PySem PySem.W PyProof.Rows PySem.SeqAt
open scoped Classical
/-- the answer of a tree of questions -/
noncomputable def evalK {α : Type} (lt : Nat → Nat → Bool) : KasT α → α
  | .ret a => a
  | .ask i j k => evalK lt (k (lt i j))
noncomputable def okP (n i j : Nat) : Bool := Nat.blt i n && Nat.blt j n && !(i == j)
noncomputable def asksK {α : Type} (n : Nat) : KasT α → Bool
  | .ret _ => true
  | .ask i j k => okP n i j && (asksK n (k true) && asksK n (k false))
theorem asks_at {α : Type} {n i j : Nat} {k : Bool → KasT α} (h : asksK n (.ask i j k) = true) (b : Bool) : asksK n (k b) = true := by
  cases b; exact (and2 (and2 h).2).2; exact (and2 (and2 h).2).1
theorem eval_congr {α : Type} {n : Nat} {lt lt' : Nat → Nat → Bool} (h : ∀ i j, okP n i j = true → lt i j = lt' i j) : ∀ {t : KasT α}, asksK n t = true → evalK lt t = evalK lt' t
  | .ret _, _ => rfl
  | .ask i j k, hb => (congrArg (fun b => evalK lt (k b)) (h i j (and2 hb).1)).trans (eval_congr h (asks_at hb _))
theorem wp_eval {α : Type} {n : Nat} {lt : Nat → Nat → Bool} {cmp : Nat → Nat → (Bool → Shared → Prop) → Shared → Prop} {Q : α → Shared → Prop} {s : Shared} (h : ∀ i j, okP n i j = true → ∀ C : Bool → Shared → Prop, C (lt i j) s → cmp i j C s) :
    ∀ {t : KasT α}, asksK n t = true → Q (evalK lt t) s → t.kasWp cmp Q s
  | .ret _, _, q => q
  | .ask i j k, hb, q => h i j (and2 hb).1 _ (wp_eval h (asks_at hb _) q)
theorem asks2 : asksK 2 (kas_sort 2) = true := by decide +kernel
theorem asks3 : asksK 3 (kas_sort 3) = true := by decide +kernel
noncomputable def ordOf (lt : Nat → Nat → Bool) : Nat → List Nat
  | 0 => []
  | 1 => [0]
  | n => (evalK lt (kas_sort n)).toList
noncomputable def lt6 (b01 b02 b10 b12 b20 b21 : Bool) : Nat → Nat → Bool
  | 0, 1 => b01
  | 0, _ => b02
  | 1, 0 => b10
  | 1, _ => b12
  | _, 0 => b20
  | _, _ => b21
/-- the order by insertion, if the answers are sound -/
noncomputable def exp3 (b10 b20 b21 : Bool) : List Nat := match b10, b20, b21 with
  | true, _, true => [2, 1, 0]
  | true, true, false => [1, 2, 0]
  | true, false, false => [1, 0, 2]
  | false, true, _ => [2, 0, 1]
  | false, false, true => [0, 2, 1]
  | false, false, false => [0, 1, 2]
noncomputable def sound3 (b01 b10 b12 b20 b21 : Bool) : Bool := (!b10 || b21 || b12 || b20) && (b10 || !b21 || b01 || b20) && (b10 || !b20 || b21)
theorem sort3_all : ∀ b01 b02 b10 b12 b20 b21 : Bool, sound3 b01 b10 b12 b20 b21 = true → (evalK (lt6 b01 b02 b10 b12 b20 b21) (kas_sort 3)).toList = exp3 b10 b20 b21 := by decide +kernel
theorem sort2_all : ∀ b01 b10 : Bool, (evalK (lt6 b01 false b10 false false false) (kas_sort 2)).toList = if b10 = true then [1, 0] else [0, 1] := by decide +kernel
theorem blt_no {i n : Nat} {G : Prop} (h : Nat.blt (i + n) n = true) : G := (Nat.not_lt.mpr (Nat.le_add_left _ _) (Nat.le_of_ble_eq_true h)).elim
theorem ord3 {lt : Nat → Nat → Bool} (h : sound3 (lt 0 1) (lt 1 0) (lt 1 2) (lt 2 0) (lt 2 1) = true) : ordOf lt 3 = exp3 (lt 1 0) (lt 2 0) (lt 2 1) := by
  rw [← sort3_all _ (lt 0 2) _ _ _ _ h]
  refine congrArg Array.toList (eval_congr (n := 3) (fun i j h => ?_) asks3)
  match i, j, h with
  | 0, 0, h | 1, 1, h | 2, 2, h => exact ff h
  | 0, 1, _ | 0, 2, _ | 1, 0, _ | 1, 2, _ | 2, 0, _ | 2, 1, _ => rfl
  | i + 3, _, h => exact blt_no (i := i) (and3 h).1.1
  | _, j + 3, h => exact blt_no (i := j) (and3 h).1.2
theorem ord2 {lt : Nat → Nat → Bool} : ordOf lt 2 = if lt 1 0 = true then [1, 0] else [0, 1] := by
  rw [← sort2_all (lt 0 1)]
  refine congrArg Array.toList (eval_congr (n := 2) (fun i j h => ?_) asks2)
  match i, j, h with
  | 0, 0, h | 1, 1, h => exact ff h
  | 0, 1, _ | 1, 0, _ => rfl
  | i + 2, _, h => exact blt_no (i := i) (and3 h).1.1
  | _, j + 2, h => exact blt_no (i := j) (and3 h).1.2

section
variable {prog : Program} {w : World} {A : Around} {E : Value → Shared → Prop} {s : Shared}
noncomputable def srtH (h : Heap) (a : Addr) (vs : List Value) : Heap := ((h.update a (Obj.mapSeq fun _ => #[])).push (seqObj "tuple" vs.toArray 0)).push (seqObj "list" #[] 0)
theorem srt_at {h : Heap} {a : Addr} {vs : List Value} {n : Nat} (ho : h.get? a = some (seqObj "list" vs.toArray n)) : (srtH h a vs).get? a = some (seqObj "list" #[] (if (#[] : Array Value).size == vs.toArray.size then n else n + 1)) :=
  Heap.get?_push_of_some _ (Heap.get?_push_of_some _ (get?_update_seq ho fun _ => #[]))
theorem srt_keep {h : Heap} {a : Addr} {vs : List Value} (b : Addr) (o : Obj) (q : b ≠ a) (e : h.get? b = some o) : (srtH h a vs).get? b = some o := Heap.get?_push_of_some _ (Heap.get?_push_of_some _ ((Heap.get?_update_ne _ _ _ _ q).trans e))
theorem zip_snd (vs : List Value) : (arrOf (SortSt.mk' general' (vs.toArray.zip vs.toArray) #[] 7 none)).map (·.2) = vs.toArray := by
  show (vs.toArray.zip vs.toArray).map (·.2) = vs.toArray
  apply Array.toList_inj.mp
  simp [List.map_snd_zip]
theorem line3 {m : Nat} (h : m ≤ 3) : m ≤ sizeLine := line_of (Nat.le_trans h (by decide))
theorem sort_tail {a : Addr} {e1 : Nat} {st : SortSt} {out : Array Value} {P : PySem.Fin → Shared → Prop} (ho : s.heap.get? a = some (seqObj "list" #[] e1)) (hf : failedOf st = none) (ho' : (arrOf st).map (·.2) = out) (hz : out.size ≤ 3) (h : P (.done (.ret .none)) { s with heap := s.heap.update a (Obj.mapSeq fun _ => out) }) :
    wpAny (model prog w) A (do
      let sorted := (arrOf st).map (·.2)
      let touched := (← seqEpoch a) != e1
      Builtin.List.listUpdate (.ref a) fun _ => sorted
      if let some e := failedOf st then rule "list.sort.comparison-raised"; throw e
      if touched then rule "list.sort.modified"; raiseError "ValueError" "list modified during sort"
      ret .none) P E s := by
  refine wpAny_bind (seqEpoch_at ho rfl (wpAny_bind (listUpdate_at ho rfl ?_ (Nat.zero_le _) (ho'.symm ▸ Nat.le_succ_of_le (line3 hz)))))
  rw [hf, ho']
  refine wp_else (fun q => ?_) (wpAny_pure h)
  rw [bne_self_eq_false] at q; exact ff q
/-- `list.sort` of at most three items, each question answered without a trace -/
theorem list_sort3 {a : Addr} {vs : List Value} {n : Nat} {κ : SortKind} {lt : Nat → Nat → Bool} {P : PySem.Fin → Shared → Prop} (ho : s.heap.get? a = some (seqObj "list" vs.toArray n)) (h3 : vs.length ≤ 3)
    (hk : 2 ≤ vs.length → ∀ Q : SortKind → Shared → Prop, Q κ { s with heap := srtH s.heap a vs } → wpAny (model prog w) A (keyKind' vs.toArray) Q (fun _ _ => False) { s with heap := srtH s.heap a vs })
    (hc : ∀ i j, i < vs.length → j < vs.length → ∀ C : Bool → Shared → Prop, C (lt i j) { s with heap := srtH s.heap a vs } → kas_ask prog w A κ vs i j C { s with heap := srtH s.heap a vs })
    (h : ∀ out : List Value, out = (ordOf lt vs.length).map (fun i => vs.getD i Value.none) → P (.done (.ret .none)) { s with heap := sortedHeap s.heap a vs out.toArray }) :
    wpAny (model prog w) A (Builtin.«list.sort» ⟨[.ref a], []⟩) P E s := by
  rw [list_sort_plain]
  refine wpAny_bind (listItems_at ho rfl (wpAny_bind (listUpdate_at ho rfl (wpAny_bind (seqEpoch_at (get?_update_seq ho fun _ => #[]) rfl (wpAny_bind (wpAny_newTuple (wpAny_bind (wpAny_newList (wpAny_holding (?_ : wpAny (model prog w) A _ P E { s with heap := srtH s.heap a vs })) (Nat.zero_le _))) (line3 h3))))) (line3 h3) (Nat.zero_le _))))
  have ho' := srt_at ho
  match vs, h3 with
  | [], _ => exact wpAny_bind (wpAny_pure (wpAny_bind (wpAny_pure (sort_tail (out := #[]) ho' rfl (zip_snd []) (Nat.zero_le _) (h [] rfl)))))
  | [v], _ => exact wpAny_bind (wpAny_pure (wpAny_bind (wpAny_pure (sort_tail (out := #[v]) ho' rfl (zip_snd [v]) (Nat.le_of_ble_eq_true rfl) (h [v] rfl)))))
  | v :: u :: vs, h3 =>
    have as : asksK (v :: u :: vs).length (kas_sort (v :: u :: vs).length) = true := by
      match vs, h3 with
      | [], _ => exact asks2
      | [_], _ => exact asks3
      | _ :: _ :: r, h3 => exact absurd h3 (Nat.not_le.mpr (Nat.le_add_left 4 r.length))
    have tr : ∃ t : KasT (Array Nat), t = kas_sort (v :: u :: vs).length ∧ asksK (v :: u :: vs).length t = true ∧ ordOf lt (v :: u :: vs).length = (evalK lt t).toList := ⟨_, rfl, as, rfl⟩
    refine tr.elim fun t tr => ?_
    refine wpAny_bind (wpAny_mono (hk (Nat.le_add_left _ _) (fun κ' s' => κ' = κ ∧ s' = { s with heap := srtH s.heap a (v :: u :: vs) }) ⟨rfl, rfl⟩) (fun κ' s' q => ?_) fun _ _ x => x.elim)
    cases q.1
    cases q.2
    have run : wpAny (model prog w) A ((sortRuns').run (SortSt.mk' κ ((v :: u :: vs).toArray.zip (v :: u :: vs).toArray) #[] 7 none)) (fun r s' => s' = { s with heap := srtH s.heap a (v :: u :: vs) } ∧ failedOf r.2 = none ∧ (arrOf r.2).map (·.2) = List.toArray ((evalK lt t).toList.map fun i => (v :: u :: vs).getD i Value.none) ∧ (arrOf r.2).size ≤ 3) E { s with heap := srtH s.heap a (v :: u :: vs) } :=
      kat_run (ks := v :: u :: vs) (vs := v :: u :: vs) (Q := fun st s' => s' = { s with heap := srtH s.heap a (v :: u :: vs) } ∧ failedOf st = none ∧ (arrOf st).map (·.2) = List.toArray ((evalK lt t).toList.map fun i => (v :: u :: vs).getD i Value.none) ∧ (arrOf st).size ≤ 3)
        (G := fun p s' => p = evalK lt t ∧ s' = { s with heap := srtH s.heap a (v :: u :: vs) }) rfl (Nat.le_add_left _ _) (Nat.lt_of_le_of_lt h3 (by decide)) (fun p st' s' q1 q2 q3 q4 => ⟨q4.2, q3, q4.1 ▸ kat_snds rfl q2, by rw [q2, Array.size_map, q1]; exact h3⟩)
        (by rw [← tr.1]; exact wp_eval (fun i j h C c => hc i j (Nat.le_of_ble_eq_true (and3 h).1.1) (Nat.le_of_ble_eq_true (and3 h).1.2) C c) tr.2.1 ⟨rfl, rfl⟩)
    refine wpAny_bind (wpAny_mono run (fun r s' q => ?_) fun _ _ x => x)
    cases q.1
    obtain ⟨⟨⟩, st⟩ := r
    have hz : ((arrOf st).map (·.2)).size ≤ 3 := by rw [Array.size_map]; exact q.2.2.2
    refine wpAny_bind (seqEpoch_at (srt_at ho) rfl (wpAny_bind (listUpdate_at (srt_at ho) rfl ?_ (Nat.zero_le _) (Nat.le_succ_of_le (line3 hz)))))
    rw [show failedOf st = none from q.2.1, show (arrOf st).map (·.2) = _ from q.2.2.1]
    refine wp_else (fun q => ?_) (wpAny_pure (h ((evalK lt t).toList.map fun i => (v :: u :: vs).getD i Value.none) (by rw [tr.2.2])))
    rw [bne_self_eq_false] at q; exact ff q
end
theorem ins1 {x y : FV} {ys : List FV} (h : ltT x y = some true) : insT x (y :: ys) = some (x :: y :: ys) := by rw [insT, h]
theorem ins0 {x y : FV} {ys : List FV} (h : ltT x y = some false) : insT x (y :: ys) = (insT x ys).map (y :: ·) := by rw [insT, h]
theorem sort_2 {a b : FV} : ∀ {k10 : Bool}, ltT b a = some k10 → sortT [] [a, b] = some ((if k10 = true then [1, 0] else [0, 1]).map fun i => [a, b].getD i .none)
  | true, h => by show (insT b [a]).bind some = _; rw [ins1 h]; rfl
  | false, h => by show (insT b [a]).bind some = _; rw [ins0 h]; rfl
theorem sort_3 {a b c : FV} : ∀ {k10 k20 k21 : Bool}, ltT b a = some k10 → ltT c a = some k20 → ltT c b = some k21 → sortT [] [a, b, c] = some ((exp3 k10 k20 k21).map fun i => [a, b, c].getD i .none)
  | true, true, true, h1, h2, h3 | true, false, true, h1, h2, h3 => by show ((insT b [a]).bind fun l => (insT c l).bind some) = _; rw [ins1 h1, Option.bind_some, ins1 h3]; rfl
  | true, true, false, h1, h2, h3 => by show ((insT b [a]).bind fun l => (insT c l).bind some) = _; rw [ins1 h1, Option.bind_some, ins0 h3, ins1 h2]; rfl
  | true, false, false, h1, h2, h3 => by show ((insT b [a]).bind fun l => (insT c l).bind some) = _; rw [ins1 h1, Option.bind_some, ins0 h3, ins0 h2]; rfl
  | false, true, true, h1, h2, h3 | false, true, false, h1, h2, h3 => by show ((insT b [a]).bind fun l => (insT c l).bind some) = _; rw [ins0 h1, show (insT b []).map (a :: ·) = some [a, b] from rfl, Option.bind_some, ins1 h2]; rfl
  | false, false, true, h1, h2, h3 => by show ((insT b [a]).bind fun l => (insT c l).bind some) = _; rw [ins0 h1, show (insT b []).map (a :: ·) = some [a, b] from rfl, Option.bind_some, ins0 h2, ins1 h3]; rfl
  | false, false, false, h1, h2, h3 => by show ((insT b [a]).bind fun l => (insT c l).bind some) = _; rw [ins0 h1, show (insT b []).map (a :: ·) = some [a, b] from rfl, Option.bind_some, ins0 h2, ins0 h3]; rfl
theorem sound_of : ∀ {b01 b10 b12 b20 b21 : Bool}, (b12 = false → b21 = false → b10 = b20) → (b01 = false → b10 = false → b20 = b21) → (b20 = true → b01 = true → b21 = true) → sound3 b01 b10 b12 b20 b21 = true := by decide +kernel
/-- what may be sorted -/
structure Lk (xs : List FV) : Prop where
  hk : ∀ x ∈ xs, hkT 7 x = true
  lk : ∀ x ∈ xs, ∀ y ∈ xs, likeT x y = true
theorem Lk.lt {xs : List FV} (s : Lk xs) {x y : FV} (hx : x ∈ xs) (hy : y ∈ xs) : ltT x y = some (ltF x y) := if_pos (Bool.and_eq_true_iff.mpr ⟨Bool.and_eq_true_iff.mpr ⟨s.hk x hx, s.hk y hy⟩, s.lk x hx y hy⟩)
theorem Lk.tri {xs : List FV} (s : Lk xs) {x y : FV} (hx : x ∈ xs) (hy : y ∈ xs) (h1 : ltF x y = false) (h2 : ltF y x = false) : x = y := eqF_eq _ _ (ltF_tri (s.hk x hx) (s.hk y hy) (s.lk x hx y hy) h1 h2)
noncomputable abbrev ltI (xs : List FV) (i j : Nat) : Bool := ltF (xs.getD i .none) (xs.getD j .none)
/-- the sort of at most three items is the sort by insertion -/
theorem sort_ord {xs ys : List FV} (h3 : xs.length ≤ 3) (s : Lk xs) (e : sortT [] xs = some ys) : ys = (ordOf (ltI xs) xs.length).map fun i => xs.getD i .none := by
  match xs, h3 with
  | [], _ => exact (Option.some.inj e).symm
  | [a], _ => exact (Option.some.inj e).symm
  | [a, b], _ => exact Option.some.inj (e.symm.trans ((sort_2 (s.lt (.tail _ (.head _)) (.head _))).trans (congrArg (fun l : List Nat => some (l.map fun i => [a, b].getD i .none)) (ord2 (lt := ltI [a, b])).symm)))
  | [a, b, c], _ =>
    have ma : a ∈ [a, b, c] := .head _
    have mb : b ∈ [a, b, c] := .tail _ (.head _)
    have mc : c ∈ [a, b, c] := .tail _ (.tail _ (.head _))
    have so : sound3 (ltF a b) (ltF b a) (ltF b c) (ltF c a) (ltF c b) = true := sound_of (fun h1 h2 => by rw [s.tri mb mc h1 h2]) (fun h1 h2 => by rw [s.tri ma mb h1 h2]) fun h1 h2 => ltF_trans (s.hk c mc) (s.hk a ma) (s.hk b mb) h1 h2
    exact Option.some.inj (e.symm.trans ((sort_3 (s.lt mb ma) (s.lt mc ma) (s.lt mc mb)).trans (congrArg (fun l : List Nat => some (l.map fun i => [a, b, c].getD i .none)) (ord3 (lt := ltI [a, b, c]) so).symm)))
  | _ :: _ :: _ :: _ :: r, h3 => exact absurd h3 (Nat.not_le.mpr (Nat.le_add_left 4 r.length))

/-! ints -/
theorem lt_ints (x y : Int) : ltT (.int x) (.int y) = some (decide (x < y)) := rfl
theorem insT_ints {x : Int} {l : List Int} (h : l.Pairwise (· ≤ ·)) : ∃ l' : List Int, insT (.int x) (l.map .int) = some (l'.map .int) ∧ l'.Perm (x :: l) ∧ l'.Pairwise (· ≤ ·) := by
  induction l with
  | nil => exact ⟨[x], rfl, .refl _, List.pairwise_singleton _ _⟩
  | cons y l ih =>
    have h := List.pairwise_cons.mp h
    by_cases q : x < y
    · exact ⟨x :: y :: l, ins1 ((lt_ints x y).trans (congrArg some (decide_eq_true q))), .refl _, List.pairwise_cons.mpr ⟨fun z hz => (List.mem_cons.mp hz).elim (fun e => e ▸ Int.le_of_lt q) fun hz => Int.le_trans (Int.le_of_lt q) (h.1 z hz), List.pairwise_cons.mpr h⟩⟩
    · exact (ih h.2).elim fun l' g => ⟨y :: l', (ins0 ((lt_ints x y).trans (congrArg some (decide_eq_false q)))).trans (by rw [show insT (.int x) (List.map FV.int l) = _ from g.1]; rfl), (g.2.1.cons y).trans (.swap ..),
        List.pairwise_cons.mpr ⟨fun z hz => (List.mem_cons.mp (g.2.1.mem_iff.mp hz)).elim (fun e => e ▸ Int.not_lt.mp q) (h.1 z), g.2.2⟩⟩
theorem sortT_ints {l : List Int} : ∀ {acc : List Int}, acc.Pairwise (· ≤ ·) → ∃ l' : List Int, sortT (acc.map .int) (l.map .int) = some (l'.map .int) ∧ l'.Perm (acc ++ l) ∧ l'.Pairwise (· ≤ ·) := by
  induction l with
  | nil => exact fun {acc} h => ⟨acc, rfl, (List.append_nil acc).symm ▸ .refl _, h⟩
  | cons x l ih => exact fun {acc} h => (insT_ints (x := x) h).elim fun a' g => (ih g.2.2).elim fun l' k => ⟨l', by
      show (insT (.int x) (acc.map .int)).bind _ = _
      rw [g.1]; exact k.1, (k.2.1.trans (g.2.1.append_right l)).trans List.perm_middle.symm, k.2.2⟩
theorem key_int {x : FV} {P : FV → Prop} (h : (keyK x == 1) = true) (k : ∀ i, P (.int i)) : P x := by
  induction x using FV.casesOn with
  | int i => exact k i
  | tup xs =>
    by_cases c : hkL 6 xs = true
    · rw [show keyK (.tup xs) = 3 from if_pos c] at h; exact ff h
    · rw [show keyK (.tup xs) = 0 from if_neg c] at h; exact ff h
  | _ => exact ff h
theorem key_str {x : FV} {P : FV → Prop} (h : (keyK x == 2) = true) (k : ∀ i, P (.str i)) : P x := by
  induction x using FV.casesOn with
  | str i => exact k i
  | tup xs =>
    by_cases c : hkL 6 xs = true
    · rw [show keyK (.tup xs) = 3 from if_pos c] at h; exact ff h
    · rw [show keyK (.tup xs) = 0 from if_neg c] at h; exact ff h
  | _ => exact ff h
theorem ints_of {p : Pt} {xs : List FV} {vs : List Value} (q : F2 (VRel p) xs vs) : xs.all (fun x => keyK x == 1) = true → ∃ ns : List Int, xs = ns.map .int ∧ IntsAre vs ns := by
  induction q with
  | nil => exact fun _ => ⟨[], rfl, .nil⟩
  | @cons x v xs vs r _ ih => exact fun h => (ih (and2 h).2).elim fun ns g => key_int (P := fun x => VRel p x v → ∃ ns : List Int, x :: xs = ns.map .int ∧ IntsAre (v :: vs) ns) (and2 h).1 (fun i r => r.intE fun t => ⟨i :: ns, g.1 ▸ rfl, .cons _ _ g.2⟩) r
theorem of_ints {p : Pt} {ns : List Int} {vs : List Value} (q : IntsAre vs ns) : F2 (VRel p) (ns.map .int) vs := by
  induction q with
  | nil => exact .nil
  | cons n t _ ih => exact .cons .int ih

/-! tuples -/
section
variable {prog : Program} {w : World} {A : Around} {s : Shared} {ρ : Rho}
theorem first1 {x : FV} {xs : List FV} {P : FV → Prop} (h : firstK (.tup (x :: xs)) = 1) (k : ∀ i, P (.int i)) : P x := by
  induction x using FV.casesOn with
  | int i => exact k i
  | _ => exact nomatch (show (_ : Nat) = 1 from h)
theorem first2 {x : FV} {xs : List FV} {P : FV → Prop} (h : firstK (.tup (x :: xs)) = 2) (k : ∀ i, P (.str i)) : P x := by
  induction x using FV.casesOn with
  | str i => exact k i
  | _ => exact nomatch (show (_ : Nat) = 2 from h)
theorem katlex {bb fin : Bool} {Q : Bool → Shared → Prop} (hu : A.units + 6 < cLine) : ∀ {xs ys : List FV} {vs ws : List Value} {i : Nat}, hkL 6 xs = true → hkL 6 ys = true → likeL xs ys = true → F2 (VRel ⟨s.heap, ρ⟩) xs vs → F2 (VRel ⟨s.heap, ρ⟩) ys ws →
    ((bb && i == 0) = true → (firstK (.tup xs) = 1 ∧ firstK (.tup ys) = 1) ∨ (firstK (.tup xs) = 2 ∧ firstK (.tup ys) = 2)) → decide (xs.length < ys.length) = fin → Q (ltFs xs ys) s → KatLex prog w A bb fin Q (vs.zip ws) i s
  | [], [], _, _, _, _, _, _, q, q', _, e, h => q.nilE (e ▸ h : Q fin s)
  | [], _ :: _, _, _, _, _, _, _, q, q', _, e, h => q.nilE (e ▸ h : Q fin s)
  | _ :: _, [], _, _, _, _, _, _, q, q', _, e, h => q.consE fun v vs r q => q'.nilE (e ▸ h : Q fin s)
  | x :: xs, y :: ys, _, _, i, hx, hy, hl, q, q', hb, e, h => q.consE fun v vs r q => q'.consE fun u ws r' q' => by
    refine kat_cons ((cmpAt hu (and2 hx).1 (and2 hy).1 r r').eq prog w _ _ ?_)
    by_cases c : eqF x y = true
    · rw [c]
      rw [show likeL (x :: xs) (y :: ys) = likeL xs ys from if_pos c] at hl
      rw [ltFs_yes c] at h
      exact kat_yes (katlex hu (and2 hx).2 (and2 hy).2 hl q q' (fun z => ff (and2 z).2) ((decide_eq_decide.mpr Nat.succ_lt_succ_iff.symm).trans e) h)
    · rw [Bool.eq_false_iff.mpr c]
      rw [show likeL (x :: xs) (y :: ys) = likeT x y from if_neg c] at hl
      rw [ltFs_no c] at h
      refine kat_no ?_
      cases z : (bb && i == 0) with
      | true =>
        clear hx hy c e
        revert h r r'
        exact (hb z).elim (fun g => first1 (P := fun x => Q (ltF x y) s → VRel _ x v → VRel _ y u → _) g.1 fun a => first1 (P := fun y => Q (ltF (.int a) y) s → VRel _ (.int a) v → VRel _ y u → _) g.2 fun b h r r' => r.intE fun _ => r'.intE fun _ => oneLt_int h)
          fun g => first2 (P := fun x => Q (ltF x y) s → VRel _ x v → VRel _ y u → _) g.1 fun a => first2 (P := fun y => Q (ltF (.str a) y) s → VRel _ (.str a) v → VRel _ y u → _) g.2 fun b h r r' => r.strE fun _ => r'.strE fun _ => oneLt_str (strLt_at a b ▸ h)
      | false => exact kat_one _ _ (ltAt_of hu (and2 hx).1 (and2 hy).1 hl r r' prog w _ _ h)
noncomputable abbrev firstT (k : Nat) : Value := if k = 1 then .type "int" else if k = 2 then .type "str" else .type "tuple"
theorem head_of {x : FV} {v : Value} {k : Nat} (r : VRel ⟨s.heap, ρ⟩ x v) (h : firstK x = k) (h0 : k ≠ 0) : ∃ a n v₁ vs, v = .ref a ∧ s.heap.get? a = some (tupObj (v₁ :: vs) n) ∧ Looks (model prog w) s.heap (typeOf v₁) (firstT k) := by
  have no : ∀ {G : Prop}, 0 = k → G := fun e => absurd e.symm h0
  induction x using FV.casesOn with
  | tup xs =>
    cases xs with
    | nil => exact no h
    | cons x xs => exact r.tupE fun a n vs e q => q.consE (P := fun vs => s.heap.get? a = some (tupObj vs n) → ∃ a' n v₁ vs, Value.ref a = .ref a' ∧ s.heap.get? a' = some (tupObj (v₁ :: vs) n) ∧ Looks (model prog w) s.heap (typeOf v₁) (firstT k)) (fun v₁ vs r q e => ⟨a, n, v₁, vs, rfl, e, by
        subst h
        induction x using FV.casesOn with
        | int i => exact r.intE fun t => Looks.of_pure rfl
        | str i => exact r.strE fun t => Looks.of_pure rfl
        | tup xs => exact r.tupE fun _ _ _ e _ => (Looks.ld e).andThen .now
        | _ => exact absurd rfl h0⟩) e
  | _ => exact no h
theorem heads_of {k : Nat} (h0 : k ≠ 0) {xs : List FV} {vs : List Value} (q : F2 (VRel ⟨s.heap, ρ⟩) xs vs) : xs.all (fun x => firstK x == k) = true → ∃ fs, KatTups s.heap vs fs ∧ fs.length = vs.length ∧ ∀ v ∈ fs, Looks (model prog w) s.heap (typeOf v) (firstT k) := by
  induction q with
  | nil => exact fun _ => ⟨[], KatTups.nil, rfl, fun _ h => nomatch h⟩
  | cons r _ ih => exact fun h => (ih (and2 h).2).elim fun fs g => (head_of (prog := prog) (w := w) r (eq_of_beq (and2 h).1) h0).elim fun a z => z.elim fun n z => z.elim fun v₁ z => z.elim fun vs z => ⟨v₁ :: fs, z.1 ▸ KatTups.cons z.2.1 rfl rfl rfl g.1, congrArg (· + 1) g.2.1, fun u hu => (List.mem_cons.mp hu).elim (fun e => e ▸ z.2.2) (g.2.2 u)⟩
end
theorem F2.getD {p : Pt} {xs : List FV} {vs : List Value} (q : F2 (VRel p) xs vs) : ∀ i, VRel p (xs.getD i .none) (vs.getD i .none) := by
  induction q with
  | nil => exact fun i => (rfl : Value.none = .none)
  | cons r _ ih => exact fun i => match i with
    | 0 => r
    | i + 1 => ih i
theorem F2.mapD {p : Pt} {xs : List FV} {vs : List Value} (q : F2 (VRel p) xs vs) : ∀ l : List Nat, F2 (VRel p) (l.map fun i => xs.getD i .none) (l.map fun i => vs.getD i .none)
  | [] => .nil
  | i :: l => .cons (q.getD i) (q.mapD l)
theorem mem_getD {xs : List FV} {i : Nat} (h : i < xs.length) : xs.getD i .none ∈ xs := by
  rw [List.getD_eq_getElem?_getD, List.getElem?_eq_getElem h]; exact List.getElem_mem h
theorem sortM_inv {xs ys : List FV} (e : sortM xs = some ys) : sortable xs = true ∧ sortT [] xs = some ys := by
  unfold sortM at e
  by_cases h : sortable xs = true
  · rw [if_pos h] at e; exact ⟨h, e⟩
  · rw [if_neg h] at e; exact noS e
section
variable {prog : Program} {w : World} {A : Around} {E : Value → Shared → Prop} {s : Shared} {ρ : Rho} {a : Addr} {n : Nat} {vs : List Value} {xs ys : List FV} {P : PySem.Fin → Shared → Prop}
theorem up_but {h h' : Heap} {I : Addr} {vs : Array Value} {n : Nat} (ho : h.get? I = some (seqObj "list" vs n)) (hs : ∀ a o, a ≠ I → h.get? a = some o → h'.get? a = some o) : Up ⟨h, ρ⟩ ⟨h', ρ⟩ := (Imm.but hs ho rfl).up
theorem sort_strs (ho : s.heap.get? a = some (seqObj "list" vs.toArray n)) (r : F2 (VRel ⟨s.heap, ρ⟩) xs vs) (e : sortT [] xs = some ys) (h3 : xs.length ≤ 3) (hs : xs.all (fun x => keyK x == 2) = true) (h : ∀ out : List Value, F2 (VRel ⟨s.heap, ρ⟩) ys out → P (.done (.ret .none)) { s with heap := sortedHeap s.heap a vs out.toArray }) :
    wpAny (model prog w) A (Builtin.«list.sort» ⟨[.ref a], []⟩) P E s := by
  have st := List.all_eq_true.mp hs
  have lk : Lk xs := ⟨fun x hx => key_str (P := fun x => hkT 7 x = true) (st x hx) fun _ => rfl, fun x hx y hy => key_str (P := fun x => likeT x y = true) (st x hx) fun i => key_str (P := fun y => likeT (.str i) y = true) (st y hy) fun _ => rfl⟩
  refine list_sort3 (κ := oneType') (lt := ltI xs) ho (r.len ▸ h3) (fun h2 Q q => kas_kind (T := .type "str") h2 (fun v hv => (r.mem hv).elim fun x g => key_str (P := fun x => VRel _ x v → _) (st x g.1) (fun i r => r.strE fun t => Looks.of_pure rfl) g.2) (by decide) (by decide) q) (fun i j hi hj C hC => ?_) fun out e1 => h out (by
    rw [e1, ← r.len, sort_ord h3 lk e]; exact r.mapD _)
  have mi := st _ (mem_getD (r.len ▸ hi))
  have mj := st _ (mem_getD (r.len ▸ hj))
  have r1 := r.getD i
  have r2 := r.getD j
  unfold kas_ask
  revert r1 r2 hC
  unfold ltI
  exact key_str (P := fun x => C (ltF x _) _ → VRel _ x _ → VRel _ _ _ → _) mi (fun b => key_str (P := fun y => C (ltF (.str b) y) _ → VRel _ (.str b) _ → VRel _ y _ → _) mj fun c hC r1 r2 => by
    refine r1.elim fun t e1 => r2.elim fun u e2 => ?_
    rw [e1, e2]
    exact kas_lt_str (strLt_at b c ▸ hC))
theorem firstT_self {k : Nat} (hk : k = 1 ∨ k = 2 ∨ k = 3) : (firstT k == firstT k) = true := by
  rcases hk with e | e | e <;> subst e <;> decide
theorem sort_tups {k : Nat} (hu : A.units + 6 < cLine) (ho : s.heap.get? a = some (seqObj "list" vs.toArray n)) (r : F2 (VRel ⟨s.heap, ρ⟩) xs vs) (e : sortT [] xs = some ys) (h3 : xs.length ≤ 3) (lk : Lk xs) (hf : xs.all (fun x => firstK x == k) = true) (hk : k = 1 ∨ k = 2 ∨ k = 3)
    (h : ∀ out : List Value, F2 (VRel ⟨s.heap, ρ⟩) ys out → P (.done (.ret .none)) { s with heap := sortedHeap s.heap a vs out.toArray }) : wpAny (model prog w) A (Builtin.«list.sort» ⟨[.ref a], []⟩) P E s := by
  have fk := List.all_eq_true.mp hf
  have h0 : k ≠ 0 := hk.elim (fun e => e ▸ Nat.one_ne_zero) fun h => h.elim (fun e => e ▸ Nat.succ_ne_zero 1) fun e => e ▸ Nat.succ_ne_zero 2
  have r' : F2 (VRel ⟨srtH s.heap a vs, ρ⟩) xs vs := (up_but ho fun b o q e => srt_keep b o q e).vs r
  refine list_sort3 (κ := tuples' (firstT k != Value.type "tuple")) (lt := ltI xs) ho (r.len ▸ h3) (fun h2 Q q => (heads_of (prog := prog) (w := w) (s := { s with heap := srtH s.heap a vs }) h0 r' hf).elim fun fs g => kat_kind g.1 (by rw [g.2.1]; exact Nat.lt_of_lt_of_le Nat.zero_lt_two h2) g.2.2 (firstT_self hk) q)
    (fun i j hi hj C hC => ?_) fun out e1 => h out (by rw [e1, ← r.len, sort_ord h3 lk e]; exact r.mapD _)
  have mi := mem_getD (r.len ▸ hi)
  have mj := mem_getD (r.len ▸ hj)
  have fx := eq_of_beq (fk _ mi)
  have fy := eq_of_beq (fk _ mj)
  have kx := lk.hk _ mi
  have ky := lk.hk _ mj
  have ll := lk.lk _ mi _ mj
  have r1 := r'.getD i
  have r2 := r'.getD j
  unfold kas_ask
  unfold ltI at hC
  generalize xs.getD i .none = x at fx kx ll r1 hC
  generalize xs.getD j .none = y at fy ky ll r2 hC
  generalize vs.getD i Value.none = v at r1
  generalize vs.getD j Value.none = u at r2
  have no : ∀ {G : Prop}, 0 = k → G := fun e => absurd e.symm h0
  induction x using FV.casesOn with
  | tup x =>
    induction y using FV.casesOn with
    | tup y =>
      refine r1.tupE fun a1 n1 vs1 e1 q1 => r2.tupE fun a2 n2 vs2 e2 q2 => kat_lt e1 rfl e2 rfl (katlex (s := { s with heap := srtH s.heap a vs }) hu kx ky ll q1 q2 (fun z => ?_) (by rw [List.size_toArray, List.size_toArray, q1.len, q2.len]) hC)
      refine hk.elim (fun e => .inl (e ▸ ⟨fx, fy⟩)) fun h => h.elim (fun e => .inr (e ▸ ⟨fx, fy⟩)) fun e => ?_
      subst e
      exact ff z
    | _ => exact no fy
  | _ => exact no fx
theorem sort_at (hu : A.units + 6 < cLine) (ho : s.heap.get? a = some (seqObj "list" vs.toArray n)) (r : F2 (VRel ⟨s.heap, ρ⟩) xs vs) (e : sortM xs = some ys) (h : ∀ out : List Value, F2 (VRel ⟨s.heap, ρ⟩) ys out → P (.done (.ret .none)) { s with heap := sortedHeap s.heap a vs out.toArray }) :
    wpAny (model prog w) A (Builtin.«list.sort» ⟨[.ref a], []⟩) P E s := by
  have g := sortM_inv e
  refine ((Bool.or_eq_true _ _).mp g.1).elim (fun q => ?_) fun q => ?_
  · have q := and2 q
    refine (ints_of r q.1).elim fun ns z => (sortT_ints (l := ns) .nil).elim fun l' k => ?_
    have e' : l'.map FV.int = ys := Option.some.inj (k.1.symm.trans (z.1 ▸ g.2))
    refine list_sort_tree ho z.2 (Nat.lt_of_le_of_lt (Nat.le_of_eq r.len.symm) (of_decide_eq_true q.2)) fun out ns' a1 a2 a3 => ?_
    have e2 : ns' = l' := (a2.trans k.2.1.symm).eq_of_pairwise (fun x y _ _ p q => Int.le_antisymm p q) a3 k.2.2
    have := h out.toList (e' ▸ e2 ▸ of_ints a1)
    rw [Array.toArray_toList] at this
    exact this
  · have q := and2 q
    have h3 := of_decide_eq_true q.1
    refine ((Bool.or_eq_true _ _).mp q.2).elim (fun q => sort_strs ho r g.2 h3 q h) fun q => ?_
    have q := and3 q
    have lk : Lk xs := ⟨List.all_eq_true.mp q.1.1, fun x hx y hy => List.all_eq_true.mp (List.all_eq_true.mp q.1.2 x hx) y hy⟩
    exact ((Bool.or_eq_true _ _).mp q.2).elim (fun q => ((Bool.or_eq_true _ _).mp q).elim (fun q => sort_tups hu ho r g.2 h3 lk q (.inl rfl) h) fun q => sort_tups hu ho r g.2 h3 lk q (.inr (.inl rfl)) h) fun q => sort_tups hu ho r g.2 h3 lk q (.inr (.inr rfl)) h
theorem sortM_len (e : sortM xs = some ys) : xs.length ≤ 64 :=
  ((Bool.or_eq_true _ _).mp (sortM_inv e).1).elim (fun q => Nat.le_of_lt (of_decide_eq_true (and2 q).2)) fun q => Nat.le_trans (of_decide_eq_true (and2 q).1) (by decide)
end
section
variable {A : Around} {z : Z} {n : Nat} {Q : FV → Store → Prop} {P : Value → Shared → Prop}
theorem len64 {m : Nat} (h : m ≤ 64) : m ≤ sizeLine := line_of (Nat.le_trans h (by decide))
/-- `sorted`, once it is known what is collected -/
theorem sorted_core {c : Value} {xs ys : List FV} (rm : Room n A) (e : sortM xs = some ys) (h : Q (.ref z.σ.length) (z.σ ++ [.lst ys])) (k : KP V z Q P)
    (hcol : ∀ (E : Value → Shared → Prop) (R : List Value → Shared → Prop), (∀ z1 vs, More z z1 → Vs z1 xs vs → R vs z1.s) → wpAny (model d0.prog d0.w) A.in1 (collect c) R E z.s) : W A (call (.builtin "sorted") [c]) P z.s := by
  refine Calls.call_function_entry kind_sorted plain_sorted entry_sorted (args_sorted1 _) ?_
  unfold Builtin.«sorted»
  refine wpAny_bind (m := checkCount "sorted" 1 1 _) (wpAny_pure ?_)
  refine wpAny_bind (hcol _ _ fun z1 vs m1 r => wpAny_bind (wpAny_newList ?_ (len64 (r.len ▸ sortM_len e))))
  have hoL : (z1.s.heap.push (seqObj "list" vs.toArray 0)).get? z1.sz = some (seqObj "list" vs.toArray 0) := Heap.get?_push_size _ rfl
  have hD : Free z1.s.heap z1.sz := free_size _
  show wpAny _ _ _ _ _ { z1.s with heap := z1.s.heap.push (seqObj "list" vs.toArray 0) }
  refine wpAny_bind (wpAny_holding (wpAny_call_entry slot_list_sort ⟨_, hoL, rfl⟩ entry_list_sort (sort_at (s := { z1.s with heap := z1.s.heap.push (seqObj "list" vs.toArray 0) }) (ρ := z1.ρ) (Nat.lt_of_le_of_lt (Nat.add_le_add (show A.units + 2 ≤ A.units + 10 * n + 20 - 6 from Nat.le_sub_of_add_le (Nat.le_trans (Nat.add_le_add_left (by decide : 2 + 6 ≤ 20) _) (Nat.add_le_add_right (Nat.le_add_right _ _) _))) (Nat.le_refl 6)) (Nat.lt_of_le_of_lt (Nat.le_of_eq (Nat.sub_add_cancel (Nat.le_trans (by decide : 6 ≤ 20) (Nat.le_add_left _ _)))) rm.u)) hoL ((show Up z1.p ⟨z1.s.heap.push (seqObj "list" vs.toArray 0), z1.ρ⟩ from ⟨fun a o _ e => push_keep a o e, fun _ _ e => e⟩).vs r) e fun out ro => ⟨_, rfl, ?_⟩) (args_list_sort _)))
  refine wpAny_pure ⟨_, rfl, ?_⟩
  refine (sortedHeap_at (out := out.toArray) hoL).elim fun ep hat => ?_
  refine (moreE (z := z1) (t := z1.s.toks) (h := sortedHeap (z1.s.heap.push (seqObj "list" vs.toArray 0)) z1.sz vs out.toArray) fun a o q => (sortedHeap_old (Live.ne ⟨o, q⟩ hD) (Heap.lt_size (push_keep a o q))).trans (push_keep a o q)).elim fun z2 g => ?_
  have hat2 : z2.s.heap.get? z1.sz = some (lstObj out ep) := g.2.1 ▸ hat
  have u : Up ⟨z1.s.heap.push (seqObj "list" vs.toArray 0), z1.ρ⟩ z2.p := by
    have := up_but (ρ := z1.ρ) hoL fun a o hne q => (sortedHeap_old (vs := vs) (out := out.toArray) hne (Heap.lt_size q)).trans q
    rw [← g.2.1] at this
    exact ⟨this.imm, fun l a e => (congrArg (fun r : Rho => r[l]?) g.1.ρ).trans e⟩
  have fD : Free z.s.heap z1.sz := m1.n.free hD
  have nD : z1.sz ∉ z2.ρ := g.1.ρ ▸ z1.out hD
  have m : MRel d0 ⟨z2.s.heap, z2.ρ ++ [z1.sz]⟩ z1.sz (.lst ys) := ⟨out, ep, hat2, (Up.more (h := z2.s.heap) [z1.sz]).vs (u.vs ro)⟩
  exact (g.2.2 ▸ k (z2.reg z1.sz (.lst ys) nD (z.base fD) m) _ (.ref z1.sz) ((m1.n.trans g.1.n).reg fD) (.ref (z2.st.len ▸ at_end _ _)) (by show Q (.ref z2.σ.length) (z2.σ ++ [.lst ys]); rw [g.1.σ, m1.σ]; exact h) : P (.ref z1.sz) { z1.s with heap := sortedHeap (z1.s.heap.push (seqObj "list" vs.toArray 0)) z1.sz vs out.toArray })
theorem key_rel {p : Pt} {k : FV} {v : Value} (h : d0.fk.is k v = true) : VRel p k v := keyVE (P := fun v k => VRel p k v) (of_decide_eq_true h) (fun _ _ => .int) fun _ _ => .str
theorem keys_of {p : Pt} {kvs : List (FV × FV)} {vs : List (FV × Value)} (q : F2 (KV p) kvs vs) : ∀ {acc : List Value}, acc.length = vs.length → (∀ (j : Nat) (v : Value), acc[j]? = some v → ∃ (k : FV) (x : Value), vs[j]? = some (k, x) ∧ d0.fk.is k v = true) → F2 (VRel p) (kvs.map (·.1)) acc := by
  induction q with
  | nil => exact fun {acc} hl _ => List.length_eq_zero_iff.mp hl ▸ .nil
  | @cons a b as bs r _ ih =>
    intro acc hl hv
    cases acc with
    | nil => exact nomatch hl
    | cons u acc => exact .cons ((hv 0 u rfl).elim fun k h => h.elim fun x h => (show VRel p a.1 u from r.1.symm ▸ key_rel ((congrArg Prod.fst (Option.some.inj h.1) : b.1 = k).symm ▸ h.2))) (ih (Nat.succ.inj hl) fun j v h => hv (j + 1) v h)
theorem sorted_ok {v : Value} {x : FV} (rm : Room n A) (r : V z x v) (h : SomeP (refOf x) fun l => look l sortedO Q z.σ) (k : KP V z Q P) : W A (call (.builtin "sorted") [v]) P z.s :=
  refE (G := fun x => V z x v → _) h (fun l h r => r.refE fun a e => lookE e h fun o m h => by
    induction o using MO.casesOn with
    | lst xs =>
      exact SomeP.on h fun ys e2 h => m.elim fun vs m => m.elim fun n m => sorted_core rm e2 h k fun E R hR => by
        refine collect_list (isLstO m.1) ?_ (len64 (m.2.len ▸ sortM_len e2))
        refine (moreE (z := z) (t := z.s.toks) (h := (z.s.heap.push (seqObj "list" #[] 0)).update z.sz (Obj.mapSeq (· ++ vs.toArray))) fun a o q => (Heap.get?_update_ne _ _ _ _ (Live.ne ⟨o, q⟩ (free_size _))).trans (push_keep a o q)).elim fun z1 g => ?_
        exact (g.2.2 ▸ hR z1 vs g.1 (g.1.n.vs m.2) : R vs { z.s with heap := (z.s.heap.push (seqObj "list" #[] 0)).update z.sz (Obj.mapSeq (· ++ vs.toArray)) })
    | dct kvs =>
      exact SomeP.on h.q fun ys e2 h' => by
        have hm : ∃ vs, z.s.heap.DictOf d0.fk a vs ∧ F2 (KV z.p) kvs vs := ((Bool.or_eq_true _ _).mp h.b).elim (fun q => asA (k := .int 0) m (show (true && _) = true from q) (fun e => nomatch e)) fun q => asA (k := .str ⟨#[]⟩) m (show (true && _) = true from q) (fun e => nomatch e)
        refine hm.elim fun vs hm => hm.1.dictAt.elim fun ep hat => sorted_core rm e2 h' k fun E R hR => ?_
        refine kdu_collect (kdl_dict (knd := d0.fk) (kvs := vs) (ep := ep) (z.sys (List.mem_of_getElem? e))) rm.h hat (len64 (hm.2.len ▸ (List.length_map (as := kvs) (·.1)) ▸ sortM_len e2)) fun h' tk acc hkeep hacc => ?_
        refine (moreE (z := z) (t := tk) hkeep).elim fun z1 g => ?_
        exact (g.2.2 ▸ hR z1 acc.toList g.1 (keys_of (hm.2.mono fun _ _ r => ⟨r.1, g.1.n.v r.2⟩) (Array.length_toList.trans hacc.1) fun j v hj => hacc.2 j v (Array.getElem?_toList.symm.trans hj)) : R acc.toList { z.s with heap := h', toks := tk })
    | _ => exact h.elim) r
theorem builtin_ok {id : String} {vs : List Value} {xs : List FV} (rm : Room n A) (r : Vs z xs vs) (h : builtinM id xs Q z.σ) (k : KP V z Q P) : W A (call (.builtin id) vs) P z.s := by
  match xs, h with
  | [x], h =>
    refine r.oneE fun v r => ?_
    by_cases c : id = "len"
    · rw [show builtinM id [x] = _ from if_pos c] at h
      rw [c]; exact len_ok r h k
    · rw [show builtinM id [x] = _ from if_neg c] at h
      by_cases c : id = "sorted"
      · rw [if_pos c] at h
        rw [c]; exact sorted_ok rm r h k
      · rw [if_neg c] at h; exact h.elim
theorem type_ok {id : String} {vs : List Value} {xs : List FV} (r : Vs z xs vs) (h : typeM id xs Q z.σ) (k : KP V z Q P) : W A (call (.type id) vs) P z.s := by
  match xs, h with
  | [x], h =>
    refine r.oneE fun v r => ?_
    by_cases c : id = "range"
    · rw [show typeM id [x] = _ from if_pos c] at h
      rw [c]
      exact intE (G := fun x => V z x v → _) h (fun i h r => r.intE fun t => call_range_1 (k (z.to _ (z.s.toks + 1 + 1) push_keep) _ _ .to (show VRel _ (.rng 0 i) _ from ⟨_, _, _, _, rfl, IsRange.new ..⟩) h)) r
    · rw [show typeM id [x] = _ from if_neg c] at h
      by_cases c : id = "tuple"
      · rw [if_pos c] at h
        rw [c]
        induction x using FV.casesOn with
        | ref l => exact r.refE fun a e => lookL e h fun xs vs n g q h => call_tuple_list (isLstO g) (fun h' hk => k (z.to (h'.push { cls := .type "tuple", data := .seq vs.toArray }) z.s.toks fun a o e => push_keep a o (hk a o e)) _ _ .to (.tup (vs := vs) (n := 0) (Heap.get?_push_size _ rfl) ((Nx.to (F := [])).vs q)) h.q) (line_of (show vs.toArray.size ≤ 1000000 from Nat.le_trans (Nat.le_of_eq q.len.symm) h.d))
        | tup xs => exact r.tupE fun a n vs g q => call_tuple_same (isTupO g) (k.now (.tup g q) h)
        | _ => exact h.elim
      · rw [if_neg c] at h; exact h.elim
end
noncomputable def CodeOk (n : Nat) : Prop := ∀ {A : Around} {z : Z} {a : Addr} {args : List FV} {vs : List Value} {Q : FV → Store → Prop} {R : Result → Shared → Prop}, Room n A → Vs z args vs → run d0.X n (.st (.ref a)) args Q z.σ → KP V z Q (fun v => R (.ok (.ret v))) → codeAny (model d0.prog d0.w) A (.call (.ref a) ⟨vs, []⟩) R z.s
section
variable {z : Z} {n : Nat} {A : Around}
theorem made {C : Addr} : ∃ z2 : Z, Nx [] z z2 ∧ z2.σ = z.σ ++ [.att []] ++ [.ins C z.σ.length] ∧ V z2 (.ref (z.σ.length + 1)) (.ref (z.sz + 1)) ∧ z2.s = { z.s with heap := (z.s.heap.push emptyDict).push (instObj C z.sz) } := by
  have m1 : MRel d0 ⟨z.s.heap.push emptyDict, z.ρ ++ [z.sz]⟩ z.sz (.att []) := ⟨[], 0, Heap.get?_push_size _ rfl, .nil⟩
  have N1 : Nx [] z (z.new emptyDict z.s.toks (.att []) m1) := .new
  have hz : (z.new emptyDict z.s.toks (.att []) m1).sz = z.sz + 1 := size_push' _ _
  have m2 : MRel d0 ⟨(z.s.heap.push emptyDict).push (instObj C z.sz), (z.ρ ++ [z.sz]) ++ [(z.new emptyDict z.s.toks (.att []) m1).sz]⟩ (z.new emptyDict z.s.toks (.att []) m1).sz (.ins C z.σ.length) :=
    ⟨z.sz, (Up.more (h := z.s.heap) _).pre _ _ (z.st.len ▸ at_end _ _), Heap.get?_push_size _ rfl⟩
  have r : V ((z.new emptyDict z.s.toks (.att []) m1).new (instObj C z.sz) z.s.toks (.ins C z.σ.length) m2) (.ref (z.σ ++ [MO.att []]).length) (.ref (z.new emptyDict z.s.toks (.att []) m1).sz) := Z.new_ref
  rw [hz, List.length_append] at r
  exact ⟨_, N1.trans .new, rfl, r, rfl⟩
theorem under_room {a : Addr} {vs : List Value} (h : Room (n + 1) A) : Room n (A.under (.builtin "type.__call__" ⟨.ref a :: vs, []⟩)) :=
  ⟨h.h, Nat.lt_of_le_of_lt (show A.units + 1 + 10 * n + 20 ≤ A.units + 10 * (n + 1) + 20 by lia) h.u, Nat.lt_of_le_of_lt (show A.depth + 1 + 3 * n + 3 ≤ A.depth + 3 * (n + 1) + 3 by lia) h.d⟩
theorem oi_code {A : Around} {h : Heap} {C dx : Addr} {R : Result → Shared → Prop} {s : Shared} (Y : Makes (model d0.prog d0.w) h C) (kk : ∀ c o, h.get? c = some o → s.heap.get? c = some o) {x : Addr} (hx : s.heap.get? x = some (instObj C dx)) (q : R (.ok (.ret .none)) s) :
    codeAny (model d0.prog d0.w) A (.call (.builtin "object.__init__") ⟨[.ref x], []⟩) R s := by
  have t2 : Looks (model d0.prog d0.w) s.heap (isInstance (.ref x) (.type "object")) true := ((Looks.ld hx).andThen .now : Looks (model d0.prog d0.w) s.heap (typeOf (.ref x)) (.ref C)).andThen (Y.top.keeps kk)
  obtain ⟨h', g, d, t, os⟩ := s
  refine codeAny_call_builtin oi_plain entry_oi (@check_slot (model d0.prog d0.w) _ _ _ "object.__init__" "object" "__init__" (.ref x) [] [] _ oi_kind oi_split t2 (oi_args (.ref x)) ?_)
  rw [oi_run]
  exact wpAny_pure q
theorem code_step (H : CallOk n) (C : CodeOk n) : CodeOk (n + 1) := fun {A z a args vs Q R} rm r h k => by
  have h : refM d0.X (run d0.X n) (n + 1) a args (d0.X.fn a) Q z.σ := h
  cases e : d0.X.fn a with
  | some p =>
    rw [e] at h
    exact (z.st.good.fn a p.1 p.2 e).2.elim fun o f => f.elim fun fd f => f.elim fun ps f => f.elim fun df f => f.elim fun body f => fn_ok' rm H f r h k
  | none =>
    rw [e] at h
    have g := z.st.good.cls a h.b
    have Y := makes_of (M := model d0.prog d0.w) z.inn g.2.1
    have h : clsM (run d0.X n) a args (d0.X.meth a "__init__") Q z.σ := h.q
    refine (made (z := z) (C := a)).elim fun z2 m => ?_
    cases i : d0.X.meth a "__init__" with
    | some f =>
      rw [i] at h
      have mo := and3 (z.st.good.meth _ _ _ i)
      refine make_core (h := z.s.heap) (g := z.s.gens) (d := z.s.drawn) (t := z.s.toks) (os := z.s.os) Y (looks_findIn z.inn (beq_iff_eq.mp mo.1.2)) (fun self => bind_fn z.inn self (beq_iff_eq.mp mo.2)) (.inl rfl) ?_
      refine m.2.2.2 ▸ C (z := z2) (args := .ref (z.σ.length + 1) :: args) (Q := madeK (z.σ.length + 1) Q) (under_room rm) (.cons m.2.2.1 (m.1.vs r)) (m.2.1.symm ▸ h) fun z3 y v N q h => ?_
      induction y using FV.casesOn with
      | none => exact q.noneE ⟨rfl, k z3 _ _ (m.1.trans N) (N.v m.2.2.1) h⟩
      | _ => exact h.elim
    | none =>
      rw [i] at h
      have h : On args.isEmpty (Q (.ref (z.σ.length + 1)) (z.σ ++ [.att []] ++ [.ins a z.σ.length])) := h
      have ea := List.isEmpty_iff.mp h.b
      subst ea
      refine r.nilE ?_
      refine make_core (h := z.s.heap) (g := z.s.gens) (d := z.s.drawn) (t := z.s.toks) (os := z.s.os) Y (looks_findIn z.inn (g.2.2 i)) (fun self => Looks.of_pure (oi_bind self)) (.inr ⟨rfl, rfl⟩) ?_
      have hx : ((z.s.heap.push emptyDict).push (instObj a z.sz)).get? (z.sz + 1) = some (instObj a z.sz) := by
        have := Heap.get?_push_size (h := z.s.heap.push emptyDict) (o := instObj a z.sz) rfl
        rw [size_push'] at this
        exact this
      refine oi_code Y (fun c o e => push_keep c o (push_keep c o e)) hx ⟨rfl, ?_⟩
      exact (m.2.2.2 ▸ k z2 _ _ m.1 m.2.2.1 (m.2.1.symm ▸ h.q) : R (.ok (.ret (.ref (z.sz + 1)))) { z.s with heap := (z.s.heap.push emptyDict).push (instObj a z.sz) })
theorem run_ok : ∀ n, CallOk n ∧ CodeOk n
  | 0 => ⟨fun _ _ _ h _ => h.elim, fun _ _ h _ => h.elim⟩
  | n + 1 => by
    have C : CodeOk (n + 1) := code_step (run_ok n).1 (run_ok n).2
    refine ⟨fun {A z f args v vs Q P} rm rf r h k => ?_, C⟩
    induction f using FV.casesOn with
    | st v =>
      refine rf.stE ?_
      induction v using Value.casesOn with
      | builtin id => exact builtin_ok rm r h k
      | type id => exact type_ok r h k
      | ref a => exact wpAny_call (C rm r h fun z' y v N r h => k z' y v N r h)
      | _ => exact h.elim
    | _ => exact h.elim
theorem final_ (g : Good d0) : Final d0 := fun n A f R rm h k => by
  have at_ : ∀ (l : Nat) a o, [d0.k, d0.l][l]? = some a → ([.dct d0.kf, .lst d0.xs] : Store)[l]? = some o → MRel d0 ⟨d0.s.heap, [d0.k, d0.l]⟩ a o := fun l a o e1 e2 => by
    match l, e1, e2 with
    | 0, e1, e2 => exact Option.some.inj e1 ▸ Option.some.inj e2 ▸ g.k0
    | 1, e1, e2 => exact Option.some.inj e1 ▸ Option.some.inj e2 ▸ g.l0
    | l + 2, e1, e2 => exact noS e1
  have st : St d0.s [d0.k, d0.l] [.dct d0.kf, .lst d0.xs] := ⟨g, rfl, List.nodup_cons.mpr ⟨fun m => g.kl (List.mem_singleton.mp m), List.nodup_cons.mpr ⟨List.not_mem_nil, List.nodup_nil⟩⟩, at_, fun _ _ e => e, (fun _ h => nomatch h), rfl, rfl, ⟨_, _, rfl⟩⟩
  exact (run_ok n).2 (z := ⟨d0.s, [d0.k, d0.l], [.dct d0.kf, .lst d0.xs], st⟩) rm (.cons (.ref rfl) .nil) h fun z y v N r e => by
    have e : y = .bool true := e
    subst e
    exact r.boolE (k z.s z.st.keep z.st.same)
theorem final (d : D) (g : Good d) : Final d := all_of final_ d g
end
end
section
set_option maxHeartbeats 0
set_option backward.match.sparseCases true
noncomputable def pwT : Program := by
  haveI h : PySem.Challenge.pw_sa0403_01 = ?p := by
    unfold PySem.Challenge.pw_sa0403_01
    simp only [Str.ofString_eq_toList, String.reduceToList, List.map_cons, List.map_nil, Char.reduceToNat]
    rfl
  exact ?p
theorem pw_eq : PySem.Challenge.pw_sa0403_01 = pwT := by kernel_rfl
noncomputable def rwT : OpenLaw := { prog := pwT, name := ⟨#[108, 97, 119]⟩, about := [⟨#[114, 101, 115, 116, 95, 111, 98, 106, 101, 99, 116]⟩], foot := 15, most := some 63, bound := none, writes := false }
theorem rw_eq : PySem.Challenge.rw_sa0403_01 = rwT := by
  unfold PySem.Challenge.rw_sa0403_01 rwT
  rw [pw_eq]
  rfl
end
section
set_option backward.match.sparseCases true
noncomputable def stm (i : Nat) : Stmt := pwT.main.body.getD i (.Pass ⟨0, 0, 0, 0⟩)
noncomputable def sub (i j : Nat) : Stmt := match stm i with
  | .ClassDef _ _ _ b _ _ _ _ _ _ _ => b.getD j (.Pass ⟨0, 0, 0, 0⟩)
  | s => s
noncomputable def fArgs : Stmt → Arguments
  | .FunctionDef _ a _ _ _ _ _ _ _ _ => a
  | _ => ⟨[], [], none, [], [], none, []⟩
noncomputable def fBody : Stmt → List Stmt
  | .FunctionDef _ _ b _ _ _ _ _ _ _ => b
  | _ => []
noncomputable def fScope : Stmt → Scope
  | .FunctionDef _ _ _ _ _ _ s _ _ _ => s
  | _ => ⟨.function, [], false, false, []⟩
end
noncomputable def globL : List (PySem.Str × FV) := [(⟨#[65, 78, 89]⟩, .int 0),
 (⟨#[66, 111, 117, 110, 100, 72, 111, 115, 116]⟩, .st (.ref 738)),
 (⟨#[68, 95, 67, 76, 65, 83, 83]⟩, .int 1),
 (⟨#[68, 95, 73, 78, 84, 69, 82, 70, 65, 67, 69]⟩, .int 2),
 (⟨#[68, 101, 99, 108]⟩, .st (.ref 264)),
 (⟨#[68, 105, 97, 103]⟩, .st (.ref 106)),
 (⟨#[68, 105, 97, 103, 115]⟩, .st (.ref 140)),
 (⟨#[69, 77, 80, 84, 89]⟩, .int 11),
 (⟨#[69, 82, 82]⟩, .int 13),
 (⟨#[70, 65, 76, 83, 69, 95, 84]⟩, .int 8),
 (⟨#[70, 65, 77, 95, 79, 66, 74]⟩, .int 7),
 (⟨#[70, 65, 77, 95, 79, 84, 72, 69, 82]⟩, .int 0),
 (⟨#[70, 65, 77, 95, 83, 84, 82]⟩, .int 1),
 (⟨#[70, 73, 82, 83, 84, 95, 82, 79, 87, 83]⟩, .tup [.tup [.int 1, .str ⟨#[97, 110, 121]⟩], .tup [.int 1, .str ⟨#[117, 110, 107, 110, 111, 119, 110]⟩], .tup [.int 1, .str ⟨#[110, 101, 118, 101, 114]⟩], .tup [.int 1, .str ⟨#[118, 111, 105, 100]⟩], .tup [.int 1, .str ⟨#[117, 110, 100, 101, 102, 105, 110, 101, 100]⟩], .tup [.int 1, .str ⟨#[110, 117, 108, 108]⟩], .tup [.int 1, .str ⟨#[115, 116, 114, 105, 110, 103]⟩], .tup [.int 1, .str ⟨#[110, 117, 109, 98, 101, 114]⟩], .tup [.int 2, .int 0, .int 0], .tup [.int 2, .int 1, .int 0], .tup [.int 1, .str ⟨#[111, 98, 106, 101, 99, 116]⟩], .tup [.int 8, .tup [], .tup [], .tup [], .tup [], .tup [], .int 0], .tup [.int 6, .tup [.int 8, .int 9]], .tup [.int 1, .str ⟨#[101, 114, 114, 111, 114]⟩], .tup [.int 2, .int 0, .int 1], .tup [.int 2, .int 1, .int 1]]),
 (⟨#[70, 82, 69, 83, 72, 95, 70]⟩, .int 14),
 (⟨#[70, 82, 69, 83, 72, 95, 84]⟩, .int 15),
 (⟨#[70, 117, 110, 99, 82, 117, 108, 101]⟩, .st (.ref 988)),
 (⟨#[71, 105, 118, 101, 114]⟩, .st (.ref 939)),
 (⟨#[71, 117, 97, 114, 100]⟩, .st (.ref 771)),
 (⟨#[74, 117, 100, 103, 101]⟩, .st (.ref 883)),
 (⟨#[75, 69, 89, 95, 70, 65, 77, 73, 76, 73, 69, 83]⟩, .ref 0),
 (⟨#[75, 95, 66, 73, 78, 68]⟩, .int 36),
 (⟨#[76, 73, 83, 84, 95, 82, 79, 87, 83]⟩, .tup [.int 11, .int 12]),
 (⟨#[77, 65, 82, 75, 69, 68, 95, 82, 79, 87, 83]⟩, .tup [.int 2, .int 3, .int 4, .int 5, .int 8]),
 (⟨#[77, 65, 88, 95, 85, 78, 73, 79, 78]⟩, .int 400),
 (⟨#[77, 79, 83, 84, 95, 66, 79, 85, 78, 68, 83]⟩, .int 12),
 (⟨#[77, 79, 83, 84, 95, 80, 76, 65, 73, 78]⟩, .int 40),
 (⟨#[77, 79, 83, 84, 95, 82, 79, 85, 78, 68, 83]⟩, .int 200),
 (⟨#[77, 79, 83, 84, 95, 83, 72, 65, 80, 69, 83]⟩, .int 40),
 (⟨#[78, 69, 86, 69, 82]⟩, .int 2),
 (⟨#[78, 85, 76, 76, 84]⟩, .int 5),
 (⟨#[78, 85, 77, 66, 69, 82]⟩, .int 7),
 (⟨#[78, 111, 100, 101]⟩, .st (.ref 703)),
 (⟨#[78, 111, 116, 101, 115]⟩, .st (.ref 182)),
 (⟨#[79, 66, 74, 69, 67, 84, 84]⟩, .int 10),
 (⟨#[79, 66, 74, 69, 67, 84, 95, 82, 79, 87, 83]⟩, .tup [.int 8, .int 9, .int 11, .int 12, .int 13]),
 (⟨#[79, 80, 69, 78, 95, 80, 65, 82, 84, 83]⟩, .tup [.int 10, .int 15, .int 16, .int 19, .int 7]),
 (⟨#[79, 80, 69, 78, 95, 82, 79, 87, 83]⟩, .tup [.int 10, .int 15, .int 16, .int 14]),
 (⟨#[80, 76, 65, 73, 78, 95, 82, 79, 87, 83]⟩, .tup [.int 1, .int 2, .int 3, .int 4, .int 5]),
 (⟨#[80, 95, 65, 67, 67, 69, 83, 83]⟩, .int 64),
 (⟨#[80, 95, 71, 69, 84, 79, 78, 76, 89]⟩, .int 32),
 (⟨#[80, 95, 77, 69, 84, 72, 79, 68]⟩, .int 4),
 (⟨#[80, 95, 79, 80, 84]⟩, .int 1),
 (⟨#[80, 95, 80, 82, 73, 86, 65, 84, 69]⟩, .int 8),
 (⟨#[80, 95, 80, 82, 79, 84, 69, 67, 84, 69, 68]⟩, .int 16),
 (⟨#[80, 95, 82, 69, 65, 68, 79, 78, 76, 89]⟩, .int 2),
 (⟨#[80, 97, 116, 116, 101, 114, 110, 115]⟩, .st (.ref 918)),
 (⟨#[80, 108, 97, 99, 101, 115]⟩, .st (.ref 967)),
 (⟨#[82, 111, 97, 100, 115]⟩, .st (.ref 799)),
 (⟨#[83, 84, 82, 73, 78, 71]⟩, .int 6),
 (⟨#[83, 104, 101, 101, 116]⟩, .st (.ref 1170)),
 (⟨#[84, 82, 85, 69, 95, 84]⟩, .int 9),
 (⟨#[84, 121, 112, 101, 84, 97, 98, 108, 101]⟩, .st (.ref 243)),
 (⟨#[85, 78, 68, 69, 70]⟩, .int 4),
 (⟨#[85, 78, 75, 78, 79, 87, 78]⟩, .int 1),
 (⟨#[85, 95, 83, 80, 82, 69, 65, 68]⟩, .int 13),
 (⟨#[86, 79, 73, 68]⟩, .int 3),
 (⟨#[89, 95, 65, 82, 82, 65, 89]⟩, .int 11),
 (⟨#[89, 95, 66, 79, 79, 76]⟩, .int 2),
 (⟨#[89, 95, 69, 78, 85, 77]⟩, .int 5),
 (⟨#[89, 95, 73, 78, 84, 69, 82]⟩, .int 7),
 (⟨#[89, 95, 75, 69, 89]⟩, .int 1),
 (⟨#[89, 95, 78, 85, 77]⟩, .int 4),
 (⟨#[89, 95, 79, 66, 74]⟩, .int 8),
 (⟨#[89, 95, 80, 65, 82, 65, 77]⟩, .int 10),
 (⟨#[89, 95, 82, 69, 70]⟩, .int 9),
 (⟨#[89, 95, 83, 73, 71]⟩, .int 13),
 (⟨#[89, 95, 83, 84, 82]⟩, .int 3),
 (⟨#[89, 95, 84, 80, 76]⟩, .int 18),
 (⟨#[89, 95, 84, 85, 80, 76, 69]⟩, .int 12),
 (⟨#[89, 95, 85, 78, 73, 79, 78]⟩, .int 6),
 (⟨#[95, 108, 97, 119, 95, 97, 116, 111, 109, 115]⟩, .st (.ref 1214)),
 (⟨#[95, 108, 97, 119, 95, 107, 105, 110, 100]⟩, .st (.ref 1219)),
 (⟨#[95, 108, 97, 119, 95, 107, 110, 111, 119, 110]⟩, .st (.ref 1226)),
 (⟨#[95, 108, 97, 119, 95, 109, 97, 115, 107]⟩, .st (.ref 1233)),
 (⟨#[95, 108, 97, 119, 95, 109, 97, 115, 107, 115]⟩, .tup [.int 64, .int 128, .int 16, .int 32, .int 192, .int 12, .int 4, .int 2, .int 1, .int 65, .int 304, .int 704, .int 2047, .int 6143, .int 2048, .int 0, .int 80]),
 (⟨#[95, 108, 97, 119, 95, 111, 110, 99, 101]⟩, .st (.ref 1240)),
 (⟨#[95, 108, 97, 119, 95, 111, 112, 101, 110, 101, 100]⟩, .st (.ref 1254)),
 (⟨#[95, 108, 97, 119, 95, 112, 97, 100]⟩, .tup [.int 1, .int 0, .int 0, .int 5, .int 1, .int 4, .int 8]),
 (⟨#[95, 108, 97, 119, 95, 112, 97, 114, 116, 115]⟩, .st (.ref 1259)),
 (⟨#[95, 108, 97, 119, 95, 112, 105, 101, 99, 101, 115]⟩, .st (.ref 1264)),
 (⟨#[95, 108, 97, 119, 95, 114, 101, 115, 116]⟩, .st (.ref 1269)),
 (⟨#[95, 108, 97, 119, 95, 115, 104, 97, 112, 101]⟩, .st (.ref 1274)),
 (⟨#[95, 108, 97, 119, 95, 116, 97, 107, 101]⟩, .st (.ref 1207)),
 (⟨#[95, 108, 97, 119, 95, 116, 104, 105, 110, 103]⟩, .st (.ref 1247)),
 (⟨#[97, 114, 114, 97, 121, 95, 116, 121, 112, 101]⟩, .st (.ref 314)),
 (⟨#[98, 111, 111, 108, 95, 116, 121, 112, 101]⟩, .st (.ref 299)),
 (⟨#[98, 111, 117, 110, 100, 95, 111, 102]⟩, .st (.ref 605)),
 (⟨#[101, 108, 101, 109, 95, 111, 102]⟩, .st (.ref 622)),
 (⟨#[101, 108, 101, 109, 95, 116, 121, 112, 101]⟩, .st (.ref 628)),
 (⟨#[102, 97, 109, 105, 108, 121]⟩, .st (.ref 435)),
 (⟨#[102, 105, 110, 97, 108, 95, 112, 97, 114, 116, 115]⟩, .st (.ref 444)),
 (⟨#[105, 115, 95, 109, 97, 100, 101]⟩, .st (.ref 656)),
 (⟨#[106, 111, 105, 110, 95, 98, 111, 111, 108, 115]⟩, .st (.ref 390)),
 (⟨#[107, 105, 110, 100, 95, 111, 102]⟩, .st (.ref 275)),
 (⟨#[108, 97, 119]⟩, .st (.ref 1279)),
 (⟨#[108, 101, 97, 102]⟩, .st (.ref 714)),
 (⟨#[108, 101, 110]⟩, .st (.builtin "len")),
 (⟨#[110, 101, 119, 95, 100, 101, 99, 108]⟩, .st (.ref 362)),
 (⟨#[110, 101, 119, 95, 112, 97, 114, 97, 109]⟩, .st (.ref 355)),
 (⟨#[110, 111, 95, 111, 98, 106, 101, 99, 116]⟩, .st (.ref 670)),
 (⟨#[110, 117, 109, 95, 116, 121, 112, 101]⟩, .st (.ref 291)),
 (⟨#[111, 98, 106, 95, 116, 121, 112, 101]⟩, .st (.ref 331)),
 (⟨#[111, 112, 101, 110, 95, 107, 105, 110, 100]⟩, .st (.ref 649)),
 (⟨#[112, 97, 114, 116, 115, 95, 111, 102]⟩, .st (.ref 369)),
 (⟨#[112, 108, 97, 105, 110, 95, 115, 104, 97, 112, 101]⟩, .st (.ref 451)),
 (⟨#[114, 97, 110, 103, 101]⟩, .st (.type "range")),
 (⟨#[114, 101, 102, 95, 116, 121, 112, 101]⟩, .st (.ref 306)),
 (⟨#[114, 101, 103, 117, 108, 97, 114, 95, 116, 119, 105, 110]⟩, .st (.ref 383)),
 (⟨#[114, 101, 115, 116, 95, 111, 98, 106, 101, 99, 116]⟩, .st (.ref 680)),
 (⟨#[114, 101, 115, 116, 95, 112, 114, 111, 112, 115]⟩, .st (.ref 675)),
 (⟨#[114, 111, 119, 95, 101, 108, 101, 109]⟩, .st (.ref 617)),
 (⟨#[115, 101, 101, 110, 95, 107, 105, 110, 100]⟩, .st (.ref 641)),
 (⟨#[115, 101, 101, 110, 95, 112, 97, 114, 116, 115]⟩, .st (.ref 634)),
 (⟨#[115, 105, 103, 95, 116, 121, 112, 101]⟩, .st (.ref 340)),
 (⟨#[115, 111, 114, 116, 101, 100]⟩, .st (.builtin "sorted")),
 (⟨#[115, 111, 114, 116, 101, 100, 95, 112, 114, 111, 112, 115]⟩, .st (.ref 319)),
 (⟨#[115, 112, 114, 101, 97, 100, 95, 114, 111, 119, 115]⟩, .st (.ref 663)),
 (⟨#[115, 116, 97, 121, 115, 95, 98, 101, 115, 105, 100, 101]⟩, .st (.ref 397)),
 (⟨#[115, 116, 114, 95, 116, 121, 112, 101]⟩, .st (.ref 283)),
 (⟨#[116, 111, 112, 95, 111, 102]⟩, .st (.ref 404)),
 (⟨#[116, 117, 112, 108, 101]⟩, .st (.type "tuple")),
 (⟨#[117, 110, 105, 111, 110]⟩, .st (.ref 409)),
 (⟨#[119, 104, 111, 108, 101, 95, 111, 102, 95, 114, 111, 119]⟩, .st (.ref 376))]
noncomputable def fnL : List (Addr × Stmt × List FV) := [(1006, sub 140 0, []),
 (103, sub 6 1, []),
 (1069, sub 140 9, []),
 (1076, sub 140 10, []),
 (1090, sub 140 12, []),
 (1207, stm 148, []),
 (1214, stm 149, []),
 (1219, stm 150, []),
 (1226, stm 151, []),
 (1233, stm 152, []),
 (1240, stm 153, []),
 (1247, stm 154, []),
 (125, sub 7 0, [.str ⟨#[]⟩]),
 (1254, stm 155, []),
 (1259, stm 156, []),
 (1264, stm 157, []),
 (1269, stm 158, []),
 (1274, stm 159, []),
 (1279, stm 160, []),
 (132, sub 7 1, []),
 (158, sub 8 0, []),
 (165, sub 8 1, []),
 (226, sub 67 0, []),
 (240, sub 67 2, []),
 (261, sub 68 0, []),
 (275, stm 69, []),
 (283, stm 70, [.int 0]),
 (291, stm 71, [.int 0]),
 (299, stm 72, [.int 0]),
 (306, stm 73, []),
 (314, stm 74, [.int 0]),
 (319, stm 75, []),
 (331, stm 76, [.tup [], .tup [], .tup [], .tup [], .int 0]),
 (340, stm 77, [.tup [], .int 0]),
 (355, stm 79, [.int (-1), .int (-1)]),
 (362, stm 80, []),
 (369, stm 81, []),
 (376, stm 82, []),
 (383, stm 83, []),
 (390, stm 84, []),
 (397, stm 85, []),
 (404, stm 86, []),
 (409, stm 87, []),
 (435, stm 91, []),
 (444, stm 96, []),
 (451, stm 97, []),
 (465, sub 102 0, []),
 (472, sub 102 1, []),
 (605, stm 103, []),
 (617, stm 105, []),
 (622, stm 106, []),
 (628, stm 107, [.int 0]),
 (634, stm 111, []),
 (641, stm 112, []),
 (649, stm 115, []),
 (656, stm 117, []),
 (663, stm 118, []),
 (670, stm 120, []),
 (675, stm 121, []),
 (680, stm 122, []),
 (700, sub 127 0, []),
 (714, stm 128, []),
 (728, sub 130 0, []),
 (735, sub 130 1, []),
 (789, sub 134 0, []),
 (817, sub 135 0, []),
 (96, sub 6 0, [])]
noncomputable def methL : List ((Addr × PySem.Str) × Addr) := [((106, ⟨#[95, 95, 105, 110, 105, 116, 95, 95]⟩), 96),
 ((106, ⟨#[114, 111, 119]⟩), 103),
 ((1170, ⟨#[95, 95, 105, 110, 105, 116, 95, 95]⟩), 1006),
 ((1170, ⟨#[102, 97, 117, 108, 116]⟩), 1069),
 ((1170, ⟨#[110, 111, 116, 101]⟩), 1090),
 ((1170, ⟨#[116, 101, 108, 108]⟩), 1076),
 ((140, ⟨#[95, 95, 105, 110, 105, 116, 95, 95]⟩), 125),
 ((140, ⟨#[112, 117, 116]⟩), 132),
 ((182, ⟨#[95, 95, 105, 110, 105, 116, 95, 95]⟩), 158),
 ((182, ⟨#[112, 117, 116]⟩), 165),
 ((243, ⟨#[95, 95, 105, 110, 105, 116, 95, 95]⟩), 226),
 ((243, ⟨#[112, 117, 116]⟩), 240),
 ((264, ⟨#[95, 95, 105, 110, 105, 116, 95, 95]⟩), 261),
 ((703, ⟨#[95, 95, 105, 110, 105, 116, 95, 95]⟩), 700),
 ((738, ⟨#[95, 95, 105, 110, 105, 116, 95, 95]⟩), 465),
 ((738, ⟨#[98, 111, 117, 110, 100]⟩), 728),
 ((738, ⟨#[102, 111, 114, 99, 101]⟩), 472),
 ((738, ⟨#[115, 104, 97, 112, 101]⟩), 735),
 ((799, ⟨#[95, 95, 105, 110, 105, 116, 95, 95]⟩), 789),
 ((883, ⟨#[95, 95, 105, 110, 105, 116, 95, 95]⟩), 817)]
noncomputable def clsL : List Addr := [106, 1170, 140, 182, 243, 264, 703, 738, 771, 799, 883, 918, 939, 967, 988]
noncomputable def ownL : List (Addr × List PySem.Str) := [(140, [⟨#[102, 105, 108, 101]⟩, ⟨#[114, 111, 119, 115]⟩]),
 (703, [⟨#[97]⟩, ⟨#[97, 116]⟩, ⟨#[102, 108, 97, 103, 115]⟩, ⟨#[107, 105, 100, 115]⟩, ⟨#[107, 105, 110, 100]⟩, ⟨#[110, 105, 100]⟩]),
 (243, [⟨#[98, 111, 117, 110, 100, 115]⟩, ⟨#[100, 101, 99, 108, 115]⟩, ⟨#[100, 101, 102, 97, 117, 108, 116, 115]⟩, ⟨#[105, 110, 100, 101, 120]⟩, ⟨#[110, 97, 109, 101, 115]⟩, ⟨#[111, 114, 105, 103, 105, 110, 115]⟩, ⟨#[112, 117, 116, 116, 105, 110, 103]⟩, ⟨#[114, 101, 110, 97, 109, 101, 100]⟩, ⟨#[114, 111, 119, 115]⟩, ⟨#[115, 104, 97, 112, 105, 110, 103]⟩]),
 (738, [⟨#[100, 101, 101, 112]⟩, ⟨#[108, 105, 98]⟩, ⟨#[109, 111, 115, 116, 95, 100, 101, 101, 112]⟩, ⟨#[109, 111, 115, 116, 95, 114, 111, 117, 110, 100, 115]⟩, ⟨#[116, 97, 98]⟩]),
 (799, [⟨#[103, 105, 118, 101, 110]⟩]),
 (182, [⟨#[114, 111, 119, 115]⟩]),
 (106, [⟨#[97, 114, 103, 115]⟩, ⟨#[97, 116]⟩, ⟨#[102, 105, 108, 101]⟩, ⟨#[110, 117, 109, 98, 101, 114]⟩]),
 (883, [⟨#[103, 105, 118, 101, 110]⟩]),
 (1170, [⟨#[97, 115, 107, 101, 114]⟩, ⟨#[98, 97, 110, 103, 101, 100]⟩, ⟨#[98, 111, 117, 110, 100]⟩, ⟨#[98, 111, 117, 110, 100, 95, 100, 101, 99, 108, 115]⟩, ⟨#[98, 117, 115, 121]⟩, ⟨#[99, 97, 108, 108, 101, 100]⟩, ⟨#[99, 97, 108, 108, 101, 101, 115]⟩, ⟨#[99, 104, 97, 105, 110, 115]⟩, ⟨#[99, 111, 110, 115, 116, 95, 101, 110, 117, 109, 115]⟩, ⟨#[99, 111, 110, 115, 116, 115]⟩, ⟨#[100, 101, 99, 108, 97, 114, 101, 100]⟩, ⟨#[100, 101, 101, 112]⟩, ⟨#[100, 105, 97, 103, 115]⟩, ⟨#[100, 114, 97, 119, 110]⟩, ⟨#[100, 114, 111, 112, 112, 101, 100]⟩, ⟨#[101, 120, 112, 114, 115]⟩, ⟨#[102, 117, 110, 99, 95, 97, 116]⟩, ⟨#[102, 117, 110, 99, 115]⟩, ⟨#[103, 105, 118, 101, 114]⟩, ⟨#[103, 108, 111, 98, 97, 108, 115]⟩, ⟨#[103, 111, 116, 95, 98, 121]⟩, ⟨#[103, 114, 97, 112, 104]⟩, ⟨#[103, 117, 97, 114, 100]⟩, ⟨#[103, 117, 101, 115, 115, 101, 115]⟩, ⟨#[104, 101, 97, 100, 115]⟩, ⟨#[104, 111, 115, 116]⟩, ⟨#[105, 110, 105, 116, 115]⟩, ⟨#[105, 110, 115, 105, 100, 101]⟩, ⟨#[106, 117, 100, 103, 101]⟩, ⟨#[108, 97, 116, 101]⟩, ⟨#[108, 97, 116, 101, 114]⟩, ⟨#[108, 101, 110, 116]⟩, ⟨#[108, 111, 111, 112, 115]⟩, ⟨#[109, 97, 114, 107, 115]⟩, ⟨#[110, 97, 109, 101, 114]⟩, ⟨#[110, 111, 116, 101, 115]⟩, ⟨#[111, 119, 110, 101, 114, 115]⟩, ⟨#[112, 97, 105, 114, 101, 100]⟩, ⟨#[112, 97, 116, 116, 101, 114, 110, 115]⟩, ⟨#[112, 108, 97, 99, 101, 115]⟩, ⟨#[112, 114, 101, 115, 101, 116]⟩, ⟨#[114, 101, 97, 100, 121]⟩, ⟨#[114, 101, 116, 115]⟩, ⟨#[114, 111, 97, 100, 115]⟩, ⟨#[114, 111, 111, 116, 115]⟩, ⟨#[114, 111, 117, 110, 100, 115]⟩, ⟨#[115, 101, 108, 118, 101, 115, 95, 111, 102]⟩, ⟨#[115, 105, 103, 115]⟩, ⟨#[115, 111, 114, 116, 115]⟩, ⟨#[115, 116, 109, 116, 115]⟩, ⟨#[115, 116, 111, 112, 115]⟩, ⟨#[116, 97, 98]⟩, ⟨#[116, 97, 114, 103, 101, 116, 115]⟩, ⟨#[116, 104, 105, 115, 95, 111, 102]⟩, ⟨#[116, 111, 108, 100, 95, 110, 97, 109, 101, 115]⟩, ⟨#[116, 114, 97, 105, 108]⟩, ⟨#[116, 121, 112, 101, 115]⟩, ⟨#[117, 110, 100, 101, 114]⟩]),
 (264, [⟨#[97, 98, 115, 116, 114, 97, 99, 116]⟩, ⟨#[97, 116]⟩, ⟨#[98, 97, 115, 101, 115]⟩, ⟨#[98, 111, 100, 121]⟩, ⟨#[98, 117, 115, 121]⟩, ⟨#[100, 105, 100]⟩, ⟨#[101, 120, 116, 101, 110, 100, 115, 95, 99, 108, 97, 115, 115]⟩, ⟨#[102, 105, 108, 101]⟩, ⟨#[107, 105, 110, 100]⟩, ⟨#[109, 101, 109, 98, 101, 114, 115]⟩, ⟨#[110, 97, 109, 101]⟩, ⟨#[110, 105, 100]⟩, ⟨#[112, 97, 114, 97, 109, 115]⟩, ⟨#[115, 116, 97, 116, 105, 99]⟩, ⟨#[118, 97, 114, 105, 97, 110, 99, 101, 115]⟩])]
noncomputable def X : Ctx := ⟨fun x => globL.lookup x, fun a => fnL.lookup a, fun C n => methL.lookup (C, n), fun C => clsL.contains C, fun C a => ((ownL.lookup C).getD []).contains a⟩
noncomputable def store0 (xs ys : List FV) : Store := [
 .dct [(.int 3, .int 6), (.int 4, .int 5), (.int 5, .int 4), (.int 6, .int 1), (.int 7, .int 2), (.int 10, .int 7)],
 .lst xs,
 .lst ys,
 .lst [.int 0, .ref 2],
 .att [(⟨#[114, 111, 119, 115]⟩, .ref 6), (⟨#[105, 110, 100, 101, 120]⟩, .ref 7), (⟨#[100, 101, 99, 108, 115]⟩, .ref 8), (⟨#[98, 111, 117, 110, 100, 115]⟩, .ref 9), (⟨#[100, 101, 102, 97, 117, 108, 116, 115]⟩, .ref 10), (⟨#[110, 97, 109, 101, 115]⟩, .ref 11), (⟨#[111, 114, 105, 103, 105, 110, 115]⟩, .ref 12), (⟨#[114, 101, 110, 97, 109, 101, 100]⟩, .ref 13), (⟨#[115, 104, 97, 112, 105, 110, 103]⟩, .int 0), (⟨#[112, 117, 116, 116, 105, 110, 103]⟩, .int 0)],
 .ins 243 4,
 .lst [.tup [.int 1, .str ⟨#[97, 110, 121]⟩], .tup [.int 1, .str ⟨#[117, 110, 107, 110, 111, 119, 110]⟩], .tup [.int 1, .str ⟨#[110, 101, 118, 101, 114]⟩], .tup [.int 1, .str ⟨#[118, 111, 105, 100]⟩], .tup [.int 1, .str ⟨#[117, 110, 100, 101, 102, 105, 110, 101, 100]⟩], .tup [.int 1, .str ⟨#[110, 117, 108, 108]⟩], .tup [.int 1, .str ⟨#[115, 116, 114, 105, 110, 103]⟩], .tup [.int 1, .str ⟨#[110, 117, 109, 98, 101, 114]⟩], .tup [.int 2, .int 0, .int 0], .tup [.int 2, .int 1, .int 0], .tup [.int 1, .str ⟨#[111, 98, 106, 101, 99, 116]⟩], .tup [.int 8, .tup [], .tup [], .tup [], .tup [], .tup [], .int 0], .tup [.int 6, .tup [.int 8, .int 9]], .tup [.int 1, .str ⟨#[101, 114, 114, 111, 114]⟩], .tup [.int 2, .int 0, .int 1], .tup [.int 2, .int 1, .int 1], .tup [.int 10, .int 0], .tup [.int 4, .int 0, .int 0], .tup [.int 4, .int 1, .int 0], .tup [.int 3, .str ⟨#[97]⟩, .int 0], .tup [.int 3, .str ⟨#[98]⟩, .int 0]],
 .dct [(.tup [.int 1, .str ⟨#[97, 110, 121]⟩], .int 0), (.tup [.int 1, .str ⟨#[117, 110, 107, 110, 111, 119, 110]⟩], .int 1), (.tup [.int 1, .str ⟨#[110, 101, 118, 101, 114]⟩], .int 2), (.tup [.int 1, .str ⟨#[118, 111, 105, 100]⟩], .int 3), (.tup [.int 1, .str ⟨#[117, 110, 100, 101, 102, 105, 110, 101, 100]⟩], .int 4), (.tup [.int 1, .str ⟨#[110, 117, 108, 108]⟩], .int 5), (.tup [.int 1, .str ⟨#[115, 116, 114, 105, 110, 103]⟩], .int 6), (.tup [.int 1, .str ⟨#[110, 117, 109, 98, 101, 114]⟩], .int 7), (.tup [.int 2, .int 0, .int 0], .int 8), (.tup [.int 2, .int 1, .int 0], .int 9), (.tup [.int 1, .str ⟨#[111, 98, 106, 101, 99, 116]⟩], .int 10), (.tup [.int 8, .tup [], .tup [], .tup [], .tup [], .tup [], .int 0], .int 11), (.tup [.int 6, .tup [.int 8, .int 9]], .int 12), (.tup [.int 1, .str ⟨#[101, 114, 114, 111, 114]⟩], .int 13), (.tup [.int 2, .int 0, .int 1], .int 14), (.tup [.int 2, .int 1, .int 1], .int 15), (.tup [.int 10, .int 0], .int 16), (.tup [.int 4, .int 0, .int 0], .int 17), (.tup [.int 4, .int 1, .int 0], .int 18), (.tup [.int 3, .str ⟨#[97]⟩, .int 0], .int 19), (.tup [.int 3, .str ⟨#[98]⟩, .int 0], .int 20)],
 .lst [.none],
 .lst [.int (-1)],
 .lst [.int (-1)],
 .lst [.str ⟨#[80]⟩],
 .dct [],
 .dct [],
 .lst [.int 4, .int 5, .int 8, .int 9, .int 17, .int 18],
 .lst [.int 19, .int 20, .int 7, .int 6, .int 1, .int 16, .int 0],
 .lst [.int 4, .int 5, .int 8, .int 9, .int 17, .int 18, .int 19, .int 20, .int 7, .int 6, .int 1, .int 16, .int 0],
 .dct [(.int 13, .int 10239), (.int 4, .int 1), (.int 5, .int 2), (.int 8, .int 4), (.int 9, .int 8), (.int 17, .int 16), (.int 18, .int 32), (.int 19, .int 64), (.int 20, .int 128), (.int 7, .int 304), (.int 6, .int 704), (.int 1, .int 2047), (.int 16, .int 2048), (.int 0, .int 6143)],
 .att [(⟨#[116, 97, 98]⟩, .ref 5), (⟨#[100, 101, 101, 112]⟩, .int 0), (⟨#[109, 111, 115, 116, 95, 114, 111, 117, 110, 100, 115]⟩, .int 200), (⟨#[109, 111, 115, 116, 95, 100, 101, 101, 112]⟩, .int 40), (⟨#[108, 105, 98]⟩, .none)],
 .ins 738 18,
 .att [(⟨#[114, 111, 119, 115]⟩, .ref 22), (⟨#[102, 105, 108, 101]⟩, .str ⟨#[]⟩)],
 .ins 140 20,
 .lst [],
 .att [(⟨#[114, 111, 119, 115]⟩, .ref 25)],
 .ins 182 23,
 .lst [],
 .att [(⟨#[116, 97, 98]⟩, .ref 5), (⟨#[104, 111, 115, 116]⟩, .ref 19), (⟨#[98, 111, 117, 110, 100]⟩, .none), (⟨#[103, 114, 97, 112, 104]⟩, .none), (⟨#[110, 97, 109, 101, 114]⟩, .none), (⟨#[100, 105, 97, 103, 115]⟩, .ref 21), (⟨#[110, 111, 116, 101, 115]⟩, .ref 24), (⟨#[101, 120, 112, 114, 115]⟩, .ref 28), (⟨#[115, 116, 109, 116, 115]⟩, .ref 29), (⟨#[115, 111, 114, 116, 115]⟩, .ref 30), (⟨#[116, 121, 112, 101, 115]⟩, .ref 31), (⟨#[100, 101, 99, 108, 97, 114, 101, 100]⟩, .ref 32), (⟨#[98, 117, 115, 121]⟩, .ref 33), (⟨#[99, 97, 108, 108, 101, 100]⟩, .ref 34), (⟨#[99, 111, 110, 115, 116, 115]⟩, .ref 35), (⟨#[115, 105, 103, 115]⟩, .ref 36), (⟨#[98, 111, 117, 110, 100, 95, 100, 101, 99, 108, 115]⟩, .ref 37), (⟨#[105, 110, 115, 105, 100, 101]⟩, .ref 38), (⟨#[114, 101, 116, 115]⟩, .ref 39), (⟨#[99, 104, 97, 105, 110, 115]⟩, .ref 40), (⟨#[116, 114, 97, 105, 108]⟩, .ref 41), (⟨#[108, 97, 116, 101, 114]⟩, .ref 42), (⟨#[108, 97, 116, 101]⟩, .ref 43), (⟨#[116, 97, 114, 103, 101, 116, 115]⟩, .ref 44), (⟨#[103, 108, 111, 98, 97, 108, 115]⟩, .ref 45), (⟨#[108, 111, 111, 112, 115]⟩, .ref 46), (⟨#[114, 111, 111, 116, 115]⟩, .ref 47), (⟨#[105, 110, 105, 116, 115]⟩, .ref 48), (⟨#[112, 97, 105, 114, 101, 100]⟩, .ref 49), (⟨#[103, 111, 116, 95, 98, 121]⟩, .ref 50), (⟨#[117, 110, 100, 101, 114]⟩, .ref 51), (⟨#[100, 114, 97, 119, 110]⟩, .ref 52), (⟨#[108, 101, 110, 116]⟩, .ref 53), (⟨#[100, 114, 111, 112, 112, 101, 100]⟩, .ref 54), (⟨#[109, 97, 114, 107, 115]⟩, .ref 55), (⟨#[111, 119, 110, 101, 114, 115]⟩, .ref 56), (⟨#[116, 104, 105, 115, 95, 111, 102]⟩, .ref 57), (⟨#[102, 117, 110, 99, 95, 97, 116]⟩, .ref 58), (⟨#[115, 101, 108, 118, 101, 115, 95, 111, 102]⟩, .ref 59), (⟨#[114, 111, 117, 110, 100, 115]⟩, .ref 60), (⟨#[99, 97, 108, 108, 101, 101, 115]⟩, .ref 61), (⟨#[104, 101, 97, 100, 115]⟩, .ref 62), (⟨#[98, 97, 110, 103, 101, 100]⟩, .ref 63), (⟨#[116, 111, 108, 100, 95, 110, 97, 109, 101, 115]⟩, .ref 64), (⟨#[103, 117, 101, 115, 115, 101, 115]⟩, .ref 65), (⟨#[114, 101, 97, 100, 121]⟩, .int 0), (⟨#[99, 111, 110, 115, 116, 95, 101, 110, 117, 109, 115]⟩, .ref 66), (⟨#[112, 114, 101, 115, 101, 116]⟩, .ref 67), (⟨#[97, 115, 107, 101, 114]⟩, .none), (⟨#[115, 116, 111, 112, 115]⟩, .none), (⟨#[106, 117, 100, 103, 101]⟩, .ref 69), (⟨#[103, 117, 97, 114, 100]⟩, .ref 72), (⟨#[114, 111, 97, 100, 115]⟩, .ref 74), (⟨#[112, 97, 116, 116, 101, 114, 110, 115]⟩, .ref 77), (⟨#[103, 105, 118, 101, 114]⟩, .ref 79), (⟨#[102, 117, 110, 99, 115]⟩, .ref 81), (⟨#[112, 108, 97, 99, 101, 115]⟩, .ref 83), (⟨#[100, 101, 101, 112]⟩, .int 0)],
 .ins 1170 26,
 .dct [],
 .dct [],
 .dct [],
 .dct [],
 .dct [],
 .dct [],
 .dct [],
 .dct [],
 .dct [],
 .dct [],
 .lst [],
 .lst [],
 .lst [],
 .lst [],
 .lst [],
 .lst [],
 .dct [],
 .dct [],
 .dct [],
 .dct [],
 .dct [],
 .dct [],
 .dct [],
 .dct [],
 .dct [],
 .dct [],
 .dct [],
 .dct [],
 .dct [],
 .dct [],
 .dct [],
 .dct [],
 .dct [],
 .dct [],
 .dct [],
 .dct [],
 .dct [],
 .dct [],
 .dct [],
 .dct [],
 .att [(⟨#[103, 105, 118, 101, 110]⟩, .ref 70)],
 .ins 883 68,
 .dct [],
 .att [],
 .ins 771 71,
 .att [(⟨#[103, 105, 118, 101, 110]⟩, .ref 75)],
 .ins 799 73,
 .dct [],
 .att [],
 .ins 918 76,
 .att [],
 .ins 939 78,
 .att [],
 .ins 988 80,
 .att [],
 .ins 967 82,
 .dct []]
noncomputable def lawB : List Stmt := fBody (stm 160)
noncomputable def lawN : List (PySem.Str × NameKind) := (fScope (stm 160)).names
noncomputable def kfM : MO := ((store0 [] []).getD 0 (.lst []))
theorem law_pre (xs ys : List FV) (Q : Fl → Lc → Store → Prop) : wexs X (run X 59) 60 ((lawB.drop 1).take 5) ⟨lawN, [("script", .ref 1), ("d", .ref 3)]⟩ Q [kfM, .lst xs, .lst ys, .lst [.int 0, .ref 2]] =
    Q .next ⟨lawN, [("script", .ref 1), ("d", .ref 3), ("tab", .ref 5), ("atoms", .ref 16), ("known", .ref 17), ("cx", .ref 27), ("taken", .ref 84)]⟩ (store0 xs ys) := by kernel_rfl
/-- what the law's objects hold -/
structure Wd where
  ys : List FV
  at_ : Nat
  rows : List FV
  index : List (FV × FV)
  decls : List FV
  bounds : List FV
  defaults : List FV
  names : List FV
  diags : List FV
  notes : List FV
  taken : List (FV × FV)
  obj : List (Nat × MO)
noncomputable def findN {α : Type} (l : Nat) : List (Nat × α) → Option α
  | [] => none
  | p :: r => bif Nat.beq l p.1 then some p.2 else findN l r
noncomputable def fixL (W : Wd) : List (Nat × Option MO) := [(0, some kfM), (2, some (.lst W.ys)), (4, (store0 [] [])[4]?), (5, (store0 [] [])[5]?), (16, (store0 [] [])[16]?), (17, (store0 [] [])[17]?), (18, (store0 [] [])[18]?), (19, (store0 [] [])[19]?), (20, (store0 [] [])[20]?), (21, (store0 [] [])[21]?), (23, (store0 [] [])[23]?), (24, (store0 [] [])[24]?), (26, (store0 [] [])[26]?), (27, (store0 [] [])[27]?)]
noncomputable def coreL (W : Wd) : List (Nat × MO) := [(3, (.lst [.int W.at_, .ref 2])), (6, (.lst W.rows)), (7, (.dct W.index)), (8, (.lst W.decls)), (9, (.lst W.bounds)), (10, (.lst W.defaults)), (11, (.lst W.names)), (22, (.lst W.diags)), (25, (.lst W.notes)), (84, (.dct W.taken))]
noncomputable def fixF (W : Wd) (l : Nat) : Option MO := (findN l (fixL W)).join
noncomputable def coreF (W : Wd) (l : Nat) : Option MO := findN l (coreL W)
structure Is (W : Wd) (L : List (Nat × MO)) (σ : Store) : Prop where
  fix : ∀ l o, fixF W l = some o → σ[l]? = some o
  core : ∀ l o, coreF W l = some o → σ[l]? = some o
  obj : ∀ l o, (l, o) ∈ W.obj → σ[l]? = some o
  loc : ∀ l o, (l, o) ∈ L → σ[l]? = some o
  ge : ∀ p ∈ L ++ W.obj, 85 ≤ p.1
  nd : ((L ++ W.obj).map (·.1)).Nodup

/-- one of the local objects is turned -/
inductive UpdL : List (Nat × MO) → Nat → MO → MO → List (Nat × MO) → Prop
  | here {l : Nat} {o o' : MO} {L : List (Nat × MO)} : UpdL ((l, o) :: L) l o o' ((l, o') :: L)
  | there {a : Nat × MO} {L : List (Nat × MO)} {l : Nat} {o o' : MO} {L' : List (Nat × MO)} : UpdL L l o o' L' → UpdL (a :: L) l o o' (a :: L')

section
variable {W W' : Wd} {L L' : List (Nat × MO)} {σ : Store} {l : Nat} {o o' : MO}
theorem set_ne {k : Nat} (h : k ≠ l) (e : σ[k]? = some o') : (σ.set l o)[k]? = some o' := by rw [List.getElem?_set_ne h.symm]; exact e
theorem set_at (e : σ[l]? = some o') : (σ.set l o)[l]? = some o := by
  rw [List.getElem?_set_self (List.getElem?_eq_some_iff.mp e).1]
theorem beq_no {k : Nat} (h : k ≠ l) : Nat.beq k l = false := by
  cases e : Nat.beq k l with
  | false => rfl
  | true => exact absurd (Nat.eq_of_beq_eq_true e) h
theorem find_no {α : Type} {k : Nat} {p : Nat × α} {r : List (Nat × α)} (h : k ≠ p.1) : findN k (p :: r) = findN k r := (congrArg (fun b => bif b then some p.2 else findN k r) (beq_no h) :)
theorem find_yes {α : Type} {k : Nat} {v : α} {r : List (Nat × α)} : findN k ((k, v) :: r) = some v := (congrArg (fun b => bif b then some v else findN k r) (Nat.beq_refl k) :)
theorem find_lt {α : Type} (h : 85 ≤ l) : ∀ {L : List (Nat × α)}, L.all (fun p => Nat.blt p.1 85) = true → findN l L = none
  | [], _ => rfl
  | p :: L, e => (find_no fun q => Nat.not_lt.mpr h (by rw [q]; exact Nat.le_of_ble_eq_true (and2 e).1)).trans (find_lt h (and2 e).2)
theorem find_mem {α : Type} {o : α} : ∀ {L : List (Nat × α)}, findN l L = some o → (l, o) ∈ L
  | p :: L, e => by
    by_cases q : l = p.1
    · subst q; rw [← Option.some.inj ((find_yes (v := p.2)).symm.trans e)]; exact .head _
    · exact .tail _ (find_mem ((find_no q).symm.trans e))
theorem fix_lt (h : 85 ≤ l) : fixF W l = none := congrArg Option.join (find_lt h (by exact rfl))
theorem core_lt (h : 85 ≤ l) : coreF W l = none := find_lt h (by exact rfl)
theorem Is.drop {p : Nat × MO} (H : Is W (p :: L) σ) : Is W L σ := by
  have nd := H.nd
  rw [List.cons_append, List.map_cons, List.nodup_cons] at nd
  exact ⟨H.fix, H.core, H.obj, fun l o h => H.loc l o (.tail _ h), fun p h => H.ge p (.tail _ h), nd.2⟩
theorem Is.keepObj {p : Nat × MO} (H : Is W (p :: L) σ) : Is { W with obj := p :: W.obj } L σ := by
  have nd := H.nd
  have pm : (L ++ p :: W.obj).Perm (p :: (L ++ W.obj)) := List.perm_middle
  refine ⟨H.fix, H.core, fun l o h => ?_, fun l o h => H.loc l o (.tail _ h), fun q h => H.ge q ?_, ?_⟩
  · rcases List.mem_cons.mp h with rfl | h
    · exact H.loc _ _ (.head _)
    · exact H.obj l o h
  · rw [List.cons_append]; exact pm.mem_iff.mp h
  · exact (pm.map (·.1)).nodup_iff.mpr nd
theorem Is.lt (H : Is W L σ) : 85 ≤ σ.length := by
  have h : coreF W 84 = some (.dct W.taken) := rfl
  have := (List.getElem?_eq_some_iff.mp (H.core 84 _ h)).1
  assumption
theorem Is.new (o : MO) (H : Is W L σ) : Is W ((σ.length, o) :: L) (σ ++ [o]) := by
  have ap : ∀ {k : Nat} {o' : MO}, σ[k]? = some o' → (σ ++ [o])[k]? = some o' := fun e => by rw [List.getElem?_append_left (List.getElem?_eq_some_iff.mp e).1]; exact e
  refine ⟨fun l o h => ap (H.fix l o h), fun l o h => ap (H.core l o h), fun l o h => ap (H.obj l o h), fun l o' h => ?_, fun p h => ?_, ?_⟩
  · rcases List.mem_cons.mp h with h | h
    · cases h; rw [List.getElem?_append_right (Nat.le_refl _), Nat.sub_self]; rfl
    · exact ap (H.loc l o' h)
  · rcases List.mem_cons.mp h with rfl | h
    · exact H.lt
    · exact H.ge p h
  · rw [List.cons_append, List.map_cons, List.nodup_cons]
    refine ⟨fun h => ?_, H.nd⟩
    obtain ⟨⟨k, o'⟩, h1, h2⟩ := List.mem_map.mp h
    simp only at h2
    subst h2
    have : σ[σ.length]? = some o' := by
      rcases List.mem_append.mp h1 with h1 | h1
      · exact H.loc _ _ h1
      · exact H.obj _ _ h1
    rw [List.getElem?_eq_none (Nat.le_refl _)] at this; cases this
theorem UpdL.mem (u : UpdL L l o o' L') : (l, o) ∈ L := by
  induction u with
  | here => exact .head _
  | there _ ih => exact .tail _ ih
theorem UpdL.keys (u : UpdL L l o o' L') : L'.map (·.1) = L.map (·.1) := by
  induction u with
  | here => rfl
  | there _ ih => simp [ih]
theorem UpdL.mem' (u : UpdL L l o o' L') {k : Nat} {x : MO} (h : (k, x) ∈ L') : (k = l ∧ x = o') ∨ (k, x) ∈ L := by
  induction u with
  | here => rcases List.mem_cons.mp h with h | h; cases h; exact .inl ⟨rfl, rfl⟩; exact .inr (.tail _ h)
  | there _ ih => rcases List.mem_cons.mp h with h | h; exact .inr (h ▸ .head _); exact (ih h).imp id fun h => .tail _ h
theorem mem_fst {p : Nat × MO} {A : List (Nat × MO)} (h : p ∈ A) : p.1 ∈ A.map (·.1) := List.mem_map_of_mem h
theorem UpdL.mem2 (u : UpdL L l o o' L') : (l, o') ∈ L' := by
  induction u with
  | here => exact .head _
  | there _ ih => exact .tail _ ih
theorem UpdL.find (u : UpdL L l o o' L') : (L.map (·.1)).Nodup → findN l L = some o ∧ findN l L' = some o' ∧ ∀ k, k ≠ l → findN k L' = findN k L := by
  induction u with
  | here => exact fun _ => ⟨find_yes, find_yes, fun k h => (find_no h).trans (find_no h).symm⟩
  | @there a L l o o' L' v ih =>
    intro nd
    have nd := List.nodup_cons.mp nd
    have ih := ih nd.2
    have ne : l ≠ a.1 := fun e => nd.1 (show a.1 ∈ _ from e.symm ▸ mem_fst v.mem)
    exact ⟨(find_no ne).trans ih.1, (find_no ne).trans ih.2.1, fun k h => congrArg (fun x => bif Nat.beq k a.1 then some a.2 else x) (ih.2.2 k h)⟩
/-- a core object is turned -/
theorem Is.setC (H : Is W L σ) (hl : l < 85) (hf : fixF W l = none) (u : UpdL (coreL W) l o' o (coreL W')) (h3 : fixF W' = fixF W) (h4 : W'.obj = W.obj) : Is W' L (σ.set l o) := by
  have f := u.find (show ([3, 6, 7, 8, 9, 10, 11, 22, 25, 84] : List Nat).Nodup by decide)
  have h0 : coreF W l = some o' := f.1
  have h1 : coreF W' l = some o := f.2.1
  have h2 : ∀ k, k ≠ l → coreF W' k = coreF W k := f.2.2
  refine ⟨fun k x h => set_ne (fun e => ?_) (H.fix k x (h3 ▸ h)), fun k x h => ?_, fun k x h => set_ne (fun e => ?_) (H.obj k x (h4 ▸ h)), fun k x h => set_ne (fun e => ?_) (H.loc k x h), h4 ▸ H.ge, h4 ▸ H.nd⟩
  · subst e; rw [h3, hf] at h; cases h
  · by_cases e : k = l
    · subst e; rw [h1] at h; cases h; exact set_at (H.core _ _ h0)
    · rw [h2 k e] at h; exact set_ne e (H.core k x h)
  · subst e; have := H.ge _ (List.mem_append_right _ (h4 ▸ h)); simp only at this; omega
  · subst e; have := H.ge _ (List.mem_append_left _ h); simp only at this; omega
theorem once {k : Nat} : ∀ {A : List (Nat × MO)}, (A.map (·.1)).Nodup → ∀ {x y : MO}, (k, x) ∈ A → (k, y) ∈ A → x = y
  | [], _, _, _, h, _ => by cases h
  | a :: A, nd, x, y, h1, h2 => by
    rw [List.map_cons, List.nodup_cons] at nd
    rcases List.mem_cons.mp h1 with h1 | h1 <;> rcases List.mem_cons.mp h2 with h2 | h2
    · rw [← h1] at h2; cases h2; rfl
    · exact absurd (by rw [← h1]; have := mem_fst h2; exact this) nd.1
    · exact absurd (by rw [← h2]; have := mem_fst h1; exact this) nd.1
    · exact once nd.2 h1 h2
theorem Is.setL (H : Is W L σ) (u : UpdL L l o o' L') : Is W L' (σ.set l o') := by
  have hm := u.mem
  have hge := H.ge _ (List.mem_append_left _ hm)
  simp only at hge
  have kl : ((L' ++ W.obj).map (·.1)) = (L ++ W.obj).map (·.1) := by rw [List.map_append, List.map_append, u.keys]
  have ndo : ∀ p ∈ W.obj, p.1 ≠ l := fun p hp e => by
    have nd := H.nd
    rw [List.map_append, List.nodup_append] at nd
    exact nd.2.2 _ (mem_fst hm) _ (mem_fst hp) e.symm
  refine ⟨fun k x h => set_ne (fun e => ?_) (H.fix k x h), fun k x h => set_ne (fun e => ?_) (H.core k x h), fun k x h => set_ne (ndo _ h) (H.obj k x h), fun k x h => ?_, fun p h => ?_, kl ▸ H.nd⟩
  · subst e; rw [fix_lt hge] at h; cases h
  · subst e; rw [core_lt hge] at h; cases h
  · by_cases e : k = l
    · subst e
      have : x = o' := by
        rcases u.mem' h with ⟨_, h⟩ | h1
        · exact h
        · have nd := H.nd
          rw [List.map_append, List.nodup_append] at nd
          exact once (u.keys ▸ nd.1) h u.mem2
      subst this
      exact set_at (H.loc _ _ hm)
    · rcases u.mem' h with ⟨h, _⟩ | h
      · exact absurd h e
      · exact set_ne e (H.loc k x h)
  · rcases List.mem_append.mp h with h | h
    · obtain ⟨k, x⟩ := p
      rcases u.mem' h with ⟨h, _⟩ | h
      · simp only; omega
      · exact H.ge _ (List.mem_append_left _ h)
    · exact H.ge _ (List.mem_append_right _ h)
end
theorem IfB.t {b : Bool} {p q : Prop} (h : b = true) (x : p) : IfB b p q := by unfold IfB; rw [h]; exact x
theorem IfB.f {b : Bool} {p q : Prop} (h : b = false) (x : q) : IfB b p q := by unfold IfB; rw [h]; exact x
theorem IfB.of {b : Bool} {p q : Prop} (x : b = true → p) (y : b = false → q) : IfB b p q := by cases b; exact .f rfl (y rfl); exact .t rfl (x rfl)
noncomputable def binV (op : Operator) (a b : FV) : Option FV := match a with
  | .int x => (intOf b).bind (intV op x)
  | .tup x => (tupOf b).bind (tupV op x)
  | _ => none
noncomputable def truthV : FV → Option Bool
  | .none => some false
  | .bool b => some b
  | .int i => some (decide (i ≠ 0))
  | .tup xs => if xs.length ≤ lim then some (!xs.isEmpty) else none
  | _ => none
noncomputable def eqV (a b : FV) : Option Bool := match a with
  | .int a => match intOf b with
    | some b => some (decide (a = b))
    | none => eqT (.int a) b
  | .ref _ => none
  | a => eqT a b
noncomputable def inV (x : FV) (y : FV) : Option Bool := (tupOf y).bind (memL x)
noncomputable def intD (f : Int → Int → Bool) (a b : FV) : Option Bool := (intOf a).bind fun x => (intOf b).map (f x)
noncomputable def cmpV (op : CmpOp) (a b : FV) : Option Bool := match op with
  | .Eq => eqV a b
  | .NotEq => (eqV a b).map (!·)
  | .In => inV a b
  | .NotIn => (inV a b).map (!·)
  | .Lt => intD (fun x y => decide (x < y)) a b
  | .LtE => intD (fun x y => decide (x ≤ y)) a b
  | .Gt => intD (fun x y => decide (y < x)) a b
  | .GtE => intD (fun x y => decide (y ≤ x)) a b
  | _ => none
noncomputable def itemV (a k : FV) : Option FV := match a with
  | .tup xs => (intOf k).bind fun i => (idx xs.length i).bind fun k => xs[k]?
  | .str s => (intOf k).bind fun i => (idx s.cps.size i).bind fun k => (s.cps[k]?).map fun c => .str ⟨#[c]⟩
  | _ => none
noncomputable def itemsV : FV → Option (List FV)
  | .tup xs => some xs
  | .rng lo hi => if lo = 0 ∧ -1000000 ≤ hi ∧ hi ≤ 1000000 then some ((List.range (hi - lo).toNat).map fun (k : Nat) => FV.int (lo + (k : Int))) else none
  | _ => none

section
variable {X : Ctx} {call : CallT} {n : Nat} {W : Wd} {L : List (Nat × MO)} {σ : Store} {l : Nat}
theorem eqF_int (a b : Int) : eqF (.int a) (.int b) = decide (a = b) := rfl
theorem lif {α : Type} {p : Prop} [Decidable p] {o : Option α} {r : α} (e : (if p then o else none) = some r) : p ∧ o = some r := by
  by_cases h : p
  · exact ⟨h, (if_pos h).symm.trans e⟩
  · cases (if_neg h).symm.trans e
theorem bindP {α β : Type} {o : Option α} {f : α → Option β} {b : β} {P : β → Prop} (h : o.bind f = some b) (q : P b) : SomeP o fun a => SomeP (f a) P := (Option.bind_eq_some_iff.mp h).elim fun a h => .mk h.1 (.mk h.2 q)
theorem r_bin {op : Operator} {a b v : FV} {Q : FV → Store → Prop} (h : binV op a b = some v) (q : Q v σ) : RunT 1 (binM op a b) σ Q := .mk (by
  induction a using FV.casesOn with
  | int x => exact bindP (P := fun v => Q v σ) h q
  | tup x => exact bindP (P := fun v => Q v σ) h q
  | _ => exact noS h)
theorem r_truth {v : FV} {b : Bool} {Q : Bool → Store → Prop} (h : truthV v = some b) (q : Q b σ) : RunT 2 (truthyM v) σ Q := .mk (by
  induction v using FV.casesOn with
  | none => exact (Option.some.inj h ▸ q : Q false σ)
  | bool x => exact Option.some.inj h ▸ q
  | int x => exact (Option.some.inj h ▸ q : Q (decide (x ≠ 0)) σ)
  | tup x => exact On.dec (lif h).1 (Option.some.inj (lif h).2 ▸ q)
  | _ => exact noS h)
theorem eqV_of {a b : FV} {k : Bool} {Q : Bool → Store → Prop} (h : eqV a b = some k) (q : Q k σ) : eqM a b Q σ := by
  induction a using FV.casesOn with
  | int x =>
    induction b using FV.casesOn with
    | int y => exact SomeP.mk (P := fun b => Q b σ) h q
    | _ => exact SomeP.mk (P := fun b => Q b σ) h q
  | ref l => exact noS h
  | _ =>
    induction b using FV.casesOn with
    | _ => exact SomeP.mk (P := fun b => Q b σ) h q
theorem inV_of {a b : FV} {k : Bool} {Q : Bool → Store → Prop} (h : inV a b = some k) (q : Q k σ) : inM a b Q σ := by
  induction b using FV.casesOn with
  | tup ys => exact SomeP.mk (P := fun b => Q b σ) h q
  | _ => exact noS h
theorem intD_of {f : Int → Int → Bool} {a b : FV} {k : Bool} {Q : Bool → Store → Prop} (h : intD f a b = some k) (q : Q k σ) : intC f a b Q σ :=
  (Option.bind_eq_some_iff.mp h).elim fun x h => (Option.map_eq_some_iff.mp h.2).elim fun y g => .mk h.1 (.mk g.1 (g.2.symm ▸ q : Q (f x y) σ))
theorem r_cmp {op : CmpOp} {a b : FV} {k : Bool} {Q : Bool → Store → Prop} (h : cmpV op a b = some k) (q : Q k σ) : RunT 5 (cmpM op a b) σ Q := .mk (by
  induction op using CmpOp.casesOn with
  | Eq => exact eqV_of h q
  | NotEq => exact (Option.map_eq_some_iff.mp h).elim fun k' h => eqV_of (Q := fun b σ => Q (!b) σ) h.1 (h.2.symm ▸ q)
  | In => exact inV_of h q
  | NotIn => exact (Option.map_eq_some_iff.mp h).elim fun k' h => inV_of (Q := fun b σ => Q (!b) σ) h.1 (h.2.symm ▸ q)
  | Lt => exact intD_of h q
  | LtE => exact intD_of h q
  | Gt => exact intD_of h q
  | GtE => exact intD_of h q
  | _ => exact noS h)
theorem r_item {a b v : FV} {Q : FV → Store → Prop} (h : itemV a b = some v) (q : Q v σ) : RunT 11 (itemM a b) σ Q := .mk (by
  induction a using FV.casesOn with
  | tup x => exact bindP (P := fun v => Q v σ) h q
  | str x => exact bindP (P := fun v => Q v σ) h q
  | _ => exact noS h)
theorem items_of {a : FV} {xs : List FV} {Q : List FV → Store → Prop} (h : itemsV a = some xs) (q : Q xs σ) : itemsM a Q σ := by
  induction a using FV.casesOn with
  | tup x => exact Option.some.inj h ▸ q
  | rng lo hi => exact On.dec (lif h).1 (Option.some.inj (lif h).2 ▸ q)
  | _ => exact noS h
theorem r_items {a : FV} {xs : List FV} {Q : List FV → Store → Prop} (h : itemsV a = some xs) (q : Q xs σ) : RunT 12 (itemsM a) σ Q := .mk (items_of h q)
theorem lookB {β : Type} {o : MO} {f : MO → M β} {Q : β → Store → Prop} (h : σ[l]? = some o) (q : f o Q σ) : look l f Q σ := .mk h q
theorem r_items_l {xs : List FV} {Q : List FV → Store → Prop} (h : σ[l]? = some (.lst xs)) (q : Q xs σ) : RunT 12 (itemsM (.ref l)) σ Q := .mk (lookB h q)
theorem r_itemsC {a : FV} {xs : List FV} {Q : List FV → Store → Prop} (h : itemsV a = some xs) (z : xs.length ≤ lim) (q : Q xs σ) : RunT 4 (itemsC a) σ Q := .mk (items_of (Q := fun xs σ => On (decide (xs.length ≤ lim)) (Q xs σ)) h (.dec z q))
theorem r_itemsC_l {xs : List FV} {Q : List FV → Store → Prop} (h : σ[l]? = some (.lst xs)) (z : xs.length ≤ lim) (q : Q xs σ) : RunT 4 (itemsC (.ref l)) σ Q := .mk (lookB h (On.dec z q))
theorem r_alloc {o : MO} {Q : Nat → Store → Prop} (H : Is W L σ) (q : ∀ l σ', Is W ((l, o) :: L) σ' → Q l σ') : RunT 3 (alloc o) σ Q := .mk (q _ _ (H.new o))
theorem r_truth_l {xs : List FV} {Q : Bool → Store → Prop} (h : σ[l]? = some (.lst xs)) (z : xs.length ≤ lim) (q : Q (!xs.isEmpty) σ) : RunT 2 (truthyM (.ref l)) σ Q := .mk (lookB h (On.dec z q))
theorem r_truth_d {kvs : List (FV × FV)} {Q : Bool → Store → Prop} (h : σ[l]? = some (.dct kvs)) (z : kvs.length ≤ lim ∧ homog (.str ⟨#[]⟩) kvs = true) (q : Q (!kvs.isEmpty) σ) : RunT 2 (truthyM (.ref l)) σ Q := .mk (lookB h (On.dec z q))
theorem r_in_l {x : FV} {ys : List FV} {k : Bool} {Q : Bool → Store → Prop} (h : σ[l]? = some (.lst ys)) (e : memL x ys = some k) (q : Q k σ) : RunT 5 (cmpM .In x (.ref l)) σ Q := .mk (lookB h (SomeP.mk e q))
theorem r_in_d {x : FV} {kvs : List (FV × FV)} {o : Option FV} {Q : Bool → Store → Prop} (h : σ[l]? = some (.dct kvs)) (e : kvGet x kvs = some o) (q : Q o.isSome σ) : RunT 5 (cmpM .In x (.ref l)) σ Q := .mk (lookB h (SomeP.mk (congrArg (Option.map _) e) q))
theorem r_nin_l {x : FV} {ys : List FV} {k : Bool} {Q : Bool → Store → Prop} (h : σ[l]? = some (.lst ys)) (e : memL x ys = some k) (q : Q (!k) σ) : RunT 5 (cmpM .NotIn x (.ref l)) σ Q := .mk (lookB (f := inO x) (Q := fun b σ => Q (!b) σ) h (SomeP.mk e q))
theorem r_nin_d {x : FV} {kvs : List (FV × FV)} {o : Option FV} {Q : Bool → Store → Prop} (h : σ[l]? = some (.dct kvs)) (e : kvGet x kvs = some o) (q : Q (!o.isSome) σ) : RunT 5 (cmpM .NotIn x (.ref l)) σ Q :=
  .mk (lookB (f := inO x) (Q := fun b σ => Q (!b) σ) h (SomeP.mk (congrArg (Option.map _) e) q))
theorem r_eq_l {k : Nat} {xs ys : List FV} {b : Bool} {Q : Bool → Store → Prop} (h : σ[l]? = some (.lst xs)) (h' : σ[k]? = some (.lst ys)) (e : eqL xs ys = some b) (q : Q b σ) : RunT 5 (cmpM .Eq (.ref l) (.ref k)) σ Q := .mk (lookB h (lookB h' (SomeP.mk e q)))
theorem r_ne_l {k : Nat} {xs ys : List FV} {b : Bool} {Q : Bool → Store → Prop} (h : σ[l]? = some (.lst xs)) (h' : σ[k]? = some (.lst ys)) (e : eqL xs ys = some b) (q : Q (!b) σ) : RunT 5 (cmpM .NotEq (.ref l) (.ref k)) σ Q :=
  .mk (lookB (f := lstK fun xs => look k (lstK fun ys => optM (eqL xs ys))) (Q := fun b σ => Q (!b) σ) h (lookB h' (SomeP.mk e q)))
theorem r_attr {C : Addr} {d : Nat} {kvs : List (PySem.Str × FV)} {a : PySem.Str} {r : FV} {Q : FV → Store → Prop} (h1 : σ[l]? = some (.ins C d)) (h2 : σ[d]? = some (.att kvs)) (h3 : kvs.lookup a = some r) (h4 : X.own C a = true) (h5 : isSt r = false) (q : Q r σ) : RunT 9 (attrM X (.ref l) a) σ Q :=
  .mk (lookB h1 (lookB h2 (SomeP.mk h3 (On.mk (by rw [h4, h5]; rfl) q))))
theorem r_cal_l {xs : List FV} {name : PySem.Str} {Q : Cal → Store → Prop} (h : σ[l]? = some (.lst xs)) (q : Q .lst σ) (hn : (name == "append" || name == "pop" || name == "extend") = true := by exact rfl) : RunT 6 (calM X (.ref l) name) σ Q := .mk (lookB h (On.mk hn q))
theorem r_cal_d {kvs : List (FV × FV)} {name : PySem.Str} {Q : Cal → Store → Prop} (h : σ[l]? = some (.dct kvs)) (q : Q .dct σ) (hn : (name == "get") = true := by exact rfl) : RunT 6 (calM X (.ref l) name) σ Q := .mk (lookB h (On.mk hn q))
theorem r_cal_i {C : Addr} {d f : Nat} {kvs : List (PySem.Str × FV)} {name : PySem.Str} {Q : Cal → Store → Prop} (h1 : σ[l]? = some (.ins C d)) (h2 : σ[d]? = some (.att kvs)) (h3 : kvs.lookup name = none) (h4 : X.meth C name = some f) (q : Q (.fn f) σ) : RunT 6 (calM X (.ref l) name) σ Q :=
  .mk (lookB h1 (lookB h2 (On.mk (by rw [h3]; rfl) (SomeP.mk h4 q))))
theorem r_item_l {xs : List FV} {i : Int} {v : FV} {Q : FV → Store → Prop} (h : σ[l]? = some (.lst xs)) (e : (idx xs.length i).bind (fun k => xs[k]?) = some v) (q : Q v σ) : RunT 11 (itemM (.ref l) (.int i)) σ Q := .mk (lookB h (SomeP.mk e q))
theorem r_item_d {kvs : List (FV × FV)} {k v : FV} {Q : FV → Store → Prop} (h : σ[l]? = some (.dct kvs)) (e : kvGet k kvs = some (some v)) (q : Q v σ) : RunT 11 (itemM (.ref l) k) σ Q := .mk (lookB h (SomeP.mk (congrArg (Option.bind · id) e) q))
theorem r_slice_t {xs ys : List FV} {lo hi : Option Int} {Q : FV → Store → Prop} (e : cutT xs lo hi = some ys) (q : Q (.tup ys) σ) : RunT 10 (sliceM (.tup xs) lo hi) σ Q := .mk (SomeP.mk (congrArg (Option.map _) e) q)
theorem r_fn {a : Addr} {s : Stmt} {ds args : List FV} {Q : FV → Store → Prop} (e : X.fn a = some (s, ds)) (h : wfn X (run X n) (n + 1) s ds args Q σ) : RunT 8 (run X (n + 1) (.st (.ref a)) args) σ Q := .mk (by
  show refM X (run X n) (n + 1) a args (X.fn a) Q σ
  rw [e]; exact h)
theorem r_met {f : Addr} {v : FV} {name : PySem.Str} {args : List FV} {Q : FV → Store → Prop} (h : RunT 8 (call (.st (.ref f)) (v :: args)) σ Q) : RunT 7 (methM call (.fn f) v name args) σ Q := .mk h.r
theorem gc {m m' : M FV} {Q : FV → Store → Prop} (e : m' = m) (h : m Q σ) : m' Q σ := e ▸ h
theorem get_e {kvs : List (FV × FV)} {k d : FV} : dctM kvs "get" [k, d] = fun Q σ => SomeP (kvGet k kvs) fun o => Q (o.getD d) σ := by unfold dctM; exact if_pos rfl
theorem len_e {v : FV} : builtinM "len" [v] = lenM v := by unfold builtinM; exact if_pos rfl
theorem rng_e {v : FV} : typeM "range" [v] = rngM v := by unfold typeM; exact if_pos rfl
theorem tup_e {v : FV} : typeM "tuple" [v] = tupleM v := by unfold typeM; exact (if_neg (by decide)).trans (if_pos rfl)
theorem r_get {kvs : List (FV × FV)} {k d : FV} {o : Option FV} {Q : FV → Store → Prop} (h : σ[l]? = some (.dct kvs)) (e : kvGet k kvs = some o) (q : Q (o.getD d) σ) : RunT 7 (methM call .dct (.ref l) "get" [k, d]) σ Q :=
  .mk (lookB h (gc (m' := dctM kvs "get" [k, d]) get_e (SomeP.mk e q)))
theorem put_run {o : MO} {α : Type} {a : α} {Q : α → Store → Prop} (h2 : 2 ≤ l) (q : Q a (σ.set l o)) : putR l o a Q σ := On.mk (Nat.ble_eq_true_of_le h2) q
theorem r_app {xs : List FV} {x : FV} {Q : FV → Store → Prop} (h : σ[l]? = some (.lst xs)) (h2 : 2 ≤ l) (z : xs.length ≤ lim) (q : Q .none (σ.set l (.lst (xs ++ [x])))) : RunT 7 (methM call .lst (.ref l) "append" [x]) σ Q :=
  .mk (lookB h (gc (m' := lstM l xs "append" [x]) (if_pos rfl) (On.dec z (put_run h2 q))))
theorem r_pop {xs : List FV} {x : FV} {Q : FV → Store → Prop} (h : σ[l]? = some (.lst xs)) (h2 : 2 ≤ l) (hx : xs.getLast? = some x) (z : xs.length ≤ lim) (q : Q x (σ.set l (.lst xs.dropLast))) : RunT 7 (methM call .lst (.ref l) "pop" []) σ Q :=
  .mk (lookB h (gc (m' := lstM l xs "pop" []) ((if_neg (by decide)).trans (if_pos rfl)) (SomeP.mk hx (On.dec z (put_run h2 q)))))
theorem r_ext_t {xs ys : List FV} {Q : FV → Store → Prop} (h : σ[l]? = some (.lst xs)) (h2 : 2 ≤ l) (z : xs.length + ys.length ≤ lim) (q : Q .none (σ.set l (.lst (xs ++ ys)))) : RunT 7 (methM call .lst (.ref l) "extend" [.tup ys]) σ Q :=
  .mk (lookB h (gc (m' := lstM l xs "extend" [.tup ys]) (lstM_e.trans (if_pos rfl)) (On.dec z (put_run h2 q))))
theorem r_ext_l {k : Nat} {xs ys : List FV} {Q : FV → Store → Prop} (h : σ[l]? = some (.lst xs)) (hk : σ[k]? = some (.lst ys)) (hkl : k ≠ l) (h2 : 2 ≤ l) (z : xs.length + ys.length ≤ lim) (q : Q .none (σ.set l (.lst (xs ++ ys)))) : RunT 7 (methM call .lst (.ref l) "extend" [.ref k]) σ Q :=
  .mk (lookB h (gc (m' := lstM l xs "extend" [.ref k]) (lstM_e.trans (if_pos rfl)) (lookB hk (On.mk (by rw [decide_eq_false hkl, decide_eq_true z]; rfl) (put_run h2 q)))))
theorem r_setd {kvs kvs' : List (FV × FV)} {k v : FV} {Q : Unit → Store → Prop} (h : σ[l]? = some (.dct kvs)) (h2 : 2 ≤ l) (e : kvPut k v kvs = some kvs') (q : Q () (σ.set l (.dct kvs'))) : RunT 14 (storeItemM (.ref l) k v) σ Q :=
  .mk (lookB h (SomeP.mk e (put_run h2 q)))
theorem r_setl {xs : List FV} {i : Int} {j : Nat} {v : FV} {Q : Unit → Store → Prop} (h : σ[l]? = some (.lst xs)) (h2 : 2 ≤ l) (h0 : 0 ≤ i) (e : idx xs.length i = some j) (q : Q () (σ.set l (.lst (xs.set j v)))) : RunT 14 (storeItemM (.ref l) (.int i) v) σ Q :=
  .mk (lookB h (On.dec h0 (SomeP.mk e (put_run h2 q))))
theorem r_sattr {C : Addr} {d : Nat} {kvs : List (PySem.Str × FV)} {a : PySem.Str} {v : FV} {Q : Unit → Store → Prop} (h1 : σ[l]? = some (.ins C d)) (h2 : σ[d]? = some (.att kvs)) (hd : 2 ≤ d) (h4 : X.own C a = true) (h5 : kvs.length ≤ 900) (q : Q () (σ.set d (.att (attPut a v kvs)))) :
    RunT 13 (storeAttrM X (.ref l) a v) σ Q := .mk (lookB h1 (lookB h2 (On.mk (by rw [h4, decide_eq_true h5]; rfl) (put_run hd q))))
theorem r_len_l {xs : List FV} {Q : FV → Store → Prop} (h : σ[l]? = some (.lst xs)) (z : xs.length ≤ lim) (q : Q (.int xs.length) σ) : RunT 8 (run X (n + 1) (.st (.builtin "len")) [.ref l]) σ Q :=
  .mk (gc (m' := builtinM "len" [.ref l]) len_e (lookB h (On.dec z q)))
theorem r_len_d {kvs : List (FV × FV)} {Q : FV → Store → Prop} (h : σ[l]? = some (.dct kvs)) (z : kvs.length ≤ lim ∧ homog (.str ⟨#[]⟩) kvs = true) (q : Q (.int kvs.length) σ) : RunT 8 (run X (n + 1) (.st (.builtin "len")) [.ref l]) σ Q :=
  .mk (gc (m' := builtinM "len" [.ref l]) len_e (lookB h (On.dec z q)))
theorem r_len_t {xs : List FV} {Q : FV → Store → Prop} (z : xs.length ≤ lim) (q : Q (.int xs.length) σ) : RunT 8 (run X (n + 1) (.st (.builtin "len")) [.tup xs]) σ Q :=
  .mk (gc (m' := builtinM "len" [.tup xs]) len_e (On.dec z q))
theorem srt_e {l : Nat} : builtinM "sorted" [.ref l] = fun Q σ => look l sortedO Q σ := by unfold builtinM; exact (if_neg (by decide)).trans (if_pos rfl)
theorem r_sorted_l {xs ys : List FV} {Q : FV → Store → Prop} (H : Is W L σ) (h : σ[l]? = some (.lst xs)) (e : sortM xs = some ys) (q : ∀ k σ', Is W ((k, .lst ys) :: L) σ' → Q (.ref k) σ') : RunT 8 (run X (n + 1) (.st (.builtin "sorted")) [.ref l]) σ Q :=
  .mk (gc (m' := builtinM "sorted" [.ref l]) srt_e (lookB h (SomeP.mk e (q _ _ (H.new _)))))
theorem r_sorted_d {kvs : List (FV × FV)} {ys : List FV} {Q : FV → Store → Prop} (H : Is W L σ) (h : σ[l]? = some (.dct kvs)) (hk : (kvs.all (fun p => keyK p.1 == 1) || kvs.all (fun p => keyK p.1 == 2)) = true) (e : sortM (kvs.map (·.1)) = some ys)
    (q : ∀ k σ', Is W ((k, .lst ys) :: L) σ' → Q (.ref k) σ') : RunT 8 (run X (n + 1) (.st (.builtin "sorted")) [.ref l]) σ Q :=
  .mk (gc (m' := builtinM "sorted" [.ref l]) srt_e (lookB h (On.mk hk (SomeP.mk e (q _ _ (H.new _))))))
theorem r_range {i : Int} {Q : FV → Store → Prop} (q : Q (.rng 0 i) σ) : RunT 8 (run X (n + 1) (.st (.type "range")) [.int i]) σ Q :=
  .mk (gc (m' := typeM "range" [.int i]) rng_e q)
theorem r_tuple_l {xs : List FV} {Q : FV → Store → Prop} (h : σ[l]? = some (.lst xs)) (z : xs.length ≤ lim) (q : Q (.tup xs) σ) : RunT 8 (run X (n + 1) (.st (.type "tuple")) [.ref l]) σ Q :=
  .mk (gc (m' := typeM "tuple" [.ref l]) tup_e (lookB h (On.dec z q)))
theorem r_tuple_t {xs : List FV} {Q : FV → Store → Prop} (q : Q (.tup xs) σ) : RunT 8 (run X (n + 1) (.st (.type "tuple")) [.tup xs]) σ Q :=
  .mk (gc (m' := typeM "tuple" [.tup xs]) tup_e q)
/-- a made object is made -/
theorem r_cls {C i : Addr} {args : List FV} {Q : FV → Store → Prop} (H : Is W L σ) (hf : X.fn C = none) (hc : X.cls C = true) (hi : X.meth C "__init__" = some i)
    (q : ∀ d l σ', Is W ((l, .ins C d) :: (d, .att []) :: L) σ' → RunT 8 (run X n (.st (.ref i)) (.ref l :: args)) σ' (madeK l Q)) : RunT 8 (run X (n + 1) (.st (.ref C)) args) σ Q := .mk (by
  show refM X (run X n) (n + 1) C args (X.fn C) Q σ
  rw [hf]
  refine On.mk hc ?_
  rw [hi]
  have g := (q _ _ _ ((H.new (.att [])).new (.ins C σ.length))).r
  rw [List.length_append] at g
  exact g)
end
local macro_rules | `(tactic| walk_at "mem") => `(tactic| first | exact .head _ | exact .tail _ (.head _) | exact .tail _ (.tail _ (.head _)) | exact .tail _ (.tail _ (.tail _ (.head _))) | exact .tail _ (.tail _ (.tail _ (.tail _ (.head _)))) | exact .tail _ (.tail _ (.tail _ (.tail _ (.tail _ (.head _))))))
local macro_rules | `(tactic| walk_at "upd") => `(tactic| first | exact .here | exact .there .here | exact .there (.there .here) | exact .there (.there (.there .here)) | exact .there (.there (.there (.there .here))) | exact .there (.there (.there (.there (.there .here)))))
local macro_rules | `(tactic| walk_at "at") => `(tactic| first | assumption | (refine' Is.fix ?h _ _ ?e; (case h => assumption); (case e => exact rfl)) | (refine' Is.core ?h _ _ ?e; (case h => assumption); (case e => exact rfl)) | exact Is.loc (by assumption) _ _ (by walk_at "mem"))
local macro_rules | `(tactic| walk_at "a") => `(tactic| refine r_attr (by walk_at "at") (by walk_at "at") (by exact rfl) (by exact rfl) (by exact rfl) ?_)
local macro_rules | `(tactic| walk_at "i") => `(tactic| refine r_cal_i (by walk_at "at") (by walk_at "at") (by exact rfl) (by exact rfl) ?_)
local macro_rules | `(tactic| walk_at "z") => `(tactic| exact Nat.le_of_ble_eq_true rfl)
section
variable {n : Nat} {W : Wd} {L : List (Nat × MO)} {σ : Store}
theorem idx_nat {m t : Nat} (h : t < m) (z : m ≤ lim) : idx m (t : Int) = some t := by
  unfold idx
  rw [if_neg (by omega), if_pos (by lia), if_pos (by simpa using h)]
  simp
theorem row_at {xs : List FV} {t : Nat} {v : FV} (h : xs[t]? = some v) (z : xs.length ≤ lim) : (idx xs.length (t : Int)).bind (fun k => xs[k]?) = some v := by
  rw [idx_nat (List.getElem?_eq_some_iff.mp h).1 z]; exact h

theorem r_go {a : Addr} {s : Stmt} {ds args : List FV} {ps : List Arg} {body : List Stmt} {nm : List (PySem.Str × NameKind)} {Q : FV → Store → Prop} (m : List (PySem.Str × FV)) (e : X.fn a = some (s, ds)) (hp : fnP s = some (ps, body, nm)) (hm : bindParams ps args ds = some m)
    (h : wexs X (run X n) (n + 1) body ⟨nm, m⟩ (retFl Q) σ) : RunT 8 (run X (n + 1) (.st (.ref a)) args) σ Q := r_fn e (SomeP.mk hp (SomeP.mk hm h))

theorem s_kind_of {Q : FV → Store → Prop} {t : Nat} {k row : FV} (H : Is W L σ) (ht : W.rows[t]? = some row) (hk : itemV row (.int 0) = some k) (z : W.rows.length ≤ lim) (q : Q k σ) : RunT 8 (run X (n + 1) (.st (.ref 275)) [.ref 5, .int t]) σ Q := by
  refine r_go [("tab", .ref 5), ("t", .int t)] rfl rfl rfl ?_
  refine r_attr (by walk_at "at") (by walk_at "at") (by exact rfl) (by exact rfl) (by exact rfl) ?_
  refine r_item_l (by walk_at "at") (row_at ht z) ?_
  exact r_item hk q

noncomputable def ixFrom (k : Nat) : List FV → List (FV × FV)
  | [] => []
  | r :: rs => (r, .int k) :: ixFrom (k + 1) rs
/-- the table is as it should be -/
structure TW (W : Wd) : Prop where
  ix : W.index = ixFrom 0 W.rows
  key : ∀ r ∈ W.rows, keyK r = 3
  nd : W.rows.Pairwise (fun a b => eqF a b = false)
structure Put (W : Wd) (row : FV) (i : Nat) (W' : Wd) : Prop where
  at_ : W'.rows[i]? = some row
  ext : ∃ t, W'.rows = W.rows ++ t ∧ t.length ≤ 1
  tw : TW W'
  rest : W' = { W with rows := W'.rows, index := W'.index }

theorem kvIns_n {k v : FV} : kvIns k v [] = [(k, v)] := rfl
theorem kvIns_c {k v a b : FV} {r : List (FV × FV)} : kvIns k v ((a, b) :: r) = if eqF a k = true then (a, v) :: r else (a, b) :: kvIns k v r := rfl
theorem kvFind_n {k : FV} : kvFind k [] = none := rfl
theorem kvFind_c {k a v : FV} {r : List (FV × FV)} : kvFind k ((a, v) :: r) = if eqF a k = true then some v else kvFind k r := rfl
theorem ixFrom_n {k : Nat} : ixFrom k [] = [] := rfl
theorem ixFrom_c {k : Nat} {r : FV} {rs : List FV} : ixFrom k (r :: rs) = (r, .int k) :: ixFrom (k + 1) rs := rfl
theorem homog_ix {row : FV} (hr : keyK row = 3) : ∀ {rows : List FV} {k : Nat}, (∀ r ∈ rows, keyK r = 3) → homog row (ixFrom k rows) = true
  | [], _, _ => by simp [homog, hr, ixFrom_n]
  | r :: rs, k, h => by
    have := homog_ix hr (k := k + 1) fun r hr => h r (.tail _ hr)
    simp only [homog, hr] at this ⊢
    simp only [ixFrom_c, List.all_cons, h r (.head _)]
    simpa using this
theorem find_ix {row : FV} : ∀ {rows : List FV} {k : Nat}, (kvFind row (ixFrom k rows) = none ∧ ∀ r ∈ rows, eqF r row = false) ∨ ∃ i, kvFind row (ixFrom k rows) = some (.int ((k + i : Nat) : Int)) ∧ rows[i]? = some row
  | [], _ => .inl ⟨rfl, fun _ h => by cases h⟩
  | r :: rs, k => by
    by_cases e : eqF r row = true
    · exact .inr ⟨0, by simp [ixFrom_c, kvFind_c, e], by simp [eqF_eq _ _ e]⟩
    · rcases @find_ix row rs (k + 1) with ⟨h1, h2⟩ | ⟨i, h1, h2⟩
      · refine .inl ⟨by simp [ixFrom_c, kvFind_c, e, h1], fun x hx => ?_⟩
        rcases List.mem_cons.mp hx with rfl | hx
        · simpa using e
        · exact h2 x hx
      · exact .inr ⟨i + 1, by rw [ixFrom_c, kvFind_c, if_neg e, h1, show k + 1 + i = k + (i + 1) by lia], h2⟩
theorem ix_append {row : FV} : ∀ {rows : List FV} {k : Nat}, (∀ r ∈ rows, eqF r row = false) → kvIns row (.int ((k + rows.length : Nat) : Int)) (ixFrom k rows) = ixFrom k (rows ++ [row])
  | [], k, _ => rfl
  | r :: rs, k, h => by
    have := @ix_append row rs (k + 1) fun r hr => h r (.tail _ hr)
    simp only [ixFrom_c, kvIns_c, h r (.head _), Bool.false_eq_true, if_false, List.cons_append]
    rw [← this]
    congr 3
    simp only [List.length_cons]; lia
theorem ix_len : ∀ {rows : List FV} {k : Nat}, (ixFrom k rows).length = rows.length
  | [], _ => rfl
  | _ :: rs, k => by simp [ixFrom_c, @ix_len rs (k + 1)]

theorem s_put {Q : FV → Store → Prop} {row : FV} (H : Is W L σ) (T : TW W) (hk : keyK row = 3) (z : W.rows.length ≤ 5000) (q : ∀ i W' σ', Put W row i W' → Is W' L σ' → Q (.int (i : Nat)) σ') : RunT 8 (run X (n + 2) (.st (.ref 240)) [.ref 5, row]) σ Q := by
  have hh : homog row W.index = true := by rw [T.ix]; exact homog_ix hk T.key
  have hg : kvGet row W.index = some (kvFind row W.index) := by unfold kvGet; rw [if_pos hh]
  have hl : W.rows.length ≤ lim := Nat.le_trans ‹_› (Nat.le_of_ble_eq_true rfl)
  refine r_go [("self", .ref 5), ("row", row)] rfl rfl rfl ?_
  refine r_attr (by walk_at "at") (by walk_at "at") (by exact rfl) (by exact rfl) (by exact rfl) ?_
  refine r_in_d (by walk_at "at") hg ?_
  rcases @find_ix row W.rows 0 with ⟨h1, h2⟩ | ⟨i, h1, h2⟩
  · refine IfB.f (by rw [T.ix, h1]; rfl) ?_
    refine r_attr (by walk_at "at") (by walk_at "at") (by exact rfl) (by exact rfl) (by exact rfl) ?_
    refine r_len_l (by walk_at "at") hl ?_
    refine r_attr (by walk_at "at") (by walk_at "at") (by exact rfl) (by exact rfl) (by exact rfl) ?_
    refine r_cal_l (by walk_at "at") ?_
    refine r_app (by walk_at "at") (by decide) hl ?_
    have H1 : Is { W with rows := W.rows ++ [row] } L (σ.set 6 (.lst (W.rows ++ [row]))) := H.setC (by decide) rfl (by repeat first | exact .here | apply UpdL.there) rfl rfl
    generalize σ.set 6 (.lst (W.rows ++ [row])) = σ1 at H1 ⊢
    refine r_attr (by walk_at "at") (by walk_at "at") (by exact rfl) (by exact rfl) (by exact rfl) ?_
    have hi : kvIns row (.int (W.rows.length : Int)) W.index = ixFrom 0 (W.rows ++ [row]) := by
      rw [T.ix]
      have := @ix_append row W.rows 0 h2
      simpa using this
    refine r_setd (kvs' := ixFrom 0 (W.rows ++ [row])) (by walk_at "at") (by decide) (by unfold kvPut; rw [if_pos ⟨hh, by rw [T.ix, ix_len]; exact hl⟩]; exact congrArg some hi) ?_
    have H2 : Is { W with rows := W.rows ++ [row], index := ixFrom 0 (W.rows ++ [row]) } L (σ1.set 7 (.dct (ixFrom 0 (W.rows ++ [row])))) := H1.setC (by decide) rfl (by repeat first | exact .here | apply UpdL.there) rfl rfl
    refine q W.rows.length _ _ ⟨by simp, ⟨[row], rfl, by simp⟩, ⟨rfl, fun r hr => ?_, ?_⟩, rfl⟩ H2
    · rcases List.mem_append.mp hr with hr | hr
      · exact T.key r hr
      · rw [List.mem_singleton.mp hr]; exact hk
    · exact List.pairwise_append.mpr ⟨T.nd, by grind, fun a ha b hb => by rw [List.mem_singleton.mp hb]; exact h2 a ha⟩
  · refine IfB.t (by rw [T.ix, h1]; rfl) ?_
    refine r_attr (by walk_at "at") (by walk_at "at") (by exact rfl) (by exact rfl) (by exact rfl) ?_
    refine r_item_d (by walk_at "at") (by rw [hg, T.ix, h1]) ?_
    have := q i W σ ⟨h2, ⟨[], by simp, by simp⟩, T, rfl⟩ H
    rw [show (0 + i : Nat) = i by lia]
    exact this
end
section
variable {n : Nat} {W : Wd} {L : List (Nat × MO)} {σ : Store}
/-- a statement's target or test, and its body -/
noncomputable def sP : Stmt → Expr × List Stmt
  | .For t _ b _ _ => (t, b)
  | .While t b _ _ => (t, b)
  | .If t b _ _ => (t, b)
  | _ => (.Name ⟨#[]⟩ ⟨0, 0, 0, 0⟩, [])
noncomputable abbrev forT (s : Stmt) : Expr := (sP s).1
noncomputable abbrev forB (s : Stmt) : List Stmt := (sP s).2
noncomputable abbrev wT (s : Stmt) : Expr := (sP s).1
noncomputable abbrev wB (s : Stmt) : List Stmt := (sP s).2
noncomputable abbrev thenB (s : Stmt) : List Stmt := (sP s).2
theorem x_env {X₀ : Ctx} {call : CallT} {ss : List Stmt} {c c' : Lc} {m : Nat} {Q : Fl → Lc → Store → Prop} (e : c = c') (h : wexs X₀ call m ss c' Q σ) : wexs X₀ call m ss c Q σ := e ▸ h
theorem n_name {X₀ : Ctx} {call : CallT} {c : Lc} {x : PySem.Str} {p : Pos} {v : FV} {K : FV → Store → Prop} (e : nameV X₀ c x = some v) (q : K v σ) : wev X₀ call (.Name x p) c K σ := SomeP.mk e q
theorem n_tup0 {X₀ : Ctx} {call : CallT} {c : Lc} {k : Nat} {p : Pos} {K : FV → Store → Prop} (q : K (.tup []) σ) : wev X₀ call (.Tuple [] k p) c K σ := q
theorem n_set {X₀ : Ctx} {call : CallT} {c c' : Lc} {x : PySem.Str} {p : Pos} {v : FV} {K : Lc → Store → Prop} (e : setN c x v = some c') (q : K c' σ) : wassign X₀ call c (.Name x p) v K σ := SomeP.mk e q
theorem n_nil {X₀ : Ctx} {call : CallT} {c : Lc} {K : List FV → Store → Prop} (q : K [] σ) : wevs X₀ call [] c K σ := q
theorem n_sets {X₀ : Ctx} {call : CallT} {c c' : Lc} {ts : List Expr} {k : Nat} {p : Pos} {v : FV} {K : Lc → Store → Prop} (e : bindTarget (.Tuple ts k p) v c = some c') (q : K c' σ) : wassign X₀ call c (.Tuple ts k p) v K σ := SomeP.mk e q
theorem for_list {body : FV → Lc → (Fl → Lc → Store → Prop) → Store → Prop} {v : FV} {xs : List FV} {P : Nat → Lc → Store → Prop} {R : FV → Store → Prop} {Q : Fl → Lc → Store → Prop} (hi : ∀ i c σ (K : List FV → Store → Prop), P i c σ → K xs σ → RunT 12 (itemsM v) σ K)
    (hs : ∀ i x c σ (K : Fl → Lc → Store → Prop), P i c σ → xs[i]? = some x → (∀ c' σ', P (i + 1) (keepN c c') σ' → K .next c' σ' ∧ K .cont c' σ') → (∀ r c' σ', R r σ' → K (.ret r) c' σ') → body x c K σ) (hf : ∀ c σ, P xs.length c σ → Q .next c σ) (hr : ∀ r c σ, R r σ → Q (.ret r) c σ) :
    ∀ N i c σ, P i c σ → i ≤ xs.length → xs.length < N + i → wfor body v N i c Q σ
  | 0, i, c, σ, p, h1, h2 => by omega
  | N + 1, i, c, σ, p, h1, h2 => by
    refine hi i c σ _ p ?_
    cases q : xs[i]? with
    | none =>
      have : i = xs.length := by have := List.getElem?_eq_none_iff.mp q; omega
      subst this
      exact hf c σ p
    | some x =>
      have hlt := (List.getElem?_eq_some_iff.mp q).1
      exact hs i x c σ _ p q (fun c' σ' p' => ⟨for_list hi hs hf hr N (i + 1) _ σ' p' hlt (by omega), for_list hi hs hf hr N (i + 1) _ σ' p' hlt (by omega)⟩) fun r c' σ' h => hr r c' σ' h
theorem comp_list {step : FV → List FV → (List FV → Store → Prop) → Store → Prop} {v : FV} {xs : List FV} {P : Nat → List FV → Store → Prop} {Q : List FV → Store → Prop} (hi : ∀ i out σ (K : List FV → Store → Prop), P i out σ → K xs σ → RunT 12 (itemsM v) σ K)
    (hs : ∀ i x out σ (K : List FV → Store → Prop), P i out σ → xs[i]? = some x → (∀ out' σ', P (i + 1) out' σ' → K out' σ') → step x out K σ) (hf : ∀ out σ, P xs.length out σ → Q out σ) :
    ∀ N i out σ, P i out σ → i ≤ xs.length → xs.length < N + i → wcomp step v N i out Q σ
  | 0, i, out, σ, p, h1, h2 => by omega
  | N + 1, i, out, σ, p, h1, h2 => by
    refine hi i out σ _ p ?_
    cases q : xs[i]? with
    | none =>
      have : i = xs.length := by have := List.getElem?_eq_none_iff.mp q; omega
      subst this
      exact hf out σ p
    | some x =>
      have hlt := (List.getElem?_eq_some_iff.mp q).1
      exact hs i x out σ _ p q fun out' σ' p' => comp_list hi hs hf N (i + 1) out' σ' p' hlt (by omega)

/-- the kinds of rows that parts have: no union, no enum, nothing fresh -/
noncomputable def kindOk (row : FV) (k : Int) : Prop := itemV row (.int 0) = some (.int k) ∧ k ≠ 6 ∧ k ≠ 5 ∧ k ≠ 18 ∧ (k = 2 ∨ k = 3 ∨ k = 4 ∨ k = 8 → ∃ x, itemV row (.int (-1)) = some x ∧ eqT x (.int 1) = some false)
structure Id (W : Wd) (t : Nat) (k : Int) : Prop where
  row : ∃ r, W.rows[t]? = some r ∧ kindOk r k
  never : t ≠ 2

theorem s_parts_of {Q : FV → Store → Prop} {t : Nat} {k : Int} (H : Is W L σ) (I : Id W t k) (z : W.rows.length ≤ lim) (q : Q (.tup [.int t]) σ) : RunT 8 (run X (n + 1) (.st (.ref 369)) [.ref 5, .int t]) σ Q := by
  obtain ⟨⟨row, hr, hk⟩, h2⟩ := I
  refine r_go [("tab", .ref 5), ("t", .int t)] rfl rfl rfl ?_
  refine r_cmp rfl (IfB.f (by simp; lia) ?_)
  walk_at "a"
  refine r_item_l (by walk_at "at") (row_at hr z) ?_
  refine r_item hk.1 (r_cmp rfl (IfB.f (by simp; exact hk.2.1) ?_))
  exact q
noncomputable def wholeK (k : Int) : Int := if k = 3 then 6 else if k = 4 then 7 else -1
theorem s_whole {Q : FV → Store → Prop} {row : FV} {k : Int} (H : Is W L σ) (hk : kindOk row k) (q : Q (.int (wholeK k)) σ) : RunT 8 (run X (n + 1) (.st (.ref 376)) [row]) σ Q := by
  obtain ⟨h0, h6, h5, h18, _⟩ := hk
  refine r_go [("row", row)] rfl rfl rfl ?_
  refine r_item h0 ?_
  unfold wholeK at q
  by_cases h3 : k = 3
  · subst h3
    exact r_cmp rfl (IfB.t rfl (IfB.t rfl q))
  · rw [if_neg h3] at q
    refine r_cmp rfl (IfB.f (by simp; exact h3) (r_cmp rfl (IfB.f (by simp; exact h18) (IfB.f rfl ?_))))
    by_cases h4 : k = 4
    · subst h4
      exact r_cmp rfl (IfB.t rfl q)
    · rw [if_neg h4] at q
      refine r_cmp rfl (IfB.f (by simp; exact h4) (r_cmp rfl (IfB.f (by simp; exact h5) ?_)))
      exact q
end
section
variable {n : Nat} {W : Wd} {L : List (Nat × MO)} {σ : Store}
theorem r_eqi {a : FV} {i : Int} {k : Bool} {Q : Bool → Store → Prop} (h : eqT a (.int i) = some k) (q : Q k σ) : RunT 5 (cmpM .Eq a (.int i)) σ Q := .mk (by
  induction a using FV.casesOn with
  | _ => exact SomeP.mk (P := fun b => Q b σ) h q)
theorem s_twin {Q : FV → Store → Prop} {t : Nat} {k : Int} (H : Is W L σ) (I : Id W t k) (z : W.rows.length ≤ lim) (q : Q (.int (-1)) σ) : RunT 8 (run X (n + 1) (.st (.ref 383)) [.ref 5, .int t]) σ Q := by
  obtain ⟨⟨row, hr, h0, h6, h5, h18, hm⟩, h2⟩ := I
  refine r_go [("tab", .ref 5), ("t", .int t)] rfl rfl rfl ?_
  walk_at "a"
  refine r_item_l (by walk_at "at") (row_at hr z) (r_item h0 (r_cmp rfl (IfB.of (fun hin => ?_) fun _ => IfB.f rfl q)))
  obtain ⟨x, hx, he⟩ := hm (by simp [eqF_int] at hin; lia)
  exact r_item hx (r_eqi he (IfB.f rfl (IfB.f rfl q)))

noncomputable def gotD (ks : List Int) : List (FV × FV) := ks.map fun x => (.int x, .int 1)
theorem homog_got {x : Int} {ks : List Int} : homog (.int x) (gotD ks) = true := by
  exact List.all_eq_true.mpr fun p hp => let ⟨k, _, e⟩ := List.mem_map.mp hp; e ▸ rfl
theorem find_got {x : Int} : ∀ {ks : List Int}, kvFind (.int x) (gotD ks) = if x ∈ ks then some (.int 1) else none
  | [] => rfl
  | k :: ks => by
    have ih := @find_got x ks
    unfold gotD at ih ⊢
    simp only [List.map_cons, kvFind_c, ih, eqF_int, decide_eq_true_eq, List.mem_cons]
    by_cases h : k = x
    · simp [h]
    · rw [if_neg h]
      have : ¬ x = k := fun e => h e.symm
      simp [this]
theorem get_got {x : Int} {ks : List Int} : kvGet (.int x) (gotD ks) = some (if x ∈ ks then some (.int 1) else none) := by
  unfold kvGet
  rw [if_pos homog_got, find_got]
noncomputable def addK (ks : List Int) (x : Int) : List Int := if x ∈ ks then ks else ks ++ [x]
theorem ins_got {x : Int} : ∀ {ks : List Int}, kvIns (.int x) (.int 1) (gotD ks) = gotD (addK ks x)
  | [] => rfl
  | k :: ks => by
    have ih := @ins_got x ks
    unfold gotD addK at ih ⊢
    simp only [List.map_cons, kvIns_c, ih, eqF_int, decide_eq_true_eq, List.mem_cons]
    by_cases h : k = x
    · simp [h]
    · rw [if_neg h]
      have : ¬ x = k := fun e => h e.symm
      by_cases h2 : x ∈ ks <;> simp [this, h2]
theorem mem_addK {ks : List Int} {x y : Int} : y ∈ addK ks x ↔ y ∈ ks ∨ y = x := by
  unfold addK
  split
  · rename_i h
    exact ⟨.inl, fun h' => h'.elim id fun e => e ▸ h⟩
  · simp
theorem nd_addK {ks : List Int} {x : Int} (h : ks.Nodup) : (addK ks x).Nodup := by
  unfold addK
  split
  · exact h
  · rename_i hx
    exact List.nodup_append.mpr ⟨h, by simp, fun a ha b hb => by rw [List.mem_singleton.mp hb]; exact fun e => hx (e ▸ ha)⟩
theorem len_addK {ks : List Int} {x : Int} : (addK ks x).length ≤ ks.length + 1 := by
  unfold addK; split <;> simp

theorem s_top {Q : FV → Store → Prop} {g : Nat} {ks : List Int} {x : Int} (hg : σ[g]? = some (.dct (gotD ks))) (hx : (if 0 ∈ ks then 0 else if 13 ∈ ks then 13 else if 1 ∈ ks then 1 else -1) = x) (q : Q (.int x) σ) : RunT 8 (run X (n + 4) (.st (.ref 404)) [.ref g]) σ Q := by
  refine r_go [("got", .ref g)] rfl rfl rfl ?_
  refine r_items rfl (r_items rfl ?_)
  refine r_in_d hg get_got ?_
  by_cases h0 : (0 : Int) ∈ ks
  · rw [if_pos h0] at hx; subst hx
    exact IfB.t (by rw [if_pos h0]; rfl) q
  rw [if_neg h0] at hx
  refine IfB.f (by rw [if_neg h0]; rfl) (r_items rfl (r_in_d hg get_got ?_))
  by_cases h1 : (13 : Int) ∈ ks
  · rw [if_pos h1] at hx; subst hx
    exact IfB.t (by rw [if_pos h1]; rfl) q
  rw [if_neg h1] at hx
  refine IfB.f (by rw [if_neg h1]; rfl) (r_items rfl (r_in_d hg get_got ?_))
  by_cases h2 : (1 : Int) ∈ ks
  · rw [if_pos h2] at hx; subst hx
    exact IfB.t (by rw [if_pos h2]; rfl) q
  rw [if_neg h2] at hx; subst hx
  exact IfB.f (by rw [if_neg h2]; rfl) (r_items rfl q)

theorem s_beside {Q : FV → Store → Prop} {g t : Nat} {k : Int} {ks : List Int} (H : Is W L σ) (I : Id W t k) (z : W.rows.length ≤ lim) (hg : σ[g]? = some (.dct (gotD ks))) (hp : (-1 : Int) ∉ ks) (q : Q (.bool (decide (wholeK k ∉ ks))) σ) :
    RunT 8 (run X (n + 2) (.st (.ref 397)) [.ref 5, .ref g, .int t]) σ Q := by
  refine r_go [("tab", .ref 5), ("got", .ref g), ("t", .int t)] rfl rfl rfl ?_
  refine s_twin H I z (r_in_d hg get_got (IfB.f (by rw [if_neg hp]; rfl) ?_))
  obtain ⟨row, hr, hk⟩ := I.row
  walk_at "a"
  refine r_item_l (by walk_at "at") (row_at hr z) (s_whole H hk (r_nin_d hg get_got ?_))
  have : (!(if wholeK k ∈ ks then some (FV.int 1) else none).isSome) = decide (wholeK k ∉ ks) := by by_cases h : wholeK k ∈ ks <;> simp [h]
  rw [this]; exact q

theorem put_same {k v : FV} : ∀ {kvs : List (FV × FV)}, kvFind k kvs = some v → kvIns k v kvs = kvs
  | [], h => noS h
  | (a, b) :: r, h => by
    rw [kvFind_c] at h
    rw [kvIns_c]
    split at h
    · rename_i e; cases h; rw [if_pos e]
    · rename_i e; rw [if_neg e, put_same h]
theorem set_same {l : Nat} {o : MO} (h : σ[l]? = some o) : σ.set l o = σ := by
  apply List.ext_getElem?
  intro i
  by_cases e : i = l
  · subst e; rw [set_at h, h]
  · rw [List.getElem?_set_ne (fun q => e q.symm)]
theorem s_join {Q : FV → Store → Prop} {g : Nat} {ks : List Int} (h2 : 2 ≤ g) (hz : ks.length ≤ 1000) (hg : σ[g]? = some (.dct (gotD ks))) (h14 : (14 : Int) ∉ ks) (h15 : (15 : Int) ∉ ks) (q : Q .none σ) : RunT 8 (run X (n + 1) (.st (.ref 390)) [.ref g]) σ Q := by
  refine r_go [("got", .ref g)] rfl rfl rfl ?_
  refine r_in_d hg get_got ?_
  have fin : (9 : Int) ∈ ks → (8 : Int) ∈ ks → RunT 14 (storeItemM (.ref g) (.int 8) (.int 1)) σ fun _ σ => RunT 14 (storeItemM (.ref g) (.int 9) (.int 1)) σ fun _ σ => Q .none σ := fun h9 h8 => by
    have e : ∀ x ∈ ks, kvPut (.int x) (.int 1) (gotD ks) = some (gotD ks) := fun x hx => by
      unfold kvPut
      rw [if_pos ⟨homog_got, by unfold gotD; rw [List.length_map]; lia⟩, put_same (by rw [find_got, if_pos hx])]
    refine r_setd hg h2 (e 8 h8) ?_
    rw [set_same hg]
    refine r_setd hg h2 (e 9 h9) ?_
    rw [set_same hg]
    exact q
  by_cases h8 : (8 : Int) ∈ ks
  · refine IfB.t (by rw [if_pos h8]; rfl) (IfB.t rfl (r_in_d hg get_got ?_))
    by_cases h9 : (9 : Int) ∈ ks
    · exact IfB.t (by rw [if_pos h9]; rfl) (IfB.t rfl (IfB.t rfl (fin h9 h8)))
    · exact IfB.f (by rw [if_neg h9]; rfl) (r_in_d hg get_got (IfB.f (by rw [if_neg h15]; rfl) (IfB.f rfl (IfB.f rfl q))))
  · exact IfB.f (by rw [if_neg h8]; rfl) (r_in_d hg get_got (IfB.f (by rw [if_neg h14]; rfl) (IfB.f rfl (IfB.f rfl q))))
end
section
variable {n : Nat} {W : Wd} {L : List (Nat × MO)} {σ : Store}
noncomputable def idsF (ts : List Nat) : List FV := ts.map fun (t : Nat) => .int (t : Int)
/-- what goes over the items: a tuple, or a list that stays -/
noncomputable def SeqAt (W : Wd) (L : List (Nat × MO)) (v : FV) (xs : List FV) : Prop := ∀ (W' : Wd) (L' : List (Nat × MO)) (σ : Store) (K : List FV → Store → Prop), (∀ p ∈ L, p ∈ L') → Is W' L' σ → K xs σ → RunT 12 (itemsM v) σ K
theorem SeqAt.tup {xs : List FV} : SeqAt W L (.tup xs) xs := fun W' L' σ K _ _ k => r_items rfl k
theorem SeqAt.lst {l : Nat} {xs : List FV} (h : (l, .lst xs) ∈ L) : SeqAt W L (.ref l) xs := fun W' L' σ K hs H k => r_items_l (H.loc _ _ (hs _ h)) k

theorem hk_ids {n : Nat} : ∀ (ts : List Nat), hkL n (idsF ts) = true
  | [] => by cases n <;> rfl
  | t :: ts => by
    have := @hk_ids n ts
    show (hkT n (.int t) && hkL n (idsF ts)) = true
    rw [this]; cases n <;> rfl
theorem key_union (ts : List Nat) : keyK (.tup [.int 6, .tup (idsF ts)]) = 3 := by
  show (if (hkT 6 (.int 6) && (hkL 5 (idsF ts) && true)) = true then 3 else 0) = 3
  rw [hk_ids]; rfl
inductive UnionR (W : Wd) (ts : List Nat) (kd : Nat → Int) (r : Nat) (W' : Wd) : Prop
  | top : (r = 0 ∧ 0 ∈ ts ∨ r = 13 ∧ 0 ∉ ts ∧ 13 ∈ ts ∨ r = 1 ∧ 0 ∉ ts ∧ 13 ∉ ts ∧ 1 ∈ ts) → W' = W → UnionR W ts kd r W'
  | rest (kept : List Nat) : 0 ∉ ts → 13 ∉ ts → 1 ∉ ts → kept.Pairwise (· < ·) → (∀ x, x ∈ kept ↔ x ∈ ts ∧ wholeK (kd x) ∉ ts.map (fun (t : Nat) => (t : Int))) →
      (kept = [] ∧ r = 2 ∧ W' = W ∨ kept = [r] ∧ W' = W ∨ 2 ≤ kept.length ∧ Put W (.tup [.int 6, .tup (idsF kept)]) r W') → UnionR W ts kd r W'

theorem gotD_keys {ks : List Int} : (gotD ks).map (·.1) = ks.map FV.int := by unfold gotD; simp
theorem gotD_k1 {ks : List Int} : ((gotD ks).all (fun p => keyK p.1 == 1) || (gotD ks).all (fun p => keyK p.1 == 2)) = true := by
  have : (gotD ks).all (fun p => keyK p.1 == 1) = true := List.all_eq_true.mpr fun p hp => let ⟨k, _, e⟩ := List.mem_map.mp hp; e ▸ rfl
  rw [this]; rfl
theorem sort_got {ks : List Int} (hz : ks.length ≤ 60) (hn : ks.Nodup) : ∃ ys : List Int, sortM (ks.map FV.int) = some (ys.map .int) ∧ ys.Perm ks ∧ ys.Pairwise (· < ·) := by
  obtain ⟨l', g1, g2, g3⟩ := @sortT_ints ks [] .nil
  have g2 : l'.Perm ks := by simpa using g2
  refine ⟨l', ?_, g2, ?_⟩
  · unfold sortM
    have : sortable (ks.map FV.int) = true := by
      unfold sortable
      have h1 : ((ks.map FV.int).all fun x => keyK x == 1) = true := List.all_eq_true.mpr fun p hp => let ⟨k, _, e⟩ := List.mem_map.mp hp; e ▸ rfl
      rw [h1]
      have : decide ((ks.map FV.int).length < 64) = true := by simp; omega
      rw [this]; rfl
    rw [if_pos this]; exact g1
  · have nd := g2.nodup_iff.mpr hn
    have := List.pairwise_and_iff.mpr ⟨g3, nd⟩
    exact this.imp fun ⟨a, b⟩ => by omega

theorem attPut_n {k : PySem.Str} {v : FV} : attPut k v [] = [(k, v)] := rfl
theorem attPut_c {k a : PySem.Str} {v b : FV} {r : List (PySem.Str × FV)} : attPut k v ((a, b) :: r) = if a = k then (a, v) :: r else (a, b) :: attPut k v r := rfl
theorem lookup_put (k : PySem.Str) (v : FV) : ∀ m : List (PySem.Str × FV), (attPut k v m).lookup k = some v
  | [] => by simp [attPut_n]
  | (a, b) :: r => by
    rw [attPut_c]
    by_cases h : a = k
    · subst h; simp
    · rw [if_neg h, List.lookup_cons, beq_eq_false_iff_ne.mpr (fun e => h e.symm)]
      exact lookup_put k v r

noncomputable abbrev En := List (PySem.Str × FV)
noncomputable def envOf (s : Stmt) (m : En) : Lc := ⟨(fScope s).names, m⟩
theorem s_union {Q : FV → Store → Prop} {pv : FV} {ts : List Nat} {kd : Nat → Int} (H : Is W L σ) (T : TW W) (z : W.rows.length ≤ 4000) (hs : SeqAt W L pv (idsF ts)) (hz : ts.length ≤ 30) (ids : ∀ t ∈ ts, Id W t (kd t)) (hn : ∀ t ∈ ts, t ≠ 14 ∧ t ≠ 15)
    (q : ∀ r W' σ', UnionR W ts kd r W' → Is W' L σ' → Q (.int (r : Nat)) σ') : RunT 8 (run X (n + 40) (.st (.ref 409)) [.ref 5, pv]) σ Q := by
  have hl : W.rows.length ≤ lim := Nat.le_trans ‹_› (Nat.le_of_ble_eq_true rfl)
  refine r_go [("tab", .ref 5), ("parts", pv)] rfl rfl rfl ?_
  refine r_alloc H fun g σ1 H1 => ?_
  refine hs W _ σ1 _ (fun p hp => .tail _ hp) H1 ?_
  have hlen : (idsF ts).length = ts.length := by unfold idsF; simp
  refine for_list (xs := idsF ts) (R := fun _ _ => False)
    (P := fun i c σ => ∃ (ks : List Int), c = envOf (stm 87) ([("tab", .ref 5), ("parts", pv), ("got", .ref g)] : En) ∧ Is W ((g, .dct (gotD ks)) :: L) σ ∧ ks.Nodup ∧ ks.length ≤ i ∧ ∀ x, x ∈ ks ↔ x ∈ (ts.take i).map (fun (t : Nat) => (t : Int)))
    (fun i c σ K ⟨ks, hc, H2, _⟩ k => hs W _ σ K (fun p hp => .tail _ hp) H2 k) ?_ ?_ (fun _ _ _ h => h.elim) _ 0 _ _ ⟨[], rfl, H1, .nil, by simp, by simp⟩ (Nat.zero_le _) (by omega)
  · rintro i x c σ2 K ⟨ks, rfl, H2, nd, hkl, hm⟩ hx next _
    obtain ⟨t, ht, rfl⟩ : ∃ t, ts[i]? = some t ∧ x = .int (t : Int) := by
      unfold idsF at hx
      rw [List.getElem?_map] at hx
      cases h : ts[i]? with
      | none => rw [h] at hx; cases hx
      | some t => rw [h] at hx; exact ⟨t, rfl, by simpa using hx.symm⟩
    have I := ids t (List.mem_of_getElem? ht)
    have hti : ts.take (i + 1) = ts.take i ++ [t] := by rw [List.take_add_one, ht]; rfl
    have fin : ∀ σ3, Is W ((g, .dct (gotD (addK ks t))) :: L) σ3 → K .next (envOf (stm 87) ([("tab", .ref 5), ("parts", pv), ("got", .ref g), ("t", .int t)] : En)) σ3 := fun σ3 H3 =>
      (next _ _ ⟨addK ks t, rfl, H3, nd_addK nd, Nat.le_trans len_addK (by omega), fun x => by rw [mem_addK, hm, hti]; simp⟩).1
    have step : ∀ (K' : Store → Prop), (∀ σ3, Is W ((g, .dct (gotD (addK ks t))) :: L) σ3 → K' σ3) → RunT 14 (storeItemM (.ref g) (.int t) (.int 1)) σ2 fun _ σ => K' σ := fun K' k => by
      refine r_setd (kvs' := gotD (addK ks t)) (by walk_at "at") (by have := H2.ge _ (.head _); simp only at this; omega) (by unfold kvPut; rw [if_pos ⟨homog_got, by unfold gotD; rw [List.length_map]; have := (List.getElem?_eq_some_iff.mp ht).1; lia⟩, ins_got]) ?_
      exact k _ (H2.setL .here)
    exact s_parts_of H2 I hl (r_items rfl (r_items rfl (step _ fun σ3 H3 => r_items rfl (fin σ3 H3))))
  · rintro c σ2 ⟨ks, rfl, H2, nd, hkl, hm⟩
    rw [hlen] at hkl hm
    rw [List.take_length] at hm
    have mN : ∀ t : Nat, (t : Int) ∈ ks ↔ t ∈ ts := fun t => by rw [hm, List.mem_map]; exact ⟨fun ⟨a, h, e⟩ => (by lia : a = t) ▸ h, fun h => ⟨t, h, rfl⟩⟩
    have h14 : (14 : Int) ∉ ks := fun h => (hn 14 ((mN 14).mp h)).1 rfl
    have h15 : (15 : Int) ∉ ks := fun h => (hn 15 ((mN 15).mp h)).2 rfl
    have hneg : (-1 : Int) ∉ ks := fun h => by rw [hm, List.mem_map] at h; obtain ⟨a, _, e⟩ := h; lia
    have g2 : 2 ≤ g := by have := H2.ge _ (.head _); simp only at this; lia
    obtain ⟨ys, hys, perm, sorted⟩ := sort_got (by lia : ks.length ≤ 60) nd
    -- the cases of the tops
    have tops : (∃ r : Nat, (if (0 : Int) ∈ ks then (0 : Int) else if 13 ∈ ks then 13 else if 1 ∈ ks then 1 else -1) = (r : Int) ∧ UnionR W ts kd r W) ∨
        ((if (0 : Int) ∈ ks then (0 : Int) else if 13 ∈ ks then 13 else if 1 ∈ ks then 1 else -1) = -1 ∧ 0 ∉ ts ∧ 13 ∉ ts ∧ 1 ∉ ts) := by
      have m0 := mN 0; have m13 := mN 13; have m1 := mN 1
      by_cases h0 : (0 : Int) ∈ ks
      · exact .inl ⟨0, if_pos h0, .top (.inl ⟨rfl, m0.mp h0⟩) rfl⟩
      rw [if_neg h0]
      by_cases h1 : (13 : Int) ∈ ks
      · exact .inl ⟨13, if_pos h1, .top (.inr (.inl ⟨rfl, fun h => h0 (m0.mpr h), m13.mp h1⟩)) rfl⟩
      rw [if_neg h1]
      by_cases h2 : (1 : Int) ∈ ks
      · exact .inl ⟨1, if_pos h2, .top (.inr (.inr ⟨rfl, fun h => h0 (m0.mpr h), fun h => h1 (m13.mpr h), m1.mp h2⟩)) rfl⟩
      rw [if_neg h2]
      exact .inr ⟨rfl, fun h => h0 (m0.mpr h), fun h => h1 (m13.mpr h), fun h => h2 (m1.mpr h)⟩
    let kl := ys.filter fun y => decide (wholeK (kd y.toNat) ∉ ks)
    have klpos : ∀ y ∈ kl, 0 ≤ y := fun y hy => by
      have := perm.mem_iff.mp (List.mem_filter.mp hy).1
      rw [hm] at this; simp at this; obtain ⟨a, _, rfl⟩ := this; lia
    have kln : idsF (kl.map Int.toNat) = kl.map FV.int := by
      unfold idsF
      rw [List.map_map]
      exact List.map_congr_left fun y hy => by show FV.int ((y.toNat : Nat) : Int) = _; rw [Int.toNat_of_nonneg (klpos y hy)]
    have kls : (kl.map Int.toNat).Pairwise (· < ·) := by
      rw [List.pairwise_map]
      refine (sorted.filter _).imp_of_mem fun {a b} ha hb h => ?_
      have := klpos a ha; have := klpos b hb; lia
    have klm : ∀ x, x ∈ kl.map Int.toNat ↔ x ∈ ts ∧ wholeK (kd x) ∉ ts.map (fun (t : Nat) => (t : Int)) := fun x => by
      rw [List.mem_map]
      constructor
      · rintro ⟨y, hy, rfl⟩
        obtain ⟨h1, h2⟩ := List.mem_filter.mp hy
        have h0 := klpos y hy
        refine ⟨(mN _).mp (by rw [Int.toNat_of_nonneg h0]; exact perm.mem_iff.mp h1), fun h => ?_⟩
        simp only [decide_eq_true_eq] at h2
        exact h2 ((hm _).mpr h)
      · rintro ⟨h1, h2⟩
        refine ⟨x, List.mem_filter.mpr ⟨perm.mem_iff.mpr ((mN x).mpr h1), ?_⟩, by simp⟩
        simp only [decide_eq_true_eq, Int.toNat_natCast]
        exact fun h => h2 ((hm _).mp h)
    have kll : kl.length ≤ 30 := by
      have := List.length_filter_le (fun y => decide (wholeK (kd y.toNat) ∉ ks)) ys
      have := perm.length_eq
      show (ys.filter _).length ≤ 30
      lia
    have ysl : ys.length ≤ 30 := by have := perm.length_eq; lia
    · rcases tops with ⟨r, hr, ur⟩ | ⟨hr, t0, t13, t1⟩
      · exact s_top (by walk_at "at") hr (r_cmp rfl (IfB.t (rfl) (q r W σ2 ur H2.drop)))
      · refine s_top (by walk_at "at") hr (r_cmp rfl (IfB.f rfl ?_))
        refine x_env (ss := (fBody (stm 87)).drop 4) (c' := envOf (stm 87) [("tab", .ref 5), ("parts", pv), ("got", .ref g), ("top", .int (-1))]) rfl ?_
        refine s_join g2 (by lia) (by walk_at "at") h14 h15 ?_
        refine (r_sorted_d H2 (by walk_at "at") gotD_k1 (by rw [gotD_keys]; exact hys) fun k σ3 H3 => ?_)
        refine r_itemsC_l (by walk_at "at") (by rw [List.length_map]; show _ ≤ 1000000; lia) ?_
        refine comp_list (xs := ys.map FV.int) (P := fun i out σ => out = ((ys.take i).filter fun y => decide (wholeK (kd y.toNat) ∉ ks)).map FV.int ∧ Is W ((k, .lst (ys.map .int)) :: (g, .dct (gotD ks)) :: L) σ)
          (fun i out σ K ⟨_, H4⟩ h => r_items_l (by walk_at "at") h) ?_ ?_ _ 0 _ _ ⟨rfl, H3⟩ (Nat.zero_le _) (by lia)
        · rintro i x out σ4 K ⟨rfl, H4⟩ hx next
          rw [List.getElem?_map] at hx
          cases hy : ys[i]? with
          | none => rw [hy] at hx; cases hx
          | some y =>
            rw [hy] at hx
            have hx : x = .int y := by simpa using hx.symm
            subst hx
            have ym := perm.mem_iff.mp (List.mem_of_getElem? hy)
            have hti : ys.take (i + 1) = ys.take i ++ [y] := by rw [List.take_add_one, hy]; rfl
            obtain ⟨t, ht, rfl⟩ : ∃ t : Nat, t ∈ ts ∧ y = (t : Int) := by rw [hm] at ym; simp at ym; obtain ⟨a, h, e⟩ := ym; exact ⟨a, h, e.symm⟩
            refine s_beside H4 (ids t ht) hl (by walk_at "at") hneg (r_truth rfl ?_)
            have ol : (((ys.take i).filter fun y => decide (wholeK (kd y.toNat) ∉ ks)).map FV.int).length ≤ 30 := by
              rw [List.length_map]
              refine Nat.le_trans (List.length_filter_le _ _) ?_
              rw [List.length_take]; lia
            by_cases hw : wholeK (kd t) ∈ ks
            · refine IfB.f (by simp [hw]) (IfB.f rfl (next _ _ ⟨?_, H4⟩))
              rw [hti, List.filter_append]; simp [hw]
            · refine IfB.t (by simp [hw]) (IfB.t rfl ⟨Nat.le_trans ‹_› (Nat.le_of_ble_eq_true rfl), next _ _ ⟨?_, H4⟩⟩)
              rw [hti, List.filter_append]; simp [hw]
        · rintro out σ4 ⟨rfl, H4⟩
          rw [List.length_map, List.take_length]
          refine r_alloc H4 fun kp σ5 H5 => ?_
          have kz : (kl.map FV.int).length ≤ lim := by rw [List.length_map]; show _ ≤ 1000000; omega
          have hr := fun (r : Nat) (W' : Wd) h => UnionR.rest (W := W) (ts := ts) (kd := kd) (r := r) (W' := W') (kl.map Int.toNat) t0 t13 t1 kls klm h
          change Is W ((kp, .lst (kl.map FV.int)) :: _) σ5 at H5
          refine n_set (c' := envOf (stm 87) [("tab", .ref 5), ("parts", pv), ("got", .ref g), ("top", .int (-1)), ("kept", .ref kp)]) rfl ?_
          refine r_truth_l (xs := kl.map FV.int) (by walk_at "at") kz ?_
          rcases hk : kl with _ | ⟨x, _ | ⟨y, rest⟩⟩
          · refine IfB.t (rfl) ?_
            exact q 2 W σ5 (hr 2 W (.inl ⟨by rw [hk]; rfl, rfl, rfl⟩)) H5.drop.drop.drop
          · refine IfB.f (rfl) (x_env (ss := (fBody (stm 87)).drop 7) (c' := envOf (stm 87) [("tab", .ref 5), ("parts", pv), ("got", .ref g), ("top", .int (-1)), ("kept", .ref kp)]) rfl (r_len_l (xs := kl.map FV.int) (by walk_at "at") kz (r_cmp rfl (IfB.t (by rw [hk]; rfl) ?_))))
            refine r_item_l (xs := kl.map FV.int) (v := .int x) (by walk_at "at") (by rw [hk]; rfl) ?_
            have x0 := klpos x (by rw [hk]; exact .head _)
            have := q x.toNat W σ5 (hr x.toNat W (.inr (.inl ⟨by rw [hk]; rfl, rfl⟩))) H5.drop.drop.drop
            rw [Int.toNat_of_nonneg x0] at this
            exact this
          · refine IfB.f (rfl) (x_env (ss := (fBody (stm 87)).drop 7) (c' := envOf (stm 87) [("tab", .ref 5), ("parts", pv), ("got", .ref g), ("top", .int (-1)), ("kept", .ref kp)]) rfl (r_len_l (xs := kl.map FV.int) (by walk_at "at") kz (r_cmp rfl (IfB.f (by rw [hk]; simp; lia) ?_))))
            refine x_env (ss := (fBody (stm 87)).drop 8) (c' := envOf (stm 87) [("tab", .ref 5), ("parts", pv), ("got", .ref g), ("top", .int (-1)), ("kept", .ref kp)]) rfl ?_
            refine r_len_l (xs := kl.map FV.int) (by walk_at "at") kz (r_cmp rfl (IfB.f (by rw [List.length_map]; simp; omega) ?_))
            refine x_env (ss := (fBody (stm 87)).drop 9) (c' := envOf (stm 87) [("tab", .ref 5), ("parts", pv), ("got", .ref g), ("top", .int (-1)), ("kept", .ref kp)]) rfl ?_
            refine r_cal_i (by walk_at "at") (by walk_at "at") (by exact rfl) (by exact rfl) ?_
            refine r_tuple_l (xs := kl.map FV.int) (by walk_at "at") kz ?_
            refine r_met (s_put H5 T (by rw [← kln]; exact key_union _) (by lia) fun i W' σ' p H6 => ?_)
            exact q i W' σ' (hr i W' (.inr (.inr ⟨by rw [hk]; simp, by rw [kln]; exact p⟩))) H6.drop.drop.drop
end
section
variable {X₀ : Ctx} {call : CallT} {n : Nat} {W W' : Wd} {L L' : List (Nat × MO)} {σ : Store} {l : Nat}
theorem Is.ge2 (H : Is W L σ) {o : MO} (h : (l, o) ∈ L) : 2 ≤ l := by have := H.ge _ (List.mem_append_left _ h); simp only at this; omega
theorem r_sattrL {C : Addr} {d : Nat} {kvs : List (PySem.Str × FV)} {a : PySem.Str} {v : FV} {Q : Unit → Store → Prop} (H : Is W L σ) (h1 : (l, .ins C d) ∈ L) (u : UpdL L d (.att kvs) (.att (attPut a v kvs)) L') (h4 : X₀.own C a = true) (h5 : kvs.length ≤ 900)
    (q : ∀ σ', Is W L' σ' → Q () σ') : RunT 13 (storeAttrM X₀ (.ref l) a v) σ Q := r_sattr (H.loc _ _ h1) (H.loc _ _ u.mem) (H.ge2 u.mem) h4 h5 (q _ (H.setL u))
theorem r_appL {xs : List FV} {x : FV} {Q : FV → Store → Prop} (H : Is W L σ) (u : UpdL L l (.lst xs) (.lst (xs ++ [x])) L') (z : xs.length ≤ lim) (q : ∀ σ', Is W L' σ' → Q .none σ') : RunT 7 (methM call .lst (.ref l) "append" [x]) σ Q :=
  r_app (H.loc _ _ u.mem) (H.ge2 u.mem) z (q _ (H.setL u))
theorem r_popL {xs : List FV} {x : FV} {Q : FV → Store → Prop} (H : Is W L σ) (u : UpdL L l (.lst xs) (.lst xs.dropLast) L') (hx : xs.getLast? = some x) (z : xs.length ≤ lim) (q : ∀ σ', Is W L' σ' → Q x σ') : RunT 7 (methM call .lst (.ref l) "pop" []) σ Q :=
  r_pop (H.loc _ _ u.mem) (H.ge2 u.mem) hx z (q _ (H.setL u))
theorem r_extL {xs ys : List FV} {Q : FV → Store → Prop} (H : Is W L σ) (u : UpdL L l (.lst xs) (.lst (xs ++ ys)) L') (z : xs.length + ys.length ≤ lim) (q : ∀ σ', Is W L' σ' → Q .none σ') : RunT 7 (methM call .lst (.ref l) "extend" [.tup ys]) σ Q :=
  r_ext_t (H.loc _ _ u.mem) (H.ge2 u.mem) z (q _ (H.setL u))
theorem r_setdL {kvs kvs' : List (FV × FV)} {k v : FV} {Q : Unit → Store → Prop} (H : Is W L σ) (u : UpdL L l (.dct kvs) (.dct kvs') L') (e : kvPut k v kvs = some kvs') (q : ∀ σ', Is W L' σ' → Q () σ') : RunT 14 (storeItemM (.ref l) k v) σ Q :=
  r_setd (H.loc _ _ u.mem) (H.ge2 u.mem) e (q _ (H.setL u))

theorem r_sattrF {X₀ : Ctx} {C : Addr} {d i : Nat} {F : List (PySem.Str × FV)} {a : PySem.Str} {v : FV} {Q : Unit → Store → Prop} (H : Is W L σ) (h1 : (l, .ins C d) ∈ L) (u : UpdL L d (.att (F.take i)) (.att (F.take (i + 1))) L') (e : attPut a v (F.take i) = F.take (i + 1)) (h4 : X₀.own C a = true)
    (h5 : F.length ≤ 900) (q : ∀ σ', Is W L' σ' → Q () σ') : RunT 13 (storeAttrM X₀ (.ref l) a v) σ Q :=
  r_sattr (H.loc _ _ h1) (H.loc _ _ u.mem) (H.ge2 u.mem) h4 (Nat.le_trans (List.length_take_le' i F) h5) (e ▸ q _ (H.setL u))
/-- the script's numbers -/
noncomputable def Ys (W : Wd) : Prop := (∀ v ∈ W.ys, ∃ i, v = .int i) ∧ W.ys.length ≤ 63
theorem pad_at (i : Int) : ∃ v, itemV (.tup [.int 1, .int 0, .int 0, .int 5, .int 1, .int 4, .int 8]) (.int (Int.fmod i 7)) = some (.int v) := by
  have h1 := Int.fmod_nonneg_of_pos i (b := 7) (by decide)
  have h2 := Int.fmod_lt_of_pos i (b := 7) (by decide)
  generalize Int.fmod i 7 = j at h1 h2
  rcases (show j = 0 ∨ j = 1 ∨ j = 2 ∨ j = 3 ∨ j = 4 ∨ j = 5 ∨ j = 6 by lia) with rfl | rfl | rfl | rfl | rfl | rfl | rfl <;> exact ⟨_, rfl⟩
theorem s_take {Q : FV → Store → Prop} {m : Int} (H : Is W L σ) (Y : Ys W) (hm : 0 < m) (q : ∀ (r : Nat) k σ', (r : Int) < m → Is { W with at_ := k } L σ' → Q (.int r) σ') : RunT 8 (run X (n + 2) (.st (.ref 1207)) [.ref 3, .int m]) σ Q := by
  refine r_go [("d", .ref 3), ("n", .int m)] rfl rfl rfl ?_
  refine r_item_l (v := .int W.at_) (by walk_at "at") (by exact rfl) ?_
  refine r_bin rfl (r_setl (j := 0) (by walk_at "at") (by decide) (by decide) (by exact rfl) ?_)
  have H1 : Is { W with at_ := W.at_ + 1 } L (σ.set 3 (.lst [.int ((W.at_ + 1 : Nat) : Int), .ref 2])) := H.setC (by decide) rfl (by repeat first | exact .here | apply UpdL.there) rfl rfl
  have e1 : σ.set 3 (.lst ([FV.int W.at_, .ref 2].set 0 (.int ((W.at_ : Int) + 1)))) = σ.set 3 (.lst [.int ((W.at_ + 1 : Nat) : Int), .ref 2]) := rfl
  rw [e1]
  generalize σ.set 3 (.lst [.int ((W.at_ + 1 : Nat) : Int), .ref 2]) = σ1 at H1 ⊢
  have yl : W.ys.length ≤ lim := by have := Y.2; show _ ≤ 1000000; lia
  have fin : ∀ x : Int, ∀ σ, Is { W with at_ := W.at_ + 1 } L σ → RunT 1 (binM .Mod (.int x) (.int m)) σ Q := fun x σ H => by
    have h1 := Int.fmod_nonneg_of_pos x hm
    have h2 := Int.fmod_lt_of_pos x hm
    refine r_bin (v := .int (Int.fmod x m)) (if_pos (by lia : ¬ m = 0)) ?_
    obtain ⟨r, hr⟩ := Int.eq_ofNat_of_zero_le h1
    rw [hr] at h2 ⊢
    exact q r _ _ h2 H
  refine r_item_l (v := .ref 2) (by walk_at "at") (by exact rfl) ?_
  refine r_len_l (xs := W.ys) (by walk_at "at") yl (r_cmp rfl ?_)
  by_cases h : W.at_ < W.ys.length
  · obtain ⟨x, hx⟩ : ∃ x, W.ys[W.at_]? = some x := ⟨_, List.getElem?_eq_getElem h⟩
    obtain ⟨i, rfl⟩ := Y.1 x (List.mem_of_getElem? hx)
    refine IfB.t (by simpa using h) (r_item_l (v := .ref 2) (by walk_at "at") (by exact rfl) ?_)
    exact r_item_l (xs := W.ys) (by walk_at "at") (row_at hx yl) (fin i _ H1)
  · obtain ⟨v, hv⟩ := pad_at W.at_
    refine IfB.f (by simpa using h) (r_bin rfl (r_item hv (fin v _ H1)))
theorem s_array {Q : FV → Store → Prop} (H : Is W L σ) (T : TW W) (z : W.rows.length ≤ 5000) (q : ∀ i W' σ', Put W (.tup [.int 11, .int 7, .int 0]) i W' → Is W' L σ' → Q (.int (i : Nat)) σ') : RunT 8 (run X (n + 3) (.st (.ref 314)) [.ref 5, .int 7, .int 0]) σ Q := by
  refine r_go [("tab", .ref 5), ("elem", .int 7), ("ro", .int 0)] rfl rfl rfl ?_
  refine r_cal_i (by walk_at "at") (by walk_at "at") (by exact rfl) (by exact rfl) ?_
  exact r_met (s_put H T rfl z q)
theorem s_strA {Q : FV → Store → Prop} (H : Is W L σ) (T : TW W) (z : W.rows.length ≤ 5000) (q : ∀ i W' σ', Put W (.tup [.int 3, .str ⟨#[97]⟩, .int 0]) i W' → Is W' L σ' → Q (.int (i : Nat)) σ') : RunT 8 (run X (n + 3) (.st (.ref 283)) [.ref 5, .str ⟨#[97]⟩]) σ Q := by
  refine r_go [("tab", .ref 5), ("text", .str ⟨#[97]⟩), ("fresh", .int 0)] rfl rfl rfl ?_
  refine r_cal_i (by walk_at "at") (by walk_at "at") (by exact rfl) (by exact rfl) ?_
  exact r_met (s_put H T rfl z q)
noncomputable def sigRow : FV := .tup [.int 13, .tup [], .tup [], .int 0, .tup [], .int 0]
theorem s_sig {Q : FV → Store → Prop} (H : Is W L σ) (T : TW W) (z : W.rows.length ≤ 5000) (q : ∀ i W' σ', Put W sigRow i W' → Is W' L σ' → Q (.int (i : Nat)) σ') : RunT 8 (run X (n + 3) (.st (.ref 340)) [.ref 5, .tup [], .tup [], .int 0, .tup [], .int 0]) σ Q := by
  refine r_go [("tab", .ref 5), ("tparams", .tup []), ("params", .tup []), ("ret", .int 0), ("pred", .tup []), ("flags", .int 0)] rfl rfl rfl ?_
  refine r_cal_i (by walk_at "at") (by walk_at "at") (by exact rfl) (by exact rfl) ?_
  refine r_tuple_t (r_tuple_t ?_)
  exact r_met (s_put H T rfl z q)
theorem s_ref {Q : FV → Store → Prop} {d : Int} (H : Is W L σ) (T : TW W) (z : W.rows.length ≤ 5000) (q : ∀ i W' σ', Put W (.tup [.int 9, .int d, .tup []]) i W' → Is W' L σ' → Q (.int (i : Nat)) σ') : RunT 8 (run X (n + 3) (.st (.ref 306)) [.ref 5, .int d, .tup []]) σ Q := by
  refine r_go [("tab", .ref 5), ("did", .int d), ("args", .tup [])] rfl rfl rfl ?_
  refine r_cal_i (by walk_at "at") (by walk_at "at") (by exact rfl) (by exact rfl) ?_
  refine r_tuple_t ?_
  exact r_met (s_put H T rfl z q)
end
local macro_rules | `(tactic| walk_at "s") => `(tactic| refine r_sattrF (by assumption) (by walk_at "mem") (by walk_at "upd") (by exact rfl) (by exact rfl) (by exact Nat.le_of_ble_eq_true rfl) fun _ _ => ?_)
section
variable {n : Nat} {W W' W'' : Wd} {L L' : List (Nat × MO)} {σ : Store} {l c : Nat}
/-- sizes, all below one number -/
structure Sz (W : Wd) (c : Nat) : Prop where
  rows : W.rows.length ≤ c
  bounds : W.bounds.length ≤ c
  defaults : W.defaults.length ≤ c
  names : W.names.length ≤ c
  decls : W.decls.length ≤ c
  diags : W.diags.length ≤ c
  notes : W.notes.length ≤ c
/-- what has grown -/
structure Le (W W' : Wd) : Prop where
  rows : ∃ t, W'.rows = W.rows ++ t
  bounds : ∃ t, W'.bounds = W.bounds ++ t
  decls : ∃ t, W'.decls = W.decls ++ t
  obj : ∀ p ∈ W.obj, p ∈ W'.obj
  ys : W'.ys = W.ys
  taken : W'.taken = W.taken
theorem Le.refl (W : Wd) : Le W W := ⟨⟨[], by simp⟩, ⟨[], by simp⟩, ⟨[], by simp⟩, fun _ h => h, rfl, rfl⟩
theorem app_trans {α : Type} {a b c : List α} (x : ∃ t, b = a ++ t) (y : ∃ t, c = b ++ t) : ∃ t, c = a ++ t := by
  obtain ⟨t, rfl⟩ := x; obtain ⟨u, rfl⟩ := y; exact ⟨t ++ u, by rw [List.append_assoc]⟩
theorem Le.trans (x : Le W W') (y : Le W' W'') : Le W W'' := ⟨app_trans x.rows y.rows, app_trans x.bounds y.bounds, app_trans x.decls y.decls, fun p h => y.obj p (x.obj p h), y.ys.trans x.ys, y.taken.trans x.taken⟩
theorem app_get {α : Type} {a b : List α} {i : Nat} {v : α} (x : ∃ t, b = a ++ t) (h : a[i]? = some v) : b[i]? = some v := by
  obtain ⟨t, rfl⟩ := x
  rw [List.getElem?_append_left (List.getElem?_eq_some_iff.mp h).1]; exact h
theorem Put.le {row : FV} {i : Nat} (p : Put W row i W') : Le W W' := by
  obtain ⟨h1, ⟨t, h2, _⟩, h3, h4⟩ := p
  rw [h4]
  exact ⟨⟨t, h2⟩, ⟨[], by simp⟩, ⟨[], by simp⟩, fun _ h => h, rfl, rfl⟩
theorem Put.sz {row : FV} {i : Nat} (p : Put W row i W') (s : Sz W c) : Sz W' (c + 1) := by
  obtain ⟨h1, ⟨t, h2, h5⟩, h3, h4⟩ := p
  rw [h4]
  obtain ⟨a1, a2, a3, a4, a5, a6, a7⟩ := s
  exact ⟨by rw [h2, List.length_append]; omega, by simp only; omega, by simp only; omega, by simp only; omega, by simp only; omega, by simp only; omega, by simp only; omega⟩
theorem Sz.le (s : Sz W c) {d : Nat} (h : c ≤ d) : Sz W d := ⟨Nat.le_trans s.1 h, Nat.le_trans s.2 h, Nat.le_trans s.3 h, Nat.le_trans s.4 h, Nat.le_trans s.5 h, Nat.le_trans s.6 h, Nat.le_trans s.7 h⟩

/-- a type parameter is made -/
structure NewP (W : Wd) (c : Nat) (b : Int) (i : Nat) (W' : Wd) : Prop where
  le : Le W W'
  tw : TW W'
  sz : Sz W' (c + 1)
  row : ∃ p : Nat, W'.rows[i]? = some (.tup [.int 10, .int p]) ∧ W'.bounds[p]? = some (.int b)
  dn : W'.diags = W.diags ∧ W'.notes = W.notes
theorem s_param {Q : FV → Store → Prop} {nm : PySem.Str} {b : Int} (H : Is W L σ) (T : TW W) (S : Sz W c) (hc : c ≤ 4000) (q : ∀ i W' σ', NewP W c b i W' → Is W' L σ' → Q (.int (i : Nat)) σ') : RunT 8 (run X (n + 3) (.st (.ref 355)) [.ref 5, .str nm, .int b]) σ Q := by
  have ln : ∀ {m : Nat}, m ≤ c → m ≤ lim := fun h => by show _ ≤ 1000000; omega
  refine r_go [("tab", .ref 5), ("name", .str nm), ("bound", .int b), ("default", .int (-1))] rfl rfl rfl ?_
  walk_at "a"
  refine r_len_l (xs := W.bounds) (by walk_at "at") (ln S.bounds) ?_
  walk_at "a"
  refine r_cal_l (by walk_at "at") (r_app (xs := W.bounds) (by walk_at "at") (by decide) (ln S.bounds) ?_)
  have H1 : Is { W with bounds := W.bounds ++ [.int b] } L _ := H.setC (o := .lst (W.bounds ++ [.int b])) (l := 9) (by decide) rfl (by repeat first | exact .here | apply UpdL.there) rfl rfl
  generalize List.set σ 9 _ = σ1 at H1 ⊢
  walk_at "a"
  refine r_cal_l (by walk_at "at") (r_app (xs := W.defaults) (by walk_at "at") (by decide) (ln S.defaults) ?_)
  have H2 : Is { W with bounds := W.bounds ++ [.int b], defaults := W.defaults ++ [.int (-1)] } L _ := H1.setC (o := .lst (W.defaults ++ [.int (-1)])) (l := 10) (by decide) rfl (by repeat first | exact .here | apply UpdL.there) rfl rfl
  generalize List.set σ1 10 _ = σ2 at H2 ⊢
  walk_at "a"
  refine r_cal_l (by walk_at "at") (r_app (xs := W.names) (by walk_at "at") (by decide) (ln S.names) ?_)
  have H3 : Is { W with bounds := W.bounds ++ [.int b], defaults := W.defaults ++ [.int (-1)], names := W.names ++ [.str nm] } L _ := H2.setC (o := .lst (W.names ++ [.str nm])) (l := 11) (by decide) rfl (by repeat first | exact .here | apply UpdL.there) rfl rfl
  generalize List.set σ2 11 _ = σ3 at H3 ⊢
  refine r_cal_i (by walk_at "at") (by walk_at "at") (by exact rfl) (by exact rfl) ?_
  refine r_met (s_put (row := .tup [.int 10, .int W.bounds.length]) H3 ⟨T.ix, T.key, T.nd⟩ rfl (by have := S.rows; simp only; omega) fun i W' σ' p H4 => ?_)
  refine q i W' σ' ⟨(Le.mk ⟨[], by simp⟩ ⟨[.int b], rfl⟩ ⟨[], by simp⟩ (fun _ h => h) rfl rfl : Le W { W with bounds := W.bounds ++ [.int b], defaults := W.defaults ++ [.int (-1)], names := W.names ++ [.str nm] }).trans p.le, p.tw, ?_, ⟨W.bounds.length, p.at_, app_get p.le.bounds (by simp)⟩, by rw [p.rest]; exact ⟨rfl, rfl⟩⟩ H4
  obtain ⟨h1, ⟨t, h2, h5⟩, h3, h4⟩ := p
  rw [h4]
  obtain ⟨a1, a2, a3, a4, a5, a6, a7⟩ := S
  simp only at h2
  exact ⟨by rw [h2, List.length_append]; omega, by simp; omega, by simp; omega, by simp; omega, by simp only; omega, by simp only; omega, by simp only; omega⟩

/-- a declaration's attributes -/
noncomputable def declA (did k made m v : FV) : List (PySem.Str × FV) := [("did", did), ("kind", k), ("name", .str ⟨#[78]⟩), ("params", .tup []), ("body", made), ("bases", .tup []), ("static", .int (-1)), ("extends_class", .int 0), ("abstract", .bool false), ("members", m), ("variances", v),
  ("busy", .int 0), ("at", .int 0), ("file", .str ⟨#[]⟩), ("nid", .int 0)]
set_option maxHeartbeats 4000000 in
theorem s_decl {Q : FV → Store → Prop} {k : Int} (H : Is W L σ) (S : Sz W c) (hc : c ≤ 4000)
    (q : ∀ l d m v σ', Is { W with decls := W.decls ++ [.ref l] } ((l, .ins 264 d) :: (d, .att (declA (.int W.decls.length) (.int k) (.int (-1)) (.ref m) (.ref v))) :: L) σ' → Q (.ref l) σ') : RunT 8 (run X (n + 3) (.st (.ref 362)) [.ref 5, .int k, .str ⟨#[78]⟩]) σ Q := by
  have ln : ∀ {m : Nat}, m ≤ c → m ≤ lim := fun h => by show _ ≤ 1000000; omega
  refine r_go [("tab", .ref 5), ("kind", .int k), ("name", .str ⟨#[78]⟩)] rfl rfl rfl ?_
  walk_at "a"
  refine r_len_l (xs := W.decls) (by walk_at "at") (ln S.decls) ?_
  refine r_cls H rfl rfl rfl fun d l σ1 H1 => ?_
  have H0 : Is W ((l, .ins 264 d) :: (d, .att ((declA (.int W.decls.length) (.int k) (.int (-1)) .none .none).take 0)) :: L) σ1 := H1
  clear H1
  refine r_go [("self", .ref l), ("did", .int W.decls.length), ("kind", .int k), ("name", .str ⟨#[78]⟩)] rfl rfl rfl ?_
  repeat walk_at "s"
  refine r_alloc (by assumption) fun m σ2 H2 => ?_
  have H2' : Is W ((m, .lst []) :: (l, .ins 264 d) :: (d, .att ((declA (.int W.decls.length) (.int k) (.int (-1)) (.ref m) .none).take 9)) :: L) σ2 := H2
  clear H2
  walk_at "s"
  refine r_alloc (by assumption) fun v σ3 H3 => ?_
  have H3' : Is W ((v, .lst []) :: (m, .lst []) :: (l, .ins 264 d) :: (d, .att ((declA (.int W.decls.length) (.int k) (.int (-1)) (.ref m) (.ref v)).take 10)) :: L) σ3 := H3
  clear H3
  repeat walk_at "s"
  rename_i H4
  have H5 : Is W ((l, .ins 264 d) :: (d, .att (declA (.int W.decls.length) (.int k) (.int (-1)) (.ref m) (.ref v))) :: L) _ := H4.drop.drop
  clear H4
  walk_at "a"
  refine r_cal_l (by walk_at "at") (r_app (xs := W.decls) (by walk_at "at") (by decide) (ln S.decls) ?_)
  exact q l d m v _ (H5.setC (W' := { W with decls := W.decls ++ [.ref l] }) (o := .lst (W.decls ++ [.ref l])) (l := 8) (by decide) rfl (by repeat first | exact .here | apply UpdL.there) rfl rfl)
end
section
variable {n : Nat} {W W' W'' : Wd} {L L' : List (Nat × MO)} {σ : Store} {l c : Nat}
/-- a property: name, kind, flags, private or not -/
structure Pr where
  nm : PySem.Str
  k : Int
  fl : Int
  pv : Int
noncomputable def Pr.f (p : Pr) : FV := .tup [.str p.nm, .int p.k, .int p.fl, .int p.pv]
noncomputable def prD (ps : List Pr) : List (FV × FV) := ps.map fun p => (.str p.nm, p.f)
theorem eqF_str (a b : PySem.Str) : eqF (.str a) (.str b) = decide (a = b) := by show (a == b) = _; by_cases h : a = b <;> simp [h]
theorem homog_pr {x : PySem.Str} {ps : List Pr} : homog (.str x) (prD ps) = true := by
  exact List.all_eq_true.mpr fun p hp => let ⟨k, _, e⟩ := List.mem_map.mp hp; e ▸ rfl
theorem ins_pr {p : Pr} : ∀ {ps : List Pr}, p.nm ∉ ps.map (·.nm) → kvIns (.str p.nm) p.f (prD ps) = prD (ps ++ [p])
  | [], _ => rfl
  | a :: ps, h => by
    rw [List.map_cons, List.mem_cons, not_or] at h
    have ih := @ins_pr p ps h.2
    unfold prD at ih ⊢
    simp only [List.map_cons, kvIns_c, eqF_str, List.cons_append, ih]
    rw [if_neg (by simp; exact fun e => h.1 e.symm)]
theorem get_pr {p : Pr} : ∀ {ps : List Pr}, (ps.map (·.nm)).Nodup → p ∈ ps → kvFind (.str p.nm) (prD ps) = some p.f
  | [], _, h => by cases h
  | a :: ps, nd, h => by
    rw [List.map_cons, List.nodup_cons] at nd
    show (if eqF (.str a.nm) (.str p.nm) = true then some a.f else kvFind (.str p.nm) (prD ps)) = _
    rw [eqF_str]
    rcases List.mem_cons.mp h with rfl | h
    · simp
    · rw [if_neg (by simp; intro e; exact nd.1 (e ▸ List.mem_map_of_mem h))]
      exact get_pr nd.2 h
/-- the names rise -/
noncomputable def Rising (ps : List Pr) : Prop := (ps.map (·.nm)).Nodup ∧ ps.length ≤ 3 ∧ sortM (ps.map fun p => FV.str p.nm) = some (ps.map fun p => FV.str p.nm)
theorem s_props {Q : FV → Store → Prop} {pl : Nat} {ps : List Pr} (H : Is W L σ) (hp : (pl, .lst (ps.map Pr.f)) ∈ L) (hr : Rising ps) (q : ∀ σ', Is W L σ' → Q (.tup (ps.map Pr.f)) σ') : RunT 8 (run X (n + 10) (.st (.ref 319)) [.ref pl]) σ Q := by
  obtain ⟨nd, h3, hso⟩ := hr
  refine r_go [("props", .ref pl)] rfl rfl rfl ?_
  refine r_alloc H fun g σ1 H1 => ?_
  refine r_items_l (H1.loc _ _ (.tail _ hp)) ?_
  refine for_list (xs := ps.map Pr.f) (R := fun _ _ => False)
    (P := fun i c σ => c = envOf (stm 75) ([("props", .ref pl), ("found", .ref g)] : En) ∧ Is W ((g, .dct (prD (ps.take i))) :: L) σ)
    (fun i c σ K ⟨_, H2⟩ k => r_items_l (H2.loc _ _ (.tail _ hp)) k) ?_ ?_ (fun _ _ _ h => h.elim) _ 0 _ _ ⟨rfl, H1⟩ (Nat.zero_le _) (by simp; omega)
  · rintro i x c σ2 K ⟨rfl, H2⟩ hx next _
    rw [List.getElem?_map] at hx
    cases hy : ps[i]? with
    | none => rw [hy] at hx; cases hx
    | some p =>
      rw [hy] at hx
      have hx : x = p.f := by simpa using hx.symm
      subst hx
      have hti : ps.take (i + 1) = ps.take i ++ [p] := by rw [List.take_add_one, hy]; rfl
      have hnm : p.nm ∉ (ps.take i).map (·.nm) := fun h => by
        have nd' : ((ps.take (i + 1)).map (·.nm)).Nodup := by rw [List.map_take]; exact (List.take_sublist _ _).nodup nd
        rw [hti, List.map_append, List.nodup_append] at nd'
        exact nd'.2.2 _ h _ (by simp) rfl
      have put : kvPut (.str p.nm) p.f (prD (ps.take i)) = some (prD (ps.take (i + 1))) := by
        unfold kvPut
        rw [if_pos ⟨homog_pr, by unfold prD; rw [List.length_map, List.length_take]; omega⟩, ins_pr hnm, hti]
      have fin : ∀ σ3, Is W ((g, .dct (prD (ps.take (i + 1)))) :: L) σ3 → K .next (envOf (stm 75) ([("props", .ref pl), ("found", .ref g), ("prop", p.f)] : En)) σ3 := fun σ3 H3 => (next _ _ ⟨rfl, H3⟩).1
      exact r_item (v := .str p.nm) rfl (r_setdL H2 .here put fin)
  · rintro c σ2 ⟨rfl, H2⟩
    rw [List.length_map, List.take_length] at H2
    have keys : (prD ps).map (·.1) = ps.map fun p => FV.str p.nm := by unfold prD; simp
    have all2 : ((prD ps).all (fun p => keyK p.1 == 1) || (prD ps).all (fun p => keyK p.1 == 2)) = true := by
      have : (prD ps).all (fun p => keyK p.1 == 2) = true := List.all_eq_true.mpr fun p hp => let ⟨k, _, e⟩ := List.mem_map.mp hp; e ▸ rfl
      rw [this, Bool.or_true]
    have l3 : ∀ {m : Nat}, m ≤ 3 → m ≤ lim := fun h => Nat.le_trans ‹_› (Nat.le_of_ble_eq_true rfl)
    all_goals
      refine (r_sorted_d H2 (by walk_at "at") all2 (by rw [keys]; exact hso) fun k σ3 H3 => ?_)
      refine r_itemsC_l (by walk_at "at") (by rw [List.length_map]; exact l3 h3) ?_
      refine comp_list (xs := ps.map fun p => FV.str p.nm) (P := fun i out σ => out = (ps.take i).map Pr.f ∧ Is W ((k, .lst (ps.map fun p => FV.str p.nm)) :: (g, .dct (prD ps)) :: L) σ)
        (fun i out σ K ⟨_, H4⟩ h => r_items_l (by walk_at "at") h) ?_ ?_ _ 0 _ _ ⟨rfl, H3⟩ (Nat.zero_le _) (by lia)
      · rintro i x out σ4 K ⟨rfl, H4⟩ hx next
        rw [List.getElem?_map] at hx
        cases hy : ps[i]? with
        | none => rw [hy] at hx; cases hx
        | some p =>
          rw [hy] at hx
          have hx : x = .str p.nm := by simpa using hx.symm
          subst hx
          have hti : ps.take (i + 1) = ps.take i ++ [p] := by rw [List.take_add_one, hy]; rfl
          refine IfB.t rfl (r_item_d (v := p.f) (by walk_at "at") (by unfold kvGet; rw [if_pos homog_pr, get_pr nd (List.mem_of_getElem? hy)]) ⟨l3 (by rw [List.length_map, List.length_take]; omega), next _ _ ⟨by rw [hti, List.map_append]; rfl, H4⟩⟩)
      · rintro out σ4 ⟨rfl, H4⟩
        rw [List.length_map, List.take_length]
        refine r_alloc H4 fun kp σ5 H5 => ?_
        exact r_tuple_l (xs := ps.map Pr.f) (by walk_at "at") (by rw [List.length_map]; exact l3 h3) (q _ H5.drop.drop.drop)

noncomputable def objRow (ps : List Pr) (calls ctors s m : FV) : FV := .tup [.int 8, .tup (ps.map Pr.f), calls, ctors, s, m, .int 0]
theorem hk_prs : ∀ (ps : List Pr), hkL 5 (ps.map Pr.f) = true
  | [] => rfl
  | p :: ps => by
    show (true && hkL 5 (ps.map Pr.f)) = true
    rw [hk_prs ps]; rfl
theorem key_obj {ps : List Pr} {calls ctors s m : FV} (h1 : hkT 6 calls = true) (h2 : hkT 6 ctors = true) (h3 : hkT 6 s = true) (h4 : hkT 6 m = true) : keyK (objRow ps calls ctors s m) = 3 := by
  show (if (hkT 6 (.int 8) && (hkL 5 (ps.map Pr.f) && (hkT 6 calls && (hkT 6 ctors && (hkT 6 s && (hkT 6 m && (hkT 6 (.int 0) && true))))))) = true then 3 else 0) = 3
  rw [hk_prs, h1, h2, h3, h4]; rfl
theorem s_obj {Q : FV → Store → Prop} {pl : Nat} {ps : List Pr} {cs ks : List FV} {s m : FV} (H : Is W L σ) (T : TW W) (z : W.rows.length ≤ 5000) (hp : (pl, .lst (ps.map Pr.f)) ∈ L) (hr : Rising ps) (h1 : hkT 6 (.tup cs) = true) (h2 : hkT 6 (.tup ks) = true) (h3 : hkT 6 s = true) (h4 : hkT 6 m = true)
    (q : ∀ i W' σ', Put W (objRow ps (.tup cs) (.tup ks) s m) i W' → Is W' L σ' → Q (.int (i : Nat)) σ') : RunT 8 (run X (n + 11) (.st (.ref 331)) [.ref 5, .ref pl, .tup cs, .tup ks, s, m, .int 0]) σ Q := by
  refine r_go [("tab", .ref 5), ("props", .ref pl), ("calls", .tup cs), ("ctors", .tup ks), ("sindex", s), ("nindex", m), ("fresh", .int 0)] rfl rfl rfl ?_
  refine r_cal_i (by walk_at "at") (by walk_at "at") (by exact rfl) (by exact rfl) ?_
  refine s_props H hp hr fun σ1 H1 => r_tuple_t (r_tuple_t ?_)
  exact r_met (s_put H1 T (key_obj h1 h2 h3 h4) z q)
end
section
variable {n : Nat} {W W' W'' : Wd} {L L' : List (Nat × MO)} {σ : Store} {l c : Nat}
/-- a kind that a part is not opened by -/
noncomputable def shut (k : Int) : Prop := k ≠ 10 ∧ k ≠ 15 ∧ k ≠ 16 ∧ k ≠ 19 ∧ k ≠ 7 ∧ k ≠ 14 ∧ k ≠ 12
/-- what bounds a part -/
inductive Bnd (W : Wd) (t b : Nat) (k : Int) : Prop
  | self : Id W t k → shut k → b = t → Bnd W t b k
  | par (p : Nat) (x : Int) : W.rows[t]? = some (.tup [.int 10, .int p]) → W.bounds[p]? = some (.int x) → (b : Int) = (if x < 0 ∨ x = 0 then 1 else x) → b ≠ t → t ≠ 2 → Id W b k → shut k → Bnd W t b k

theorem s_force {Q : FV → Store → Prop} {v : FV} (q : Q v σ) : RunT 8 (run X (n + 1) (.st (.ref 472)) [.ref 19, v]) σ Q := r_go [("self", .ref 19), ("t", v)] rfl rfl rfl q
theorem s_bound {Q : FV → Store → Prop} {t b : Nat} {k : Int} (H : Is W L σ) (z : W.rows.length ≤ lim) (zb : W.bounds.length ≤ lim) (B : Bnd W t b k) (q : Q (.int b) σ) : RunT 8 (run X (n + 2) (.st (.ref 728)) [.ref 19, .int t]) σ Q := by
  refine r_go [("self", .ref 19), ("t", .int t)] rfl rfl rfl ?_
  walk_at "a"
  refine r_go [("tab", .ref 5), ("t", .int t)] rfl rfl rfl ?_
  walk_at "a"
  cases B with
  | self I hs hb =>
    subst hb
    obtain ⟨⟨row, hr, hk⟩, _⟩ := I
    refine r_item_l (by walk_at "at") (row_at hr z) (r_item hk.1 (r_cmp rfl (IfB.t (by simp; exact hs.1) ?_)))
    exact q
  | par p x hr hx hb hbt h2 I hs =>
    refine r_item_l (by walk_at "at") (row_at hr z) (r_item (v := .int 10) rfl (r_cmp rfl (IfB.f rfl ?_)))
    walk_at "a"
    refine r_item (v := .int p) rfl (r_item_l (xs := W.bounds) (by walk_at "at") (row_at hx zb) ?_)
    refine r_cmp rfl ?_
    by_cases h0 : x < 0
    · rw [if_pos (.inl h0)] at hb
      refine IfB.t (by simpa using h0) (IfB.t rfl ?_)
      rw [hb] at q; exact q
    · refine IfB.f (by simpa using h0) (r_cmp rfl ?_)
      by_cases h1 : x = 0
      · rw [if_pos (.inr h1)] at hb
        refine IfB.t (by simpa using h1) (IfB.t rfl ?_)
        rw [hb] at q; exact q
      · rw [if_neg (by lia)] at hb
        refine IfB.f (by simpa using h1) (IfB.f rfl ?_)
        rw [hb] at q; exact q

theorem Bnd.id {t b : Nat} {k : Int} (B : Bnd W t b k) : ∃ k', Id W t k' := by
  cases B with
  | self I _ _ => exact ⟨k, I⟩
  | par p x hr _ _ _ h2 _ _ => exact ⟨10, ⟨_, hr, rfl, by decide, by decide, by decide, by lia⟩, h2⟩
theorem Bnd.to {t b : Nat} {k : Int} (B : Bnd W t b k) : Id W b k ∧ shut k := by
  cases B with
  | self I hs hb => exact ⟨hb ▸ I, hs⟩
  | par p x _ _ _ _ _ I hs => exact ⟨I, hs⟩
theorem Is.ne01 {a b : Nat} {x y : MO} (H : Is W ((a, x) :: (b, y) :: L) σ) : a ≠ b := by
  have := H.nd
  simp only [List.cons_append, List.map_cons, List.nodup_cons, List.mem_cons, not_or] at this
  exact this.1.1
theorem r_extLL {call : CallT} {e : Nat} {xs ys : List FV} {Q : FV → Store → Prop} (H : Is W ((e, .lst ys) :: (l, .lst xs) :: L) σ) (z : xs.length + ys.length ≤ lim) (q : ∀ σ', Is W ((e, .lst ys) :: (l, .lst (xs ++ ys)) :: L) σ' → Q .none σ') : RunT 7 (methM call .lst (.ref l) "extend" [.ref e]) σ Q :=
  r_ext_l (H.loc _ _ (.tail _ (.head _))) (H.loc _ _ (.head _)) H.ne01 (H.ge2 (.tail _ (.head _))) z (q _ (H.setL (.there .here)))

noncomputable abbrev loopW (call : CallT) (n : Nat) (s : Stmt) : Nat → Lc → Wx := wwhile (fun c K σ => wtest X call (wT s) c (wev X call (wT s) c) K σ) (fun c K σ => wexs X call n (wB s) c K σ)
theorem w_env {call : CallT} {s : Stmt} {c c' : Lc} {m n : Nat} {Q : Fl → Lc → Store → Prop} (e : c = c') (h : loopW call n s m c' Q σ) : loopW call n s m c Q σ := e ▸ h
noncomputable def seS : Stmt := (fBody (stm 111)).getD 2 (.Pass ⟨0, 0, 0, 0⟩)
noncomputable def seE (t o w : Nat) (ex : En) : Lc := envOf (stm 111) (([("cx", .ref 27), ("t", .int t), ("out", .ref o), ("waiting", .ref w)] : En) ++ ex)
theorem shut_open {k : Int} (h : shut k) : ([FV.int 10, FV.int 15, FV.int 16, FV.int 19, FV.int 7].any fun y => eqF y (.int k)) = false := by
  obtain ⟨s1, s2, s3, s4, s5, _, _⟩ := h
  simp only [List.any_cons, List.any_nil, eqF_int, Bool.or_false, decide_eq_false (Ne.symm s1), decide_eq_false (Ne.symm s2), decide_eq_false (Ne.symm s3), decide_eq_false (Ne.symm s4), decide_eq_false (Ne.symm s5)]
/-- the last turn -/
theorem seen1 {Q : Fl → Lc → Store → Prop} {t o w b m : Nat} {d k : Int} (H : Is W ((w, .lst [.tup [.int b, .int d]]) :: (o, .lst []) :: L) σ) (z : W.rows.length ≤ lim) (I : Id W b k) (hs : shut k) (hd : d < 12) (q : ∀ σ', Is W ((o, .lst [.int b]) :: L) σ' → Q .next (seE t o w []) σ') :
    loopW (run X (n + 4)) (n + 5) seS (m + 2) (seE t o w []) Q σ := by
  refine r_truth_l (H.loc _ _ (.head _)) (by walk_at "z") (IfB.t rfl (r_cal_l (H.loc _ _ (.head _)) (r_popL H .here rfl (by walk_at "z") fun σ3 H3 => ?_)))
  refine n_sets (c' := seE t o w [("part", .int b), ("deep", .int d)]) rfl ?_
  refine r_cmp rfl (IfB.t (decide_eq_true hd) ?_)
  walk_at "a"
  obtain ⟨⟨rt, hrt, hkt⟩, _⟩ := I
  refine s_kind_of H3 hrt hkt.1 z (r_cmp rfl (IfB.f (shut_open hs) (IfB.f rfl ?_)))
  refine x_env (ss := (wB seS).drop 3) (c' := seE t o w [("part", .int b), ("deep", .int d), ("bound", .int b)]) rfl ?_
  refine r_cmp rfl (IfB.t (decide_eq_true rfl) (r_cal_l (by walk_at "at") (r_appL H3 (.there .here) (by walk_at "z") fun σ4 H4 => ?_)))
  refine w_env (s := seS) (c' := seE t o w []) rfl ?_
  exact r_truth_l (H4.loc _ _ (.head _)) (by walk_at "z") (IfB.f rfl (q σ4 H4.drop))
theorem s_seen {Q : FV → Store → Prop} {t b : Nat} {k : Int} (H : Is W L σ) (z : W.rows.length ≤ lim) (zb : W.bounds.length ≤ lim) (B : Bnd W t b k) (q : ∀ o σ', Is W ((o, .lst [.int b]) :: L) σ' → Q (.ref o) σ') : RunT 8 (run X (n + 5) (.st (.ref 634)) [.ref 27, .int t]) σ Q := by
  obtain ⟨k', It⟩ := B.id
  refine r_go [("cx", .ref 27), ("t", .int t)] rfl rfl rfl ?_
  refine r_alloc H fun o σ1 H1 => ?_
  walk_at "a"
  refine s_parts_of H1 It z (r_itemsC rfl (by walk_at "z") ?_)
  refine r_items rfl (IfB.t rfl ⟨by walk_at "z", r_items rfl ?_⟩)
  refine r_alloc H1 fun w σ2 H2 => ?_
  refine w_env (s := seS) (c' := seE t o w []) rfl ?_
  cases B with
  | self I hs hb => subst hb; exact seen1 H2 z I hs (by decide) (q o)
  | par p x hr hx hb hbt h2 I hs =>
    refine r_truth_l (H2.loc _ _ (.head _)) (by walk_at "z") (IfB.t rfl (r_cal_l (H2.loc _ _ (.head _)) (r_popL H2 .here rfl (by walk_at "z") fun σ3 H3 => ?_)))
    refine n_sets (c' := seE t o w [("part", .int t), ("deep", .int 0)]) rfl ?_
    refine r_cmp rfl (IfB.t rfl ?_)
    walk_at "a"
    refine s_kind_of H3 hr rfl z (r_cmp rfl (IfB.t rfl (IfB.t rfl ?_)))
    walk_at "a"
    walk_at "i"
    walk_at "a"
    walk_at "i"
    refine r_met (s_bound H3 z zb (.par p x hr hx hb hbt h2 I hs) (r_met (s_force ?_)))
    refine x_env (ss := (wB seS).drop 3) (c' := seE t o w [("part", .int t), ("deep", .int 0), ("bound", .int b)]) rfl ?_
    refine r_cmp rfl (IfB.f (decide_eq_false fun e => hbt (by lia)) ?_)
    refine r_cal_l (by walk_at "at") ?_
    walk_at "a"
    refine s_parts_of H3 I z (r_itemsC rfl (by walk_at "z") ?_)
    refine r_items rfl (IfB.t rfl (r_bin rfl ⟨by walk_at "z", r_items rfl ?_⟩))
    refine r_alloc H3 fun e σ4 H4 => ?_
    refine r_extLL H4 (by walk_at "z") fun σ5 H5 => ?_
    refine w_env (s := seS) (c' := seE t o w []) rfl ?_
    exact seen1 H5.drop z I hs (by decide) (q o)
end
section
variable {n : Nat} {W W' W'' : Wd} {L L' : List (Nat × MO)} {σ : Store} {l c : Nat}
theorem union_one {b r : Nat} {k : Int} (hw : wholeK k ≠ b) (h2 : b ≠ 2) (u : UnionR W [b] (fun _ => k) r W') : r = b ∧ W' = W := by
  cases u with
  | top h e =>
    refine ⟨?_, e⟩
    simp only [List.mem_singleton] at h
    rcases h with ⟨rfl, h⟩ | ⟨rfl, _, h⟩ | ⟨rfl, _, _, h⟩ <;> exact h
  | rest kept _ _ _ hp hm h =>
    have hb : b ∈ kept := (hm b).mpr ⟨by simp, by simpa using hw⟩
    have all : ∀ x ∈ kept, x = b := fun x hx => by simpa using ((hm x).mp hx).1
    rcases h with ⟨h, _⟩ | ⟨h, e⟩ | ⟨h, _⟩
    · rw [h] at hb; cases hb
    · rw [h] at hb; exact ⟨(List.mem_singleton.mp hb).symm, e⟩
    · match kept, h with
      | x :: y :: _, _ =>
        have := List.rel_of_pairwise_cons hp (.head _)
        rw [all x (.head _), all y (.tail _ (.head _))] at this
        lia
theorem s_seen_kind {Q : FV → Store → Prop} {t b : Nat} {k : Int} (H : Is W L σ) (T : TW W) (S : Sz W c) (hc : c ≤ 4000) (B : Bnd W t b k) (hb : b ≠ 14 ∧ b ≠ 15) (hw : wholeK k ≠ b) (q : ∀ σ', Is W L σ' → Q (.int b) σ') : RunT 8 (run X (n + 41) (.st (.ref 641)) [.ref 27, .int t]) σ Q := by
  have ln : ∀ {m : Nat}, m ≤ c → m ≤ lim := fun h => by show _ ≤ 1000000; omega
  obtain ⟨I, hs⟩ := B.to
  refine r_go [("cx", .ref 27), ("t", .int t)] rfl rfl rfl ?_
  walk_at "a"
  refine s_seen H (ln S.rows) (ln S.bounds) B fun o σ1 H1 => ?_
  refine s_union (ts := [b]) (kd := fun _ => k) H1 T (Nat.le_trans S.rows hc) (.lst (.head _)) (by simp) (fun t ht => by rw [List.mem_singleton.mp ht]; exact I) (fun t ht => by rw [List.mem_singleton.mp ht]; exact hb) fun r W' σ' u H2 => ?_
  obtain ⟨rfl, rfl⟩ := union_one hw I.never u
  exact q σ' H2.drop

noncomputable def kfK : List (FV × FV) := [(.int 3, .int 6), (.int 4, .int 5), (.int 5, .int 4), (.int 6, .int 1), (.int 7, .int 2), (.int 10, .int 7)]
/-- the family of a kind -/
inductive FamV (b : Nat) : Int → Int → Prop
  | key (o : Option FV) (f : Int) : kvGet (.int b) kfK = some o → o.getD (.int 0) = .int f → FamV b 1 f
  | obj (k : Int) : k = 8 ∨ k = 9 ∨ k = 11 → FamV b k 7
  | str : FamV b 3 1
theorem s_family {Q : FV → Store → Prop} {b : Nat} {k f : Int} (H : Is W L σ) (z : W.rows.length ≤ lim) (I : Id W b k) (F : FamV b k f) (q : Q (.int f) σ) : RunT 8 (run X (n + 2) (.st (.ref 435)) [.ref 5, .int b]) σ Q := by
  obtain ⟨⟨row, hr, hk⟩, _⟩ := I
  refine r_go [("tab", .ref 5), ("t", .int b)] rfl rfl rfl ?_
  walk_at "a"
  refine r_item_l (by walk_at "at") (row_at hr z) (r_item hk.1 ?_)
  refine n_set (c' := envOf (stm 91) [("tab", .ref 5), ("t", .int b), ("row", row), ("kind", .int k)]) rfl (r_cmp rfl ?_)
  cases F with
  | key o f h1 h2 =>
    refine IfB.t rfl (r_cal_d (kvs := kfK) (by walk_at "at") ?_)
    refine r_get (kvs := kfK) (by walk_at "at") h1 ?_
    rw [h2]; exact q
  | obj k hk' =>
    refine IfB.f (by simp; omega) (r_cmp rfl (IfB.f (by simp; omega) (r_cmp rfl (IfB.t (by simp [eqF_int]; lia) ?_))))
    exact q
  | str =>
    refine IfB.f rfl (x_env (ss := (fBody (stm 91)).drop 3) (c' := envOf (stm 91) [("tab", .ref 5), ("t", .int b), ("row", row), ("kind", .int 3)]) rfl (r_cmp rfl (IfB.f rfl (x_env (ss := (fBody (stm 91)).drop 4) (c' := envOf (stm 91) [("tab", .ref 5), ("t", .int b), ("row", row), ("kind", .int 3)]) rfl (r_cmp rfl (IfB.f rfl ?_))))))
    refine x_env (ss := (fBody (stm 91)).drop 5) (c' := envOf (stm 91) [("tab", .ref 5), ("t", .int b), ("row", row), ("kind", .int 3)]) rfl (r_cmp rfl (IfB.f rfl (x_env (ss := (fBody (stm 91)).drop 6) (c' := envOf (stm 91) [("tab", .ref 5), ("t", .int b), ("row", row), ("kind", .int 3)]) rfl (r_cmp rfl (IfB.f rfl ?_)))))
    refine x_env (ss := (fBody (stm 91)).drop 7) (c' := envOf (stm 91) [("tab", .ref 5), ("t", .int b), ("row", row), ("kind", .int 3)]) rfl (s_whole H hk ?_)
    refine n_set (c' := envOf (stm 91) [("tab", .ref 5), ("t", .int b), ("row", row), ("kind", .int 3), ("whole", .int 6)]) rfl (r_cmp rfl (IfB.f rfl ?_))
    exact r_cmp rfl (IfB.t rfl q)

theorem s_no_object {Q : FV → Store → Prop} {t b : Nat} {k f : Int} (H : Is W L σ) (T : TW W) (S : Sz W c) (hc : c ≤ 4000) (B : Bnd W t b k) (hb : b ≠ 14 ∧ b ≠ 15) (hw : wholeK k ≠ b) (F : FamV b k f) (q : ∀ σ', Is W L σ' → Q (.bool (decide (t = 1 ∨ (f ≠ 7 ∧ f ≠ 0)))) σ') :
    RunT 8 (run X (n + 42) (.st (.ref 670)) [.ref 27, .int t]) σ Q := by
  have ln : ∀ {m : Nat}, m ≤ c → m ≤ lim := fun h => by show _ ≤ 1000000; omega
  obtain ⟨I, hs⟩ := B.to
  refine r_go [("cx", .ref 27), ("part", .int t)] rfl rfl rfl ?_
  walk_at "a"
  refine s_seen_kind H T S hc B hb hw fun σ1 H1 => ?_
  refine s_parts_of H1 I (ln S.rows) (r_items rfl (r_items rfl (r_cmp rfl ?_)))
  by_cases h1 : t = 1
  · subst h1
    refine IfB.t rfl (IfB.t rfl ?_)
    have := q σ1 H1
    rw [decide_eq_true (.inl rfl)] at this
    exact this
  · refine IfB.f (by simp; lia) ?_
    walk_at "a"
    refine s_family H1 (ln S.rows) I F (r_cmp rfl ?_)
    by_cases hf : f ≠ 7 ∧ f ≠ 0
    · refine IfB.t (by simp [eqF_int]; lia) (IfB.t rfl ?_)
      have := q σ1 H1
      rw [decide_eq_true (.inr hf)] at this
      exact this
    · refine IfB.f (by simp [eqF_int]; lia) (IfB.f rfl (r_items rfl ?_))
      have := q σ1 H1
      rw [decide_eq_false (by lia)] at this
      exact this
end
section
variable {n : Nat} {W W' W'' : Wd} {L L' : List (Nat × MO)} {σ : Store} {l c : Nat}
theorem eqL_one (a b : Int) : cmpV .Eq (.tup [.int a]) (.tup [.int b]) = some (decide (a = b)) := by
  show (if (hkT 7 (.tup [.int a]) && hkT 7 (.tup [.int b])) = true then some (eqF (.tup [.int a]) (.tup [.int b])) else none) = _
  refine (if_pos (rfl : (hkT 7 (.tup [.int a]) && hkT 7 (.tup [.int b])) = true)).trans ?_
  exact congrArg some ((Bool.and_true _ : ((a == b) && true) = (a == b)).trans (by by_cases h : a = b <;> simp [h]))
theorem put_new {x : Int} {ks : List Int} (hz : ks.length ≤ 1000) (h : x ∉ ks) : kvPut (.int x) (.int 1) (gotD ks) = some (gotD (ks ++ [x])) := by
  unfold kvPut
  rw [if_pos ⟨homog_got, by unfold gotD; rw [List.length_map]; lia⟩, ins_got]
  unfold addK; rw [if_neg h]
noncomputable def fiS : Stmt := (fBody (stm 96)).getD 3 (.Pass ⟨0, 0, 0, 0⟩)
noncomputable def fiE (t o g w : Nat) (ex : En) : Lc := envOf (stm 96) (([("host", .ref 19), ("t", .int t), ("out", .ref o), ("seen", .ref g), ("waiting", .ref w)] : En) ++ ex)
/-- a turn, as far as its row -/
theorem fin0 {Q : Fl → Lc → Store → Prop} {t o g w b m : Nat} {ks : List Int} {row : FV} (H : Is W ((w, .lst [.int b]) :: (g, .dct (gotD ks)) :: L) σ) (z : W.rows.length ≤ lim) (hr : W.rows[b]? = some row) (hb : (b : Int) ∉ ks) (hz : ks.length ≤ 10)
    (q : ∀ σ', Is W ((w, .lst []) :: (g, .dct (gotD (ks ++ [(b : Int)]))) :: L) σ' → wexs X (run X (n + 4)) (n + 5) ((wB fiS).drop 4) (fiE t o g w [("at", .int b), ("row", row)]) (fun fl d σ => match fl with
      | .ret r => Q (.ret r) d σ
      | _ => loopW (run X (n + 4)) (n + 5) fiS (m + 1) (keepN (fiE t o g w []) d) Q σ) σ') : loopW (run X (n + 4)) (n + 5) fiS (m + 2) (fiE t o g w []) Q σ := by
  refine r_truth_l (H.loc _ _ (.head _)) (by walk_at "z") (IfB.t rfl ?_)
  walk_at "i"
  refine r_cal_l (by walk_at "at") (r_popL H .here rfl (by walk_at "z") fun σ4 H4 => r_met (s_force ?_))
  refine n_set (c' := fiE t o g w [("at", .int b)]) rfl (r_in_d (by walk_at "at") get_got (IfB.f (by rw [if_neg hb]; rfl) ?_))
  refine x_env (ss := (wB fiS).drop 2) (c' := fiE t o g w [("at", .int b)]) rfl (r_setdL H4 (.there .here) (put_new (by omega) hb) fun σ5 H5 => ?_)
  walk_at "a"
  walk_at "a"
  refine r_item_l (by walk_at "at") (row_at hr z) (n_set (c' := fiE t o g w [("at", .int b), ("row", row)]) rfl ?_)
  exact q σ5 H5
/-- the last turn -/
theorem fin1 {Q : Fl → Lc → Store → Prop} {t o g w b m : Nat} {k : Int} {ks : List Int} (H : Is W ((w, .lst [.int b]) :: (g, .dct (gotD ks)) :: (o, .lst []) :: L) σ) (z : W.rows.length ≤ lim) (zb : W.bounds.length ≤ lim) (I : Id W b k) (hs : shut k) (hb : (b : Int) ∉ ks) (hz : ks.length ≤ 10)
    (q : ∀ σ', Is W ((o, .lst [.int b]) :: L) σ' → Q .next (fiE t o g w []) σ') : loopW (run X (n + 4)) (n + 5) fiS (m + 2) (fiE t o g w []) Q σ := by
  have B : Bnd W b b k := .self I hs rfl
  obtain ⟨⟨row, hr, hk⟩, _⟩ := I
  refine fin0 H z hr hb hz fun σ5 H5 => ?_
  have rest : wexs X (run X (n + 4)) (n + 5) ((wB fiS).drop 5) (fiE t o g w [("at", .int b), ("row", row), ("more", .tup [.int b])]) (fun fl d σ => match fl with
      | .ret r => Q (.ret r) d σ
      | _ => loopW (run X (n + 4)) (n + 5) fiS (m + 1) (keepN (fiE t o g w []) d) Q σ) σ5 := by
    refine r_cmp (eqL_one _ _) (IfB.t (decide_eq_true rfl) (r_cal_l (by walk_at "at") (r_appL H5 (.there (.there .here)) (by walk_at "z") fun σ6 H6 => ?_)))
    refine w_env (s := fiS) (c' := fiE t o g w []) rfl ?_
    exact r_truth_l (H6.loc _ _ (.head _)) (by walk_at "z") (IfB.f rfl (q σ6 H6.drop.drop))
  refine r_item hk.1 (r_cmp rfl (IfB.f (decide_eq_false hk.2.1) (r_item hk.1 (r_cmp rfl (IfB.of (fun _ => ?_) fun _ => ?_)))))
  · exact n_name rfl (n_nil (n_set (c' := fiE t o g w [("at", .int b), ("row", row), ("more", .tup [.int b])]) rfl rest))
  · walk_at "i"
    exact r_met (s_bound H5 z zb B (n_nil (n_set (c' := fiE t o g w [("at", .int b), ("row", row), ("more", .tup [.int b])]) rfl rest)))
theorem s_final {Q : FV → Store → Prop} {t b : Nat} {k : Int} (H : Is W L σ) (z : W.rows.length ≤ lim) (zb : W.bounds.length ≤ lim) (B : Bnd W t b k) (q : ∀ o σ', Is W ((o, .lst [.int b]) :: L) σ' → Q (.ref o) σ') : RunT 8 (run X (n + 5) (.st (.ref 444)) [.ref 19, .int t]) σ Q := by
  refine r_go [("host", .ref 19), ("t", .int t)] rfl rfl rfl ?_
  refine r_alloc H fun o σ1 H1 => r_alloc H1 fun g σ2 H2 => r_alloc H2 fun w σ3 H3 => ?_
  refine w_env (s := fiS) (c' := fiE t o g w []) rfl ?_
  cases B with
  | self I hs hb => subst hb; exact fin1 (ks := []) H3 z zb I hs (fun h => nomatch h) (by decide) (q o)
  | par p x hr hx hb hbt h2 I hs =>
    refine fin0 (ks := []) H3 z hr (fun h => nomatch h) (by decide) fun σ5 H5 => ?_
    refine r_item rfl (r_cmp rfl (IfB.f rfl (r_item rfl (r_cmp rfl (IfB.f rfl ?_)))))
    walk_at "i"
    refine r_met (s_bound H5 z zb (.par p x hr hx hb hbt h2 I hs) (n_nil ?_))
    refine n_set (c' := fiE t o g w [("at", .int t), ("row", .tup [.int 10, .int p]), ("more", .tup [.int b])]) rfl ?_
    refine r_cmp (eqL_one _ _) (IfB.f (decide_eq_false fun e => hbt (by omega)) ?_)
    refine r_cal_l (by walk_at "at") (r_extL H5 .here (by walk_at "z") fun σ6 H6 => ?_)
    refine w_env (s := fiS) (c' := fiE t o g w []) rfl ?_
    exact fin1 (ks := [(t : Int)]) H6 z zb I hs (fun h => hbt (by have := List.mem_singleton.mp h; omega)) (by simp) (q o)
end
section
variable {n : Nat} {W W' W'' : Wd} {L L' : List (Nat × MO)} {σ : Store} {l c : Nat}
noncomputable def arrRow : FV := .tup [.int 11, .int 7, .int 0]
/-- what `elem_of` answers -/
inductive ElemV (W : Wd) (b : Nat) : Int → Int → Prop
  | arr : W.rows[b]? = some arrRow → ElemV W b 11 7
  | no (k : Int) : k ≠ 11 → k ≠ 12 → k ≠ 7 → ElemV W b k (-1)
theorem s_elem_of {Q : FV → Store → Prop} {b : Nat} {k e : Int} (H : Is W L σ) (z : W.rows.length ≤ lim) (I : Id W b k) (E : ElemV W b k e) (q : Q (.int e) σ) : RunT 8 (run X (n + 2) (.st (.ref 622)) [.ref 19, .int b, .int 0]) σ Q := by
  obtain ⟨⟨row, hr, hk⟩, _⟩ := I
  refine r_go [("host", .ref 19), ("t", .int b), ("deep", .int 0)] rfl rfl rfl ?_
  walk_at "a"
  walk_at "a"
  cases E with
  | arr ha =>
    rw [ha] at hr; cases hr
    refine r_item_l (by walk_at "at") (row_at ha z) (r_item (v := .int 11) rfl (r_cmp rfl (IfB.t rfl (IfB.t rfl ?_))))
    walk_at "i"
    walk_at "a"
    refine r_go [("tab", .ref 5), ("row", arrRow)] rfl rfl rfl ?_
    refine r_item (v := .int 11) rfl (r_cmp rfl (IfB.t rfl (r_item (v := .int 7) rfl (r_met (s_force q)))))
  | no k h11 h12 h7 =>
    refine r_item_l (by walk_at "at") (row_at hr z) (r_item hk.1 (r_cmp rfl (IfB.f (by simp; exact h11) (r_item hk.1 (r_cmp rfl (IfB.f (by simp; exact h12) (IfB.f rfl ?_)))))))
    refine r_item hk.1 (r_cmp rfl (IfB.t (by simp; exact h7) (IfB.t rfl q)))
theorem s_elem {Q : FV → Store → Prop} {t b : Nat} {k e : Int} (H : Is W L σ) (T : TW W) (S : Sz W c) (hc : c ≤ 4000) (I7 : Id W 7 1) (B : Bnd W t b k) (E : ElemV W b k e) (q : ∀ σ', Is W L σ' → Q (.int e) σ') : RunT 8 (run X (n + 41) (.st (.ref 628)) [.ref 19, .int t]) σ Q := by
  have ln : ∀ {m : Nat}, m ≤ c → m ≤ lim := fun h => by show _ ≤ 1000000; omega
  obtain ⟨Ib, hs⟩ := B.to
  refine r_go [("host", .ref 19), ("t", .int t), ("deep", .int 0)] rfl rfl rfl ?_
  refine s_final H (ln S.rows) (ln S.bounds) B fun o σ1 H1 => ?_
  refine r_itemsC_l (by walk_at "at") (by walk_at "z") ?_
  refine r_items_l (by walk_at "at") (IfB.t rfl ?_)
  refine s_elem_of H1 (ln S.rows) Ib E ⟨by walk_at "z", ?_⟩
  refine r_items_l (by walk_at "at") (r_alloc H1 fun f σ2 H2 => ?_)
  have mm : memL (.int (-1)) [FV.int e] = some (decide (e = -1)) := by
    show (if (hkT 7 (.int (-1)) && hkL 7 [FV.int e]) = true then some ([FV.int e].any fun y => eqF y (.int (-1))) else none) = _
    refine (if_pos (rfl : (hkT 7 (.int (-1)) && hkL 7 [FV.int e]) = true)).trans ?_
    simp [eqF_int]
  refine r_in_l (by walk_at "at") mm ?_
  cases E with
  | arr ha =>
    refine IfB.f rfl (r_truth_l (by walk_at "at") (by walk_at "z") (IfB.f rfl (IfB.f rfl ?_)))
    walk_at "a"
    refine s_union (ts := [7]) (kd := fun _ => 1) H2 T (Nat.le_trans S.rows hc) (.lst (.head _)) (by simp) (fun t ht => by rw [List.mem_singleton.mp ht]; exact I7) (fun t ht => by rw [List.mem_singleton.mp ht]; lia) fun r W' σ' u H3 => ?_
    obtain ⟨rfl, rfl⟩ := union_one (by decide) (by decide) u
    exact q σ' H3.drop.drop
  | no k h11 h12 h7 => exact IfB.t rfl (IfB.t rfl (q _ H2.drop.drop))

/-- a reference to a declaration whose body is sh -/
inductive RefTo (W : Wd) (t : Nat) (k : Int) (sh : Nat) : Prop
  | mk (did l d : Nat) (a m v : FV) : W.rows[t]? = some (.tup [.int 9, .int did, .tup []]) → W.decls[did]? = some (.ref l) → (l, MO.ins 264 d) ∈ W.obj → (d, MO.att (declA a (.int k) (.int sh) m v)) ∈ W.obj → RefTo W t k sh
/-- a thing: its properties, cells, whether it is made, and its shape's id -/
inductive Thing (W : Wd) (t : Nat) (ps : List Pr) (s m : FV) (md : Bool) (sh : Nat) : Prop
  | obj (cs ks : List FV) : W.rows[t]? = some (objRow ps (.tup cs) (.tup ks) s m) → cmpV .NotEq (.tup ks) (.tup []) = some md → sh = t → Thing W t ps s m md sh
  | ref (k : Int) (cs ks : List FV) : RefTo W t k sh → W.rows[sh]? = some (objRow ps (.tup cs) (.tup ks) s m) → md = decide (k = 1) → Thing W t ps s m md sh
  | top (x : FV) : t = 10 → W.rows[t]? = some (.tup [.int 1, x]) → W.rows[11]? = some (objRow [] (.tup []) (.tup []) (.tup []) (.tup [])) → ps = [] → s = .tup [] → m = .tup [] → md = false → sh = 11 → Thing W t ps s m md sh

noncomputable def plS : Stmt := (fBody (stm 97)).getD 0 (.Pass ⟨0, 0, 0, 0⟩)
noncomputable def plE (t : Nat) (ex : En) : Lc := envOf (stm 97) (([("tab", .ref 5), ("t", .int t)] : En) ++ ex)
/-- a turn, as far as its row -/
theorem pl0 {K : Fl → Lc → Store → Prop} {m t : Nat} {i : Int} {row : FV} (H : Is W L σ) (z : W.rows.length ≤ lim) (hr : W.rows[t]? = some row) (q : wexs X (run X n) m ((forB plS).drop 2) (plE t [("turn", .int i), ("row", row)]) K σ) :
    bodyK (forT plS) (wexs X (run X n) m (forB plS)) (.int i) (plE t []) K σ := by
  refine r_cmp rfl (IfB.f (decide_eq_false (Int.not_lt.mpr (Int.natCast_nonneg t))) ?_)
  refine x_env (ss := (forB plS).drop 1) (c' := plE t [("turn", .int i)]) rfl ?_
  walk_at "a"
  exact r_item_l (by walk_at "at") (row_at hr z) (n_set (c' := plE t [("turn", .int i), ("row", row)]) rfl q)
theorem pl8 {K : Fl → Lc → Store → Prop} {m t : Nat} {i : Int} {ps : List Pr} {cs ks s mm : FV} (H : Is W L σ) (z : W.rows.length ≤ lim) (hr : W.rows[t]? = some (objRow ps cs ks s mm)) (q : ∀ d, K (.ret (.int t)) d σ) :
    bodyK (forT plS) (wexs X (run X n) m (forB plS)) (.int i) (plE t []) K σ :=
  pl0 H z hr (r_item (v := .int 8) rfl (r_cmp rfl (IfB.t rfl (q _))))
theorem s_shape {Q : FV → Store → Prop} {t sh : Nat} {ps : List Pr} {s m : FV} {md : Bool} (H : Is W L σ) (S : Sz W c) (hc : c ≤ 4000) (G : Thing W t ps s m md sh) (q : Q (.int sh) σ) : RunT 8 (run X (n + 4) (.st (.ref 735)) [.ref 19, .int t]) σ Q := by
  have z : W.rows.length ≤ lim := by have := S.rows; show _ ≤ 1000000; omega
  have zd : W.decls.length ≤ lim := by have := S.decls; show _ ≤ 1000000; omega
  refine r_go [("self", .ref 19), ("t", .int t)] rfl rfl rfl ?_
  walk_at "a"
  refine r_go [("tab", .ref 5), ("t", .int t)] rfl rfl rfl ?_
  refine r_range (r_items rfl (r_items rfl ?_))
  cases G with
  | obj cs ks hr _ he => subst he; exact pl8 H z hr fun _ => q
  | top x _ hr _ _ _ _ _ he =>
    subst he
    refine pl0 H z hr (r_item (v := .int 1) rfl (r_cmp rfl (IfB.f rfl ?_)))
    refine x_env (ss := (forB plS).drop 3) (c' := plE t [("turn", .int 0), ("row", .tup [.int 1, x])]) rfl (r_item (v := .int 1) rfl (r_cmp rfl (IfB.f rfl ?_)))
    refine x_env (ss := (forB plS).drop 4) (c' := plE t [("turn", .int 0), ("row", .tup [.int 1, x])]) rfl ?_
    exact r_item (v := .int 1) rfl (r_cmp rfl (IfB.t rfl q))
  | ref k cs ks R hr _ =>
    obtain ⟨did, l, d, a, mm, v, h1, h2, h3, h4⟩ := R
    have o1 := H.obj _ _ h3
    have o2 := H.obj _ _ h4
    refine pl0 H z h1 (r_item (v := .int 9) rfl (r_cmp rfl (IfB.f rfl ?_)))
    refine x_env (ss := (forB plS).drop 3) (c' := plE t [("turn", .int 0), ("row", .tup [.int 9, .int did, .tup []])]) rfl (r_item (v := .int 9) rfl (r_cmp rfl (IfB.f rfl ?_)))
    refine x_env (ss := (forB plS).drop 4) (c' := plE t [("turn", .int 0), ("row", .tup [.int 9, .int did, .tup []])]) rfl (r_item (v := .int 9) rfl (r_cmp rfl (IfB.f rfl ?_)))
    refine x_env (ss := (forB plS).drop 5) (c' := plE t [("turn", .int 0), ("row", .tup [.int 9, .int did, .tup []])]) rfl ?_
    refine r_item (v := .int 9) rfl (r_cmp rfl (IfB.f rfl (r_item (v := .tup []) rfl (r_truth rfl (IfB.f rfl ?_)))))
    walk_at "a"
    refine r_item (v := .int did) rfl (r_item_l (xs := W.decls) (by walk_at "at") (row_at h2 zd) ?_)
    refine r_attr (r := .tup []) o1 o2 rfl rfl rfl (r_truth rfl (IfB.f rfl (IfB.f rfl ?_)))
    refine x_env (ss := (forB plS).drop 6) (c' := plE t [("turn", .int 0), ("row", .tup [.int 9, .int did, .tup []])]) rfl ?_
    walk_at "a"
    refine r_item (v := .int did) rfl (r_item_l (xs := W.decls) (by walk_at "at") (row_at h2 zd) ?_)
    refine r_attr (r := .int sh) o1 o2 rfl rfl rfl ?_
    refine r_items rfl ?_
    exact pl8 H z hr fun _ => q
end
section
variable {n : Nat} {W W' W'' : Wd} {L L' : List (Nat × MO)} {σ : Store} {l c : Nat}
theorem s_open {Q : FV → Store → Prop} {t : Nat} {k : Int} {row : FV} (H : Is W L σ) (z : W.rows.length ≤ lim) (hr : W.rows[t]? = some row) (hk : itemV row (.int 0) = some (.int k)) (hs : shut k) (q : Q (.int t) σ) : RunT 8 (run X (n + 2) (.st (.ref 649)) [.ref 27, .int t]) σ Q := by
  obtain ⟨s1, s2, s3, s4, s5, s6, s7⟩ := hs
  refine r_go [("cx", .ref 27), ("t", .int t)] rfl rfl rfl ?_
  walk_at "a"
  walk_at "i"
  refine r_met (s_force ?_)
  walk_at "a"
  exact s_kind_of H hr hk z (r_cmp rfl (IfB.f (by simp [eqF_int]; lia) q))
noncomputable def mdS : Stmt := (fBody (stm 117)).getD 2 (.Pass ⟨0, 0, 0, 0⟩)
noncomputable def mdE (t g w : Nat) (ex : En) : Lc := envOf (stm 117) (([("cx", .ref 27), ("part", .int t), ("seen", .ref g), ("waiting", .ref w)] : En) ++ ex)
/-- what follows a turn -/
noncomputable abbrev mdK (call : CallT) (n m t g w : Nat) (Q : Fl → Lc → Store → Prop) : Fl → Lc → Store → Prop := fun fl d σ => match fl with
  | .ret r => Q (.ret r) d σ
  | _ => loopW call n mdS m (keepN (mdE t g w []) d) Q σ
/-- a turn, as far as its row -/
theorem md0 {Q : Fl → Lc → Store → Prop} {t g w m : Nat} {k : Int} {row : FV} (H : Is W ((w, .lst [.int t]) :: (g, .dct (gotD [])) :: L) σ) (z : W.rows.length ≤ lim) (hr : W.rows[t]? = some row) (hk : itemV row (.int 0) = some (.int k)) (hs : shut k)
    (q : ∀ σ', Is W ((w, .lst []) :: (g, .dct (gotD [(t : Int)])) :: L) σ' → wexs X (run X (n + 4)) (n + 5) ((wB mdS).drop 4) (mdE t g w [("t", .int t), ("row", row)]) (mdK (run X (n + 4)) (n + 5) (m + 1) t g w Q) σ') : loopW (run X (n + 4)) (n + 5) mdS (m + 2) (mdE t g w []) Q σ := by
  refine r_truth_l (H.loc _ _ (.head _)) (by walk_at "z") (IfB.t rfl (r_cal_l (H.loc _ _ (.head _)) (r_popL H .here rfl (by walk_at "z") fun σ4 H4 => ?_)))
  refine s_open H4 z hr hk hs (n_set (c' := mdE t g w [("t", .int t)]) rfl (r_in_d (by walk_at "at") (get_got (ks := [])) (IfB.f rfl ?_)))
  refine x_env (ss := (wB mdS).drop 2) (c' := mdE t g w [("t", .int t)]) rfl (r_setdL H4 (.there .here) (put_new (ks := []) (by decide) (fun h => nomatch h)) fun σ5 H5 => ?_)
  walk_at "a"
  walk_at "a"
  exact r_item_l (by walk_at "at") (row_at hr z) (n_set (c' := mdE t g w [("t", .int t), ("row", row)]) rfl (q σ5 H5))
/-- nothing waits any more -/
theorem md9 {Q : Fl → Lc → Store → Prop} {t g w m : Nat} {kvs : List (FV × FV)} (H : Is W ((w, .lst []) :: (g, .dct kvs) :: L) σ) (q : Q .next (mdE t g w []) σ) : loopW (run X (n + 4)) (n + 5) mdS (m + 1) (mdE t g w []) Q σ :=
  r_truth_l (H.loc _ _ (.head _)) (by walk_at "z") (IfB.f rfl q)
/-- a row that is neither an object nor a reference -/
theorem md4 {Q : Fl → Lc → Store → Prop} {t g w m : Nat} {k : Int} {row : FV} {kvs : List (FV × FV)} (H : Is W ((w, .lst []) :: (g, .dct kvs) :: L) σ) (hk : itemV row (.int 0) = some (.int k)) (h9 : k ≠ 9) (h7 : k ≠ 7) (h6 : k ≠ 6) (q : Q .next (mdE t g w []) σ) :
    wexs X (run X (n + 4)) (n + 5) ((wB mdS).drop 5) (mdE t g w [("t", .int t), ("row", row)]) (mdK (run X (n + 4)) (n + 5) (m + 1) t g w Q) σ := by
  refine r_item hk (r_cmp rfl (IfB.f (decide_eq_false h9) (IfB.f rfl ?_)))
  refine x_env (ss := (wB mdS).drop 6) (c' := mdE t g w [("t", .int t), ("row", row)]) rfl ?_
  refine r_item hk (r_cmp rfl (IfB.f (decide_eq_false h9) (r_item hk (r_cmp rfl (IfB.f (decide_eq_false h7) (r_item hk (r_cmp rfl (IfB.f (decide_eq_false h6) (IfB.f rfl ?_)))))))))
  exact w_env (s := mdS) (c' := mdE t g w []) rfl (md9 H q)
theorem r_stc {call : CallT} {m : Nat} {x name : PySem.Str} {p q r s : Pos} {args : List Expr} {c : Lc} {K : Fl → Lc → Store → Prop} {σ : Store} {v : FV} (e : nameV X c x = some v)
    (h : RunT 6 (calM X v name) σ (seqK (fun k Q σ => wevs X call args c (seqK (runK 7 (methM call k v name)) Q) σ) (exprK c (nextK (wexs X call m []) K)))) : wexs X call m [.Expr (.Call (.Attribute (.Name x p) name q) args [] r) s] c K σ := SomeP.mk e h
theorem s_made {Q : FV → Store → Prop} {t sh : Nat} {ps : List Pr} {s m : FV} {md : Bool} (H : Is W L σ) (S : Sz W c) (hc : c ≤ 4000) (G : Thing W t ps s m md sh) (q : ∀ σ', Is W L σ' → Q (.bool md) σ') : RunT 8 (run X (n + 5) (.st (.ref 656)) [.ref 27, .int t]) σ Q := by
  have z : W.rows.length ≤ lim := by have := S.rows; show _ ≤ 1000000; omega
  have zd : W.decls.length ≤ lim := by have := S.decls; show _ ≤ 1000000; omega
  refine r_go [("cx", .ref 27), ("part", .int t)] rfl rfl rfl ?_
  refine r_alloc H fun g σ1 H1 => r_alloc H1 fun w σ2 H2 => ?_
  refine w_env (s := mdS) (c' := mdE t g w []) rfl ?_
  cases G with
  | obj cs ks hr hmd he =>
    subst he
    refine md0 H2 z hr rfl (by unfold shut; decide) fun σ4 H4 => ?_
    refine r_item (v := .int 8) rfl (r_cmp rfl (IfB.t rfl (r_item (v := .tup ks) rfl (r_cmp hmd ?_))))
    cases md with
    | true => exact IfB.t rfl (IfB.t rfl (q σ4 H4.drop.drop))
    | false =>
      refine IfB.f rfl (IfB.f rfl (x_env (ss := (wB mdS).drop 5) (c' := mdE sh g w [("t", .int sh), ("row", objRow ps (.tup cs) (.tup ks) s m)]) rfl ?_))
      exact md4 H4 (k := 8) rfl (by decide) (by decide) (by decide) (q σ4 H4.drop.drop)
  | top x _ hr _ _ _ _ hmd _ =>
    subst hmd
    refine md0 H2 z hr (k := 1) rfl (by unfold shut; decide) fun σ4 H4 => ?_
    refine r_item (v := .int 1) rfl (r_cmp rfl (IfB.f rfl (IfB.f rfl (x_env (ss := (wB mdS).drop 5) (c' := mdE t g w [("t", .int t), ("row", .tup [.int 1, x])]) rfl ?_))))
    exact md4 H4 (k := 1) rfl (by decide) (by decide) (by decide) (q σ4 H4.drop.drop)
  | ref k cs ks R hr hmd =>
    obtain ⟨did, l, d, a, mm, v, h1, h2, h3, h4⟩ := R
    refine md0 H2 z h1 (k := 9) rfl (by unfold shut; decide) fun σ4 H4 => ?_
    have o1 := H4.obj _ _ h3
    have o2 := H4.obj _ _ h4
    refine r_item (v := .int 9) rfl (r_cmp rfl (IfB.f rfl (IfB.f rfl (x_env (ss := (wB mdS).drop 5) (c' := mdE t g w [("t", .int t), ("row", .tup [.int 9, .int did, .tup []])]) rfl ?_))))
    refine r_item (v := .int 9) rfl (r_cmp rfl (IfB.t rfl ?_))
    walk_at "a"
    walk_at "a"
    refine r_item (v := .int did) rfl (r_item_l (xs := W.decls) (by walk_at "at") (row_at h2 zd) ?_)
    refine r_attr (r := .int k) o1 o2 rfl rfl rfl (r_cmp rfl ?_)
    by_cases h : k = 1
    · subst h; subst hmd
      exact IfB.t rfl (IfB.t rfl (q σ4 H4.drop.drop))
    · rw [decide_eq_false h] at hmd
      subst hmd
      refine IfB.f (decide_eq_false h) (IfB.f rfl (x_env (ss := (wB mdS).drop 6) (c' := mdE t g w [("t", .int t), ("row", .tup [.int 9, .int did, .tup []])]) rfl ?_))
      refine r_item (v := .int 9) rfl (r_cmp rfl (IfB.t rfl (r_stc (v := .ref w) rfl (r_cal_l (by walk_at "at") ?_))))
      walk_at "a"
      walk_at "a"
      refine r_item (v := .int did) rfl (r_item_l (xs := W.decls) (by walk_at "at") (row_at h2 zd) ?_)
      refine r_attr (r := .tup []) o1 o2 rfl rfl rfl ?_
      refine r_extL H4 .here (by walk_at "z") fun σ5 H5 => ?_
      exact w_env (s := mdS) (c' := mdE t g w []) rfl (md9 H5 (q σ5 H5.drop.drop))

/-- what spread_rows keeps -/
noncomputable def keepP (md : Bool) (p : Pr) : Bool := decide (Builtin.bitAnd p.fl 24 = 0) && !(md && !decide (Builtin.bitAnd p.fl 100 = 0))
theorem Thing.row {t sh : Nat} {ps : List Pr} {s m : FV} {md : Bool} (G : Thing W t ps s m md sh) : ∃ cs ks, W.rows[sh]? = some (objRow ps (.tup cs) (.tup ks) s m) := by
  cases G with
  | obj cs ks hr _ he => exact ⟨cs, ks, he ▸ hr⟩
  | ref k cs ks _ hr _ => exact ⟨cs, ks, hr⟩
  | top x _ _ hr h1 h2 h3 _ he => subst h1; subst h2; subst h3; subst he; exact ⟨[], [], hr⟩
theorem s_spread {Q : FV → Store → Prop} {t sh : Nat} {ps : List Pr} {s m : FV} {md : Bool} (H : Is W L σ) (S : Sz W c) (hc : c ≤ 4000) (G : Thing W t ps s m md sh) (h3 : ps.length ≤ 3) (q : ∀ o σ', Is W ((o, .lst ((ps.filter (keepP md)).map Pr.f)) :: L) σ' → Q (.ref o) σ') : RunT 8 (run X (n + 10) (.st (.ref 663)) [.ref 27, .int t]) σ Q := by
  have ln : ∀ {m : Nat}, m ≤ c → m ≤ lim := fun h => by show _ ≤ 1000000; omega
  have l3 : ∀ {m : Nat}, m ≤ 3 → m ≤ lim := fun h => Nat.le_trans ‹_› (Nat.le_of_ble_eq_true rfl)
  obtain ⟨cs, ks, hrow⟩ := G.row
  refine r_go [("cx", .ref 27), ("part", .int t)] rfl rfl rfl ?_
  refine s_made H S hc G fun σ1 H1 => ?_
  refine r_alloc H1 fun o σ2 H2 => ?_
  walk_at "a"
  walk_at "a"
  walk_at "a"
  walk_at "i"
  refine r_met (s_shape H2 S hc G (r_item_l (by walk_at "at") (row_at hrow (ln S.rows)) (r_item (v := .tup (ps.map Pr.f)) rfl (r_items rfl ?_))))
  refine for_list (xs := ps.map Pr.f) (R := fun _ _ => False)
    (P := fun i c σ => c = envOf (stm 118) ([("cx", .ref 27), ("part", .int t), ("made", .bool md), ("out", .ref o)] : En) ∧ Is W ((o, .lst (((ps.take i).filter (keepP md)).map Pr.f)) :: L) σ)
    (fun i c σ K _ k => r_items rfl k) ?_ ?_ (fun _ _ _ h => h.elim) _ 0 _ _ ⟨rfl, H2⟩ (Nat.zero_le _) (by simp; omega)
  · rintro i x c σ3 K ⟨rfl, H3⟩ hx next _
    rw [List.getElem?_map] at hx
    cases hy : ps[i]? with
    | none => rw [hy] at hx; cases hx
    | some p =>
      rw [hy] at hx
      have hx : x = p.f := by simpa using hx.symm
      subst hx
      have hti : ps.take (i + 1) = ps.take i ++ [p] := by rw [List.take_add_one, hy]; rfl
      have flt : ((ps.take (i + 1)).filter (keepP md)).map Pr.f = ((ps.take i).filter (keepP md)).map Pr.f ++ (if keepP md p = true then [p.f] else []) := by
        rw [hti, List.filter_append, List.map_append]
        by_cases hk : keepP md p = true <;> simp [hk]
      have fin : ∀ hd : Bool, ∀ σ4, Is W ((o, .lst (((ps.take (i + 1)).filter (keepP md)).map Pr.f)) :: L) σ4 → K .next (envOf (stm 118) ([("cx", .ref 27), ("part", .int t), ("made", .bool md), ("out", .ref o), ("prop", p.f), ("hidden", .bool hd)] : En)) σ4 := fun hd σ4 H4 => (next _ _ ⟨rfl, H4⟩).1
      have ol : (((ps.take i).filter (keepP md)).map Pr.f).length ≤ lim := by
        refine l3 ?_
        rw [List.length_map]
        refine Nat.le_trans (List.length_filter_le _ _) ?_
        rw [List.length_take]; omega
      all_goals
        refine r_item (v := .int p.fl) rfl (r_bin rfl (r_bin rfl (r_cmp rfl ?_)))
        refine r_truth rfl ?_
        by_cases h24 : Builtin.bitAnd p.fl 24 = 0
        · refine IfB.t (by simp; exact h24) (r_truth rfl ?_)
          cases md with
          | false =>
            refine IfB.f rfl (IfB.t rfl (IfB.t rfl ?_))
            have hk : keepP false p = true := by unfold keepP; simp [h24]
            rw [hk, if_pos rfl] at flt
            refine r_cal_l (by walk_at "at") ?_
            refine r_item (v := .str p.nm) rfl ?_
            walk_at "a"
            walk_at "i"
            refine r_item (v := .int p.k) rfl (r_met (s_force (r_item (v := .int p.fl) rfl (r_item (v := .int p.pv) rfl (r_appL H3 .here ol fun σ4 H4 => ?_)))))
            have := fin (!decide (Builtin.bitAnd p.fl 24 = 0)) σ4 (by rw [flt]; exact H4)
            exact this
          | true =>
            refine IfB.t rfl (r_item (v := .int p.fl) rfl (r_bin rfl (r_bin rfl (r_bin rfl (r_cmp rfl ?_)))))
            by_cases h100 : Builtin.bitAnd p.fl 100 = 0
            · refine IfB.f (by simp; exact h100) (IfB.t rfl (IfB.t rfl ?_))
              have hk : keepP true p = true := by unfold keepP; simp [h24, h100]
              rw [hk, if_pos rfl] at flt
              refine r_cal_l (by walk_at "at") ?_
              refine r_item (v := .str p.nm) rfl ?_
              walk_at "a"
              walk_at "i"
              refine r_item (v := .int p.k) rfl (r_met (s_force (r_item (v := .int p.fl) rfl (r_item (v := .int p.pv) rfl (r_appL H3 .here ol fun σ4 H4 => ?_)))))
              have := fin (!decide (Builtin.bitAnd p.fl 24 = 0)) σ4 (by rw [flt]; exact H4)
              exact this
            · refine IfB.t (by simp; exact h100) (IfB.f rfl (IfB.f rfl ?_))
              have hk : keepP true p = false := by unfold keepP; simp [h24, h100]
              rw [hk, if_neg (by simp), List.append_nil] at flt
              have := fin (!decide (Builtin.bitAnd p.fl 24 = 0)) σ3 (by rw [flt]; exact H3)
              exact this
        · refine IfB.f (by simp; exact h24) (IfB.f rfl ?_)
          have hk : keepP md p = false := by unfold keepP; simp [h24]
          rw [hk, if_neg (by simp), List.append_nil] at flt
          have := fin (!decide (Builtin.bitAnd p.fl 24 = 0)) σ3 (by rw [flt]; exact H3)
          exact this
  · rintro c σ3 ⟨rfl, H3⟩
    rw [List.length_map, List.take_length] at H3
    exact q o σ3 H3
end
section
variable {n : Nat} {W W' W'' : Wd} {L L' : List (Nat × MO)} {σ : Store} {l c : Nat}
/-- the two faults -/
noncomputable def fNum (b : Bool) : Int := if b then 9002 else 2700
noncomputable def fText : FV := .tup [.str ⟨#[114, 101, 115, 116, 32, 111, 102, 32, 97, 32, 108, 105, 115, 116, 32, 105, 110, 32, 97, 110, 32, 111, 98, 106, 101, 99, 116, 32, 112, 97, 116, 116, 101, 114, 110]⟩]
noncomputable def fArg (b : Bool) : FV := if b then fText else .tup []
noncomputable def diagA (num : Int) (args : FV) : List (PySem.Str × FV) := [("number", .int num), ("at", .int 1), ("args", args), ("file", .str ⟨#[]⟩)]
inductive Dg (W : Wd) : List FV → List Bool → Prop
  | nil : Dg W [] []
  | cons {l d : Nat} {b : Bool} {r : List FV} {bs : List Bool} : (l, MO.ins 106 d) ∈ W.obj → (d, MO.att (diagA (fNum b) (fArg b))) ∈ W.obj → Dg W r bs → Dg W (.ref l :: r) (b :: bs)
theorem Dg.mono (h : ∀ p ∈ W.obj, p ∈ W'.obj) : ∀ {r : List FV} {bs : List Bool}, Dg W r bs → Dg W' r bs
  | _, _, .nil => .nil
  | _, _, .cons a b q => .cons (h _ a) (h _ b) (q.mono h)
theorem Dg.len : ∀ {r : List FV} {bs : List Bool}, Dg W r bs → r.length = bs.length
  | _, _, .nil => rfl
  | _, _, .cons _ _ q => by simp [q.len]
theorem Dg.get : ∀ {r : List FV} {bs : List Bool} {i : Nat} {x : FV}, Dg W r bs → r[i]? = some x → ∃ l d b, x = .ref l ∧ (l, MO.ins 106 d) ∈ W.obj ∧ (d, MO.att (diagA (fNum b) (fArg b))) ∈ W.obj ∧ bs[i]? = some b
  | _, _, _, _, .nil, h => by simp at h
  | _, _, 0, _, .cons a b q, h => by simp at h; subst h; exact ⟨_, _, _, rfl, a, b, rfl⟩
  | _, _, i + 1, _, .cons a b q, h => by simp at h; obtain ⟨l, d, b, h1, h2, h3, h4⟩ := q.get h; exact ⟨l, d, b, h1, h2, h3, by simpa using h4⟩
theorem Dg.snoc {l d : Nat} {b : Bool} (h1 : (l, MO.ins 106 d) ∈ W.obj) (h2 : (d, MO.att (diagA (fNum b) (fArg b))) ∈ W.obj) : ∀ {r : List FV} {bs : List Bool}, Dg W r bs → Dg W (r ++ [.ref l]) (bs ++ [b])
  | _, _, .nil => .cons h1 h2 .nil
  | _, _, .cons a b q => .cons a b (q.snoc h1 h2)
/-- what a fault leaves -/
structure Told (W : Wd) (bs : List Bool) (b : Bool) (bs' : List Bool) (W' : Wd) : Prop where
  dg : Dg W' W'.diags bs'
  mem : ∀ x, x ∈ bs' ↔ x ∈ bs ∨ x = b
  nd : bs.Nodup → bs'.Nodup
  same : ∃ o ds, W' = { W with diags := ds, obj := o ++ W.obj } ∧ ds.length ≤ W.diags.length + 1

theorem s_tell {Q : FV → Store → Prop} {b : Bool} {bs : List Bool} (H : Is W L σ) (S : Sz W c) (hc : c ≤ 4000) (hz : W.diags.length ≤ 20) (D : Dg W W.diags bs) (q : ∀ bs' W' σ', Told W bs b bs' W' → Is W' L σ' → Q .none σ') :
    RunT 8 (run X (n + 30) (.st (.ref 1076)) [.ref 27, .int (fNum b), .int 1, fArg b]) σ Q := by
  refine r_go [("self", .ref 27), ("number", .int (fNum b)), ("at", .int 1), ("args", fArg b)] rfl rfl rfl ?_
  walk_at "a"
  walk_at "a"
  refine r_items_l (xs := W.diags) (by walk_at "at") ?_
  refine for_list (xs := W.diags) (R := fun r σ => r = .none ∧ b ∈ bs ∧ Is W L σ)
    (P := fun i c σ => c = envOf (sub 140 10) ([("self", .ref 27), ("number", .int (fNum b)), ("at", .int 1), ("args", fArg b)] : En) ∧ Is W L σ ∧ ∀ j, j < i → bs[j]? ≠ some b)
    (fun i c σ K ⟨_, H1, _⟩ k => r_items_l (xs := W.diags) (by walk_at "at") k) ?_ ?_ ?_ _ 0 _ _ ⟨rfl, H, fun j hj => absurd hj (Nat.not_lt_zero _)⟩ (Nat.zero_le _) (by lia)
  · rintro i x c σ1 K ⟨rfl, H1, hn⟩ hx next ret
    obtain ⟨l, d, b', rfl, o1, o2, hb⟩ := D.get hx
    have p1 := H1.obj _ _ o1
    have p2 := H1.obj _ _ o2
    have go : ∀ (K' : Store → Prop), (b' ≠ b → K' σ1) → (b' = b → K' σ1) → K' σ1 := fun K' h1 h2 => by by_cases h : b' = b; exact h2 h; exact h1 h
    have nx : b' ≠ b → ∃ a, True ∧ K .next (envOf (sub 140 10) ([("self", .ref 27), ("number", .int (fNum b)), ("at", .int 1), ("args", fArg b), ("diag", .ref l)] : En)) σ1 := fun h => ⟨0, trivial, (next _ _ ⟨rfl, H1, fun j hj => by
      rcases Nat.lt_succ_iff_lt_or_eq.mp hj with hj | rfl
      · exact hn j hj
      · rw [hb]; exact fun e => h (by simpa using e)⟩).1⟩
    all_goals
      refine r_attr (r := .int (fNum b')) p1 p2 rfl rfl rfl (r_cmp rfl ?_)
      by_cases h : b' = b
      · subst h
        refine IfB.t (by simp) (r_attr (r := .int 1) p1 p2 rfl rfl rfl (r_cmp rfl (IfB.t rfl ?_)))
        refine r_attr (r := fArg b') p1 p2 rfl rfl (by cases b' <;> rfl) (r_cmp (k := true) (by cases b' <;> rfl) (IfB.t rfl (IfB.t rfl ?_)))
        exact ret .none _ _ ⟨rfl, List.mem_of_getElem? hb, H1⟩
      · refine IfB.f (by revert h; cases b' <;> cases b <;> simp [fNum]) (IfB.f rfl ?_)
        exact (nx h).choose_spec.2
  · rintro c σ1 ⟨rfl, H1, hn⟩
    have hb : b ∉ bs := fun h => by
      obtain ⟨j, hj, e⟩ := List.mem_iff_getElem.mp h
      exact hn j (by rw [D.len]; exact hj) (by rw [List.getElem?_eq_getElem hj, e])
    have fin : ∀ ll dd σ2, Is W ((ll, .ins 106 dd) :: (dd, .att (diagA (fNum b) (fArg b))) :: L) σ2 → Q .none (σ2.set 22 (.lst (W.diags ++ [.ref ll]))) := fun ll dd σ2 H2 => by
      have H3 : Is { W with diags := W.diags ++ [.ref ll] } ((ll, .ins 106 dd) :: (dd, .att (diagA (fNum b) (fArg b))) :: L) _ := H2.setC (o := .lst (W.diags ++ [.ref ll])) (l := 22) (by decide) rfl (by repeat first | exact .here | apply UpdL.there) rfl rfl
      have H4 := H3.keepObj.keepObj
      refine q (bs ++ [b]) _ _ ⟨(D.mono fun p hp => .tail _ (.tail _ hp)).snoc (.tail _ (.head _)) (.head _), by simp, fun nd => List.nodup_append.mpr ⟨nd, by simp, fun x hx y hy => by rw [List.mem_singleton.mp hy]; exact fun e => hb (e ▸ hx)⟩, [_, _], _, rfl, by simp⟩ H4
    have ln : W.diags.length ≤ lim := Nat.le_trans ‹_› (Nat.le_of_ble_eq_true rfl)
    all_goals
      walk_at "a"
      walk_at "i"
      refine r_met ?_
      refine r_go [("self", .ref 21), ("number", .int (fNum b)), ("at", .int 1), ("args", fArg b)] rfl rfl rfl ?_
      walk_at "a"
      refine r_cal_l (by walk_at "at") ?_
      walk_at "a"
      refine r_cls H1 rfl rfl rfl fun d l σ2 H2 => ?_
      have H0 : Is W ((l, .ins 106 d) :: (d, .att ((diagA (fNum b) (fArg b)).take 0)) :: L) σ2 := H2
      clear H2
      refine r_go [("self", .ref l), ("number", .int (fNum b)), ("at", .int 1), ("args", fArg b), ("file", .str ⟨#[]⟩)] rfl rfl rfl ?_
      repeat walk_at "s"
      rename_i H3
      have H5 : Is W ((l, .ins 106 d) :: (d, .att (diagA (fNum b) (fArg b))) :: L) _ := H3
      exact r_app (xs := W.diags) (by walk_at "at") (by decide) ln (fin l d _ H5)
  · rintro r c σ1 ⟨rfl, hb, H1⟩
    exact q bs W σ1 ⟨D, fun x => ⟨.inl, fun h => h.elim id fun e => e ▸ hb⟩, id, [], W.diags, rfl, by lia⟩ H1

/-- the pattern's node -/
noncomputable def nodeA (kids : FV) : List (PySem.Str × FV) := [("kind", .int 36), ("a", .str ⟨#[]⟩), ("kids", kids), ("flags", .int 0), ("at", .int 1), ("nid", .int 0)]
inductive NodeAt (W : Wd) (bd : Nat) : Prop
  | mk (d : Nat) (kids : FV) : (bd, MO.ins 703 d) ∈ W.obj → (d, MO.att (nodeA kids)) ∈ W.obj → NodeAt W bd
theorem s_fault {Q : FV → Store → Prop} {b : Bool} {bs : List Bool} {bd : Nat} (H : Is W L σ) (S : Sz W c) (hc : c ≤ 4000) (hz : W.diags.length ≤ 20) (D : Dg W W.diags bs) (N : NodeAt W bd) (q : ∀ bs' W' σ', Told W bs b bs' W' → Is W' L σ' → Q .none σ') :
    RunT 8 (run X (n + 31) (.st (.ref 1069)) [.ref 27, .int (fNum b), .ref bd, fArg b]) σ Q := by
  obtain ⟨d, kids, o1, o2⟩ := N
  refine r_go [("self", .ref 27), ("number", .int (fNum b)), ("node", .ref bd), ("args", fArg b)] rfl rfl rfl ?_
  walk_at "i"
  refine r_attr (r := .int 1) (H.obj _ _ o1) (H.obj _ _ o2) rfl rfl rfl ?_
  exact r_met (s_tell H S hc hz D q)
theorem s_note {Q : FV → Store → Prop} {bd : Nat} (H : Is W L σ) (S : Sz W c) (hc : c ≤ 4000) (N : NodeAt W bd) (q : ∀ σ', Is { W with notes := W.notes ++ [.tup [.int 13, .int 1]] } L σ' → Q .none σ') :
    RunT 8 (run X (n + 3) (.st (.ref 1090)) [.ref 27, .int 13, .ref bd]) σ Q := by
  have ln : ∀ {m : Nat}, m ≤ c → m ≤ lim := fun h => by show _ ≤ 1000000; lia
  obtain ⟨d, kids, o1, o2⟩ := N
  refine r_go [("self", .ref 27), ("code", .int 13), ("node", .ref bd)] rfl rfl rfl ?_
  walk_at "a"
  walk_at "i"
  refine r_attr (r := .int 1) (H.obj _ _ o1) (H.obj _ _ o2) rfl rfl rfl ?_
  refine r_met ?_
  refine r_go [("self", .ref 24), ("code", .int 13), ("at", .int 1)] rfl rfl rfl ?_
  walk_at "a"
  refine r_cal_l (by walk_at "at") ?_
  exact r_app (xs := W.notes) (by walk_at "at") (by decide) (ln S.notes) (q _ (H.setC (W' := { W with notes := W.notes ++ [.tup [.int 13, .int 1]] }) (o := .lst (W.notes ++ [.tup [.int 13, .int 1]])) (l := 25) (by decide) rfl (by repeat first | exact .here | apply UpdL.there) rfl rfl))
end
section
variable {n : Nat} {W W' W'' : Wd} {L L' : List (Nat × MO)} {σ : Store} {l c : Nat}
/-- the names taken -/
noncomputable def TakenIs (W : Wd) (tk : List PySem.Str) : Prop := W.taken = tk.map (fun s => (FV.str s, FV.int 1)) ∧ tk.length ≤ 3
theorem taken_homog {tk : List PySem.Str} {x : PySem.Str} : homog (.str x) (tk.map (fun s => (FV.str s, FV.int 1))) = true := by
  exact List.all_eq_true.mpr fun p hp => let ⟨k, _, e⟩ := List.mem_map.mp hp; e ▸ rfl
theorem taken_find {x : PySem.Str} : ∀ {tk : List PySem.Str}, kvFind (.str x) (tk.map (fun s => (FV.str s, FV.int 1))) = if x ∈ tk then some (.int 1) else none
  | [] => rfl
  | k :: ks => by
    have ih := @taken_find x ks
    simp only [List.map_cons, kvFind_c, ih, eqF_str, decide_eq_true_eq, List.mem_cons]
    by_cases h : k = x
    · simp [h]
    · rw [if_neg h]
      have : ¬ x = k := fun e => h e.symm
      simp [this]
theorem Thing.facts {t sh : Nat} {ps : List Pr} {s m : FV} {md : Bool} (G : Thing W t ps s m md sh) (h2 : t ≠ 2) : ∃ k, Id W t k ∧ shut k ∧ FamV t k 7 ∧ ElemV W t k (-1) ∧ wholeK k = -1 ∧ k ≠ 10 := by
  cases G with
  | obj cs ks hr _ _ => exact ⟨8, ⟨⟨_, hr, rfl, by decide, by decide, by decide, fun _ => ⟨_, rfl, rfl⟩⟩, h2⟩, by unfold shut; decide, .obj 8 (.inl rfl), .no 8 (by decide) (by decide) (by decide), rfl, by decide⟩
  | ref k cs ks R _ _ =>
    obtain ⟨did, l, d, a, mm, v, h1, _, _, _⟩ := R
    exact ⟨9, ⟨⟨_, h1, rfl, by decide, by decide, by decide, by lia⟩, h2⟩, by unfold shut; decide, .obj 9 (.inr (.inl rfl)), .no 9 (by decide) (by decide) (by decide), rfl, by decide⟩
  | top x ht hr _ _ _ _ _ _ =>
    subst ht
    exact ⟨1, ⟨⟨_, hr, rfl, by decide, by decide, by decide, by lia⟩, h2⟩, by unfold shut; decide, .key (some (.int 7)) 7 rfl rfl, .no 1 (by decide) (by decide) (by decide), rfl, by decide⟩

theorem s_rp_top {Q : FV → Store → Prop} {t bd : Nat} (ht : t = 0 ∨ t = 13) (q : Q (.int t) σ) : RunT 8 (run X (n + 45) (.st (.ref 675)) [.ref 27, .ref bd, .int t, .ref 84]) σ Q := by
  refine r_go [("cx", .ref 27), ("bind", .ref bd), ("part", .int t), ("taken", .ref 84)] rfl rfl rfl ?_
  rcases ht with rfl | rfl
  · exact r_cmp rfl (IfB.t rfl q)
  · exact r_cmp rfl (IfB.t rfl q)
theorem notTop {t : Nat} (h0 : t ≠ 0) (h13 : t ≠ 13) : ([FV.int 0, FV.int 13].any fun y => eqF y (.int (t : Int))) = false := by
  simp [eqF_int]; lia
theorem s_rp_bad {Q : FV → Store → Prop} {t b bd : Nat} {k f : Int} {bs : List Bool} (H : Is W L σ) (T : TW W) (S : Sz W c) (hc : c ≤ 4000) (hz : W.diags.length ≤ 20) (D : Dg W W.diags bs) (N : NodeAt W bd) (h0 : t ≠ 0) (h13 : t ≠ 13)
    (B : Bnd W t b k) (hb : b ≠ 14 ∧ b ≠ 15) (hw : wholeK k ≠ b) (F : FamV b k f) (bad : t = 1 ∨ (f ≠ 7 ∧ f ≠ 0)) (q : ∀ bs' W' σ', Told W bs false bs' W' → Is W' L σ' → Q (.int 13) σ') : RunT 8 (run X (n + 45) (.st (.ref 675)) [.ref 27, .ref bd, .int t, .ref 84]) σ Q := by
  refine r_go [("cx", .ref 27), ("bind", .ref bd), ("part", .int t), ("taken", .ref 84)] rfl rfl rfl ?_
  refine r_cmp rfl (IfB.f (notTop h0 h13) (s_no_object H T S hc B hb hw F fun σ1 H1 => r_truth rfl (IfB.t (by simpa using bad) ?_)))
  walk_at "i"
  refine r_met (s_fault (b := false) H1 S hc hz D N fun bs' W' σ' told H2 => ?_)
  exact q bs' W' σ' told H2
theorem s_rp_arr {Q : FV → Store → Prop} {t b bd : Nat} {bs : List Bool} (H : Is W L σ) (T : TW W) (S : Sz W c) (hc : c ≤ 4000) (hz : W.diags.length ≤ 20) (D : Dg W W.diags bs) (N : NodeAt W bd) (I7 : Id W 7 1) (h0 : t ≠ 0) (h13 : t ≠ 13) (h1 : t ≠ 1)
    (B : Bnd W t b 11) (hb : b ≠ 14 ∧ b ≠ 15) (ha : W.rows[b]? = some arrRow) (q : ∀ bs' W' σ', Told W bs true bs' W' → Is W' L σ' → Q (.int 13) σ') : RunT 8 (run X (n + 45) (.st (.ref 675)) [.ref 27, .ref bd, .int t, .ref 84]) σ Q := by
  refine r_go [("cx", .ref 27), ("bind", .ref bd), ("part", .int t), ("taken", .ref 84)] rfl rfl rfl ?_
  refine r_cmp rfl (IfB.f (notTop h0 h13) (s_no_object H T S hc B hb (by show (-1 : Int) ≠ (b : Int); omega) (.obj 11 (.inr (.inr rfl))) fun σ1 H1 => r_truth rfl (IfB.f (by simpa using h1) ?_)))
  walk_at "a"
  refine s_elem H1 T S hc I7 B (.arr ha) fun σ2 H2 => r_cmp rfl (IfB.t rfl ?_)
  walk_at "i"
  refine r_met (s_fault (b := true) H2 S hc hz D N fun bs' W' σ' told H3 => ?_)
  exact q bs' W' σ' told H3
theorem s_rp_open {Q : FV → Store → Prop} {t b bd : Nat} {k f : Int} {p : Nat} (H : Is W L σ) (T : TW W) (S : Sz W c) (hc : c ≤ 4000) (N : NodeAt W bd) (I7 : Id W 7 1) (h0 : t ≠ 0) (h13 : t ≠ 13) (h1 : t ≠ 1) (tk : TakenIs W [])
    (B : Bnd W t b k) (hb : b ≠ 14 ∧ b ≠ 15) (hw : wholeK k ≠ b) (F : FamV b k f) (hf : f = 7 ∨ f = 0) (E : ElemV W b k (-1)) (hr : W.rows[t]? = some (.tup [.int 10, .int p])) (q : ∀ σ', Is { W with notes := W.notes ++ [.tup [.int 13, .int 1]] } L σ' → Q (.int t) σ') :
    RunT 8 (run X (n + 45) (.st (.ref 675)) [.ref 27, .ref bd, .int t, .ref 84]) σ Q := by
  have ln : ∀ {m : Nat}, m ≤ c → m ≤ lim := fun h => by show _ ≤ 1000000; lia
  refine r_go [("cx", .ref 27), ("bind", .ref bd), ("part", .int t), ("taken", .ref 84)] rfl rfl rfl ?_
  refine r_cmp rfl (IfB.f (notTop h0 h13) (s_no_object H T S hc B hb hw F fun σ1 H1 => r_truth rfl (IfB.f (by simp; lia) ?_)))
  walk_at "a"
  refine s_elem H1 T S hc I7 B E fun σ2 H2 => r_cmp rfl (IfB.f rfl ?_)
  refine r_truth_d (kvs := W.taken) (by walk_at "at") (by rw [tk.1]; exact ⟨by walk_at "z", rfl⟩) (IfB.t (by rw [tk.1]; rfl) ?_)
  walk_at "a"
  refine s_kind_of H2 hr rfl (ln S.rows) (r_cmp rfl (IfB.t rfl (IfB.t rfl ?_)))
  walk_at "i"
  refine r_met (s_note H2 S hc N fun σ3 H3 => ?_)
  exact q σ3 H3

/-- the rest of a thing -/
noncomputable def restP (md : Bool) (tk : List PySem.Str) (ps : List Pr) : List Pr := ((ps.filter (keepP md)).filter fun p => decide (p.nm ∉ tk)).map fun p => ⟨p.nm, p.k, Builtin.bitAnd p.fl 5, 0⟩
theorem s_rp_thing {Q : FV → Store → Prop} {t sh bd : Nat} {ps : List Pr} {s m : FV} {md : Bool} {tk : List PySem.Str} (H : Is W L σ) (T : TW W) (S : Sz W c) (hc : c ≤ 4000) (N : NodeAt W bd) (I7 : Id W 7 1) (h0 : t ≠ 0) (h13 : t ≠ 13) (h1 : t ≠ 1) (h2 : t ≠ 2) (hb : t ≠ 14 ∧ t ≠ 15) (K : TakenIs W tk)
    (G : Thing W t ps s m md sh) (h3 : ps.length ≤ 3) (hs : hkT 6 s = true) (hm : hkT 6 m = true) (rise : Rising (restP md tk ps))
    (q : ∀ i W' σ', Put (if restP md tk ps = [] then W else { W with notes := W.notes ++ [.tup [.int 13, .int 1]] }) (objRow (restP md tk ps) (.tup []) (.tup []) s m) i W' → Is W' L σ' → Q (.int (i : Nat)) σ') :
    RunT 8 (run X (n + 45) (.st (.ref 675)) [.ref 27, .ref bd, .int t, .ref 84]) σ Q := by
  have ln : ∀ {m : Nat}, m ≤ c → m ≤ lim := fun h => by show _ ≤ 1000000; lia
  have l3 : ∀ {m : Nat}, m ≤ 3 → m ≤ lim := fun h => Nat.le_trans ‹_› (Nat.le_of_ble_eq_true rfl)
  obtain ⟨k, I, hsh, F, E, hwk, hk10⟩ := G.facts h2
  obtain ⟨⟨row, hr, hk⟩, _⟩ := id I
  obtain ⟨cs, ks, hrow⟩ := G.row
  have hsh' := hsh
  obtain ⟨s1, s2, s3, s4, s5, s6, s7⟩ := hsh'
  refine r_go [("cx", .ref 27), ("bind", .ref bd), ("part", .int t), ("taken", .ref 84)] rfl rfl rfl ?_
  refine r_cmp rfl (IfB.f (notTop h0 h13) (s_no_object H T S hc (.self I hsh rfl) hb (by rw [hwk]; omega) F fun σ1 H1 => r_truth rfl (IfB.f (by simpa using h1) ?_)))
  walk_at "a"
  refine s_elem H1 T S hc I7 (.self I hsh rfl) E fun σ2 H2 => r_cmp rfl (IfB.f rfl ?_)
  have tz : W.taken.length ≤ lim ∧ homog (.str ⟨#[]⟩) W.taken = true := ⟨l3 (by rw [K.1, List.length_map]; exact K.2), by rw [K.1]; exact taken_homog⟩
  have rest : wexs X (run X (n + 44)) (n + 45) ((fBody (stm 121)).drop 4) (envOf (stm 121) [("cx", .ref 27), ("bind", .ref bd), ("part", .int t), ("taken", .ref 84)]) (fun fl _ σ => match fl with
      | .ret v => Q v σ
      | .next => Q .none σ
      | _ => False) σ2 := by
    walk_at "a"
    walk_at "a"
    walk_at "a"
    walk_at "i"
    refine r_met (s_shape H2 S hc G (r_item_l (by walk_at "at") (row_at hrow (ln S.rows)) ?_))
    refine s_spread H2 S hc G h3 fun o σ3 H3 => ?_
    have pl : (ps.filter (keepP md)).length ≤ 3 := Nat.le_trans (List.length_filter_le _ _) h3
    generalize hA : ps.filter (keepP md) = A at H3 pl
    refine r_itemsC_l (by walk_at "at") (l3 (by rw [List.length_map]; exact pl)) ?_
    refine comp_list (xs := A.map Pr.f) (P := fun i out σ => out = ((A.take i).filter fun p => decide (p.nm ∉ tk)).map Pr.f ∧ Is W ((o, .lst (A.map Pr.f)) :: L) σ)
      (fun i out σ K' ⟨_, H4⟩ h => r_items_l (by walk_at "at") h) ?_ ?_ _ 0 _ _ ⟨rfl, H3⟩ (Nat.zero_le _) (by lia)
    · rintro i x out σ4 K' ⟨rfl, H4⟩ hx next
      rw [List.getElem?_map] at hx
      cases hy : A[i]? with
      | none => rw [hy] at hx; cases hx
      | some p =>
        rw [hy] at hx
        have hx : x = p.f := by simpa using hx.symm
        subst hx
        have hti : A.take (i + 1) = A.take i ++ [p] := by rw [List.take_add_one, hy]; rfl
        have gt : kvGet (.str p.nm) W.taken = some (if p.nm ∈ tk then some (.int 1) else none) := by rw [K.1]; unfold kvGet; rw [if_pos taken_homog, taken_find]
        refine r_item (v := .str p.nm) rfl (r_nin_d (by walk_at "at") gt ?_)
        have ol : (((A.take i).filter fun p => decide (p.nm ∉ tk)).map Pr.f).length ≤ lim := by
          refine l3 ?_
          rw [List.length_map]
          refine Nat.le_trans (List.length_filter_le _ _) ?_
          rw [List.length_take]; omega
        by_cases hin : p.nm ∈ tk
        · refine IfB.f (by rw [if_pos hin]; rfl) (IfB.f rfl (next _ _ ⟨?_, H4⟩))
          rw [hti, List.filter_append]; simp [hin]
        · refine IfB.t (by rw [if_neg hin]; rfl) (IfB.t rfl ⟨ol, next _ _ ⟨?_, H4⟩⟩)
          rw [hti, List.filter_append]; simp [hin]
    · rintro out σ4 ⟨rfl, H4⟩
      rw [List.length_map, List.take_length]
      have bl : (A.filter fun p => decide (p.nm ∉ tk)).length ≤ 3 := Nat.le_trans (List.length_filter_le _ _) pl
      have hR : restP md tk ps = (A.filter fun p => decide (p.nm ∉ tk)).map fun p => ⟨p.nm, p.k, Builtin.bitAnd p.fl 5, 0⟩ := by unfold restP; rw [hA]
      generalize hB : A.filter (fun p => decide (p.nm ∉ tk)) = B at bl hR
      refine r_alloc H4 fun pp σ5 H5 => ?_
      have bz : (B.map Pr.f).length ≤ lim := l3 (by rw [List.length_map]; exact bl)
      -- what follows the note
      have tail : ∀ (W1 : Wd) σ6, Is W1 ((pp, .lst (B.map Pr.f)) :: (o, .lst (A.map Pr.f)) :: L) σ6 → TW W1 → W1.rows = W.rows → W1 = (if restP md tk ps = [] then W else { W with notes := W.notes ++ [.tup [.int 13, .int 1]] }) →
          wexs X (run X (n + 44)) (n + 45) ((fBody (stm 121)).drop 7) (envOf (stm 121) [("cx", .ref 27), ("bind", .ref bd), ("part", .int t), ("taken", .ref 84), ("shape", objRow ps (.tup cs) (.tup ks) s m), ("props", .ref pp)]) (fun fl _ σ => match fl with
            | .ret v => Q v σ
            | .next => Q .none σ
            | _ => False) σ6 := fun W1 σ6 H6 T1 hrows hW1 => by
        refine (r_itemsC_l (by walk_at "at") bz ?_)
        refine comp_list (xs := B.map Pr.f) (P := fun i out σ => out = ((B.take i).map fun p => (⟨p.nm, p.k, Builtin.bitAnd p.fl 5, 0⟩ : Pr)).map Pr.f ∧ Is W1 ((pp, .lst (B.map Pr.f)) :: (o, .lst (A.map Pr.f)) :: L) σ)
          (fun i out σ K' ⟨_, H7⟩ h => r_items_l (by walk_at "at") h) ?_ ?_ _ 0 _ _ ⟨rfl, H6⟩ (Nat.zero_le _) (by lia)
        · rintro i x out σ7 K' ⟨rfl, H7⟩ hx next
          rw [List.getElem?_map] at hx
          cases hy : B[i]? with
          | none => rw [hy] at hx; cases hx
          | some p =>
            rw [hy] at hx
            have hx : x = p.f := by simpa using hx.symm
            subst hx
            have hti : B.take (i + 1) = B.take i ++ [p] := by rw [List.take_add_one, hy]; rfl
            refine IfB.t rfl (r_item (v := .str p.nm) rfl (r_item (v := .int p.k) rfl (r_item (v := .int p.fl) rfl (r_bin rfl (r_bin rfl ⟨l3 (by rw [List.length_map, List.length_map, List.length_take]; lia), next _ _ ⟨?_, H7⟩⟩)))))
            rw [hti, List.map_append, List.map_append]; rfl
        · rintro out σ7 ⟨rfl, H7⟩
          rw [List.length_map, List.take_length, ← hR]
          refine r_alloc H7 fun kp σ8 H8 => ?_
          walk_at "a"
          refine r_item (v := s) rfl (r_item (v := m) rfl ?_)
          exact s_obj (cs := []) (ks := []) H8 T1 (by rw [hrows]; have := S.rows; lia) (.head _) rise rfl rfl hs hm fun i W' σ' p H9 => q i W' σ' (hW1 ▸ p) H9.drop.drop.drop
      refine r_truth_l (by walk_at "at") bz ?_
      by_cases hB0 : B = []
      · refine IfB.f (by rw [hB0]; rfl) ?_
        exact tail W σ5 H5 T rfl (by rw [hR, hB0, if_pos (by simp)])
      · refine IfB.t (by cases B with | nil => exact absurd rfl hB0 | cons _ _ => rfl) ?_
        walk_at "i"
        refine r_met (s_note H5 S hc N fun σ6 H6 => ?_)
        exact tail _ σ6 H6 ⟨T.ix, T.key, T.nd⟩ rfl (by rw [hR, if_neg (by simpa using hB0)])
  refine r_truth_d (kvs := W.taken) (by walk_at "at") tz (IfB.of (fun _ => ?_) fun _ => IfB.f rfl rest)
  walk_at "a"
  exact s_kind_of H2 hr hk.1 (ln S.rows) (r_cmp rfl (IfB.f (by simp [eqF_int]; lia) (IfB.f rfl rest)))
end
section
variable {n : Nat} {W W' W'' : Wd} {L L' : List (Nat × MO)} {σ : Store} {l c : Nat}
/-- the rows that stand from the start -/
noncomputable def baseR : List FV := match (store0 [] [])[6]? with
  | some (MO.lst xs) => xs
  | _ => []
noncomputable def Stem (W : Wd) : Prop := ∃ t, W.rows = baseR ++ t
theorem Stem.le (h : Stem W) (x : Le W W') : Stem W' := app_trans h x.rows
theorem Stem.at {i : Nat} {r : FV} (h : Stem W) (e : baseR[i]? = some r) : W.rows[i]? = some r := app_get h e
theorem Stem.id {i : Nat} {r : FV} {k : Int} (h : Stem W) (e : baseR[i]? = some r) (hk : kindOk r k) (h2 : i ≠ 2) : Id W i k := ⟨⟨r, h.at e, hk⟩, h2⟩
theorem kindKey {x : FV} : kindOk (.tup [.int 1, x]) 1 := ⟨rfl, by decide, by decide, by decide, by lia⟩

/-- the parts of an id -/
inductive PartsOf (W : Wd) (t : Nat) (ks : List Nat) : Prop
  | never : t = 2 → ks = [] → PartsOf W t ks
  | one (k : Int) : Id W t k → ks = [t] → PartsOf W t ks
  | many : t ≠ 2 → W.rows[t]? = some (.tup [.int 6, .tup (idsF ks)]) → PartsOf W t ks
theorem s_parts3 {Q : FV → Store → Prop} {t : Nat} {ks : List Nat} (H : Is W L σ) (P : PartsOf W t ks) (z : W.rows.length ≤ lim) (q : Q (.tup (idsF ks)) σ) : RunT 8 (run X (n + 1) (.st (.ref 369)) [.ref 5, .int t]) σ Q := by
  cases P with
  | one k I he => subst he; exact s_parts_of H I z q
  | never h he =>
    subst h; subst he
    refine r_go [("tab", .ref 5), ("t", .int (2 : Nat))] rfl rfl rfl ?_
    exact r_cmp rfl (IfB.t rfl q)
  | many h2 hr =>
    refine r_go [("tab", .ref 5), ("t", .int t)] rfl rfl rfl ?_
    refine r_cmp rfl (IfB.f (by simp; lia) ?_)
    walk_at "a"
    refine r_item_l (by walk_at "at") (row_at hr z) (r_item (v := .int 6) rfl (r_cmp rfl (IfB.t rfl ?_)))
    exact r_item (v := .tup (idsF ks)) rfl q
end
section
variable {n : Nat} {W W' W'' : Wd} {L L' : List (Nat × MO)} {σ : Store} {l c : Nat}
noncomputable def atomsN : List Nat := [4, 5, 8, 9, 17, 18, 19, 20, 7, 6, 1, 16, 0]
noncomputable def masksN : List Nat := [64, 128, 16, 32, 192, 12, 4, 2, 1, 65, 304, 704, 2047, 6143, 2048, 0, 80]
noncomputable def kdB (t : Nat) : Int := match baseR[t]? with
  | some (.tup (.int k :: _)) => k
  | _ => 0
noncomputable def bitN (m i : Nat) : Bool := m / 2 ^ i % 2 == 1
noncomputable def atomsOf (m : Nat) : List Nat := ((List.range 13).filter (bitN m)).map fun i => atomsN.getD i 0
theorem atom_id (B : Stem W) : ∀ t ∈ atomsN, Id W t (kdB t) := by
  intro t ht
  have key : ∀ x : FV, kindOk (.tup [.int 1, x]) 1 := fun _ => kindKey
  simp only [atomsN, List.mem_cons, List.not_mem_nil, or_false] at ht
  rcases ht with rfl | rfl | rfl | rfl | rfl | rfl | rfl | rfl | rfl | rfl | rfl | rfl | rfl
  · exact B.id (i := 4) rfl (key _) (by decide)
  · exact B.id (i := 5) rfl (key _) (by decide)
  · exact B.id (i := 8) rfl ⟨rfl, by decide, by decide, by decide, fun _ => ⟨_, rfl, rfl⟩⟩ (by decide)
  · exact B.id (i := 9) rfl ⟨rfl, by decide, by decide, by decide, fun _ => ⟨_, rfl, rfl⟩⟩ (by decide)
  · exact B.id (i := 17) rfl ⟨rfl, by decide, by decide, by decide, fun _ => ⟨_, rfl, rfl⟩⟩ (by decide)
  · exact B.id (i := 18) rfl ⟨rfl, by decide, by decide, by decide, fun _ => ⟨_, rfl, rfl⟩⟩ (by decide)
  · exact B.id (i := 19) rfl ⟨rfl, by decide, by decide, by decide, fun _ => ⟨_, rfl, rfl⟩⟩ (by decide)
  · exact B.id (i := 20) rfl ⟨rfl, by decide, by decide, by decide, fun _ => ⟨_, rfl, rfl⟩⟩ (by decide)
  · exact B.id (i := 7) rfl (key _) (by decide)
  · exact B.id (i := 6) rfl (key _) (by decide)
  · exact B.id (i := 1) rfl (key _) (by decide)
  · exact B.id (i := 16) rfl ⟨rfl, by decide, by decide, by decide, by decide⟩ (by decide)
  · exact B.id (i := 0) rfl (key _) (by decide)
theorem atomsOf_mem {m t : Nat} (h : t ∈ atomsOf m) : t ∈ atomsN := by
  unfold atomsOf at h
  obtain ⟨i, hi, rfl⟩ := List.mem_map.mp h
  have hi := (List.mem_filter.mp hi).1
  have : i < 13 := List.mem_range.mp hi
  rw [List.getD_eq_getElem?_getD, List.getElem?_eq_getElem (by exact this)]
  exact List.getElem_mem _
theorem s_kind {Q : FV → Store → Prop} {m : Nat} (H : Is W L σ) (T : TW W) (z : W.rows.length ≤ 4000) (B : Stem W) (q : ∀ r W' σ', UnionR W (atomsOf m) kdB r W' → Is W' L σ' → Q (.int (r : Nat)) σ') : RunT 8 (run X (n + 41) (.st (.ref 1219)) [.ref 5, .int m, .ref 16]) σ Q := by
  refine r_go [("tab", .ref 5), ("mask", .int m), ("atoms", .ref 16)] rfl rfl rfl ?_
  refine r_range (r_itemsC rfl (by walk_at "z") ?_)
  have rl : ((List.range ((13 : Int) - 0).toNat).map fun (k : Nat) => FV.int ((0 : Int) + (k : Int))) = (List.range 13).map fun (k : Nat) => FV.int (k : Int) := rfl
  refine comp_list (xs := (List.range 13).map fun (k : Nat) => FV.int (k : Int)) (P := fun i out σ => out = idsF (((List.range i).filter (bitN m)).map fun i => atomsN.getD i 0) ∧ i ≤ 13 ∧ Is W L σ)
    (fun i out σ K ⟨_, _, H1⟩ k => r_items rfl (by rw [rl]; exact k)) ?_ ?_ _ 0 _ _ ⟨rfl, by omega, H⟩ (Nat.zero_le _) (by decide)
  · rintro i x out σ1 K ⟨rfl, hi, H1⟩ hx next
    have hi13 : i < 13 := by have := (List.getElem?_eq_some_iff.mp hx).1; simpa using this
    have hx : x = .int (i : Int) := by
      rw [List.getElem?_map, List.getElem?_range hi13] at hx
      simpa using hx.symm
    subst hx
    have hp : binV .Pow (.int 2) (.int (i : Int)) = some (.int ((2 ^ i : Nat) : Int)) := by
      refine (if_pos (⟨rfl, by omega, by omega⟩ : (2 : Int) = 2 ∧ (0 : Int) ≤ i ∧ (i : Int) ≤ 60)).trans ?_
      simp
    have p1 : (2 : Nat) ^ i ≤ 2 ^ 12 := Nat.pow_le_pow_right (by decide) (by omega)
    have p0 : 0 < (2 : Nat) ^ i := Nat.pow_pos (by decide)
    have hd : binV .FloorDiv (.int (m : Int)) (.int ((2 ^ i : Nat) : Int)) = some (.int ((m / 2 ^ i : Nat) : Int)) := by
      refine (if_pos (⟨by omega, by omega⟩ : (0 : Int) < ((2 ^ i : Nat) : Int) ∧ ((2 ^ i : Nat) : Int) < 1073741824)).trans ?_
      rw [Int.fdiv_eq_ediv_of_nonneg _ (by omega)]
      rfl
    have hm : binV .Mod (.int ((m / 2 ^ i : Nat) : Int)) (.int 2) = some (.int ((m / 2 ^ i % 2 : Nat) : Int)) := by
      show some (FV.int (Int.fmod ((m / 2 ^ i : Nat) : Int) 2)) = _
      rw [Int.fmod_eq_emod_of_nonneg _ (by decide)]
      rfl
    have hr : (List.range (i + 1)).filter (bitN m) = (List.range i).filter (bitN m) ++ (if bitN m i = true then [i] else []) := by
      rw [List.range_succ, List.filter_append]
      by_cases hb : bitN m i = true <;> simp [hb]
    refine r_bin hp (r_bin hd (r_bin hm (r_cmp rfl ?_)))
    have ol : ∀ {xs : List Nat}, xs.length ≤ 13 → (idsF xs).length ≤ lim := fun h => by unfold idsF; rw [List.length_map]; show _ ≤ 1000000; omega
    have fl : (((List.range i).filter (bitN m)).map fun i => atomsN.getD i 0).length ≤ 13 := by
      rw [List.length_map]
      refine Nat.le_trans (List.length_filter_le _ _) ?_
      rw [List.length_range]; omega
    by_cases hb : bitN m i = true
    · have hb' : m / 2 ^ i % 2 = 1 := by unfold bitN at hb; simpa using hb
      refine IfB.t (by rw [hb']; rfl) (IfB.t rfl ?_)
      have ha : (idx atomsN.length (i : Int)).bind (fun k => (idsF atomsN)[k]?) = some (.int ((atomsN.getD i 0 : Nat) : Int)) := by
        rw [idx_nat (by exact hi13) (by walk_at "z")]
        show (idsF atomsN)[i]? = _
        unfold idsF
        rw [List.getElem?_map, List.getD_eq_getElem?_getD, List.getElem?_eq_getElem (by exact hi13)]
        rfl
      refine r_item_l (xs := idsF atomsN) (by walk_at "at") ha ⟨ol fl, next _ _ ⟨?_, by assumption, H1⟩⟩
      rw [hr, if_pos hb, List.map_append]
      unfold idsF
      rw [List.map_append]; rfl
    · have hb' : m / 2 ^ i % 2 = 0 := by unfold bitN at hb; simp at hb; omega
      refine IfB.f (by rw [hb']; rfl) (IfB.f rfl (next _ _ ⟨?_, by assumption, H1⟩))
      rw [hr, if_neg hb, List.append_nil]
  · rintro out σ1 ⟨rfl, _, H1⟩
    refine r_alloc H1 fun k σ2 H2 => ?_
    have H3 : Is W ((k, .lst (idsF (atomsOf m))) :: L) σ2 := H2
    have al : (atomsOf m).length ≤ 13 := by
      unfold atomsOf
      rw [List.length_map]
      refine Nat.le_trans (List.length_filter_le _ _) ?_
      simp
    refine s_union (ts := atomsOf m) (kd := kdB) H3 T z (.lst (.head _)) (by lia) (fun t ht => atom_id B t (atomsOf_mem ht)) (fun t ht => ?_) fun r W' σ' u H4 => q r W' σ' u H4.drop
    have := atomsOf_mem ht
    simp only [atomsN, List.mem_cons, List.not_mem_nil, or_false] at this
    omega
end
section
variable {n : Nat} {W W' W'' : Wd} {L L' : List (Nat × MO)} {σ : Store} {l c : Nat}
theorem sorted_ext : ∀ {a b : List Nat}, a.Pairwise (· < ·) → b.Pairwise (· < ·) → (∀ x, x ∈ a ↔ x ∈ b) → a = b
  | [], [], _, _, _ => rfl
  | [], y :: _, _, _, h => by have := (h y).mpr (.head _); cases this
  | x :: _, [], _, _, h => by have := (h x).mp (.head _); cases this
  | x :: a, y :: b, ha, hb, h => by
    rw [List.pairwise_cons] at ha hb
    have exy : x = y := by
      rcases List.mem_cons.mp ((h x).mp (.head _)) with e | e
      · exact e
      · rcases List.mem_cons.mp ((h y).mpr (.head _)) with e' | e'
        · exact e'.symm
        · have := hb.1 x e; have := ha.1 y e'; omega
    subst exy
    have : a = b := sorted_ext ha.2 hb.2 fun z => by
      constructor
      · intro hz
        rcases List.mem_cons.mp ((h z).mp (.tail _ hz)) with rfl | e
        · have := ha.1 _ hz; omega
        · exact e
      · intro hz
        rcases List.mem_cons.mp ((h z).mpr (.tail _ hz)) with rfl | e
        · have := hb.1 _ hz; omega
        · exact e
    rw [this]
noncomputable def knownD : List (FV × FV) := match (store0 [] [])[17]? with
  | some (MO.dct kvs) => kvs
  | _ => []
noncomputable def kn (t : Nat) : Int := match kvFind (.int t) knownD with
  | some (.int i) => i
  | _ => 32768
noncomputable def maskOf (ks : List Nat) : Int := ks.foldl (fun a t => Builtin.bitOr a (kn t)) 0
noncomputable def keptM (m : Nat) : List Nat := (List.range 32).filter fun x => decide (x ∈ atomsOf m) && decide (wholeK (kdB x) ∉ (atomsOf m).map (fun (t : Nat) => (t : Int)))
/-- an id that means a mask -/
noncomputable def KindIs (W : Wd) (r m : Nat) : Prop := ∃ ks, PartsOf W r ks ∧ ks.length ≤ 32 ∧ maskOf ks = m
noncomputable def mask_ok (m : Nat) : Bool :=
  (if 0 ∈ atomsOf m then maskOf [0] == (m : Int) else if 1 ∈ atomsOf m then maskOf [1] == (m : Int) else maskOf (keptM m) == (m : Int)) && !(decide (13 ∈ atomsOf m))
theorem masks_ok : masksN.all mask_ok = true := by decide +kernel
theorem PartsOf.le {t : Nat} {ks : List Nat} (x : Le W W') (p : PartsOf W t ks) : PartsOf W' t ks := by
  cases p with
  | never h e => exact .never h e
  | one k I e => exact .one k ⟨let ⟨r, h1, h2⟩ := I.row; ⟨r, app_get x.rows h1, h2⟩, I.never⟩ e
  | many h r => exact .many h (app_get x.rows r)
theorem KindIs.le {r m : Nat} (x : Le W W') (k : KindIs W r m) : KindIs W' r m := let ⟨ks, p, l, e⟩ := k; ⟨ks, p.le x, l, e⟩
theorem UnionR.le {ts : List Nat} {kd : Nat → Int} {r : Nat} (u : UnionR W ts kd r W') : Le W W' := by
  cases u with
  | top _ e => exact e ▸ .refl W
  | rest kept _ _ _ _ _ h =>
    rcases h with ⟨_, _, e⟩ | ⟨_, e⟩ | ⟨_, p⟩
    · exact e ▸ .refl W
    · exact e ▸ .refl W
    · exact p.le
theorem kind_is {m r : Nat} (hm : m ∈ masksN) (B : Stem W) (u : UnionR W (atomsOf m) kdB r W') : KindIs W' r m := by
  have ok := List.all_eq_true.mp masks_ok m hm
  unfold mask_ok at ok
  simp only [Bool.and_eq_true, Bool.not_eq_true', decide_eq_false_iff_not] at ok
  obtain ⟨ok, h13⟩ := ok
  have le := u.le
  cases u with
  | top h e =>
    subst e
    rcases h with ⟨rfl, h⟩ | ⟨rfl, _, h⟩ | ⟨rfl, h0, _, h⟩
    · rw [if_pos h] at ok
      exact ⟨[0], .one _ (atom_id B 0 (by decide)) rfl, by decide, by simpa using ok⟩
    · exact absurd h h13
    · rw [if_neg h0, if_pos h] at ok
      exact ⟨[1], .one _ (atom_id B 1 (by decide)) rfl, by decide, by simpa using ok⟩
  | rest kept h0 _ h1 hp hmem h =>
    rw [if_neg h0, if_neg h1] at ok
    have ek : kept = keptM m := sorted_ext hp (List.Pairwise.filter _ (List.pairwise_lt_range)) fun x => by
      rw [hmem]
      unfold keptM
      rw [List.mem_filter, List.mem_range]
      simp only [Bool.and_eq_true, decide_eq_true_eq]
      refine ⟨fun h => ⟨?_, h⟩, fun h => h.2⟩
      have := atomsOf_mem h.1
      simp only [atomsN, List.mem_cons, List.not_mem_nil, or_false] at this
      omega
    have ok : maskOf kept = (m : Int) := by rw [ek]; simpa using ok
    rcases h with ⟨e, hr, hW⟩ | ⟨e, hW⟩ | ⟨hl, p⟩
    · exact ⟨[], .never hr rfl, by decide, by rw [← e]; exact ok⟩
    · subst hW
      have : r ∈ atomsOf m := ((hmem r).mp (by rw [e]; exact .head _)).1
      exact ⟨[r], .one _ (atom_id B r (atomsOf_mem this)) rfl, by simp, by rw [← e]; exact ok⟩
    · refine ⟨kept, .many ?_ p.at_, by rw [ek]; exact Nat.le_trans (List.length_filter_le _ _) (by decide), ok⟩
      intro h2
      subst h2
      have e1 := (B.le le).at (i := 2) rfl
      rw [p.at_] at e1
      cases e1

theorem known_get (t : Nat) : kvGet (.int (t : Int)) knownD = some (kvFind (.int (t : Int)) knownD) := by
  exact if_pos (rfl : homog (.int (t : Int)) knownD = true)
noncomputable def isI : FV → Bool
  | .int _ => true
  | _ => false
theorem find_isI {k v : FV} : ∀ {kvs : List (FV × FV)}, kvs.all (fun p => isI p.2) = true → kvFind k kvs = some v → isI v = true
  | [], _, h => by cases h
  | (a, b) :: r, ha, h => by
    simp only [List.all_cons, Bool.and_eq_true] at ha
    rw [kvFind_c] at h
    split at h
    · cases h; exact ha.1
    · exact find_isI ha.2 h
theorem kn_eq (t : Nat) : (kvFind (.int (t : Int)) knownD).getD (.int 32768) = .int (kn t) := by
  unfold kn
  cases h : kvFind (.int (t : Int)) knownD with
  | none => rfl
  | some v =>
    have := find_isI (kvs := knownD) rfl h
    cases v <;> first | rfl | cases this
theorem s_mask {Q : FV → Store → Prop} {r : Nat} {ks : List Nat} (H : Is W L σ) (z : W.rows.length ≤ lim) (P : PartsOf W r ks) (hz : ks.length ≤ 32) (q : Q (.int (maskOf ks)) σ) : RunT 8 (run X (n + 40) (.st (.ref 1233)) [.ref 5, .ref 17, .int r]) σ Q := by
  refine r_go [("tab", .ref 5), ("known", .ref 17), ("t", .int r)] rfl rfl rfl ?_
  refine r_cmp rfl (IfB.t (rfl) ?_)
  refine s_parts3 H P z (r_items rfl ?_)
  refine for_list (xs := idsF ks) (R := fun _ _ => False)
    (P := fun i c σ' => c = envOf (stm 152) ([("tab", .ref 5), ("known", .ref 17), ("t", .int r), ("mask", .int (maskOf (ks.take i)))] : En) ∧ σ' = σ)
    (fun i c σ K _ k => r_items rfl k) ?_ ?_ (fun _ _ _ h => h.elim) _ 0 _ _ ⟨rfl, rfl⟩ (Nat.zero_le _) (by unfold idsF; rw [List.length_map]; lia)
  · rintro i x c σ1 K ⟨rfl, rfl⟩ hx next _
    unfold idsF at hx
    rw [List.getElem?_map] at hx
    cases hy : ks[i]? with
    | none => rw [hy] at hx; cases hx
    | some t =>
      rw [hy] at hx
      have hx : x = .int (t : Int) := by simpa using hx.symm
      subst hx
      have hti : maskOf (ks.take (i + 1)) = Builtin.bitOr (maskOf (ks.take i)) (kn t) := by
        rw [List.take_add_one, hy]; unfold maskOf; rw [List.foldl_append]; rfl
      have hv := kn_eq t
      have fin : K .next (envOf (stm 152) ([("tab", .ref 5), ("known", .ref 17), ("t", .int r), ("mask", .int (maskOf (ks.take (i + 1)))), ("part", .int t)] : En)) σ1 := (next _ _ ⟨rfl, rfl⟩).1
      rw [hti] at fin
      all_goals
        refine r_cal_d (kvs := knownD) (by walk_at "at") ?_
        refine r_get (kvs := knownD) (by walk_at "at") (known_get t) ?_
        rw [hv]
        exact fin
  · rintro c σ1 ⟨rfl, rfl⟩
    have : (idsF ks).length = ks.length := by unfold idsF; simp
    rw [this, List.take_length]
    exact q
end
section
variable {X : Ctx} {call : CallT} {n : Nat}
/-- a for whose body is shown at the frame that is named -/
theorem for_env {t : Expr} {body : List Stmt} {v : FV} {xs : List FV} {nm : List (PySem.Str × NameKind)} {Inv : Nat → En → Store → Prop} {R : FV → Store → Prop} {Q : Fl → Lc → Store → Prop} (hi : ∀ i e σ (K : List FV → Store → Prop), Inv i e σ → K xs σ → RunT 12 (itemsM v) σ K)
    (hs : ∀ i x e σ (K : Fl → Lc → Store → Prop), Inv i e σ → xs[i]? = some x → (∀ e' d σ', Inv (i + 1) e' σ' → keepN ⟨nm, e⟩ d = ⟨nm, e'⟩ → K .next d σ' ∧ K .cont d σ') → (∀ r d σ', R r σ' → K (.ret r) d σ') → SomeP (bindTarget t x ⟨nm, e⟩) fun c => wexs X call n body c K σ)
    (hf : ∀ e σ, Inv xs.length e σ → Q .next ⟨nm, e⟩ σ) (hr : ∀ r d σ, R r σ → Q (.ret r) d σ) (N i : Nat) (σ : Store) (e : En) (h0 : Inv i e σ) (h1 : i ≤ xs.length) (h2 : xs.length < N + i) :
    wfor (bodyK t (wexs X call n body)) v N i ⟨nm, e⟩ Q σ := by
  refine for_list (xs := xs) (R := R) (P := fun i c σ => ∃ e, c = ⟨nm, e⟩ ∧ Inv i e σ) (fun i c σ K ⟨e, _, h⟩ k => hi i e σ K h k) ?_ (fun c σ ⟨e, hc, h⟩ => hc ▸ hf e σ h) hr N i ⟨nm, e⟩ σ ⟨e, rfl, h0⟩ h1 h2
  rintro i x c σ K ⟨e, rfl, h⟩ hx next ret
  exact hs i x e σ K h hx (fun e' d σ' h' k => next d σ' ⟨e', k, h'⟩) ret
end
section
variable {n : Nat} {W W' W'' : Wd} {L L' : List (Nat × MO)} {σ : Store} {l c : Nat}
/-- the table as it should be -/
structure Ok1 (W : Wd) (c : Nat) : Prop where
  tw : TW W
  sz : Sz W c
  stem : Stem W
  ys : Ys W
  dn : W.diags = [] ∧ W.notes = []
theorem Ok1.at (o : Ok1 W c) (k : Nat) : Ok1 { W with at_ := k } c := ⟨⟨o.tw.ix, o.tw.key, o.tw.nd⟩, ⟨o.sz.1, o.sz.2, o.sz.3, o.sz.4, o.sz.5, o.sz.6, o.sz.7⟩, o.stem, o.ys, o.dn⟩
theorem Le.at (k : Nat) : Le W { W with at_ := k } := ⟨⟨[], by simp⟩, ⟨[], by simp⟩, ⟨[], by simp⟩, fun _ h => h, rfl, rfl⟩
theorem Ok1.put {row : FV} {i : Nat} (o : Ok1 W c) (p : Put W row i W') : Ok1 W' (c + 1) := ⟨p.tw, p.sz o.sz, o.stem.le p.le, by have := o.ys; unfold Ys at *; rw [p.le.ys]; exact this, by rw [p.rest]; exact o.dn⟩
theorem Ok1.up (o : Ok1 W c) {d : Nat} (h : c ≤ d) : Ok1 W d := ⟨o.tw, o.sz.le h, o.stem, o.ys, o.dn⟩
theorem Ok1.union {ts : List Nat} {kd : Nat → Int} {r : Nat} (o : Ok1 W c) (u : UnionR W ts kd r W') : Ok1 W' (c + 1) := by
  cases u with
  | top _ e => exact e ▸ o.up (Nat.le_succ c)
  | rest kept _ _ _ _ _ h =>
    rcases h with ⟨_, _, e⟩ | ⟨_, e⟩ | ⟨_, p⟩
    · exact e ▸ o.up (Nat.le_succ c)
    · exact e ▸ o.up (Nat.le_succ c)
    · exact o.put p

noncomputable def maskY (y : Nat) : Nat := masksN.getD (y / 6) 0
noncomputable def moreY (y : Nat) : Int := if 50 < y then ([0, 2, 2, 1, 8, -30] : List Int).getD (y % 6) 0 else 0
noncomputable def flY (y : Nat) : Int := ([0, 0, 1, 4, 8, 64] : List Int).getD (y % 6) 0 + moreY y
noncomputable def mayY (y : Nat) : Int := if y % 6 = 2 ∨ (y % 6 = 3 ∧ 50 < y) then 1 else 0
noncomputable def rowY (nm : PySem.Str) (y : Nat) : FV := .tup [.str nm, .int ((y % 6 : Nat) : Int), .int (maskY y : Nat), .int (mayY y)]
theorem mask_mem {y : Nat} (h : y < 102) : maskY y ∈ masksN := by
  unfold maskY
  have : y / 6 < 17 := Nat.div_lt_of_lt_mul h
  rw [List.getD_eq_getElem?_getD, List.getElem?_eq_getElem (by exact this)]
  exact List.getElem_mem _
noncomputable def masksT : FV := .tup [.int 64, .int 128, .int 16, .int 32, .int 192, .int 12, .int 4, .int 2, .int 1, .int 65, .int 304, .int 704, .int 2047, .int 6143, .int 2048, .int 0, .int 80]
theorem tab_at {l : List Int} {i : Nat} (h : i < l.length) (hz : l.length ≤ lim) : itemV (.tup (l.map .int)) (.int (i : Int)) = some (.int (l.getD i 0)) := by
  show (idx (l.map FV.int).length (i : Int)).bind (fun k => (l.map FV.int)[k]?) = _
  rw [List.length_map, idx_nat h hz]
  show (l.map FV.int)[i]? = _
  rw [List.getElem?_map, List.getD_eq_getElem?_getD, List.getElem?_eq_getElem h]; rfl
theorem mask_at {i : Nat} (h : i < 17) : itemV masksT (.int (i : Int)) = some (.int ((masksN.getD i 0 : Nat) : Int)) :=
  (tab_at (l := masksN.map fun (m : Nat) => (m : Int)) (i := i) h (by decide)).trans (by rw [List.getD_eq_getElem?_getD, List.getD_eq_getElem?_getD, List.getElem?_map]; cases masksN[i]? <;> rfl)
theorem bin_mod {y k : Nat} (hk : 0 < k) : binV .Mod (.int (y : Int)) (.int (k : Int)) = some (.int ((y % k : Nat) : Int)) := by
  refine (if_pos (fun e => Nat.ne_of_gt hk (Int.ofNat.inj e) : ¬ (k : Int) = 0)).trans ?_
  rw [Int.fmod_eq_emod_of_nonneg _ (Int.natCast_nonneg k)]; rfl
theorem bin_div {y k : Nat} (hk : 0 < k) (h2 : k < 1000) : binV .FloorDiv (.int (y : Int)) (.int (k : Int)) = some (.int ((y / k : Nat) : Int)) := by
  refine (if_pos (⟨Int.natCast_pos.mpr hk, Int.ofNat_lt.mpr (Nat.lt_trans h2 (by decide))⟩ : (0 : Int) < (k : Int) ∧ (k : Int) < 1073741824)).trans ?_
  rw [Int.fdiv_eq_ediv_of_nonneg _ (Int.natCast_nonneg k)]; rfl
end
section
variable {n : Nat} {W W' W'' : Wd} {L L' : List (Nat × MO)} {σ : Store} {l c : Nat}
theorem lookup_app {x : PySem.Str} {v : FV} {b : En} : ∀ {a : En}, a.lookup x = some v → (a ++ b).lookup x = some v
  | [], h => by cases h
  | (k, u) :: a, h => by
    rw [List.cons_append, List.lookup_cons]
    rw [List.lookup_cons] at h
    split at h
    · exact h
    · exact lookup_app h
noncomputable def flagsT : FV := .tup [.int 0, .int 0, .int 1, .int 4, .int 8, .int 64]
noncomputable def thB (h rl pl : Nat) : En := [("tab", .ref 5), ("d", .ref 3), ("atoms", .ref 16), ("head", .int h), ("flags", flagsT), ("rows", .ref rl), ("props", .ref pl)]
noncomputable def thS : Stmt := (fBody (stm 154)).getD 4 (.Pass ⟨0, 0, 0, 0⟩)
noncomputable def turnL (nm : PySem.Str) (y kid : Nat) : List FV × List FV := if y % 6 = 0 then ([], []) else ([rowY nm y], [Pr.f ⟨nm, (kid : Int), flY y, if y % 6 = 4 then 1 else 0⟩])
theorem n_setc {X₀ : Ctx} {call : CallT} {m : Nat} {c c' : Lc} {x : PySem.Str} {k : Const} {i : Nat} {p q r : Pos} {v : FV} {ss : List Stmt} {Q : Fl → Lc → Store → Prop} (e : constV k = some v) (e' : setN c x v = some c') (h : wexs X₀ call m ss c' Q σ) : wexs X₀ call m (.Assign [.Name x p] (.Constant k i q) r :: ss) c Q σ := SomeP.mk e (SomeP.mk e' h)
theorem s_turn {nm : PySem.Str} {h rl pl : Nat} {ri pi : List FV} {K : Fl → Lc → Store → Prop} (H : Is W ((pl, .lst pi) :: (rl, .lst ri) :: L) σ) (o : Ok1 W c) (hc : c ≤ 3000) (z1 : ri.length ≤ 3) (z2 : pi.length ≤ 3)
    (next : ∀ y kid W' σ' d, keepN (envOf (stm 154) (thB h rl pl)) d = envOf (stm 154) (thB h rl pl) → y < 102 → Le W W' → Ok1 W' (c + 1) → (y % 6 ≠ 0 → KindIs W' kid (maskY y)) → Is W' ((pl, .lst (pi ++ (turnL nm y kid).2)) :: (rl, .lst (ri ++ (turnL nm y kid).1)) :: L) σ' → K .next d σ') :
    SomeP (bindTarget (forT thS) (.str nm) (envOf (stm 154) (thB h rl pl))) fun c => wexs X (run X (n + 43)) (n + 44) (forB thS) c K σ := by
  have l3 : ∀ {m : Nat}, m ≤ 3 → m ≤ lim := fun h => Nat.le_trans ‹_› (Nat.le_of_ble_eq_true rfl)
  refine s_take (m := 102) H o.ys (by decide) fun y k σ1 hy H1 => ?_
  have hy : y < 102 := by omega
  have o1 := o.at k
  -- statement 6
  have rest6 : wexs X (run X (n + 43)) (n + 44) ((forB thS).drop 6) (envOf (stm 154) (thB h rl pl ++ ([("name", .str nm), ("y", .int y), ("sort", .int ((y % 6 : Nat) : Int)), ("mask", .int (maskY y : Nat)), ("more", .int (moreY y)), ("may", .int (mayY y))] : En))) K σ1 := by
    refine r_cmp rfl (IfB.of (fun h6 => ?_) fun h6 => ?_)
    · have h0 : y % 6 ≠ 0 := by simp at h6; omega
      refine r_cal_l (by walk_at "at") (r_appL H1 (by walk_at "upd") (l3 z1) fun σ2 H2 => ?_)
      refine r_cal_l (by walk_at "at") ?_
      refine s_kind (m := maskY y) H2 o1.tw (Nat.le_trans o1.sz.rows (by lia)) o1.stem fun r W' σ3 u H3 => ?_
      have ki := kind_is (mask_mem hy) o1.stem u
      have fl := tab_at (l := [0, 0, 1, 4, 8, 64]) (i := y % 6) (by simp; omega) (by walk_at "z")
      refine r_item (v := .int (([0, 0, 1, 4, 8, 64] : List Int).getD (y % 6) 0)) fl (r_bin (v := .int (flY y)) rfl (r_cmp rfl ?_))
      have fin : ∀ σ4, Is W' ((pl, .lst (pi ++ [Pr.f ⟨nm, (r : Int), flY y, if y % 6 = 4 then 1 else 0⟩])) :: (rl, .lst (ri ++ [rowY nm y])) :: L) σ4 → K .next (envOf (stm 154) (thB h rl pl ++ ([("name", .str nm), ("y", .int y), ("sort", .int ((y % 6 : Nat) : Int)), ("mask", .int (maskY y : Nat)), ("more", .int (moreY y)), ("may", .int (mayY y))] : En))) σ4 := fun σ4 H4 =>
        next y r W' σ4 _ rfl hy ((Le.at k).trans u.le) (o1.union u) (fun _ => ki) (by unfold turnL; rw [if_neg h0]; exact H4)
      by_cases h4 : y % 6 = 4
      · refine IfB.t (by rw [h4]; rfl) (r_appL H3 (by walk_at "upd") (l3 z2) fun σ4 H4 => ?_)
        exact fin σ4 (by rw [if_pos h4]; exact H4)
      · refine IfB.f (by simp; omega) (r_appL H3 (by walk_at "upd") (l3 z2) fun σ4 H4 => ?_)
        exact fin σ4 (by rw [if_neg h4]; exact H4)
    · have h0 : y % 6 = 0 := by simp at h6; lia
      exact next y 0 _ σ1 _ rfl hy (Le.at k) (o1.up (by lia)) (fun h => absurd h0 h) (by unfold turnL; rw [if_pos h0, List.append_nil, List.append_nil]; exact H1)
  -- statement 5
  have rest5 : wexs X (run X (n + 43)) (n + 44) ((forB thS).drop 5) (envOf (stm 154) (thB h rl pl ++ ([("name", .str nm), ("y", .int y), ("sort", .int ((y % 6 : Nat) : Int)), ("mask", .int (maskY y : Nat)), ("more", .int (moreY y))] : En))) K σ1 := by
    refine r_cmp rfl ?_
    by_cases h2 : y % 6 = 2
    · have e : mayY y = 1 := by unfold mayY; rw [if_pos (.inl h2)]
      rw [e] at rest6
      exact IfB.t (by rw [h2]; rfl) (IfB.t rfl rest6)
    · refine IfB.f (by simp; omega) (r_cmp rfl ?_)
      by_cases h3 : y % 6 = 3
      · refine IfB.t (by rw [h3]; rfl) (r_cmp rfl ?_)
        by_cases h5 : 50 < y
        · have e : mayY y = 1 := by unfold mayY; rw [if_pos (.inr ⟨h3, h5⟩)]
          rw [e] at rest6
          exact IfB.t (by simp; omega) (IfB.t rfl (IfB.t rfl rest6))
        · have e : mayY y = 0 := by unfold mayY; rw [if_neg (by omega)]
          rw [e] at rest6
          exact IfB.f (by simp; omega) (IfB.f rfl (IfB.f rfl rest6))
      · have e : mayY y = 0 := by unfold mayY; rw [if_neg (by lia)]
        rw [e] at rest6
        exact IfB.f (by simp; lia) (IfB.f rfl (IfB.f rfl rest6))
  have start : wexs X (run X (n + 43)) (n + 44) ((forB thS).drop 4) (envOf (stm 154) (thB h rl pl ++ ([("name", .str nm), ("y", .int y), ("sort", .int ((y % 6 : Nat) : Int)), ("mask", .int (maskY y : Nat)), ("more", .int 0)] : En))) K σ1 := by
    refine r_cmp rfl ?_
    by_cases h5 : 50 < y
    · refine IfB.t (by simp; lia) (r_bin rfl (r_bin rfl (r_bin rfl ?_)))
      have mo := tab_at (l := [0, 2, 2, 1, 8, -30]) (i := y % 6) (by simp; omega) (by walk_at "z")
      have e : moreY y = ([0, 2, 2, 1, 8, -30] : List Int).getD (y % 6) 0 := by unfold moreY; rw [if_pos h5]
      rw [← e] at mo
      refine r_bin (v := .tup (([0, 2, 2, 1, 8, -30] : List Int).map .int)) rfl (r_item mo ?_)
      exact rest5
    · have e : moreY y = 0 := by unfold moreY; rw [if_neg h5]
      rw [e] at rest5
      exact IfB.f (by simp; lia) rest5
  refine n_set (c' := envOf (stm 154) (thB h rl pl ++ ([("name", .str nm), ("y", .int y)] : En))) rfl ?_
  refine r_bin (bin_mod (y := y) (k := 6) (by decide)) (n_set (c' := envOf (stm 154) (thB h rl pl ++ ([("name", .str nm), ("y", .int y), ("sort", .int ((y % 6 : Nat) : Int))] : En))) rfl ?_)
  refine r_bin (bin_div (y := y) (k := 6) (by decide) (by decide)) (r_item (mask_at (i := y / 6) (by omega)) (n_set (c' := envOf (stm 154) (thB h rl pl ++ ([("name", .str nm), ("y", .int y), ("sort", .int ((y % 6 : Nat) : Int)), ("mask", .int (maskY y : Nat))] : En))) rfl ?_))
  exact n_setc (c' := envOf (stm 154) (thB h rl pl ++ ([("name", .str nm), ("y", .int y), ("sort", .int ((y % 6 : Nat) : Int)), ("mask", .int (maskY y : Nat)), ("more", .int 0)] : En))) rfl rfl start
end
section
variable {n : Nat} {W W' W'' : Wd} {L L' : List (Nat × MO)} {σ : Store} {l c : Nat}
/-- a turn's outcome: name, draw, kind's id -/
structure Tn where
  nm : PySem.Str
  y : Nat
  kid : Nat
noncomputable def Tn.pr (t : Tn) : List Pr := if t.y % 6 = 0 then [] else [⟨t.nm, (t.kid : Int), flY t.y, if t.y % 6 = 4 then 1 else 0⟩]
noncomputable def Tn.row (t : Tn) : List FV := if t.y % 6 = 0 then [] else [rowY t.nm t.y]
noncomputable def prs (ts : List Tn) : List Pr := (ts.map Tn.pr).flatten
noncomputable def rws (ts : List Tn) : List FV := (ts.map Tn.row).flatten
noncomputable def abc : List PySem.Str := [⟨#[97]⟩, ⟨#[98]⟩, ⟨#[99]⟩]
/-- the turns that are done -/
structure Tns (W : Wd) (ts : List Tn) : Prop where
  nms : ts.map (·.nm) = abc.take ts.length
  y : ∀ t ∈ ts, t.y < 102
  kind : ∀ t ∈ ts, t.y % 6 ≠ 0 → KindIs W t.kid (maskY t.y)
theorem Tns.le {ts : List Tn} (x : Le W W') (t : Tns W ts) : Tns W' ts := ⟨t.nms, t.y, fun u hu h => (t.kind u hu h).le x⟩
theorem prs_len : ∀ ts : List Tn, (prs ts).length ≤ ts.length
  | [] => Nat.le_refl _
  | t :: ts => by
    have := prs_len ts
    unfold prs at this ⊢
    simp only [List.map_cons, List.flatten_cons, List.length_append, List.length_cons]
    have : t.pr.length ≤ 1 := by unfold Tn.pr; split <;> simp
    omega
theorem rws_len : ∀ ts : List Tn, (rws ts).length ≤ ts.length
  | [] => Nat.le_refl _
  | t :: ts => by
    have := rws_len ts
    unfold rws at this ⊢
    simp only [List.map_cons, List.flatten_cons, List.length_append, List.length_cons]
    have : t.row.length ≤ 1 := by unfold Tn.row; split <;> simp
    omega
theorem turn_eq (t : Tn) : turnL t.nm t.y t.kid = (t.row, t.pr.map Pr.f) := by
  unfold turnL Tn.row Tn.pr
  split <;> rfl
theorem s_turns {h rl pl : Nat} {Q : Fl → Lc → Store → Prop} (H : Is W ((pl, .lst []) :: (rl, .lst []) :: L) σ) (o : Ok1 W c) (hc : c ≤ 2000)
    (q : ∀ ts W' σ', ts.length = 3 → Tns W' ts → Le W W' → Ok1 W' (c + 3) → Is W' ((pl, .lst ((prs ts).map Pr.f)) :: (rl, .lst (rws ts)) :: L) σ' → Q .next (envOf (stm 154) (thB h rl pl)) σ') :
    wfor (bodyK (forT thS) (wexs X (run X (n + 43)) (n + 44) (forB thS))) (.tup (abc.map .str)) (n + 44) 0 (envOf (stm 154) (thB h rl pl)) Q σ := by
  refine for_env (xs := abc.map .str) (nm := (fScope (stm 154)).names) (R := fun _ _ => False)
    (Inv := fun i e σ' => e = thB h rl pl ∧ ∃ ts W', ts.length = i ∧ Tns W' ts ∧ Le W W' ∧ Ok1 W' (c + i) ∧ Is W' ((pl, .lst ((prs ts).map Pr.f)) :: (rl, .lst (rws ts)) :: L) σ')
    (fun i e σ K _ k => r_items rfl k) ?_ ?_ (fun _ _ _ h => h.elim) (n + 44) 0 σ _ ⟨rfl, [], W, rfl, ⟨rfl, by simp, by simp⟩, .refl W, o, H⟩ (Nat.zero_le _) (by show 3 < _; lia)
  · rintro i x e σ1 K ⟨rfl, ts, W1, hl, T, le, o1, H1⟩ hx next _
    rw [List.getElem?_map] at hx
    cases hy : abc[i]? with
    | none => rw [hy] at hx; cases hx
    | some nm =>
      rw [hy] at hx
      have hx : x = .str nm := by simpa using hx.symm
      subst hx
      have hi : i < 3 := (List.getElem?_eq_some_iff.mp hy).1
      refine s_turn H1 o1 (by lia) (by have := rws_len ts; lia) (by rw [List.length_map]; have := prs_len ts; lia) fun y kid W2 σ2 d hd hy' le2 o2 hk H2 => ?_
      refine (next (thB h rl pl) d σ2 ⟨rfl, ts ++ [⟨nm, y, kid⟩], W2, by simp [hl], ⟨?_, ?_, ?_⟩, le.trans le2, o2, ?_⟩ hd).1
      · rw [List.map_append, T.nms, List.length_append, hl]
        show _ = abc.take (i + 1)
        rw [List.take_add_one, hy]; rfl
      · intro t ht
        rcases List.mem_append.mp ht with ht | ht
        · exact T.y t ht
        · rw [List.mem_singleton.mp ht]; exact hy'
      · intro t ht h0
        rcases List.mem_append.mp ht with ht | ht
        · exact (T.kind t ht h0).le le2
        · rw [List.mem_singleton.mp ht] at h0 ⊢; exact hk h0
      · have e := turn_eq ⟨nm, y, kid⟩
        simp only at e
        rw [e] at H2
        unfold prs rws at H2 ⊢
        simpa using H2
  · rintro e σ1 ⟨rfl, ts, W1, hl, T, le, o1, H1⟩
    have hl : ts.length = 3 := hl
    exact q ts W1 σ1 hl T le o1 H1
end
section
variable {n : Nat} {W W' W'' : Wd} {L L' : List (Nat × MO)} {σ : Store} {l c : Nat}
noncomputable def sideH (h : Nat) : Nat := h / 8 % 5
noncomputable def heldH (h : Nat) : Nat := masksN.getD (h % 17) 0
noncomputable def shutH (h : Nat) : Bool := decide (h % 8 = 5 ∨ h % 8 = 6)
noncomputable def lidH (h k : Nat) : FV := if sideH h = k then .tup [.int (heldH h : Nat), .int ((h / 40 : Nat) : Int)] else .tup []
noncomputable def oneF (h rl made : Nat) : FV := .tup [.int 0, .tup [.ref rl, .bool (shutH h), lidH h 3, lidH h 4], .int made]
noncomputable def thE (h : Nat) (cell sigs calls ctors : FV) (made : Nat) : En := [("side", .int (sideH h : Nat)), ("held", .int (heldH h : Nat)), ("cell", cell), ("sigs", sigs), ("calls", calls), ("ctors", ctors), ("made", .int made)]
/-- the body of a function, as it ends -/
noncomputable abbrev endQ (Q : FV → Store → Prop) : Fl → Lc → Store → Prop := retFl Q
theorem th13 {Q : FV → Store → Prop} {h rl pl made : Nat} {cell sigs calls ctors : FV} (q : Q (oneF h rl made) σ) :
    wexs X (run X (n + 43)) (n + 44) ((fBody (stm 154)).drop 13) (envOf (stm 154) (thB h rl pl ++ thE h cell sigs calls ctors made)) (endQ Q) σ := by
  have m8 := bin_mod (y := h) (k := 8) (by decide)
  have d40 := bin_div (y := h) (k := 40) (by decide) (by decide)
  -- statement 14
  have rest : wexs X (run X (n + 43)) (n + 44) ((fBody (stm 154)).drop 14) (envOf (stm 154) (thB h rl pl ++ (thE h cell sigs calls ctors made ++ ([("shut", .bool (shutH h))] : En)))) (endQ Q) σ := by
    refine r_bin d40 ?_
    have fin : ∀ a b : FV, a = lidH h 3 → b = lidH h 4 → Q (.tup [.int 0, .tup [.ref rl, .bool (shutH h), a, b], .int made]) σ := fun a b h1 h2 => by subst h1; subst h2; exact q
    refine r_cmp rfl ?_
    by_cases h3 : sideH h = 3
    · refine IfB.t (by rw [h3]; rfl) (r_cmp rfl (IfB.f (by rw [h3]; rfl) ?_))
      exact fin _ _ (by unfold lidH; rw [if_pos h3]) (by unfold lidH; rw [if_neg (by omega)])
    · refine IfB.f (by simp; omega) (r_cmp rfl ?_)
      by_cases h4 : sideH h = 4
      · refine IfB.t (by rw [h4]; rfl) ?_
        exact fin _ _ (by unfold lidH; rw [if_neg h3]) (by unfold lidH; rw [if_pos h4])
      · refine IfB.f (by simp; omega) ?_
        exact fin _ _ (by unfold lidH; rw [if_neg h3]) (by unfold lidH; rw [if_neg h4])
  refine r_bin m8 (r_cmp rfl (r_truth rfl ?_))
  by_cases h5 : h % 8 = 5
  · have e : shutH h = true := by unfold shutH; simp [h5]
    rw [e] at rest
    refine IfB.t (by rw [h5]; rfl) ?_
    have e5 : (decide (((h % 8 : Nat) : Int) = 5)) = true := by rw [h5]; rfl
    rw [← e5] at rest
    refine n_set (c' := envOf (stm 154) (thB h rl pl ++ (thE h cell sigs calls ctors made ++ ([("shut", .bool (decide (((h % 8 : Nat) : Int) = 5)))] : En)))) rfl ?_
    exact rest
  · refine IfB.f (by simp; omega) (r_bin m8 (r_cmp rfl ?_))
    have e : shutH h = decide (((h % 8 : Nat) : Int) = 6) := by unfold shutH; by_cases h6 : h % 8 = 6 <;> simp [h5, h6]; omega
    rw [e] at rest
    refine n_set (c' := envOf (stm 154) (thB h rl pl ++ (thE h cell sigs calls ctors made ++ ([("shut", .bool (decide (((h % 8 : Nat) : Int) = 6)))] : En)))) rfl ?_
    exact rest
end
section
variable {n : Nat} {W W' W'' : Wd} {L L' : List (Nat × MO)} {σ : Store} {l c : Nat}
theorem Ok1.obj (o : Ok1 W c) (ob : List (Nat × MO)) : Ok1 { W with obj := ob } c := ⟨⟨o.tw.ix, o.tw.key, o.tw.nd⟩, ⟨o.sz.1, o.sz.2, o.sz.3, o.sz.4, o.sz.5, o.sz.6, o.sz.7⟩, o.stem, o.ys, o.dn⟩
/-- a declaration with its body -/
theorem s_lay {Q : FV → Store → Prop} {k : Int} {made : Nat} (H : Is W L σ) (o : Ok1 W c) (hc : c ≤ 2000)
    (q : ∀ l d W1 σ', Le W W1 → Ok1 W1 (c + 1) → (∃ did : Nat, ∃ a m v, W1.decls[did]? = some (.ref l) ∧ (l, MO.ins 264 d) ∈ W1.obj ∧ (d, MO.att (declA a (.int k) (.int made) m v)) ∈ W1.obj ∧ a = .int did) → Is W1 L σ' → Q (.ref l) σ') :
    RunT 8 (run X (n + 3) (.st (.ref 362)) [.ref 5, .int k, .str ⟨#[78]⟩]) σ (fun v σ => RunT 13 (storeAttrM X v "body" (.int made)) σ fun _ σ => Q v σ) := by
  refine s_decl H o.sz (by omega) fun l d m v σ1 H1 => ?_
  refine r_sattrL H1 (.head _) (.there .here) rfl (by walk_at "z") fun σ2 H2 => ?_
  have H3 : Is { W with decls := W.decls ++ [.ref l] } ((l, .ins 264 d) :: (d, .att (declA (.int W.decls.length) (.int k) (.int made) (.ref m) (.ref v))) :: L) σ2 := H2
  have H4 : Is { W with decls := W.decls ++ [.ref l], obj := (d, .att (declA (.int W.decls.length) (.int k) (.int made) (.ref m) (.ref v))) :: (l, .ins 264 d) :: W.obj } L σ2 := H3.keepObj.keepObj
  refine q l d { W with decls := W.decls ++ [.ref l], obj := (d, .att (declA (.int W.decls.length) (.int k) (.int made) (.ref m) (.ref v))) :: (l, .ins 264 d) :: W.obj } σ2 ⟨⟨[], by simp⟩, ⟨[], by simp⟩, ⟨_, rfl⟩, fun p hp => .tail _ (.tail _ hp), rfl, rfl⟩ ?_ ⟨W.decls.length, _, _, _, by simp, .tail _ (.head _), .head _, rfl⟩ H4
  obtain ⟨a1, a2, a3, a4, a5, a6, a7⟩ := o.sz
  exact ⟨⟨o.tw.ix, o.tw.key, o.tw.nd⟩, ⟨by simp only; omega, by simp only; omega, by simp only; omega, by simp only; omega, by simp; omega, by simp only; omega, by simp only; omega⟩, o.stem, o.ys, o.dn⟩
/-- a class or an interface is laid over what is made -/
theorem th12 {Q : FV → Store → Prop} {h rl pl made : Nat} {cell sigs calls ctors : FV} (H : Is W L σ) (o : Ok1 W c) (hc : c ≤ 2000)
    (q : ∀ t W' σ', Le W W' → Ok1 W' (c + 2) → ((h % 8 ≠ 4 ∧ h % 8 ≠ 5 ∧ t = made) ∨ (h % 8 = 4 ∧ RefTo W' t 2 made) ∨ (h % 8 = 5 ∧ RefTo W' t 1 made)) → Is W' L σ' → Q (oneF h rl t) σ') :
    wexs X (run X (n + 43)) (n + 44) ((fBody (stm 154)).drop 12) (envOf (stm 154) (thB h rl pl ++ thE h cell sigs calls ctors made)) (endQ Q) σ := by
  have m8 := bin_mod (y := h) (k := 8) (by decide)
  have fin : ∀ (l d : Nat) (W1 : Wd) (k : Int) (σ2 : Store) (K : FV → Store → Prop), Le W W1 → Ok1 W1 (c + 1) → (∃ did : Nat, ∃ a m v, W1.decls[did]? = some (.ref l) ∧ (l, MO.ins 264 d) ∈ W1.obj ∧ (d, MO.att (declA a (.int k) (.int made) m v)) ∈ W1.obj ∧ a = .int did) → Is W1 L σ2 → (h % 8 = 4 ∧ k = 2 ∨ h % 8 = 5 ∧ k = 1) →
      (∀ (t : Nat) σ3, Q (oneF h rl t) σ3 → K (.int t) σ3) → RunT 9 (attrM X (.ref l) "did") σ2 (fun v σ => RunT 8 (run X (n + 43) (.st (.ref 306)) [.ref 5, v, .tup []]) σ K) := fun l d W1 k σ2 K le o1 ⟨did, a, m, v, e1, e2, e3, e4⟩ H2 hk kk => by
    subst e4
    refine r_attr (r := .int did) (H2.obj _ _ e2) (H2.obj _ _ e3) rfl rfl rfl ?_
    refine s_ref H2 o1.tw (by have := o1.sz.rows; lia) fun i W' σ3 p H5 => kk i σ3 (q i W' σ3 (le.trans p.le) (o1.put p) ?_ H5)
    have R : RefTo W' i k made := ⟨did, l, d, _, m, v, p.at_, app_get p.le.decls e1, p.le.obj _ e2, p.le.obj _ e3⟩
    rcases hk with ⟨h4, rfl⟩ | ⟨h5, rfl⟩
    · exact .inr (.inl ⟨h4, R⟩)
    · exact .inr (.inr ⟨h5, R⟩)
  refine r_bin m8 (r_cmp rfl ?_)
  by_cases h4 : h % 8 = 4
  · refine IfB.t (by rw [h4]; rfl) (IfB.t rfl (r_bin m8 (r_cmp rfl (IfB.t (by rw [h4]; rfl) ?_))))
    refine s_lay H o hc fun l d W1 σ2 le o1 ex H2 => ?_
    refine fin l d W1 2 σ2 _ le o1 ex H2 (.inl ⟨h4, rfl⟩) fun t σ3 hq => ?_
    exact th13 hq
  · refine IfB.f (by simp; omega) (r_bin m8 (r_cmp rfl ?_))
    by_cases h5 : h % 8 = 5
    · refine IfB.t (by rw [h5]; rfl) (IfB.t rfl (r_bin m8 (r_cmp rfl (IfB.f (by rw [h5]; rfl) ?_))))
      refine s_lay H o hc fun l d W1 σ2 le o1 ex H2 => ?_
      refine fin l d W1 1 σ2 _ le o1 ex H2 (.inr ⟨h5, rfl⟩) fun t σ3 hq => ?_
      exact th13 hq
    · refine IfB.f (by simp; omega) (IfB.f rfl ?_)
      exact th13 (q made W σ (.refl W) (o.up (by lia)) (.inl ⟨h4, h5, rfl⟩) H)
end
section
variable {n : Nat} {W W' W'' : Wd} {L L' : List (Nat × MO)} {σ : Store} {l c : Nat}
noncomputable def sgl (b : Bool) (sg : Nat) : List FV := if b = true then [.int sg] else []
noncomputable def cellH (h kc : Nat) : FV := if 2 < sideH h then .tup [.int kc, .int ((h / 40 : Nat) : Int)] else .tup []
noncomputable def cellK (h kc k : Nat) : FV := if sideH h = k then .tup [.int kc, .int ((h / 40 : Nat) : Int)] else .tup []
theorem hk_cell {h kc k : Nat} : hkT 6 (cellK h kc k) = true := by unfold cellK; split <;> rfl
theorem hk_sgl {b : Bool} {sg : Nat} : hkT 6 (.tup (sgl b sg)) = true := by unfold sgl; split <;> rfl
noncomputable def thC (h : Nat) (cell sigs calls ctors : FV) : En := [("side", .int (sideH h : Nat)), ("held", .int (heldH h : Nat)), ("cell", cell), ("sigs", sigs), ("calls", calls), ("ctors", ctors)]
/-- what is made, ahead of a declaration -/
theorem th11 {Q : FV → Store → Prop} {h rl pl kc sg : Nat} {ps : List Pr} {cs ks : List FV} (H : Is W L σ) (o : Ok1 W c) (hc : c ≤ 1900) (hp : (pl, .lst (ps.map Pr.f)) ∈ L) (hr : Rising ps) (h1 : hkT 6 (.tup cs) = true) (h2 : hkT 6 (.tup ks) = true)
    (q : ∀ sh t W' σ', Le W W' → Ok1 W' (c + 3) → W'.rows[sh]? = some (objRow ps (.tup cs) (.tup ks) (cellK h kc 3) (cellK h kc 4)) → ((h % 8 ≠ 4 ∧ h % 8 ≠ 5 ∧ t = sh) ∨ (h % 8 = 4 ∧ RefTo W' t 2 sh) ∨ (h % 8 = 5 ∧ RefTo W' t 1 sh)) → Is W' L σ' → Q (oneF h rl t) σ') :
    wexs X (run X (n + 43)) (n + 44) ((fBody (stm 154)).drop 11) (envOf (stm 154) (thB h rl pl ++ thC h (cellH h kc) (.tup [.int sg]) (.tup cs) (.tup ks))) (endQ Q) σ := by
  have go : ∀ (s m : FV), s = cellK h kc 3 → m = cellK h kc 4 → ∀ K : FV → Store → Prop, (∀ (i : Nat) (W1 : Wd) σ1, Put W (objRow ps (.tup cs) (.tup ks) (cellK h kc 3) (cellK h kc 4)) i W1 → Is W1 L σ1 → K (.int i) σ1) → RunT 8 (run X (n + 43) (.st (.ref 331)) [.ref 5, .ref pl, .tup cs, .tup ks, s, m, .int 0]) σ K := fun s m e1 e2 K k => by
    subst e1; subst e2
    exact s_obj H o.tw (by have := o.sz.rows; omega) hp hr h1 h2 hk_cell hk_cell k
  have fin : ∀ (i : Nat) (W1 : Wd) σ1, Put W (objRow ps (.tup cs) (.tup ks) (cellK h kc 3) (cellK h kc 4)) i W1 → Is W1 L σ1 → wexs X (run X (n + 43)) (n + 44) ((fBody (stm 154)).drop 12) (envOf (stm 154) (thB h rl pl ++ thE h (cellH h kc) (.tup [.int sg]) (.tup cs) (.tup ks) i)) (endQ Q) σ1 := fun i W1 σ1 p H1 =>
    th12 H1 (o.put p) (by omega) fun t W' σ' le o' ht H' => q i t W' σ' (p.le.trans le) o' (app_get le.rows p.at_) ht H'
  refine r_cmp rfl ?_
  by_cases h3 : sideH h = 3
  · refine IfB.t (by rw [h3]; rfl) (r_cmp rfl (IfB.f (by rw [h3]; rfl) ?_))
    exact go _ _ (by unfold cellH cellK; rw [if_pos h3, if_pos (by omega)]) (by unfold cellK; rw [if_neg (by omega)]) _ fin
  · refine IfB.f (by simp; omega) (r_cmp rfl ?_)
    by_cases h4 : sideH h = 4
    · refine IfB.t (by rw [h4]; rfl) ?_
      exact go _ _ (by unfold cellK; rw [if_neg h3]) (by unfold cellH cellK; rw [if_pos h4, if_pos (by omega)]) _ fin
    · refine IfB.f (by simp; omega) ?_
      exact go _ _ (by unfold cellK; rw [if_neg h3]) (by unfold cellK; rw [if_neg h4]) _ fin
theorem th10 {Q : FV → Store → Prop} {h rl pl kc sg : Nat} {ps : List Pr} {cs : List FV} (H : Is W L σ) (o : Ok1 W c) (hc : c ≤ 1900) (hp : (pl, .lst (ps.map Pr.f)) ∈ L) (hr : Rising ps) (hcs : hkT 6 (.tup cs) = true)
    (q : ∀ sh t W' σ', Le W W' → Ok1 W' (c + 3) → W'.rows[sh]? = some (objRow ps (.tup cs) (.tup (sgl (h % 8 == 6) sg)) (cellK h kc 3) (cellK h kc 4)) → ((h % 8 ≠ 4 ∧ h % 8 ≠ 5 ∧ t = sh) ∨ (h % 8 = 4 ∧ RefTo W' t 2 sh) ∨ (h % 8 = 5 ∧ RefTo W' t 1 sh)) → Is W' L σ' → Q (oneF h rl t) σ') :
    wexs X (run X (n + 43)) (n + 44) ((fBody (stm 154)).drop 10) (envOf (stm 154) (thB h rl pl ++ ([("side", .int (sideH h : Nat)), ("held", .int (heldH h : Nat)), ("cell", cellH h kc), ("sigs", .tup [.int sg]), ("calls", .tup cs)] : En))) (endQ Q) σ := by
  have m8 := bin_mod (y := h) (k := 8) (by decide)
  refine r_bin m8 (r_cmp rfl ?_)
  by_cases h6 : h % 8 = 6
  · have e2 : sgl (h % 8 == 6) sg = [.int sg] := by rw [h6]; rfl
    rw [e2] at q
    refine IfB.t (by rw [h6]; rfl) (n_name rfl (n_set (c' := envOf (stm 154) (thB h rl pl ++ thC h (cellH h kc) (.tup [.int sg]) (.tup cs) (.tup [.int sg]))) rfl ?_))
    exact (th11 (n := n) (Q := Q) (h := h) (rl := rl) (pl := pl) (kc := kc) (sg := sg) (cs := cs) (ks := [.int sg]) H o hc hp hr hcs rfl q)
  · have e2 : sgl (h % 8 == 6) sg = [] := by unfold sgl; rw [if_neg (by simpa using h6)]
    rw [e2] at q
    refine IfB.f (by simp; omega) (n_tup0 (n_set (c' := envOf (stm 154) (thB h rl pl ++ thC h (cellH h kc) (.tup [.int sg]) (.tup cs) (.tup []))) rfl ?_))
    exact (th11 (n := n) (Q := Q) (h := h) (rl := rl) (pl := pl) (kc := kc) (sg := sg) (cs := cs) (ks := []) H o hc hp hr hcs rfl q)
noncomputable def ThQ (W : Wd) (L : List (Nat × MO)) (Q : FV → Store → Prop) (c h rl kc sg : Nat) (ps : List Pr) : Prop := ∀ sh t W' σ', Le W W' → Ok1 W' c → W'.rows[sh]? = some (objRow ps (.tup (sgl (h % 8 == 7) sg)) (.tup (sgl (h % 8 == 6) sg)) (cellK h kc 3) (cellK h kc 4)) →
  ((h % 8 ≠ 4 ∧ h % 8 ≠ 5 ∧ t = sh) ∨ (h % 8 = 4 ∧ RefTo W' t 2 sh) ∨ (h % 8 = 5 ∧ RefTo W' t 1 sh)) → Is W' L σ' → Q (oneF h rl t) σ'
theorem th9 {Q : FV → Store → Prop} {h rl pl kc sg : Nat} {ps : List Pr} (H : Is W L σ) (o : Ok1 W c) (hc : c ≤ 1900) (hp : (pl, .lst (ps.map Pr.f)) ∈ L) (hr : Rising ps) (q : ThQ W L Q (c + 3) h rl kc sg ps) :
    wexs X (run X (n + 43)) (n + 44) ((fBody (stm 154)).drop 9) (envOf (stm 154) (thB h rl pl ++ ([("side", .int (sideH h : Nat)), ("held", .int (heldH h : Nat)), ("cell", cellH h kc), ("sigs", .tup [.int sg])] : En))) (endQ Q) σ := by
  have m8 := bin_mod (y := h) (k := 8) (by decide)
  refine r_bin m8 (r_cmp rfl ?_)
  unfold ThQ at q
  have fin := fun (cs : List FV) (hk : hkT 6 (.tup cs) = true) q => th10 (n := n) (Q := Q) (h := h) (rl := rl) (pl := pl) (kc := kc) (sg := sg) (cs := cs) H o hc hp hr hk q
  by_cases h7 : h % 8 = 7
  · have e : sgl (h % 8 == 7) sg = [.int sg] := by rw [h7]; rfl
    rw [e] at q
    refine IfB.t (by rw [h7]; rfl) (n_name rfl (n_set (c' := envOf (stm 154) (thB h rl pl ++ ([("side", .int (sideH h : Nat)), ("held", .int (heldH h : Nat)), ("cell", cellH h kc), ("sigs", .tup [.int sg]), ("calls", .tup [.int sg])] : En))) rfl ?_))
    exact fin [.int sg] rfl q
  · have e : sgl (h % 8 == 7) sg = [] := by unfold sgl; rw [if_neg (by simpa using h7)]
    rw [e] at q
    refine IfB.f (by simp; omega) (n_tup0 (n_set (c' := envOf (stm 154) (thB h rl pl ++ ([("side", .int (sideH h : Nat)), ("held", .int (heldH h : Nat)), ("cell", cellH h kc), ("sigs", .tup [.int sg]), ("calls", .tup [])] : En))) rfl ?_))
    exact fin [] rfl q
end
section
variable {n : Nat} {W W' W'' : Wd} {L L' : List (Nat × MO)} {σ : Store} {l c : Nat}
noncomputable def RisingN (ns : List PySem.Str) : Prop := ns.Nodup ∧ ns.length ≤ 3 ∧ sortM (ns.map FV.str) = some (ns.map FV.str)
theorem sub_abc {ns : List PySem.Str} (h : ns.Sublist abc) : RisingN ns := by
  unfold abc at h
  cases h <;> rename_i h <;> cases h <;> rename_i h <;> cases h <;> rename_i h <;> cases h <;> exact ⟨by decide, by decide, rfl⟩
theorem rising_of {ps : List Pr} (h : (ps.map (·.nm)).Sublist abc) : Rising ps := by
  obtain ⟨a, b, c⟩ := sub_abc h
  rw [List.map_map] at c
  exact ⟨a, by simpa using b, c⟩
theorem prs_sub : ∀ ts : List Tn, ((prs ts).map (·.nm)).Sublist (ts.map (·.nm))
  | [] => .slnil
  | t :: ts => by
    have ih := prs_sub ts
    have e : prs (t :: ts) = t.pr ++ prs ts := rfl
    rw [e, List.map_append, List.map_cons]
    unfold Tn.pr
    split
    · exact .cons _ ih
    · exact .cons_cons _ ih
theorem Tns.rising {ts : List Tn} (T : Tns W ts) (h : ts.length = 3) : Rising (prs ts) := by
  have := prs_sub ts
  rw [T.nms, h] at this
  exact rising_of this
theorem held_mem (h : Nat) : heldH h ∈ masksN := by
  unfold heldH
  have : h % 17 < masksN.length := Nat.mod_lt _ (by decide)
  rw [List.getD_eq_getElem?_getD, List.getElem?_eq_getElem this]
  exact List.getElem_mem _
theorem ThQ.le {Q : FV → Store → Prop} {h rl kc sg : Nat} {ps : List Pr} (x : Le W W') (q : ThQ W L Q c h rl kc sg ps) : ThQ W' L Q c h rl kc sg ps := fun sh t V σ' le o hr ht H => q sh t V σ' (x.trans le) o hr ht H
theorem th8 {Q : FV → Store → Prop} {h rl pl kc : Nat} {ps : List Pr} (H : Is W L σ) (o : Ok1 W c) (hc : c ≤ 1850) (hp : (pl, .lst (ps.map Pr.f)) ∈ L) (hr : Rising ps) (q : ∀ sg, ThQ W L Q (c + 4) h rl kc sg ps) :
    wexs X (run X (n + 43)) (n + 44) ((fBody (stm 154)).drop 8) (envOf (stm 154) (thB h rl pl ++ ([("side", .int (sideH h : Nat)), ("held", .int (heldH h : Nat)), ("cell", cellH h kc)] : En))) (endQ Q) σ := by
  refine s_sig H o.tw (by have := o.sz.rows; omega) fun sg W1 σ1 p H1 => ?_
  refine n_nil (n_set (c' := envOf (stm 154) (thB h rl pl ++ ([("side", .int (sideH h : Nat)), ("held", .int (heldH h : Nat)), ("cell", cellH h kc), ("sigs", .tup [.int sg])] : En))) rfl ?_)
  exact th9 H1 (o.put p) (by omega) hp hr ((q sg).le p.le)
theorem th7 {Q : FV → Store → Prop} {h rl pl : Nat} {ps : List Pr} (H : Is W L σ) (o : Ok1 W c) (hc : c ≤ 1800) (hp : (pl, .lst (ps.map Pr.f)) ∈ L) (hr : Rising ps) (q : ∀ kc sg W1, Le W W1 → (2 < sideH h → KindIs W1 kc (heldH h)) → ThQ W1 L Q (c + 5) h rl kc sg ps) :
    wexs X (run X (n + 43)) (n + 44) ((fBody (stm 154)).drop 7) (envOf (stm 154) (thB h rl pl ++ ([("side", .int (sideH h : Nat)), ("held", .int (heldH h : Nat))] : En))) (endQ Q) σ := by
  have fin := fun (kc : Nat) (W1 : Wd) (σ1 : Store) H1 o1 q => th8 (n := n) (W := W1) (σ := σ1) (L := L) (c := c + 1) (h := h) (rl := rl) (pl := pl) (Q := Q) (kc := kc) (ps := ps) H1 o1 (by omega) hp hr q
  refine r_cmp rfl ?_
  by_cases h2 : 2 < sideH h
  · refine IfB.t (by simp; omega) (s_kind (m := heldH h) H o.tw (Nat.le_trans o.sz.rows (by omega)) o.stem fun kc W1 σ1 u H1 => ?_)
    refine r_bin (bin_div (y := h) (k := 40) (by decide) (by decide)) (n_nil (n_set (c' := envOf (stm 154) (thB h rl pl ++ ([("side", .int (sideH h : Nat)), ("held", .int (heldH h : Nat)), ("cell", .tup [.int kc, .int ((h / 40 : Nat) : Int)])] : En))) rfl ?_))
    have f := fin kc W1 σ1 H1 (o.union u) fun sg => q kc sg W1 u.le fun _ => kind_is (held_mem h) o.stem u
    unfold cellH at f
    rw [if_pos h2] at f
    exact f
  · refine IfB.f (by simp; omega) (n_tup0 (n_set (c' := envOf (stm 154) (thB h rl pl ++ ([("side", .int (sideH h : Nat)), ("held", .int (heldH h : Nat)), ("cell", .tup [])] : En))) rfl ?_))
    have f := fin 0 W σ H (o.up (by omega)) fun sg => q 0 sg W (.refl W) fun h => absurd h h2
    unfold cellH at f
    rw [if_neg h2] at f
    exact f
theorem th5 {Q : FV → Store → Prop} {h rl pl : Nat} {ps : List Pr} (H : Is W L σ) (o : Ok1 W c) (hc : c ≤ 1800) (hp : (pl, .lst (ps.map Pr.f)) ∈ L) (hr : Rising ps) (q : ∀ kc sg W1, Le W W1 → (2 < sideH h → KindIs W1 kc (heldH h)) → ThQ W1 L Q (c + 5) h rl kc sg ps) :
    wexs X (run X (n + 43)) (n + 44) ((fBody (stm 154)).drop 5) (envOf (stm 154) (thB h rl pl)) (endQ Q) σ := by
  refine r_bin (bin_div (y := h) (k := 8) (by decide) (by decide)) (r_bin (bin_mod (y := h / 8) (k := 5) (by decide)) ?_)
  refine n_set (c' := envOf (stm 154) (thB h rl pl ++ ([("side", .int (sideH h : Nat))] : En))) rfl ?_
  refine r_bin (bin_mod (y := h) (k := 17) (by decide)) (r_item (mask_at (i := h % 17) (by omega)) ?_)
  exact n_set (c' := envOf (stm 154) (thB h rl pl ++ ([("side", .int (sideH h : Nat)), ("held", .int (heldH h : Nat))] : En))) rfl (th7 H o hc hp hr q)
end
section
variable {n : Nat} {W W' W'' : Wd} {L L' : List (Nat × MO)} {σ : Store} {l c : Nat}
/-- a part that is a thing -/
structure ThingP (W : Wd) (h rl t : Nat) (ts : List Tn) (kc sh : Nat) : Prop where
  hh : h < 80
  tn : Tns W ts
  three : ts.length = 3
  thing : Thing W t (prs ts) (cellK h kc 3) (cellK h kc 4) (shutH h) sh
  kind : 2 < sideH h → KindIs W kc (heldH h)
  rows : (rl, MO.lst (rws ts)) ∈ W.obj
noncomputable def Wd.up (W : Wd) (p : Nat × MO) : Wd := { W with obj := p :: W.obj }
theorem Is.up {p : Nat × MO} (H : Is W (p :: L) σ) : Is (W.up p) L σ := H.keepObj
theorem Le.up (W : Wd) (p : Nat × MO) : Le W (W.up p) := ⟨⟨[], by rw [List.append_nil]; rfl⟩, ⟨[], by rw [List.append_nil]; rfl⟩, ⟨[], by rw [List.append_nil]; rfl⟩, fun _ h => .tail _ h, rfl, rfl⟩
theorem Ok1.more (o : Ok1 W c) (p : Nat × MO) : Ok1 (W.up p) c := o.obj _
theorem RefTo.le {t sh : Nat} {k : Int} (x : Le W W') (r : RefTo W t k sh) : RefTo W' t k sh := let ⟨did, l, d, a, m, v, h1, h2, h3, h4⟩ := r; ⟨did, l, d, a, m, v, app_get x.rows h1, app_get x.decls h2, x.obj _ h3, x.obj _ h4⟩
theorem Thing.le {t sh : Nat} {ps : List Pr} {s m : FV} {md : Bool} (x : Le W W') (g : Thing W t ps s m md sh) : Thing W' t ps s m md sh := by
  cases g with
  | obj cs ks h1 h2 h3 => exact .obj cs ks (app_get x.rows h1) h2 h3
  | ref k cs ks h1 h2 h3 => exact .ref k cs ks (h1.le x) (app_get x.rows h2) h3
  | top y h1 h2 h3 h4 h5 h6 h7 h8 => exact .top y h1 (app_get x.rows h2) (app_get x.rows h3) h4 h5 h6 h7 h8
theorem ThingP.le {h rl t : Nat} {ts : List Tn} {kc sh : Nat} (x : Le W W') (g : ThingP W h rl t ts kc sh) : ThingP W' h rl t ts kc sh := ⟨g.hh, g.tn.le x, g.three, g.thing.le x, fun h => (g.kind h).le x, x.obj _ g.rows⟩
theorem thing_of {h kc sh t sg : Nat} {ps : List Pr} (hr : W.rows[sh]? = some (objRow ps (.tup (sgl (h % 8 == 7) sg)) (.tup (sgl (h % 8 == 6) sg)) (cellK h kc 3) (cellK h kc 4)))
    (ht : (h % 8 ≠ 4 ∧ h % 8 ≠ 5 ∧ t = sh) ∨ (h % 8 = 4 ∧ RefTo W t 2 sh) ∨ (h % 8 = 5 ∧ RefTo W t 1 sh)) : Thing W t ps (cellK h kc 3) (cellK h kc 4) (shutH h) sh := by
  rcases ht with ⟨h4, h5, rfl⟩ | ⟨h4, r⟩ | ⟨h5, r⟩
  · refine .obj _ _ hr ?_ rfl
    unfold shutH
    by_cases h6 : h % 8 = 6
    · rw [h6]; rfl
    · have e : (h % 8 == 6) = false := by simpa using h6
      rw [e, decide_eq_false (fun h => h.elim h5 h6)]; rfl
  · refine .ref 2 _ _ r hr ?_
    unfold shutH; rw [h4]; rfl
  · refine .ref 1 _ _ r hr ?_
    unfold shutH; rw [h5]; rfl
theorem s_thing {Q : FV → Store → Prop} (H : Is W L σ) (o : Ok1 W c) (hc : c ≤ 1700)
    (q : ∀ h rl t ts kc sh W' σ', Le W W' → Ok1 W' (c + 8) → ThingP W' h rl t ts kc sh → Is W' L σ' → Q (oneF h rl t) σ') :
    RunT 8 (run X (n + 44) (.st (.ref 1247)) [.ref 5, .ref 3, .ref 16]) σ Q := by
  refine r_go [("tab", .ref 5), ("d", .ref 3), ("atoms", .ref 16)] rfl rfl rfl ?_
  refine s_take (m := 80) H o.ys (by decide) fun h k σ1 hh H1 => ?_
  have hh : h < 80 := by omega
  refine n_set (c' := envOf (stm 154) ([("tab", .ref 5), ("d", .ref 3), ("atoms", .ref 16), ("head", .int h)] : En)) rfl ?_
  refine r_alloc H1 fun rl σ2 H2 => r_alloc H2 fun pl σ3 H3 => ?_
  refine r_items (xs := abc.map .str) rfl ?_
  refine s_turns (h := h) (rl := rl) (pl := pl) H3 (o.at k) (by omega) fun ts W1 σ4 h3 T le o1 H4 => ?_
  refine th5 H4 o1 (by lia) (.head _) (T.rising h3) fun kc sg W2 le2 hk sh t W' σ' le3 o2 hr ht H5 => ?_
  have up := Le.up W' (rl, .lst (rws ts))
  exact q h rl t ts kc sh _ σ' (((((Le.at k).trans le).trans le2).trans le3).trans up) (o2.more _) ⟨hh, T.le ((le2.trans le3).trans up), h3, (thing_of hr ht).le up, fun h => (hk h).le (le3.trans up), .head _⟩ H5.drop.up
end
section
variable {n : Nat} {W W' W'' : Wd} {L L' : List (Nat × MO)} {σ : Store} {l c : Nat}
noncomputable def ParIs (W : Wd) (t : Nat) (b : Int) : Prop := ∃ p : Nat, W.rows[t]? = some (.tup [.int 10, .int p]) ∧ W.bounds[p]? = some (.int b)
noncomputable def one0 (k : Int) (t : Nat) : FV := .tup [.int k, .tup [], .int t]
/-- a part: the tuple and its type -/
inductive PartIs (W : Wd) (tk : List PySem.Str) : FV → Nat → Prop
  | thing {h rl t kc sh : Nat} {ts : List Tn} : ThingP W h rl t ts kc sh → PartIs W tk (oneF h rl t) t
  | nul {t : Nat} : t = 4 ∨ t = 5 → PartIs W tk (one0 1 t) t
  | prim {t : Nat} : t = 6 ∨ t = 7 ∨ t = 3 ∨ t = 19 ∨ t = 1 → PartIs W tk (one0 3 t) t
  | pstr {t : Nat} {b : Int} : ParIs W t b → b = 6 ∨ b = 5 → PartIs W tk (one0 3 t) t
  | arr {t : Nat} : W.rows[t]? = some arrRow → PartIs W tk (one0 4 t) t
  | parr {t b : Nat} : ParIs W t b → W.rows[b]? = some arrRow → PartIs W tk (one0 4 t) t
  | top {t : Nat} : t = 0 ∨ t = 13 → PartIs W tk (one0 5 t) t
  | opn {t : Nat} : ParIs W t (-1) → tk = [] → PartIs W tk (one0 6 t) t
  | opt {t h rl b kc sh : Nat} {ts : List Tn} : ParIs W t b → ThingP W h rl b ts kc sh → tk = [] → PartIs W tk (one0 6 t) t
theorem ParIs.le {t : Nat} {b : Int} (x : Le W W') (h : ParIs W t b) : ParIs W' t b := let ⟨p, h1, h2⟩ := h; ⟨p, app_get x.rows h1, app_get x.bounds h2⟩
theorem PartIs.le {tk : List PySem.Str} {o : FV} {t : Nat} (x : Le W W') (h : PartIs W tk o t) : PartIs W' tk o t := by
  cases h with
  | thing h => exact .thing (h.le x)
  | nul h => exact .nul h
  | prim h => exact .prim h
  | pstr h g => exact .pstr (h.le x) g
  | arr h => exact .arr (app_get x.rows h)
  | parr h g => exact .parr (h.le x) (app_get x.rows g)
  | top h => exact .top h
  | opn h g => exact .opn (h.le x) g
  | opt h g k => exact .opt (h.le x) (g.le x) k
theorem PartIs.two {tk : List PySem.Str} {o : FV} {t : Nat} (h : PartIs W tk o t) : itemV o (.int 2) = some (.int t) := by cases h <;> rfl
/-- a parameter is made -/
theorem s_par {Q : FV → Store → Prop} {nm : PySem.Str} {b : Int} (H : Is W L σ) (o : Ok1 W c) (hc : c ≤ 1700) (q : ∀ i W' σ', Le W W' → Ok1 W' (c + 1) → ParIs W' i b → Is W' L σ' → Q (.int (i : Nat)) σ') :
    RunT 8 (run X (n + 3) (.st (.ref 355)) [.ref 5, .str nm, .int b]) σ Q :=
  s_param H o.tw o.sz (by omega) fun i W' σ' p H' => q i W' σ' p.le ⟨p.tw, p.sz, o.stem.le p.le, by have := o.ys; unfold Ys at *; rw [p.le.ys]; exact this, by rw [p.dn.1, p.dn.2]; exact o.dn⟩ p.row H'
noncomputable def opB : En := [("tab", .ref 5), ("d", .ref 3), ("atoms", .ref 16), ("taken", .ref 84)]
noncomputable def balF (b : Nat) : FV := .tup [.int 0, .tup [.ref b, .bool false, .tup [], .tup []], .int 11]
/-- nothing drawn: a thing with nothing -/
noncomputable def noT : List Tn := abc.map fun a => ⟨a, 0, 0⟩
theorem noT_is : Tns W noT := ⟨rfl, fun t h => by unfold noT at h; obtain ⟨a, _, rfl⟩ := List.mem_map.mp h; exact (by decide : 0 < 102), fun t h h0 => by unfold noT at h; obtain ⟨a, _, rfl⟩ := List.mem_map.mp h; exact absurd rfl h0⟩
theorem empty_thing (B : Stem W) {t b : Nat} (ht : t = 11 ∨ t = 10) (hb : (b, MO.lst []) ∈ W.obj) : ThingP W 0 b t noT 0 11 := by
  refine ⟨by decide, noT_is, rfl, ?_, fun h => absurd h (by decide), hb⟩
  have r11 : W.rows[11]? = some (objRow [] (.tup []) (.tup []) (.tup []) (.tup [])) := B.at rfl
  rcases ht with rfl | rfl
  · exact .obj [] [] r11 rfl rfl
  · exact .top _ rfl (B.at (i := 10) rfl) r11 rfl rfl rfl rfl rfl
theorem bald_is {tk : List PySem.Str} (B : Stem W) {t b : Nat} (ht : t = 11 ∨ t = 10) (hb : (b, MO.lst []) ∈ W.obj) : PartIs W tk (.tup [.int 0, .tup [.ref b, .bool false, .tup [], .tup []], .int t]) t := .thing (h := 0) (rl := b) (empty_thing B ht hb)
theorem s_opened {Q : FV → Store → Prop} {tk : List PySem.Str} (H : Is W L σ) (o : Ok1 W c) (hc : c ≤ 1600) (K : TakenIs W tk) (q : ∀ one t W' σ', Le W W' → Ok1 W' (c + 9) → PartIs W' tk one t → Is W' L σ' → Q one σ') :
    RunT 8 (run X (n + 45) (.st (.ref 1254)) [.ref 5, .ref 3, .ref 16, .ref 84]) σ Q := by
  refine r_go opB rfl rfl rfl ?_
  refine r_alloc H fun b σ1 H1 => ?_
  refine s_take (m := 4) H1 o.ys (by decide) fun how k σ2 hh H2 => ?_
  refine n_set (c' := envOf (stm 155) (opB ++ ([("bald", balF b), ("how", .int how)] : En))) rfl ?_
  have o1 := o.at k
  have l1 := Le.at (W := W) k
  have tz : W.taken.length ≤ lim ∧ homog (.str ⟨#[]⟩) W.taken = true := ⟨by rw [K.1, List.length_map]; have := K.2; show _ ≤ 1000000; lia, by rw [K.1]; exact taken_homog⟩
  refine r_cmp rfl ?_
  by_cases h3 : how = 3
  · subst h3
    refine IfB.t rfl (r_alloc H2 fun e σ3 H3 => ?_)
    refine s_take (m := 2) H3 o1.ys (by decide) fun r k' σ4 hr H4 => ?_
    have fin : ∀ b : Int, b = 6 ∨ b = 5 → RunT 8 (run X (n + 44) (.st (.ref 355)) [.ref 5, .str ⟨#[84]⟩, .int b]) σ4 fun v σ => Q (.tup [.int 3, .tup [], v]) σ := fun b hb =>
      s_par H4 (o1.at k') (by lia) fun i W' σ' le o' hp H' => q _ i W' σ' ((l1.trans (Le.at k')).trans le) (o'.up (by lia)) (.pstr hp hb) H'.drop.drop
    rcases (show r = 0 ∨ r = 1 by lia) with rfl | rfl
    · exact r_item_l (xs := [.int 6, .int 5]) (v := .int 6) (by walk_at "at") rfl (fin 6 (.inl rfl))
    · exact r_item_l (xs := [.int 6, .int 5]) (v := .int 5) (by walk_at "at") rfl (fin 5 (.inr rfl))
  refine IfB.f (by simp; lia) (r_cmp rfl ?_)
  by_cases h2 : how = 2
  · subst h2
    refine IfB.t rfl (s_array H2 o1.tw (by have := o1.sz.rows; lia) fun i W1 σ3 p H3 => ?_)
    refine s_par H3 (o1.put p) (by lia) fun j W' σ' le o' hp H' => ?_
    exact q _ j W' σ' ((l1.trans p.le).trans le) (o'.up (by lia)) (.parr hp (app_get le.rows p.at_)) H'.drop
  refine IfB.f (by simp; lia) (r_len_d (kvs := W.taken) (by walk_at "at") tz (r_cmp rfl ?_))
  have tl : W.taken.length = tk.length := by rw [K.1, List.length_map]
  by_cases ht : tk = []
  · refine IfB.f (by rw [tl, ht]; rfl) (r_cmp rfl ?_)
    by_cases h1 : how = 1
    · subst h1
      refine IfB.t rfl (s_thing H2 o1 (by lia) fun h rl t ts kc sh W1 σ3 le1 o2 T H3 => ?_)
      refine r_item (v := .int t) rfl (s_par H3 o2 (by lia) fun j W' σ' le o' hp H' => ?_)
      exact q _ j W' σ' ((l1.trans le1).trans le) (o'.up (by lia)) (.opt hp (T.le le) ht) H'.drop
    · refine IfB.f (by simp; lia) (s_par (b := -1) H2 o1 (by lia) fun j W' σ' le o' hp H' => ?_)
      exact q _ j W' σ' (l1.trans le) (o'.up (by lia)) (.opn hp ht) H'.drop
  · refine IfB.t (by rw [tl]; cases tk with | nil => exact absurd rfl ht | cons _ _ => simp) ?_
    have up := Le.up { W with at_ := k } (b, .lst [])
    exact q _ 11 _ σ2 (l1.trans up) ((o1.more _).up (by lia)) (bald_is ((o1.stem).le up) (.inl rfl) (.head _)) H2.up
end
section
variable {n : Nat} {W W' W'' : Wd} {L L' : List (Nat × MO)} {σ : Store} {l c : Nat}
theorem TW.key_refl (T : TW W) {r : FV} (h : r ∈ W.rows) : eqF r r = true := by
  have := T.key r h
  cases r with
  | tup xs =>
    have this : (if hkL 6 xs = true then 3 else 0) = 3 := this
    by_cases e : hkL 6 xs = true
    · exact eqF_refl 7 (.tup xs) e
    · rw [if_neg e] at this; cases this
  | _ => cases this
theorem TW.inj (T : TW W) {i j : Nat} {r : FV} (h1 : W.rows[i]? = some r) (h2 : W.rows[j]? = some r) : i = j := by
  obtain ⟨l1, e1⟩ := List.getElem?_eq_some_iff.mp h1
  obtain ⟨l2, e2⟩ := List.getElem?_eq_some_iff.mp h2
  have rf := T.key_refl (List.mem_of_getElem? h1)
  have nd := List.pairwise_iff_getElem.mp T.nd
  rcases Nat.lt_trichotomy i j with h | h | h
  · have := nd i j l1 l2 h; rw [e1, e2, rf] at this; cases this
  · exact h
  · have := nd j i l2 l1 h; rw [e1, e2, rf] at this; cases this
noncomputable def paB (pl : Nat) : En := opB ++ ([("parts", .ref pl)] : En)
noncomputable def paS : Stmt := (fBody (stm 156)).getD 1 (.Pass ⟨0, 0, 0, 0⟩)
theorem s_draw {tk : List PySem.Str} {x : FV} {pl : Nat} {xs : List FV} {K : Fl → Lc → Store → Prop} (H : Is W ((pl, .lst xs) :: L) σ) (o : Ok1 W c) (hc : c ≤ 1600) (tkn : TakenIs W tk) (z : xs.length ≤ 3)
    (next : ∀ one t W' σ' d, keepN (envOf (stm 156) (paB pl)) d = envOf (stm 156) (paB pl) → Le W W' → Ok1 W' (c + 9) → PartIs W' tk one t → Is W' ((pl, .lst (xs ++ [one])) :: L) σ' → K .next d σ') :
    SomeP (bindTarget (forT paS) x (envOf (stm 156) (paB pl))) fun c => wexs X (run X (n + 45)) (n + 46) (forB paS) c K σ := by
  refine s_take (m := 12) H o.ys (by decide) fun v k σ1 hv H1 => ?_
  refine n_set (c' := envOf (stm 156) (paB pl ++ ([("go", x), ("v", .int v)] : En))) rfl ?_
  have o1 := o.at k
  have l1 := Le.at (W := W) k
  have zl : xs.length ≤ lim := Nat.le_trans ‹_› (Nat.le_of_ble_eq_true rfl)
  have fin : ∀ one t W1 σ1 d, keepN (envOf (stm 156) (paB pl)) d = envOf (stm 156) (paB pl) → Le W W1 → Ok1 W1 (c + 9) → PartIs W1 tk one t → Is W1 ((pl, .lst xs) :: L) σ1 → RunT 7 (methM (run X (n + 45)) .lst (.ref pl) "append" [one]) σ1 (fun _ σ => K .next d σ) := fun one t W1 σ1 d hd le o1 p H1 =>
    r_appL H1 .here zl fun σ2 H2 => next one t W1 σ2 d hd le o1 p H2
  refine r_cmp rfl ?_
  by_cases h7 : v < 7
  · refine IfB.t (by simp; omega) (r_cal_l (by walk_at "at") (s_thing H1 o1 (by omega) fun h rl t ts kc sh W1 σ3 le1 o2 T H3 => ?_))
    exact fin _ t W1 σ3 _ rfl (l1.trans le1) (o2.up (by lia)) (.thing T) H3
  refine IfB.f (by simp; omega) (r_cmp rfl ?_)
  by_cases h : v = 7
  · subst h
    refine IfB.t rfl (r_cal_l (by walk_at "at") (r_alloc H1 fun b σ2 H2 => r_alloc H2 fun e σ3 H3 => ?_))
    refine s_take (m := 2) H3 o1.ys (by decide) fun r k' σ4 hr H4 => ?_
    have H5 := (H4.drop).up
    have up := (l1.trans (Le.at k')).trans (Le.up { W with at_ := k' } (b, .lst []))
    have ok := ((o1.at k').more (b, .lst [])).up (show c ≤ c + 9 by omega)
    rcases (show r = 0 ∨ r = 1 by omega) with rfl | rfl
    · exact r_item_l (xs := [.int 11, .int 10]) (v := .int 11) (H4.loc _ _ (.head _)) rfl (fin _ 11 _ σ4 _ rfl up ok (bald_is ok.stem (.inl rfl) (.head _)) H5)
    · exact r_item_l (xs := [.int 11, .int 10]) (v := .int 10) (H4.loc _ _ (.head _)) rfl (fin _ 10 _ σ4 _ rfl up ok (bald_is ok.stem (.inr rfl) (.head _)) H5)
  refine IfB.f (by simp; omega) (r_cmp rfl ?_)
  by_cases h : v = 8
  · subst h
    refine IfB.t rfl (r_cal_l (by walk_at "at") (r_alloc H1 fun e σ3 H3 => ?_))
    refine s_take (m := 2) H3 o1.ys (by decide) fun r k' σ4 hr H4 => ?_
    have up := l1.trans (Le.at k')
    have ok := (o1.at k').up (show c ≤ c + 9 by omega)
    rcases (show r = 0 ∨ r = 1 by omega) with rfl | rfl
    · exact r_item_l (xs := [.int 4, .int 5]) (v := .int 4) (by walk_at "at") rfl (fin _ 4 _ σ4 _ rfl up ok (.nul (.inl rfl)) H4.drop)
    · exact r_item_l (xs := [.int 4, .int 5]) (v := .int 5) (by walk_at "at") rfl (fin _ 5 _ σ4 _ rfl up ok (.nul (.inr rfl)) H4.drop)
  refine IfB.f (by simp; omega) (r_cmp rfl ?_)
  by_cases h : v = 9
  · subst h
    refine IfB.t rfl (r_cal_l (by walk_at "at") (s_strA H1 o1.tw (by have := o1.sz.rows; omega) fun i W1 σ2 p H2 => ?_))
    have oW := o1.put p
    have e19 : i = 19 := oW.tw.inj p.at_ (oW.stem.at (i := 19) rfl)
    subst e19
    refine r_alloc H2 fun e σ3 H3 => ?_
    refine s_take (m := 4) H3 oW.ys (by decide) fun r k' σ4 hr H4 => ?_
    have up := (l1.trans p.le).trans (Le.at k')
    have ok := (oW.at k').up (show c + 1 ≤ c + 9 by omega)
    rcases (show r = 0 ∨ r = 1 ∨ r = 2 ∨ r = 3 by omega) with rfl | rfl | rfl | rfl
    · exact r_item_l (xs := [.int 6, .int 7, .int 3, .int 19]) (v := .int 6) (by walk_at "at") rfl (fin _ 6 _ σ4 _ rfl up ok (.prim (by decide)) H4.drop)
    · exact r_item_l (xs := [.int 6, .int 7, .int 3, .int 19]) (v := .int 7) (by walk_at "at") rfl (fin _ 7 _ σ4 _ rfl up ok (.prim (by decide)) H4.drop)
    · exact r_item_l (xs := [.int 6, .int 7, .int 3, .int 19]) (v := .int 3) (by walk_at "at") rfl (fin _ 3 _ σ4 _ rfl up ok (.prim (by decide)) H4.drop)
    · exact r_item_l (xs := [.int 6, .int 7, .int 3, .int 19]) (v := .int 19) (by walk_at "at") rfl (fin _ 19 _ σ4 _ rfl up ok (.prim (by decide)) H4.drop)
  refine IfB.f (by simp; omega) (r_cmp rfl ?_)
  by_cases h : v = 10
  · subst h
    refine IfB.t rfl (s_array H1 o1.tw (by have := o1.sz.rows; omega) fun i W1 σ2 p H2 => ?_)
    refine n_nil ?_
    refine r_cal_l (by walk_at "at") ?_
    refine s_take (m := 4) H2 (o1.put p).ys (by decide) fun r k' σ4 hr H4 => ?_
    have up := (l1.trans p.le).trans (Le.at k')
    have ok := ((o1.put p).at k').up (show c + 1 ≤ c + 9 by omega)
    have a := p.at_
    rcases (show r = 0 ∨ r = 1 ∨ r = 2 ∨ r = 3 by omega) with rfl | rfl | rfl | rfl
    · exact r_item (v := one0 4 i) rfl (fin _ i _ σ4 _ rfl up ok (.arr a) H4)
    · exact r_item (v := one0 5 0) rfl (fin _ 0 _ σ4 _ rfl up ok (.top (.inl rfl)) H4)
    · exact r_item (v := one0 5 13) rfl (fin _ 13 _ σ4 _ rfl up ok (.top (.inr rfl)) H4)
    · exact r_item (v := one0 3 1) rfl (fin _ 1 _ σ4 _ rfl up ok (.prim (by decide)) H4)
  refine IfB.f (by simp; omega) (r_cal_l (by walk_at "at") (s_opened H1 o1 (by omega) tkn fun one t W1 σ2 le o2 p H2 => ?_))
  exact fin one t W1 σ2 _ rfl (l1.trans le) o2 p H2
end
section
open scoped Classical
section
variable {n : Nat} {W W' W'' : Wd} {L L' : List (Nat × MO)} {σ : Store} {l c : Nat}
/-- a comprehension that only reads -/
theorem comp_pick {step : FV → List FV → (List FV → Store → Prop) → Store → Prop} {v : FV} {xs : List FV} {g : FV → Option FV} {Q : List FV → Store → Prop} (hi : ∀ K : List FV → Store → Prop, K xs σ → RunT 12 (itemsM v) σ K)
    (hs : ∀ x ∈ xs, ∀ (out : List FV) (K : List FV → Store → Prop), out.length ≤ xs.length → K (out ++ (g x).toList) σ → step x out K σ) (hf : Q (xs.filterMap g) σ) (N : Nat) (h : xs.length < N) : wcomp step v N 0 [] Q σ := by
  refine comp_list (xs := xs) (P := fun i out σ' => σ' = σ ∧ out = (xs.take i).filterMap g) (fun i out σ' K ⟨e, _⟩ k => by subst e; exact hi K k) ?_ ?_ N 0 [] σ ⟨rfl, by simp⟩ (Nat.zero_le _) (by omega)
  · rintro i x out σ' K ⟨rfl, rfl⟩ hx next
    refine hs x (List.mem_of_getElem? hx) _ K ?_ (next _ _ ⟨rfl, ?_⟩)
    · refine Nat.le_trans (List.length_filterMap_le _ _) ?_
      rw [List.length_take]; omega
    · rw [List.take_add_one, hx, List.filterMap_append]
      cases h : g x <;> simp [h]
  · rintro out σ' ⟨rfl, rfl⟩
    rw [List.take_length]; exact hf
theorem Is.snd {a b : Nat × MO} (H : Is W (a :: b :: L) σ) : Is W (a :: L) σ := by
  have nd := H.nd
  rw [List.cons_append, List.cons_append, List.map_cons, List.map_cons, List.nodup_cons, List.nodup_cons] at nd
  refine ⟨H.fix, H.core, H.obj, fun l o h => H.loc l o ?_, fun p h => H.ge p ?_, ?_⟩
  · rcases List.mem_cons.mp h with rfl | h
    · exact .head _
    · exact .tail _ (.tail _ h)
  · rcases List.mem_cons.mp h with rfl | h
    · exact .head _
    · exact .tail _ (.tail _ h)
  · rw [List.cons_append, List.map_cons, List.nodup_cons]
    exact ⟨fun h => nd.1 (.tail _ h), nd.2.2⟩
theorem mem_int {x : Nat} {ys : List Nat} : memL (.int x) (idsF ys) = some (decide (x ∈ ys)) := by
  unfold memL
  rw [if_pos (by rw [hk_ids]; rfl)]
  congr 1
  unfold idsF
  induction ys with
  | nil => rfl
  | cons y ys ih =>
    rw [List.map_cons, List.any_cons, ih, eqF_int]
    by_cases e : x = y
    · subst e; simp
    · have : ¬ (y : Int) = (x : Int) := by lia
      simp [this, e]
noncomputable abbrev Ps := List (FV × Nat)
noncomputable def taS : Stmt := (fBody (stm 156)).getD 2 (.Pass ⟨0, 0, 0, 0⟩)
theorem s_top1 {tk : List PySem.Str} {x pl : Nat} {ps : Ps} {K : Fl → Lc → Store → Prop} (H : Is W ((pl, .lst (ps.map (·.1))) :: L) σ) (P : ∀ p ∈ ps, PartIs W tk p.1 p.2) (z : ps.length ≤ 3)
    (hit : ∀ ql σ' d, (∃ p ∈ ps, p.2 = x) → Is W ((ql, .lst ((ps.filter fun p => decide (p.2 = x)).map (·.1))) :: L) σ' → K (.ret (.ref ql)) d σ')
    (miss : ∀ σ' d, keepN (envOf (stm 156) (paB pl)) d = envOf (stm 156) (paB pl) → (∀ p ∈ ps, p.2 ≠ x) → Is W ((pl, .lst (ps.map (·.1))) :: L) σ' → K .next d σ') :
    SomeP (bindTarget (forT taS) (.int x) (envOf (stm 156) (paB pl))) fun c => wexs X (run X (n + 45)) (n + 46) (forB taS) c K σ := by
  have l3 : ∀ {m : Nat}, m ≤ 3 → m ≤ lim := fun h => Nat.le_trans ‹_› (Nat.le_of_ble_eq_true rfl)
  have zl : (ps.map (·.1)).length ≤ lim := l3 (by rw [List.length_map]; exact z)
  refine (r_itemsC_l (xs := ps.map (·.1)) (by walk_at "at") zl ?_)
  have sub : ∀ y ∈ ps.map (·.1), ∃ t : Nat, (y, t) ∈ ps ∧ itemV y (.int 2) = some (.int t) := fun y hy => by
    obtain ⟨p, hp, rfl⟩ := List.mem_map.mp hy; exact ⟨p.2, hp, (P p hp).two⟩
  refine comp_pick (xs := ps.map (·.1)) (g := fun y => itemV y (.int 2)) (fun K k => r_items_l (by walk_at "at") k) (fun y hy out K hl k => ?_) ?_ _ (by omega)
  · obtain ⟨t, _, e⟩ := sub y hy
    rw [e] at k
    refine IfB.t rfl (r_item e ?_)
    exact ⟨Nat.le_trans hl zl, k⟩
  have e1 : (ps.map (·.1)).filterMap (fun y => itemV y (.int 2)) = idsF (ps.map (·.2)) := by
    unfold idsF
    clear hit miss H z zl sub
    induction ps with
    | nil => rfl
    | cons p ps ih =>
      rw [List.map_cons, List.map_cons, List.map_cons, ← ih fun p hp => P p (.tail _ hp)]
      exact List.filterMap_cons_some (P p (.head _)).two
  rw [e1]
  refine r_alloc H fun q σ1 H1 => r_in_l (by walk_at "at") mem_int ?_
  by_cases hx : x ∈ ps.map (·.2)
  · refine IfB.t (by simpa using hx) (r_itemsC_l (xs := ps.map (·.1)) (by walk_at "at") zl ?_)
    refine comp_pick (xs := ps.map (·.1)) (g := fun y => if itemV y (.int 2) = some (.int x) then some y else none) (fun K k => r_items_l (by walk_at "at") k) (fun y hy out K hl k => ?_) ?_ _ (by omega)
    · obtain ⟨t, _, e⟩ := sub y hy
      refine r_item e (r_cmp rfl ?_)
      rw [e] at k
      by_cases ht : t = x
      · subst ht
        rw [if_pos rfl] at k
        refine IfB.t (by simp) (IfB.t rfl ?_)
        exact ⟨Nat.le_trans hl zl, k⟩
      · rw [if_neg (by intro h; cases h; exact ht rfl)] at k
        exact IfB.f (by simp; lia) (IfB.f rfl (by simpa using k))
    have e2 : (ps.map (·.1)).filterMap (fun y => if itemV y (.int 2) = some (.int x) then some y else none) = (ps.filter fun p => decide (p.2 = x)).map (·.1) := by
      clear hit miss H H1 z zl sub e1 hx
      induction ps with
      | nil => rfl
      | cons p ps ih =>
        have ih := ih fun p hp => P p (.tail _ hp)
        have t2 := (P p (.head _)).two
        rw [List.map_cons, List.filter_cons]
        by_cases h : p.2 = x
        · rw [List.filterMap_cons_some (b := p.1) (by rw [t2, h]; exact if_pos rfl), ih, if_pos (by simpa using h)]; rfl
        · rw [List.filterMap_cons_none (by rw [t2]; exact if_neg (by intro e; cases e; exact h rfl)), ih, if_neg (by simpa using h)]
    rw [e2]
    refine r_alloc H1 fun ql σ2 H2 => ?_
    obtain ⟨p, hp, e⟩ := List.mem_map.mp hx
    have H3 : Is W ((ql, .lst ((ps.filter fun p => decide (p.2 = x)).map (·.1))) :: L) σ2 := H2.snd.snd
    exact hit ql σ2 _ ⟨p, hp, e⟩ H3
  · refine IfB.f (by simpa using hx) ?_
    exact miss σ1 _ rfl (fun p hp e => hx (List.mem_map.mpr ⟨p, hp, e⟩)) H1.drop
end
end
section
variable {n : Nat} {W W' W'' : Wd} {L L' : List (Nat × MO)} {σ : Store} {l c : Nat}
/-- one of the tops alone, or none -/
noncomputable def Tops (ps : Ps) : Prop := (∃ x, (x = 0 ∨ x = 13 ∨ x = 1) ∧ ps ≠ [] ∧ ∀ p ∈ ps, p.2 = x) ∨ ∀ p ∈ ps, p.2 ≠ 0 ∧ p.2 ≠ 13 ∧ p.2 ≠ 1
noncomputable def topN : List Nat := [0, 13, 1]
theorem topN_at {i x : Nat} (h : topN[i]? = some x) : x = 0 ∨ x = 13 ∨ x = 1 := by
  have := List.mem_of_getElem? h
  simpa [topN] using this
theorem s_tops {tk : List PySem.Str} {pl : Nat} {ps : Ps} {Q : FV → Store → Prop} (H : Is W ((pl, .lst (ps.map (·.1))) :: L) σ) (P : ∀ p ∈ ps, PartIs W tk p.1 p.2) (z : ps.length ≤ 3)
    (q : ∀ ql (ps' : Ps) σ', (∀ p ∈ ps', p ∈ ps) → ps'.length ≤ 3 → Tops ps' → Is W ((ql, .lst (ps'.map (·.1))) :: L) σ' → Q (.ref ql) σ') :
    wexs X (run X (n + 45)) (n + 46) ((fBody (stm 156)).drop 2) (envOf (stm 156) (paB pl)) (endQ Q) σ := by
  refine r_items (xs := topN.map fun (x : Nat) => FV.int x) rfl ?_
  refine for_env (xs := topN.map fun (x : Nat) => FV.int x) (nm := (fScope (stm 156)).names) (R := Q)
    (Inv := fun i e σ' => e = paB pl ∧ (∀ p ∈ ps, ∀ x ∈ topN.take i, p.2 ≠ x) ∧ Is W ((pl, .lst (ps.map (·.1))) :: L) σ')
    (fun i e σ K _ k => r_items rfl k) ?_ ?_ (fun r d σ h => h) (n + 46) 0 σ (paB pl) ⟨rfl, by simp, H⟩ (Nat.zero_le _) (by show 3 < _; lia)
  · rintro i y e σ1 K ⟨rfl, hn, H1⟩ hy next ret
    rw [List.getElem?_map] at hy
    cases hx : topN[i]? with
    | none => rw [hx] at hy; cases hy
    | some x =>
      rw [hx] at hy
      have hy : y = .int (x : Int) := by simpa using hy.symm
      subst hy
      refine s_top1 H1 P z (fun ql σ2 d ⟨p, hp, e⟩ H2 => ret _ d σ2 (q ql _ σ2 (fun p hp => (List.mem_filter.mp hp).1) (Nat.le_trans (List.length_filter_le _ _) z) (.inl ⟨x, topN_at hx, ?_, fun p hp => ?_⟩) H2))
        fun σ2 d hd hne H2 => (next (paB pl) d σ2 ⟨rfl, fun p hp y hy => ?_, H2⟩ hd).1
      · exact fun h => by
          have : p ∈ ps.filter fun p => decide (p.2 = x) := List.mem_filter.mpr ⟨hp, by simpa using e⟩
          rw [h] at this; cases this
      · simpa using (List.mem_filter.mp hp).2
      · rw [List.take_add_one, hx] at hy
        rcases List.mem_append.mp hy with hy | hy
        · exact hn p hp y hy
        · have : y = x := by simpa using hy
          subst this; exact hne p hp
  · rintro e σ1 ⟨rfl, hn, H1⟩
    exact q pl ps σ1 (fun p h => h) z (.inr fun p hp => ⟨hn p hp 0 (by decide), hn p hp 13 (by decide), hn p hp 1 (by decide)⟩) H1
theorem counts {r : Nat} (h : r < 6) : ∃ m : Nat, m ≤ 3 ∧ itemV (.tup [.int 1, .int 2, .int 3, .int 1, .int 2, .int 0]) (.int r) = some (.int m) := by
  rcases (show r = 0 ∨ r = 1 ∨ r = 2 ∨ r = 3 ∨ r = 4 ∨ r = 5 by lia) with rfl | rfl | rfl | rfl | rfl | rfl
  · exact ⟨1, by decide, rfl⟩
  · exact ⟨2, by decide, rfl⟩
  · exact ⟨3, by decide, rfl⟩
  · exact ⟨1, by decide, rfl⟩
  · exact ⟨2, by decide, rfl⟩
  · exact ⟨0, by decide, rfl⟩
theorem items_rng {m : Nat} (h : m ≤ 1000) : itemsV (.rng 0 m) = some ((List.range m).map fun (k : Nat) => FV.int k) := by
  refine (if_pos ⟨rfl, by lia, by lia⟩).trans ?_
  simp
theorem s_parts {tk : List PySem.Str} {Q : FV → Store → Prop} (H : Is W L σ) (o : Ok1 W c) (hc : c ≤ 1500) (tkn : TakenIs W tk)
    (q : ∀ ql (ps : Ps) W' σ', Le W W' → Ok1 W' (c + 27) → (∀ p ∈ ps, PartIs W' tk p.1 p.2) → ps.length ≤ 3 → Tops ps → Is W' ((ql, .lst (ps.map (·.1))) :: L) σ' → Q (.ref ql) σ') :
    RunT 8 (run X (n + 46) (.st (.ref 1259)) [.ref 5, .ref 3, .ref 16, .ref 84]) σ Q := by
  refine r_go opB rfl rfl rfl ?_
  refine r_alloc H fun pl σ1 H1 => ?_
  refine n_set (c' := envOf (stm 156) (paB pl)) rfl ?_
  refine s_take (m := 6) H1 o.ys (by decide) fun r k σ2 hr H2 => ?_
  obtain ⟨m, hm, e⟩ := counts (r := r) (by lia)
  refine r_item e (r_range (r_items (items_rng (by lia)) ?_))
  refine for_env (t := forT paS) (body := forB paS) (xs := (List.range m).map fun (k : Nat) => FV.int k) (nm := (fScope (stm 156)).names) (R := fun _ _ => False)
    (Inv := fun i e σ' => e = paB pl ∧ ∃ (ps : Ps) (W' : Wd), ps.length = i ∧ i ≤ 3 ∧ Le W W' ∧ Ok1 W' (c + 9 * i) ∧ (∀ p ∈ ps, PartIs W' tk p.1 p.2) ∧ Is W' ((pl, .lst (ps.map (·.1))) :: L) σ')
    (fun i e σ K _ k => r_items (items_rng (by lia)) k) ?_ ?_ (fun r d σ h => h.elim) (n + 46) 0 σ2 (paB pl) ⟨rfl, [], _, rfl, by lia, Le.at k, o.at k, by simp, H2⟩ (Nat.zero_le _) (by rw [List.length_map, List.length_range]; lia)
  · rintro i y e σ3 K ⟨rfl, ps, W1, hl, hi, le, o1, P, H3⟩ hy next ret
    have him : i < m := by have := (List.getElem?_eq_some_iff.mp hy).1; simpa using this
    refine s_draw H3 o1 (by lia) ⟨le.taken ▸ tkn.1, tkn.2⟩ (by rw [List.length_map]; omega) fun one t W2 σ4 d hd le2 o2 p H4 => ?_
    refine (next (paB pl) d σ4 ⟨rfl, ps ++ [(one, t)], W2, by simp [hl], by lia, le.trans le2, o2.up (by lia), fun p' hp => ?_, by simpa using H4⟩ hd).1
    rcases List.mem_append.mp hp with hp | hp
    · exact (P p' hp).le le2
    · rw [List.mem_singleton.mp hp]; exact p
  · rintro e σ3 ⟨rfl, ps, W1, hl, hi, le, o1, P, H3⟩
    exact s_tops H3 P (by lia) fun ql ps' σ' sub z t H' => q ql ps' W1 σ' le (o1.up (by lia)) (fun p hp => P p (sub p hp)) z t H'
end
section
variable {n : Nat} {W W' W'' : Wd} {L L' : List (Nat × MO)} {σ : Store} {l c : Nat}
theorem base_ne (B : Stem W) {t i : Nat} {r r' : FV} {k k' : Int} (h : W.rows[t]? = some r) (e : baseR[i]? = some r') (hk : itemV r (.int 0) = some (.int k)) (hk' : itemV r' (.int 0) = some (.int k')) (ne : k ≠ k') : t ≠ i := by
  rintro rfl
  have := B.at e
  rw [h] at this
  cases this
  rw [hk] at hk'
  cases hk'
  exact ne rfl
/-- an id that is none of the first ones that count -/
structure Far (t : Nat) : Prop where
  n0 : t ≠ 0
  n1 : t ≠ 1
  n2 : t ≠ 2
  n13 : t ≠ 13
  n14 : t ≠ 14
  n15 : t ≠ 15
theorem far_of (B : Stem W) {t : Nat} {r : FV} {k : Int} (h : W.rows[t]? = some r) (hk : itemV r (.int 0) = some (.int k)) (n1 : k ≠ 1) (n2 : k ≠ 2) : Far t :=
  ⟨base_ne B (i := 0) h rfl hk rfl n1, base_ne B (i := 1) h rfl hk rfl n1, base_ne B (i := 2) h rfl hk rfl n1, base_ne B (i := 13) h rfl hk rfl n1, base_ne B (i := 14) h rfl hk rfl n2, base_ne B (i := 15) h rfl hk rfl n2⟩
theorem Thing.far (B : Stem W) {t sh : Nat} {ps : List Pr} {s m : FV} {md : Bool} (G : Thing W t ps s m md sh) : Far t := by
  cases G with
  | obj cs ks hr _ _ => exact far_of B (k := 8) hr rfl (by decide) (by decide)
  | ref k cs ks R _ _ =>
    obtain ⟨did, l, d, a, mm, v, h1, _, _, _⟩ := R
    exact far_of B (k := 9) h1 rfl (by decide) (by decide)
  | top x ht _ _ _ _ _ _ _ => subst ht; exact ⟨by decide, by decide, by decide, by decide, by decide, by decide⟩
theorem ParIs.far (B : Stem W) {t : Nat} {b : Int} (h : ParIs W t b) : Far t := let ⟨_, h1, _⟩ := h; far_of B (k := 10) h1 rfl (by decide) (by decide)
/-- a plain kind -/
structure Plain (W : Wd) (t : Nat) (k f : Int) : Prop where
  id : Id W t k
  sh : shut k
  hb : t ≠ 14 ∧ t ≠ 15
  hw : wholeK k ≠ t
  fam : FamV t k f
theorem key_plain (B : Stem W) {t : Nat} {x : FV} {o : Option FV} {f : Int} (e : baseR[t]? = some (.tup [.int 1, x])) (h2 : t ≠ 2) (hb : t ≠ 14 ∧ t ≠ 15) (g : kvGet (.int t) kfK = some o) (hf : o.getD (.int 0) = .int f) : Plain W t 1 f :=
  ⟨B.id e kindKey h2, by unfold shut; decide, hb, by show (-1 : Int) ≠ _; omega, .key o f g hf⟩
theorem prim_plain (B : Stem W) {t : Nat} (h : t = 4 ∨ t = 5 ∨ t = 6 ∨ t = 7 ∨ t = 3 ∨ t = 19 ∨ t = 1) : ∃ k f, Plain W t k f ∧ (t = 1 ∨ (f ≠ 7 ∧ f ≠ 0)) := by
  rcases h with rfl | rfl | rfl | rfl | rfl | rfl | rfl
  · exact ⟨1, 5, key_plain B rfl (by decide) (by decide) rfl rfl, .inr (by decide)⟩
  · exact ⟨1, 4, key_plain B rfl (by decide) (by decide) rfl rfl, .inr (by decide)⟩
  · exact ⟨1, 1, key_plain B rfl (by decide) (by decide) rfl rfl, .inr (by decide)⟩
  · exact ⟨1, 2, key_plain B rfl (by decide) (by decide) rfl rfl, .inr (by decide)⟩
  · exact ⟨1, 6, key_plain B rfl (by decide) (by decide) rfl rfl, .inr (by decide)⟩
  · exact ⟨3, 1, ⟨B.id (i := 19) rfl ⟨rfl, by decide, by decide, by decide, fun _ => ⟨_, rfl, rfl⟩⟩ (by decide), by unfold shut; decide, by decide, by decide, .str⟩, .inr (by decide)⟩
  · exact ⟨1, 0, key_plain B rfl (by decide) (by decide) rfl rfl, .inl rfl⟩
theorem Plain.self {t : Nat} {k f : Int} (p : Plain W t k f) : Bnd W t t k := .self p.id p.sh rfl
theorem Plain.par {t b : Nat} {k f x : Int} (B : Stem W) (p : Plain W b k f) (h : ParIs W t x) (hb : (b : Int) = if x < 0 ∨ x = 0 then 1 else x) : Bnd W t b k := by
  obtain ⟨q, h1, h2⟩ := h
  refine .par q x h1 h2 hb ?_ (ParIs.far B ⟨q, h1, h2⟩).n2 p.id p.sh
  rintro rfl
  obtain ⟨r, hr, hk⟩ := p.id.row
  rw [h1] at hr
  cases hr
  have := hk.1
  cases this
  exact p.sh.1 rfl
theorem Thing.plain (B : Stem W) {t sh : Nat} {ps : List Pr} {s m : FV} {md : Bool} (G : Thing W t ps s m md sh) : ∃ k, Plain W t k 7 ∧ ElemV W t k (-1) := by
  have far := G.far B
  obtain ⟨k, I, s, F, E, hw, _⟩ := G.facts far.n2
  exact ⟨k, ⟨I, s, ⟨far.n14, far.n15⟩, by rw [hw]; omega, F⟩, E⟩
theorem arr_plain (B : Stem W) {t : Nat} (h : W.rows[t]? = some arrRow) : Plain W t 11 7 := by
  have far := far_of B (k := 11) h rfl (by decide) (by decide)
  exact ⟨⟨⟨_, h, rfl, by decide, by decide, by decide, by decide⟩, far.n2⟩, by unfold shut; decide, ⟨far.n14, far.n15⟩, by show (-1 : Int) ≠ _; omega, .obj 11 (.inr (.inr rfl))⟩
end
section
variable {n : Nat} {W W' W'' : Wd} {L L' : List (Nat × MO)} {σ : Store} {l c : Nat}
/-- what rest_props answers for a part: id, fault, noted -/
inductive Out (W : Wd) (tk : List PySem.Str) : FV → Nat → Nat → Option Bool → Bool → Prop
  | top {t : Nat} : t = 0 ∨ t = 13 → Out W tk (one0 5 t) t t none false
  | bad {k : Int} {t : Nat} : k = 1 ∨ k = 3 → Out W tk (one0 k t) t 13 (some false) false
  | arr {t : Nat} : Out W tk (one0 4 t) t 13 (some true) false
  | opn {t : Nat} {b : Int} : ParIs W t b → Out W tk (one0 6 t) t t none true
  | thing {h rl t r kc sh : Nat} {ts : List Tn} : ThingP W h rl t ts kc sh → W.rows[r]? = some (objRow (restP (shutH h) tk (prs ts)) (.tup []) (.tup []) (cellK h kc 3) (cellK h kc 4)) →
      Out W tk (oneF h rl t) t r none (!(restP (shutH h) tk (prs ts)).isEmpty)
noncomputable def noteF : FV := .tup [.int 13, .int 1]
/-- faults told, notes put -/
structure Step (W : Wd) (bs : List Bool) (f : Option Bool) (nt : Bool) (bs' : List Bool) (W' : Wd) : Prop where
  le : Le W W'
  dg : Dg W' W'.diags bs'
  mem : ∀ x, x ∈ bs' ↔ x ∈ bs ∨ f = some x
  nd : bs'.Nodup
  notes : W'.notes = W.notes ++ (if nt = true then [noteF] else [])
/-- the table as it should be, whatever is told -/
structure Ok2 (W : Wd) (c : Nat) : Prop where
  tw : TW W
  sz : Sz W c
  stem : Stem W
theorem Ok1.two (o : Ok1 W c) : Ok2 W c := ⟨o.tw, o.sz, o.stem⟩
theorem Ok2.up (o : Ok2 W c) {d : Nat} (h : c ≤ d) : Ok2 W d := ⟨o.tw, o.sz.le h, o.stem⟩
theorem Ok2.put {row : FV} {i : Nat} (o : Ok2 W c) (p : Put W row i W') : Ok2 W' (c + 1) := ⟨p.tw, p.sz o.sz, o.stem.le p.le⟩
theorem nd_two : ∀ {bs : List Bool}, bs.Nodup → bs.length ≤ 2
  | [], _ => by simp
  | [_], _ => by simp
  | [_, _], _ => by simp
  | a :: b :: d :: r, h => by
    simp only [List.nodup_cons, List.mem_cons, not_or] at h
    obtain ⟨⟨h1, h2, _⟩, ⟨h3, _⟩, _⟩ := h
    exact absurd (show a = b ∨ a = d ∨ b = d by cases a <;> cases b <;> cases d <;> decide) (by rintro (e | e | e); exact h1 e; exact h2 e; exact h3 e)
theorem Told.le {bs bs' : List Bool} {b : Bool} (t : Told W bs b bs' W') : Le W W' := by
  obtain ⟨_, _, _, o, ds, e, _⟩ := t
  rw [e]
  exact ⟨⟨[], by simp⟩, ⟨[], by simp⟩, ⟨[], by simp⟩, fun p h => List.mem_append_right _ h, rfl, rfl⟩
theorem Ok2.told {bs bs' : List Bool} {b : Bool} (o : Ok2 W c) (t : Told W bs b bs' W') : Ok2 W' (c + 1) := by
  have le := t.le
  obtain ⟨_, _, _, ob, ds, e, hl⟩ := t
  obtain ⟨a1, a2, a3, a4, a5, a6, a7⟩ := o.sz
  subst e
  exact ⟨⟨o.tw.ix, o.tw.key, o.tw.nd⟩, ⟨by simp only; omega, by simp only; omega, by simp only; omega, by simp only; omega, by simp only; omega, by simp only; lia, by simp only; lia⟩, o.stem⟩
theorem Told.step {bs bs' : List Bool} {b : Bool} (t : Told W bs b bs' W') (nd : bs.Nodup) : Step W bs (some b) false bs' W' := by
  refine ⟨t.le, t.dg, fun x => (t.mem x).trans ⟨fun h => h.imp id fun e => congrArg some e.symm, fun h => h.imp id fun e => (Option.some.inj e).symm⟩, t.nd nd, ?_⟩
  obtain ⟨_, _, _, ob, ds, e, hl⟩ := t
  rw [e]; simp
noncomputable def Wd.note (W : Wd) : Wd := { W with notes := W.notes ++ [noteF] }
theorem Le.note (W : Wd) : Le W W.note := ⟨⟨[], by rw [List.append_nil]; rfl⟩, ⟨[], by rw [List.append_nil]; rfl⟩, ⟨[], by rw [List.append_nil]; rfl⟩, fun _ h => h, rfl, rfl⟩
theorem Ok2.note (o : Ok2 W c) : Ok2 W.note (c + 1) := by
  obtain ⟨a1, a2, a3, a4, a5, a6, a7⟩ := o.sz
  unfold Wd.note
  exact ⟨⟨o.tw.ix, o.tw.key, o.tw.nd⟩, ⟨by simp only; lia, by simp only; lia, by simp only; lia, by simp only; lia, by simp only; lia, by simp only; lia, by simp; omega⟩, o.stem⟩
theorem Step.still {bs : List Bool} (D : Dg W W.diags bs) (nd : bs.Nodup) : Step W bs none false bs W := ⟨.refl W, D, fun x => by simp, nd, by simp⟩
theorem Step.noted {bs : List Bool} (D : Dg W W.diags bs) (nd : bs.Nodup) : Step W bs none true bs W.note := ⟨.note W, Dg.mono (W := W) (W' := W.note) (fun p h => h) D, fun x => by simp, nd, rfl⟩
theorem Step.put {bs bs' : List Bool} {f : Option Bool} {nt : Bool} {row : FV} {i : Nat} (s : Step W bs f nt bs' W') (p : Put W' row i W'') : Step W bs f nt bs' W'' := by
  refine ⟨s.le.trans p.le, ?_, s.mem, s.nd, ?_⟩
  · have d := s.dg.mono p.le.obj
    have : W''.diags = W'.diags := by rw [p.rest]
    rw [this]; exact d
  · have : W''.notes = W'.notes := by rw [p.rest]
    rw [this]; exact s.notes
theorem cell_hk {h kc k : Nat} : hkT 6 (cellK h kc k) = true := hk_cell
theorem s_rp {Q : FV → Store → Prop} {tk : List PySem.Str} {one : FV} {t bd : Nat} {bs : List Bool} (H : Is W L σ) (o : Ok2 W c) (hc : c ≤ 1900) (K : TakenIs W tk) (ks : tk.Sublist abc) (N : NodeAt W bd) (D : Dg W W.diags bs) (nd : bs.Nodup) (P : PartIs W tk one t)
    (q : ∀ r f nt bs' W' σ', Out W' tk one t r f nt → Step W bs f nt bs' W' → Ok2 W' (c + 2) → Is W' L σ' → Q (.int (r : Nat)) σ') :
    RunT 8 (run X (n + 45)  (.st (.ref 675)) [.ref 27, .ref bd, .int t, .ref 84]) σ Q := by
  have T := o.tw
  have S := o.sz
  have B := o.stem
  have hc' : c ≤ 4000 := by lia
  have hz : W.diags.length ≤ 20 := by rw [D.len]; have := nd_two nd; lia
  have I7 : Id W 7 1 := B.id (i := 7) rfl kindKey (by decide)
  have bad : ∀ {b : Nat} {k f : Int}, Far t ∨ t = 1 ∨ (t ≠ 0 ∧ t ≠ 13) → Bnd W t b k → b ≠ 14 ∧ b ≠ 15 → wholeK k ≠ b → FamV b k f → (t = 1 ∨ (f ≠ 7 ∧ f ≠ 0)) → ∀ k : Int, (k = 1 ∨ k = 3) → one = one0 k t → RunT 8 (run X (n + 45) (.st (.ref 675)) [.ref 27, .ref bd, .int t, .ref 84]) σ Q :=
    fun far bn hb hw fm hf k hk e => s_rp_bad H T S hc' hz D N (by rcases far with h | h | h; exact h.n0; omega; exact h.1) (by rcases far with h | h | h; exact h.n13; omega; exact h.2) bn hb hw fm hf
      fun bs' W' σ' told H' => q 13 (some false) false bs' W' σ' (e ▸ .bad hk) (told.step nd) ((o.told told).up (by omega)) H'
  cases P with
  | top h => exact s_rp_top h (q t none false bs W σ (.top h) (.still D nd) (o.up (by lia)) H)
  | nul h =>
    obtain ⟨k, f, p, hf⟩ := prim_plain B (t := t) (by lia)
    exact bad (.inr (.inr (by omega))) p.self p.hb p.hw p.fam hf 1 (.inl rfl) rfl
  | prim h =>
    obtain ⟨k, f, p, hf⟩ := prim_plain B (t := t) (by lia)
    exact bad (.inr (.inr (by lia))) p.self p.hb p.hw p.fam hf 3 (.inr rfl) rfl
  | pstr h hb =>
    rcases hb with rfl | rfl
    · exact bad (b := 6) (k := 1) (f := 1) (.inl (h.far B)) ((key_plain B rfl (by decide) (by decide) rfl rfl : Plain W 6 1 1).par B h rfl) (by decide) (by decide) (.key (some (.int 1)) 1 rfl rfl) (.inr (by decide)) 3 (.inr rfl) rfl
    · exact bad (b := 5) (k := 1) (f := 4) (.inl (h.far B)) ((key_plain B rfl (by decide) (by decide) rfl rfl : Plain W 5 1 4).par B h rfl) (by decide) (by decide) (.key (some (.int 4)) 4 rfl rfl) (.inr (by decide)) 3 (.inr rfl) rfl
  | arr ha =>
    have p := arr_plain B ha
    have far := far_of B (k := 11) ha rfl (by decide) (by decide)
    exact s_rp_arr H T S hc' hz D N I7 far.n0 far.n13 far.n1 p.self p.hb ha fun bs' W' σ' told H' => q 13 (some true) false bs' W' σ' .arr (told.step nd) ((o.told told).up (by omega)) H'
  | @parr _ b hp ha =>
    have p := arr_plain B ha
    have far := hp.far B
    have fb := far_of B (k := 11) ha rfl (by decide) (by decide)
    exact s_rp_arr H T S hc' hz D N I7 far.n0 far.n13 far.n1 (p.par B hp (by rw [if_neg (by have := fb.n0; omega)])) p.hb ha fun bs' W' σ' told H' => q 13 (some true) false bs' W' σ' .arr (told.step nd) ((o.told told).up (by omega)) H'
  | opn hp htk =>
    subst htk
    have far := hp.far B
    have p : Plain W 1 1 0 := key_plain B rfl (by decide) (by decide) rfl rfl
    obtain ⟨pp, h1, h2⟩ := hp
    exact s_rp_open H T S hc' N I7 far.n0 far.n13 far.n1 K (p.par B ⟨pp, h1, h2⟩ rfl) p.hb p.hw p.fam (.inr rfl) (.no 1 (by decide) (by decide) (by decide)) h1 fun σ' H' =>
      q t none true bs W.note σ' (.opn ⟨pp, h1, h2⟩) (.noted D nd) (o.note.up (by omega)) H'
  | @opt _ h rl b kc sh ts hp th htk =>
    subst htk
    have far := hp.far B
    obtain ⟨k, p, E⟩ := th.thing.plain B
    have fb := th.thing.far B
    obtain ⟨pp, h1, h2⟩ := hp
    exact s_rp_open H T S hc' N I7 far.n0 far.n13 far.n1 K (p.par B ⟨pp, h1, h2⟩ (by rw [if_neg (by have := fb.n0; omega)])) p.hb p.hw p.fam (.inl rfl) E h1 fun σ' H' =>
      q t none true bs W.note σ' (.opn ⟨pp, h1, h2⟩) (.noted D nd) (o.note.up (by omega)) H'
  | @thing h rl _ kc sh ts th =>
    have far := th.thing.far B
    have rise : Rising (restP (shutH h) tk (prs ts)) := by
      refine rising_of ?_
      unfold restP
      rw [List.map_map]
      have s1 := prs_sub ts
      rw [th.tn.nms, th.three] at s1
      exact (((List.filter_sublist).trans List.filter_sublist).map _).trans s1
    refine s_rp_thing H T S hc' N I7 far.n0 far.n13 far.n1 far.n2 ⟨far.n14, far.n15⟩ K th.thing (Nat.le_trans (prs_len ts) (by rw [th.three]; lia)) hk_cell hk_cell rise fun i W' σ' p H' => ?_
    by_cases he : restP (shutH h) tk (prs ts) = []
    · rw [if_pos he] at p
      exact q i none _ bs W' σ' (.thing (th.le p.le) p.at_) (by rw [he]; exact (Step.still D nd).put p) ((o.put p).up (by omega)) H'
    · rw [if_neg he] at p
      have le : Le W W.note := .note W
      have e : (!(restP (shutH h) tk (prs ts)).isEmpty) = true := by simpa using he
      exact q i none _ bs W' σ' (.thing (th.le (le.trans p.le)) p.at_) (by rw [e]; exact (Step.noted D nd).put p) ((o.note.put p).up (by lia)) H'
end
section
variable {n : Nat} {W W' W'' : Wd} {L L' : List (Nat × MO)} {σ : Store} {l c : Nat}
theorem s_leaf {Q : FV → Store → Prop} (H : Is W L σ) (q : ∀ bd W' σ', Le W W' → (∃ ob, W' = { W with obj := ob }) → NodeAt W' bd → Is W' L σ' → Q (.ref bd) σ') : RunT 8 (run X (n + 3) (.st (.ref 714)) [.int 36, .str ⟨#[]⟩, .int 1]) σ Q := by
  refine r_go [("kind", .int 36), ("a", .str ⟨#[]⟩), ("at", .int 1)] rfl rfl rfl ?_
  refine r_alloc H fun kd σ1 H1 => ?_
  refine r_cls H1 rfl rfl rfl fun d l σ2 H2 => ?_
  have H0 : Is W ((l, .ins 703 d) :: (d, .att ((nodeA (.ref kd)).take 0)) :: (kd, .lst []) :: L) σ2 := H2
  clear H2
  refine r_go [("self", .ref l), ("kind", .int 36), ("a", .str ⟨#[]⟩), ("kids", .ref kd), ("flags", .int 0), ("at", .int 1)] rfl rfl rfl ?_
  repeat walk_at "s"
  rename_i H3
  have H5 : Is W ((l, .ins 703 d) :: (d, .att (nodeA (.ref kd))) :: (kd, .lst []) :: L) _ := H3
  exact q l ((W.up _).up _) _ ((Le.up W _).trans (Le.up _ _)) ⟨_, rfl⟩ ⟨d, _, .tail _ (.head _), .head _⟩ H5.up.up.drop
/-- the kind of an id -/
noncomputable def kdW (W : Wd) (t : Nat) : Int := ((W.rows[t]?).bind fun r => (itemV r (.int 0)).bind intOf).getD 0
theorem Id.kd {t : Nat} {k : Int} (I : Id W t k) : kdW W t = k := by
  obtain ⟨⟨r, h1, h2⟩, _⟩ := I
  unfold kdW; rw [h1]; show ((itemV _ (.int 0)).bind intOf).getD 0 = k; rw [h2.1]; rfl
theorem Id.of {t : Nat} {k : Int} (I : Id W t k) : Id W t (kdW W t) := by rw [I.kd]; exact I
/-- ids that a union may be made of -/
noncomputable def Fit (W : Wd) (t : Nat) : Prop := Id W t (kdW W t) ∧ t ≠ 14 ∧ t ≠ 15
theorem par_id (B : Stem W) {t : Nat} {b : Int} (h : ParIs W t b) : Id W t 10 := by
  have far := h.far B
  obtain ⟨p, h1, _⟩ := h
  exact ⟨⟨_, h1, rfl, by decide, by decide, by decide, by lia⟩, far.n2⟩
theorem top_id (B : Stem W) {t : Nat} (h : t = 0 ∨ t = 13) : Id W t 1 := by
  rcases h with rfl | rfl
  · exact B.id (i := 0) rfl kindKey (by decide)
  · exact B.id (i := 13) rfl kindKey (by decide)
theorem PartIs.id {tk : List PySem.Str} {one : FV} {t : Nat} (B : Stem W) (P : PartIs W tk one t) : ∃ k, Id W t k ∧ (t ≠ 14 ∧ t ≠ 15) := by
  cases P with
  | top h => exact ⟨1, top_id B h, by omega⟩
  | nul h => obtain ⟨k, f, p, _⟩ := prim_plain B (t := t) (by lia); exact ⟨k, p.id, p.hb⟩
  | prim h => obtain ⟨k, f, p, _⟩ := prim_plain B (t := t) (by lia); exact ⟨k, p.id, p.hb⟩
  | pstr h _ => exact ⟨10, par_id B h, (h.far B).n14, (h.far B).n15⟩
  | arr h => exact ⟨11, (arr_plain B h).id, (arr_plain B h).hb⟩
  | parr h _ => exact ⟨10, par_id B h, (h.far B).n14, (h.far B).n15⟩
  | opn h _ => exact ⟨10, par_id B h, (h.far B).n14, (h.far B).n15⟩
  | opt h _ _ => exact ⟨10, par_id B h, (h.far B).n14, (h.far B).n15⟩
  | thing h => obtain ⟨k, p, _⟩ := h.thing.plain B; exact ⟨k, p.id, p.hb⟩
theorem PartIs.fit {tk : List PySem.Str} {one : FV} {t : Nat} (B : Stem W) (P : PartIs W tk one t) : Fit W t := let ⟨_, I, h⟩ := P.id B; ⟨I.of, h⟩
theorem Out.fit {tk : List PySem.Str} {one : FV} {t r : Nat} {f : Option Bool} {nt : Bool} (B : Stem W) (o : Out W tk one t r f nt) : Fit W r := by
  have e : Fit W 13 := ⟨(top_id B (.inr rfl)).of, by decide⟩
  cases o with
  | top h => exact ⟨(top_id B h).of, by omega⟩
  | bad _ => exact e
  | arr => exact e
  | opn h => exact ⟨(par_id B h).of, (h.far B).n14, (h.far B).n15⟩
  | thing _ hr =>
    have far := far_of B (k := 8) hr rfl (by decide) (by decide)
    exact ⟨(⟨⟨_, hr, rfl, by decide, by decide, by decide, fun _ => ⟨_, rfl, rfl⟩⟩, far.n2⟩ : Id W r 8).of, far.n14, far.n15⟩
theorem Out.le {tk : List PySem.Str} {one : FV} {t r : Nat} {f : Option Bool} {nt : Bool} (x : Le W W') (o : Out W tk one t r f nt) : Out W' tk one t r f nt := by
  cases o with
  | top h => exact .top h
  | bad h => exact .bad h
  | arr => exact .arr
  | opn h => exact .opn (h.le x)
  | thing h hr => exact .thing (h.le x) (app_get x.rows hr)
/-- what is left of a union -/
structure Kept (W : Wd) (kd : Nat → Int) (ts ks : List Nat) (r : Nat) (W' : Wd) : Prop where
  parts : PartsOf W' r ks
  srt : ks.Pairwise (· < ·)
  mem : ∀ x, x ∈ ks ↔ x ∈ ts ∧ wholeK (kd x) ∉ ts.map (fun (t : Nat) => (t : Int))
theorem nd_len : ∀ {ks ts : List Nat}, ks.Nodup → (∀ x ∈ ks, x ∈ ts) → ks.length ≤ ts.length
  | [], _, _, _ => Nat.zero_le _
  | k :: ks, ts, nd, h => by
    rw [List.nodup_cons] at nd
    have hk := h k (.head _)
    have ih := @nd_len ks (ts.erase k) nd.2 fun x hx => (List.mem_erase_of_ne (fun e : x = k => nd.1 (e ▸ hx))).mpr (h x (.tail _ hx))
    rw [List.length_erase_of_mem hk] at ih
    have := List.length_pos_of_mem hk
    rw [List.length_cons]; omega
theorem Kept.len {ts ks : List Nat} {r : Nat} {kd : Nat → Int} (k : Kept W kd ts ks r W') : ks.length ≤ ts.length := by
  have nd : ks.Nodup := k.srt.imp fun h => Nat.ne_of_lt h
  exact nd_len nd fun x hx => ((k.mem x).mp hx).1
theorem kept_of {ts : List Nat} {kd : Nat → Int} {r : Nat} (B : Stem W) (ids : ∀ t ∈ ts, Id W t (kd t)) (u : UnionR W ts kd r W') (t0 : 0 ∉ ts) (t13 : 13 ∉ ts) (t1 : 1 ∉ ts) : ∃ ks, Kept W kd ts ks r W' := by
  have le := u.le
  cases u with
  | top h _ => rcases h with ⟨_, h⟩ | ⟨_, _, h⟩ | ⟨_, _, _, h⟩; exact absurd h t0; exact absurd h t13; exact absurd h t1
  | rest kept _ _ _ hp hm h =>
    refine ⟨kept, ?_, hp, hm⟩
    rcases h with ⟨rfl, hr, _⟩ | ⟨rfl, rfl⟩ | ⟨_, p⟩
    · exact .never hr rfl
    · exact .one _ (ids r ((hm r).mp (.head _)).1) rfl
    · exact .many (base_ne (B.le le) (i := 2) (k := 6) p.at_ rfl rfl rfl (by decide)) p.at_
theorem kept_top {ts : List Nat} {kd : Nat → Int} {r x : Nat} (hx : x = 0 ∨ x = 13 ∨ x = 1) (ids : ∀ t ∈ ts, Id W t (kd t)) (B : Stem W) (ne : ts ≠ []) (all : ∀ t ∈ ts, t = x) (u : UnionR W ts kd r W') : r = x ∧ W' = W ∧ Kept W kd ts [x] r W' := by
  have mx : x ∈ ts := by
    cases ts with
    | nil => exact absurd rfl ne
    | cons t ts => rw [all t (.head _)]; exact .head _
  have n2 : ∀ y, y ∈ ts → y = x := fun y h => all y h
  have k1 : kd x = 1 := by
    have I := ids x mx
    have : Id W x 1 := by
      rcases hx with h | h | h
      · exact top_id B (.inl h)
      · exact top_id B (.inr h)
      · subst h; exact B.id (i := 1) rfl kindKey (by decide)
    rw [← I.kd, this.kd]
  have fin : r = x → W' = W → r = x ∧ W' = W ∧ Kept W kd ts [x] r W' := fun h1 h2 => by
    subst h1; subst h2
    refine ⟨rfl, rfl, .one 1 (by have := ids r mx; rw [k1] at this; exact this) rfl, by grind, fun y => ?_⟩
    rw [List.mem_singleton]
    constructor
    · rintro rfl
      refine ⟨mx, fun h => ?_⟩
      rw [k1, List.mem_map] at h
      obtain ⟨a, _, e⟩ := h
      have : wholeK 1 = -1 := rfl
      lia
    · exact fun h => all y h.1
  cases u with
  | top h e =>
    refine fin ?_ e
    rcases h with ⟨h, m⟩ | ⟨h, _, m⟩ | ⟨h, _, _, m⟩ <;> rw [h, n2 _ m]
  | rest kept h0 h13 h1 =>
    exact absurd mx (by rcases hx with h | h | h <;> subst h <;> assumption)
end
section
variable {n : Nat} {W W' W'' : Wd} {L L' : List (Nat × MO)} {σ : Store} {l c : Nat}
/-- what was done with a part -/
structure Od where
  one : FV
  t : Nat
  r : Nat
  f : Option Bool
  nt : Bool
/-- what was done with the parts so far -/
structure Acc (R : FV → Nat → Prop) (W0 W : Wd) (tk : List PySem.Str) (os : List Od) (bs : List Bool) : Prop where
  le : Le W0 W
  dg : Dg W W.diags bs
  nd : bs.Nodup
  out : ∀ o ∈ os, PartIs W tk o.one o.t ∧ Out W tk o.one o.t o.r o.f o.nt ∧ R o.one o.t
  mem : ∀ b, b ∈ bs ↔ ∃ o ∈ os, o.f = some b
  notes : W.notes = (os.filter (·.nt)).map fun _ => noteF
theorem Acc.step {R : FV → Nat → Prop} {W0 : Wd} {tk : List PySem.Str} {os : List Od} {bs bs' : List Bool} {one : FV} {t r : Nat} {f : Option Bool} {nt : Bool} (a : Acc R W0 W tk os bs) (s : Step W bs f nt bs' W') (P : PartIs W tk one t) (O : Out W' tk one t r f nt) (hR : R one t) : Acc R W0 W' tk (os ++ [⟨one, t, r, f, nt⟩]) bs' := by
  refine ⟨a.le.trans s.le, s.dg, s.nd, fun o h => ?_, fun b => ?_, ?_⟩
  · rcases List.mem_append.mp h with h | h
    · exact ⟨(a.out o h).1.le s.le, (a.out o h).2.1.le s.le, (a.out o h).2.2⟩
    · rw [List.mem_singleton.mp h]; exact ⟨P.le s.le, O, hR⟩
  · rw [s.mem, a.mem]
    constructor
    · rintro (⟨o, h, e⟩ | e)
      · exact ⟨o, List.mem_append_left _ h, e⟩
      · exact ⟨_, List.mem_append_right _ (.head _), e⟩
    · rintro ⟨o, h, e⟩
      rcases List.mem_append.mp h with h | h
      · exact .inl ⟨o, h, e⟩
      · rw [List.mem_singleton.mp h] at e; exact .inr e
  · rw [s.notes, a.notes, List.filter_append, List.map_append]
    cases nt <;> rfl
/-- the parts that count -/
noncomputable def keepT (tk : List PySem.Str) (x : Nat) : Bool := tk.isEmpty || !(decide (x = 5) || decide (x = 4))
theorem s_rest {R : FV → Nat → Prop} {Q : FV → Store → Prop} {tk : List PySem.Str} {t bd : Nat} {ks : List Nat} (H : Is W L σ) (o : Ok2 W c) (hc : c ≤ 1800) (K : TakenIs W tk) (sk : tk.Sublist abc) (N : NodeAt W bd) (d0 : W.diags = []) (n0 : W.notes = []) (P : PartsOf W t ks) (z : ks.length ≤ 3) (ps : ∀ x ∈ ks, ∃ one, PartIs W tk one x ∧ R one x)
    (q0 : ∀ bs W' σ', ks.filter (keepT tk) = [] → (tk = [] → Step W [] (some false) false bs W' ∧ Ok2 W' (c + 1)) → (tk ≠ [] → W' = W ∧ bs = []) → Is W' L σ' → Q (.int 13) σ')
    (q : ∀ r W1 W' bs os σ', os.map (·.t) = ks.filter (keepT tk) → ks.filter (keepT tk) ≠ [] → Acc R W W1 tk os bs → Ok2 W1 (c + 6) → UnionR W1 (os.map (·.r)) (kdW W1) r W' → Is W' L σ' → Q (.int (r : Nat)) σ') :
    RunT 8 (run X (n + 46) (.st (.ref 680)) [.ref 27, .ref bd, .int t, .ref 84]) σ Q := by
  have l3 : ∀ {m : Nat}, m ≤ 3 → m ≤ lim := fun h => Nat.le_trans ‹_› (Nat.le_of_ble_eq_true rfl)
  have tz : W.taken.length ≤ lim ∧ homog (.str ⟨#[]⟩) W.taken = true := ⟨l3 (by rw [K.1, List.length_map]; exact K.2), by rw [K.1]; exact taken_homog⟩
  have te : W.taken.isEmpty = tk.isEmpty := by rw [K.1]; cases tk <;> rfl
  have lr : W.rows.length ≤ lim := by have := o.sz.rows; show _ ≤ 1000000; lia
  have il : ∀ a : List Nat, (idsF a).length = a.length := fun a => by unfold idsF; simp
  refine r_go [("cx", .ref 27), ("bind", .ref bd), ("t", .int t), ("taken", .ref 84)] rfl rfl rfl ?_
  walk_at "a"
  refine s_parts3 H P lr (r_itemsC rfl (l3 (by rw [il]; exact z)) ?_)
  refine comp_pick (xs := idsF ks) (g := fun x => match x with
    | .int i => if keepT tk i.toNat = true then some x else none
    | _ => none) (fun K k => r_items rfl k) (fun x hx out K' hl k => ?_) ?_ _ (by lia)
  · obtain ⟨x, _, rfl⟩ := List.mem_map.mp (show x ∈ ks.map _ from hx)
    have hl' : out.length ≤ lim := Nat.le_trans hl (l3 (by rw [il]; exact z))
    have k : K' (out ++ (if keepT tk x = true then some (FV.int (x : Int)) else none).toList) σ := by simpa using k
    refine r_truth_d (kvs := W.taken) (by walk_at "at") tz ?_
    rw [te]
    cases hte : tk.isEmpty with
    | true =>
      have : keepT tk x = true := by unfold keepT; rw [hte]; rfl
      rw [if_pos this] at k
      refine IfB.t rfl (IfB.t rfl (IfB.t rfl ?_))
      exact ⟨hl', k⟩
    | false =>
      refine IfB.f rfl (r_cmp rfl ?_)
      have e : ([FV.int 5, FV.int 4].any fun y => eqF y (.int (x : Int))) = (decide (x = 5) || decide (x = 4)) := by
        simp only [List.any_cons, List.any_nil, eqF_int, Bool.or_false]
        congr 1 <;> exact decide_eq_decide.mpr (by lia)
      have e2 : keepT tk x = !(decide (x = 5) || decide (x = 4)) := by unfold keepT; rw [hte, Bool.false_or]
      rw [e2, ← e] at k
      generalize ([FV.int 5, FV.int 4].any fun y => eqF y (.int (x : Int))) = b at k ⊢
      cases b with
      | true => exact IfB.f rfl (IfB.f rfl (IfB.f rfl (by simpa using k)))
      | false => refine IfB.t rfl (IfB.t rfl (IfB.t rfl ?_)); exact ⟨hl', by simpa using k⟩
  have e1 : ∀ ks : List Nat, (idsF ks).filterMap (fun x => match x with
    | .int i => if keepT tk i.toNat = true then some x else none
    | _ => none) = idsF (ks.filter (keepT tk)) := by
    intro ks
    unfold idsF
    induction ks with
    | nil => rfl
    | cons x ks ih =>
      rw [List.map_cons, List.filter_cons]
      by_cases h : keepT tk x = true
      · rw [if_pos h, List.filterMap_cons_some (b := FV.int (x : Int)) (by simp [h]), ih]; rfl
      · rw [if_neg h, List.filterMap_cons_none (by simp [h]), ih]
  rw [e1]
  have kz : (ks.filter (keepT tk)).length ≤ 3 := Nat.le_trans (List.length_filter_le _ _) z
  have sub : ∀ x ∈ ks.filter (keepT tk), ∃ one, PartIs W tk one x ∧ R one x := fun x h => ps x (List.mem_filter.mp h).1
  generalize ks.filter (keepT tk) = ks' at q0 q kz sub ⊢
  refine r_alloc H fun pl σ1 H1 => ?_
  refine n_set (c' := envOf (stm 122) ([("cx", .ref 27), ("bind", .ref bd), ("t", .int t), ("taken", .ref 84), ("parts", .ref pl)] : En)) rfl ?_
  have pz : (idsF ks').length ≤ lim := l3 (by rw [il]; exact kz)
  have body : ks' ≠ [] → ∀ σ2, Is W ((pl, .lst (idsF ks')) :: L) σ2 → wexs X (run X (n + 45)) (n + 46) ((fBody (stm 122)).drop 3) (envOf (stm 122) ([("cx", .ref 27), ("bind", .ref bd), ("t", .int t), ("taken", .ref 84), ("parts", .ref pl)] : En)) (endQ Q) σ2 := fun hne σ2 H2 => by
    walk_at "a"
    refine (r_itemsC_l (xs := idsF ks') (by walk_at "at") pz ?_)
    refine comp_list (xs := idsF ks') (P := fun i out σ' => ∃ W1 os bs, out = idsF (os.map (·.r)) ∧ os.map (·.t) = ks'.take i ∧ i ≤ ks'.length ∧ Acc R W W1 tk os bs ∧ Ok2 W1 (c + 2 * i) ∧ Is W1 ((pl, .lst (idsF ks')) :: L) σ')
      (fun i out σ' K ⟨W1, os, bs, _, _, _, _, _, H3⟩ k => r_items_l (by walk_at "at") k) ?_ ?_ _ 0 _ _ ⟨W, [], [], rfl, rfl, by omega, ⟨.refl W, by rw [d0]; exact .nil, .nil, by simp, by simp, n0⟩, o, H2⟩ (Nat.zero_le _) (by rw [il]; omega)
    · rintro i x out σ3 K' ⟨W1, os, bs, rfl, ht, hi, a, o1, H3⟩ hx next
      unfold idsF at hx
      rw [List.getElem?_map] at hx
      cases hy : ks'[i]? with
      | none => rw [hy] at hx; cases hx
      | some y =>
        rw [hy] at hx
        have hx : x = .int (y : Int) := by simpa using hx.symm
        subst hx
        have hil : i < ks'.length := (List.getElem?_eq_some_iff.mp hy).1
        obtain ⟨one, P1, hR⟩ := sub y (List.mem_of_getElem? hy)
        refine IfB.t rfl (s_rp H3 o1 (by omega) ⟨a.le.taken ▸ K.1, K.2⟩ sk (let ⟨d, kids, h1, h2⟩ := N; ⟨d, kids, a.le.obj _ h1, a.le.obj _ h2⟩) a.dg a.nd (P1.le a.le) fun r f nt bs' W' σ' out st ok H4 => ?_)
        have ol : (idsF (os.map (·.r))).length ≤ lim := by
          rw [il, List.length_map]
          have := congrArg List.length ht
          rw [List.length_map, List.length_take] at this
          exact l3 (by omega)
        refine ⟨ol, next _ _ ⟨W', os ++ [⟨one, y, r, f, nt⟩], bs', ?_, ?_, by assumption, a.step st (P1.le a.le) out hR, ok.up (by omega), H4⟩⟩
        · unfold idsF; simp
        · rw [List.map_append, ht, List.take_add_one, hy]; rfl
    · rintro out σ3 ⟨W1, os, bs, rfl, ht, _, a, o1, H3⟩
      rw [il] at ht o1
      rw [List.take_length] at ht
      refine r_alloc H3 fun rl σ4 H4 => ?_
      have lo : os.length ≤ 3 := by have := congrArg List.length ht; rw [List.length_map] at this; omega
      refine s_union (ts := os.map (·.r)) (kd := kdW W1) H4 o1.tw (by have := o1.sz.rows; omega) (.lst (.head _)) (by rw [List.length_map]; omega) (fun r hr => ?_) (fun r hr => ?_) fun r W' σ' u H5 => ?_
      · obtain ⟨od, h1, rfl⟩ := List.mem_map.mp hr
        exact ((a.out od h1).2.1.fit o1.stem).1
      · obtain ⟨od, h1, rfl⟩ := List.mem_map.mp hr
        exact ((a.out od h1).2.1.fit o1.stem).2
      · exact q r W1 W' bs os σ' ht hne a (o1.up (by omega)) u H5.drop.drop
  have rest : ks' ≠ [] → wexs X (run X (n + 45)) (n + 46) ((fBody (stm 122)).drop 2) (envOf (stm 122) ([("cx", .ref 27), ("bind", .ref bd), ("t", .int t), ("taken", .ref 84), ("parts", .ref pl)] : En)) (endQ Q) σ1 := fun hne =>
    r_truth_l (by walk_at "at") pz (IfB.f (by cases ks' with | nil => exact absurd rfl hne | cons _ _ => rfl) (body hne σ1 H1))
  refine r_truth_l (by walk_at "at") pz ?_
  by_cases hk : ks' = []
  · subst hk
    refine IfB.t rfl (r_truth_d (kvs := W.taken) (by walk_at "at") tz ?_)
    rw [te]
    have out : ∀ bs W1 σ2, (tk = [] → Step W [] (some false) false bs W1 ∧ Ok2 W1 (c + 1)) → (tk ≠ [] → W1 = W ∧ bs = []) → Is W1 ((pl, .lst []) :: L) σ2 → wexs X (run X (n + 45)) (n + 46) ((fBody (stm 122)).drop 2) (envOf (stm 122) ([("cx", .ref 27), ("bind", .ref bd), ("t", .int t), ("taken", .ref 84), ("parts", .ref pl)] : En)) (endQ Q) σ2 := fun bs W1 σ2 h1 h2 H2 =>
      r_truth_l (xs := []) (by walk_at "at") (l3 (by simp)) (IfB.t rfl (q0 bs W1 σ2 rfl h1 h2 H2.drop))
    cases hte : tk.isEmpty with
    | true =>
      have htk : tk = [] := by simpa using hte
      refine IfB.t rfl (IfB.t rfl ?_)
      walk_at "i"
      refine r_met (s_fault (b := false) (bs := []) H1 o.sz (by omega) (by rw [d0]; simp) (by rw [d0]; exact .nil) N fun bs W1 σ2 told H2 => ?_)
      exact out bs W1 σ2 (fun _ => ⟨told.step .nil, o.told told⟩) (fun h => absurd htk h) H2
    | false =>
      have htk : tk ≠ [] := fun h => by rw [h] at hte; cases hte
      exact IfB.f rfl (IfB.f rfl (out [] W σ1 (fun h => absurd h htk) (fun _ => ⟨rfl, rfl⟩) H1))
  · exact IfB.f (by cases ks' with | nil => exact absurd rfl hk | cons _ _ => rfl) (IfB.f rfl (rest hk))
end
section
variable {n : Nat} {W W' W'' : Wd} {L L' : List (Nat × MO)} {σ : Store} {l c : Nat}
noncomputable def Wd.ob (W : Wd) (o : List (Nat × MO)) : Wd := { W with obj := o ++ W.obj }
theorem Wd.ob_nil (W : Wd) : W.ob [] = W := rfl
theorem Wd.ob_ob (W : Wd) (o o' : List (Nat × MO)) : (W.ob o).ob o' = W.ob (o' ++ o) := by unfold Wd.ob; simp
theorem Wd.ob_up (W : Wd) (o : List (Nat × MO)) (p : Nat × MO) : (W.ob o).up p = W.ob (p :: o) := rfl
theorem Le.ob (W : Wd) (o : List (Nat × MO)) : Le W (W.ob o) := ⟨⟨[], by rw [List.append_nil]; rfl⟩, ⟨[], by rw [List.append_nil]; rfl⟩, ⟨[], by rw [List.append_nil]; rfl⟩, fun _ h => List.mem_append_right _ h, rfl, rfl⟩
theorem r_addl {l k : Nat} {xs ys : List FV} {Q : FV → Store → Prop} (H : Is W L σ) (h : σ[l]? = some (.lst xs)) (h' : σ[k]? = some (.lst ys)) (z : xs.length + ys.length ≤ 1000000) (q : ∀ m σ', Is W ((m, .lst (xs ++ ys)) :: L) σ' → Q (.ref m) σ') : RunT 1 (binM .Add (.ref l) (.ref k)) σ Q :=
  .mk (lookB h (lookB h' (On.mk (by rw [decide_eq_true z]; rfl) (q _ _ (H.new _)))))
/-- lists of names, by reference -/
inductive Pcs (W : Wd) : List FV → List (List PySem.Str) → Prop
  | nil : Pcs W [] []
  | cons {l : Nat} {p : List PySem.Str} {r : List FV} {ps : List (List PySem.Str)} : (l, MO.lst (p.map .str)) ∈ W.obj → Pcs W r ps → Pcs W (.ref l :: r) (p :: ps)
theorem Pcs.mono (h : ∀ p ∈ W.obj, p ∈ W'.obj) : ∀ {r : List FV} {ps : List (List PySem.Str)}, Pcs W r ps → Pcs W' r ps
  | _, _, .nil => .nil
  | _, _, .cons a q => .cons (h _ a) (q.mono h)
theorem Pcs.len : ∀ {r : List FV} {ps : List (List PySem.Str)}, Pcs W r ps → r.length = ps.length
  | _, _, .nil => rfl
  | _, _, .cons _ q => by simp [q.len]
theorem Pcs.get : ∀ {r : List FV} {ps : List (List PySem.Str)} {i : Nat} {x : FV}, Pcs W r ps → r[i]? = some x → ∃ l p, x = .ref l ∧ (l, MO.lst (p.map .str)) ∈ W.obj ∧ ps[i]? = some p
  | _, _, _, _, .nil, h => by simp at h
  | _, _, 0, _, .cons a q, h => by simp at h; subst h; exact ⟨_, _, rfl, a, rfl⟩
  | _, _, i + 1, _, .cons a q, h => by simp at h; obtain ⟨l, p, h1, h2, h3⟩ := q.get h; exact ⟨l, p, h1, h2, by simpa using h3⟩
theorem Pcs.app : ∀ {r r' : List FV} {ps ps' : List (List PySem.Str)}, Pcs W r ps → Pcs W r' ps' → Pcs W (r ++ r') (ps ++ ps')
  | _, _, _, _, .nil, q => q
  | _, _, _, _, .cons a p, q => .cons a (p.app q)
noncomputable def pcT (sh : Bool) (pcs : List (List PySem.Str)) (t : Tn) : List (List PySem.Str) :=
  if (sh && (decide (t.y % 6 = 3) || decide (t.y % 6 = 5))) = true then pcs else pcs.map (· ++ [t.nm]) ++ (if mayY t.y = 1 then pcs else [])
noncomputable def tB (rl : Nat) (sh : Bool) (tl : Nat) : En := [("rows", .ref rl), ("shut", .bool sh), ("taken", .ref 84), ("things", .ref tl)]
noncomputable def piS : Stmt := (fBody (stm 157)).getD 1 (.Pass ⟨0, 0, 0, 0⟩)
theorem s_pturn {t : Tn} {sh : Bool} {rl tl : Nat} {refs : List FV} {pcs : List (List PySem.Str)} {K : Fl → Lc → Store → Prop} (H : Is W ((tl, .lst refs) :: L) σ) (P : Pcs W refs pcs) (z : pcs.length ≤ 8) (zz : ∀ p ∈ pcs, p.length ≤ 3)
    (next : ∀ tl' refs' o σ' d, keepN (envOf (stm 157) (tB rl sh tl)) d = envOf (stm 157) (tB rl sh tl') → Pcs (W.ob o) refs' (pcT sh pcs t) → Is (W.ob o) ((tl', .lst refs') :: L) σ' → K .next d σ' ∧ K .cont d σ') :
    SomeP (bindTarget (forT piS) (rowY t.nm t.y) (envOf (stm 157) (tB rl sh tl))) fun c => wexs X (run X n) (n + 1) (forB piS) c K σ := by
  have l8 : ∀ {m : Nat}, m ≤ 8 → m ≤ lim := fun h => Nat.le_trans ‹_› (Nat.le_of_ble_eq_true rfl)
  let ex : En := [("name", .str t.nm), ("sort", .int ((t.y % 6 : Nat) : Int)), ("mask", .int (maskY t.y : Nat)), ("may", .int (mayY t.y))]
  have go : pcT sh pcs t = pcs.map (· ++ [t.nm]) ++ (if mayY t.y = 1 then pcs else []) → wexs X (run X n) (n + 1) ((forB piS).drop 1) (envOf (stm 157) (tB rl sh tl ++ ex)) K σ := fun e => by
    have zr : refs.length ≤ lim := l8 (by rw [P.len]; exact z)
    refine (r_itemsC_l (xs := refs) (by walk_at "at") zr ?_)
    refine comp_list (xs := refs) (P := fun i out σ' => i ≤ refs.length ∧ ∃ o, Pcs (W.ob o) out ((pcs.take i).map (· ++ [t.nm])) ∧ Is (W.ob o) ((tl, .lst refs) :: L) σ') (fun i out σ' K ⟨_, o, _, H1⟩ k => r_items_l (by walk_at "at") k) ?_ ?_ _ 0 _ _ ⟨by lia, [], .nil, H⟩ (Nat.zero_le _) (by lia)
    · rintro i x out σ1 K' ⟨hi, o, Po, H1⟩ hx next'
      obtain ⟨l, p, rfl, hl, hp⟩ := P.get hx
      have hpl := zz p (List.mem_of_getElem? hp)
      refine IfB.t rfl (r_alloc H1 fun k σ2 H2 => ?_)
      refine r_addl H2 (H2.obj l _ (List.mem_append_right _ hl)) (by walk_at "at") (by simp; lia) fun m σ3 H3 => ?_
      have H4 : Is (W.ob ((m, .lst (p.map .str ++ [.str t.nm])) :: o)) ((tl, .lst refs) :: L) σ3 := H3.snd.up
      refine ⟨l8 (by rw [Po.len, List.length_map, List.length_take]; lia), next' _ σ3 ⟨(List.getElem?_eq_some_iff.mp hx).1, _, ?_, H4⟩⟩
      rw [List.take_add_one, hp, List.map_append]
      exact (Po.mono fun p h => .tail _ h).app (.cons (by rw [List.map_append]; exact .head _) .nil)
    · rintro out σ1 ⟨_, o, Po, H1⟩
      rw [P.len, List.take_length] at Po
      have lo : out.length ≤ 8 := by rw [Po.len, List.length_map]; exact z
      refine r_alloc H1 fun ml σ2 H2 => ?_
      refine n_set (c' := envOf (stm 157) (tB rl sh tl ++ (ex ++ ([("more", .ref ml)] : En)))) rfl ?_
      refine r_cmp rfl ?_
      by_cases hm : mayY t.y = 1
      · refine IfB.t (by rw [hm]; rfl) (r_addl H2 (by walk_at "at") (by walk_at "at") (by have := P.len; lia) fun nl σ3 H3 => ?_)
        rw [e, if_pos hm] at next
        refine n_set (c' := envOf (stm 157) (tB rl sh nl ++ (ex ++ ([("more", .ref ml)] : En)))) rfl ?_
        exact (next nl _ o σ3 _ rfl (Po.app (P.mono fun p h => List.mem_append_right _ h)) H3.snd.snd).1
      · rw [e, if_neg hm, List.append_nil] at next
        refine IfB.f (by simpa using hm) (n_name rfl (n_set (c' := envOf (stm 157) (tB rl sh ml ++ (ex ++ ([("more", .ref ml)] : En)))) rfl ?_))
        exact (next ml _ o σ2 _ rfl Po H2.snd).1
  refine r_truth (v := .bool sh) (b := sh) rfl ?_
  cases sh with
  | false => exact IfB.f rfl (IfB.f rfl (go (by unfold pcT; rw [if_neg (by simp)])))
  | true =>
    refine IfB.t rfl (r_cmp rfl ?_)
    by_cases h3 : t.y % 6 = 3
    · refine IfB.t (by rw [h3]; rfl) (IfB.t rfl (IfB.t rfl ?_))
      have e : pcT true pcs t = pcs := by unfold pcT; rw [if_pos (by simp [h3])]
      rw [e] at next
      exact (next tl refs [] σ _ rfl P H).2
    · refine IfB.f (by simp; omega) (r_cmp rfl ?_)
      by_cases h5 : t.y % 6 = 5
      · refine IfB.t (by rw [h5]; rfl) (IfB.t rfl (IfB.t rfl ?_))
        have e : pcT true pcs t = pcs := by unfold pcT; rw [if_pos (by simp [h5])]
        rw [e] at next
        exact (next tl refs [] σ _ rfl P H).2
      · exact IfB.f (by simp; omega) (IfB.f rfl (IfB.f rfl (go (by unfold pcT; rw [if_neg (by simp [h3, h5])]))))
end
section
variable {n : Nat} {W W' W'' : Wd} {L L' : List (Nat × MO)} {σ : Store} {l c : Nat}
theorem Is.swap {a b : Nat × MO} (H : Is W (a :: b :: L) σ) : Is W (b :: a :: L) σ := by
  have pm : (b :: a :: L ++ W.obj).Perm (a :: b :: L ++ W.obj) := .swap a b _
  refine ⟨H.fix, H.core, H.obj, fun l o h => H.loc l o ?_, fun p h => H.ge p (pm.mem_iff.mp h), (pm.map (·.1)).nodup_iff.mpr H.nd⟩
  rcases List.mem_cons.mp h with h | h
  · exact h ▸ .tail _ (.head _)
  · rcases List.mem_cons.mp h with h | h
    · exact h ▸ .head _
    · exact .tail _ (.tail _ h)
noncomputable def live (ts : List Tn) : List Tn := ts.filter fun t => decide (t.y % 6 ≠ 0)
theorem rws_live : ∀ ts : List Tn, rws ts = (live ts).map fun t => rowY t.nm t.y
  | [] => rfl
  | t :: ts => by
    have ih := rws_live ts
    have e : rws (t :: ts) = t.row ++ rws ts := rfl
    rw [e, ih]
    unfold live Tn.row
    rw [List.filter_cons]
    by_cases h : t.y % 6 = 0 <;> simp [h]
noncomputable def pcF (sh : Bool) (ts : List Tn) : List (List PySem.Str) := ts.foldl (pcT sh) [[]]
theorem pcF_snoc {sh : Bool} {ts : List Tn} {t : Tn} : pcF sh (ts ++ [t]) = pcT sh (pcF sh ts) t := by unfold pcF; rw [List.foldl_append]; rfl
theorem pcF_len {sh : Bool} : ∀ (ts : List Tn) (a : List (List PySem.Str)), (ts.foldl (pcT sh) a).length ≤ 2 ^ ts.length * a.length
  | [], a => by simp
  | t :: ts, a => by
    have ih := pcF_len (sh := sh) ts (pcT sh a t)
    have : (pcT sh a t).length ≤ 2 * a.length := by
      unfold pcT
      split
      · omega
      · rw [List.length_append, List.length_map]
        split
        · lia
        · simp; omega
    rw [List.foldl_cons, List.length_cons, Nat.pow_succ, Nat.mul_assoc]
    exact Nat.le_trans ih (Nat.mul_le_mul_left _ this)
theorem pcF_in {sh : Bool} : ∀ (ts : List Tn) (a : List (List PySem.Str)) (m : Nat), (∀ p ∈ a, p.length ≤ m) → ∀ p ∈ ts.foldl (pcT sh) a, p.length ≤ ts.length + m
  | [], a, m, h, p, hp => by have := h p hp; simp; omega
  | t :: ts, a, m, h, p, hp => by
    have := pcF_in (sh := sh) ts (pcT sh a t) (m + 1) (fun p hp => by
      unfold pcT at hp
      split at hp
      · have := h p hp; omega
      · rcases List.mem_append.mp hp with hp | hp
        · obtain ⟨p', hp', rfl⟩ := List.mem_map.mp hp
          have := h p' hp'; simp; omega
        · split at hp
          · have := h p hp; omega
          · cases hp) p hp
    rw [List.length_cons]; lia
/-- the pieces with what is taken out -/
noncomputable def pcO (sh : Bool) (tk : List PySem.Str) (ts : List Tn) : List (List PySem.Str) := (pcF sh (live ts)).map fun p => p.filter fun s => decide (s ∉ tk)
theorem s_pieces {Q : FV → Store → Prop} {tk : List PySem.Str} {sh : Bool} {rl : Nat} {ts : List Tn} (H : Is W L σ) (K : TakenIs W tk) (hr : (rl, MO.lst (rws ts)) ∈ W.obj) (h3 : ts.length = 3)
    (q : ∀ l refs o σ', Pcs (W.ob o) refs (pcO sh tk ts) → Is (W.ob o) ((l, .lst refs) :: L) σ' → Q (.ref l) σ') : RunT 8 (run X (n + 20) (.st (.ref 1264)) [.ref rl, .bool sh, .ref 84]) σ Q := by
  have l8 : ∀ {m : Nat}, m ≤ 8 → m ≤ lim := fun h => Nat.le_trans ‹_› (Nat.le_of_ble_eq_true rfl)
  have ll : (live ts).length ≤ 3 := by rw [← h3]; exact List.length_filter_le _ _
  rw [rws_live] at hr
  refine r_go [("rows", .ref rl), ("shut", .bool sh), ("taken", .ref 84)] rfl rfl rfl ?_
  refine r_alloc H fun k σ1 H1 => r_alloc H1 fun tl σ2 H2 => ?_
  refine n_set (c' := envOf (stm 157) (tB rl sh tl)) rfl ?_
  have H3 : Is (W.ob [(k, .lst [])]) ((tl, .lst [.ref k]) :: L) σ2 := H2.swap.up
  refine r_items_l (H3.obj rl _ (.tail _ hr)) ?_
  refine for_env (t := forT piS) (body := forB piS) (xs := (live ts).map fun t => rowY t.nm t.y) (nm := (fScope (stm 157)).names) (R := fun _ _ => False)
    (Inv := fun i e σ' => ∃ tl refs o, e = tB rl sh tl ∧ Pcs (W.ob o) refs (pcF sh ((live ts).take i)) ∧ Is (W.ob o) ((tl, .lst refs) :: L) σ')
    (fun i e σ K ⟨tl, refs, o, _, _, H4⟩ k => r_items_l (H4.obj rl _ (List.mem_append_right _ hr)) k) ?_ ?_ (fun r d σ h => h.elim) (n + 20) 0 σ2 _ ⟨tl, _, _, rfl, .cons (.head _) .nil, H3⟩ (Nat.zero_le _) (by rw [List.length_map]; lia)
  · rintro i y e σ3 K' ⟨tl, refs, o, rfl, P, H4⟩ hy next ret
    rw [List.getElem?_map] at hy
    cases hx : (live ts)[i]? with
    | none => rw [hx] at hy; cases hy
    | some t =>
      rw [hx] at hy
      have hy : y = rowY t.nm t.y := by simpa using hy.symm
      subst hy
      have hi := (List.getElem?_eq_some_iff.mp hx).1
      have z1 := pcF_len (sh := sh) ((live ts).take i) [[]]
      have z2 := pcF_in (sh := sh) ((live ts).take i) [[]] 0 (by simp)
      rw [List.length_take] at z1 z2
      have p2 : 2 ^ min i (live ts).length ≤ 2 ^ 2 := Nat.pow_le_pow_right (by decide) (by omega)
      refine s_pturn H4 P (Nat.le_trans z1 (by simp only [List.length_singleton, Nat.mul_one]; lia)) (fun p hp => Nat.le_trans (z2 p hp) (by omega)) fun tl' refs' o' σ' d hd P' H5 => ?_
      rw [Wd.ob_ob] at P' H5
      rw [← pcF_snoc] at P'
      have e : (live ts).take (i + 1) = (live ts).take i ++ [t] := by rw [List.take_add_one, hx]; rfl
      exact next (tB rl sh tl') d σ' ⟨tl', refs', o' ++ o, rfl, by rw [e]; exact P', H5⟩ hd
  · rintro e σ3 ⟨tl, refs, o, rfl, P, H4⟩
    rw [List.length_map, List.take_length] at P
    have z1 := pcF_len (sh := sh) (live ts) [[]]
    have z2 := pcF_in (sh := sh) (live ts) [[]] 0 (by simp)
    have p2 : 2 ^ (live ts).length ≤ 2 ^ 3 := Nat.pow_le_pow_right (by decide) (by omega)
    have z3 : (pcF sh (live ts)).length ≤ 8 := Nat.le_trans z1 (by simp only [List.length_singleton, Nat.mul_one]; omega)
    unfold pcO at q
    unfold pcF at q P z3
    generalize (live ts).foldl (pcT sh) [[]] = pcs at q P z3 z2
    have zr : refs.length ≤ 8 := by rw [P.len]; exact z3
    refine (r_itemsC_l (xs := refs) (by walk_at "at") (l8 zr) ?_)
    refine comp_list (xs := refs) (P := fun i out σ' => i ≤ refs.length ∧ ∃ o', Pcs (W.ob o') out ((pcs.take i).map fun p => p.filter fun s => decide (s ∉ tk)) ∧ Pcs (W.ob o') refs pcs ∧ Is (W.ob o') ((tl, .lst refs) :: L) σ') (fun i out σ' K ⟨_, o', _, _, H5⟩ k => r_items_l (by walk_at "at") k) ?_ ?_ _ 0 _ _ ⟨by lia, o, .nil, P, H4⟩ (Nat.zero_le _) (by lia)
    · rintro i x out σ4 K' ⟨hi, o', Po, P', H5⟩ hx next'
      obtain ⟨l, p, rfl, hl, hp⟩ := P'.get hx
      have hpl : p.length ≤ 8 := by have := z2 p (List.mem_of_getElem? hp); lia
      have zp : (p.map FV.str).length ≤ lim := l8 (by rw [List.length_map]; exact hpl)
      have ok : (l, MO.lst (p.map .str)) ∈ (W.ob o').obj := hl
      refine IfB.t rfl (r_itemsC_l (xs := p.map .str) (H5.obj l _ ok) zp ?_)
      refine comp_pick (xs := p.map FV.str) (g := fun x => match x with
        | .str s => if s ∈ tk then none else some x
        | _ => none) (fun K k => r_items_l (H5.obj l _ ok) k) (fun x hx out' K'' hl' k => ?_) ?_ _ (by lia)
      · obtain ⟨s, _, rfl⟩ := List.mem_map.mp hx
        have gt : kvGet (.str s) W.taken = some (if s ∈ tk then some (.int 1) else none) := by rw [K.1]; unfold kvGet; rw [if_pos taken_homog, taken_find]
        have k : K'' (out' ++ (if s ∈ tk then none else some (FV.str s)).toList) σ4 := k
        refine r_nin_d (kvs := W.taken) (H5.core 84 _ rfl) gt ?_
        by_cases h : s ∈ tk
        · rw [if_pos h] at k ⊢
          exact IfB.f rfl (IfB.f rfl (by simpa using k))
        · rw [if_neg h] at k ⊢
          refine IfB.t rfl (IfB.t rfl ?_)
          exact ⟨Nat.le_trans hl' zp, k⟩
      have e1 : ∀ p : List PySem.Str, (p.map FV.str).filterMap (fun x => match x with
        | .str s => if s ∈ tk then none else some x
        | _ => none) = (p.filter fun s => decide (s ∉ tk)).map FV.str := by
        intro p
        induction p with
        | nil => rfl
        | cons s p ih =>
          rw [List.map_cons, List.filter_cons]
          by_cases h : s ∈ tk
          · rw [List.filterMap_cons_none (by simp [h]), ih, if_neg (by simpa using h)]
          · rw [List.filterMap_cons_some (b := .str s) (by simp [h]), ih, if_pos (by simpa using h)]; rfl
      rw [e1]
      refine r_alloc H5 fun m σ5 H6 => ?_
      have H7 : Is (W.ob ((m, .lst ((p.filter fun s => decide (s ∉ tk)).map .str)) :: o')) ((tl, .lst refs) :: L) σ5 := H6.up
      refine ⟨l8 (by rw [Po.len, List.length_map, List.length_take]; omega), next' _ σ5 ⟨(List.getElem?_eq_some_iff.mp hx).1, _, ?_, P'.mono fun p h => .tail _ h, H7⟩⟩
      rw [List.take_add_one, hp, List.map_append]
      exact (Po.mono fun p h => .tail _ h).app (.cons (.head _) .nil)
    · rintro out σ4 ⟨_, o', Po, _, H5⟩
      rw [P.len, List.take_length] at Po
      exact r_alloc H5 fun l σ5 H6 => q l out o' σ5 Po H6.snd
end
section
variable {n : Nat} {W W' W'' : Wd} {L L' : List (Nat × MO)} {σ : Store} {l c : Nat}
theorem hk_strs {n : Nat} : ∀ (ss : List PySem.Str), hkL n (ss.map .str) = true
  | [] => by cases n <;> rfl
  | s :: ss => by
    show (hkT n (.str s) && hkL n (ss.map .str)) = true
    rw [hk_strs ss]; cases n <;> rfl
theorem mem_str {x : PySem.Str} {ys : List PySem.Str} : memL (.str x) (ys.map .str) = some (decide (x ∈ ys)) := by
  unfold memL
  rw [if_pos (by rw [hk_strs]; rfl)]
  congr 1
  induction ys with
  | nil => rfl
  | cons y ys ih =>
    rw [List.map_cons, List.any_cons, ih, eqF_str]
    by_cases e : x = y
    · subst e; simp
    · have : ¬ y = x := fun h => e h.symm
      simp [this, e]
noncomputable def cnt (pcs : List (List PySem.Str)) (nm : PySem.Str) : Nat := (pcs.filter fun p => decide (nm ∈ p)).length
noncomputable def rowR (pcs : List (List PySem.Str)) (t : Tn) : List FV :=
  if 0 < cnt pcs t.nm ∧ t.y % 6 ≠ 4 then [.tup [.str t.nm, .int (maskY t.y : Nat), .int ((if cnt pcs t.nm < pcs.length then 1 else 0) + (if t.y % 6 = 3 then 4 else 0)), .int 0]] else []
noncomputable def rB (one tx dg : FV) (rl : Nat) (sh : Bool) (pl ol : Nat) : En := [("one", one), ("taken", .ref 84), ("rows", .ref rl), ("shut", .bool sh), ("texts", tx), ("digits", dg), ("pieces", .ref pl), ("out", .ref ol)]
noncomputable def reS : Stmt := (fBody (stm 158)).getD 3 (.Pass ⟨0, 0, 0, 0⟩)
theorem s_rturn {t : Tn} {one tx dg : FV} {sh : Bool} {rl pl ol : Nat} {refs out : List FV} {pcs : List (List PySem.Str)} {K : Fl → Lc → Store → Prop} (H : Is W ((ol, .lst out) :: L) σ) (P : Pcs W refs pcs) (hp : (pl, MO.lst refs) ∈ W.obj) (z : pcs.length ≤ 8) (zo : out.length ≤ 3)
    (next : ∀ σ' d, keepN (envOf (stm 158) (rB one tx dg rl sh pl ol)) d = envOf (stm 158) (rB one tx dg rl sh pl ol) → Is W ((ol, .lst (out ++ rowR pcs t)) :: L) σ' → K .next d σ') :
    SomeP (bindTarget (forT reS) (rowY t.nm t.y) (envOf (stm 158) (rB one tx dg rl sh pl ol))) fun c => wexs X (run X (n + 1)) (n + 2) (forB reS) c K σ := by
  have l8 : ∀ {m : Nat}, m ≤ 8 → m ≤ lim := fun h => Nat.le_trans ‹_› (Nat.le_of_ble_eq_true rfl)
  let ex : En := [("name", .str t.nm), ("sort", .int ((t.y % 6 : Nat) : Int)), ("mask", .int (maskY t.y : Nat)), ("may", .int (mayY t.y)), ("count", .int (cnt pcs t.nm : Nat))]
  have zr : refs.length ≤ 8 := by rw [P.len]; exact z
  have go : ∀ σ1, Is W ((ol, .lst out) :: L) σ1 → wexs X (run X (n + 1)) (n + 2) ((forB reS).drop 1) (envOf (stm 158) (rB one tx dg rl sh pl ol ++ ex)) K σ1 := fun σ1 H1 => by
    unfold rowR at next
    refine r_cmp (a := .int (cnt pcs t.nm : Nat)) (k := decide ((0 : Int) < (cnt pcs t.nm : Nat))) rfl ?_
    by_cases h0 : 0 < cnt pcs t.nm
    · refine IfB.t (by simp; omega) (r_cmp rfl ?_)
      by_cases h4 : t.y % 6 = 4
      · rw [if_neg (by simp [h4]), List.append_nil] at next
        exact IfB.f (by rw [h4]; rfl) (IfB.f rfl (next σ1 _ rfl H1))
      · refine IfB.t (by simp; omega) (IfB.t rfl ?_)
        rw [if_pos ⟨h0, h4⟩] at next
        have fin : ∀ (fl : Int) (Q' : Fl → Lc → Store → Prop), fl = (if cnt pcs t.nm < pcs.length then 1 else 0) + (if t.y % 6 = 3 then 4 else 0) → (∀ σ, K .next (envOf (stm 158) (rB one tx dg rl sh pl ol ++ ex)) σ → Q' .next (envOf (stm 158) (rB one tx dg rl sh pl ol ++ (ex ++ ([("flags", .int fl)] : En)))) σ) →
            wexs X (run X (n + 1)) (n + 2) ((thenB ((forB reS).getD 1 (.Pass ⟨0, 0, 0, 0⟩))).drop 1) (envOf (stm 158) (rB one tx dg rl sh pl ol ++ (ex ++ ([("flags", .int fl)] : En)))) Q' σ1 := fun fl Q' e k => by
          refine r_cal_l (by walk_at "at") (r_appL H1 .here (l8 (by lia)) fun σ2 H2 => ?_)
          exact k σ2 (next σ2 _ rfl (by rw [← e]; exact H2))
        refine r_len_l (xs := refs) (H1.obj pl _ hp) (l8 zr) (r_cmp rfl ?_)
        rw [P.len]
        by_cases h1 : cnt pcs t.nm < pcs.length
        · rw [if_pos h1] at fin
          refine IfB.t (by simp; omega) (r_cmp rfl ?_)
          by_cases h3 : t.y % 6 = 3
          · rw [if_pos h3] at fin
            refine IfB.t (by rw [h3]; rfl) (r_bin rfl ?_)
            exact n_set (c' := envOf (stm 158) (rB one tx dg rl sh pl ol ++ (ex ++ ([("flags", .int (1 + 4))] : En)))) rfl (fin (1 + 4) _ rfl fun σ h => h)
          · rw [if_neg h3] at fin
            refine IfB.f (by simp; omega) (r_bin rfl ?_)
            exact n_set (c' := envOf (stm 158) (rB one tx dg rl sh pl ol ++ (ex ++ ([("flags", .int (1 + 0))] : En)))) rfl (fin (1 + 0) _ rfl fun σ h => h)
        · rw [if_neg h1] at fin
          refine IfB.f (by simp; omega) (r_cmp rfl ?_)
          by_cases h3 : t.y % 6 = 3
          · rw [if_pos h3] at fin
            refine IfB.t (by rw [h3]; rfl) (r_bin rfl ?_)
            exact n_set (c' := envOf (stm 158) (rB one tx dg rl sh pl ol ++ (ex ++ ([("flags", .int (0 + 4))] : En)))) rfl (fin (0 + 4) _ rfl fun σ h => h)
          · rw [if_neg h3] at fin
            refine IfB.f (by simp; omega) (r_bin rfl ?_)
            exact n_set (c' := envOf (stm 158) (rB one tx dg rl sh pl ol ++ (ex ++ ([("flags", .int (0 + 0))] : En)))) rfl (fin (0 + 0) _ rfl fun σ h => h)
    · rw [if_neg (fun h => h0 h.1), List.append_nil] at next
      exact IfB.f (by simp; lia) (IfB.f rfl (next σ1 _ rfl H1))
  refine (r_itemsC_l (xs := refs) (H.obj pl _ hp) (l8 zr) ?_)
  refine comp_list (xs := refs) (P := fun i o σ' => σ' = σ ∧ i ≤ refs.length ∧ o.length = cnt (pcs.take i) t.nm) (fun i o σ' K ⟨e, _⟩ k => by subst e; exact r_items_l (H.obj pl _ hp) k) ?_ ?_ _ 0 _ _ ⟨rfl, by lia, rfl⟩ (Nat.zero_le _) (by lia)
  · rintro i x o σ' K' ⟨rfl, hi, ho⟩ hx next'
    obtain ⟨l, p, rfl, hl, hpp⟩ := P.get hx
    have hi := (List.getElem?_eq_some_iff.mp hx).1
    have e : cnt (pcs.take (i + 1)) t.nm = cnt (pcs.take i) t.nm + (if t.nm ∈ p then 1 else 0) := by
      unfold cnt
      rw [List.take_add_one, hpp, List.filter_append, List.length_append]
      by_cases h : t.nm ∈ p <;> simp [h]
    refine r_in_l (H.obj l _ hl) mem_str ?_
    by_cases h : t.nm ∈ p
    · rw [if_pos h] at e
      refine IfB.t (by simpa using h) (IfB.t rfl ?_)
      refine ⟨l8 ?_, next' _ _ ⟨rfl, by omega, by rw [e, ← ho]; simp⟩⟩
      rw [ho]
      refine Nat.le_trans (List.length_filter_le _ _) ?_
      rw [List.length_take]; lia
    · rw [if_neg h] at e
      exact IfB.f (by simpa using h) (IfB.f rfl (next' _ _ ⟨rfl, by omega, by rw [e, ← ho]; simp⟩))
  · rintro o σ' ⟨rfl, _, ho⟩
    rw [P.len, List.take_length] at ho
    have zo' : o.length ≤ 8 := by rw [ho]; exact Nat.le_trans (List.length_filter_le _ _) z
    refine r_alloc H fun k σ1 H1 => ?_
    refine r_len_l (xs := o) (by walk_at "at") (l8 zo') ?_
    rw [ho]
    exact n_set (c' := envOf (stm 158) (rB one tx dg rl sh pl ol ++ ex)) rfl (go σ1 H1.drop)
end
section
variable {n : Nat} {W W' W'' : Wd} {L L' : List (Nat × MO)} {σ : Store} {l c : Nat}
noncomputable def outR (sh : Bool) (tk : List PySem.Str) (ts : List Tn) : List FV := ((live ts).map (rowR (pcO sh tk ts))).flatten
theorem rowsR_len {pcs : List (List PySem.Str)} : ∀ ts : List Tn, ((ts.map (rowR pcs)).flatten).length ≤ ts.length
  | [] => Nat.le_refl _
  | t :: ts => by
    have ih := rowsR_len (pcs := pcs) ts
    have : (rowR pcs t).length ≤ 1 := by unfold rowR; split <;> simp
    rw [List.map_cons, List.flatten_cons, List.length_append, List.length_cons]
    lia
theorem s_lrest {Q : FV → Store → Prop} {tk : List PySem.Str} {h rl t : Nat} {ts : List Tn} (H : Is W L σ) (K : TakenIs W tk) (hr : (rl, MO.lst (rws ts)) ∈ W.obj) (h3 : ts.length = 3)
    (q : ∀ o σ', Is (W.ob o) L σ' → Q (.tup [.tup (outR (shutH h) tk ts), lidH h 3, lidH h 4]) σ') : RunT 8 (run X (n + 21) (.st (.ref 1269)) [oneF h rl t, .ref 84]) σ Q := by
  have l8 : ∀ {m : Nat}, m ≤ 8 → m ≤ lim := fun h => Nat.le_trans ‹_› (Nat.le_of_ble_eq_true rfl)
  have ll : (live ts).length ≤ 3 := by rw [← h3]; exact List.length_filter_le _ _
  refine r_go [("one", oneF h rl t), ("taken", .ref 84)] rfl rfl rfl ?_
  refine r_item (v := .tup [.ref rl, .bool (shutH h), lidH h 3, lidH h 4]) rfl ?_
  refine s_pieces H K hr h3 fun pl refs o σ1 P H1 => ?_
  have H2 : Is (W.ob ((pl, .lst refs) :: o)) L σ1 := H1.up
  refine r_alloc H2 fun ol σ2 H3 => ?_
  refine n_set (c' := envOf (stm 158) (rB (oneF h rl t) (lidH h 3) (lidH h 4) rl (shutH h) pl ol)) rfl ?_
  have hr' : (rl, MO.lst ((live ts).map fun t => rowY t.nm t.y)) ∈ (W.ob ((pl, .lst refs) :: o)).obj := by rw [← rws_live]; exact List.mem_append_right _ hr
  have P' : Pcs (W.ob ((pl, .lst refs) :: o)) refs (pcO (shutH h) tk ts) := P.mono fun p h => .tail _ h
  have z : (pcO (shutH h) tk ts).length ≤ 8 := by
    unfold pcO pcF
    rw [List.length_map]
    refine Nat.le_trans (pcF_len (live ts) [[]]) ?_
    have p2 : 2 ^ (live ts).length ≤ 2 ^ 3 := Nat.pow_le_pow_right (by decide) (by omega)
    simpa using p2
  unfold outR at q
  generalize pcO (shutH h) tk ts = pcs at q P' z
  clear P
  generalize hW : W.ob ((pl, .lst refs) :: o) = W1 at H2 H3 hr' P'
  have hp : (pl, MO.lst refs) ∈ W1.obj := by rw [← hW]; exact .head _
  refine r_items_l (H3.obj rl _ hr') ?_
  refine for_env (t := forT reS) (body := forB reS) (xs := (live ts).map fun t => rowY t.nm t.y) (nm := (fScope (stm 158)).names) (R := fun _ _ => False)
    (Inv := fun i e σ' => e = rB (oneF h rl t) (lidH h 3) (lidH h 4) rl (shutH h) pl ol ∧ Is W1 ((ol, .lst ((((live ts).take i).map (rowR pcs)).flatten)) :: L) σ')
    (fun i e σ K ⟨_, H4⟩ k => r_items_l (H4.obj rl _ hr') k) ?_ ?_ (fun r d σ h => h.elim) (n + 21) 0 σ2 _ ⟨rfl, H3⟩ (Nat.zero_le _) (by rw [List.length_map]; lia)
  · rintro i y e σ3 K' ⟨rfl, H4⟩ hy next ret
    rw [List.getElem?_map] at hy
    cases hx : (live ts)[i]? with
    | none => rw [hx] at hy; cases hy
    | some t' =>
      rw [hx] at hy
      have hy : y = rowY t'.nm t'.y := by simpa using hy.symm
      subst hy
      have e : (live ts).take (i + 1) = (live ts).take i ++ [t'] := by rw [List.take_add_one, hx]; rfl
      refine s_rturn H4 P' hp z (Nat.le_trans (rowsR_len _) (by rw [List.length_take]; lia)) fun σ' d hd H5 => ?_
      refine (next _ d σ' ⟨rfl, ?_⟩ hd).1
      rw [e, List.map_append, List.flatten_append]
      simpa using H5
  · rintro e σ3 ⟨rfl, H4⟩
    rw [List.length_map, List.take_length] at H4
    have zo : ((((live ts).map (rowR pcs)).flatten)).length ≤ lim := l8 (Nat.le_trans (rowsR_len _) (by lia))
    refine r_tuple_l (by walk_at "at") zo ?_
    exact q ((pl, .lst refs) :: o) σ3 (by rw [hW]; exact H4.drop)
end
section
variable {n : Nat} {W W' W'' : Wd} {L L' : List (Nat × MO)} {σ : Store} {l c : Nat}
/-- the parts of an id, read off the table -/
noncomputable def natI (x : FV) : Option Nat := (intOf x).map Int.toNat
noncomputable def sixO (r : FV) : Option (List FV) := ((itemV r (.int 0)).bind intOf).bind fun k => if k = 6 then (itemV r (.int 1)).bind tupOf else none
noncomputable def partsF (W : Wd) (t : Nat) : List Nat := if t = 2 then [] else ((W.rows[t]?).bind sixO).elim [t] (·.filterMap natI)
theorem ids_back : ∀ ks : List Nat, (idsF ks).filterMap natI = ks
  | [] => rfl
  | k :: ks => by
    have ih := ids_back ks
    unfold idsF at ih ⊢
    rw [List.map_cons, List.filterMap_cons_some (show natI (.int (k : Int)) = some k from rfl), ih]
theorem PartsOf.eq {t : Nat} {ks : List Nat} (p : PartsOf W t ks) : partsF W t = ks := by
  unfold partsF
  cases p with
  | never h e => rw [if_pos h, e]
  | one k I e =>
    rw [if_neg I.never, e]
    obtain ⟨⟨r, h1, h2⟩, _⟩ := I
    rw [h1]
    have e6 : sixO r = none := by unfold sixO; rw [h2.1]; exact if_neg h2.2.1
    show (sixO r).elim [t] _ = _
    rw [e6]; rfl
  | many h hr =>
    rw [if_neg h, hr]
    exact ids_back ks
noncomputable def mskW (W : Wd) (k : Int) : Int := maskOf (partsF W k.toNat)
theorem KindIs.eq {r m : Nat} (k : KindIs W r m) : mskW W (r : Int) = m := by
  obtain ⟨ks, p, _, e⟩ := k
  unfold mskW
  rw [Int.toNat_natCast, p.eq, e]
/-- what means a mask -/
noncomputable def Mk (W : Wd) (k : Int) : Prop := ∃ r m : Nat, k = (r : Int) ∧ KindIs W r m
theorem s_maskK {Q : FV → Store → Prop} {k : Int} (H : Is W L σ) (z : W.rows.length ≤ lim) (M : Mk W k) (q : Q (.int (mskW W k)) σ) : RunT 8 (run X (n + 40) (.st (.ref 1233)) [.ref 5, .ref 17, .int k]) σ Q := by
  obtain ⟨r, m, rfl, ks, p, l, e⟩ := M
  refine s_mask H z p l ?_
  unfold mskW at q
  rw [Int.toNat_natCast, p.eq] at q
  exact q
/-- a cell: none, or a kind and a flag -/
inductive Cell (W : Wd) : FV → FV → Prop
  | no : Cell W (.tup []) (.tup [])
  | is {k r : Int} : Mk W k → Cell W (.tup [.int k, .int r]) (.tup [.int (mskW W k), .int r])
noncomputable def prM (W : Wd) (p : Pr) : FV := .tup [.str p.nm, .int (mskW W p.k), .int p.fl, .int p.pv]
theorem s_mshape {Q : FV → Store → Prop} {r : Nat} {ps : List Pr} {s m s' m' : FV} (H : Is W L σ) (z : W.rows.length ≤ lim) (hr : W.rows[r]? = some (objRow ps (.tup []) (.tup []) s m)) (h3 : ps.length ≤ 3) (hp : ∀ p ∈ ps, Mk W p.k) (hs : Cell W s s') (hm : Cell W m m')
    (q : ∀ σ', Is W L σ' → Q (.tup [.tup (ps.map (prM W)), s', m']) σ') : RunT 8 (run X (n + 41) (.st (.ref 1274)) [.ref 5, .ref 17, .int r]) σ Q := by
  have l3 : ∀ {m : Nat}, m ≤ 3 → m ≤ lim := fun h => Nat.le_trans ‹_› (Nat.le_of_ble_eq_true rfl)
  let b : En := [("tab", .ref 5), ("known", .ref 17), ("t", .int r), ("row", objRow ps (.tup []) (.tup []) s m)]
  refine r_go [("tab", .ref 5), ("known", .ref 17), ("t", .int r)] rfl rfl rfl ?_
  walk_at "a"
  refine r_item_l (by walk_at "at") (row_at hr z) (n_set (c' := envOf (stm 159) b) rfl ?_)
  refine r_item (v := .int 8) rfl (r_cmp rfl (IfB.f rfl ?_))
  refine r_slice_t (ys := [.tup [], .tup []]) rfl (r_cmp rfl (IfB.f rfl ?_))
  refine r_item (v := .int 0) rfl (r_cmp rfl (IfB.f rfl (IfB.f rfl ?_)))
  refine (r_item (v := .tup (ps.map Pr.f)) rfl (r_itemsC rfl (l3 (by rw [List.length_map]; exact h3)) ?_))
  refine comp_list (xs := ps.map Pr.f) (P := fun i out σ' => σ' = σ ∧ out = (ps.take i).map (prM W)) (fun i out σ' K _ k => r_items rfl k) ?_ ?_ _ 0 _ _ ⟨rfl, rfl⟩ (Nat.zero_le _) (by lia)
  · rintro i x out σ' K' ⟨rfl, rfl⟩ hx next
    rw [List.getElem?_map] at hx
    cases hy : ps[i]? with
    | none => rw [hy] at hx; cases hx
    | some p =>
      rw [hy] at hx
      have hx : x = p.f := by simpa using hx.symm
      subst hx
      refine IfB.t rfl (r_item (v := .str p.nm) rfl (r_item (v := .int p.k) rfl (s_maskK H z (hp p (List.mem_of_getElem? hy)) (r_item (v := .int p.fl) rfl (r_item (v := .int p.pv) rfl ?_)))))
      refine ⟨l3 (by rw [List.length_map, List.length_take]; omega), next _ _ ⟨rfl, ?_⟩⟩
      rw [List.take_add_one, hy, List.map_append]; rfl
  · rintro out σ' ⟨rfl, rfl⟩
    rw [List.length_map, List.take_length]
    refine r_alloc H fun pl σ1 H1 => ?_
    refine r_tuple_l (by walk_at "at") (l3 (by rw [List.length_map]; exact h3)) ?_
    refine n_set (c' := envOf (stm 159) (b ++ ([("props", .tup (ps.map (prM W)))] : En))) rfl ?_
    refine (r_slice_t (ys := [s, m]) rfl (r_itemsC rfl (by walk_at "z") ?_))
    refine comp_list (xs := [s, m]) (P := fun i out σ' => σ' = σ1 ∧ i ≤ 2 ∧ out = ([s', m'] : List FV).take i) (fun i out σ' K _ k => r_items rfl k) ?_ ?_ _ 0 _ _ ⟨rfl, by lia, rfl⟩ (Nat.zero_le _) (by grind)
    · rintro i x out σ' K' ⟨rfl, hi2, rfl⟩ hx next
      have hi : i < 2 := (List.getElem?_eq_some_iff.mp hx).1
      obtain ⟨x', hc, ht⟩ : ∃ x', Cell W x x' ∧ ([s', m'] : List FV).take (i + 1) = ([s', m'] : List FV).take i ++ [x'] := by
        rcases (show i = 0 ∨ i = 1 by lia) with rfl | rfl
        · cases hx; exact ⟨s', hs, rfl⟩
        · cases hx; exact ⟨m', hm, rfl⟩
      have ol : (([s', m'] : List FV).take i).length ≤ lim := l3 (by rw [List.length_take]; lia)
      refine IfB.t rfl ?_
      cases hc with
      | no => exact r_cmp rfl (IfB.f rfl ⟨ol, next _ _ ⟨rfl, by assumption, ht.symm⟩⟩)
      | @is k r M =>
        refine r_cmp rfl (IfB.t rfl (r_item (v := .int k) rfl (s_maskK H1 z M (r_item (v := .int r) rfl ?_))))
        exact ⟨ol, next _ _ ⟨rfl, by assumption, ht.symm⟩⟩
    · rintro out σ' ⟨rfl, _, rfl⟩
      refine r_alloc H1 fun cl σ2 H2 => ?_
      refine r_item_l (xs := [s', m']) (v := s') (by walk_at "at") rfl (r_item_l (xs := [s', m']) (v := m') (by walk_at "at") rfl ?_)
      exact q σ2 H2.drop.drop
theorem s_pshape {Q : FV → Store → Prop} {r p : Nat} (H : Is W L σ) (z : W.rows.length ≤ lim) (hr : W.rows[r]? = some (.tup [.int 10, .int p])) (q : Q (.tup [.tup [.tup [.str ⟨#[]⟩, .int r, .int 0, .int 0]], .tup [], .tup []]) σ) : RunT 8 (run X (n + 41) (.st (.ref 1274)) [.ref 5, .ref 17, .int r]) σ Q := by
  refine r_go [("tab", .ref 5), ("known", .ref 17), ("t", .int r)] rfl rfl rfl ?_
  walk_at "a"
  refine r_item_l (by walk_at "at") (row_at hr z) (r_item (v := .int 10) rfl (r_cmp rfl (IfB.t rfl (IfB.t rfl ?_))))
  exact q
end
section
variable {n : Nat} {W W' W'' : Wd} {L L' : List (Nat × MO)} {σ : Store} {l c : Nat}
mutual
theorem hk_up : ∀ (n : Nat) (a : FV), hkT n a = true → hkT (n + 1) a = true
  | n, .int _, _ => by cases n <;> rfl
  | n, .str _, _ => by cases n <;> rfl
  | 0, .tup _, h => by cases h
  | n + 1, .tup xs, h => hkL_up n xs h
  | n, .none, h | n, .bool _, h | n, .rng _ _, h | n, .ref _, h | n, .st _, h => by cases n <;> cases h
theorem hkL_up : ∀ (n : Nat) (xs : List FV), hkL n xs = true → hkL (n + 1) xs = true
  | _, [], _ => rfl
  | n, x :: xs, h => by
    have h : (hkT n x && hkL n xs) = true := h
    rw [Bool.and_eq_true] at h
    show (hkT (n + 1) x && hkL (n + 1) xs) = true
    rw [hk_up n x h.1, hkL_up n xs h.2]; rfl
end
/-- what may be sorted -/
structure Srt (xs : List FV) : Prop where
  hk : ∀ x ∈ xs, hkT 6 x = true
  like : ∀ x ∈ xs, ∀ y ∈ xs, likeT x y = true
  first : ∃ k, (k = 1 ∨ k = 2 ∨ k = 3) ∧ ∀ x ∈ xs, firstK x = k
theorem Srt.sub {xs ys : List FV} (s : Srt xs) (h : ∀ y ∈ ys, y ∈ xs) : Srt ys := let ⟨k, hk, hf⟩ := s.first; ⟨fun y hy => s.hk y (h y hy), fun y hy z hz => s.like y (h y hy) z (h z hz), k, hk, fun y hy => hf y (h y hy)⟩
theorem hkL_of {n : Nat} : ∀ {xs : List FV}, (∀ x ∈ xs, hkT n x = true) → hkL n xs = true
  | [], _ => rfl
  | x :: xs, h => by
    show (hkT n x && hkL n xs) = true
    rw [h x (.head _), hkL_of fun y hy => h y (.tail _ hy)]; rfl
/-- not below what came before -/
noncomputable def Weak (xs : List FV) : Prop := xs.Pairwise fun a b => ltF b a = false
noncomputable def Strict (xs : List FV) : Prop := xs.Pairwise fun a b => ltF a b = true
theorem lt_or {a b : FV} (ha : hkT 6 a = true) (hb : hkT 6 b = true) (l : likeT a b = true) (h : ltF b a = false) : eqF a b = true ∨ ltF a b = true := by
  cases h' : ltF a b with
  | true => exact .inr rfl
  | false => exact .inl (ltF_tri ha hb l h' h)
theorem le_trans {a b d : FV} (ha : hkT 6 a = true) (hb : hkT 6 b = true) (hd : hkT 6 d = true) (l1 : likeT a b = true) (l2 : likeT b d = true) (h1 : ltF b a = false) (h2 : ltF d b = false) : ltF d a = false := by
  rcases lt_or ha hb l1 h1 with e | e
  · rw [eqF_eq _ _ e]; exact h2
  · rcases lt_or hb hd l2 h2 with e' | e'
    · rw [← eqF_eq _ _ e']; exact h1
    · exact ltF_asymm ha hd (ltF_trans ha hb hd e e')
theorem ltT_eq {x y : FV} (hx : hkT 6 x = true) (hy : hkT 6 y = true) (l : likeT x y = true) : ltT x y = some (ltF x y) := by
  unfold ltT
  rw [if_pos (by rw [hk_up _ _ hx, hk_up _ _ hy, l]; rfl)]
theorem insT_w {x : FV} : ∀ {l : List FV}, Srt (x :: l) → Weak l → ∃ l', insT x l = some l' ∧ l'.Perm (x :: l) ∧ Weak l'
  | [], _, _ => ⟨[x], rfl, .refl _, List.pairwise_singleton _ _⟩
  | y :: ys, s, w => by
    have hx := s.hk x (.head _)
    have hy := s.hk y (.tail _ (.head _))
    have lt := ltT_eq hx hy (s.like x (.head _) y (.tail _ (.head _)))
    unfold Weak at w
    rw [List.pairwise_cons] at w
    rw [insT, lt]
    cases h : ltF x y with
    | true =>
      refine ⟨_, rfl, .refl _, List.pairwise_cons.mpr ⟨fun z hz => ?_, List.pairwise_cons.mpr w⟩⟩
      rcases List.mem_cons.mp hz with rfl | hz'
      · exact ltF_asymm hx hy h
      · exact le_trans hx hy (s.hk z (.tail _ hz)) (s.like x (.head _) y (.tail _ (.head _))) (s.like y (.tail _ (.head _)) z (.tail _ hz)) (ltF_asymm hx hy h) (w.1 z hz')
    | false =>
      obtain ⟨l', e, p, w'⟩ := insT_w (x := x) (l := ys) (s.sub fun z hz => by rcases List.mem_cons.mp hz with rfl | h; exact .head _; exact .tail _ (.tail _ h)) w.2
      refine ⟨y :: l', by rw [e]; rfl, (p.cons y).trans (.swap x y ys), List.pairwise_cons.mpr ⟨fun z hz => ?_, w'⟩⟩
      rcases List.mem_cons.mp (p.mem_iff.mp hz) with rfl | hz
      · exact h
      · exact w.1 z hz
theorem sortT_w : ∀ {xs acc : List FV}, Srt (acc ++ xs) → Weak acc → ∃ l', sortT acc xs = some l' ∧ l'.Perm (acc ++ xs) ∧ Weak l'
  | [], acc, _, w => ⟨acc, rfl, by rw [List.append_nil], w⟩
  | x :: xs, acc, s, w => by
    obtain ⟨l, e, p, w'⟩ := insT_w (x := x) (l := acc) (s.sub fun z hz => by rcases List.mem_cons.mp hz with rfl | h; exact List.mem_append_right _ (.head _); exact List.mem_append_left _ h) w
    have pm : (l ++ xs).Perm (acc ++ x :: xs) := (p.append_right xs).trans List.perm_middle.symm
    obtain ⟨l', e', p', w''⟩ := sortT_w (xs := xs) (acc := l) (s.sub fun z hz => pm.mem_iff.mp hz) w'
    exact ⟨l', by rw [sortT, e]; exact e', p'.trans pm, w''⟩
theorem sortM_w {xs : List FV} (s : Srt xs) (h3 : xs.length ≤ 3) : ∃ ys, sortM xs = some ys ∧ ys.Perm xs ∧ Weak ys := by
  obtain ⟨ys, e, p, w⟩ := sortT_w (xs := xs) (acc := []) s .nil
  refine ⟨ys, ?_, p, w⟩
  unfold sortM
  rw [if_pos]
  · exact e
  · obtain ⟨k, hk, hf⟩ := s.first
    unfold sortable
    have h1 : xs.all (hkT 7) = true := List.all_eq_true.mpr fun x hx => hk_up _ _ (s.hk x hx)
    have h2 : xs.all (fun a => xs.all (likeT a)) = true := List.all_eq_true.mpr fun x hx => List.all_eq_true.mpr fun y hy => s.like x hx y hy
    have h4 : (xs.all (fun x => firstK x == 1) || xs.all (fun x => firstK x == 2) || xs.all (fun x => firstK x == 3)) = true := by
      have : xs.all (fun x => firstK x == k) = true := List.all_eq_true.mpr fun x hx => by rw [hf x hx]; exact beq_self_eq_true k
      rcases hk with rfl | rfl | rfl <;> rw [this] <;> simp
    rw [h1, h2, h4, decide_eq_true h3]
    simp
theorem Strict.ext : ∀ {a b : List FV}, Strict a → Strict b → (∀ x ∈ a, hkT 6 x = true) → (∀ x, x ∈ a ↔ x ∈ b) → a = b
  | [], [], _, _, _, _ => rfl
  | [], y :: _, _, _, _, h => by have := (h y).mpr (.head _); cases this
  | x :: _, [], _, _, _, h => by have := (h x).mp (.head _); cases this
  | x :: a, y :: b, ha, hb, hk, h => by
    unfold Strict at ha hb
    rw [List.pairwise_cons] at ha hb
    have no : ∀ z ∈ x :: a, ltF z z = true → False := fun z hz e => ff ((ltF_irrefl (hk z hz)).symm.trans e)
    have exy : x = y := by
      rcases List.mem_cons.mp ((h x).mp (.head _)) with e | e
      · exact e
      · rcases List.mem_cons.mp ((h y).mpr (.head _)) with e' | e'
        · exact e'.symm
        · exact (no x (.head _) (ltF_trans (hk x (.head _)) (hk y (.tail _ e')) (hk x (.head _)) (ha.1 y e') (hb.1 x e))).elim
    subst exy
    rw [Strict.ext ha.2 hb.2 (fun z hz => hk z (.tail _ hz)) fun z => ?_]
    constructor
    · intro hz
      rcases List.mem_cons.mp ((h z).mp (.tail _ hz)) with rfl | e
      · exact (no _ (.head _) (ha.1 _ hz)).elim
      · exact e
    · intro hz
      rcases List.mem_cons.mp ((h z).mpr (.tail _ hz)) with rfl | e
      · exact (no _ (.head _) (hb.1 _ hz)).elim
      · exact e
end
section
variable {n : Nat} {W W' W'' : Wd} {L L' : List (Nat × MO)} {σ : Store} {l c : Nat}
theorem Srt.tup {xs : List FV} (s : Srt xs) {x : FV} (h : x ∈ xs) : ∃ ys, x = .tup ys := by
  obtain ⟨k, hk, hf⟩ := s.first
  have := hf x h
  cases x with
  | tup ys => exact ⟨ys, rfl⟩
  | _ => (have : 0 = k := this); lia
theorem idx_last {o : List FV} {z : FV} (h : (o ++ [z]).length ≤ lim) : (idx (o ++ [z]).length (-1)).bind (fun k => (o ++ [z])[k]?) = some z := by
  have e : idx (o ++ [z]).length (-1) = some o.length := by
    unfold idx
    rw [if_neg (by omega), if_neg (by decide), if_neg (by simp; lia)]
    congr 1
    simp; lia
  rw [e]
  simp
theorem s_once {Q : FV → Store → Prop} {l : Nat} {xs : List FV} (H : Is W L σ) (hx : (l, MO.lst xs) ∈ L) (s : Srt xs) (h3 : xs.length ≤ 3) (q : ∀ ol zs σ', Strict zs → (∀ x, x ∈ zs ↔ x ∈ xs) → Is W ((ol, .lst zs) :: L) σ' → Q (.ref ol) σ') :
    RunT 8 (run X (n + 10) (.st (.ref 1240)) [.ref l]) σ Q := by
  have l3 : ∀ {m : Nat}, m ≤ 3 → m ≤ lim := fun h => Nat.le_trans ‹_› (Nat.le_of_ble_eq_true rfl)
  obtain ⟨ys, hys, perm, weak⟩ := sortM_w s h3
  have yl : ys.length ≤ 3 := by rw [perm.length_eq]; exact h3
  have sy : Srt ys := s.sub fun y h => perm.mem_iff.mp h
  refine r_go [("rows", .ref l)] rfl rfl rfl ?_
  refine r_alloc H fun ol σ1 H1 => ?_
  have hx1 : σ1[l]? = some (.lst xs) := H1.loc _ _ (.tail _ hx)
  refine r_sorted_l H1 hx1 hys fun k σ2 H2 => ?_
  refine r_items_l (xs := ys) (by walk_at "at") ?_
  refine for_env (xs := ys) (nm := (fScope (stm 153)).names) (R := fun _ _ => False)
    (Inv := fun i e σ' => e = ([("rows", .ref l), ("out", .ref ol)] : En) ∧ i ≤ ys.length ∧ ∃ out, Strict out ∧ (∀ x, x ∈ out ↔ x ∈ ys.take i) ∧ out.length ≤ i ∧ ((i = 0 ∧ out = []) ∨ ∃ o z, out = o ++ [z] ∧ 0 < i ∧ ys[i - 1]? = some z) ∧ Is W ((k, .lst ys) :: (ol, .lst out) :: L) σ')
    (fun i e σ K ⟨_, _, out, _, _, _, _, H3⟩ k => r_items_l (by walk_at "at") k) ?_ ?_ (fun r d σ h => h.elim) (n + 10) 0 σ2 _ ⟨rfl, by lia, [], .nil, by simp, by simp, .inl ⟨rfl, rfl⟩, H2⟩ (Nat.zero_le _) (by lia)
  · rintro i x e σ3 K ⟨rfl, hi, out, st, mem, ho, lst, H3⟩ hxi next ret
    have hil := (List.getElem?_eq_some_iff.mp hxi).1
    have zo : out.length ≤ lim := l3 (by lia)
    have e1 : ys.take (i + 1) = ys.take i ++ [x] := by rw [List.take_add_one, hxi]; rfl
    have fin : Strict (out ++ [x]) → ∀ σ4, Is W ((k, .lst ys) :: (ol, .lst (out ++ [x])) :: L) σ4 → K .next (envOf (stm 153) ([("rows", .ref l), ("out", .ref ol), ("row", x)] : En)) σ4 := fun st' σ4 H4 =>
      (next _ _ σ4 ⟨rfl, by assumption, out ++ [x], st', fun y => by rw [e1, List.mem_append, List.mem_append, mem], by simp; omega, .inr ⟨out, x, rfl, by lia, by simpa using hxi⟩, H4⟩ rfl).1
    refine r_len_l (xs := out) (by walk_at "at") zo (r_cmp rfl ?_)
    rcases lst with ⟨rfl, rfl⟩ | ⟨o, z, rfl, i0, hz⟩
    · refine IfB.t rfl (IfB.t rfl (r_cal_l (by walk_at "at") (r_appL H3 (.there .here) zo fun σ4 H4 => ?_)))
      exact fin (List.pairwise_singleton _ _) σ4 H4
    · refine IfB.f (by simp; lia) (r_item_l (xs := o ++ [z]) (v := z) (by walk_at "at") (idx_last zo) ?_)
      have mz := List.mem_of_getElem? hz
      have mx := List.mem_of_getElem? hxi
      have lk := sy.like z mz x mx
      have ne : cmpV .NotEq z x = some (!(eqF z x)) := by
        obtain ⟨a, rfl⟩ := sy.tup mz
        obtain ⟨b, rfl⟩ := sy.tup mx
        show (eqT (.tup a) (.tup b)).map (!·) = _
        have : eqT (.tup a) (.tup b) = some (eqF (.tup a) (.tup b)) := by
          show (if _ then _ else _) = _
          rw [if_pos (by rw [hk_up _ _ (sy.hk _ mz), hk_up _ _ (sy.hk _ mx)]; rfl)]
        rw [this]; rfl
      refine r_cmp ne ?_
      have wk : ltF x z = false := by
        have := List.pairwise_iff_getElem.mp weak (i - 1) i (by omega) hil (by omega)
        rw [(List.getElem?_eq_some_iff.mp hz).2, (List.getElem?_eq_some_iff.mp hxi).2] at this
        exact this
      cases he : eqF z x with
      | true =>
        refine IfB.f rfl (IfB.f rfl ?_)
        have ezx := eqF_eq _ _ he
        refine (next _ _ σ3 ⟨rfl, by assumption, o ++ [z], st, fun y => ?_, by lia, .inr ⟨o, z, rfl, by lia, by simpa [ezx] using hxi⟩, H3⟩ rfl).1
        rw [e1, List.mem_append (t := [x]), ← mem, List.mem_singleton]
        exact ⟨.inl, fun h => h.elim id fun h => by rw [h, ← ezx]; exact List.mem_append_right _ (.head _)⟩
      | false =>
        refine IfB.t rfl (IfB.t rfl (r_cal_l (by walk_at "at") (r_appL H3 (.there .here) zo fun σ4 H4 => ?_)))
        refine fin ?_ σ4 H4
        have lzx : ltF z x = true := by
          rcases lt_or (sy.hk z mz) (sy.hk x mx) lk wk with h | h
          · rw [he] at h; cases h
          · exact h
        refine List.pairwise_append.mpr ⟨st, List.pairwise_singleton _ _, fun a ha b hb => ?_⟩
        rw [List.mem_singleton.mp hb]
        rcases List.mem_append.mp ha with ha | ha
        · exact ltF_trans (sy.hk a (List.mem_of_mem_take ((mem a).mp (List.mem_append_left _ ha)))) (sy.hk z mz) (sy.hk x mx) ((List.pairwise_append.mp st).2.2 a ha z (.head _)) lzx
        · rw [List.mem_singleton.mp ha]; exact lzx
  · rintro e σ3 ⟨rfl, _, out, st, mem, _, _, H3⟩
    rw [List.take_length] at mem
    exact q ol out σ3 st (fun x => (mem x).trans perm.mem_iff) H3.drop
end
section
variable {n : Nat} {W W' W'' : Wd} {L L' : List (Nat × MO)} {σ : Store} {l c : Nat}
/-- the world as law begins -/
noncomputable def wd0 (ys : List FV) : Wd := ⟨ys, 0, baseR, ixFrom 0 baseR, [.none], [.int (-1)], [.int (-1)], [.str ⟨#[80]⟩], [], [], [], []⟩
theorem is0 (xs ys : List FV) : Is (wd0 ys) [] (store0 xs ys) := by
  have f : ∀ p ∈ fixL (wd0 ys), (store0 xs ys)[p.1]? = p.2 := by
    unfold fixL; repeat (first | exact List.forall_mem_nil _ | refine List.forall_mem_cons.mpr ⟨rfl, ?_⟩)
  have g : ∀ p ∈ coreL (wd0 ys), (store0 xs ys)[p.1]? = some p.2 := by
    unfold coreL; repeat (first | exact List.forall_mem_nil _ | refine List.forall_mem_cons.mpr ⟨rfl, ?_⟩)
  exact ⟨fun l o h => f (l, some o) (find_mem (Option.join_eq_some_iff.mp h)), fun l o h => g (l, o) (find_mem h), fun l o h => (nomatch h), fun l o h => (nomatch h), fun p h => (nomatch h), .nil⟩
theorem ok0 {ys : List FV} (h : ∀ v ∈ ys, ∃ i, v = .int i) (hl : ys.length ≤ 63) : Ok1 (wd0 ys) 21 := by
  refine ⟨⟨rfl, ?_, ?_⟩, ⟨by walk_at "z", by walk_at "z", by walk_at "z", by walk_at "z", by walk_at "z", by walk_at "z", by walk_at "z"⟩, ⟨[], by rw [List.append_nil]; rfl⟩, ⟨h, hl⟩, rfl, rfl⟩
  · have : baseR.all (fun r => keyK r == 3) = true := by decide +kernel
    intro r hr
    simpa using List.all_eq_true.mp this r hr
  · have : baseR.Pairwise (fun a b => eqF a b = false) := by decide +kernel
    exact this
noncomputable def lB0 : En := [("script", .ref 1), ("d", .ref 3), ("tab", .ref 5), ("atoms", .ref 16), ("known", .ref 17), ("cx", .ref 27), ("taken", .ref 84)]
noncomputable def lB (bi : Nat) : En := lB0 ++ ([("bits", .int bi)] : En)
noncomputable def kS : Stmt := (fBody (stm 160)).getD 7 (.Pass ⟨0, 0, 0, 0⟩)
noncomputable def tkD (tk : List PySem.Str) : List (FV × FV) := tk.map fun s => (FV.str s, FV.int 1)
theorem ins_tk {x : PySem.Str} : ∀ {tk : List PySem.Str}, x ∉ tk → kvIns (.str x) (.int 1) (tkD tk) = tkD (tk ++ [x])
  | [], _ => rfl
  | a :: tk, h => by
    rw [List.mem_cons, not_or] at h
    have ih := ins_tk h.2
    unfold tkD at ih ⊢
    rw [List.map_cons, List.cons_append, List.map_cons, kvIns_c, eqF_str, decide_eq_false (fun e => h.1 e.symm), ih]; rfl
theorem abc_at {i : Nat} (h : i < 3) : ∃ s, abc[i]? = some s ∧ itemV (.str ⟨#[97, 98, 99]⟩) (.int i) = some (.str s) ∧ s ∉ abc.take i := by
  rcases (show i = 0 ∨ i = 1 ∨ i = 2 by lia) with rfl | rfl | rfl
  · exact ⟨⟨#[97]⟩, rfl, rfl, by decide⟩
  · exact ⟨⟨#[98]⟩, rfl, rfl, by decide⟩
  · exact ⟨⟨#[99]⟩, rfl, rfl, by decide⟩
theorem s_taken {bits : Nat} {Q : Fl → Lc → Store → Prop} (H : Is W [] σ) (h0 : W.taken = [])
    (q : ∀ tk σ', tk.Sublist abc → Is { W with taken := tkD tk } [] σ' → Q .next (envOf (stm 160) (lB0 ++ ([("bits", .int bits)] : En))) σ') :
    wfor (bodyK (forT kS) (wexs X (run X (n + 59)) (n + 60) (forB kS))) (.rng 0 3) (n + 60) 0 (envOf (stm 160) (lB0 ++ ([("bits", .int bits)] : En))) Q σ := by
  have h0' : W = { W with taken := tkD [] } := by cases W; cases h0; rfl
  refine for_env (xs := (List.range 3).map fun (k : Nat) => FV.int k) (nm := (fScope (stm 160)).names) (R := fun _ _ => False)
    (Inv := fun i e σ' => e = lB0 ++ ([("bits", .int bits)] : En) ∧ ∃ tk, tk.Sublist (abc.take i) ∧ Is { W with taken := tkD tk } [] σ')
    (fun i e σ K _ k => r_items (items_rng (by decide)) k) ?_ ?_ (fun r d σ h => h.elim) (n + 60) 0 σ _ ⟨rfl, [], .slnil, h0' ▸ H⟩ (Nat.zero_le _) (by rw [List.length_map, List.length_range]; lia)
  · rintro i y e σ1 K ⟨rfl, tk, hs, H1⟩ hy next ret
    have hi : i < 3 := by have := (List.getElem?_eq_some_iff.mp hy).1; simpa using this
    have hy : y = .int (i : Int) := by
      rw [List.getElem?_map, List.getElem?_range hi] at hy
      simpa using hy.symm
    subst hy
    obtain ⟨s, h1, h2, h3⟩ := abc_at hi
    have tl : tk.length ≤ 3 := by have := hs.length_le; rw [List.length_take] at this; lia
    have hp : binV .Pow (.int 2) (.int (i : Int)) = some (.int ((2 ^ i : Nat) : Int)) := by
      refine (if_pos (⟨rfl, by lia, by omega⟩ : (2 : Int) = 2 ∧ (0 : Int) ≤ i ∧ (i : Int) ≤ 60)).trans ?_
      simp
    have p1 : (2 : Nat) ^ i ≤ 2 ^ 3 := Nat.pow_le_pow_right (by decide) (by lia)
    have e : abc.take (i + 1) = abc.take i ++ [s] := by rw [List.take_add_one, h1]; rfl
    refine r_bin hp (r_bin (bin_div (y := bits) (k := 2 ^ i) (Nat.pow_pos (by decide)) (by lia)) (r_bin (bin_mod (y := bits / 2 ^ i) (k := 2) (by decide)) (r_cmp rfl (IfB.of (fun _ => ?_) fun _ => ?_))))
    · refine r_item h2 ?_
      have hn : s ∉ tk := fun h => h3 (hs.subset h)
      have hg : kvPut (.str s) (.int 1) (tkD tk) = some (tkD (tk ++ [s])) := by
        unfold kvPut
        rw [if_pos ⟨taken_homog, by unfold tkD; rw [List.length_map]; lia⟩, ins_tk hn]
      refine r_setd (kvs := tkD tk) (H1.core 84 _ rfl) (by decide) hg ?_
      exact (next _ _ _ ⟨rfl, tk ++ [s], by rw [e]; exact hs.append (.refl _), H1.setC (W' := { W with taken := tkD (tk ++ [s]) }) (o := .dct (tkD (tk ++ [s]))) (l := 84) (by decide) rfl (by repeat first | exact .here | apply UpdL.there) rfl rfl⟩ rfl).1
    · exact (next _ _ _ ⟨rfl, tk, by rw [e]; exact hs.trans (List.sublist_append_left _ _), H1⟩ rfl).1
  · rintro e σ1 ⟨rfl, tk, hs, H1⟩
    exact q tk σ1 (hs.trans (List.take_sublist _ _)) H1
end
section
variable {n : Nat} {W W' W'' : Wd} {L L' : List (Nat × MO)} {σ : Store} {l c : Nat}
noncomputable def rowD (b : Bool) : FV := .tup [.int (fNum b), .int 1, fArg b]
noncomputable def hopeF (tk : List PySem.Str) (h : Nat) (ts : List Tn) : FV := .tup [.tup (outR (shutH h) tk ts), lidH h 3, lidH h 4]
noncomputable def parF (t : Nat) : FV := .tup [.tup [.tup [.str ⟨#[]⟩, .int t, .int 0, .int 0]], .tup [], .tup []]
/-- what a part adds: hoped, told, noted -/
inductive Con (W : Wd) (tk : List PySem.Str) : FV → Nat → List FV → List Bool → Bool → Prop
  | thing {h rl t kc sh : Nat} {ts : List Tn} : ThingP W h rl t ts kc sh → Con W tk (oneF h rl t) t [hopeF tk h ts] [] (decide ((0 : Int) < ((outR (shutH h) tk ts).length : Nat)))
  | opn {t : Nat} {b : Int} : ParIs W t b → Con W tk (one0 6 t) t [parF t] [] true
  | arr {t : Nat} : Con W tk (one0 4 t) t [] [true] false
  | bad {k : Int} {t : Nat} : k = 1 ∨ k = 3 → Con W tk (one0 k t) t [] [false] false
  | top {t : Nat} : t = 0 ∨ t = 13 → Con W tk (one0 5 t) t [] [] false
noncomputable def lE (bi pl : Nat) (got : Int) (ll tl : Nat) (b : Bool) (hl : Nat) : En := lB bi ++ ([("parts", .ref pl), ("got", .int got), ("left", .ref ll), ("told", .ref tl), ("noted", .bool b), ("hoped", .ref hl)] : En)
noncomputable def laS : Stmt := (fBody (stm 160)).getD 14 (.Pass ⟨0, 0, 0, 0⟩)
theorem out_len {sh : Bool} {tk : List PySem.Str} {ts : List Tn} (h : ts.length = 3) : (outR sh tk ts).length ≤ 3 := by
  unfold outR
  refine Nat.le_trans (rowsR_len _) ?_
  rw [← h]; exact List.length_filter_le _ _
theorem s_con {tk : List PySem.Str} {one : FV} {t pl ll tl hl : Nat} {got : Int} {b : Bool} {hs ts : List FV} {K : Fl → Lc → Store → Prop} (H : Is W ((hl, .lst hs) :: (tl, .lst ts) :: L) σ) (tkn : TakenIs W tk) (P : PartIs W tk one t) (z1 : hs.length ≤ 5) (z2 : ts.length ≤ 6)
    (next : ∀ o σ' d hs1 bs1 nt1, keepN (envOf (stm 160) (lE bi pl got ll tl b hl)) d = envOf (stm 160) (lE bi pl got ll tl (b || nt1) hl) → Con W tk one t hs1 bs1 nt1 → Is (W.ob o) ((hl, .lst (hs ++ hs1)) :: (tl, .lst (ts ++ bs1.map rowD)) :: L) σ' → K .next d σ') :
    SomeP (bindTarget (forT laS) one (envOf (stm 160) (lE bi pl got ll tl b hl))) fun c => wexs X (run X (n + 59)) (n + 60) (forB laS) c K σ := by
  have l6 : ∀ {m : Nat}, m ≤ 6 → m ≤ lim := fun h => Nat.le_trans ‹_› (Nat.le_of_ble_eq_true rfl)
  have bf : (b || false) = b := Bool.or_false b
  have bt : (b || true) = true := Bool.or_true b
  have bad : ∀ k : Int, (k = 1 ∨ k = 3) → one = one0 k t → SomeP (bindTarget (forT laS) one (envOf (stm 160) (lE bi pl got ll tl b hl))) fun c => wexs X (run X (n + 59)) (n + 60) (forB laS) c K σ := fun k hk e => by
    subst e
    refine r_item (v := .int k) rfl (r_cmp rfl (IfB.f (by simp; omega) (r_item (v := .int k) rfl (r_cmp rfl (IfB.f (by simp; omega) (r_item (v := .int k) rfl (r_cmp rfl (IfB.f (by simp; omega) ?_))))))))
    refine r_item (v := .int k) rfl (r_cmp rfl (IfB.t (by simp; omega) (r_cal_l (by walk_at "at") (r_appL H (.there .here) (l6 z2) fun σ2 H2 => ?_))))
    exact next [] σ2 (envOf (stm 160) (lE bi pl got ll tl b hl ++ ([("one", one0 k t)] : En))) [] [false] false (by rw [bf]; rfl) (.bad hk) (by rw [List.append_nil]; exact H2)
  have arr : one = one0 4 t → SomeP (bindTarget (forT laS) one (envOf (stm 160) (lE bi pl got ll tl b hl))) fun c => wexs X (run X (n + 59)) (n + 60) (forB laS) c K σ := fun e => by
    subst e
    refine r_item (v := .int 4) rfl (r_cmp rfl (IfB.f rfl (r_item (v := .int 4) rfl (r_cmp rfl (IfB.f rfl (r_item (v := .int 4) rfl (r_cmp rfl (IfB.t rfl ?_))))))))
    refine r_cal_l (by walk_at "at") (r_appL H (.there .here) (l6 z2) fun σ2 H2 => ?_)
    exact next [] σ2 (envOf (stm 160) (lE bi pl got ll tl b hl ++ ([("one", one0 4 t)] : En))) [] [true] false (by rw [bf]; rfl) .arr (by rw [List.append_nil]; exact H2)
  have opn : ∀ x : Int, ParIs W t x → one = one0 6 t → SomeP (bindTarget (forT laS) one (envOf (stm 160) (lE bi pl got ll tl b hl))) fun c => wexs X (run X (n + 59)) (n + 60) (forB laS) c K σ := fun x hx e => by
    subst e
    refine r_item (v := .int 6) rfl (r_cmp rfl (IfB.f rfl (r_item (v := .int 6) rfl (r_cmp rfl (IfB.t rfl (r_cal_l (by walk_at "at") (r_item (v := .int t) rfl ?_)))))))
    refine r_appL H .here (l6 (by omega)) fun σ2 H2 => ?_
    exact next [] σ2 (envOf (stm 160) (lE bi pl got ll tl true hl ++ ([("one", one0 6 t)] : En))) [parF t] [] true (by rw [bt]; rfl) (.opn hx) (by rw [List.map_nil, List.append_nil]; exact H2)
  cases P with
  | nul h => exact bad 1 (.inl rfl) rfl
  | prim h => exact bad 3 (.inr rfl) rfl
  | pstr h _ => exact bad 3 (.inr rfl) rfl
  | arr h => exact arr rfl
  | parr h _ => exact arr rfl
  | opn h _ => exact opn _ h rfl
  | opt h _ _ => exact opn _ h rfl
  | top h =>
    refine r_item (v := .int 5) rfl (r_cmp rfl (IfB.f rfl (r_item (v := .int 5) rfl (r_cmp rfl (IfB.f rfl (r_item (v := .int 5) rfl (r_cmp rfl (IfB.f rfl ?_))))))))
    refine r_item (v := .int 5) rfl (r_cmp rfl (IfB.f rfl ?_))
    exact next [] σ (envOf (stm 160) (lE bi pl got ll tl b hl ++ ([("one", one0 5 t)] : En))) [] [] false (by rw [bf]; rfl) (.top h) (by rw [List.map_nil, List.append_nil, List.append_nil]; exact H)
  | @thing h rl _ kc sh tns th =>
    refine r_item (v := .int 0) rfl (r_cmp rfl (IfB.t rfl (r_cal_l (by walk_at "at") ?_)))
    refine s_lrest H tkn th.rows th.three fun o σ1 H1 => ?_
    refine r_appL (x := hopeF tk h tns) H1 .here (l6 (by omega)) fun σ2 H2 => ?_
    have fin : ∀ b', b' = (b || decide ((0 : Int) < ((outR (shutH h) tk tns).length : Nat))) → K .next (envOf (stm 160) (lE bi pl got ll tl b' hl ++ ([("one", oneF h rl t)] : En))) σ2 := fun b' e =>
      next o σ2 _ [hopeF tk h tns] [] _ (by rw [← e]; rfl) (.thing th) (by rw [List.map_nil, List.append_nil]; exact H2)
    refine r_truth (v := .bool b) (b := b) rfl ?_
    cases b with
    | true => exact IfB.t rfl (fin true (by rw [Bool.true_or]))
    | false =>
      refine IfB.f rfl (r_item_l (xs := hs ++ [hopeF tk h tns]) (v := hopeF tk h tns) (by walk_at "at") (idx_last (l6 (by simp; omega))) (r_item (v := .tup (outR (shutH h) tk tns)) rfl ?_))
      refine r_len_t (l6 (Nat.le_trans (out_len th.three) (by decide))) (r_cmp rfl ?_)
      exact fin _ (by rw [Bool.false_or])
end
section
variable {n : Nat} {W W' W'' : Wd} {L L' : List (Nat × MO)} {σ : Store} {l c : Nat}
structure Cd where
  p : FV × Nat
  hs : List FV
  bs : List Bool
  nt : Bool
noncomputable def Cd.ok (W : Wd) (tk : List PySem.Str) (d : Cd) : Prop := Con W tk d.p.1 d.p.2 d.hs d.bs d.nt
theorem Con.le {tk : List PySem.Str} {o : FV} {t : Nat} {hs : List FV} {bs : List Bool} {nt : Bool} (x : Le W W') (h : Con W tk o t hs bs nt) : Con W' tk o t hs bs nt := by
  cases h with
  | thing h => exact .thing (h.le x)
  | opn h => exact .opn (h.le x)
  | arr => exact .arr
  | bad h => exact .bad h
  | top h => exact .top h
theorem Con.small {tk : List PySem.Str} {o : FV} {t : Nat} {hs : List FV} {bs : List Bool} {nt : Bool} (h : Con W tk o t hs bs nt) : hs.length ≤ 1 ∧ bs.length ≤ 1 := by
  cases h <;> exact ⟨by walk_at "z", by walk_at "z"⟩
noncomputable def hsC (cs : List Cd) : List FV := (cs.map (·.hs)).flatten
noncomputable def bsC (cs : List Cd) : List Bool := (cs.map (·.bs)).flatten
theorem small_C {tk : List PySem.Str} : ∀ {cs : List Cd}, (∀ d ∈ cs, d.ok W tk) → (hsC cs).length ≤ cs.length ∧ (bsC cs).length ≤ cs.length
  | [], _ => ⟨Nat.le_refl _, Nat.le_refl _⟩
  | d :: cs, h => by
    have ih := small_C fun d hd => h d (.tail _ hd)
    have := (h d (.head _)).small
    unfold hsC bsC at ih ⊢
    simp only [List.map_cons, List.flatten_cons, List.length_append, List.length_cons]
    lia
theorem s_cons {tk : List PySem.Str} {pl ll tl hl : Nat} {got : Int} {ps : Ps} {b0 : List Bool} {Q : Fl → Lc → Store → Prop} (H : Is W ((hl, .lst []) :: (tl, .lst (b0.map rowD)) :: L) σ) (hll : (ll, MO.lst (ps.map (·.1))) ∈ L) (tkn : TakenIs W tk) (P : ∀ p ∈ ps, PartIs W tk p.1 p.2) (z : ps.length ≤ 3) (zb : b0.length ≤ 1)
    (q : ∀ o cs σ', cs.map (·.p) = ps → (∀ e ∈ cs, e.ok (W.ob o) tk) → Is (W.ob o) ((hl, .lst (hsC cs)) :: (tl, .lst ((b0 ++ bsC cs).map rowD)) :: L) σ' → Q .next (envOf (stm 160) (lE bi pl got ll tl (cs.any (·.nt)) hl)) σ') :
    wfor (bodyK (forT laS) (wexs X (run X (n + 59)) (n + 60) (forB laS))) (.ref ll) (n + 60) 0 (envOf (stm 160) (lE bi pl got ll tl false hl)) Q σ := by
  refine for_env (xs := ps.map (·.1)) (nm := (fScope (stm 160)).names) (R := fun _ _ => False)
    (Inv := fun i e σ' => i ≤ ps.length ∧ ∃ o cs, e = lE bi pl got ll tl (cs.any (·.nt)) hl ∧ cs.map (·.p) = ps.take i ∧ (∀ d ∈ cs, d.ok (W.ob o) tk) ∧ Is (W.ob o) ((hl, .lst (hsC cs)) :: (tl, .lst ((b0 ++ bsC cs).map rowD)) :: L) σ')
    (fun i e σ K ⟨_, o, cs, _, _, _, H1⟩ k => r_items_l (H1.loc ll _ (.tail _ (.tail _ hll))) k) ?_ ?_ (fun r d σ h => h.elim) (n + 60) 0 σ _ ⟨by lia, [], [], rfl, rfl, by simp, by rw [show bsC [] = [] from rfl, List.append_nil]; exact H⟩ (Nat.zero_le _) (by rw [List.length_map]; lia)
  · rintro i y e σ1 K ⟨hi, o, cs, rfl, hcs, ok, H1⟩ hy next ret
    rw [List.getElem?_map] at hy
    cases hx : ps[i]? with
    | none => rw [hx] at hy; cases hy
    | some p =>
      rw [hx] at hy
      have hy : y = p.1 := by simpa using hy.symm
      subst hy
      have hil := (List.getElem?_eq_some_iff.mp hx).1
      have le := Le.ob W o
      have lc : cs.length ≤ 2 := by have := congrArg List.length hcs; rw [List.length_map, List.length_take] at this; lia
      have sm := small_C ok
      refine s_con H1 ⟨tkn.1, tkn.2⟩ ((P p (List.mem_of_getElem? hx)).le le) (by lia) (by rw [List.length_map, List.length_append]; lia) fun o' σ' d hs1 bs1 nt1 hd con H2 => ?_
      rw [Wd.ob_ob] at H2
      have le2 : Le (W.ob o) (W.ob (o' ++ o)) := by rw [← Wd.ob_ob]; exact .ob _ _
      refine (next (lE bi pl got ll tl (cs.any (·.nt) || nt1) hl) d σ' ⟨by assumption, o' ++ o, cs ++ [⟨p, hs1, bs1, nt1⟩], by simp, ?_, ?_, ?_⟩ hd).1
      · rw [List.map_append, hcs, List.take_add_one, hx]; rfl
      · intro d hd
        rcases List.mem_append.mp hd with hd | hd
        · exact (ok d hd).le le2
        · rw [List.mem_singleton.mp hd]; exact con.le le2
      · have e1 : hsC (cs ++ [⟨p, hs1, bs1, nt1⟩]) = hsC cs ++ hs1 := by unfold hsC; simp
        have e2 : (b0 ++ bsC (cs ++ [⟨p, hs1, bs1, nt1⟩])).map rowD = (b0 ++ bsC cs).map rowD ++ bs1.map rowD := by unfold bsC; simp
        rw [e1, e2]; exact H2
  · rintro e σ1 ⟨_, o, cs, rfl, hcs, ok, H1⟩
    rw [List.length_map, List.take_length] at hcs
    exact q o cs σ1 hcs ok H1
end
section
variable {n : Nat} {W W' W'' : Wd} {L L' : List (Nat × MO)} {σ : Store} {l c : Nat}
noncomputable def skT (sh : Bool) (t : Tn) : Bool := sh && (decide (t.y % 6 = 3) || decide (t.y % 6 = 5))
/-- what the pieces hold -/
structure PcI (sh : Bool) (l : List Tn) (pcs : List (List PySem.Str)) : Prop where
  some : ∃ p, p ∈ pcs
  from_ : ∀ p ∈ pcs, ∀ s ∈ p, s ∈ l.map (·.nm)
  sk : ∀ t ∈ l, skT sh t = true → ∀ p ∈ pcs, t.nm ∉ p
  all : ∀ t ∈ l, skT sh t = false → mayY t.y ≠ 1 → ∀ p ∈ pcs, t.nm ∈ p
  yes : ∀ t ∈ l, skT sh t = false → ∃ p ∈ pcs, t.nm ∈ p
  no : ∀ t ∈ l, skT sh t = false → mayY t.y = 1 → ∃ p ∈ pcs, t.nm ∉ p
theorem pc_step {sh : Bool} {l : List Tn} {t : Tn} {pcs : List (List PySem.Str)} (i : PcI sh l pcs) (hn : t.nm ∉ l.map (·.nm)) : PcI sh (l ++ [t]) (pcT sh pcs t) := by
  have new : ∀ p ∈ pcs, t.nm ∉ p := fun p hp h => hn (i.from_ p hp _ h)
  have ne : ∀ u ∈ l, u.nm ≠ t.nm := fun u hu e => hn (List.mem_map.mpr ⟨u, hu, e⟩)
  have inl : ∀ {u : Tn}, u ∈ l ++ [t] → u ∈ l ∨ u = t := fun h => by simpa using h
  by_cases hs : skT sh t = true
  · have e : pcT sh pcs t = pcs := by unfold pcT; exact if_pos hs
    rw [e]
    refine ⟨i.some, fun p hp s h => by rw [List.map_append]; exact List.mem_append_left _ (i.from_ p hp s h), fun u hu hk p hp => ?_, fun u hu hk hm p hp => ?_, fun u hu hk => ?_, fun u hu hk hm => ?_⟩
    · rcases inl hu with hu | rfl
      · exact i.sk u hu hk p hp
      · exact new p hp
    · rcases inl hu with hu | rfl
      · exact i.all u hu hk hm p hp
      · rw [hs] at hk; cases hk
    · rcases inl hu with hu | rfl
      · exact i.yes u hu hk
      · rw [hs] at hk; cases hk
    · rcases inl hu with hu | rfl
      · exact i.no u hu hk hm
      · rw [hs] at hk; cases hk
  · have e : pcT sh pcs t = pcs.map (· ++ [t.nm]) ++ (if mayY t.y = 1 then pcs else []) := by unfold pcT; exact if_neg hs
    have hin : ∀ {p}, p ∈ pcT sh pcs t → (∃ p' ∈ pcs, p = p' ++ [t.nm]) ∨ (mayY t.y = 1 ∧ p ∈ pcs) := fun {p} h => by
      rw [e] at h
      rcases List.mem_append.mp h with h | h
      · obtain ⟨p', h1, h2⟩ := List.mem_map.mp h
        exact .inl ⟨p', h1, h2.symm⟩
      · split at h
        · exact .inr ⟨by assumption, h⟩
        · cases h
    have mk : ∀ {p}, p ∈ pcs → p ++ [t.nm] ∈ pcT sh pcs t := fun {p} h => by rw [e]; exact List.mem_append_left _ (List.mem_map.mpr ⟨p, h, rfl⟩)
    have mo : ∀ {u : Tn} {p}, u ∈ l → (u.nm ∈ p ++ [t.nm] ↔ u.nm ∈ p) := fun {u p} hu => by
      rw [List.mem_append, List.mem_singleton]
      exact ⟨fun h => h.elim id fun h => absurd h (ne u hu), .inl⟩
    obtain ⟨p0, h0⟩ := i.some
    refine ⟨⟨_, mk h0⟩, fun p hp s h => ?_, fun u hu hk p hp => ?_, fun u hu hk hm p hp => ?_, fun u hu hk => ?_, fun u hu hk hm => ?_⟩
    · rw [List.map_append]
      rcases hin hp with ⟨p', h1, rfl⟩ | ⟨_, h1⟩
      · rcases List.mem_append.mp h with h | h
        · exact List.mem_append_left _ (i.from_ p' h1 s h)
        · exact List.mem_append_right _ (by simpa using h)
      · exact List.mem_append_left _ (i.from_ p h1 s h)
    · rcases inl hu with hu | rfl
      · rcases hin hp with ⟨p', h1, rfl⟩ | ⟨_, h1⟩
        · rw [mo hu]; exact i.sk u hu hk p' h1
        · exact i.sk u hu hk p h1
      · exact absurd hk hs
    · rcases inl hu with hu | rfl
      · rcases hin hp with ⟨p', h1, rfl⟩ | ⟨_, h1⟩
        · rw [mo hu]; exact i.all u hu hk hm p' h1
        · exact i.all u hu hk hm p h1
      · rcases hin hp with ⟨p', h1, rfl⟩ | ⟨h1, _⟩
        · exact List.mem_append_right _ (.head _)
        · exact absurd h1 hm
    · rcases inl hu with hu | rfl
      · obtain ⟨p, h1, h2⟩ := i.yes u hu hk
        exact ⟨_, mk h1, (mo hu).mpr h2⟩
      · exact ⟨_, mk h0, List.mem_append_right _ (.head _)⟩
    · rcases inl hu with hu | rfl
      · obtain ⟨p, h1, h2⟩ := i.no u hu hk hm
        exact ⟨_, mk h1, fun h => h2 ((mo hu).mp h)⟩
      · exact ⟨p0, by rw [e, if_pos hm]; exact List.mem_append_right _ h0, new p0 h0⟩
theorem pc_all {sh : Bool} : ∀ {l done : List Tn} {pcs : List (List PySem.Str)}, PcI sh done pcs → ((done ++ l).map (·.nm)).Nodup → PcI sh (done ++ l) (l.foldl (pcT sh) pcs)
  | [], done, pcs, i, _ => by rw [List.append_nil]; exact i
  | t :: l, done, pcs, i, nd => by
    have hn : t.nm ∉ done.map (·.nm) := fun h => by
      rw [List.map_append, List.nodup_append] at nd
      exact nd.2.2 _ h _ (by simp) rfl
    have e : done ++ t :: l = (done ++ [t]) ++ l := by simp
    rw [e] at nd ⊢
    exact pc_all (pc_step i hn) nd
theorem pc_is {sh : Bool} {l : List Tn} (nd : (l.map (·.nm)).Nodup) : PcI sh l (pcF sh l) :=
  pc_all (done := []) (l := l) (pcs := [[]]) ⟨⟨[], .head _⟩, fun p hp s h => (by rw [List.mem_singleton.mp hp] at h; cases h), fun t h => (nomatch h), fun t h => (nomatch h), fun t h => (nomatch h), fun t h => (nomatch h)⟩ nd
theorem cnt_pos {pcs : List (List PySem.Str)} {s : PySem.Str} : 0 < cnt pcs s ↔ ∃ p ∈ pcs, s ∈ p := by
  unfold cnt
  rw [List.length_pos_iff_exists_mem]
  constructor
  · rintro ⟨p, h⟩; exact ⟨p, (List.mem_filter.mp h).1, by simpa using (List.mem_filter.mp h).2⟩
  · rintro ⟨p, h1, h2⟩; exact ⟨p, List.mem_filter.mpr ⟨h1, by simpa using h2⟩⟩
theorem cnt_lt {pcs : List (List PySem.Str)} {s : PySem.Str} : cnt pcs s < pcs.length ↔ ∃ p ∈ pcs, s ∉ p := by
  unfold cnt
  rw [List.length_filter_lt_length_iff_exists]
  constructor
  · rintro ⟨p, h1, h2⟩; exact ⟨p, h1, by simpa using h2⟩
  · rintro ⟨p, h1, h2⟩; exact ⟨p, h1, by simpa using h2⟩
/-- the pieces, counted -/
theorem cnt_is {sh : Bool} {tk : List PySem.Str} {ts : List Tn} (nd : ((live ts).map (·.nm)).Nodup) {t : Tn} (ht : t ∈ live ts) :
    (0 < cnt (pcO sh tk ts) t.nm ↔ skT sh t = false ∧ t.nm ∉ tk) ∧ (0 < cnt (pcO sh tk ts) t.nm → (cnt (pcO sh tk ts) t.nm < (pcO sh tk ts).length ↔ mayY t.y = 1)) := by
  have i := pc_is (sh := sh) nd
  rw [cnt_pos, cnt_lt]
  unfold pcO
  generalize pcF sh (live ts) = pcs at i
  have mem : ∀ p : List PySem.Str, (t.nm ∈ p.filter fun s => decide (s ∉ tk)) ↔ t.nm ∈ p ∧ t.nm ∉ tk := fun p => by rw [List.mem_filter]; simp
  have one : (∃ p ∈ pcs.map (fun p => p.filter fun s => decide (s ∉ tk)), t.nm ∈ p) ↔ skT sh t = false ∧ t.nm ∉ tk := by
    constructor
    · rintro ⟨p, hp, h⟩
      obtain ⟨p', h1, rfl⟩ := List.mem_map.mp hp
      obtain ⟨h2, h3⟩ := (mem p').mp h
      refine ⟨?_, h3⟩
      cases hs : skT sh t with
      | false => rfl
      | true => exact absurd h2 (i.sk t ht hs p' h1)
    · rintro ⟨hs, h3⟩
      obtain ⟨p, h1, h2⟩ := i.yes t ht hs
      exact ⟨_, List.mem_map.mpr ⟨p, h1, rfl⟩, (mem p).mpr ⟨h2, h3⟩⟩
  refine ⟨one, fun h => ?_⟩
  obtain ⟨hs, h3⟩ := one.mp h
  constructor
  · rintro ⟨p, hp, h⟩
    obtain ⟨p', h1, rfl⟩ := List.mem_map.mp hp
    by_cases hm : mayY t.y = 1
    · exact hm
    · exact absurd ((mem p').mpr ⟨i.all t ht hs hm p' h1, h3⟩) h
  · intro hm
    obtain ⟨p, h1, h2⟩ := i.no t ht hs hm
    exact ⟨_, List.mem_map.mpr ⟨p, h1, rfl⟩, fun h => h2 ((mem p).mp h).1⟩
end
section
variable {n : Nat} {W W' W'' : Wd} {L L' : List (Nat × MO)} {σ : Store} {l c : Nat}
noncomputable def yOk (y : Nat) : Bool := decide (y % 6 = 0) || ([true, false].all (fun md => keepP md ⟨⟨#[]⟩, 0, flY y, 0⟩ == (!(decide (y % 6 = 4)) && !(md && (decide (y % 6 = 3) || decide (y % 6 = 5))))) &&
  (decide (y % 6 = 4) || Builtin.bitAnd (flY y) 5 == ((if mayY y = 1 then 1 else 0) + (if y % 6 = 3 then 4 else 0) : Int)))
theorem ys_ok : (List.range 102).all yOk = true := by decide +kernel
theorem keep_fl (md : Bool) (p : Pr) : keepP md p = keepP md ⟨⟨#[]⟩, 0, p.fl, 0⟩ := rfl
noncomputable def prT (t : Tn) : Pr := ⟨t.nm, (t.kid : Int), flY t.y, if t.y % 6 = 4 then 1 else 0⟩
theorem prs_live : ∀ ts : List Tn, prs ts = (live ts).map prT
  | [] => rfl
  | t :: ts => by
    have ih := prs_live ts
    have e : prs (t :: ts) = t.pr ++ prs ts := rfl
    rw [e, ih]
    unfold live Tn.pr prT
    rw [List.filter_cons]
    by_cases h : t.y % 6 = 0 <;> simp [h]
theorem live_sub (ts : List Tn) : ((live ts).map (·.nm)).Sublist (ts.map (·.nm)) := (List.filter_sublist).map _
theorem Tns.nd {ts : List Tn} (T : Tns W ts) (h3 : ts.length = 3) : ((live ts).map (·.nm)).Nodup := by
  have s := live_sub ts
  rw [T.nms, h3] at s
  exact s.nodup (by decide)
noncomputable def restT (p : Pr) : Pr := ⟨p.nm, p.k, Builtin.bitAnd p.fl 5, 0⟩
theorem row_is {sh : Bool} {tk : List PySem.Str} {ts : List Tn} (T : Tns W ts) (h3 : ts.length = 3) {t : Tn} (ht : t ∈ live ts) :
    rowR (pcO sh tk ts) t = if (keepP sh (prT t) && decide (t.nm ∉ tk)) = true then [prM W (restT (prT t))] else [] := by
  obtain ⟨hm, hy0⟩ := List.mem_filter.mp ht
  have hy0 : t.y % 6 ≠ 0 := by simpa using hy0
  have hy := T.y t hm
  have ok := List.all_eq_true.mp ys_ok t.y (List.mem_range.mpr hy)
  unfold yOk at ok
  rw [decide_eq_false hy0, Bool.false_or, Bool.and_eq_true] at ok
  obtain ⟨ok1, ok2⟩ := ok
  have ok1 : keepP sh (prT t) = (!(decide (t.y % 6 = 4)) && !(skT sh t)) := by
    have := List.all_eq_true.mp ok1 sh (by cases sh <;> decide)
    rw [keep_fl]
    exact eq_of_beq this
  obtain ⟨c1, c2⟩ := cnt_is (sh := sh) (tk := tk) (T.nd h3) ht
  unfold rowR
  by_cases h4 : t.y % 6 = 4
  · rw [if_neg (fun h => h.2 h4), ok1, decide_eq_true h4]; rfl
  · rw [decide_eq_false h4] at ok1 ok2
    by_cases h0 : 0 < cnt (pcO sh tk ts) t.nm
    · obtain ⟨hs, hk⟩ := c1.mp h0
      rw [if_pos ⟨h0, h4⟩, ok1, hs, decide_eq_true hk, if_pos (show (!false && !false && true) = true from rfl)]
      have km := (T.kind t hm hy0).eq
      have ok2 : Builtin.bitAnd (flY t.y) 5 = (if mayY t.y = 1 then 1 else 0) + (if t.y % 6 = 3 then 4 else 0) := by simpa using ok2
      have e : (if cnt (pcO sh tk ts) t.nm < (pcO sh tk ts).length then (1 : Int) else 0) = if mayY t.y = 1 then 1 else 0 := by
        by_cases h1 : mayY t.y = 1
        · rw [if_pos h1, if_pos ((c2 h0).mpr h1)]
        · rw [if_neg h1, if_neg (fun h => h1 ((c2 h0).mp h))]
      unfold prM restT prT
      simp only
      rw [km, ok2, e]
    · rw [if_neg (fun h => h0 h.1)]
      have : ¬ (skT sh t = false ∧ t.nm ∉ tk) := fun h => h0 (c1.mpr h)
      rw [ok1, if_neg]
      intro h
      simp only [Bool.and_eq_true, Bool.not_eq_true', decide_eq_true_eq] at h
      exact this ⟨h.1.2, h.2⟩
theorem rest_out {sh : Bool} {tk : List PySem.Str} {ts : List Tn} (T : Tns W ts) (h3 : ts.length = 3) : outR sh tk ts = (restP sh tk (prs ts)).map (prM W) := by
  unfold outR restP
  rw [prs_live]
  have : ∀ l : List Tn, (∀ t ∈ l, t ∈ live ts) → (l.map (rowR (pcO sh tk ts))).flatten = ((((l.map prT).filter (keepP sh)).filter fun p => decide (p.nm ∉ tk)).map restT).map (prM W) := by
    intro l
    induction l with
    | nil => intro _; rfl
    | cons t l ih =>
      intro h
      rw [List.map_cons, List.flatten_cons, ih fun u hu => h u (.tail _ hu), row_is T h3 (h t (.head _)), List.map_cons, List.filter_cons]
      cases h1 : keepP sh (prT t) with
      | false => rfl
      | true =>
        rw [if_pos rfl, List.filter_cons]
        have e : (prT t).nm = t.nm := rfl
        rw [e]
        by_cases h2 : t.nm ∈ tk <;> simp [h2]
  exact this (live ts) fun t h => h
end
section
variable {n : Nat} {W W' W'' : Wd} {L L' : List (Nat × MO)} {σ : Store} {l c : Nat}
theorem Pr.inj {p q : Pr} (h : p.f = q.f) : p = q := by
  cases p; cases q
  unfold Pr.f at h
  simp only [FV.tup.injEq, List.cons.injEq, FV.str.injEq, FV.int.injEq, and_true] at h
  obtain ⟨rfl, rfl, rfl, rfl⟩ := h
  rfl
theorem prs_inj : ∀ {a b : List Pr}, a.map Pr.f = b.map Pr.f → a = b
  | [], [], _ => rfl
  | [], _ :: _, h => by cases h
  | _ :: _, [], h => by cases h
  | p :: a, q :: b, h => by
    rw [List.map_cons, List.map_cons, List.cons.injEq] at h
    rw [Pr.inj h.1, prs_inj h.2]
theorem objRow_inj {ps ps' : List Pr} {cs ks s m cs' ks' s' m' : FV} (h : objRow ps cs ks s m = objRow ps' cs' ks' s' m') : ps = ps' ∧ ks = ks' ∧ s = s' ∧ m = m' := by
  unfold objRow at h
  simp only [FV.tup.injEq, List.cons.injEq, and_true, true_and] at h
  exact ⟨prs_inj h.1, h.2.2.1, h.2.2.2.1, h.2.2.2.2⟩
theorem kind_ne {t : Nat} {r r' : FV} {k k' : Int} (h : W.rows[t]? = some r) (h' : W.rows[t]? = some r') (hk : itemV r (.int 0) = some (.int k)) (hk' : itemV r' (.int 0) = some (.int k')) (ne : k ≠ k') : False := by
  rw [h] at h'
  cases h'
  rw [hk] at hk'
  cases hk'
  exact ne rfl
theorem Thing.det (H : Is W L σ) {t sh sh' : Nat} {ps ps' : List Pr} {s m s' m' : FV} {md md' : Bool} (g : Thing W t ps s m md sh) (g' : Thing W t ps' s' m' md' sh') : ps = ps' ∧ s = s' ∧ m = m' ∧ md = md' := by
  cases g with
  | obj cs ks h1 h2 _ =>
    cases g' with
    | obj cs' ks' h1' h2' _ =>
      rw [h1] at h1'
      obtain ⟨rfl, e, rfl, rfl⟩ := objRow_inj (Option.some.inj h1')
      rw [← e, h2] at h2'
      exact ⟨rfl, rfl, rfl, Option.some.inj h2'⟩
    | ref k cs ks R _ _ => obtain ⟨did, l, d, a, mm, v, r, _, _, _⟩ := R; exact (kind_ne (k := 8) (k' := 9) h1 r rfl rfl (by decide)).elim
    | top x _ r _ _ _ _ _ _ => exact (kind_ne (k := 8) (k' := 1) h1 r rfl rfl (by decide)).elim
  | ref k cs ks R hr hmd =>
    obtain ⟨did, l, d, a, mm, v, h1, h2, h3, h4⟩ := R
    cases g' with
    | obj cs' ks' r _ _ => exact (kind_ne (k := 9) (k' := 8) h1 r rfl rfl (by decide)).elim
    | top x _ r _ _ _ _ _ _ => exact (kind_ne (k := 9) (k' := 1) h1 r rfl rfl (by decide)).elim
    | ref k' cs' ks' R' hr' hmd' =>
      obtain ⟨did', l', d', a', mm', v', h1', h2', h3', h4'⟩ := R'
      rw [h1] at h1'
      cases h1'
      rw [h2] at h2'
      cases h2'
      have e1 := H.obj _ _ h3
      rw [H.obj _ _ h3'] at e1
      cases e1
      have e2 := H.obj _ _ h4
      rw [H.obj _ _ h4'] at e2
      cases e2
      rw [hr] at hr'
      obtain ⟨rfl, _, rfl, rfl⟩ := objRow_inj (Option.some.inj hr')
      exact ⟨rfl, rfl, rfl, hmd.trans hmd'.symm⟩
  | top x ht r _ e1 e2 e3 e4 _ =>
    cases g' with
    | obj cs' ks' r' _ _ => exact (kind_ne (k := 1) (k' := 8) r r' rfl rfl (by decide)).elim
    | ref k cs ks R _ _ => obtain ⟨did, l, d, a, mm, v, r', _, _, _⟩ := R; exact (kind_ne (k := 1) (k' := 9) r r' rfl rfl (by decide)).elim
    | top x _ _ _ e1' e2' e3' e4' _ => exact ⟨e1.trans e1'.symm, e2.trans e2'.symm, e3.trans e3'.symm, e4.trans e4'.symm⟩
/-- the bound of a parameter -/
noncomputable def bdW (W : Wd) (t : Nat) : Int := (((W.rows[t]?).bind fun r => (itemV r (.int 1)).bind intOf).bind fun p => (W.bounds[p.toNat]?).bind intOf).getD 0
theorem ParIs.bd {t : Nat} {b : Int} (h : ParIs W t b) : bdW W t = b := by
  obtain ⟨p, h1, h2⟩ := h
  unfold bdW
  rw [h1]
  show ((W.bounds[((p : Nat) : Int).toNat]?).bind intOf).getD 0 = b
  rw [Int.toNat_natCast, h2]; rfl
/-- of what sort an id is -/
noncomputable def cdW (W : Wd) (t : Nat) : Int :=
  if t = 0 ∨ t = 13 then 5 else if t = 4 ∨ t = 5 then 1 else if t = 6 ∨ t = 7 ∨ t = 3 ∨ t = 19 ∨ t = 1 then 3 else
  if kdW W t = 11 then 4 else if kdW W t = 10 then (if bdW W t < 0 then 6 else if bdW W t = 6 ∨ bdW W t = 5 then 3 else if kdW W (bdW W t).toNat = 11 then 4 else 6) else 0
theorem cd_of {t : Nat} (h1 : ¬ (t = 0 ∨ t = 13)) (h2 : ¬ (t = 4 ∨ t = 5)) (h3 : ¬ (t = 6 ∨ t = 7 ∨ t = 3 ∨ t = 19 ∨ t = 1)) : cdW W t = if kdW W t = 11 then 4 else if kdW W t = 10 then (if bdW W t < 0 then 6 else if bdW W t = 6 ∨ bdW W t = 5 then 3 else if kdW W (bdW W t).toNat = 11 then 4 else 6) else 0 := by
  unfold cdW; rw [if_neg h1, if_neg h2, if_neg h3]
theorem high_of (B : Stem W) {t : Nat} {r : FV} {k : Int} (h : W.rows[t]? = some r) (hk : itemV r (.int 0) = some (.int k)) (n1 : k ≠ 1) (n2 : k ≠ 3) : ¬ (t = 0 ∨ t = 13) ∧ ¬ (t = 4 ∨ t = 5) ∧ ¬ (t = 6 ∨ t = 7 ∨ t = 3 ∨ t = 19 ∨ t = 1) := by
  have b := fun (i : Nat) {r' : FV} (e : baseR[i]? = some r') (he : itemV r' (.int 0) = some (.int 1)) => base_ne B (i := i) h e hk he n1
  refine ⟨fun e => ?_, fun e => ?_, fun e => ?_⟩
  · rcases e with e | e; exact b 0 rfl rfl e; exact b 13 rfl rfl e
  · rcases e with e | e; exact b 4 rfl rfl e; exact b 5 rfl rfl e
  · rcases e with e | e | e | e | e; exact b 6 rfl rfl e; exact b 7 rfl rfl e; exact b 3 rfl rfl e; exact base_ne B (i := 19) h rfl hk (k' := 3) rfl n2 e; exact b 1 rfl rfl e
theorem kd_row {t : Nat} {r : FV} {k : Int} (h : W.rows[t]? = some r) (hk : itemV r (.int 0) = some (.int k)) : kdW W t = k := by unfold kdW; rw [h]; show ((itemV r (.int 0)).bind intOf).getD 0 = k; rw [hk]; rfl
theorem cd_par (B : Stem W) {t : Nat} {b : Int} (h : ParIs W t b) : cdW W t = if b < 0 then 6 else if b = 6 ∨ b = 5 then 3 else if kdW W b.toNat = 11 then 4 else 6 := by
  have hb := h.bd
  obtain ⟨p, h1, _⟩ := h
  obtain ⟨a1, a2, a3⟩ := high_of B (k := 10) h1 rfl (by decide) (by decide)
  rw [cd_of a1 a2 a3, kd_row h1 rfl, hb, if_neg (by decide), if_pos rfl]
theorem cd_thing (B : Stem W) {t sh : Nat} {ps : List Pr} {s m : FV} {md : Bool} (g : Thing W t ps s m md sh) : cdW W t = 0 ∧ kdW W t ≠ 11 ∧ t ≠ 6 ∧ t ≠ 5 := by
  have fin : ∀ {r : FV} {k : Int}, W.rows[t]? = some r → itemV r (.int 0) = some (.int k) → k = 8 ∨ k = 9 → cdW W t = 0 ∧ kdW W t ≠ 11 ∧ t ≠ 6 ∧ t ≠ 5 := fun h hk e => by
    obtain ⟨a1, a2, a3⟩ := high_of B h hk (by omega) (by omega)
    rw [cd_of a1 a2 a3, kd_row h hk, if_neg (by lia), if_neg (by lia)]
    lia
  cases g with
  | obj cs ks h1 _ _ => exact fin (k := 8) h1 rfl (.inl rfl)
  | ref k cs ks R _ _ => obtain ⟨did, l, d, a, mm, v, r, _, _, _⟩ := R; exact fin (k := 9) r rfl (.inr rfl)
  | top x ht r _ _ _ _ _ _ =>
    subst ht
    rw [cd_of (by decide) (by decide) (by decide), kd_row (k := 1) r rfl]
    exact ⟨rfl, by decide, by decide, by decide⟩
theorem PartIs.code (B : Stem W) {tk : List PySem.Str} {one : FV} {t : Nat} (P : PartIs W tk one t) : itemV one (.int 0) = some (.int (cdW W t)) := by
  cases P with
  | thing h => rw [(cd_thing B h.thing).1]; rfl
  | nul h => unfold cdW; rw [if_neg (by omega), if_pos h]; rfl
  | prim h => unfold cdW; rw [if_neg (by lia), if_neg (by lia), if_pos h]; rfl
  | pstr h hb => rw [cd_par B h, if_neg (by lia), if_pos hb]; rfl
  | arr h =>
    obtain ⟨a1, a2, a3⟩ := high_of B (k := 11) h rfl (by decide) (by decide)
    rw [cd_of a1 a2 a3, kd_row (k := 11) h rfl]; rfl
  | @parr _ b h ha =>
    have k11 := kd_row (k := 11) ha rfl
    obtain ⟨a1, a2, a3⟩ := high_of B (k := 11) ha rfl (by decide) (by decide)
    rw [cd_par B h, if_neg (by omega), if_neg (by lia), Int.toNat_natCast, k11]; rfl
  | top h => unfold cdW; rw [if_pos h]; rfl
  | opn h _ => rw [cd_par B h]; rfl
  | @opt _ _ _ b _ _ _ h th _ =>
    obtain ⟨_, k11, b6, b5⟩ := cd_thing B th.thing
    rw [cd_par B h, if_neg (by omega), if_neg (by lia), Int.toNat_natCast, if_neg k11]; rfl
end
section
variable {n : Nat} {W W' W'' : Wd} {L L' : List (Nat × MO)} {σ : Store} {l c : Nat}
noncomputable def cellM (W : Wd) : FV → FV
  | .tup [.int k, .int r] => .tup [.int (mskW W k), .int r]
  | _ => .tup []
noncomputable def shapeOf (W : Wd) (tk : List PySem.Str) (ps : List Pr) (s m : FV) (md : Bool) : FV := .tup [.tup ((restP md tk ps).map (prM W)), cellM W s, cellM W m]
theorem lid_cell {h kc k : Nat} (hk : 2 < k) (hc : 2 < sideH h → KindIs W kc (heldH h)) : lidH h k = cellM W (cellK h kc k) ∧ Cell W (cellK h kc k) (cellM W (cellK h kc k)) := by
  unfold lidH cellK
  by_cases e : sideH h = k
  · rw [if_pos e, if_pos e]
    have ki := hc (by omega)
    refine ⟨?_, .is ⟨kc, heldH h, rfl, ki⟩⟩
    show _ = FV.tup [.int (mskW W kc), _]
    rw [ki.eq]
  · rw [if_neg e, if_neg e]
    exact ⟨rfl, .no⟩
theorem hope_is {tk : List PySem.Str} {h rl t kc sh : Nat} {ts : List Tn} (th : ThingP W h rl t ts kc sh) : hopeF tk h ts = shapeOf W tk (prs ts) (cellK h kc 3) (cellK h kc 4) (shutH h) := by
  unfold hopeF shapeOf
  rw [rest_out th.tn th.three, (lid_cell (k := 3) (by decide) th.kind).1, (lid_cell (k := 4) (by decide) th.kind).1]
theorem ThingP.same (H : Is W L σ) {tk : List PySem.Str} {h h' rl rl' t kc kc' sh sh' : Nat} {ts ts' : List Tn} (a : ThingP W h rl t ts kc sh) (b : ThingP W h' rl' t ts' kc' sh') : hopeF tk h ts = hopeF tk h' ts' ∧ (outR (shutH h) tk ts).length = (outR (shutH h') tk ts').length ∧ restP (shutH h) tk (prs ts) = restP (shutH h') tk (prs ts') := by
  obtain ⟨e1, e2, e3, e4⟩ := Thing.det H a.thing b.thing
  rw [hope_is a, hope_is b, rest_out a.tn a.three, rest_out b.tn b.three, e1, e2, e3, e4]
  exact ⟨rfl, rfl, rfl⟩
/-- what a part adds, by its sort -/
theorem Con.val (B : Stem W) {tk : List PySem.Str} {one : FV} {t : Nat} {hs : List FV} {bs : List Bool} {nt : Bool} (P : PartIs W tk one t) (c : Con W tk one t hs bs nt) :
    (cdW W t = 5 ∧ hs = [] ∧ bs = [] ∧ nt = false) ∨ ((cdW W t = 1 ∨ cdW W t = 3) ∧ hs = [] ∧ bs = [false] ∧ nt = false) ∨ (cdW W t = 4 ∧ hs = [] ∧ bs = [true] ∧ nt = false) ∨ (cdW W t = 6 ∧ hs = [parF t] ∧ bs = [] ∧ nt = true) ∨
    (cdW W t = 0 ∧ bs = [] ∧ ∃ h rl ts kc sh, ThingP W h rl t ts kc sh ∧ hs = [hopeF tk h ts] ∧ nt = decide ((0 : Int) < ((outR (shutH h) tk ts).length : Nat))) := by
  have code := P.code B
  have e : ∀ k : Int, itemV one (.int 0) = some (.int k) → cdW W t = k := fun k h => by rw [code] at h; exact FV.int.inj (Option.some.inj h)
  cases c with
  | thing th => exact .inr (.inr (.inr (.inr ⟨e 0 rfl, rfl, _, _, _, _, _, th, rfl, rfl⟩)))
  | opn _ => exact .inr (.inr (.inr (.inl ⟨e 6 rfl, rfl, rfl, rfl⟩)))
  | arr => exact .inr (.inr (.inl ⟨e 4 rfl, rfl, rfl, rfl⟩))
  | @bad k _ hk => exact .inr (.inl ⟨by rw [e k rfl]; exact hk, rfl, rfl, rfl⟩)
  | top _ => exact .inl ⟨e 5 rfl, rfl, rfl, rfl⟩
theorem Con.det (H : Is W L σ) (B : Stem W) {tk : List PySem.Str} {one one' : FV} {t : Nat} {hs hs' : List FV} {bs bs' : List Bool} {nt nt' : Bool} (P : PartIs W tk one t) (P' : PartIs W tk one' t) (c : Con W tk one t hs bs nt) (c' : Con W tk one' t hs' bs' nt') : hs = hs' ∧ bs = bs' ∧ nt = nt' := by
  rcases c.val B P with ⟨k, rfl, rfl, rfl⟩ | ⟨k, rfl, rfl, rfl⟩ | ⟨k, rfl, rfl, rfl⟩ | ⟨k, rfl, rfl, rfl⟩ | ⟨k, rfl, h, rl, ts, kc, sh, th, rfl, rfl⟩ <;>
  rcases c'.val B P' with ⟨k', rfl, rfl, rfl⟩ | ⟨k', rfl, rfl, rfl⟩ | ⟨k', rfl, rfl, rfl⟩ | ⟨k', rfl, rfl, rfl⟩ | ⟨k', rfl, h', rl', ts', kc', sh', th', rfl, rfl⟩ <;> first | exact ⟨rfl, rfl, rfl⟩ | (exfalso; lia) | skip
  obtain ⟨e1, e2, _⟩ := th.same H (tk := tk) th'
  rw [e1, e2]
  exact ⟨rfl, rfl, rfl⟩
/-- what an id's shape is told to be -/
inductive ShOf (W : Wd) : Nat → FV → Prop
  | par {r p : Nat} : W.rows[r]? = some (.tup [.int 10, .int p]) → ShOf W r (parF r)
  | obj {r : Nat} {ps : List Pr} {s m s' m' : FV} : W.rows[r]? = some (objRow ps (.tup []) (.tup []) s m) → ps.length ≤ 3 → (∀ p ∈ ps, Mk W p.k) → Cell W s s' → Cell W m m' → ShOf W r (.tup [.tup (ps.map (prM W)), s', m'])
/-- what is made agrees with what is hoped -/
theorem out_con {tk : List PySem.Str} {one : FV} {t r : Nat} {f : Option Bool} {nt : Bool} (o : Out W tk one t r f nt) : ∃ hs, Con W tk one t hs f.toList nt ∧ ((f ≠ none ∧ r = 13 ∧ hs = []) ∨ (f = none ∧ (t = 0 ∨ t = 13) ∧ r = t ∧ hs = []) ∨ (f = none ∧ ∃ v, hs = [v] ∧ ShOf W r v)) := by
  cases o with
  | top h => exact ⟨[], .top h, .inr (.inl ⟨rfl, h, rfl, rfl⟩)⟩
  | bad h => exact ⟨[], .bad h, .inl ⟨by simp, rfl, rfl⟩⟩
  | arr => exact ⟨[], .arr, .inl ⟨by simp, rfl, rfl⟩⟩
  | opn h => exact ⟨[parF t], .opn h, .inr (.inr ⟨rfl, _, rfl, let ⟨p, h1, _⟩ := h; .par h1⟩)⟩
  | @thing h rl _ _ kc sh ts th hr =>
    have e : (!(restP (shutH h) tk (prs ts)).isEmpty) = decide ((0 : Int) < ((outR (shutH h) tk ts).length : Nat)) := by
      rw [rest_out th.tn th.three, List.length_map]
      cases restP (shutH h) tk (prs ts) with
      | nil => rfl
      | cons a l => simp
    rw [e]
    refine ⟨[hopeF tk h ts], .thing th, .inr (.inr ⟨rfl, _, rfl, ?_⟩)⟩
    rw [hope_is th]
    refine .obj hr ?_ (fun p hp => ?_) (lid_cell (by decide) th.kind).2 (lid_cell (by decide) th.kind).2
    · unfold restP
      rw [List.length_map]
      refine Nat.le_trans (List.length_filter_le _ _) (Nat.le_trans (List.length_filter_le _ _) (Nat.le_trans (prs_len ts) ?_))
      rw [th.three]; lia
    · unfold restP at hp
      obtain ⟨p', h1, rfl⟩ := List.mem_map.mp hp
      have h2 := (List.mem_filter.mp (List.mem_filter.mp h1).1).1
      rw [prs_live] at h2
      obtain ⟨t', h3, rfl⟩ := List.mem_map.mp h2
      obtain ⟨h4, h5⟩ := List.mem_filter.mp h3
      exact ⟨t'.kid, maskY t'.y, rfl, th.tn.kind t' h4 (by simpa using h5)⟩
theorem s_shape1 {Q : FV → Store → Prop} {r : Nat} {v : FV} (H : Is W L σ) (z : W.rows.length ≤ lim) (s : ShOf W r v) (q : ∀ σ', Is W L σ' → Q v σ') : RunT 8 (run X (n + 41) (.st (.ref 1274)) [.ref 5, .ref 17, .int r]) σ Q := by
  cases s with
  | par h => exact s_pshape H z h (q σ H)
  | obj h h3 hp hs hm => exact s_mshape H z h h3 hp hs hm q
end
section
variable {n : Nat} {W W' W'' : Wd} {L L' : List (Nat × MO)} {σ : Store} {l c : Nat}
theorem whole_of (B : Stem W) {tk : List PySem.Str} {one : FV} {t : Nat} (P : PartIs W tk one t) : (t = 19 ∧ wholeK (kdW W t) = 6) ∨ wholeK (kdW W t) = -1 := by
  have key : ∀ {i : Nat} {x : FV}, baseR[i]? = some (.tup [.int 1, x]) → wholeK (kdW W i) = -1 := fun e => by rw [kd_row (k := 1) (B.at e) rfl]; rfl
  have par : ∀ {b : Int}, ParIs W t b → wholeK (kdW W t) = -1 := fun h => by obtain ⟨p, h1, _⟩ := h; rw [kd_row (k := 10) h1 rfl]; rfl
  cases P with
  | top h => rcases h with rfl | rfl <;> exact .inr (key rfl)
  | nul h => rcases h with rfl | rfl <;> exact .inr (key rfl)
  | prim h =>
    rcases h with rfl | rfl | rfl | rfl | rfl
    · exact .inr (key rfl)
    · exact .inr (key rfl)
    · exact .inr (key rfl)
    · exact .inl ⟨rfl, by rw [kd_row (k := 3) (B.at (i := 19) rfl) rfl]; rfl⟩
    · exact .inr (key rfl)
  | pstr h _ => exact .inr (par h)
  | arr h => rw [kd_row (k := 11) h rfl]; exact .inr rfl
  | parr h _ => exact .inr (par h)
  | opn h _ => exact .inr (par h)
  | opt h _ _ => exact .inr (par h)
  | thing th =>
    refine .inr ?_
    cases th.thing with
    | obj cs ks h1 _ _ => rw [kd_row (k := 8) h1 rfl]; rfl
    | ref k cs ks R _ _ => obtain ⟨did, l, d, a, mm, v, r, _, _, _⟩ := R; rw [kd_row (k := 9) r rfl]; rfl
    | top x ht r _ _ _ _ _ _ => rw [kd_row (k := 1) r rfl]; rfl
/-- what was done and what was reckoned are the same -/
noncomputable def Same (W : Wd) (o : Od) (d : Cd) : Prop := o.f.toList = d.bs ∧ o.nt = d.nt ∧ ((o.f ≠ none ∧ o.r = 13 ∧ d.hs = []) ∨ (o.f = none ∧ (o.t = 0 ∨ o.t = 13) ∧ o.r = o.t ∧ d.hs = []) ∨ (o.f = none ∧ ∃ v, d.hs = [v] ∧ ShOf W o.r v))
theorem same_of (H : Is W L σ) (B : Stem W) {tk : List PySem.Str} {o : Od} {d : Cd} (P : PartIs W tk o.one o.t) (P' : PartIs W tk d.p.1 d.p.2) (out : Out W tk o.one o.t o.r o.f o.nt) (c : d.ok W tk) (e : o.t = d.p.2) : Same W o d := by
  obtain ⟨hs, c1, h⟩ := out_con out
  unfold Cd.ok at c
  rw [← e] at P' c
  obtain ⟨e1, e2, e3⟩ := c1.det H B P P' c
  rw [e1] at h
  exact ⟨e2, e3, h⟩
theorem link (H : Is W L σ) (B : Stem W) {tk : List PySem.Str} {ps : Ps} {ks : List Nat} {kd : Nat → Int} {cs : List Cd} {os : List Od} (P : ∀ p ∈ ps, PartIs W tk p.1 p.2) (hcs : cs.map (·.p) = ps.filter fun p => keepT tk p.2) (ok : ∀ d ∈ cs, d.ok W tk)
    (ht : os.map (·.t) = ks.filter (keepT tk)) (out : ∀ o ∈ os, PartIs W tk o.one o.t ∧ Out W tk o.one o.t o.r o.f o.nt ∧ (o.one, o.t) ∈ ps) (mem : ∀ x, x ∈ ks ↔ x ∈ ps.map (·.2) ∧ wholeK (kd x) ∉ (ps.map (·.2)).map (fun (t : Nat) => (t : Int)))
    (hkd : ∀ p ∈ ps, (p.2 = 19 ∧ wholeK (kd p.2) = 6) ∨ wholeK (kd p.2) = -1) : (∀ d ∈ cs, ∃ o ∈ os, Same W o d) ∧ ∀ o ∈ os, ∃ d ∈ cs, Same W o d := by
  have osof : ∀ x ∈ ks, keepT tk x = true → ∃ o ∈ os, o.t = x := fun x hx hk => by
    have : x ∈ os.map (·.t) := by rw [ht]; exact List.mem_filter.mpr ⟨hx, hk⟩
    exact List.mem_map.mp this
  constructor
  · intro d hd
    have hp : d.p ∈ ps.filter fun p => keepT tk p.2 := by rw [← hcs]; exact List.mem_map.mpr ⟨d, hd, rfl⟩
    obtain ⟨hp, hk⟩ := List.mem_filter.mp hp
    by_cases hin : d.p.2 ∈ ks
    · obtain ⟨o, ho, e⟩ := osof _ hin hk
      exact ⟨o, ho, same_of H B (out o ho).1 (P d.p hp) (out o ho).2.1 (ok d hd) e⟩
    · have habs : wholeK (kd d.p.2) ∈ (ps.map (·.2)).map (fun (t : Nat) => (t : Int)) := by
        by_cases h : wholeK (kd d.p.2) ∈ (ps.map (·.2)).map (fun (t : Nat) => (t : Int))
        · exact h
        · exact absurd ((mem _).mpr ⟨List.mem_map.mpr ⟨_, hp, rfl⟩, h⟩) hin
      obtain ⟨x, hx, ex⟩ := List.mem_map.mp habs
      obtain ⟨p6, h6, e6⟩ := List.mem_map.mp hx
      rcases hkd d.p hp with ⟨e19, ew⟩ | ew
      · have x6 : x = 6 := by lia
        subst x6
        have k6 : 6 ∈ ks := by
          refine (mem 6).mpr ⟨hx, fun h => ?_⟩
          rcases hkd p6 h6 with ⟨h', _⟩ | h'
          · lia
          · rw [e6] at h'
            rw [h'] at h
            obtain ⟨y, _, ey⟩ := List.mem_map.mp h
            lia
        obtain ⟨o, ho, e⟩ := osof 6 k6 (by unfold keepT; simp)
        refine ⟨o, ho, ?_⟩
        obtain ⟨hs, c1, h⟩ := out_con (out o ho).2.1
        have v1 := c1.val B (out o ho).1
        have v2 := (ok d hd).val B (P d.p hp)
        rw [e] at v1
        rw [e19] at v2
        have c6 : cdW W 6 = 3 := rfl
        have c19 : cdW W 19 = 3 := rfl
        rw [c6] at v1
        rw [c19] at v2
        rcases v1 with ⟨k, _⟩ | ⟨_, hh, hb, hn⟩ | ⟨k, _⟩ | ⟨k, _⟩ | ⟨k, _⟩ <;> first | (exfalso; revert k; decide) | skip
        rcases v2 with ⟨k, _⟩ | ⟨_, hh', hb', hn'⟩ | ⟨k, _⟩ | ⟨k, _⟩ | ⟨k, _⟩ <;> first | (exfalso; revert k; decide) | skip
        refine ⟨hb.trans hb'.symm, hn.trans hn'.symm, ?_⟩
        rw [hh']
        rw [hh] at h
        exact h
      · lia
  · intro o ho
    have ht' : o.t ∈ ks.filter (keepT tk) := by rw [← ht]; exact List.mem_map.mpr ⟨o, ho, rfl⟩
    have : (o.one, o.t) ∈ cs.map (·.p) := by rw [hcs]; exact List.mem_filter.mpr ⟨(out o ho).2.2, (List.mem_filter.mp ht').2⟩
    obtain ⟨d, hd, e⟩ := List.mem_map.mp this
    have hp : d.p ∈ ps := by rw [e]; exact (out o ho).2.2
    exact ⟨d, hd, same_of H B (out o ho).1 (P d.p hp) (out o ho).2.1 (ok d hd) (by rw [e])⟩
end
section
variable {n : Nat} {W W' W'' : Wd} {L L' : List (Nat × MO)} {σ : Store} {l c : Nat}
theorem rowD_inj {a b : Bool} (h : rowD a = rowD b) : a = b := by
  cases a <;> cases b <;> first | rfl | (unfold rowD fNum at h; simp at h)
theorem srt_D (bs : List Bool) : Srt (bs.map rowD) := by
  refine ⟨fun x hx => ?_, fun x hx y hy => ?_, 1, .inl rfl, fun x hx => ?_⟩
  · obtain ⟨b, _, rfl⟩ := List.mem_map.mp hx; cases b <;> rfl
  · obtain ⟨a, _, rfl⟩ := List.mem_map.mp hx; obtain ⟨b, _, rfl⟩ := List.mem_map.mp hy; cases a <;> cases b <;> rfl
  · obtain ⟨b, _, rfl⟩ := List.mem_map.mp hx; cases b <;> rfl
theorem weak_strict {ys : List FV} (s : Srt ys) (w : Weak ys) (nd : ys.Nodup) : Strict ys := by
  have := List.pairwise_and_iff.mpr ⟨w, nd⟩
  refine this.imp_of_mem fun {a b} ha hb h => ?_
  rcases lt_or (s.hk a ha) (s.hk b hb) (s.like a ha b hb) h.1 with e | e
  · exact absurd (eqF_eq _ _ e) h.2
  · exact e
theorem eqL_same {ys : List FV} (s : Srt ys) : eqL ys ys = some true := by
  have h := hkL_of s.hk
  unfold eqL
  rw [if_pos (by rw [h, eqFs_refl 6 ys h]; rfl)]
theorem s_row {Q : FV → Store → Prop} {l d : Nat} {b : Bool} (h1 : σ[l]? = some (.ins 106 d)) (h2 : σ[d]? = some (.att (diagA (fNum b) (fArg b)))) (q : Q (rowD b) σ) : RunT 8 (run X (n + 1) (.st (.ref 103)) [.ref l]) σ Q := by
  refine r_go [("self", .ref l)] rfl rfl rfl ?_
  refine r_attr (r := .int (fNum b)) h1 h2 rfl rfl rfl (r_attr (r := .int 1) h1 h2 rfl rfl rfl (r_attr (r := fArg b) h1 h2 rfl rfl (by cases b <;> rfl) ?_))
  exact q
theorem s_e15 {pl ll tl hl : Nat} {got : Int} {noted : Bool} {hs : List FV} {bs B : List Bool} {Q : Fl → Lc → Store → Prop} (H : Is W ((hl, .lst hs) :: (tl, .lst (B.map rowD)) :: L) σ) (D : Dg W W.diags bs) (nd : bs.Nodup) (hB : ∀ b, b ∈ bs ↔ b ∈ B) (zB : B.length ≤ 3)
    (q : ∀ σ', Is W ((hl, .lst hs) :: (tl, .lst (B.map rowD)) :: L) σ' → wexs X (run X (n + 59)) (n + 60) ((fBody (stm 160)).drop 16) (envOf (stm 160) (lE bi pl got ll tl noted hl)) Q σ') :
    wexs X (run X (n + 59)) (n + 60) ((fBody (stm 160)).drop 15) (envOf (stm 160) (lE bi pl got ll tl noted hl)) Q σ := by
  have l3 : ∀ {m : Nat}, m ≤ 3 → m ≤ lim := fun h => Nat.le_trans ‹_› (Nat.le_of_ble_eq_true rfl)
  have z2 := nd_two nd
  have dl := D.len
  walk_at "a"
  walk_at "a"
  refine r_itemsC_l (xs := W.diags) (by walk_at "at") (l3 (by omega)) ?_
  refine comp_list (xs := W.diags) (P := fun i out σ' => σ' = σ ∧ out = (bs.take i).map rowD) (fun i out σ' K ⟨e, _⟩ k => by subst e; exact r_items_l (xs := W.diags) (by walk_at "at") k) ?_ ?_ _ 0 _ _ ⟨rfl, rfl⟩ (Nat.zero_le _) (by lia)
  · rintro i x out σ' K' ⟨rfl, rfl⟩ hx next
    obtain ⟨l, d, b, rfl, o1, o2, hb⟩ := D.get hx
    have p1 := H.obj _ _ o1
    have p2 := H.obj _ _ o2
    refine IfB.t rfl (r_cal_i p1 p2 rfl rfl (r_met (s_row p1 p2 ?_)))
    refine ⟨l3 (by rw [List.length_map, List.length_take]; lia), next _ _ ⟨rfl, ?_⟩⟩
    rw [List.take_add_one, hb, List.map_append]; rfl
  · rintro out σ' ⟨rfl, rfl⟩
    rw [dl, List.take_length]
    refine r_alloc H fun k σ1 H1 => ?_
    obtain ⟨ys, hys, perm, weak⟩ := sortM_w (srt_D bs) (by rw [List.length_map]; lia)
    refine r_sorted_l H1 (by walk_at "at") hys fun k2 σ2 H2 => ?_
    refine s_once H2 (.tail _ (.tail _ (.tail _ (.head _)))) (srt_D B) (by rw [List.length_map]; exact zB) fun ol zs σ3 st mem H3 => ?_
    have sy : Srt ys := (srt_D bs).sub fun y h => perm.mem_iff.mp h
    have ndm : (bs.map rowD).Nodup := List.pairwise_map.mpr (nd.imp fun h e => h (rowD_inj e))
    have e : ys = zs := (weak_strict sy weak (perm.nodup_iff.mpr ndm)).ext st sy.hk fun x => by
      rw [perm.mem_iff, mem, List.mem_map, List.mem_map]
      exact ⟨fun ⟨b, h, e⟩ => ⟨b, (hB b).mp h, e⟩, fun ⟨b, h, e⟩ => ⟨b, (hB b).mpr h, e⟩⟩
    subst e
    refine r_ne_l (xs := ys) (ys := ys) (by walk_at "at") (by walk_at "at") (eqL_same sy) (IfB.f rfl ?_)
    exact q σ3 H3.drop.drop.drop
theorem s_e16 {pl ll tl hl : Nat} {got : Int} {noted : Bool} {Q : Fl → Lc → Store → Prop} (H : Is W L σ) (hn : ∀ x ∈ W.notes, x = noteF) (hnn : decide ((0 : Int) < (W.notes.length : Nat)) = noted) (zn : W.notes.length ≤ 1000)
    (q : ∀ σ', Is W L σ' → wexs X (run X (n + 59)) (n + 60) ((fBody (stm 160)).drop 17) (envOf (stm 160) (lE bi pl got ll tl noted hl)) Q σ') :
    wexs X (run X (n + 59)) (n + 60) ((fBody (stm 160)).drop 16) (envOf (stm 160) (lE bi pl got ll tl noted hl)) Q σ := by
  have ln : W.notes.length ≤ lim := Nat.le_trans ‹_› (Nat.le_of_ble_eq_true rfl)
  walk_at "a"
  walk_at "a"
  refine r_len_l (xs := W.notes) (by walk_at "at") ln (r_cmp rfl ?_)
  have ne : ∀ a b : Bool, a = b → cmpV .NotEq (.bool a) (.bool b) = some false := fun a b e => by subst e; cases a <;> rfl
  refine r_cmp (ne _ _ hnn) (IfB.f rfl ?_)
  walk_at "a"
  walk_at "a"
  refine r_itemsC_l (xs := W.notes) (by walk_at "at") ln ?_
  refine comp_pick (xs := W.notes) (g := fun _ => none) (fun K k => r_items_l (xs := W.notes) (by walk_at "at") k) (fun x hx out K hl k => ?_) ?_ _ (by lia)
  · rw [hn x hx]
    exact r_cmp rfl (IfB.f rfl (IfB.f rfl (by simpa using k)))
  · have e : W.notes.filterMap (fun _ => (none : Option FV)) = [] := by simp
    rw [e]
    refine r_alloc H fun k σ1 H1 => r_len_l (xs := []) (by walk_at "at") (by walk_at "z") (r_cmp rfl (IfB.f rfl (IfB.f rfl ?_)))
    exact q σ1 H1.drop
end
section
variable {n : Nat} {W W' W'' : Wd} {L L' : List (Nat × MO)} {σ : Store} {l c : Nat}
/-- how law ends -/
inductive EndIs (W : Wd) (left : Ps) (B : List Bool) (hs : List FV) (got : Nat) : Prop
  | any {p : FV × Nat} {r : Ps} : left = p :: r → p.2 = 0 → got = 0 → EndIs W left B hs got
  | none : left = [] → got = 13 → EndIs W left B hs got
  | err {p : FV × Nat} {r : Ps} : left = p :: r → p.2 ≠ 0 → (B ≠ [] ∨ p.2 = 13) → got = 13 → EndIs W left B hs got
  | ok {p : FV × Nat} {r : Ps} {ks : List Nat} {vs : List FV} : left = p :: r → p.2 ≠ 0 → p.2 ≠ 13 → B = [] → PartsOf W got ks → ks.length ≤ 3 → vs.length = ks.length → (∀ (i k : Nat) (v : FV), ks[i]? = some k → vs[i]? = some v → ShOf W k v) → (∀ x, x ∈ vs ↔ x ∈ hs) → Srt hs → hs.length ≤ 3 → EndIs W left B hs got
noncomputable def retT : Fl → Lc → Store → Prop := endQ fun v _ => v = .bool true
theorem s_e19 {pl ll tl hl got : Nat} {noted : Bool} {hs vs : List FV} {ks : List Nat} (H : Is W L σ) (hh : (hl, MO.lst hs) ∈ L) (z : W.rows.length ≤ lim) (P : PartsOf W got ks) (k3 : ks.length ≤ 3) (hv : vs.length = ks.length) (sh : ∀ (i k : Nat) (v : FV), ks[i]? = some k → vs[i]? = some v → ShOf W k v) (mem : ∀ x, x ∈ vs ↔ x ∈ hs) (s : Srt hs) (h3 : hs.length ≤ 3) :
    wexs X (run X (n + 59)) (n + 60) ((fBody (stm 160)).drop 19) (envOf (stm 160) (lE bi pl got ll tl noted hl)) retT σ := by
  have l3 : ∀ {m : Nat}, m ≤ 3 → m ≤ lim := fun h => Nat.le_trans ‹_› (Nat.le_of_ble_eq_true rfl)
  have il : (idsF ks).length = ks.length := by unfold idsF; simp
  refine r_cmp (a := .int (got : Int)) (k := decide ((0 : Int) ≤ (got : Int))) rfl (r_truth rfl (IfB.t (rfl) ?_))
  refine s_parts3 H P z (r_itemsC (xs := idsF ks) rfl (l3 (by omega)) ?_)
  refine comp_list (xs := idsF ks) (P := fun i out σ' => i ≤ ks.length ∧ out = vs.take i ∧ Is W L σ') (fun i out σ' K _ k => r_items rfl k) ?_ ?_ _ 0 _ _ ⟨by lia, rfl, H⟩ (Nat.zero_le _) (by lia)
  · rintro i x out σ1 K' ⟨_, rfl, H1⟩ hx next
    unfold idsF at hx
    rw [List.getElem?_map] at hx
    cases hy : ks[i]? with
    | none => rw [hy] at hx; cases hx
    | some t =>
      rw [hy] at hx
      have hx : x = .int (t : Int) := by simpa using hx.symm
      subst hx
      have hi := (List.getElem?_eq_some_iff.mp hy).1
      obtain ⟨v, hvv⟩ : ∃ v, vs[i]? = some v := ⟨_, List.getElem?_eq_getElem (by omega)⟩
      refine IfB.t rfl (s_shape1 H1 z (sh i t v hy hvv) fun σ2 H2 => ?_)
      refine ⟨l3 (by rw [List.length_take]; lia), next _ _ ⟨by assumption, ?_, H2⟩⟩
      rw [List.take_add_one, hvv]; rfl
  · rintro out σ1 ⟨_, rfl, H1⟩
    rw [il, ← hv, List.take_length]
    refine r_alloc H1 fun k σ2 H2 => ?_
    have sv : Srt vs := s.sub fun y h => (mem y).mp h
    refine s_once H2 (.head _) sv (by omega) fun o1 z1 σ3 st1 m1 H3 => ?_
    refine s_once H3 (.tail _ (.tail _ hh)) s h3 fun o2 z2 σ4 st2 m2 H4 => ?_
    have e : z1 = z2 := st1.ext st2 (fun x h => sv.hk x ((m1 x).mp h)) fun x => by rw [m1, m2, mem]
    subst e
    refine r_eq_l (xs := z1) (ys := z1) (H4.loc _ _ (.tail _ (.head _))) (H4.loc _ _ (.head _)) (eqL_same (sv.sub fun y h => (m1 y).mp h)) ?_
    exact rfl
theorem s_end {pl ll tl hl got : Nat} {noted : Bool} {hs : List FV} {B : List Bool} {left : Ps} (H : Is W L σ) (hh : (hl, MO.lst hs) ∈ L) (ht : (tl, MO.lst (B.map rowD)) ∈ L) (hll : (ll, MO.lst (left.map (·.1))) ∈ L) (z : W.rows.length ≤ lim) (two : ∀ p ∈ left, itemV p.1 (.int 2) = some (.int p.2)) (zl : left.length ≤ 3) (zb : B.length ≤ 3) (e : EndIs W left B hs got) :
    wexs X (run X (n + 59)) (n + 60) ((fBody (stm 160)).drop 17) (envOf (stm 160) (lE bi pl got ll tl noted hl)) retT σ := by
  have l3 : ∀ {m : Nat}, m ≤ 3 → m ≤ lim := fun h => Nat.le_trans ‹_› (Nat.le_of_ble_eq_true rfl)
  have zll : (left.map (·.1)).length ≤ lim := l3 (by rw [List.length_map]; exact zl)
  have zbb : (B.map rowD).length ≤ lim := l3 (by rw [List.length_map]; exact zb)
  refine r_len_l (xs := left.map (·.1)) (H.loc _ _ hll) zll (r_cmp rfl ?_)
  cases e with
  | none hl hg =>
    subst hl; subst hg
    refine IfB.f rfl (IfB.f rfl (r_len_l (xs := []) (H.loc _ _ hll) (by walk_at "z") (r_cmp rfl (IfB.t rfl (IfB.t rfl ?_)))))
    exact r_cmp rfl rfl
  | @any p r hl h0 hg =>
    subst hl; subst hg
    have t2 := two p (.head _)
    rw [h0] at t2
    refine IfB.t (by simp) (r_item_l (xs := (p :: r).map (·.1)) (v := p.1) (H.loc _ _ hll) (row_at (t := 0) rfl zll) (r_item t2 (r_cmp rfl (IfB.t rfl (IfB.t rfl ?_)))))
    exact r_cmp rfl rfl
  | @err p r hl h0 hb hg =>
    subst hl; subst hg
    have t2 := two p (.head _)
    refine IfB.t (by simp) (r_item_l (xs := (p :: r).map (·.1)) (v := p.1) (H.loc _ _ hll) (row_at (t := 0) rfl zll) (r_item t2 (r_cmp rfl (IfB.f (by simp; omega) (IfB.f rfl ?_)))))
    refine r_len_l (xs := (p :: r).map (·.1)) (H.loc _ _ hll) zll (r_cmp rfl (IfB.f (by simp; lia) ?_))
    refine r_len_l (xs := B.map rowD) (H.loc _ _ ht) zbb (r_cmp rfl ?_)
    by_cases hB : B = []
    · have h13 : p.2 = 13 := hb.elim (fun h => absurd hB h) id
      rw [h13] at t2
      refine IfB.f (by rw [hB]; rfl) (r_item_l (xs := (p :: r).map (·.1)) (v := p.1) (H.loc _ _ hll) (row_at (t := 0) rfl zll) (r_item t2 (r_cmp rfl (IfB.t rfl (IfB.t rfl ?_)))))
      exact r_cmp rfl rfl
    · refine IfB.t (by cases B with | nil => exact absurd rfl hB | cons _ _ => simp) (IfB.t rfl ?_)
      exact r_cmp rfl rfl
  | @ok p r ks vs hl h0 h13 hB P k3 hv sh mem s h3 =>
    subst hl; subst hB
    have t2 := two p (.head _)
    refine IfB.t (by simp) (r_item_l (xs := (p :: r).map (·.1)) (v := p.1) (H.loc _ _ hll) (row_at (t := 0) rfl zll) (r_item t2 (r_cmp rfl (IfB.f (by simp; omega) (IfB.f rfl ?_)))))
    refine r_len_l (xs := (p :: r).map (·.1)) (H.loc _ _ hll) zll (r_cmp rfl (IfB.f (by simp; lia) ?_))
    refine r_len_l (xs := []) (H.loc _ _ ht) (by walk_at "z") (r_cmp rfl (IfB.f rfl ?_))
    refine r_item_l (xs := (p :: r).map (·.1)) (v := p.1) (H.loc _ _ hll) (row_at (t := 0) rfl zll) (r_item t2 (r_cmp rfl (IfB.f (by simp; lia) (IfB.f rfl ?_))))
    exact s_e19 H hh z P k3 hv sh mem s h3
end
section
variable {n : Nat} {W W' W'' : Wd} {L L' : List (Nat × MO)} {σ : Store} {l c : Nat}
theorem Mk.le {k : Int} (x : Le W W') (h : Mk W k) : Mk W' k := let ⟨r, m, e, ki⟩ := h; ⟨r, m, e, ki.le x⟩
theorem Mk.eq {k : Int} (x : Le W W') (h : Mk W k) : mskW W' k = mskW W k := by
  obtain ⟨r, m, rfl, ki⟩ := h
  rw [ki.eq, (ki.le x).eq]
theorem Cell.le {s s' : FV} (x : Le W W') (h : Cell W s s') : Cell W' s s' := by
  cases h with
  | no => exact .no
  | @is k r M => rw [← M.eq x]; exact .is (M.le x)
theorem ShOf.le {r : Nat} {v : FV} (x : Le W W') (h : ShOf W r v) : ShOf W' r v := by
  cases h with
  | par h => exact .par (app_get x.rows h)
  | @obj ps s m s' m' h h3 hp hs hm =>
    have e : ps.map (prM W) = ps.map (prM W') := List.map_congr_left fun p hp' => by unfold prM; rw [(hp p hp').eq x]
    rw [e]
    exact .obj (app_get x.rows h) h3 (fun p hp' => (hp p hp').le x) (hs.le x) (hm.le x)
theorem Cell.det {s a b : FV} (h : Cell W s a) (h' : Cell W s b) : a = b := by cases h <;> cases h' <;> rfl
theorem ShOf.det {r : Nat} {v v' : FV} (h : ShOf W r v) (h' : ShOf W r v') : v = v' := by
  cases h with
  | par h1 =>
    cases h' with
    | par _ => rfl
    | obj h2 _ _ _ _ => exact (kind_ne (k := 10) (k' := 8) h1 h2 rfl rfl (by decide)).elim
  | obj h1 _ _ hs hm =>
    cases h' with
    | par h2 => exact (kind_ne (k := 8) (k' := 10) h1 h2 rfl rfl (by decide)).elim
    | obj h2 _ _ hs' hm' =>
      rw [h1] at h2
      obtain ⟨rfl, _, rfl, rfl⟩ := objRow_inj (Option.some.inj h2)
      rw [hs.det hs', hm.det hm']
/-- the form of a shape -/
inductive Cf : FV → Prop
  | no : Cf (.tup [])
  | is (a b : Int) : Cf (.tup [.int a, .int b])
inductive Pf : FV → Prop
  | mk (s : PySem.Str) (a b d : Int) : Pf (.tup [.str s, .int a, .int b, .int d])
inductive Sf : FV → Prop
  | mk (ps : List FV) (c1 c2 : FV) : (∀ p ∈ ps, Pf p) → Cf c1 → Cf c2 → Sf (.tup [.tup ps, c1, c2])
theorem like_if {x y : FV} {xs ys : List FV} (h1 : likeT x y = true) (h2 : likeL xs ys = true) : likeL (x :: xs) (y :: ys) = true := by
  show (if eqF x y = true then likeL xs ys else likeT x y) = true
  split
  · exact h2
  · exact h1
theorem like_Pf {p q : FV} (a : Pf p) (b : Pf q) : likeT p q = true := by
  cases a; cases b
  exact like_if rfl (like_if rfl (like_if rfl (like_if rfl rfl)))
theorem like_Cf {p q : FV} (a : Cf p) (b : Cf q) : likeT p q = true := by
  cases a <;> cases b <;> first | rfl | exact like_if rfl (like_if rfl rfl)
theorem like_Ps : ∀ {ps qs : List FV}, (∀ p ∈ ps, Pf p) → (∀ q ∈ qs, Pf q) → likeL ps qs = true
  | [], _, _, _ => rfl
  | _ :: _, [], _, _ => rfl
  | p :: ps, q :: qs, a, b => like_if (like_Pf (a p (.head _)) (b q (.head _))) (like_Ps (fun p h => a p (.tail _ h)) fun q h => b q (.tail _ h))
theorem like_Sf {p q : FV} (a : Sf p) (b : Sf q) : likeT p q = true := by
  obtain ⟨ps, c1, c2, h1, h2, h3⟩ := a
  obtain ⟨qs, d1, d2, g1, g2, g3⟩ := b
  exact like_if (like_Ps h1 g1) (like_if (like_Cf h2 g2) (like_if (like_Cf h3 g3) rfl))
theorem hk_Sf {p : FV} (a : Sf p) : hkT 6 p = true := by
  obtain ⟨ps, c1, c2, h1, h2, h3⟩ := a
  have e1 : hkL 4 ps = true := hkL_of fun p hp => by obtain ⟨s, a, b, d⟩ := h1 p hp; rfl
  have e2 : ∀ {c}, Cf c → hkT 5 c = true := fun h => by cases h <;> rfl
  show (hkL 4 ps && (hkT 5 c1 && (hkT 5 c2 && true))) = true
  rw [e1, e2 h2, e2 h3]; rfl
theorem srt_Sf {hs : List FV} (h : ∀ x ∈ hs, Sf x) : Srt hs := ⟨fun x hx => hk_Sf (h x hx), fun x hx y hy => like_Sf (h x hx) (h y hy), 3, .inr (.inr rfl), fun x hx => by obtain ⟨_, _, _, _, _, _⟩ := h x hx; rfl⟩
theorem Cell.cf {s a : FV} (h : Cell W s a) : Cf a := by cases h; exact .no; exact .is _ _
theorem ShOf.sf {r : Nat} {v : FV} (h : ShOf W r v) : Sf v := by
  cases h with
  | par _ => exact .mk _ _ _ (fun p hp => by rw [List.mem_singleton.mp hp]; exact .mk _ _ _ _) .no .no
  | obj _ _ _ hs hm => exact .mk _ _ _ (fun p hp => by obtain ⟨q, _, rfl⟩ := List.mem_map.mp hp; exact .mk _ _ _ _) hs.cf hm.cf
theorem ShOf.far (B : Stem W) {r : Nat} {v : FV} (h : ShOf W r v) : Far r ∧ wholeK (kdW W r) = -1 := by
  cases h with
  | par h => exact ⟨far_of B (k := 10) h rfl (by decide) (by decide), by rw [kd_row (k := 10) h rfl]; rfl⟩
  | obj h _ _ _ _ => exact ⟨far_of B (k := 8) h rfl (by decide) (by decide), by rw [kd_row (k := 8) h rfl]; rfl⟩
theorem choose_list {α β : Type} {R : α → β → Prop} : ∀ {l : List α}, (∀ a ∈ l, ∃ b, R a b) → ∃ m : List β, m.length = l.length ∧ ∀ (i : Nat) (a : α) (b : β), l[i]? = some a → m[i]? = some b → R a b
  | [], _ => ⟨[], rfl, fun i a b h => by cases h⟩
  | a :: l, h => by
    obtain ⟨b, hb⟩ := h a (.head _)
    obtain ⟨m, e, hm⟩ := choose_list fun a ha => h a (.tail _ ha)
    refine ⟨b :: m, by simp [e], fun i a' b' h1 h2 => ?_⟩
    cases i with
    | zero => cases h1; cases h2; exact hb
    | succ i => exact hm i a' b' h1 h2
end
section
variable {n : Nat} {W W' W'' : Wd} {L L' : List (Nat × MO)} {σ : Store} {l c : Nat}
theorem Id.le {t : Nat} {k : Int} (x : Le W W') (I : Id W t k) : Id W' t k := let ⟨⟨r, h1, h2⟩, h3⟩ := I; ⟨⟨r, app_get x.rows h1, h2⟩, h3⟩
theorem kd_le {t : Nat} (x : Le W W') (I : Id W t (kdW W t)) : kdW W' t = kdW W t := (I.le x).kd
theorem mem_hsC {cs : List Cd} {x : FV} : x ∈ hsC cs ↔ ∃ d ∈ cs, x ∈ d.hs := by
  unfold hsC
  rw [List.mem_flatten]
  exact ⟨fun ⟨l, h, hx⟩ => let ⟨d, hd, e⟩ := List.mem_map.mp h; ⟨d, hd, e ▸ hx⟩, fun ⟨d, hd, hx⟩ => ⟨d.hs, List.mem_map.mpr ⟨d, hd, rfl⟩, hx⟩⟩
theorem mem_bsC {cs : List Cd} {x : Bool} : x ∈ bsC cs ↔ ∃ d ∈ cs, x ∈ d.bs := by
  unfold bsC
  rw [List.mem_flatten]
  exact ⟨fun ⟨l, h, hx⟩ => let ⟨d, hd, e⟩ := List.mem_map.mp h; ⟨d, hd, e ▸ hx⟩, fun ⟨d, hd, hx⟩ => ⟨d.bs, List.mem_map.mpr ⟨d, hd, rfl⟩, hx⟩⟩
theorem union_err {ts : List Nat} {kd : Nat → Int} {r : Nat} (h0 : 0 ∉ ts) (h13 : 13 ∈ ts) (u : UnionR W ts kd r W') : r = 13 := by
  cases u with
  | top h _ =>
    rcases h with ⟨_, h⟩ | ⟨h, _⟩ | ⟨_, _, h, _⟩
    · exact absurd h h0
    · exact h
    · exact absurd h13 h
  | rest _ _ h => exact absurd h13 h
/-- what is left of rest_object's union -/
theorem end_is {W1 W3 : Wd} (H : Is W L σ) (B : Stem W) (B1 : Stem W1) (le1 : Le W1 W3) (le3 : Le W3 W) {tk : List PySem.Str} {ps : Ps} {ks : List Nat} {kd : Nat → Int} {cs : List Cd} {os : List Od} {got : Nat} (P : ∀ p ∈ ps, PartIs W tk p.1 p.2) (z : ps.length ≤ 3) (tops : Tops ps)
    (hcs : cs.map (·.p) = ps.filter fun p => keepT tk p.2) (ok : ∀ d ∈ cs, d.ok W tk) (ht : os.map (·.t) = ks.filter (keepT tk)) (out : ∀ o ∈ os, PartIs W1 tk o.one o.t ∧ Out W1 tk o.one o.t o.r o.f o.nt ∧ (o.one, o.t) ∈ ps)
    (mem : ∀ x, x ∈ ks ↔ x ∈ ps.map (·.2) ∧ wholeK (kd x) ∉ (ps.map (·.2)).map (fun (t : Nat) => (t : Int))) (hkd : ∀ p ∈ ps, (p.2 = 19 ∧ wholeK (kd p.2) = 6) ∨ wholeK (kd p.2) = -1) (kl : ks.length ≤ 3) (ne : os ≠ []) (u : UnionR W1 (os.map (·.r)) (kdW W1) got W3) :
    EndIs W (ps.filter fun p => keepT tk p.2) (bsC cs) (hsC cs) got ∧ (∀ b, (∃ o ∈ os, o.f = some b) ↔ b ∈ bsC cs) ∧ ((∃ o ∈ os, o.nt = true) ↔ cs.any (·.nt) = true) ∧ cs ≠ [] := by
  have le := le1.trans le3
  have out4 : ∀ o ∈ os, PartIs W tk o.one o.t ∧ Out W tk o.one o.t o.r o.f o.nt ∧ (o.one, o.t) ∈ ps := fun o ho => ⟨(out o ho).1.le le, (out o ho).2.1.le le, (out o ho).2.2⟩
  obtain ⟨l1, l2⟩ := link H B P hcs ok ht out4 mem hkd
  have fit : ∀ r ∈ os.map (·.r), Id W1 r (kdW W1 r) := fun r hr => by obtain ⟨o, ho, rfl⟩ := List.mem_map.mp hr; exact ((out o ho).2.1.fit B1).1
  have faults : ∀ b, (∃ o ∈ os, o.f = some b) ↔ b ∈ bsC cs := fun b => by
    rw [mem_bsC]
    constructor
    · rintro ⟨o, ho, e⟩
      obtain ⟨d, hd, s, _⟩ := l2 o ho
      exact ⟨d, hd, by rw [← s, e]; exact .head _⟩
    · rintro ⟨d, hd, hb⟩
      obtain ⟨o, ho, s, _⟩ := l1 d hd
      refine ⟨o, ho, ?_⟩
      rw [← s] at hb
      cases h : o.f with
      | none => rw [h] at hb; cases hb
      | some b' => rw [h] at hb; have : b = b' := by simpa using hb
                   rw [this]
  refine ⟨?_, faults, ?_, fun h => by obtain ⟨o0, ho0⟩ := List.exists_mem_of_ne_nil os ne; obtain ⟨d, hd, _⟩ := l2 o0 ho0; rw [h] at hd; cases hd⟩
  · obtain ⟨o0, ho0⟩ := List.exists_mem_of_ne_nil os ne
    obtain ⟨d0, hd0, s0⟩ := l2 o0 ho0
    have hl : d0.p ∈ ps.filter fun p => keepT tk p.2 := by rw [← hcs]; exact List.mem_map.mpr ⟨d0, hd0, rfl⟩
    have inps : ∀ {p}, p ∈ ps.filter (fun p => keepT tk p.2) → p ∈ ps := fun h => (List.mem_filter.mp h).1
    cases hleft : ps.filter (fun p => keepT tk p.2) with
    | nil => rw [hleft] at hl; cases hl
    | cons p r =>
      have hp : p ∈ ps := inps (by rw [hleft]; exact .head _)
      rcases tops with ⟨x, hx, _, all⟩ | no
      · have ot : ∀ o ∈ os, o.t = x := fun o ho => all _ (out o ho).2.2
        have rx : ∀ y, (∀ o ∈ os, o.r = y) → (y = 0 ∨ y = 13) → got = y := fun y h hy => by
          refine (kept_top (x := y) (by lia) fit B1 (by simpa using ne) (fun t ht => ?_) u).1
          obtain ⟨o, ho, rfl⟩ := List.mem_map.mp ht
          exact h o ho
        have px : p.2 = x := all p hp
        have cd : ∀ {o : Od}, o ∈ os → ∀ k : Int, itemV o.one (.int 0) = some (.int k) → k = cdW W1 o.t := fun {o} ho k h => by
          have := (out o ho).1.code B1
          rw [h] at this
          exact FV.int.inj (Option.some.inj this)
        rcases hx with rfl | rfl | rfl
        · refine .any rfl px (rx 0 (fun o ho => ?_) (.inl rfl))
          have c := fun k => cd ho k
          rw [ot o ho] at c
          have c0 : cdW W1 0 = 5 := rfl
          have oo := (out o ho).2.1
          rw [ot o ho] at oo
          revert oo c
          generalize o.one = one, o.r = r, o.f = f, o.nt = nt
          intro c oo
          cases oo with
          | top h => rfl
          | bad h => exact absurd (c _ rfl) (by rw [c0]; lia)
          | arr => exact absurd (c _ rfl) (by rw [c0]; lia)
          | opn h => exact absurd (c _ rfl) (by rw [c0]; omega)
          | thing h => exact absurd (c _ rfl) (by rw [c0]; omega)
        · refine .err rfl (by omega) (.inr px) (rx 13 (fun o ho => ?_) (.inr rfl))
          have c := fun k => cd ho k
          rw [ot o ho] at c
          have c0 : cdW W1 13 = 5 := rfl
          have oo := (out o ho).2.1
          rw [ot o ho] at oo
          revert oo c
          generalize o.one = one, o.r = r, o.f = f, o.nt = nt
          intro c oo
          cases oo with
          | top h => rfl
          | bad h => rfl
          | arr => rfl
          | opn h => exact absurd (c _ rfl) (by rw [c0]; omega)
          | thing h => exact absurd (c _ rfl) (by rw [c0]; omega)
        · have key : ∀ o ∈ os, o.r = 13 ∧ o.f = some false := fun o ho => by
            have c := fun k => cd ho k
            rw [ot o ho] at c
            have c0 : cdW W1 1 = 3 := rfl
            have oo := (out o ho).2.1
            rw [ot o ho] at oo
            revert oo c
            generalize o.one = one, o.r = r, o.f = f, o.nt = nt
            intro c oo
            cases oo with
            | top h => exact absurd (c _ rfl) (by rw [c0]; omega)
            | bad h => exact ⟨rfl, rfl⟩
            | arr => exact absurd (c _ rfl) (by rw [c0]; lia)
            | opn h => exact absurd (c _ rfl) (by rw [c0]; lia)
            | thing h => exact absurd (c _ rfl) (by rw [c0]; lia)
          refine .err rfl (by omega) (.inl fun h => ?_) (rx 13 (fun o ho => (key o ho).1) (.inr rfl))
          have := (faults false).mp ⟨o0, ho0, (key o0 ho0).2⟩
          rw [h] at this; cases this
      · have np := no p hp
        have n0 : ∀ o ∈ os, o.t ≠ 0 ∧ o.t ≠ 13 := fun o ho => ⟨(no _ (out o ho).2.2).1, (no _ (out o ho).2.2).2.1⟩
        have sh : ∀ o ∈ os, (o.f ≠ none ∧ o.r = 13) ∨ (o.f = none ∧ ∃ v, ShOf W o.r v ∧ ∃ d ∈ cs, d.hs = [v]) := fun o ho => by
          obtain ⟨d, hd, _, _, h⟩ := l2 o ho
          rcases h with ⟨h1, h2, _⟩ | ⟨_, h, _⟩ | ⟨h1, v, h2, h3⟩
          · exact .inl ⟨h1, h2⟩
          · exact absurd h (by have := n0 o ho; lia)
          · exact .inr ⟨h1, v, h3, d, hd, h2⟩
        have r0 : 0 ∉ os.map (·.r) := fun h => by
          obtain ⟨o, ho, e⟩ := List.mem_map.mp h
          rcases sh o ho with ⟨_, h2⟩ | ⟨_, v, h2, _⟩
          · lia
          · exact (h2.far B).1.n0 e
        by_cases hf : ∃ o ∈ os, o.f ≠ none
        · obtain ⟨o, ho, hfo⟩ := hf
          have r13 : 13 ∈ os.map (·.r) := List.mem_map.mpr ⟨o, ho, by rcases sh o ho with ⟨_, h2⟩ | ⟨h1, _⟩; exact h2; exact absurd h1 hfo⟩
          refine .err rfl np.1 (.inl fun h => ?_) (union_err r0 r13 u)
          cases hb : o.f with
          | none => exact hfo hb
          | some b =>
            have := (faults b).mp ⟨o, ho, hb⟩
            rw [h] at this; cases this
        · have sh' : ∀ o ∈ os, ∃ v, ShOf W o.r v ∧ ∃ d ∈ cs, d.hs = [v] := fun o ho => by
            rcases sh o ho with ⟨h1, _⟩ | ⟨_, h⟩
            · exact absurd ⟨o, ho, h1⟩ hf
            · exact h
          have hB : bsC cs = [] := by
            refine List.eq_nil_iff_forall_not_mem.mpr fun b hb => ?_
            obtain ⟨o, ho, e⟩ := (faults b).mpr hb
            exact hf ⟨o, ho, by rw [e]; simp⟩
          have far : ∀ r ∈ os.map (·.r), Far r ∧ wholeK (kdW W1 r) = -1 := fun r hr => by
            have k := kd_le le (fit r hr)
            obtain ⟨o, ho, rfl⟩ := List.mem_map.mp hr
            obtain ⟨v, h, _⟩ := sh' o ho
            have := h.far B
            rw [k] at this
            exact this
          obtain ⟨k2, K⟩ := kept_of B1 fit u r0 (fun h => (far _ h).1.n13 rfl) (fun h => (far _ h).1.n1 rfl)
          have k2m : ∀ x, x ∈ k2 ↔ x ∈ os.map (·.r) := fun x => by
            rw [K.mem]
            refine ⟨fun h => h.1, fun h => ⟨h, fun h' => ?_⟩⟩
            rw [(far x h).2] at h'
            obtain ⟨y, _, e⟩ := List.mem_map.mp h'
            lia
          obtain ⟨vs, vl, hv⟩ := choose_list (R := fun r v => ShOf W r v ∧ ∃ d ∈ cs, d.hs = [v]) (l := k2) fun x hx => by
            obtain ⟨o, ho, rfl⟩ := List.mem_map.mp ((k2m x).mp hx)
            exact sh' o ho
          have sm := small_C ok
          have cl : cs.length ≤ 3 := by have := congrArg List.length hcs; rw [List.length_map] at this; rw [this]; exact Nat.le_trans (List.length_filter_le _ _) z
          have ol : os.length ≤ 3 := by have := congrArg List.length ht; rw [List.length_map] at this; rw [this]; exact Nat.le_trans (List.length_filter_le _ _) kl
          have hsv : ∀ x ∈ hsC cs, ∃ o ∈ os, ShOf W o.r x := fun x hx => by
            obtain ⟨d, hd, hx⟩ := mem_hsC.mp hx
            obtain ⟨o, ho, _, _, h⟩ := l1 d hd
            rcases h with ⟨_, _, h⟩ | ⟨_, _, _, h⟩ | ⟨_, v, h, h'⟩
            · rw [h] at hx; cases hx
            · rw [h] at hx; cases hx
            · rw [h] at hx
              rw [List.mem_singleton.mp hx]
              exact ⟨o, ho, h'⟩
          refine .ok rfl np.1 np.2.1 hB (K.parts.le le3) (Nat.le_trans K.len (by rw [List.length_map]; exact ol)) vl (fun i k v h1 h2 => (hv i k v h1 h2).1) (fun x => ?_) (srt_Sf fun x hx => ?_) (Nat.le_trans sm.1 cl)
          · constructor
            · intro hx
              obtain ⟨i, hi, e⟩ := List.mem_iff_getElem.mp hx
              obtain ⟨k, hk⟩ : ∃ k, k2[i]? = some k := ⟨_, List.getElem?_eq_getElem (by rw [← vl]; exact hi)⟩
              obtain ⟨_, d, hd, e'⟩ := hv i k x hk (by rw [List.getElem?_eq_getElem hi, e])
              exact mem_hsC.mpr ⟨d, hd, by rw [e']; exact .head _⟩
            · intro hx
              obtain ⟨o, ho, h⟩ := hsv x hx
              obtain ⟨i, hi, e⟩ := List.mem_iff_getElem.mp ((k2m o.r).mpr (List.mem_map.mpr ⟨o, ho, rfl⟩))
              obtain ⟨v, hvv⟩ : ∃ v, vs[i]? = some v := ⟨_, List.getElem?_eq_getElem (by rw [vl]; exact hi)⟩
              obtain ⟨h', _⟩ := hv i o.r v (by rw [List.getElem?_eq_getElem hi, e]) hvv
              rw [h.det h']
              exact List.mem_of_getElem? hvv
          · obtain ⟨o, _, h⟩ := hsv x hx
            exact h.sf
  · rw [List.any_eq_true]
    constructor
    · rintro ⟨o, ho, e⟩
      obtain ⟨d, hd, _, s, _⟩ := l2 o ho
      exact ⟨d, hd, by rw [← s]; exact e⟩
    · rintro ⟨d, hd, e⟩
      obtain ⟨o, ho, _, s, _⟩ := l1 d hd
      exact ⟨o, ho, s.trans e⟩
end
section
variable {n : Nat} {W W' W'' : Wd} {L L' : List (Nat × MO)} {σ : Store} {l c : Nat}
theorem cd_one {t : Nat} : cdW W t = 1 ↔ t = 5 ∨ t = 4 := by
  unfold cdW
  constructor
  · intro h
    by_cases h1 : t = 0 ∨ t = 13
    · rw [if_pos h1] at h; omega
    rw [if_neg h1] at h
    by_cases h2 : t = 4 ∨ t = 5
    · lia
    rw [if_neg h2] at h
    split at h
    · omega
    · split at h
      · lia
      · split at h
        · split at h
          · lia
          · split at h
            · lia
            · split at h <;> lia
        · omega
  · intro h
    rw [if_neg (by lia), if_pos (by lia)]
noncomputable def b0F (tk : List PySem.Str) (left : Ps) : List Bool := if left.isEmpty && tk.isEmpty then [false] else []
/-- statements 10 .. 14 -/
theorem s_e10 {tk : List PySem.Str} {pl got : Nat} {ps : Ps} (H : Is W L σ) (B : Stem W) (hpl : (pl, MO.lst (ps.map (·.1))) ∈ L) (K : TakenIs W tk) (P : ∀ p ∈ ps, PartIs W tk p.1 p.2) (z : ps.length ≤ 3)
    (q : ∀ ll tl hl o cs σ', cs.map (·.p) = ps.filter (fun p => keepT tk p.2) → (∀ e ∈ cs, e.ok (W.ob o) tk) → Is (W.ob o) ((hl, .lst (hsC cs)) :: (tl, .lst ((b0F tk (ps.filter fun p => keepT tk p.2) ++ bsC cs).map rowD)) :: (ll, .lst ((ps.filter fun p => keepT tk p.2).map (·.1))) :: L) σ' →
      wexs X (run X (n + 59)) (n + 60) ((fBody (stm 160)).drop 15) (envOf (stm 160) (lE bi pl got ll tl (cs.any (·.nt)) hl)) retT σ') :
    wexs X (run X (n + 59)) (n + 60) ((fBody (stm 160)).drop 10) (envOf (stm 160) (lB bi ++ ([("parts", .ref pl), ("got", .int got)] : En))) retT σ := by
  have l3 : ∀ {m : Nat}, m ≤ 3 → m ≤ lim := fun h => Nat.le_trans ‹_› (Nat.le_of_ble_eq_true rfl)
  have tz : W.taken.length ≤ lim ∧ homog (.str ⟨#[]⟩) W.taken = true := ⟨l3 (by rw [K.1, List.length_map]; exact K.2), by rw [K.1]; exact taken_homog⟩
  have tl : W.taken.length = tk.length := by rw [K.1, List.length_map]
  have zp : (ps.map (·.1)).length ≤ lim := l3 (by rw [List.length_map]; exact z)
  refine (r_itemsC_l (xs := ps.map (·.1)) (H.loc _ _ hpl) zp ?_)
  refine comp_list (xs := ps.map (·.1)) (P := fun i out σ' => σ' = σ ∧ out = ((ps.take i).filter fun p => keepT tk p.2).map (·.1)) (fun i out σ' K ⟨e, _⟩ k => by subst e; exact r_items_l (H.loc _ _ hpl) k) ?_ ?_ _ 0 _ _ ⟨rfl, rfl⟩ (Nat.zero_le _) (by lia)
  · rintro i x out σ' K' ⟨rfl, rfl⟩ hx next
    rw [List.getElem?_map] at hx
    cases hy : ps[i]? with
    | none => rw [hy] at hx; cases hx
    | some p =>
      rw [hy] at hx
      have hx : x = p.1 := by simpa using hx.symm
      subst hx
      have hti : ps.take (i + 1) = ps.take i ++ [p] := by rw [List.take_add_one, hy]; rfl
      have ol : ((((ps.take i).filter fun p => keepT tk p.2).map (·.1))).length ≤ lim := by
        refine l3 ?_
        rw [List.length_map]
        refine Nat.le_trans (List.length_filter_le _ _) ?_
        rw [List.length_take]; lia
      have yes : keepT tk p.2 = true → (((ps.take i).filter fun p => keepT tk p.2).map (·.1)).length ≤ lim ∧ K' (((ps.take i).filter fun p => keepT tk p.2).map (·.1) ++ [p.1]) σ' := fun h =>
        ⟨ol, next _ _ ⟨rfl, by rw [hti, List.filter_append, List.map_append, List.filter_cons, if_pos h]; rfl⟩⟩
      have no : keepT tk p.2 = false → K' (((ps.take i).filter fun p => keepT tk p.2).map (·.1)) σ' := fun h =>
        next _ _ ⟨rfl, by rw [hti, List.filter_append, List.map_append, List.filter_cons, if_neg (by rw [h]; decide)]; simp⟩
      refine r_len_d (kvs := W.taken) (H.core 84 _ rfl) tz (r_cmp rfl ?_)
      rw [tl]
      cases tk with
      | nil => exact IfB.t rfl (IfB.t rfl (IfB.t rfl (yes rfl)))
      | cons a tk =>
        refine IfB.f (by simp; lia) (r_item ((P p (List.mem_of_getElem? hy)).code B) (r_cmp rfl ?_))
        by_cases h1 : cdW W p.2 = 1
        · refine IfB.f (by rw [h1]; rfl) (IfB.f rfl (IfB.f rfl (no ?_)))
          have := cd_one.mp h1
          unfold keepT
          simp; lia
        · refine IfB.t (by simpa using h1) (IfB.t rfl (IfB.t rfl (yes ?_)))
          have : ¬ (p.2 = 5 ∨ p.2 = 4) := fun h => h1 (cd_one.mpr h)
          unfold keepT
          simp; lia
  · rintro out σ' ⟨rfl, rfl⟩
    rw [List.length_map, List.take_length]
    have zl : (ps.filter fun p => keepT tk p.2).length ≤ 3 := Nat.le_trans (List.length_filter_le _ _) z
    have Pl : ∀ p ∈ ps.filter (fun p => keepT tk p.2), PartIs W tk p.1 p.2 := fun p h => P p (List.mem_filter.mp h).1
    generalize ps.filter (fun p => keepT tk p.2) = left at q zl Pl ⊢
    refine r_alloc H fun ll σ1 H1 => ?_
    refine n_set (c' := envOf (stm 160) (lB bi ++ ([("parts", .ref pl), ("got", .int got), ("left", .ref ll)] : En))) rfl ?_
    have rest : ∀ tl σ2, Is W ((tl, .lst ((b0F tk left).map rowD)) :: (ll, .lst (left.map (·.1))) :: L) σ2 → wexs X (run X (n + 59)) (n + 60) ((fBody (stm 160)).drop 12) (envOf (stm 160) (lB bi ++ ([("parts", .ref pl), ("got", .int got), ("left", .ref ll), ("told", .ref tl)] : En))) retT σ2 := fun tl σ2 H2 => by
      refine r_alloc H2 fun hl σ3 H3 => ?_
      refine n_set (c' := envOf (stm 160) (lE bi pl got ll tl false hl)) rfl ?_
      refine r_items_l (xs := left.map (·.1)) (by walk_at "at") ?_
      refine s_cons (b0 := b0F tk left) H3 (.head _) K Pl zl (by unfold b0F; split <;> simp) fun o cs σ' hcs ok H4 => ?_
      exact q ll tl hl o cs σ' hcs ok H4
    have zll : (left.map (·.1)).length ≤ lim := l3 (by rw [List.length_map]; exact zl)
    refine r_len_l (xs := left.map (·.1)) (by walk_at "at") zll (r_cmp rfl ?_)
    have nil : b0F tk left = [] → ∀ (k : Nat) σ2, Is W ((k, .lst []) :: (ll, .lst (left.map (·.1))) :: L) σ2 → wexs X (run X (n + 59)) (n + 60) ((fBody (stm 160)).drop 12) (envOf (stm 160) (lB bi ++ ([("parts", .ref pl), ("got", .int got), ("left", .ref ll), ("told", .ref k)] : En))) retT σ2 := fun e k σ2 H2 => rest k σ2 (by rw [e]; exact H2)
    cases left with
    | cons p r =>
      refine IfB.f (by simp; lia) (IfB.f rfl (r_alloc H1 fun k σ2 H2 => ?_))
      refine n_set (c' := envOf (stm 160) (lB bi ++ ([("parts", .ref pl), ("got", .int got), ("left", .ref ll), ("told", .ref k)] : En))) rfl ?_
      exact nil rfl k σ2 H2
    | nil =>
      refine IfB.t rfl (r_len_d (kvs := W.taken) (by walk_at "at") tz (r_cmp rfl ?_))
      rw [tl]
      cases tk with
      | nil =>
        refine IfB.t rfl (IfB.t rfl (r_alloc H1 fun k σ2 H2 => ?_))
        refine n_set (c' := envOf (stm 160) (lB bi ++ ([("parts", .ref pl), ("got", .int got), ("left", .ref ll), ("told", .ref k)] : En))) rfl ?_
        exact rest k σ2 H2
      | cons a tk =>
        refine IfB.f (by simp; lia) (IfB.f rfl (r_alloc H1 fun k σ2 H2 => ?_))
        refine n_set (c' := envOf (stm 160) (lB bi ++ ([("parts", .ref pl), ("got", .int got), ("left", .ref ll), ("told", .ref k)] : En))) rfl ?_
        exact nil rfl k σ2 H2
end
section
variable {n : Nat} {W W' W'' : Wd} {L L' : List (Nat × MO)} {σ : Store} {l c : Nat}
theorem Ok1.taken (o : Ok1 W c) (tk : List (FV × FV)) : Ok1 { W with taken := tk } c := ⟨⟨o.tw.ix, o.tw.key, o.tw.nd⟩, ⟨o.sz.1, o.sz.2, o.sz.3, o.sz.4, o.sz.5, o.sz.6, o.sz.7⟩, o.stem, o.ys, o.dn⟩
theorem Ok1.same (o : Ok1 W c) (ob : List (Nat × MO)) : Ok1 { W with obj := ob } c := o.obj ob
theorem left_of {tk : List PySem.Str} {ps : Ps} {ks : List Nat} {kd : Nat → Int} (mem : ∀ x, x ∈ ks ↔ x ∈ ps.map (·.2) ∧ wholeK (kd x) ∉ (ps.map (·.2)).map (fun (t : Nat) => (t : Int))) (hkd : ∀ p ∈ ps, (p.2 = 19 ∧ wholeK (kd p.2) = 6) ∨ wholeK (kd p.2) = -1)
    (h : ks.filter (keepT tk) = []) : ps.filter (fun p => keepT tk p.2) = [] := by
  refine List.eq_nil_iff_forall_not_mem.mpr fun p hp => ?_
  obtain ⟨hp, hk⟩ := List.mem_filter.mp hp
  have no : ∀ x ∈ ks, keepT tk x = true → False := fun x hx hk => by
    have : x ∈ ks.filter (keepT tk) := List.mem_filter.mpr ⟨hx, hk⟩
    rw [h] at this; cases this
  by_cases hin : p.2 ∈ ks
  · exact no _ hin hk
  · by_cases habs : wholeK (kd p.2) ∈ (ps.map (·.2)).map (fun (t : Nat) => (t : Int))
    · obtain ⟨x, hx, ex⟩ := List.mem_map.mp habs
      obtain ⟨p6, h6, e6⟩ := List.mem_map.mp hx
      rcases hkd p hp with ⟨_, ew⟩ | ew
      · have x6 : x = 6 := by lia
        subst x6
        refine no 6 ((mem 6).mpr ⟨hx, fun h => ?_⟩) (by unfold keepT; simp)
        rcases hkd p6 h6 with ⟨h', _⟩ | h'
        · lia
        · rw [e6] at h'
          rw [h'] at h
          obtain ⟨y, _, ey⟩ := List.mem_map.mp h
          lia
      · lia
    · exact hin ((mem _).mpr ⟨List.mem_map.mpr ⟨p, hp, rfl⟩, habs⟩)
theorem UnionR.dn {ts : List Nat} {kd : Nat → Int} {r : Nat} (u : UnionR W ts kd r W') : W'.diags = W.diags ∧ W'.notes = W.notes := by
  cases u with
  | top _ e => exact e ▸ ⟨rfl, rfl⟩
  | rest kept _ _ _ _ _ h =>
    rcases h with ⟨_, _, e⟩ | ⟨_, e⟩ | ⟨_, p⟩
    · exact e ▸ ⟨rfl, rfl⟩
    · exact e ▸ ⟨rfl, rfl⟩
    · rw [p.rest]; exact ⟨rfl, rfl⟩
theorem Ok2.union {ts : List Nat} {kd : Nat → Int} {r : Nat} (o : Ok2 W c) (u : UnionR W ts kd r W') : Ok2 W' (c + 1) := by
  cases u with
  | top _ e => exact e ▸ o.up (by omega)
  | rest kept _ _ _ _ _ h =>
    rcases h with ⟨_, _, e⟩ | ⟨_, e⟩ | ⟨_, p⟩
    · exact e ▸ o.up (by lia)
    · exact e ▸ o.up (by lia)
    · exact o.put p
/-- statements 8 and on -/
theorem s_e8 {tk : List PySem.Str} (H : Is W L σ) (o : Ok1 W c) (hc : c ≤ 1000) (K : TakenIs W tk) (sk : tk.Sublist abc) : wexs X (run X (n + 59)) (n + 60) ((fBody (stm 160)).drop 8) (envOf (stm 160) (lB bi)) retT σ := by
  have l3 : ∀ {m : Nat}, m ≤ 3 → m ≤ lim := fun h => Nat.le_trans ‹_› (Nat.le_of_ble_eq_true rfl)
  refine s_parts (n := n + 13) H o (by lia) K fun pl ps W1 σ1 le1 o1 P z tops H1 => ?_
  have zp : (ps.map (·.1)).length ≤ lim := l3 (by rw [List.length_map]; exact z)
  refine n_set (c' := envOf (stm 160) (lB bi ++ ([("parts", .ref pl)] : En))) rfl ?_
  refine s_leaf (n := n + 56) H1 fun bd W2 σ2 le2 hob N H2 => ?_
  have o2 : Ok1 W2 (c + 27) := by obtain ⟨ob, rfl⟩ := hob; exact o1.same ob
  have P2 : ∀ p ∈ ps, PartIs W2 tk p.1 p.2 := fun p hp => (P p hp).le le2
  have K2 : TakenIs W2 tk := ⟨(le1.trans le2).taken ▸ K.1, K.2⟩
  refine (r_itemsC_l (xs := ps.map (·.1)) (H2.loc _ _ (.head _)) zp ?_)
  refine comp_list (xs := ps.map (·.1)) (P := fun i out σ' => σ' = σ2 ∧ out = idsF ((ps.take i).map (·.2))) (fun i out σ' K ⟨e, _⟩ k => by subst e; exact r_items_l (H2.loc _ _ (.head _)) k) ?_ ?_ _ 0 _ _ ⟨rfl, rfl⟩ (Nat.zero_le _) (by lia)
  · rintro i x out σ' K' ⟨rfl, rfl⟩ hx next
    rw [List.getElem?_map] at hx
    cases hy : ps[i]? with
    | none => rw [hy] at hx; cases hx
    | some p =>
      rw [hy] at hx
      have hx : x = p.1 := by simpa using hx.symm
      subst hx
      refine IfB.t rfl (r_item (P p (List.mem_of_getElem? hy)).two ?_)
      refine ⟨l3 (by unfold idsF; rw [List.length_map, List.length_map, List.length_take]; omega), next _ _ ⟨rfl, ?_⟩⟩
      rw [List.take_add_one, hy, List.map_append]
      unfold idsF
      rw [List.map_append]; rfl
  · rintro out σ' ⟨rfl, rfl⟩
    rw [List.length_map, List.take_length]
    refine r_alloc H2 fun tl σ3 H3 => ?_
    have zt : (ps.map (·.2)).length ≤ 3 := by rw [List.length_map]; exact z
    have fit : ∀ t ∈ ps.map (·.2), Fit W2 t := fun t ht => by obtain ⟨p, hp, rfl⟩ := List.mem_map.mp ht; exact (P2 p hp).fit o2.stem
    refine s_union (n := n + 19) (ts := ps.map (·.2)) (kd := kdW W2) H3 o2.tw (by have := o2.sz.rows; lia) (.lst (.head _)) (by lia) (fun t ht => (fit t ht).1) (fun t ht => (fit t ht).2) fun r W3 σ4 u H4 => ?_
    have le3 := u.le
    have o3 := o2.union u
    have K3 : TakenIs W3 tk := ⟨le3.taken ▸ K2.1, K2.2⟩
    have N3 : NodeAt W3 bd := let ⟨d, kids, h1, h2⟩ := N; ⟨d, kids, le3.obj _ h1, le3.obj _ h2⟩
    have hkd : ∀ p ∈ ps, (p.2 = 19 ∧ wholeK (kdW W2 p.2) = 6) ∨ wholeK (kdW W2 p.2) = -1 := fun p hp => whole_of o2.stem (P2 p hp)
    have kept : ∃ ks, Kept W2 (kdW W2) (ps.map (·.2)) ks r W3 := by
      rcases tops with ⟨x, hx, hne, all⟩ | no
      · exact ⟨[x], (kept_top hx (fun t ht => (fit t ht).1) o2.stem (by simpa using hne) (fun t ht => by obtain ⟨p, hp, rfl⟩ := List.mem_map.mp ht; exact all p hp) u).2.2⟩
      · have nt : ∀ x, (∀ p ∈ ps, p.2 ≠ x) → x ∉ ps.map (·.2) := fun x h h' => by obtain ⟨p, hp, e⟩ := List.mem_map.mp h'; exact h p hp e
        exact kept_of o2.stem (fun t ht => (fit t ht).1) u (nt 0 fun p hp => (no p hp).1) (nt 13 fun p hp => (no p hp).2.1) (nt 1 fun p hp => (no p hp).2.2)
    obtain ⟨ks, KS⟩ := kept
    have kl : ks.length ≤ 3 := Nat.le_trans KS.len zt
    -- what is done with the end of it
    have tail : ∀ (got : Nat) (W4 : Wd) (σ5 : Store) (bs : List Bool), Is W4 ((pl, .lst (ps.map (·.1))) :: L) σ5 → Le W3 W4 → Ok2 W4 (c + 40) → Dg W4 W4.diags bs → bs.Nodup → (∀ x ∈ W4.notes, x = noteF) → W4.notes.length ≤ 1000 →
        (∀ o cs, cs.map (·.p) = ps.filter (fun p => keepT tk p.2) → (∀ e ∈ cs, e.ok (W4.ob o) tk) → (∃ (L' : List (Nat × MO)) (σ' : Store), Is (W4.ob o) L' σ') → EndIs (W4.ob o) (ps.filter fun p => keepT tk p.2) (b0F tk (ps.filter fun p => keepT tk p.2) ++ bsC cs) (hsC cs) got ∧ (∀ b, b ∈ bs ↔ b ∈ b0F tk (ps.filter fun p => keepT tk p.2) ++ bsC cs) ∧ (W4.notes ≠ [] ↔ cs.any (·.nt) = true)) →
        wexs X (run X (n + 59)) (n + 60) ((fBody (stm 160)).drop 10) (envOf (stm 160) (lB bi ++ ([("parts", .ref pl), ("got", .int got)] : En))) retT σ5 := fun got W4 σ5 bs H5 le4 o4 D nd hn zn plain => by
      refine s_e10 H5 o4.stem (.head _) ⟨le4.taken ▸ K3.1, K3.2⟩ (fun p hp => (P2 p hp).le (le3.trans le4)) z fun ll tl hl o cs σ6 hcs ok H6 => ?_
      obtain ⟨e, hb, hn2⟩ := plain o cs hcs ok ⟨_, _, H6⟩
      have sm := small_C ok
      have cl : cs.length ≤ 3 := by have := congrArg List.length hcs; rw [List.length_map] at this; rw [this]; exact Nat.le_trans (List.length_filter_le _ _) z
      have zB : (b0F tk (ps.filter fun p => keepT tk p.2) ++ bsC cs).length ≤ 3 := by
        rw [List.length_append]
        unfold b0F
        cases hlf : ps.filter (fun p => keepT tk p.2) with
        | nil =>
          rw [hlf] at hcs
          have : cs = [] := by simpa using hcs
          subst this
          split <;> simp [bsC]
        | cons a b => simp; lia
      refine s_e15 (bs := bs) H6 (D.mono fun p h => List.mem_append_right _ h) nd hb zB fun σ7 H7 => ?_
      refine s_e16 H7 hn ?_ zn fun σ8 H8 => ?_
      · cases hcs : cs.any (·.nt) with
        | true =>
          have := hn2.mpr hcs
          have : 0 < W4.notes.length := List.length_pos_iff.mpr this
          exact decide_eq_true (show (0 : Int) < (W4.notes.length : Nat) by lia)
        | false =>
          have : W4.notes = [] := by
            cases h : W4.notes with
            | nil => rfl
            | cons a b => have := hn2.mp (by rw [h]; simp); rw [hcs] at this; cases this
          show decide ((0 : Int) < (W4.notes.length : Nat)) = false
          rw [this]; rfl
      · exact s_end (hs := hsC cs) (B := b0F tk (ps.filter fun p => keepT tk p.2) ++ bsC cs) H8 (.head _) (.tail _ (.head _)) (.tail _ (.tail _ (.head _))) (by have := o4.sz.rows; show W4.rows.length ≤ 1000000; lia) (fun p hp => (P p (List.mem_filter.mp hp).1).two) (Nat.le_trans (List.length_filter_le _ _) z) zB e
    refine s_rest (R := fun one t => (one, t) ∈ ps) (n := n + 13) H4.drop o3.two (by lia) K3 sk N3 o3.dn.1 o3.dn.2 KS.parts kl (fun x hx => ?_) (fun bs W4 σ5 he h1 h2 H5 => ?_) (fun r' W5 W6 bs os σ5 ht hne a o5 u2 H5 => ?_)
    · obtain ⟨p, hp, rfl⟩ := List.mem_map.mp ((KS.mem x).mp hx).1
      exact ⟨p.1, (P2 p hp).le le3, hp⟩
    · have hl := left_of KS.mem hkd he
      refine n_set (c' := envOf (stm 160) (lB bi ++ ([("parts", .ref pl), ("got", .int (13 : Nat))] : En))) rfl ?_
      have nil : ∀ cs : List Cd, cs.map (·.p) = ps.filter (fun p => keepT tk p.2) → cs = [] := fun cs h => by rw [hl] at h; simpa using h
      by_cases htk : tk = []
      · obtain ⟨st, ok4⟩ := h1 htk
        have nn : W4.notes = [] := by rw [st.notes, o3.dn.2]; rfl
        refine tail 13 W4 σ5 bs H5 st.le (ok4.up (by lia)) st.dg st.nd (by rw [nn]; simp) (by rw [nn]; simp) fun o cs hcs _ _ => ?_
        have := nil cs hcs
        subst this
        rw [hl, htk]
        refine ⟨.none rfl rfl, fun b => ?_, by rw [nn]; simp⟩
        rw [st.mem]
        show _ ↔ b ∈ [false]
        simp only [List.not_mem_nil, false_or, List.mem_singleton]
        exact ⟨fun h => (Option.some.inj h).symm, fun h => congrArg some h.symm⟩
      · obtain ⟨rfl, rfl⟩ := h2 htk
        refine tail 13 W4 σ5 [] H5 (.refl _) (o3.two.up (by lia)) (by rw [o3.dn.1]; exact .nil) .nil (by rw [o3.dn.2]; simp) (by rw [o3.dn.2]; simp) fun o cs hcs _ _ => ?_
        have := nil cs hcs
        subst this
        rw [hl]
        have e : b0F tk [] = [] := by cases tk with | nil => exact absurd rfl htk | cons _ _ => rfl
        rw [e]
        exact ⟨.none rfl rfl, fun b => Iff.rfl, by rw [o3.dn.2]; simp⟩
    · refine n_set (c' := envOf (stm 160) (lB bi ++ ([("parts", .ref pl), ("got", .int r')] : En))) rfl ?_
      have ol : os.length ≤ 3 := by have := congrArg List.length ht; rw [List.length_map] at this; rw [this]; exact Nat.le_trans (List.length_filter_le _ _) kl
      have e6 := u2.dn
      have le6 := u2.le
      have nn : W6.notes = (os.filter (·.nt)).map fun _ => noteF := by rw [e6.2, a.notes]
      refine tail r' W6 σ5 bs H5 (a.le.trans le6) ((o5.union u2).up (by lia)) (by rw [e6.1]; exact a.dg.mono le6.obj) a.nd (fun x hx => ?_) ?_ fun o cs hcs ok hex => ?_
      · rw [nn] at hx; obtain ⟨_, _, rfl⟩ := List.mem_map.mp hx; rfl
      · rw [nn, List.length_map]
        have := List.length_filter_le (fun o : Od => o.nt) os
        lia
      · obtain ⟨L', σ', H6⟩ := hex
        have lo := Le.ob W6 o
        have hos : os ≠ [] := fun h => hne (by rw [← ht, h]; rfl)
        obtain ⟨e, f, nt, cne⟩ := end_is H6 ((o5.stem.le le6).le lo) o5.stem le6 lo (fun p hp => (P2 p hp).le (((le3.trans a.le).trans le6).trans lo)) z tops hcs ok ht a.out KS.mem hkd kl hos u2
        have e0 : b0F tk (ps.filter fun p => keepT tk p.2) = [] := by
          rw [← hcs]
          cases cs with
          | nil => exact absurd rfl cne
          | cons d cs => rfl
        rw [e0]
        refine ⟨e, fun b => (a.mem b).trans (f b), ?_⟩
        rw [← nt, nn]
        constructor
        · intro h
          obtain ⟨x, hx⟩ := List.exists_mem_of_ne_nil _ h
          obtain ⟨od, h1, _⟩ := List.mem_map.mp hx
          exact ⟨od, (List.mem_filter.mp h1).1, (List.mem_filter.mp h1).2⟩
        · rintro ⟨od, h1, h2⟩ h
          have : noteF ∈ (os.filter (·.nt)).map fun _ => noteF := List.mem_map.mpr ⟨od, List.mem_filter.mpr ⟨h1, h2⟩, rfl⟩
          rw [h] at this; cases this
end
section
variable {n : Nat} {W W' W'' : Wd} {L L' : List (Nat × MO)} {σ : Store} {l c : Nat}
theorem s_e6 {ys : List FV} {xs : List FV} (h : ∀ v ∈ ys, ∃ i, v = .int i) (hl : ys.length ≤ 63) : wexs X (run X (n + 59)) (n + 60) ((fBody (stm 160)).drop 6) (envOf (stm 160) lB0) retT (store0 xs ys) := by
  have H := is0 xs ys
  have o := ok0 h hl
  refine s_take (m := 8) H o.ys (by decide) fun r k σ1 hr H1 => ?_
  refine n_set (c' := envOf (stm 160) (lB r)) rfl ?_
  refine r_range (r_items (items_rng (m := 3) (by decide)) ?_)
  refine s_taken (bits := r) H1 rfl fun tk σ2 hs H2 => ?_
  exact s_e8 H2 ((o.at k).taken _) (by decide) ⟨rfl, by have := hs.length_le; exact this⟩ hs
theorem r_slice_l {l : Nat} {xs ys : List FV} {lo hi : Option Int} {Q : FV → Store → Prop} (h : σ[l]? = some (.lst xs)) (e : cutL xs lo hi = some ys) (q : Q (.ref σ.length) (σ ++ [.lst ys])) : RunT 10 (sliceM (.ref l) lo hi) σ Q :=
  .mk (lookB h (SomeP.mk e q))
theorem wexs_app {call : CallT} {m : Nat} {b : List Stmt} : ∀ {a : List Stmt} {c : Lc} {Q : Fl → Lc → Store → Prop} {σ : Store}, wexs X call m (a ++ b) c Q σ = wexs X call m a c (nextK (wexs X call m b) Q) σ
  | [], _, _, _ => rfl
  | s :: a, c, Q, σ => congrArg (fun K => wex X call m s c K σ) (funext fun fl => funext fun c' => funext fun σ' => by
    cases fl with
    | next => exact wexs_app
    | cont => rfl
    | ret v => rfl)
theorem law_true {xs : List FV} (h : ∀ v ∈ xs, ∃ i, v = .int i) (hl : xs.length ≤ 63) : run X 60 (.st (.ref 1279)) [.ref 1] (fun v _ => v = .bool true) [kfM, .lst xs] := by
  refine (r_go (n := 59) [("script", .ref 1)] rfl rfl rfl ?_ : RunT 8 _ _ _).r
  have e : fBody (stm 160) = lawB.take 1 ++ ((lawB.drop 1).take 5 ++ (fBody (stm 160)).drop 6) := rfl
  show wexs X (run X 59) 60 (fBody (stm 160)) ⟨lawN, [("script", .ref 1)]⟩ retT [kfM, .lst xs]
  rw [e, wexs_app]
  refine r_slice_l (l := 1) (xs := xs) (ys := xs.take 63) rfl (if_pos ⟨by decide, Nat.le_trans ‹_› (Nat.le_of_ble_eq_true rfl)⟩) ?_
  refine RunT.mk ?_
  show wexs X (run X 59) 60 ((lawB.drop 1).take 5 ++ (fBody (stm 160)).drop 6) ⟨lawN, [("script", .ref 1), ("d", .ref 3)]⟩ retT [kfM, .lst xs, .lst (xs.take 63), .lst [.int 0, .ref 2]]
  rw [wexs_app, law_pre]
  exact s_e6 (n := 0) (ys := xs.take 63) (xs := xs) (fun v hv => h v (List.mem_of_mem_take hv)) (by rw [List.length_take]; lia)
end
section
set_option maxHeartbeats 0
noncomputable def fnD (name qual : Str) (s : Stmt) (gl : Addr) (dV kV doc pm cd ct : Value) (bi : Addr) : FuncData :=
  { name := name, qualname := qual, params := fArgs s, body := .stmts (fBody s), scope := fScope s, globals := gl, closure := [], defaults := dV, kwdefaults := kV, doc := doc, pyModule := pm, annotations := none, code := cd, closureTuple := ct, builtins := bi }
noncomputable def ke (p : Params) (s : Str) (t : Tok) (v : Value) : DictEntry := ⟨PyData.keyHash p s, .str s t, v⟩
noncomputable def ki (p : Params) (s : Str) (t n : Nat) : DictEntry := ⟨PyData.keyHash p s, .str s t, .int (.ofNat n) (Nat.sub t 1)⟩
noncomputable def kr (p : Params) (s : Str) (t a : Nat) : DictEntry := ⟨PyData.keyHash p s, .str s t, .ref a⟩
noncomputable def ks (n t : Nat) (s : Str) : DictEntry := ⟨.ofNat n, .int (.ofNat n) t, .str s (Nat.add t 1)⟩
noncomputable def dgrow (o : Obj) (es : List DictEntry) (n : Nat) : Obj := match o with
  | ⟨c, d, .dict xs _, s⟩ => ⟨c, d, .dict ⟨xs.toList ++ es⟩ n, s⟩
  | o => o
noncomputable def dset (o : Obj) (e : DictEntry) (es : List DictEntry) (n : Nat) : Obj := match o with
  | ⟨c, d, .dict xs _, s⟩ => ⟨c, d, .dict ⟨e :: xs.toList.tail ++ es⟩ n, s⟩
  | o => o
noncomputable def insP (t : BT) : List (Nat × Obj) → BT
  | [] => t
  | x :: r => insP (t.ins x.1 x.2) r
noncomputable def lf : Life := {}
noncomputable def envM : Env := { scope := pwT.main.scope, locals := mainNs, globals := mainNs, cells := [], code := .ref 13, frame := some 14 }
noncomputable def cdM : Code := .body (behindTheImports pwT) envM
noncomputable def frB : List Frame := [topFrame ⟨0, 0, 0, 0⟩]
noncomputable def zz (l : List Nat) : PySem.Str := ⟨⟨l⟩⟩
noncomputable def z0 := zz [60,109,111,100,117,108,101,62]
noncomputable def z1 := zz [47,99,108,97,105,109,47,99,117,116,46,112,121]
noncomputable def z2 := zz [95,95,109,97,105,110,95,95]
noncomputable def z3 := zz [116,121,112,101,46,95,95,115,117,98,99,108,97,115,115,101,115,95,95,46,69,120,99,101,112,116,105,111,110,46,48]
noncomputable def z4 := zz [116,121,112,101,46,95,95,115,117,98,99,108,97,115,115,101,115,95,95,46,69,120,99,101,112,116,105,111,110,46,110]
noncomputable def z5 := zz [95,95,110,97,109,101,95,95]
noncomputable def z6 := zz [107,105,110,100,107,101,101,112,46,100,105,97,103,115]
noncomputable def z7 := zz [95,95,100,111,99,95,95]
noncomputable def z8 := zz [95,95,112,97,99,107,97,103,101,95,95]
noncomputable def z9 := zz [95,95,108,111,97,100,101,114,95,95]
noncomputable def z10 := zz [95,95,115,112,101,99,95,95]
noncomputable def z11 := zz [95,95,97,110,110,111,116,97,116,105,111,110,115,95,95]
noncomputable def z12 := zz [95,95,98,117,105,108,116,105,110,115,95,95]
noncomputable def z13 := zz [95,95,102,105,108,101,95,95]
noncomputable def z14 := zz [95,95,99,97,99,104,101,100,95,95]
noncomputable def z15 := zz [95,119,97,108,108]
noncomputable def z16 := zz [85,95,83,80,82,69,65,68]
noncomputable def z17 := zz [75,101,101,112,69,114,114,111,114]
noncomputable def z18 := zz [84,111,111,68,101,101,112]
noncomputable def z19 := zz [72,111,115,116,70,97,117,108,116]
noncomputable def z20 := zz [107]
noncomputable def z21 := zz [95,95,109,111,100,117,108,101,95,95]
noncomputable def z22 := zz [95,95,113,117,97,108,110,97,109,101,95,95]
noncomputable def z23 := zz [95,95,102,105,114,115,116,108,105,110,101,110,111,95,95]
noncomputable def z24 := zz [95,95,105,110,105,116,95,95]
noncomputable def z25 := zz [95,95,115,116,97,116,105,99,95,97,116,116,114,105,98,117,116,101,115,95,95]
noncomputable def z26 := zz []
noncomputable def z27 := zz [115,101,108,102]
noncomputable def z28 := zz [116,101,120,116]
noncomputable def z29 := zz [75,101,101,112,69,114,114,111,114,46,95,95,105,110,105,116,95,95]
noncomputable def z30 := zz [110,117,109,98,101,114]
noncomputable def z31 := zz [95,95,119,101,97,107,114,101,102,95,95]
noncomputable def z32 := zz [84,111,111,68,101,101,112,46,95,95,105,110,105,116,95,95]
noncomputable def z33 := zz [72,111,115,116,70,97,117,108,116,46,95,95,105,110,105,116,95,95]
noncomputable def z34 := zz [107,105,110,100,107,101,101,112,46,116,121,112,101,115]
noncomputable def z35 := zz [68,105,97,103]
noncomputable def z36 := zz [68,105,97,103,115]
noncomputable def z37 := zz [78,111,116,101,115]
noncomputable def z38 := zz [89,95,75,69,89]
noncomputable def z39 := zz [89,95,66,79,79,76]
noncomputable def z40 := zz [114,111,119]
noncomputable def z41 := zz [97,116]
noncomputable def z42 := zz [97,114,103,115]
noncomputable def z43 := zz [102,105,108,101]
noncomputable def z44 := zz [68,105,97,103,46,95,95,105,110,105,116,95,95]
noncomputable def z45 := zz [68,105,97,103,46,114,111,119]
noncomputable def z46 := zz [95,95,100,105,99,116,95,95]
noncomputable def z47 := zz [112,117,116]
noncomputable def z48 := zz [110,117,109,98,101,114,115]
noncomputable def z49 := zz [68,105,97,103,115,46,95,95,105,110,105,116,95,95]
noncomputable def z50 := zz [68,105,97,103,115,46,112,117,116]
noncomputable def z51 := zz [68,105,97,103,115,46,110,117,109,98,101,114,115]
noncomputable def z52 := zz [114,111,119,115]
noncomputable def z53 := zz [99,111,100,101,115]
noncomputable def z54 := zz [99,108,101,97,110]
noncomputable def z55 := zz [78,111,116,101,115,46,95,95,105,110,105,116,95,95]
noncomputable def z56 := zz [99,111,100,101]
noncomputable def z57 := zz [78,111,116,101,115,46,112,117,116]
noncomputable def z58 := zz [102,111,117,110,100]
noncomputable def z59 := zz [78,111,116,101,115,46,99,111,100,101,115]
noncomputable def z60 := zz [78,111,116,101,115,46,99,108,101,97,110]
noncomputable def z61 := zz [89,95,83,84,82]
noncomputable def z62 := zz [89,95,78,85,77]
noncomputable def z63 := zz [89,95,69,78,85,77]
noncomputable def z64 := zz [89,95,85,78,73,79,78]
noncomputable def z65 := zz [89,95,73,78,84,69,82]
noncomputable def z66 := zz [89,95,79,66,74]
noncomputable def z67 := zz [89,95,82,69,70]
noncomputable def z68 := zz [89,95,80,65,82,65,77]
noncomputable def z69 := zz [89,95,65,82,82,65,89]
noncomputable def z70 := zz [89,95,84,85,80,76,69]
noncomputable def z71 := zz [89,95,83,73,71]
noncomputable def z72 := zz [89,95,75,69,89,79,70]
noncomputable def z73 := zz [89,95,73,78,68,69,88]
noncomputable def z74 := zz [89,95,67,79,78,68]
noncomputable def z75 := zz [89,95,84,80,76]
noncomputable def z76 := zz [89,95,65,76,73,65,83]
noncomputable def z77 := zz [65,78,89]
noncomputable def z78 := zz [85,78,75,78,79,87,78]
noncomputable def z79 := zz [78,69,86,69,82]
noncomputable def z80 := zz [86,79,73,68]
noncomputable def z81 := zz [85,78,68,69,70]
noncomputable def z82 := zz [78,85,76,76,84]
noncomputable def z83 := zz [83,84,82,73,78,71]
noncomputable def z84 := zz [78,85,77,66,69,82]
noncomputable def z85 := zz [70,65,76,83,69,95,84]
noncomputable def z86 := zz [84,82,85,69,95,84]
noncomputable def z87 := zz [79,66,74,69,67,84,84]
noncomputable def z88 := zz [69,77,80,84,89]
noncomputable def z89 := zz [69,82,82]
noncomputable def z90 := zz [70,82,69,83,72,95,70]
noncomputable def z91 := zz [70,82,69,83,72,95,84]
noncomputable def z92 := zz [80,95,79,80,84]
noncomputable def z93 := zz [80,95,82,69,65,68,79,78,76,89]
noncomputable def z94 := zz [80,95,77,69,84,72,79,68]
noncomputable def z95 := zz [80,95,80,82,73,86,65,84,69]
noncomputable def z96 := zz [80,95,80,82,79,84,69,67,84,69,68]
noncomputable def z97 := zz [80,95,71,69,84,79,78,76,89]
noncomputable def z98 := zz [80,95,65,67,67,69,83,83]
noncomputable def z99 := zz [69,95,79,80,84]
noncomputable def z100 := zz [69,95,83,80,82,69,65,68]
noncomputable def z101 := zz [68,95,67,76,65,83,83]
noncomputable def z102 := zz [68,95,73,78,84,69,82,70,65,67,69]
noncomputable def z103 := zz [70,65,77,95,79,84,72,69,82]
noncomputable def z104 := zz [70,65,77,95,83,84,82]
noncomputable def z105 := zz [70,65,77,95,78,85,77]
noncomputable def z106 := zz [70,65,77,95,66,79,79,76]
noncomputable def z107 := zz [70,65,77,95,78,85,76,76]
noncomputable def z108 := zz [70,65,77,95,85,78,68,69,70]
noncomputable def z109 := zz [70,65,77,95,86,79,73,68]
noncomputable def z110 := zz [70,65,77,95,79,66,74]
noncomputable def z111 := zz [77,65,88,95,85,78,73,79,78]
noncomputable def z112 := zz [70,73,82,83,84,95,82,79,87,83]
noncomputable def z113 := zz [77,65,82,75,69,68,95,82,79,87,83]
noncomputable def z114 := zz [79,66,74,69,67,84,95,82,79,87,83]
noncomputable def z115 := zz [97,110,121]
noncomputable def z116 := zz [117,110,107,110,111,119,110]
noncomputable def z117 := zz [110,101,118,101,114]
noncomputable def z118 := zz [118,111,105,100]
noncomputable def z119 := zz [117,110,100,101,102,105,110,101,100]
noncomputable def z120 := zz [110,117,108,108]
noncomputable def z121 := zz [115,116,114,105,110,103]
noncomputable def z122 := zz [111,98,106,101,99,116]
noncomputable def z123 := zz [101,114,114,111,114]
noncomputable def z124 := zz [75,69,89,95,70,65,77,73,76,73,69,83]
noncomputable def z125 := zz [84,121,112,101,84,97,98,108,101]
noncomputable def z126 := zz [68,101,99,108]
noncomputable def z127 := zz [107,105,110,100,95,111,102]
noncomputable def z128 := zz [115,116,114,95,116,121,112,101]
noncomputable def z129 := zz [110,117,109,95,116,121,112,101]
noncomputable def z130 := zz [98,111,111,108,95,116,121,112,101]
noncomputable def z131 := zz [114,101,102,95,116,121,112,101]
noncomputable def z132 := zz [97,114,114,97,121,95,116,121,112,101]
noncomputable def z133 := zz [115,111,114,116,101,100,95,112,114,111,112,115]
noncomputable def z134 := zz [111,98,106,95,116,121,112,101]
noncomputable def z135 := zz [115,105,103,95,116,121,112,101]
noncomputable def z136 := zz [102,117,110,99,95,116,121,112,101]
noncomputable def z137 := zz [84,121,112,101,84,97,98,108,101,46,95,95,105,110,105,116,95,95]
noncomputable def z138 := zz [116]
noncomputable def z139 := zz [84,121,112,101,84,97,98,108,101,46,114,111,119]
noncomputable def z140 := zz [84,121,112,101,84,97,98,108,101,46,112,117,116]
noncomputable def z141 := zz [98,111,117,110,100,115]
noncomputable def z142 := zz [100,101,99,108,115]
noncomputable def z143 := zz [100,101,102,97,117,108,116,115]
noncomputable def z144 := zz [105,110,100,101,120]
noncomputable def z145 := zz [110,97,109,101,115]
noncomputable def z146 := zz [111,114,105,103,105,110,115]
noncomputable def z147 := zz [112,117,116,116,105,110,103]
noncomputable def z148 := zz [114,101,110,97,109,101,100]
noncomputable def z149 := zz [115,104,97,112,105,110,103]
noncomputable def z150 := zz [100,105,100]
noncomputable def z151 := zz [107,105,110,100]
noncomputable def z152 := zz [110,97,109,101]
noncomputable def z153 := zz [68,101,99,108,46,95,95,105,110,105,116,95,95]
noncomputable def z154 := zz [97,98,115,116,114,97,99,116]
noncomputable def z155 := zz [98,97,115,101,115]
noncomputable def z156 := zz [98,111,100,121]
noncomputable def z157 := zz [98,117,115,121]
noncomputable def z158 := zz [101,120,116,101,110,100,115,95,99,108,97,115,115]
noncomputable def z159 := zz [109,101,109,98,101,114,115]
noncomputable def z160 := zz [110,105,100]
noncomputable def z161 := zz [112,97,114,97,109,115]
noncomputable def z162 := zz [115,116,97,116,105,99]
noncomputable def z163 := zz [118,97,114,105,97,110,99,101,115]
noncomputable def z164 := zz [116,97,98]
noncomputable def z165 := zz [102,114,101,115,104]
noncomputable def z166 := zz [110]
noncomputable def z167 := zz [98]
noncomputable def z168 := zz [101,108,101,109]
noncomputable def z169 := zz [114,111]
noncomputable def z170 := zz [112,114,111,112,115]
noncomputable def z171 := zz [99,97,108,108,115]
noncomputable def z172 := zz [99,116,111,114,115]
noncomputable def z173 := zz [115,105,110,100,101,120]
noncomputable def z174 := zz [110,105,110,100,101,120]
noncomputable def z175 := zz [116,112,97,114,97,109,115]
noncomputable def z176 := zz [114,101,116]
noncomputable def z177 := zz [112,114,101,100]
noncomputable def z178 := zz [102,108,97,103,115]
noncomputable def z179 := zz [115,105,103]
noncomputable def z180 := zz [107,105,110,100,107,101,101,112,46,104,111,115,116,115]
noncomputable def z181 := zz [110,101,119,95,112,97,114,97,109]
noncomputable def z182 := zz [110,101,119,95,100,101,99,108]
noncomputable def z183 := zz [112,97,114,116,115,95,111,102]
noncomputable def z184 := zz [119,104,111,108,101,95,111,102,95,114,111,119]
noncomputable def z185 := zz [114,101,103,117,108,97,114,95,116,119,105,110]
noncomputable def z186 := zz [106,111,105,110,95,98,111,111,108,115]
noncomputable def z187 := zz [115,116,97,121,115,95,98,101,115,105,100,101]
noncomputable def z188 := zz [116,111,112,95,111,102]
noncomputable def z189 := zz [117,110,105,111,110]
noncomputable def z190 := zz [97,100,100,95,117,110,100,101,102]
noncomputable def z191 := zz [99,111,109,109,111,110,95,102,97,109,105,108,121]
noncomputable def z192 := zz [109,101,101,116,95,102,97,109,105,108,121]
noncomputable def z193 := zz [102,97,109,105,108,121]
noncomputable def z194 := zz [77,79,83,84,95,80,76,65,73,78]
noncomputable def z195 := zz [80,76,65,73,78,95,82,79,87,83]
noncomputable def z196 := zz [76,73,83,84,95,82,79,87,83]
noncomputable def z197 := zz [102,105,110,97,108,95,112,97,114,116,115]
noncomputable def z198 := zz [112,108,97,105,110,95,115,104,97,112,101]
noncomputable def z199 := zz [77,79,83,84,95,82,79,85,78,68,83]
noncomputable def z200 := zz [77,79,83,84,95,83,72,65,80,69,83]
noncomputable def z201 := zz [77,79,83,84,95,66,65,83,69,83]
noncomputable def z202 := zz [98,111,117,110,100]
noncomputable def z203 := zz [100,101,102,97,117,108,116]
noncomputable def z204 := zz [112,105,100]
noncomputable def z205 := zz [100,101,99,108]
noncomputable def z206 := zz [103,111,116]
noncomputable def z207 := zz [112,97,114,116,115]
noncomputable def z208 := zz [112,97,114,116]
noncomputable def z209 := zz [102,97,109]
noncomputable def z210 := zz [119,104,111,108,101]
noncomputable def z211 := zz [104,111,115,116]
noncomputable def z212 := zz [111,117,116]
noncomputable def z213 := zz [115,101,101,110]
noncomputable def z214 := zz [119,97,105,116,105,110,103]
noncomputable def z215 := zz [109,111,114,101]
noncomputable def z216 := zz [107,105,110,100,107,101,101,112,46,115,104,97,112,101,115]
noncomputable def z217 := zz [116,117,114,110]
noncomputable def z218 := zz [84,104,105,110]
noncomputable def z219 := zz [98,111,117,110,100,95,111,102]
noncomputable def z220 := zz [101,108,101,109,95,114,101,97,100]
noncomputable def z221 := zz [114,111,119,95,101,108,101,109]
noncomputable def z222 := zz [102,111,114,99,101]
noncomputable def z223 := zz [112,117,116,95,100,101,102,101,114,114,101,100]
noncomputable def z224 := zz [112,117,116,95,99,111,110,100]
noncomputable def z225 := zz [108,97,121,95,114,111,119]
noncomputable def z226 := zz [115,104,97,112,101]
noncomputable def z227 := zz [102,105,116,115]
noncomputable def z228 := zz [108,105,101,115]
noncomputable def z229 := zz [105,110,102,101,114,115]
noncomputable def z230 := zz [116,112,108,95,102,105,116,115]
noncomputable def z231 := zz [115,104,97,112,101,95,102,105,116,115]
noncomputable def z232 := zz [112,117,116,95,105,110]
noncomputable def z233 := zz [111,119,110,95,115,105,103]
noncomputable def z234 := zz [102,111,114,103,101,116]
noncomputable def z235 := zz [108,105,115,116,95,112,114,111,112]
noncomputable def z236 := zz [108,105,115,116,95,105,110,100,101,120]
noncomputable def z237 := zz [101,108,101,109,95,109,101,116]
noncomputable def z238 := zz [101,114,114,111,114,95,99,108,97,115,115]
noncomputable def z239 := zz [84,104,105,110,46,95,95,105,110,105,116,95,95]
noncomputable def z240 := zz [84,104,105,110,46,102,111,114,99,101]
noncomputable def z241 := zz [84,104,105,110,46,112,117,116,95,100,101,102,101,114,114,101,100]
noncomputable def z242 := zz [109,97,112,112,105,110,103]
noncomputable def z243 := zz [84,104,105,110,46,112,117,116,95,99,111,110,100]
noncomputable def z244 := zz [84,104,105,110,46,108,97,121,95,114,111,119]
noncomputable def z245 := zz [84,104,105,110,46,98,111,117,110,100]
noncomputable def z246 := zz [84,104,105,110,46,115,104,97,112,101]
noncomputable def z247 := zz [115]
noncomputable def z248 := zz [84,104,105,110,46,102,105,116,115]
noncomputable def z249 := zz [84,104,105,110,46,108,105,101,115]
noncomputable def z250 := zz [112,105,100,115]
noncomputable def z251 := zz [99,104,101,99,107]
noncomputable def z252 := zz [101,120,116]
noncomputable def z253 := zz [84,104,105,110,46,105,110,102,101,114,115]
noncomputable def z254 := zz [84,104,105,110,46,116,112,108,95,102,105,116,115]
noncomputable def z255 := zz [84,104,105,110,46,115,104,97,112,101,95,102,105,116,115]
noncomputable def z256 := zz [84,104,105,110,46,112,117,116,95,105,110]
noncomputable def z257 := zz [101,114,97,115,101,100]
noncomputable def z258 := zz [84,104,105,110,46,111,119,110,95,115,105,103]
noncomputable def z259 := zz [84,104,105,110,46,102,111,114,103,101,116]
noncomputable def z260 := zz [84,104,105,110,46,108,105,115,116,95,112,114,111,112]
noncomputable def z261 := zz [84,104,105,110,46,108,105,115,116,95,105,110,100,101,120]
noncomputable def z262 := zz [107,105,110,100,115]
noncomputable def z263 := zz [84,104,105,110,46,101,108,101,109,95,109,101,116]
noncomputable def z264 := zz [84,104,105,110,46,101,114,114,111,114,95,99,108,97,115,115]
noncomputable def z265 := zz [100,101,101,112]
noncomputable def z266 := zz [108,105,98]
noncomputable def z267 := zz [109,111,115,116,95,100,101,101,112]
noncomputable def z268 := zz [109,111,115,116,95,114,111,117,110,100,115]
noncomputable def z269 := zz [107,105,110,100,107,101,101,112,46,110,111,100,101,115]
noncomputable def z270 := zz [101,108,101,109,95,111,102]
noncomputable def z271 := zz [101,108,101,109,95,116,121,112,101]
noncomputable def z272 := zz [77,79,83,84,95,66,79,85,78,68,83]
noncomputable def z273 := zz [79,80,69,78,95,80,65,82,84,83]
noncomputable def z274 := zz [115,101,101,110,95,112,97,114,116,115]
noncomputable def z275 := zz [115,101,101,110,95,107,105,110,100]
noncomputable def z276 := zz [79,80,69,78,95,82,79,87,83]
noncomputable def z277 := zz [111,112,101,110,95,107,105,110,100]
noncomputable def z278 := zz [105,115,95,109,97,100,101]
noncomputable def z279 := zz [115,112,114,101,97,100,95,114,111,119,115]
noncomputable def z280 := zz [110,111,95,111,98,106,101,99,116]
noncomputable def z281 := zz [114,101,115,116,95,112,114,111,112,115]
noncomputable def z282 := zz [114,101,115,116,95,111,98,106,101,99,116]
noncomputable def z283 := zz [75,95,78,65,77,69]
noncomputable def z284 := zz [75,95,66,73,78,68]
noncomputable def z285 := zz [107,105,110,100,107,101,101,112,46,99,115,111,108,105,100]
noncomputable def z286 := zz [99,120]
noncomputable def z287 := zz [107,105,110,100,107,101,101,112,46,99,115,108,111,116,115]
noncomputable def z288 := zz [107,105,110,100,107,101,101,112,46,99,111,98,106,115]
noncomputable def z289 := zz [109,97,100,101]
noncomputable def z290 := zz [112,114,111,112]
noncomputable def z291 := zz [104,105,100,100,101,110]
noncomputable def z292 := zz [111,110,101]
noncomputable def z293 := zz [107,105,110,100,107,101,101,112,46,99,112,97,116,116,101,114,110,115]
noncomputable def z294 := zz [78,79,68,69,95,87,79,82,68,83]
noncomputable def z295 := zz [116,101,109,112,108,97,116,101]
noncomputable def z296 := zz [116,114,117,101]
noncomputable def z297 := zz [102,97,108,115,101]
noncomputable def z298 := zz [116,104,105,115]
noncomputable def z299 := zz [115,117,112,101,114]
noncomputable def z300 := zz [97,114,114,97,121,32,108,105,116,101,114,97,108]
noncomputable def z301 := zz [111,98,106,101,99,116,32,108,105,116,101,114,97,108]
noncomputable def z302 := zz [112,114,111,112,101,114,116,121]
noncomputable def z303 := zz [115,104,111,114,116,32,112,114,111,112,101,114,116,121]
noncomputable def z304 := zz [115,112,114,101,97,100]
noncomputable def z305 := zz [109,101,109,98,101,114]
noncomputable def z306 := zz [99,97,108,108]
noncomputable def z307 := zz [110,101,119]
noncomputable def z308 := zz [111,112,116,105,111,110,97,108,32,99,104,97,105,110]
noncomputable def z309 := zz [117,110,97,114,121,32,111,112,101,114,97,116,111,114]
noncomputable def z310 := zz [117,112,100,97,116,101]
noncomputable def z311 := zz [98,105,110,97,114,121,32,111,112,101,114,97,116,111,114]
noncomputable def z312 := zz [108,111,103,105,99,97,108,32,111,112,101,114,97,116,111,114]
noncomputable def z313 := zz [97,115,115,105,103,110,109,101,110,116]
noncomputable def z314 := zz [99,104,111,105,99,101]
noncomputable def z315 := zz [102,117,110,99,116,105,111,110]
noncomputable def z316 := zz [112,97,114,97,109,101,116,101,114]
noncomputable def z317 := zz [97,115]
noncomputable def z318 := zz [97,115,32,99,111,110,115,116]
noncomputable def z319 := zz [115,97,116,105,115,102,105,101,115]
noncomputable def z320 := zz [110,111,110,45,110,117,108,108,32,109,97,114,107]
noncomputable def z321 := zz [112,97,114,101,110,116,104,101,115,101,115]
noncomputable def z322 := zz [111,98,106,101,99,116,32,112,97,116,116,101,114,110]
noncomputable def z323 := zz [97,114,114,97,121,32,112,97,116,116,101,114,110]
noncomputable def z324 := zz [98,105,110,100,105,110,103]
noncomputable def z325 := zz [118,97,114,105,97,98,108,101,32,115,116,97,116,101,109,101,110,116]
noncomputable def z326 := zz [100,101,99,108,97,114,97,116,111,114]
noncomputable def z327 := zz [101,120,112,114,101,115,115,105,111,110,32,115,116,97,116,101,109,101,110,116]
noncomputable def z328 := zz [105,102]
noncomputable def z329 := zz [119,104,105,108,101]
noncomputable def z330 := zz [100,111]
noncomputable def z331 := zz [102,111,114]
noncomputable def z332 := zz [102,111,114,32,111,102]
noncomputable def z333 := zz [102,111,114,32,105,110]
noncomputable def z334 := zz [115,119,105,116,99,104]
noncomputable def z335 := zz [99,97,115,101]
noncomputable def z336 := zz [114,101,116,117,114,110]
noncomputable def z337 := zz [98,114,101,97,107]
noncomputable def z338 := zz [99,111,110,116,105,110,117,101]
noncomputable def z339 := zz [108,97,98,101,108]
noncomputable def z340 := zz [116,104,114,111,119]
noncomputable def z341 := zz [116,114,121]
noncomputable def z342 := zz [99,97,116,99,104]
noncomputable def z343 := zz [98,108,111,99,107]
noncomputable def z344 := zz [101,109,112,116,121,32,115,116,97,116,101,109,101,110,116]
noncomputable def z345 := zz [99,108,97,115,115]
noncomputable def z346 := zz [102,105,101,108,100]
noncomputable def z347 := zz [105,110,100,101,120,32,115,105,103,110,97,116,117,114,101]
noncomputable def z348 := zz [105,110,116,101,114,102,97,99,101]
noncomputable def z349 := zz [116,121,112,101,32,97,108,105,97,115]
noncomputable def z350 := zz [101,110,117,109]
noncomputable def z351 := zz [101,110,117,109,32,109,101,109,98,101,114]
noncomputable def z352 := zz [105,109,112,111,114,116]
noncomputable def z353 := zz [105,109,112,111,114,116,101,100,32,110,97,109,101]
noncomputable def z354 := zz [101,120,112,111,114,116]
noncomputable def z355 := zz [114,111,119,32,111,102,32,110,111,100,101,115]
noncomputable def z356 := zz [107,101,121,119,111,114,100,32,116,121,112,101]
noncomputable def z357 := zz [116,121,112,101,32,110,97,109,101]
noncomputable def z358 := zz [108,105,116,101,114,97,108,32,116,121,112,101]
noncomputable def z359 := zz [117,110,105,111,110,32,116,121,112,101]
noncomputable def z360 := zz [105,110,116,101,114,115,101,99,116,105,111,110,32,116,121,112,101]
noncomputable def z361 := zz [97,114,114,97,121,32,116,121,112,101]
noncomputable def z362 := zz [116,117,112,108,101,32,116,121,112,101]
noncomputable def z363 := zz [116,117,112,108,101,32,101,108,101,109,101,110,116]
noncomputable def z364 := zz [111,98,106,101,99,116,32,116,121,112,101]
noncomputable def z365 := zz [107,101,121,111,102]
noncomputable def z366 := zz [105,110,100,101,120,101,100,32,116,121,112,101]
noncomputable def z367 := zz [109,97,112,112,101,100,32,116,121,112,101]
noncomputable def z368 := zz [99,111,110,100,105,116,105,111,110,97,108,32,116,121,112,101]
noncomputable def z369 := zz [105,110,102,101,114]
noncomputable def z370 := zz [116,101,109,112,108,97,116,101,32,116,121,112,101]
noncomputable def z371 := zz [116,121,112,101,111,102,32,116,121,112,101]
noncomputable def z372 := zz [112,114,101,100,105,99,97,116,101]
noncomputable def z373 := zz [114,101,97,100,111,110,108,121,32,116,121,112,101]
noncomputable def z374 := zz [116,121,112,101,32,112,97,114,101,110,116,104,101,115,101,115]
noncomputable def z375 := zz [112,114,111,112,101,114,116,121,32,115,105,103,110,97,116,117,114,101]
noncomputable def z376 := zz [116,121,112,101,32,112,97,114,97,109,101,116,101,114]
noncomputable def z377 := zz [107,105,110,100,107,101,101,112,46,99,99,111,114,101]
noncomputable def z378 := zz [78,111,100,101]
noncomputable def z379 := zz [108,101,97,102]
noncomputable def z380 := zz [66,111,117,110,100,72,111,115,116]
noncomputable def z381 := zz [77,79,83,84,95,68,69,69,80]
noncomputable def z382 := zz [71,117,97,114,100]
noncomputable def z383 := zz [97]
noncomputable def z384 := zz [107,105,100,115]
noncomputable def z385 := zz [78,111,100,101,46,95,95,105,110,105,116,95,95]
noncomputable def z386 := zz [107,105,110,100,107,101,101,112,46,114,97,119,104,111,115,116]
noncomputable def z387 := zz [66,111,117,110,100,72,111,115,116,46,98,111,117,110,100]
noncomputable def z388 := zz [66,111,117,110,100,72,111,115,116,46,115,104,97,112,101]
noncomputable def z389 := zz [97,99,99,101,115,115]
noncomputable def z390 := zz [114,101,97,100,111,110,108,121]
noncomputable def z391 := zz [114,101,99,107,111,110,115]
noncomputable def z392 := zz [110,111,100,101]
noncomputable def z393 := zz [111,98,106]
noncomputable def z394 := zz [71,117,97,114,100,46,97,99,99,101,115,115]
noncomputable def z395 := zz [116,97,114,103,101,116]
noncomputable def z396 := zz [71,117,97,114,100,46,114,101,97,100,111,110,108,121]
noncomputable def z397 := zz [71,117,97,114,100,46,114,101,99,107,111,110,115]
noncomputable def z398 := zz [82,111,97,100,115]
noncomputable def z399 := zz [74,117,100,103,101]
noncomputable def z400 := zz [117,110,115,101,116]
noncomputable def z401 := zz [82,111,97,100,115,46,95,95,105,110,105,116,95,95]
noncomputable def z402 := zz [102,108,111,119]
noncomputable def z403 := zz [100,101,99,108,97,114,101,100]
noncomputable def z404 := zz [82,111,97,100,115,46,117,110,115,101,116]
noncomputable def z405 := zz [103,105,118,101,110]
noncomputable def z406 := zz [101,120,99,101,115,115]
noncomputable def z407 := zz [109,101,101,116,115]
noncomputable def z408 := zz [115,97,109,101]
noncomputable def z409 := zz [114,101,100,117,99,101,100]
noncomputable def z410 := zz [109,101,116]
noncomputable def z411 := zz [119,111,114,100,115]
noncomputable def z412 := zz [101,120,112,108,97,105,110]
noncomputable def z413 := zz [74,117,100,103,101,46,95,95,105,110,105,116,95,95]
noncomputable def z414 := zz [74,117,100,103,101,46,102,105,116,115]
noncomputable def z415 := zz [74,117,100,103,101,46,108,105,101,115]
noncomputable def z416 := zz [74,117,100,103,101,46,101,120,99,101,115,115]
noncomputable def z417 := zz [74,117,100,103,101,46,109,101,101,116,115]
noncomputable def z418 := zz [74,117,100,103,101,46,115,97,109,101]
noncomputable def z419 := zz [74,117,100,103,101,46,114,101,100,117,99,101,100]
noncomputable def z420 := zz [74,117,100,103,101,46,109,101,116]
noncomputable def z421 := zz [74,117,100,103,101,46,119,111,114,100,115]
noncomputable def z422 := zz [74,117,100,103,101,46,101,120,112,108,97,105,110]
noncomputable def z423 := zz [80,97,116,116,101,114,110,115]
noncomputable def z424 := zz [71,105,118,101,114]
noncomputable def z425 := zz [80,108,97,99,101,115]
noncomputable def z426 := zz [101,108,101,109,101,110,116]
noncomputable def z427 := zz [112,97,116,116,101,114,110]
noncomputable def z428 := zz [115,105,110,107]
noncomputable def z429 := zz [80,97,116,116,101,114,110,115,46,115,112,114,101,97,100]
noncomputable def z430 := zz [80,97,116,116,101,114,110,115,46,101,108,101,109,101,110,116]
noncomputable def z431 := zz [80,97,116,116,101,114,110,115,46,110,97,109,101,115]
noncomputable def z432 := zz [107,101,121]
noncomputable def z433 := zz [71,105,118,101,114,46,103,105,118,101,110]
noncomputable def z434 := zz [115,101,108,102,95,107,105,110,100]
noncomputable def z435 := zz [98,97,115,101,95,107,105,110,100]
noncomputable def z436 := zz [80,108,97,99,101,115,46,115,101,108,102,95,107,105,110,100]
noncomputable def z437 := zz [80,108,97,99,101,115,46,98,97,115,101,95,107,105,110,100]
noncomputable def z438 := zz [70,117,110,99,82,117,108,101]
noncomputable def z439 := zz [119,97,110,116]
noncomputable def z440 := zz [70,117,110,99,82,117,108,101,46,99,104,101,99,107]
noncomputable def z441 := zz [83,104,101,101,116]
noncomputable def z442 := zz [101,120,112,114]
noncomputable def z443 := zz [115,116,109,116]
noncomputable def z444 := zz [116,121,112,101,100]
noncomputable def z445 := zz [114,101,97,100]
noncomputable def z446 := zz [119,97,110,116,115]
noncomputable def z447 := zz [102,117,110,99]
noncomputable def z448 := zz [100,101,99,108,97,114,101,100,95,111,102]
noncomputable def z449 := zz [102,97,117,108,116]
noncomputable def z450 := zz [116,101,108,108]
noncomputable def z451 := zz [110,111,116,101]
noncomputable def z452 := zz [107,101,101,112]
noncomputable def z453 := zz [100,101,99,108,97,114,101]
noncomputable def z454 := zz [109,97,114,107]
noncomputable def z455 := zz [98,97,99,107]
noncomputable def z456 := zz [116,114,105,101,100]
noncomputable def z457 := zz [115,111,108,105,100]
noncomputable def z458 := zz [115,104,111,114,116]
noncomputable def z459 := zz [114,111,97,100]
noncomputable def z460 := zz [103,114,97,112,104]
noncomputable def z461 := zz [110,97,109,101,114]
noncomputable def z462 := zz [100,105,97,103,115]
noncomputable def z463 := zz [110,111,116,101,115]
noncomputable def z464 := zz [83,104,101,101,116,46,95,95,105,110,105,116,95,95]
noncomputable def z465 := zz [83,104,101,101,116,46,101,120,112,114]
noncomputable def z466 := zz [83,104,101,101,116,46,115,116,109,116]
noncomputable def z467 := zz [83,104,101,101,116,46,116,121,112,101,100]
noncomputable def z468 := zz [83,104,101,101,116,46,114,101,97,100]
noncomputable def z469 := zz [83,104,101,101,116,46,119,97,110,116,115]
noncomputable def z470 := zz [83,104,101,101,116,46,102,105,116,115]
noncomputable def z471 := zz [83,104,101,101,116,46,102,117,110,99]
noncomputable def z472 := zz [115,105,100]
noncomputable def z473 := zz [83,104,101,101,116,46,100,101,99,108,97,114,101,100,95,111,102]
noncomputable def z474 := zz [83,104,101,101,116,46,102,97,117,108,116]
noncomputable def z475 := zz [100,105,97,103]
noncomputable def z476 := zz [83,104,101,101,116,46,116,101,108,108]
noncomputable def z477 := zz [83,104,101,101,116,46,119,111,114,100,115]
noncomputable def z478 := zz [83,104,101,101,116,46,110,111,116,101]
noncomputable def z479 := zz [83,104,101,101,116,46,107,101,101,112]
noncomputable def z480 := zz [83,104,101,101,116,46,100,101,99,108,97,114,101]
noncomputable def z481 := zz [116,111,108,100]
noncomputable def z482 := zz [83,104,101,101,116,46,109,97,114,107]
noncomputable def z483 := zz [83,104,101,101,116,46,98,97,99,107]
noncomputable def z484 := zz [83,104,101,101,116,46,116,114,105,101,100]
noncomputable def z485 := zz [83,104,101,101,116,46,103,105,118,101,110]
noncomputable def z486 := zz [83,104,101,101,116,46,115,101,108,102,95,107,105,110,100]
noncomputable def z487 := zz [83,104,101,101,116,46,98,97,115,101,95,107,105,110,100]
noncomputable def z488 := zz [83,104,101,101,116,46,115,111,108,105,100]
noncomputable def z489 := zz [83,104,101,101,116,46,115,104,111,114,116]
noncomputable def z490 := zz [83,104,101,101,116,46,114,111,97,100]
noncomputable def z491 := zz [97,115,107,101,114]
noncomputable def z492 := zz [98,97,110,103,101,100]
noncomputable def z493 := zz [98,111,117,110,100,95,100,101,99,108,115]
noncomputable def z494 := zz [99,97,108,108,101,100]
noncomputable def z495 := zz [99,97,108,108,101,101,115]
noncomputable def z496 := zz [99,104,97,105,110,115]
noncomputable def z497 := zz [99,111,110,115,116,95,101,110,117,109,115]
noncomputable def z498 := zz [99,111,110,115,116,115]
noncomputable def z499 := zz [100,114,97,119,110]
noncomputable def z500 := zz [100,114,111,112,112,101,100]
noncomputable def z501 := zz [101,120,112,114,115]
noncomputable def z502 := zz [102,117,110,99,95,97,116]
noncomputable def z503 := zz [102,117,110,99,115]
noncomputable def z504 := zz [103,105,118,101,114]
noncomputable def z505 := zz [103,108,111,98,97,108,115]
noncomputable def z506 := zz [103,111,116,95,98,121]
noncomputable def z507 := zz [103,117,97,114,100]
noncomputable def z508 := zz [103,117,101,115,115,101,115]
noncomputable def z509 := zz [104,101,97,100,115]
noncomputable def z510 := zz [105,110,105,116,115]
noncomputable def z511 := zz [105,110,115,105,100,101]
noncomputable def z512 := zz [106,117,100,103,101]
noncomputable def z513 := zz [108,97,116,101]
noncomputable def z514 := zz [108,97,116,101,114]
noncomputable def z515 := zz [108,101,110,116]
noncomputable def z516 := zz [108,111,111,112,115]
noncomputable def z517 := zz [109,97,114,107,115]
noncomputable def z518 := zz [111,119,110,101,114,115]
noncomputable def z519 := zz [112,97,105,114,101,100]
noncomputable def z520 := zz [112,97,116,116,101,114,110,115]
noncomputable def z521 := zz [112,108,97,99,101,115]
noncomputable def z522 := zz [112,114,101,115,101,116]
noncomputable def z523 := zz [114,101,97,100,121]
noncomputable def z524 := zz [114,101,116,115]
noncomputable def z525 := zz [114,111,97,100,115]
noncomputable def z526 := zz [114,111,111,116,115]
noncomputable def z527 := zz [114,111,117,110,100,115]
noncomputable def z528 := zz [115,101,108,118,101,115,95,111,102]
noncomputable def z529 := zz [115,105,103,115]
noncomputable def z530 := zz [115,111,114,116,115]
noncomputable def z531 := zz [115,116,109,116,115]
noncomputable def z532 := zz [115,116,111,112,115]
noncomputable def z533 := zz [116,97,114,103,101,116,115]
noncomputable def z534 := zz [116,104,105,115,95,111,102]
noncomputable def z535 := zz [116,111,108,100,95,110,97,109,101,115]
noncomputable def z536 := zz [116,114,97,105,108]
noncomputable def z537 := zz [116,121,112,101,115]
noncomputable def z538 := zz [117,110,100,101,114]
noncomputable def z539 := zz [108,97,119,95,115,97,48,52,48,51,95,48,49]
noncomputable def z540 := zz [115,116,97,121,115,95,116,111,108,100]
noncomputable def z541 := zz [116,97,107,101,95,98,97,99,107]
noncomputable def z542 := zz [103,105,118,101,110,95,107,105,110,100]
noncomputable def z543 := zz [119,97,110,116,95,102,105,116]
noncomputable def z544 := zz [95,108,97,119,95,112,97,100]
noncomputable def z545 := zz [95,108,97,119,95,109,97,115,107,115]
noncomputable def z546 := zz [95,108,97,119,95,116,97,107,101]
noncomputable def z547 := zz [95,108,97,119,95,97,116,111,109,115]
noncomputable def z548 := zz [95,108,97,119,95,107,105,110,100]
noncomputable def z549 := zz [95,108,97,119,95,107,110,111,119,110]
noncomputable def z550 := zz [95,108,97,119,95,109,97,115,107]
noncomputable def z551 := zz [95,108,97,119,95,111,110,99,101]
noncomputable def z552 := zz [95,108,97,119,95,116,104,105,110,103]
noncomputable def z553 := zz [95,108,97,119,95,111,112,101,110,101,100]
noncomputable def z554 := zz [95,108,97,119,95,112,97,114,116,115]
noncomputable def z555 := zz [95,108,97,119,95,112,105,101,99,101,115]
noncomputable def z556 := zz [95,108,97,119,95,114,101,115,116]
noncomputable def z557 := zz [95,108,97,119,95,115,104,97,112,101]
noncomputable def z558 := zz [108,97,119]
noncomputable def z559 := zz [100]
noncomputable def z560 := zz [120]
noncomputable def z561 := zz [102,114,101,101]
noncomputable def z562 := zz [97,116,111,109,115]
noncomputable def z563 := zz [107,110,111,119,110]
noncomputable def z564 := zz [109,97,115,107]
noncomputable def z565 := zz [104,101,97,100]
noncomputable def z566 := zz [121]
noncomputable def z567 := zz [115,111,114,116]
noncomputable def z568 := zz [116,117,114,110,101,100]
noncomputable def z569 := zz [109,97,121]
noncomputable def z570 := zz [115,105,100,101]
noncomputable def z571 := zz [104,101,108,100]
noncomputable def z572 := zz [99,101,108,108]
noncomputable def z573 := zz [115,104,117,116]
noncomputable def z574 := zz [108,105,100]
noncomputable def z575 := zz [116,97,107,101,110]
noncomputable def z576 := zz [98,97,108,100]
noncomputable def z577 := zz [104,111,119]
noncomputable def t0 : String := PySem.W.SL.s2766695959194262286x5
noncomputable def t1 : String := PySem.W.SL.s5856160107412720595x4
noncomputable def t2 : String := PySem.W.SL.s658472552662922059x5
noncomputable def t3 : String := PySem.W.SL.s14018661285674007319x4
noncomputable def t4 : String := PySem.W.SL.s7097527257260152453x26
noncomputable def t5 : String := PySem.W.SL.s7174869446012820540x8
noncomputable def t6 : String := PySem.W.SL.s5946037652744460706x9
noncomputable def t7 : String := PySem.W.SL.s11030030927630378310x26
noncomputable def t8 : String := PySem.W.SL.s10062305145149207511x16
noncomputable def t9 : String := PySem.W.SL.s17162191345867700912x4
noncomputable def t10 : String := PySem.W.SL.s5160863994218179198x17
noncomputable def t11 : String := PySem.W.SL.s4278001404047624695x13
noncomputable def t12 : String := PySem.W.SL.s2742458400755230247x6
noncomputable def t13 : String := PySem.W.SL.s14755015743595814543x17
noncomputable def t14 : String := PySem.W.SL.s10220274742760427390x26
noncomputable def t15 : String := PySem.W.SL.s4290257624100764138x5
noncomputable def t16 : String := PySem.W.SL.s4860613602091757760x24
noncomputable def t17 : String := PySem.W.SL.s11443829558043349243x14
noncomputable def t18 : String := PySem.W.SL.s6511155373996960695x17
noncomputable def t19 : String := PySem.W.SL.s12411053484034534018x21
noncomputable def toks : Nat → List Str → List Value
  | _, [] => []
  | t, s :: r => .str s t :: toks (Nat.add t 1) r
noncomputable def e0 : Obj := ⟨.type t0, none, (.seq ⟨[]⟩ 0), #[]⟩
noncomputable def f0 : Obj := ⟨.none, none, (.fields ⟨[]⟩), #[]⟩
noncomputable def sr (l : List Value) : Obj := ⟨.type t0, none, (.seq ⟨l⟩ 0), #[]⟩
noncomputable def sq (t : Nat) (l : List Str) : Obj := sr (toks t l)
noncomputable def fl (t : String) (l : List Value) : Obj := ⟨.type t, none, (.fields ⟨l⟩), #[]⟩
noncomputable def fi (n : Nat) : Value := .int (.ofNat n) 0
noncomputable def trs (c : Nat) : List Nat → List Value
  | l :: a :: r => fi l :: fi c :: .ref a :: trs c r
  | _ => []
noncomputable def tr (c : Nat) (l : List Nat) : Obj := ⟨.none, none, (.fields ⟨trs c l⟩), #[]⟩
noncomputable def dk (n : Nat) (l : List DictEntry) : Obj := ⟨.type t3, none, (.dict ⟨l⟩ n), #[]⟩
noncomputable def fr (a b : Addr) (s : Str) (t : Nat) : Obj := ⟨.type t2, none, .plain, ⟨[some (.ref a), some (.ref 3), some (.ref b), none, some (.str s t), none, some (.ref 0)]⟩⟩
noncomputable def cl (n : Str) (a b : Addr) (ch : List Value) (t u : Nat) : Obj := ⟨.type t9, none, (.cls ⟨n, [.type t12], [.ref a, .type t12], b, n, true, [], ch, false, none, false⟩), ⟨[none, none, some (.str n t), some (.str n u), some (.builtin t17), some (.bool true)]⟩⟩
noncomputable def cd (n q : Str) (t : Nat) (line argc : Nat) (fn : Bool) (a : Addr) (r : List Value) (x : Nat) : Obj := fl t1 (.str n t :: .str q (Nat.add t 1) :: .str z1 (Nat.add t 2) :: fi line :: fi argc :: fi 0 :: fi 0 :: fi (cond fn 3 0) :: .ref a :: .bool fn :: fi 181 :: .ref (Nat.add a 1) :: .none :: (r ++ [fi x, fi line, .str z1 (Nat.add x 1)]))
noncomputable def cc (n : Str) (t line a x : Nat) : Obj := cd n n t line 0 false a [.none, .none, .none] x
noncomputable def fa (n q : Str) (s : Stmt) : Obj := ⟨.none, none, (.func (fnD n q s 0 .none .none .none .none .none .none 0)), #[]⟩
noncomputable def fb (n q : Str) (s : Stmt) (d m : Value) (c : Nat) : Obj := ⟨.type t5, none, (.func (fnD n q s 3 d .none .none m (.ref c) .none 0)), #[]⟩
noncomputable abbrev Frg := List (Nat × Obj)
noncomputable def g7 (a : Nat) (n q : Str) (s : Stmt) (d m : Value) (t : Nat) (ns : List Str) (line argc : Nat) : Frg := [(a, e0), (Nat.add a 1, f0), (Nat.add a 2, sq (Nat.add t 3) ns), (Nat.add a 3, e0), (Nat.add a 4, fa n q s), (Nat.add a 5, cd n q t line argc true a [.ref (Nat.add a 2), .ref (Nat.add a 3), .ref (Nat.add a 4)] (Nat.add t (Nat.add 3 ns.length))), (Nat.add a 6, fb n q s d m (Nat.add a 5))]
noncomputable def g5 (a : Nat) (n q : Str) (s : Stmt) (d m : Value) (t : Nat) (line argc : Nat) : Frg := [(a, e0), (Nat.add a 1, f0), (Nat.add a 2, fa n q s), (Nat.add a 3, cd n q t line argc true a [.none, .none, .ref (Nat.add a 2)] (Nat.add t 3)), (Nat.add a 4, fb n q s d m (Nat.add a 3))]
noncomputable abbrev sg (w : World) (m : Nat) (s : SharedT) (ps : List Stmt) (a b : Pos) (s' : SharedT) : Prop := PySem.W.Fast.tw10110043849684766642 PySem.W.Fast.tw14364793385576792824 pwT w 11 (some (.ref 6)) 1 m s (PySem.W.piecesOf ps envM cdM a frB) = some (.next, s', cdM, b)
noncomputable def o12 (p : Params) : Obj := f0
noncomputable def V_0 (p : Params) : Frg := [(11, e0), (13, (cc z0 182 1 11 185)), (14, (fr 13 3 z2 164))]
noncomputable def B_ (p : Params) : Frg := [(0, boot_o_0 p), (1, boot_o_1 p), (4, boot_o_4 p), (5, boot_o_5 p), (6, boot_o_6 p), (7, boot_o_7 p), (8, boot_o_8 p), (9, boot_o_9 p), (10, boot_o_10 p)]
noncomputable def T_0 (p : Params) : BT := insP (insP (insP .nil [(0, boot_o_0 p), (1, boot_o_1 p), (2, boot_o_2 p), (3, boot_o_3 p), (4, boot_o_4 p), (5, boot_o_5 p), (6, boot_o_6 p), (7, boot_o_7 p), (8, boot_o_8 p), (9, boot_o_9 p), (10, boot_o_10 p)]) [(12, o12 p)]) (V_0 p)
noncomputable def st_0 (w : World) (os : OsState) : SharedT := ⟨T_0 w.params, 15, lf, #[], boot_drawn, 187, os⟩
noncomputable def o2_1 (p : Params) : Obj := dgrow (boot_o_2 p) [ke p z3 225 (.int 39 0),ke p z4 226 (.int 1 0)] 2
noncomputable def o3_1 (p : Params) : Obj := (dk 14 [ke p z5 165 (.str z6 194),ke p z7 166 .none,ke p z8 167 .none,ke p z9 168 (.builtin t4),ke p z10 169 .none,kr p z11 170 6,kr p z12 171 4,ke p z13 173 (.str z1 172),ke p z14 174 .none,kr p z15 193 21,ki p z16 197 13,kr p z17 228 39,kr p z18 257 60,kr p z19 284 80])
noncomputable def o12_1 (p : Params) : Obj := (tr 0 [1,20,6,27,11,48,16,68])
noncomputable def V_1 (p : Params) : Frg := g7 15 z15 z15 (stm 0) .none (.str z2 164) 187 [z20] 1 1 ++ ([(22, (sr [.type t6])), (23, (fl t7 [.builtin t8, .type t9])), (24, (dk 5 [ke p z21 205 (.str z6 194),ke p z22 207 (.str z17 206),ki p z23 209 6,kr p z24 218 36,kr p z25 221 37])), (25, e0), (26, (tr 4 [8,35])), (27, (cc z17 200 6 25 203)), (28, (fr 27 24 z6 194)), (29, (sq 210 [z26]))] ++ (g7 30 z24 z29 (sub 3 0) (.ref 29) (.str z6 194) 211 [z27,z28] 8 2 ++ ([(37, (sq 219 [z30,z28])), (38, (dk 3 [ke p z21 205 (.str z6 194),ki p z23 209 6,kr p z24 218 36,kr p z25 221 37,kr p z31 223 40,ke p z7 224 .none])), (39, ⟨.type t9, none, (.cls ⟨z17, [.type t6], [.ref 39, .type t6, .type t11, .type t12], 38, z17, true, [], [.ref 60, .ref 80], false, none, false⟩), ⟨[some (.ref 22), none, some (.str z17 198), some (.str z17 206), some (.builtin t10), some (.bool true)]⟩⟩), (40, (fl t13 [.str z31 222, .ref 39, .builtin t14, .none])), (41, (fl t15 [.ref 39, .ref 39, .ref 39])), (42, (fl t7 [.builtin t16, .ref 39])), (43, (sr [.ref 39])), (44, (fl t7 [.builtin t8, .type t9])), (45, (dk 5 [ke p z21 236 (.str z6 194),ke p z22 238 (.str z18 237),ki p z23 240 11,kr p z24 251 57,kr p z25 254 58])), (46, e0), (47, (tr 4 [13,56])), (48, (cc z18 231 11 46 234)), (49, (fr 48 45 z6 194)), (50, (sr [.int 2589 241, .str z26 242]))] ++ (g7 51 z24 z32 (sub 4 0) (.ref 50) (.str z6 194) 243 [z27,z30,z28] 13 3 ++ ([(58, (sq 252 [z30,z28])), (59, (dk 2 [ke p z21 236 (.str z6 194),ki p z23 240 11,kr p z24 251 57,kr p z25 254 58,ke p z7 255 .none])), (60, ⟨.type t9, none, (.cls ⟨z18, [.ref 39], [.ref 60, .ref 39, .type t6, .type t11, .type t12], 59, z18, true, [], [], false, none, false⟩), ⟨[some (.ref 43), none, some (.str z18 229), some (.str z18 237), some (.builtin t10), some (.bool true)]⟩⟩), (61, (fl t15 [.ref 60, .ref 60, .ref 60])), (62, (fl t7 [.builtin t16, .ref 60])), (63, (sr [.ref 39])), (64, (fl t7 [.builtin t8, .type t9])), (65, (dk 5 [ke p z21 265 (.str z6 194),ke p z22 267 (.str z19 266),ki p z23 269 16,kr p z24 278 77,kr p z25 281 78])), (66, e0), (67, (tr 4 [18,76])), (68, (cc z19 260 16 66 263)), (69, (fr 68 65 z6 194)), (70, (sq 270 [z26]))] ++ (g7 71 z24 z33 (sub 5 0) (.ref 70) (.str z6 194) 271 [z27,z28] 18 2 ++ ([(78, (sq 279 [z30,z28])), (79, (dk 2 [ke p z21 265 (.str z6 194),ki p z23 269 16,kr p z24 278 77,kr p z25 281 78,ke p z7 282 .none])), (80, ⟨.type t9, none, (.cls ⟨z19, [.ref 39], [.ref 80, .ref 39, .type t6, .type t11, .type t12], 79, z19, true, [], [], false, none, false⟩), ⟨[some (.ref 63), none, some (.str z19 258), some (.str z19 266), some (.builtin t10), some (.bool true)]⟩⟩), (81, (fl t15 [.ref 80, .ref 80, .ref 80])), (82, (fl t7 [.builtin t16, .ref 80]))])))))))
noncomputable def T_1 (p : Params) : BT := insP (insP (T_0 p) [(2, o2_1 p), (3, o3_1 p), (12, o12_1 p)]) (V_1 p)
noncomputable def st_1 (w : World) (os : OsState) : SharedT := ⟨T_1 w.params, 83, lf, #[], boot_drawn, 285, os⟩
noncomputable def sts_1 : List Stmt := (pwT.main.body.drop 0).take 6
theorem c_1 (w : World) (os : OsState) : sg w 777 (st_0 w os) sts_1 ⟨0, 0, 0, 0⟩ ⟨16, 0, 20, 24⟩ (st_1 w os) := by kernel_rfl
noncomputable def o3_2 (p : Params) : Obj := dset (o3_1 p) (ke p z5 165 (.str z34 428)) [kr p z35 326 106,kr p z36 373 140,kr p z37 427 182,ki p z38 431 1,ki p z39 433 2] 19
noncomputable def o12_2 (p : Params) : Obj := (tr 0 [1,20,6,27,11,48,16,68,21,88,31,116,42,150])
noncomputable def V_2 (p : Params) : Frg := [(83, e0), (84, (fl t7 [.builtin t8, .type t9])), (85, (dk 6 [ke p z21 292 (.str z6 194),ke p z22 294 (.str z35 293),ki p z23 296 21,kr p z24 307 96,kr p z40 314 103,kr p z25 319 104])), (86, e0), (87, (tr 4 [23,95,29,102])), (88, (cc z35 287 21 86 290)), (89, (fr 88 85 z6 194))] ++ (g7 90 z24 z44 (sub 6 0) .none (.str z6 194) 297 [z27,z30,z41,z42,z43] 23 5 ++ (g7 97 z40 z45 (sub 6 1) .none (.str z6 194) 308 [z27] 29 1 ++ ([(104, (sq 315 [z42,z41,z43,z30])), (105, (dk 4 [ke p z21 292 (.str z6 194),ki p z23 296 21,kr p z24 307 96,kr p z40 314 103,kr p z25 319 104,kr p z46 321 107,kr p z31 323 108,ke p z7 324 .none])), (106, (cl z35 106 105 [] 285 293)), (107, (fl t13 [.str z46 320, .ref 106, .builtin t18, .builtin t19])), (108, (fl t13 [.str z31 322, .ref 106, .builtin t14, .none])), (109, (fl t15 [.ref 106, .ref 106, .ref 106])), (110, (fl t7 [.builtin t16, .ref 106])), (111, e0), (112, (fl t7 [.builtin t8, .type t9])), (113, (dk 7 [ke p z21 334 (.str z6 194),ke p z22 336 (.str z36 335),ki p z23 338 31,kr p z24 347 125,kr p z47 357 132,kr p z48 363 137,kr p z25 366 138])), (114, e0), (115, (tr 4 [33,124,37,131,40,136])), (116, (cc z36 329 31 114 332)), (117, (fr 116 113 z6 194)), (118, (sq 339 [z26]))] ++ (g7 119 z24 z49 (sub 7 0) (.ref 118) (.str z6 194) 340 [z27,z43] 33 2 ++ (g7 126 z47 z50 (sub 7 1) .none (.str z6 194) 348 [z27,z30,z41,z42] 37 4 ++ (g5 133 z48 z51 (sub 7 2) .none (.str z6 194) 358 40 1 ++ ([(138, (sq 364 [z43,z52])), (139, (dk 4 [ke p z21 334 (.str z6 194),ki p z23 338 31,kr p z24 347 125,kr p z47 357 132,kr p z48 363 137,kr p z25 366 138,kr p z46 368 141,kr p z31 370 142,ke p z7 371 .none])), (140, (cl z36 140 139 [] 327 335)), (141, (fl t13 [.str z46 367, .ref 140, .builtin t18, .builtin t19])), (142, (fl t13 [.str z31 369, .ref 140, .builtin t14, .none])), (143, (fl t15 [.ref 140, .ref 140, .ref 140])), (144, (fl t7 [.builtin t16, .ref 140])), (145, e0), (146, (fl t7 [.builtin t8, .type t9])), (147, (dk 8 [ke p z21 381 (.str z6 194),ke p z22 383 (.str z37 382),ki p z23 385 42,kr p z24 392 158,kr p z47 401 165,kr p z53 411 172,kr p z54 418 179,kr p z25 420 180])), (148, e0), (149, (tr 4 [44,157,47,164,50,171,56,178])), (150, (cc z37 376 42 148 379)), (151, (fr 150 147 z6 194))] ++ (g7 152 z24 z55 (sub 8 0) .none (.str z6 194) 386 [z27] 44 1 ++ (g7 159 z47 z57 (sub 8 1) .none (.str z6 194) 393 [z27,z56,z41] 47 3 ++ (g7 166 z53 z59 (sub 8 2) .none (.str z6 194) 402 [z27,z58,z56,z41] 50 1 ++ (g7 173 z54 z60 (sub 8 3) .none (.str z6 194) 412 [z27] 56 1 ++ ([(180, (sq 419 [z52])), (181, (dk 4 [ke p z21 381 (.str z6 194),ki p z23 385 42,kr p z24 392 158,kr p z47 401 165,kr p z53 411 172,kr p z54 418 179,kr p z25 420 180,kr p z46 422 183,kr p z31 424 184,ke p z7 425 .none])), (182, (cl z37 182 181 [] 374 382)), (183, (fl t13 [.str z46 421, .ref 182, .builtin t18, .builtin t19])), (184, (fl t13 [.str z31 423, .ref 182, .builtin t14, .none])), (185, (fl t15 [.ref 182, .ref 182, .ref 182])), (186, (fl t7 [.builtin t16, .ref 182]))]))))))))))))
noncomputable def T_2 (p : Params) : BT := insP (insP (T_1 p) [(3, o3_2 p), (12, o12_2 p)]) (V_2 p)
noncomputable def st_2 (w : World) (os : OsState) : SharedT := ⟨T_2 w.params, 187, lf, #[], boot_drawn, 434, os⟩
noncomputable def sts_2 : List Stmt := (pwT.main.body.drop 6).take 6
theorem c_2 (w : World) (os : OsState) : sg w 893 (st_1 w os) sts_2 ⟨16, 0, 20, 24⟩ ⟨60, 0, 60, 6⟩ (st_2 w os) := by kernel_rfl
noncomputable def o3_3 (p : Params) : Obj := dgrow (o3_2 p) [ki p z61 435 3,ki p z62 437 4,ki p z63 439 5,ki p z64 441 6,ki p z65 443 7,ki p z66 445 8,ki p z67 447 9,ki p z68 449 10,ki p z69 451 11,ki p z70 453 12,ki p z71 455 13,ki p z72 457 14,ki p z73 459 15,ki p z74 461 16,ki p z75 463 18,ki p z76 465 19,ki p z77 467 0,ki p z78 469 1,ki p z79 471 2,ki p z80 473 3,ki p z81 475 4,ki p z82 477 5,ki p z83 479 6,ki p z84 481 7,ki p z85 483 8,ki p z86 485 9,ki p z87 487 10,ki p z88 489 11,ki p z89 491 13,ki p z90 493 14,ki p z91 495 15,ki p z92 497 1,ki p z93 499 2,ki p z94 501 4,ki p z95 503 8,ki p z96 505 16,ki p z97 507 32,ki p z98 509 64,ki p z99 511 1,ki p z100 513 3,ki p z101 515 1,ki p z102 517 2,ki p z103 519 0,ki p z104 521 1,ki p z105 523 2,ki p z106 525 3,ki p z107 527 4,ki p z108 529 5,ki p z109 531 6,ki p z110 533 7,ki p z111 535 400,kr p z112 557 209,kr p z113 558 210,kr p z114 559 211] 73
noncomputable def V_3 (p : Params) : Frg := [(187, (sr [.int 1 430, .str z115 536])), (188, (sr [.int 1 430, .str z116 537])), (189, (sr [.int 1 430, .str z117 538])), (190, (sr [.int 1 430, .str z118 539])), (191, (sr [.int 1 430, .str z119 540])), (192, (sr [.int 1 430, .str z120 541])), (193, (sr [.int 1 430, .str z121 542])), (194, (sr [.int 1 430, .str z30 543])), (195, (sr [.int 2 432, .int 0 544, .int 0 545])), (196, (sr [.int 2 432, .int 1 546, .int 0 547])), (197, (sr [.int 1 430, .str z122 548])), (198, e0), (199, e0), (200, e0), (201, e0), (202, e0), (203, (sr [.int 8 444, .ref 198, .ref 199, .ref 200, .ref 201, .ref 202, .int 0 549])), (204, (sr [.int 8 550, .int 9 551])), (205, (sr [.int 6 440, .ref 204])), (206, (sr [.int 1 430, .str z123 552])), (207, (sr [.int 2 432, .int 0 553, .int 1 554])), (208, (sr [.int 2 432, .int 1 555, .int 1 556])), (209, (sr [.ref 187, .ref 188, .ref 189, .ref 190, .ref 191, .ref 192, .ref 193, .ref 194, .ref 195, .ref 196, .ref 197, .ref 203, .ref 205, .ref 206, .ref 207, .ref 208])), (210, (sr [.int 2 432, .int 3 434, .int 4 436, .int 5 438, .int 8 444])), (211, (sr [.int 8 444, .int 9 446, .int 11 450, .int 12 452, .int 13 454]))]
noncomputable def T_3 (p : Params) : BT := insP (insP (T_2 p) [(3, o3_3 p)]) (V_3 p)
noncomputable def st_3 (w : World) (os : OsState) : SharedT := ⟨T_3 w.params, 212, lf, #[], boot_drawn, 560, os⟩
noncomputable def sts_3 : List Stmt := (pwT.main.body.drop 12).take 54
theorem c_3 (w : World) (os : OsState) : sg w 607 (st_2 w os) sts_3 ⟨60, 0, 60, 6⟩ ⟨114, 0, 114, 11⟩ (st_3 w os) := by kernel_rfl
noncomputable def o3_4 (p : Params) : Obj := dgrow (o3_3 p) [kr p z124 566 212] 74
noncomputable def V_4 (p : Params) : Frg := [(212, (dk 6 [⟨3, .int 3 472, .int 6 530⟩,⟨4, .int 4 474, .int 5 528⟩,⟨5, .int 5 476, .int 4 526⟩,⟨6, .int 6 478, .int 1 520⟩,⟨7, .int 7 480, .int 2 522⟩,⟨10, .int 10 486, .int 7 532⟩]))]
noncomputable def T_4 (p : Params) : BT := insP (insP (T_3 p) [(3, o3_4 p)]) (V_4 p)
noncomputable def st_4 (w : World) (os : OsState) : SharedT := ⟨T_4 w.params, 213, lf, #[], boot_drawn, 567, os⟩
noncomputable def sts_4 : List Stmt := (pwT.main.body.drop 66).take 1
theorem c_4a (w : World) (os : OsState) : sg (w.withFollow "special-get-raises" false) 101 (st_3 (w.withFollow "special-get-raises" false) os) sts_4 ⟨114, 0, 114, 11⟩ ⟨115, 0, 115, 12⟩ (st_4 (w.withFollow "special-get-raises" false) os) := by kernel_rfl
theorem c_4b (w : World) (os : OsState) : sg (w.withFollow "special-get-raises" true) 101 (st_3 (w.withFollow "special-get-raises" true) os) sts_4 ⟨114, 0, 114, 11⟩ ⟨115, 0, 115, 12⟩ (st_4 (w.withFollow "special-get-raises" true) os) := by kernel_rfl
theorem c_4 (w : World) (os : OsState) : sg w 101 (st_3 w os) sts_4 ⟨114, 0, 114, 11⟩ ⟨115, 0, 115, 12⟩ (st_4 w os) := byRow2 "special-get-raises" (P := fun w => ∀ os, sg w 101 (st_3 w os) sts_4 ⟨114, 0, 114, 11⟩ ⟨115, 0, 115, 12⟩ (st_4 w os)) (fun w os => c_4a w os) (fun w os => c_4b w os) w os
noncomputable def o3_5 (p : Params) : Obj := dgrow (o3_4 p) [kr p z125 621 243,kr p z126 666 264,kr p z127 674 275,kr p z128 684 283,kr p z129 694 291,kr p z130 704 299,kr p z131 713 306,kr p z132 723 314,kr p z133 729 319,kr p z134 743 331,kr p z135 756 340,kr p z136 764 347] 86
noncomputable def o12_5 (p : Params) : Obj := (tr 0 [1,20,6,27,11,48,16,68,21,88,31,116,42,150,116,218,142,253,160,274,162,282,164,290,166,298,168,305,170,313,172,318,177,330,179,339,181,346])
noncomputable def V_5 (p : Params) : Frg := [(213, e0), (214, (fl t7 [.builtin t8, .type t9])), (215, (dk 7 [ke p z21 574 (.str z34 428),ke p z22 576 (.str z125 575),ki p z23 578 116,kr p z24 586 226,kr p z40 594 233,kr p z47 603 240,kr p z25 614 241])), (216, e0), (217, (tr 4 [118,225,132,232,135,239])), (218, (cc z125 569 116 216 572)), (219, (fr 218 215 z34 428))] ++ (g7 220 z24 z137 (sub 67 0) .none (.str z34 428) 579 [z27,z40] 118 1 ++ (g7 227 z40 z139 (sub 67 1) .none (.str z34 428) 587 [z27,z138] 132 2 ++ (g7 234 z47 z140 (sub 67 2) .none (.str z34 428) 595 [z27,z40,z138] 135 2 ++ ([(241, (sq 604 [z141,z142,z143,z144,z145,z146,z147,z148,z52,z149])), (242, (dk 4 [ke p z21 574 (.str z34 428),ki p z23 578 116,kr p z24 586 226,kr p z40 594 233,kr p z47 603 240,kr p z25 614 241,kr p z46 616 244,kr p z31 618 245,ke p z7 619 .none])), (243, (cl z125 243 242 [] 567 575)), (244, (fl t13 [.str z46 615, .ref 243, .builtin t18, .builtin t19])), (245, (fl t13 [.str z31 617, .ref 243, .builtin t14, .none])), (246, (fl t15 [.ref 243, .ref 243, .ref 243])), (247, (fl t7 [.builtin t16, .ref 243])), (248, e0), (249, (fl t7 [.builtin t8, .type t9])), (250, (dk 5 [ke p z21 629 (.str z34 428),ke p z22 631 (.str z126 630),ki p z23 633 142,kr p z24 643 261,kr p z25 659 262])), (251, e0), (252, (tr 4 [144,260])), (253, (cc z126 624 142 251 627)), (254, (fr 253 250 z34 428))] ++ (g7 255 z24 z153 (sub 68 0) .none (.str z34 428) 634 [z27,z150,z151,z152] 144 4 ++ ([(262, (sq 644 [z154,z41,z155,z156,z157,z150,z158,z43,z151,z159,z152,z160,z161,z162,z163])), (263, (dk 4 [ke p z21 629 (.str z34 428),ki p z23 633 142,kr p z24 643 261,kr p z25 659 262,kr p z46 661 265,kr p z31 663 266,ke p z7 664 .none])), (264, (cl z126 264 263 [] 622 630)), (265, (fl t13 [.str z46 660, .ref 264, .builtin t18, .builtin t19])), (266, (fl t13 [.str z31 662, .ref 264, .builtin t14, .none])), (267, (fl t15 [.ref 264, .ref 264, .ref 264])), (268, (fl t7 [.builtin t16, .ref 264]))] ++ (g7 269 z127 z127 (stm 69) .none (.str z34 428) 667 [z164,z138] 160 2 ++ ([(276, (sr [.int 0 675]))] ++ (g7 277 z128 z128 (stm 70) (.ref 276) (.str z34 428) 676 [z164,z28,z165] 162 3 ++ ([(284, (sr [.int 0 685]))] ++ (g7 285 z129 z129 (stm 71) (.ref 284) (.str z34 428) 686 [z164,z166,z165] 164 3 ++ ([(292, (sr [.int 0 695]))] ++ (g7 293 z130 z130 (stm 72) (.ref 292) (.str z34 428) 696 [z164,z167,z165] 166 3 ++ (g7 300 z131 z131 (stm 73) .none (.str z34 428) 705 [z164,z150,z42] 168 3 ++ ([(307, (sr [.int 0 714]))] ++ (g7 308 z132 z132 (stm 74) (.ref 307) (.str z34 428) 715 [z164,z168,z169] 170 3 ++ (g5 315 z133 z133 (stm 75) .none (.str z34 428) 724 172 1 ++ ([(320, e0), (321, e0), (322, e0), (323, e0), (324, (sr [.ref 320, .ref 321, .ref 322, .ref 323, .int 0 730]))] ++ (g7 325 z134 z134 (stm 76) (.ref 324) (.str z34 428) 731 [z164,z170,z171,z172,z173,z174,z165] 177 7 ++ ([(332, e0), (333, (sr [.ref 332, .int 0 744]))] ++ (g7 334 z135 z135 (stm 77) (.ref 333) (.str z34 428) 745 [z164,z175,z161,z176,z177,z178] 179 6 ++ (g7 341 z136 z136 (stm 78) .none (.str z34 428) 757 [z164,z179] 181 2))))))))))))))))))))))
noncomputable def T_5 (p : Params) : BT := insP (insP (T_4 p) [(3, o3_5 p), (12, o12_5 p)]) (V_5 p)
noncomputable def st_5 (w : World) (os : OsState) : SharedT := ⟨T_5 w.params, 348, lf, #[], boot_drawn, 765, os⟩
noncomputable def sts_5 : List Stmt := (pwT.main.body.drop 67).take 12
theorem c_5 (w : World) (os : OsState) : sg w 867 (st_4 w os) sts_5 ⟨115, 0, 115, 12⟩ ⟨181, 0, 182, 54⟩ (st_5 w os) := by kernel_rfl
noncomputable def o3_6 (p : Params) : Obj := dset (o3_5 p) (ke p z5 165 (.str z180 912)) [kr p z181 779 355,kr p z182 789 362,kr p z183 798 369,kr p z184 806 376,kr p z185 815 383,kr p z186 822 390,kr p z187 831 397,kr p z188 839 404,kr p z189 845 409,kr p z190 853 416,kr p z191 859 421,kr p z192 870 428,kr p z193 881 435,ki p z194 885 40,kr p z195 886 436,kr p z196 887 437,kr p z197 901 444,kr p z198 911 451,ki p z199 915 200,ki p z200 917 40,ki p z201 919 60] 107
noncomputable def o12_6 (p : Params) : Obj := (tr 0 [1,20,6,27,11,48,16,68,21,88,31,116,42,150,116,218,142,253,160,274,162,282,164,290,166,298,168,305,170,313,172,318,177,330,179,339,181,346,183,354,189,361,193,368,200,375,209,382,214,389,218,396,222,403,227,408,244,415,246,420,250,427,259,434,280,443,296,450])
noncomputable def V_6 (p : Params) : Frg := [(348, (sr [.int (-1) 766, .int (-1) 768]))] ++ (g7 349 z181 z181 (stm 79) (.ref 348) (.str z34 428) 769 [z164,z152,z202,z203,z204] 183 4 ++ (g7 356 z182 z182 (stm 80) .none (.str z34 428) 780 [z164,z151,z152,z205] 189 3 ++ (g7 363 z183 z183 (stm 81) .none (.str z34 428) 790 [z164,z138,z40] 193 2 ++ (g7 370 z184 z184 (stm 82) .none (.str z34 428) 799 [z40,z151] 200 1 ++ (g7 377 z185 z185 (stm 83) .none (.str z34 428) 807 [z164,z138,z40] 209 2 ++ (g7 384 z186 z186 (stm 84) .none (.str z34 428) 816 [z206] 214 1 ++ (g7 391 z187 z187 (stm 85) .none (.str z34 428) 823 [z164,z206,z138] 218 3 ++ (g7 398 z188 z188 (stm 86) .none (.str z34 428) 832 [z206,z138] 222 1 ++ (g5 405 z189 z189 (stm 87) .none (.str z34 428) 840 227 2 ++ (g7 410 z190 z190 (stm 88) .none (.str z34 428) 846 [z164,z138] 244 2 ++ (g5 417 z191 z191 (stm 89) .none (.str z34 428) 854 246 2 ++ (g7 422 z192 z192 (stm 90) .none (.str z34 428) 860 [z164,z207,z58,z208,z209] 250 2 ++ (g7 429 z193 z193 (stm 91) .none (.str z34 428) 871 [z164,z138,z40,z151,z210] 259 2 ++ ([(436, (sr [.int 1 430, .int 2 432, .int 3 434, .int 4 436, .int 5 438])), (437, (sr [.int 11 450, .int 12 452]))] ++ (g7 438 z197 z197 (stm 96) .none (.str z216 882) 888 [z211,z138,z212,z213,z214,z41,z40,z215] 280 2 ++ (g7 445 z198 z198 (stm 97) .none (.str z216 882) 902 [z164,z138,z217,z40] 296 2))))))))))))))))
noncomputable def T_6 (p : Params) : BT := insP (insP (T_5 p) [(3, o3_6 p), (12, o12_6 p)]) (V_6 p)
noncomputable def st_6 (w : World) (os : OsState) : SharedT := ⟨T_6 w.params, 452, lf, #[], boot_drawn, 920, os⟩
noncomputable def sts_6 : List Stmt := (pwT.main.body.drop 79).take 23
theorem c_6 (w : World) (os : OsState) : sg w 565 (st_5 w os) sts_6 ⟨181, 0, 182, 54⟩ ⟨314, 0, 314, 10⟩ (st_6 w os) := by kernel_rfl
noncomputable def o3_7 (p : Params) : Obj := dgrow (o3_6 p) [kr p z218 1105 594,kr p z219 1115 605,kr p z220 1123 612,kr p z221 1129 617] 111
noncomputable def o12_7 (p : Params) : Obj := (tr 0 [1,20,6,27,11,48,16,68,21,88,31,116,42,150,116,218,142,253,160,274,162,282,164,290,166,298,168,305,170,313,172,318,177,330,179,339,181,346,183,354,189,361,193,368,200,375,209,382,214,389,218,396,222,403,227,408,244,415,246,420,250,427,259,434,280,443,296,450,315,457,377,604,383,611,387,616])
noncomputable def o594 (p : Params) : Obj := (cl z218 594 593 [] 920 928)
noncomputable def V_7 (p : Params) : Frg := [(452, e0), (453, (fl t7 [.builtin t8, .type t9])), (454, (dk 23 [ke p z21 927 (.str z180 912),ke p z22 929 (.str z218 928),ki p z23 931 315,kr p z24 939 465,kr p z222 947 472,kr p z223 955 479,kr p z224 964 486,kr p z225 973 493,kr p z202 981 500,kr p z226 989 507,kr p z227 998 514,kr p z228 1007 521,kr p z229 1017 528,kr p z230 1026 535,kr p z231 1035 542,kr p z232 1044 549,kr p z233 1053 556,kr p z234 1060 563,kr p z235 1069 570,kr p z236 1077 577,kr p z237 1085 584,kr p z238 1092 591,kr p z25 1098 592])), (455, e0), (456, (tr 4 [317,464,324,471,327,478,330,485,333,492,336,499,339,506,342,513,345,520,348,527,351,534,354,541,357,548,360,555,363,562,366,569,369,576,372,583,375,590])), (457, (cc z218 922 315 455 925)), (458, (fr 457 454 z180 912))] ++ (g7 459 z24 z239 (sub 102 0) .none (.str z180 912) 932 [z27,z164] 317 2 ++ (g7 466 z222 z240 (sub 102 1) .none (.str z180 912) 940 [z27,z138] 324 2 ++ (g7 473 z223 z241 (sub 102 2) .none (.str z180 912) 948 [z27,z40] 327 2 ++ (g7 480 z224 z243 (sub 102 3) .none (.str z180 912) 956 [z27,z40,z242] 330 3 ++ (g7 487 z225 z244 (sub 102 4) .none (.str z180 912) 965 [z27,z40,z242] 333 3 ++ (g7 494 z202 z245 (sub 102 5) .none (.str z180 912) 974 [z27,z138] 336 2 ++ (g7 501 z226 z246 (sub 102 6) .none (.str z180 912) 982 [z27,z138] 339 2 ++ (g7 508 z227 z248 (sub 102 7) .none (.str z180 912) 990 [z27,z247,z138] 342 3 ++ (g7 515 z228 z249 (sub 102 8) .none (.str z180 912) 999 [z27,z247,z138] 345 3 ++ (g7 522 z229 z253 (sub 102 9) .none (.str z180 912) 1008 [z27,z250,z251,z252] 348 4 ++ (g7 529 z230 z254 (sub 102 10) .none (.str z180 912) 1018 [z27,z247,z138] 351 3 ++ (g7 536 z231 z255 (sub 102 11) .none (.str z180 912) 1027 [z27,z247,z138] 354 3 ++ (g7 543 z232 z256 (sub 102 12) .none (.str z180 912) 1036 [z27,z138,z242] 357 3 ++ (g7 550 z233 z258 (sub 102 13) .none (.str z180 912) 1045 [z27,z247,z257] 360 3 ++ (g7 557 z234 z259 (sub 102 14) .none (.str z180 912) 1054 [z27] 363 1 ++ (g7 564 z235 z260 (sub 102 15) .none (.str z180 912) 1061 [z27,z138,z152] 366 3 ++ (g7 571 z236 z261 (sub 102 16) .none (.str z180 912) 1070 [z27,z138] 369 2 ++ (g7 578 z237 z263 (sub 102 17) .none (.str z180 912) 1078 [z27,z262] 372 2 ++ (g7 585 z238 z264 (sub 102 18) .none (.str z180 912) 1086 [z27] 375 1 ++ ([(592, (sq 1093 [z265,z266,z267,z268,z164])), (593, (dk 4 [ke p z21 927 (.str z180 912),ki p z23 931 315,kr p z24 939 465,kr p z222 947 472,kr p z223 955 479,kr p z224 964 486,kr p z225 973 493,kr p z202 981 500,kr p z226 989 507,kr p z227 998 514,kr p z228 1007 521,kr p z229 1017 528,kr p z230 1026 535,kr p z231 1035 542,kr p z232 1044 549,kr p z233 1053 556,kr p z234 1060 563,kr p z235 1069 570,kr p z236 1077 577,kr p z237 1085 584,kr p z238 1092 591,kr p z25 1098 592,kr p z46 1100 595,kr p z31 1102 596,ke p z7 1103 .none])), (595, (fl t13 [.str z46 1099, .ref 594, .builtin t18, .builtin t19])), (596, (fl t13 [.str z31 1101, .ref 594, .builtin t14, .none])), (597, (fl t15 [.ref 594, .ref 594, .ref 594])), (598, (fl t7 [.builtin t16, .ref 594]))] ++ (g7 599 z219 z219 (stm 103) .none (.str z180 912) 1106 [z164,z138,z40,z202] 377 2 ++ (g7 606 z220 z220 (stm 104) .none (.str z180 912) 1116 [z164,z168] 383 2 ++ (g5 613 z221 z221 (stm 105) .none (.str z180 912) 1124 387 2)))))))))))))))))))))))
noncomputable def T_7 (p : Params) : BT := insP (insP (T_6 p) [(3, o3_7 p), (12, o12_7 p), (594, o594 p)]) (V_7 p)
noncomputable def st_7 (w : World) (os : OsState) : SharedT := ⟨T_7 w.params, 618, lf, #[], boot_drawn, 1130, os⟩
noncomputable def sts_7 : List Stmt := (pwT.main.body.drop 102).take 4
theorem c_7 (w : World) (os : OsState) : sg w 900 (st_6 w os) sts_7 ⟨314, 0, 314, 10⟩ ⟨387, 0, 390, 64⟩ (st_7 w os) := by kernel_rfl
noncomputable def o3_8 (p : Params) : Obj := dset (o3_7 p) (ke p z5 165 (.str z269 1222)) [kr p z270 1135 622,kr p z271 1142 628,ki p z272 1146 12,kr p z273 1147 629,kr p z274 1153 634,kr p z275 1161 641,kr p z276 1164 642,kr p z277 1172 649,kr p z278 1186 656,kr p z279 1198 663,kr p z280 1209 670,kr p z281 1215 675,kr p z282 1221 680,ki p z283 1225 8,ki p z284 1227 36] 126
noncomputable def o12_8 (p : Params) : Obj := (tr 0 [1,20,6,27,11,48,16,68,21,88,31,116,42,150,116,218,142,253,160,274,162,282,164,290,166,298,168,305,170,313,172,318,177,330,179,339,181,346,183,354,189,361,193,368,200,375,209,382,214,389,218,396,222,403,227,408,244,415,246,420,250,427,259,434,280,443,296,450,315,457,377,604,383,611,387,616,391,621,401,627,407,633,420,640,424,648,430,655,448,662,457,669,462,674,480,679])
noncomputable def V_8 (p : Params) : Frg := g5 618 z270 z270 (stm 106) .none (.str z180 912) 1130 391 3 ++ ([(623, (sr [.int 0 1136]))] ++ (g5 624 z271 z271 (stm 107) (.ref 623) (.str z180 912) 1137 401 3 ++ ([(629, (sr [.int 10 448, .int 15 458, .int 16 460, .int 19 464, .int 7 442]))] ++ (g5 630 z274 z274 (stm 111) .none (.str z285 1143) 1148 407 2 ++ (g7 635 z275 z275 (stm 112) .none (.str z285 1143) 1154 [z286,z138] 420 2 ++ ([(642, (sr [.int 10 448, .int 15 458, .int 16 460, .int 14 456]))] ++ (g7 643 z277 z277 (stm 115) .none (.str z287 1162) 1165 [z286,z138] 424 2 ++ (g7 650 z278 z278 (stm 117) .none (.str z288 1173) 1175 [z286,z208,z213,z214,z138,z40] 430 2 ++ (g7 657 z279 z279 (stm 118) .none (.str z288 1173) 1187 [z286,z208,z289,z212,z290,z291] 448 2 ++ (g7 664 z280 z280 (stm 120) .none (.str z293 1199) 1201 [z286,z208,z292] 457 2 ++ (g5 671 z281 z281 (stm 121) .none (.str z293 1199) 1210 462 4 ++ (g5 676 z282 z282 (stm 122) .none (.str z293 1199) 1216 480 4))))))))))))
noncomputable def T_8 (p : Params) : BT := insP (insP (T_7 p) [(3, o3_8 p), (12, o12_8 p)]) (V_8 p)
noncomputable def st_8 (w : World) (os : OsState) : SharedT := ⟨T_8 w.params, 681, lf, #[], boot_drawn, 1228, os⟩
noncomputable def sts_8 : List Stmt := (pwT.main.body.drop 106).take 20
theorem c_8 (w : World) (os : OsState) : sg w 402 (st_7 w os) sts_8 ⟨387, 0, 390, 64⟩ ⟨489, 0, 489, 6⟩ (st_8 w os) := by kernel_rfl
noncomputable def o3_9 (p : Params) : Obj := dgrow (o3_8 p) [kr p z294 1495 681] 127
noncomputable def V_9 (p : Params) : Frg := [(681, (dk 89 [ks 1 1228 z30,ks 2 1231 z28,ks 3 1234 z295,ks 4 1237 z296,ks 5 1240 z297,ks 6 1243 z120,ks 7 1246 z119,ks 8 1249 z152,ks 9 1252 z298,ks 10 1255 z299,ks 11 1258 z300,ks 12 1261 z301,ks 13 1264 z302,ks 14 1267 z303,ks 15 1270 z304,ks 16 1273 z305,ks 17 1276 z144,ks 18 1279 z306,ks 19 1282 z307,ks 20 1285 z308,ks 21 1288 z309,ks 22 1291 z310,ks 23 1294 z311,ks 24 1297 z312,ks 25 1300 z313,ks 26 1303 z314,ks 27 1306 z315,ks 28 1309 z316,ks 29 1312 z317,ks 30 1315 z318,ks 31 1318 z319,ks 32 1321 z320,ks 33 1324 z321,ks 34 1327 z322,ks 35 1330 z323,ks 36 1333 z324,ks 40 1336 z43,ks 41 1339 z325,ks 42 1342 z326,ks 43 1345 z327,ks 44 1348 z328,ks 45 1351 z329,ks 46 1354 z330,ks 47 1357 z331,ks 48 1360 z332,ks 49 1363 z333,ks 50 1366 z334,ks 51 1369 z335,ks 52 1372 z336,ks 53 1375 z337,ks 54 1378 z338,ks 55 1381 z339,ks 56 1384 z340,ks 57 1387 z341,ks 58 1390 z342,ks 59 1393 z343,ks 60 1396 z344,ks 61 1399 z345,ks 62 1402 z346,ks 63 1405 z347,ks 64 1408 z348,ks 65 1411 z349,ks 66 1414 z350,ks 67 1417 z351,ks 68 1420 z352,ks 69 1423 z353,ks 70 1426 z354,ks 71 1429 z355,ks 80 1432 z356,ks 81 1435 z357,ks 82 1438 z358,ks 83 1441 z359,ks 84 1444 z360,ks 85 1447 z361,ks 86 1450 z362,ks 87 1453 z363,ks 88 1456 z364,ks 89 1459 z365,ks 90 1462 z366,ks 91 1465 z367,ks 92 1468 z368,ks 93 1471 z369,ks 94 1474 z370,ks 95 1477 z371,ks 96 1480 z372,ks 97 1483 z373,ks 98 1485 z374,ks 99 1487 z375,ks 100 1489 z376])), (682, (dk 17 [ks 18 1279 z306,ks 19 1282 z307,ks 20 1285 z308,ks 21 1288 z309,ks 22 1291 z310,ks 23 1294 z311,ks 24 1297 z312,ks 25 1300 z313,ks 26 1303 z314,ks 27 1306 z315,ks 28 1309 z316,ks 29 1312 z317,ks 30 1315 z318,ks 31 1318 z319,ks 32 1321 z320,ks 33 1324 z321,ks 34 1327 z322])), (683, (dk 17 [ks 35 1330 z323,ks 36 1333 z324,ks 40 1336 z43,ks 41 1339 z325,ks 42 1342 z326,ks 43 1345 z327,ks 44 1348 z328,ks 45 1351 z329,ks 46 1354 z330,ks 47 1357 z331,ks 48 1360 z332,ks 49 1363 z333,ks 50 1366 z334,ks 51 1369 z335,ks 52 1372 z336,ks 53 1375 z337,ks 54 1378 z338])), (684, (dk 17 [ks 55 1381 z339,ks 56 1384 z340,ks 57 1387 z341,ks 58 1390 z342,ks 59 1393 z343,ks 60 1396 z344,ks 61 1399 z345,ks 62 1402 z346,ks 63 1405 z347,ks 64 1408 z348,ks 65 1411 z349,ks 66 1414 z350,ks 67 1417 z351,ks 68 1420 z352,ks 69 1423 z353,ks 70 1426 z354,ks 71 1429 z355])), (685, (dk 17 [ks 80 1432 z356,ks 81 1435 z357,ks 82 1438 z358,ks 83 1441 z359,ks 84 1444 z360,ks 85 1447 z361,ks 86 1450 z362,ks 87 1453 z363,ks 88 1456 z364,ks 89 1459 z365,ks 90 1462 z366,ks 91 1465 z367,ks 92 1468 z368,ks 93 1471 z369,ks 94 1474 z370,ks 95 1477 z371,ks 96 1480 z372])), (686, (dk 4 [ks 97 1483 z373,ks 98 1485 z374,ks 99 1487 z375,ks 100 1489 z376]))]
noncomputable def T_9 (p : Params) : BT := insP (insP (T_8 p) [(3, o3_9 p)]) (V_9 p)
noncomputable def st_9 (w : World) (os : OsState) : SharedT := ⟨T_9 w.params, 687, lf, #[], boot_drawn, 1496, os⟩
noncomputable def sts_9 : List Stmt := (pwT.main.body.drop 126).take 1
theorem c_9a (w : World) (os : OsState) : sg (w.withFollow "special-get-raises" false) 1635 (st_8 (w.withFollow "special-get-raises" false) os) sts_9 ⟨489, 0, 489, 6⟩ ⟨490, 0, 490, 10⟩ (st_9 (w.withFollow "special-get-raises" false) os) := by kernel_rfl
theorem c_9b (w : World) (os : OsState) : sg (w.withFollow "special-get-raises" true) 1635 (st_8 (w.withFollow "special-get-raises" true) os) sts_9 ⟨489, 0, 489, 6⟩ ⟨490, 0, 490, 10⟩ (st_9 (w.withFollow "special-get-raises" true) os) := by kernel_rfl
theorem c_9 (w : World) (os : OsState) : sg w 1635 (st_8 w os) sts_9 ⟨489, 0, 489, 6⟩ ⟨490, 0, 490, 10⟩ (st_9 w os) := byRow2 "special-get-raises" (P := fun w => ∀ os, sg w 1635 (st_8 w os) sts_9 ⟨489, 0, 489, 6⟩ ⟨490, 0, 490, 10⟩ (st_9 w os)) (fun w os => c_9a w os) (fun w os => c_9b w os) w os
noncomputable def o3_10 (p : Params) : Obj := dset (o3_9 p) (ke p z5 165 (.str z377 1577)) [kr p z378 1533 703,kr p z379 1542 714,kr p z380 1576 738,ki p z381 1580 50,kr p z382 1632 771] 132
noncomputable def o12_10 (p : Params) : Obj := (tr 0 [1,20,6,27,11,48,16,68,21,88,31,116,42,150,116,218,142,253,160,274,162,282,164,290,166,298,168,305,170,313,172,318,177,330,179,339,181,346,183,354,189,361,193,368,200,375,209,382,214,389,218,396,222,403,227,408,244,415,246,420,250,427,259,434,280,443,296,450,315,457,377,604,383,611,387,616,391,621,401,627,407,633,420,640,424,648,430,655,448,662,457,669,462,674,480,679,491,692,500,713,503,720,512,746])
noncomputable def o594_10 (p : Params) : Obj := (cl z218 594 593 [.ref 738] 920 928)
noncomputable def V_10 (p : Params) : Frg := [(687, e0), (688, (fl t7 [.builtin t8, .type t9])), (689, (dk 5 [ke p z21 1503 (.str z269 1222),ke p z22 1505 (.str z378 1504),ki p z23 1507 491,kr p z24 1519 700,kr p z25 1526 701])), (690, e0), (691, (tr 4 [493,699])), (692, (cc z378 1498 491 690 1501)), (693, (fr 692 689 z269 1222))] ++ (g7 694 z24 z385 (sub 127 0) .none (.str z269 1222) 1508 [z27,z151,z383,z384,z178,z41] 493 6 ++ ([(701, (sq 1520 [z383,z41,z178,z384,z151,z160])), (702, (dk 4 [ke p z21 1503 (.str z269 1222),ki p z23 1507 491,kr p z24 1519 700,kr p z25 1526 701,kr p z46 1528 704,kr p z31 1530 705,ke p z7 1531 .none])), (703, (cl z378 703 702 [] 1496 1504)), (704, (fl t13 [.str z46 1527, .ref 703, .builtin t18, .builtin t19])), (705, (fl t13 [.str z31 1529, .ref 703, .builtin t14, .none])), (706, (fl t15 [.ref 703, .ref 703, .ref 703])), (707, (fl t7 [.builtin t16, .ref 703]))] ++ (g7 708 z379 z379 (stm 128) .none (.str z269 1222) 1534 [z151,z383,z41] 500 3 ++ ([(715, (sr [.ref 594])), (716, (fl t7 [.builtin t8, .type t9])), (717, (dk 6 [ke p z21 1552 (.str z386 1543),ke p z22 1554 (.str z380 1553),ki p z23 1556 503,kr p z202 1564 728,kr p z226 1572 735,kr p z25 1573 736])), (718, e0), (719, (tr 4 [505,727,508,734])), (720, (cc z380 1547 503 718 1550)), (721, (fr 720 717 z386 1543))] ++ (g7 722 z202 z387 (sub 130 0) .none (.str z386 1543) 1557 [z27,z138] 505 2 ++ (g7 729 z226 z388 (sub 130 1) .none (.str z386 1543) 1565 [z27,z138] 508 2 ++ ([(736, e0), (737, (dk 2 [ke p z21 1552 (.str z386 1543),ki p z23 1556 503,kr p z202 1564 728,kr p z226 1572 735,kr p z25 1573 736,ke p z7 1574 .none])), (738, ⟨.type t9, none, (.cls ⟨z380, [.ref 594], [.ref 738, .ref 594, .type t12], 737, z380, true, [], [], false, none, false⟩), ⟨[some (.ref 715), none, some (.str z380 1545), some (.str z380 1553), some (.builtin t17), some (.bool true)]⟩⟩), (739, (fl t15 [.ref 738, .ref 738, .ref 738])), (740, (fl t7 [.builtin t16, .ref 738])), (741, e0), (742, (fl t7 [.builtin t8, .type t9])), (743, (dk 7 [ke p z21 1588 (.str z377 1577),ke p z22 1590 (.str z382 1589),ki p z23 1592 512,kr p z389 1603 754,kr p z390 1613 761,kr p z391 1624 768,kr p z25 1625 769])), (744, e0), (745, (tr 4 [514,753,517,760,520,767])), (746, (cc z382 1583 512 744 1586)), (747, (fr 746 743 z377 1577))] ++ (g7 748 z389 z394 (sub 133 0) .none (.str z377 1577) 1593 [z27,z286,z392,z40,z393] 514 5 ++ (g7 755 z390 z396 (sub 133 1) .none (.str z377 1577) 1604 [z27,z286,z395,z40] 517 4 ++ (g7 762 z391 z397 (sub 133 2) .none (.str z377 1577) 1614 [z27,z286,z392,z40,z393] 520 5 ++ ([(769, e0), (770, (dk 4 [ke p z21 1588 (.str z377 1577),ki p z23 1592 512,kr p z389 1603 754,kr p z390 1613 761,kr p z391 1624 768,kr p z25 1625 769,kr p z46 1627 772,kr p z31 1629 773,ke p z7 1630 .none])), (771, (cl z382 771 770 [] 1581 1589)), (772, (fl t13 [.str z46 1626, .ref 771, .builtin t18, .builtin t19])), (773, (fl t13 [.str z31 1628, .ref 771, .builtin t14, .none])), (774, (fl t15 [.ref 771, .ref 771, .ref 771])), (775, (fl t7 [.builtin t16, .ref 771]))])))))))))))
noncomputable def T_10 (p : Params) : BT := insP (insP (T_9 p) [(3, o3_10 p), (12, o12_10 p), (594, o594_10 p)]) (V_10 p)
noncomputable def st_10 (w : World) (os : OsState) : SharedT := ⟨T_10 w.params, 776, lf, #[], boot_drawn, 1633, os⟩
noncomputable def sts_10 : List Stmt := (pwT.main.body.drop 127).take 7
theorem c_10 (w : World) (os : OsState) : sg w 859 (st_9 w os) sts_10 ⟨490, 0, 490, 10⟩ ⟨512, 0, 521, 17⟩ (st_10 w os) := by kernel_rfl
noncomputable def o3_11 (p : Params) : Obj := dgrow (o3_10 p) [kr p z398 1671 799,kr p z399 1790 883] 134
noncomputable def o12_11 (p : Params) : Obj := (tr 0 [1,20,6,27,11,48,16,68,21,88,31,116,42,150,116,218,142,253,160,274,162,282,164,290,166,298,168,305,170,313,172,318,177,330,179,339,181,346,183,354,189,361,193,368,200,375,209,382,214,389,218,396,222,403,227,408,244,415,246,420,250,427,259,434,280,443,296,450,315,457,377,604,383,611,387,616,391,621,401,627,407,633,420,640,424,648,430,655,448,662,457,669,462,674,480,679,491,692,500,713,503,720,512,746,522,781,529,809])
noncomputable def V_11 (p : Params) : Frg := [(776, e0), (777, (fl t7 [.builtin t8, .type t9])), (778, (dk 6 [ke p z21 1640 (.str z377 1577),ke p z22 1642 (.str z398 1641),ki p z23 1644 522,kr p z24 1651 789,kr p z400 1662 796,kr p z25 1664 797])), (779, e0), (780, (tr 4 [524,788,527,795])), (781, (cc z398 1635 522 779 1638)), (782, (fr 781 778 z377 1577))] ++ (g7 783 z24 z401 (sub 134 0) .none (.str z377 1577) 1645 [z27] 524 1 ++ (g7 790 z400 z404 (sub 134 1) .none (.str z377 1577) 1652 [z27,z286,z402,z152,z403] 527 5 ++ ([(797, (sq 1663 [z405])), (798, (dk 4 [ke p z21 1640 (.str z377 1577),ki p z23 1644 522,kr p z24 1651 789,kr p z400 1662 796,kr p z25 1664 797,kr p z46 1666 800,kr p z31 1668 801,ke p z7 1669 .none])), (799, (cl z398 799 798 [] 1633 1641)), (800, (fl t13 [.str z46 1665, .ref 799, .builtin t18, .builtin t19])), (801, (fl t13 [.str z31 1667, .ref 799, .builtin t14, .none])), (802, (fl t15 [.ref 799, .ref 799, .ref 799])), (803, (fl t7 [.builtin t16, .ref 799])), (804, e0), (805, (fl t7 [.builtin t8, .type t9])), (806, (dk 14 [ke p z21 1679 (.str z377 1577),ke p z22 1681 (.str z399 1680),ki p z23 1683 529,kr p z24 1690 817,kr p z227 1700 824,kr p z228 1710 831,kr p z406 1720 838,kr p z407 1730 845,kr p z408 1740 852,kr p z409 1750 859,kr p z410 1759 866,kr p z411 1768 873,kr p z412 1781 880,kr p z25 1783 881])), (807, e0), (808, (tr 4 [531,816,534,823,537,830,540,837,543,844,546,851,549,858,552,865,555,872,558,879])), (809, (cc z399 1674 529 807 1677)), (810, (fr 809 806 z377 1577))] ++ (g7 811 z24 z413 (sub 135 0) .none (.str z377 1577) 1684 [z27] 531 1 ++ (g7 818 z227 z414 (sub 135 1) .none (.str z377 1577) 1691 [z27,z286,z247,z138] 534 4 ++ (g7 825 z228 z415 (sub 135 2) .none (.str z377 1577) 1701 [z27,z286,z247,z138] 537 4 ++ (g7 832 z406 z416 (sub 135 3) .none (.str z377 1577) 1711 [z27,z286,z247,z138] 540 4 ++ (g7 839 z407 z417 (sub 135 4) .none (.str z377 1577) 1721 [z27,z286,z247,z138] 543 4 ++ (g7 846 z408 z418 (sub 135 5) .none (.str z377 1577) 1731 [z27,z286,z247,z138] 546 4 ++ (g7 853 z409 z419 (sub 135 6) .none (.str z377 1577) 1741 [z27,z286,z392,z207] 549 4 ++ (g7 860 z410 z420 (sub 135 7) .none (.str z377 1577) 1751 [z27,z286,z207] 552 3 ++ (g7 867 z411 z421 (sub 135 8) .none (.str z377 1577) 1760 [z27,z286,z138] 555 3 ++ (g7 874 z412 z422 (sub 135 9) .none (.str z377 1577) 1769 [z27,z286,z392,z247,z138,z41,z30] 558 7 ++ ([(881, (sq 1782 [z405])), (882, (dk 4 [ke p z21 1679 (.str z377 1577),ki p z23 1683 529,kr p z24 1690 817,kr p z227 1700 824,kr p z228 1710 831,kr p z406 1720 838,kr p z407 1730 845,kr p z408 1740 852,kr p z409 1750 859,kr p z410 1759 866,kr p z411 1768 873,kr p z412 1781 880,kr p z25 1783 881,kr p z46 1785 884,kr p z31 1787 885,ke p z7 1788 .none])), (883, (cl z399 883 882 [] 1672 1680)), (884, (fl t13 [.str z46 1784, .ref 883, .builtin t18, .builtin t19])), (885, (fl t13 [.str z31 1786, .ref 883, .builtin t14, .none])), (886, (fl t15 [.ref 883, .ref 883, .ref 883])), (887, (fl t7 [.builtin t16, .ref 883]))]))))))))))))))
noncomputable def T_11 (p : Params) : BT := insP (insP (T_10 p) [(3, o3_11 p), (12, o12_11 p)]) (V_11 p)
noncomputable def st_11 (w : World) (os : OsState) : SharedT := ⟨T_11 w.params, 888, lf, #[], boot_drawn, 1791, os⟩
noncomputable def sts_11 : List Stmt := (pwT.main.body.drop 134).take 2
theorem c_11 (w : World) (os : OsState) : sg w 785 (st_10 w os) sts_11 ⟨512, 0, 521, 17⟩ ⟨529, 0, 559, 55⟩ (st_11 w os) := by kernel_rfl
noncomputable def o3_12 (p : Params) : Obj := dgrow (o3_11 p) [kr p z423 1841 918,kr p z424 1871 939,kr p z425 1909 967] 137
noncomputable def o12_12 (p : Params) : Obj := (tr 0 [1,20,6,27,11,48,16,68,21,88,31,116,42,150,116,218,142,253,160,274,162,282,164,290,166,298,168,305,170,313,172,318,177,330,179,339,181,346,183,354,189,361,193,368,200,375,209,382,214,389,218,396,222,403,227,408,244,415,246,420,250,427,259,434,280,443,296,450,315,457,377,604,383,611,387,616,391,621,401,627,407,633,420,640,424,648,430,655,448,662,457,669,462,674,480,679,491,692,500,713,503,720,512,746,522,781,529,809,560,893,573,928,577,949])
noncomputable def V_12 (p : Params) : Frg := [(888, e0), (889, (fl t7 [.builtin t8, .type t9])), (890, (dk 7 [ke p z21 1798 (.str z377 1577),ke p z22 1800 (.str z423 1799),ki p z23 1802 560,kr p z304 1813 901,kr p z426 1823 908,kr p z145 1833 915,kr p z25 1834 916])), (891, e0), (892, (tr 4 [562,900,568,907,571,914])), (893, (cc z423 1793 560 891 1796)), (894, (fr 893 890 z377 1577))] ++ (g7 895 z304 z429 (sub 136 0) .none (.str z377 1577) 1803 [z27,z286,z427,z138,z428] 562 5 ++ (g7 902 z426 z430 (sub 136 1) .none (.str z377 1577) 1814 [z27,z286,z392,z138] 568 4 ++ (g7 909 z145 z431 (sub 136 2) .none (.str z377 1577) 1824 [z27,z286,z392,z138] 571 4 ++ ([(916, e0), (917, (dk 4 [ke p z21 1798 (.str z377 1577),ki p z23 1802 560,kr p z304 1813 901,kr p z426 1823 908,kr p z145 1833 915,kr p z25 1834 916,kr p z46 1836 919,kr p z31 1838 920,ke p z7 1839 .none])), (918, (cl z423 918 917 [] 1791 1799)), (919, (fl t13 [.str z46 1835, .ref 918, .builtin t18, .builtin t19])), (920, (fl t13 [.str z31 1837, .ref 918, .builtin t14, .none])), (921, (fl t15 [.ref 918, .ref 918, .ref 918])), (922, (fl t7 [.builtin t16, .ref 918])), (923, e0), (924, (fl t7 [.builtin t8, .type t9])), (925, (dk 5 [ke p z21 1849 (.str z377 1577),ke p z22 1851 (.str z424 1850),ki p z23 1853 573,kr p z405 1863 936,kr p z25 1864 937])), (926, e0), (927, (tr 4 [575,935])), (928, (cc z424 1844 573 926 1847)), (929, (fr 928 925 z377 1577))] ++ (g7 930 z405 z433 (sub 137 0) .none (.str z377 1577) 1854 [z27,z286,z392,z432] 575 4 ++ ([(937, e0), (938, (dk 4 [ke p z21 1849 (.str z377 1577),ki p z23 1853 573,kr p z405 1863 936,kr p z25 1864 937,kr p z46 1866 940,kr p z31 1868 941,ke p z7 1869 .none])), (939, (cl z424 939 938 [] 1842 1850)), (940, (fl t13 [.str z46 1865, .ref 939, .builtin t18, .builtin t19])), (941, (fl t13 [.str z31 1867, .ref 939, .builtin t14, .none])), (942, (fl t15 [.ref 939, .ref 939, .ref 939])), (943, (fl t7 [.builtin t16, .ref 939])), (944, e0), (945, (fl t7 [.builtin t8, .type t9])), (946, (dk 6 [ke p z21 1879 (.str z377 1577),ke p z22 1881 (.str z425 1880),ki p z23 1883 577,kr p z434 1892 957,kr p z435 1901 964,kr p z25 1902 965])), (947, e0), (948, (tr 4 [579,956,582,963])), (949, (cc z425 1874 577 947 1877)), (950, (fr 949 946 z377 1577))] ++ (g7 951 z434 z436 (sub 138 0) .none (.str z377 1577) 1884 [z27,z286,z392] 579 3 ++ (g7 958 z435 z437 (sub 138 1) .none (.str z377 1577) 1893 [z27,z286,z392] 582 3 ++ ([(965, e0), (966, (dk 4 [ke p z21 1879 (.str z377 1577),ki p z23 1883 577,kr p z434 1892 957,kr p z435 1901 964,kr p z25 1902 965,kr p z46 1904 968,kr p z31 1906 969,ke p z7 1907 .none])), (967, (cl z425 967 966 [] 1872 1880)), (968, (fl t13 [.str z46 1903, .ref 967, .builtin t18, .builtin t19])), (969, (fl t13 [.str z31 1905, .ref 967, .builtin t14, .none])), (970, (fl t15 [.ref 967, .ref 967, .ref 967])), (971, (fl t7 [.builtin t16, .ref 967]))])))))))))
noncomputable def T_12 (p : Params) : BT := insP (insP (T_11 p) [(3, o3_12 p), (12, o12_12 p)]) (V_12 p)
noncomputable def st_12 (w : World) (os : OsState) : SharedT := ⟨T_12 w.params, 972, lf, #[], boot_drawn, 1910, os⟩
noncomputable def sts_12 : List Stmt := (pwT.main.body.drop 136).take 3
theorem c_12 (w : World) (os : OsState) : sg w 771 (st_11 w os) sts_12 ⟨529, 0, 559, 55⟩ ⟨577, 0, 583, 17⟩ (st_12 w os) := by kernel_rfl
noncomputable def o3_13 (p : Params) : Obj := dgrow (o3_12 p) [kr p z438 1939 988] 138
noncomputable def o12_13 (p : Params) : Obj := (tr 0 [1,20,6,27,11,48,16,68,21,88,31,116,42,150,116,218,142,253,160,274,162,282,164,290,166,298,168,305,170,313,172,318,177,330,179,339,181,346,183,354,189,361,193,368,200,375,209,382,214,389,218,396,222,403,227,408,244,415,246,420,250,427,259,434,280,443,296,450,315,457,377,604,383,611,387,616,391,621,401,627,407,633,420,640,424,648,430,655,448,662,457,669,462,674,480,679,491,692,500,713,503,720,512,746,522,781,529,809,560,893,573,928,577,949,584,977])
noncomputable def V_13 (p : Params) : Frg := [(972, e0), (973, (fl t7 [.builtin t8, .type t9])), (974, (dk 5 [ke p z21 1917 (.str z377 1577),ke p z22 1919 (.str z438 1918),ki p z23 1921 584,kr p z251 1931 985,kr p z25 1932 986])), (975, e0), (976, (tr 4 [586,984])), (977, (cc z438 1912 584 975 1915)), (978, (fr 977 974 z377 1577))] ++ (g7 979 z251 z440 (sub 139 0) .none (.str z377 1577) 1922 [z27,z286,z392,z439] 586 4 ++ ([(986, e0), (987, (dk 4 [ke p z21 1917 (.str z377 1577),ki p z23 1921 584,kr p z251 1931 985,kr p z25 1932 986,kr p z46 1934 989,kr p z31 1936 990,ke p z7 1937 .none])), (988, (cl z438 988 987 [] 1910 1918)), (989, (fl t13 [.str z46 1933, .ref 988, .builtin t18, .builtin t19])), (990, (fl t13 [.str z31 1935, .ref 988, .builtin t14, .none])), (991, (fl t15 [.ref 988, .ref 988, .ref 988])), (992, (fl t7 [.builtin t16, .ref 988]))]))
noncomputable def T_13 (p : Params) : BT := insP (insP (T_12 p) [(3, o3_13 p), (12, o12_13 p)]) (V_13 p)
noncomputable def st_13 (w : World) (os : OsState) : SharedT := ⟨T_13 w.params, 993, lf, #[], boot_drawn, 1940, os⟩
noncomputable def sts_13 : List Stmt := (pwT.main.body.drop 139).take 1
theorem c_13 (w : World) (os : OsState) : sg w 224 (st_12 w os) sts_13 ⟨577, 0, 583, 17⟩ ⟨584, 0, 587, 17⟩ (st_13 w os) := by kernel_rfl
noncomputable def o3_14 (p : Params) : Obj := dgrow (o3_13 p) [kr p z441 2239 1170] 139
noncomputable def o12_14 (p : Params) : Obj := (tr 0 [1,20,6,27,11,48,16,68,21,88,31,116,42,150,116,218,142,253,160,274,162,282,164,290,166,298,168,305,170,313,172,318,177,330,179,339,181,346,183,354,189,361,193,368,200,375,209,382,214,389,218,396,222,403,227,408,244,415,246,420,250,427,259,434,280,443,296,450,315,457,377,604,383,611,387,616,391,621,401,627,407,633,420,640,424,648,430,655,448,662,457,669,462,674,480,679,491,692,500,713,503,720,512,746,522,781,529,809,560,893,573,928,577,949,584,977,588,998])
noncomputable def V_14 (p : Params) : Frg := [(993, e0), (994, (fl t7 [.builtin t8, .type t9])), (995, (dk 28 [ke p z21 1947 (.str z377 1577),ke p z22 1949 (.str z441 1948),ki p z23 1951 588,kr p z24 1965 1006,kr p z442 1974 1013,kr p z443 1982 1020,kr p z444 1990 1027,kr p z445 2000 1034,kr p z446 2011 1041,kr p z227 2023 1048,kr p z447 2032 1055,kr p z448 2040 1062,kr p z449 2050 1069,kr p z450 2061 1076,kr p z411 2069 1083,kr p z451 2078 1090,kr p z452 2087 1097,kr p z453 2096 1104,kr p z454 2104 1111,kr p z455 2112 1118,kr p z456 2121 1125,kr p z405 2130 1132,kr p z434 2138 1139,kr p z435 2146 1146,kr p z457 2155 1153,kr p z458 2164 1160,kr p z459 2173 1167,kr p z25 2232 1168])), (996, e0), (997, (tr 4 [590,1005,650,1012,653,1019,656,1026,659,1033,662,1040,665,1047,668,1054,671,1061,674,1068,677,1075,683,1082,686,1089,689,1096,692,1103,695,1110,699,1117,702,1124,705,1131,708,1138,711,1145,714,1152,717,1159,720,1166])), (998, (cc z441 1942 588 996 1945)), (999, (fr 998 995 z377 1577))] ++ (g7 1000 z24 z464 (sub 140 0) .none (.str z377 1577) 1952 [z27,z164,z211,z202,z460,z461,z462,z463] 590 8 ++ (g7 1007 z442 z465 (sub 140 1) .none (.str z377 1577) 1966 [z27,z392,z439] 650 3 ++ (g7 1014 z443 z466 (sub 140 2) .none (.str z377 1577) 1975 [z27,z392] 653 2 ++ (g7 1021 z444 z467 (sub 140 3) .none (.str z377 1577) 1983 [z27,z392] 656 2 ++ (g7 1028 z445 z468 (sub 140 4) .none (.str z377 1577) 1991 [z27,z392,z432,z403] 659 4 ++ (g7 1035 z446 z469 (sub 140 5) .none (.str z377 1577) 2001 [z27,z247,z138,z41,z30] 662 5 ++ (g7 1042 z227 z470 (sub 140 6) .none (.str z377 1577) 2012 [z27,z392,z247,z138,z41,z30] 665 6 ++ (g7 1049 z447 z471 (sub 140 7) .none (.str z377 1577) 2024 [z27,z392,z439] 668 3 ++ (g7 1056 z448 z473 (sub 140 8) .none (.str z377 1577) 2033 [z27,z472] 671 2 ++ (g7 1063 z449 z474 (sub 140 9) .none (.str z377 1577) 2041 [z27,z30,z392,z42] 674 4 ++ (g7 1070 z450 z476 (sub 140 10) .none (.str z377 1577) 2051 [z27,z30,z41,z42,z475] 677 4 ++ (g7 1077 z411 z477 (sub 140 11) .none (.str z377 1577) 2062 [z27,z138] 683 2 ++ (g7 1084 z451 z478 (sub 140 12) .none (.str z377 1577) 2070 [z27,z56,z392] 686 3 ++ (g7 1091 z452 z479 (sub 140 13) .none (.str z377 1577) 2079 [z27,z392,z138] 689 3 ++ (g7 1098 z453 z480 (sub 140 14) .none (.str z377 1577) 2088 [z27,z472,z138] 692 3 ++ (g7 1105 z454 z482 (sub 140 15) .none (.str z377 1577) 2097 [z27,z481] 695 1 ++ (g7 1112 z455 z483 (sub 140 16) .none (.str z377 1577) 2105 [z27,z454] 699 2 ++ (g7 1119 z456 z484 (sub 140 17) .none (.str z377 1577) 2113 [z27,z392,z439] 702 3 ++ (g7 1126 z405 z485 (sub 140 18) .none (.str z377 1577) 2122 [z27,z392,z432] 705 3 ++ (g7 1133 z434 z486 (sub 140 19) .none (.str z377 1577) 2131 [z27,z392] 708 2 ++ (g7 1140 z435 z487 (sub 140 20) .none (.str z377 1577) 2139 [z27,z392] 711 2 ++ (g7 1147 z457 z488 (sub 140 21) .none (.str z377 1577) 2147 [z27,z392,z138] 714 3 ++ (g7 1154 z458 z489 (sub 140 22) .none (.str z377 1577) 2156 [z27,z392,z138] 717 3 ++ (g7 1161 z459 z490 (sub 140 23) .none (.str z377 1577) 2165 [z27,z392,z138] 720 3 ++ ([(1168, (sq 2174 [z491,z492,z202,z493,z157,z494,z495,z496,z497,z498,z403,z265,z462,z499,z500,z501,z502,z503,z504,z505,z506,z460,z507,z508,z509,z211,z510,z511,z512,z513,z514,z515,z516,z517,z461,z463,z518,z519,z520,z521,z522,z523,z524,z525,z526,z527,z528,z529,z530,z531,z532,z164,z533,z534,z535,z536,z537,z538])), (1169, (dk 4 [ke p z21 1947 (.str z377 1577),ki p z23 1951 588,kr p z24 1965 1006,kr p z442 1974 1013,kr p z443 1982 1020,kr p z444 1990 1027,kr p z445 2000 1034,kr p z446 2011 1041,kr p z227 2023 1048,kr p z447 2032 1055,kr p z448 2040 1062,kr p z449 2050 1069,kr p z450 2061 1076,kr p z411 2069 1083,kr p z451 2078 1090,kr p z452 2087 1097,kr p z453 2096 1104,kr p z454 2104 1111,kr p z455 2112 1118,kr p z456 2121 1125,kr p z405 2130 1132,kr p z434 2138 1139,kr p z435 2146 1146,kr p z457 2155 1153,kr p z458 2164 1160,kr p z459 2173 1167,kr p z25 2232 1168,kr p z46 2234 1171,kr p z31 2236 1172,ke p z7 2237 .none])), (1170, (cl z441 1170 1169 [] 1940 1948)), (1171, (fl t13 [.str z46 2233, .ref 1170, .builtin t18, .builtin t19])), (1172, (fl t13 [.str z31 2235, .ref 1170, .builtin t14, .none])), (1173, (fl t15 [.ref 1170, .ref 1170, .ref 1170])), (1174, (fl t7 [.builtin t16, .ref 1170]))])))))))))))))))))))))))))
noncomputable def T_14 (p : Params) : BT := insP (insP (T_13 p) [(3, o3_14 p), (12, o12_14 p)]) (V_14 p)
noncomputable def st_14 (w : World) (os : OsState) : SharedT := ⟨T_14 w.params, 1175, lf, #[], boot_drawn, 2240, os⟩
noncomputable def sts_14 : List Stmt := (pwT.main.body.drop 140).take 1
theorem c_14 (w : World) (os : OsState) : sg w 1046 (st_13 w os) sts_14 ⟨584, 0, 587, 17⟩ ⟨588, 0, 721, 19⟩ (st_14 w os) := by kernel_rfl
noncomputable def o3_15 (p : Params) : Obj := dset (o3_14 p) (ke p z5 165 (.str z539 2278)) [kr p z540 2245 1179,kr p z541 2251 1184,kr p z542 2262 1191,kr p z543 2277 1198,kr p z544 2287 1199,kr p z545 2305 1200,kr p z546 2315 1207,kr p z547 2324 1214,kr p z548 2330 1219,kr p z549 2339 1226,kr p z550 2350 1233,kr p z551 2359 1240,kr p z552 2389 1247,kr p z553 2401 1254,kr p z554 2407 1259,kr p z555 2413 1264,kr p z556 2419 1269,kr p z557 2425 1274,kr p z558 2431 1279] 158
noncomputable def o12_15 (p : Params) : Obj := (tr 0 [1,20,6,27,11,48,16,68,21,88,31,116,42,150,116,218,142,253,160,274,162,282,164,290,166,298,168,305,170,313,172,318,177,330,179,339,181,346,183,354,189,361,193,368,200,375,209,382,214,389,218,396,222,403,227,408,244,415,246,420,250,427,259,434,280,443,296,450,315,457,377,604,383,611,387,616,391,621,401,627,407,633,420,640,424,648,430,655,448,662,457,669,462,674,480,679,491,692,500,713,503,720,512,746,522,781,529,809,560,893,573,928,577,949,584,977,588,998,722,1178,726,1183,745,1190,758,1197,771,1206,776,1213,779,1218,781,1225,786,1232,791,1239,797,1246,828,1253,838,1258,859,1263,867,1268,877,1273,884,1278])
noncomputable def V_15 (p : Params) : Frg := g5 1175 z540 z540 (stm 141) .none (.str z377 1577) 2240 722 2 ++ (g5 1180 z541 z541 (stm 142) .none (.str z377 1577) 2246 726 2 ++ (g7 1185 z542 z542 (stm 143) .none (.str z377 1577) 2252 [z286,z392,z432,z454,z496] 745 3 ++ (g7 1192 z543 z543 (stm 144) .none (.str z377 1577) 2263 [z286,z392,z247,z138,z41,z30,z227,z53,z56] 758 6 ++ ([(1199, (sr [.int 1 2280, .int 0 2281, .int 0 2282, .int 5 2283, .int 1 2284, .int 4 2285, .int 8 2286])), (1200, (sr [.int 64 2288, .int 128 2289, .int 16 2290, .int 32 2291, .int 192 2292, .int 12 2293, .int 4 2294, .int 2 2295, .int 1 2296, .int 65 2297, .int 304 2298, .int 704 2299, .int 2047 2300, .int 6143 2301, .int 2048 2302, .int 0 2303, .int 80 2304]))] ++ (g7 1201 z546 z546 (stm 148) .none (.str z539 2278) 2306 [z559,z166,z41,z560] 771 2 ++ (g7 1208 z547 z547 (stm 149) .none (.str z539 2278) 2316 [z164,z561,z289] 776 2 ++ (g5 1215 z548 z548 (stm 150) .none (.str z539 2278) 2325 779 3 ++ (g7 1220 z549 z549 (stm 151) .none (.str z539 2278) 2331 [z562,z563,z41] 781 1 ++ (g7 1227 z550 z550 (stm 152) .none (.str z539 2278) 2340 [z164,z563,z138,z564,z208] 786 3 ++ (g7 1234 z551 z551 (stm 153) .none (.str z539 2278) 2351 [z52,z212,z40] 791 1 ++ (g7 1241 z552 z552 (stm 154) .none (.str z539 2278) 2360 [z164,z559,z562,z565,z178,z52,z170,z152,z566,z567,z564,z215,z568,z569,z570,z571,z572,z529,z171,z172,z289,z205,z573,z574] 797 3 ++ (g7 1248 z553 z553 (stm 155) .none (.str z539 2278) 2390 [z164,z559,z562,z575,z576,z577] 828 4 ++ (g5 1255 z554 z554 (stm 156) .none (.str z539 2278) 2402 838 4 ++ (g5 1260 z555 z555 (stm 157) .none (.str z539 2278) 2408 859 3 ++ (g5 1265 z556 z556 (stm 158) .none (.str z539 2278) 2414 867 2 ++ (g5 1270 z557 z557 (stm 159) .none (.str z539 2278) 2420 877 3 ++ (g5 1275 z558 z558 (stm 160) .none (.str z539 2278) 2426 884 1)))))))))))))))))
noncomputable def T_15 (p : Params) : BT := insP (insP (T_14 p) [(3, o3_15 p), (12, o12_15 p)]) (V_15 p)
noncomputable def st_15 (w : World) (os : OsState) : SharedT := ⟨T_15 w.params, 1280, lf, #[], boot_drawn, 2432, os⟩
noncomputable def sts_15 : List Stmt := (pwT.main.body.drop 141).take 20
theorem c_15 (w : World) (os : OsState) : sg w 576 (st_14 w os) sts_15 ⟨588, 0, 721, 19⟩ ⟨884, 0, 920, 110⟩ (st_15 w os) := by kernel_rfl
noncomputable def KK (p : Params) : Frag := [(12, o12_15 p), (2, o2_1 p), (3, o3_15 p), (594, o594_10 p)] ++ (B_ p ++ (V_0 p ++ (V_1 p ++ (V_2 p ++ (V_3 p ++ (V_4 p ++ (V_5 p ++ (V_6 p ++ (V_7 p ++ (V_8 p ++ (V_9 p ++ (V_10 p ++ (V_11 p ++ (V_12 p ++ (V_13 p ++ (V_14 p ++ (V_15 p)))))))))))))))))
end
section
open PySem PySem.W PyProof.Rows PySem.Spec PySem.Calls
set_option maxHeartbeats 0
set_option backward.match.sparseCases true
noncomputable abbrev annM : Option Value := some (.ref 6)
theorem q_1 (w : World) (os : OsState) : segRun treeTable pwT w 11 annM 1 777 (st_0 w os).abs (piecesOf sts_1 envM cdM ⟨0, 0, 0, 0⟩ frB) = some (.next, (st_1 w os).abs, cdM, ⟨16, 0, 20, 24⟩) :=
  segRun_of (s := st_0 w os) (s' := st_1 w os) (by rw [PySem.W.Fast.te10110043849684766642, PySem.W.Fast.te14364793385576792824]; exact c_1 w os)
theorem q_2 (w : World) (os : OsState) : segRun treeTable pwT w 11 annM 1 893 (st_1 w os).abs (piecesOf sts_2 envM cdM ⟨16, 0, 20, 24⟩ frB) = some (.next, (st_2 w os).abs, cdM, ⟨60, 0, 60, 6⟩) :=
  segRun_of (s := st_1 w os) (s' := st_2 w os) (by rw [PySem.W.Fast.te10110043849684766642, PySem.W.Fast.te14364793385576792824]; exact c_2 w os)
theorem q_3 (w : World) (os : OsState) : segRun treeTable pwT w 11 annM 1 607 (st_2 w os).abs (piecesOf sts_3 envM cdM ⟨60, 0, 60, 6⟩ frB) = some (.next, (st_3 w os).abs, cdM, ⟨114, 0, 114, 11⟩) :=
  segRun_of (s := st_2 w os) (s' := st_3 w os) (by rw [PySem.W.Fast.te10110043849684766642, PySem.W.Fast.te14364793385576792824]; exact c_3 w os)
theorem q_4 (w : World) (os : OsState) : segRun treeTable pwT w 11 annM 1 101 (st_3 w os).abs (piecesOf sts_4 envM cdM ⟨114, 0, 114, 11⟩ frB) = some (.next, (st_4 w os).abs, cdM, ⟨115, 0, 115, 12⟩) :=
  segRun_of (s := st_3 w os) (s' := st_4 w os) (by rw [PySem.W.Fast.te10110043849684766642, PySem.W.Fast.te14364793385576792824]; exact c_4 w os)
theorem q_5 (w : World) (os : OsState) : segRun treeTable pwT w 11 annM 1 867 (st_4 w os).abs (piecesOf sts_5 envM cdM ⟨115, 0, 115, 12⟩ frB) = some (.next, (st_5 w os).abs, cdM, ⟨181, 0, 182, 54⟩) :=
  segRun_of (s := st_4 w os) (s' := st_5 w os) (by rw [PySem.W.Fast.te10110043849684766642, PySem.W.Fast.te14364793385576792824]; exact c_5 w os)
theorem q_6 (w : World) (os : OsState) : segRun treeTable pwT w 11 annM 1 565 (st_5 w os).abs (piecesOf sts_6 envM cdM ⟨181, 0, 182, 54⟩ frB) = some (.next, (st_6 w os).abs, cdM, ⟨314, 0, 314, 10⟩) :=
  segRun_of (s := st_5 w os) (s' := st_6 w os) (by rw [PySem.W.Fast.te10110043849684766642, PySem.W.Fast.te14364793385576792824]; exact c_6 w os)
theorem q_7 (w : World) (os : OsState) : segRun treeTable pwT w 11 annM 1 900 (st_6 w os).abs (piecesOf sts_7 envM cdM ⟨314, 0, 314, 10⟩ frB) = some (.next, (st_7 w os).abs, cdM, ⟨387, 0, 390, 64⟩) :=
  segRun_of (s := st_6 w os) (s' := st_7 w os) (by rw [PySem.W.Fast.te10110043849684766642, PySem.W.Fast.te14364793385576792824]; exact c_7 w os)
theorem q_8 (w : World) (os : OsState) : segRun treeTable pwT w 11 annM 1 402 (st_7 w os).abs (piecesOf sts_8 envM cdM ⟨387, 0, 390, 64⟩ frB) = some (.next, (st_8 w os).abs, cdM, ⟨489, 0, 489, 6⟩) :=
  segRun_of (s := st_7 w os) (s' := st_8 w os) (by rw [PySem.W.Fast.te10110043849684766642, PySem.W.Fast.te14364793385576792824]; exact c_8 w os)
theorem q_9 (w : World) (os : OsState) : segRun treeTable pwT w 11 annM 1 1635 (st_8 w os).abs (piecesOf sts_9 envM cdM ⟨489, 0, 489, 6⟩ frB) = some (.next, (st_9 w os).abs, cdM, ⟨490, 0, 490, 10⟩) :=
  segRun_of (s := st_8 w os) (s' := st_9 w os) (by rw [PySem.W.Fast.te10110043849684766642, PySem.W.Fast.te14364793385576792824]; exact c_9 w os)
theorem q_10 (w : World) (os : OsState) : segRun treeTable pwT w 11 annM 1 859 (st_9 w os).abs (piecesOf sts_10 envM cdM ⟨490, 0, 490, 10⟩ frB) = some (.next, (st_10 w os).abs, cdM, ⟨512, 0, 521, 17⟩) :=
  segRun_of (s := st_9 w os) (s' := st_10 w os) (by rw [PySem.W.Fast.te10110043849684766642, PySem.W.Fast.te14364793385576792824]; exact c_10 w os)
theorem q_11 (w : World) (os : OsState) : segRun treeTable pwT w 11 annM 1 785 (st_10 w os).abs (piecesOf sts_11 envM cdM ⟨512, 0, 521, 17⟩ frB) = some (.next, (st_11 w os).abs, cdM, ⟨529, 0, 559, 55⟩) :=
  segRun_of (s := st_10 w os) (s' := st_11 w os) (by rw [PySem.W.Fast.te10110043849684766642, PySem.W.Fast.te14364793385576792824]; exact c_11 w os)
theorem q_12 (w : World) (os : OsState) : segRun treeTable pwT w 11 annM 1 771 (st_11 w os).abs (piecesOf sts_12 envM cdM ⟨529, 0, 559, 55⟩ frB) = some (.next, (st_12 w os).abs, cdM, ⟨577, 0, 583, 17⟩) :=
  segRun_of (s := st_11 w os) (s' := st_12 w os) (by rw [PySem.W.Fast.te10110043849684766642, PySem.W.Fast.te14364793385576792824]; exact c_12 w os)
theorem q_13 (w : World) (os : OsState) : segRun treeTable pwT w 11 annM 1 224 (st_12 w os).abs (piecesOf sts_13 envM cdM ⟨577, 0, 583, 17⟩ frB) = some (.next, (st_13 w os).abs, cdM, ⟨584, 0, 587, 17⟩) :=
  segRun_of (s := st_12 w os) (s' := st_13 w os) (by rw [PySem.W.Fast.te10110043849684766642, PySem.W.Fast.te14364793385576792824]; exact c_13 w os)
theorem q_14 (w : World) (os : OsState) : segRun treeTable pwT w 11 annM 1 1046 (st_13 w os).abs (piecesOf sts_14 envM cdM ⟨584, 0, 587, 17⟩ frB) = some (.next, (st_14 w os).abs, cdM, ⟨588, 0, 721, 19⟩) :=
  segRun_of (s := st_13 w os) (s' := st_14 w os) (by rw [PySem.W.Fast.te10110043849684766642, PySem.W.Fast.te14364793385576792824]; exact c_14 w os)
theorem q_15 (w : World) (os : OsState) : segRun treeTable pwT w 11 annM 1 576 (st_14 w os).abs (piecesOf sts_15 envM cdM ⟨588, 0, 721, 19⟩ frB) = some (.next, (st_15 w os).abs, cdM, ⟨884, 0, 920, 110⟩) :=
  segRun_of (s := st_14 w os) (s' := st_15 w os) (by rw [PySem.W.Fast.te10110043849684766642, PySem.W.Fast.te14364793385576792824]; exact c_15 w os)
noncomputable def s00 (w : World) (os : OsState) : Shared := ⟨boot_heap w.params, #[], boot_drawn, boot_toks, os⟩
theorem pre_ (w : World) (os : OsState) : topGo treeTable pwT w 11 annM 12 (s00 w os) (topStub pwT) = some ((st_0 w os).abs, ⟨denote treeTable cdM, cdM, ⟨0, 0, 0, 0⟩, frB⟩) := by
  rw [PySem.W.Fast.te15667345088766844465, PySem.W.Fast.te14364793385576792824, PySem.W.Fast.te11892475500146522536]
  kernel_rfl
theorem blk_ (w : World) (os : OsState) : segRun treeTable pwT w 11 annM 1 1 (st_0 w os).abs (blockOf (behindTheImports pwT) envM cdM ⟨0, 0, 0, 0⟩ frB) = some (.next, (st_0 w os).abs, cdM, ⟨0, 0, 0, 0⟩) := by
  rw [PySem.W.Fast.te14374325043358763698, PySem.W.Fast.te14364793385576792824]
  kernel_rfl
theorem fin_ (w : World) (os : OsState) : topRun treeTable pwT w 11 annM 2 (st_15 w os).abs ⟨doneF .next, cdM, ⟨884, 0, 920, 110⟩, frB⟩ = some (st_15 w os).abs := by
  rw [PySem.W.Fast.te14082659384304107361, PySem.W.Fast.te14364793385576792824]
  kernel_rfl
theorem body_eq : behindTheImports pwT = sts_1 ++ (sts_2 ++ (sts_3 ++ (sts_4 ++ (sts_5 ++ (sts_6 ++ (sts_7 ++ (sts_8 ++ (sts_9 ++ (sts_10 ++ (sts_11 ++ (sts_12 ++ (sts_13 ++ (sts_14 ++ (sts_15 ++ ([]))))))))))))))) := by kernel_rfl
noncomputable abbrev runM : Nat := 12 + (1 + (777 + (893 + (607 + (101 + (867 + (565 + (900 + (402 + (1635 + (859 + (785 + (771 + (224 + (1046 + (576 + 2))))))))))))))))
theorem rest_ (w : World) (os : OsState) : topRun treeTable pwT w 11 annM (777 + (893 + (607 + (101 + (867 + (565 + (900 + (402 + (1635 + (859 + (785 + (771 + (224 + (1046 + (576 + 2))))))))))))))) (st_0 w os).abs (restOf (sts_1 ++ (sts_2 ++ (sts_3 ++ (sts_4 ++ (sts_5 ++ (sts_6 ++ (sts_7 ++ (sts_8 ++ (sts_9 ++ (sts_10 ++ (sts_11 ++ (sts_12 ++ (sts_13 ++ (sts_14 ++ (sts_15 ++ ([])))))))))))))))) envM cdM ⟨0, 0, 0, 0⟩ frB) = some (st_15 w os).abs :=
  piece_app (q_1 w os) (piece_app (q_2 w os) (piece_app (q_3 w os) (piece_app (q_4 w os) (piece_app (q_5 w os) (piece_app (q_6 w os) (piece_app (q_7 w os) (piece_app (q_8 w os) (piece_app (q_9 w os) (piece_app (q_10 w os) (piece_app (q_11 w os) (piece_app (q_12 w os) (piece_app (q_13 w os) (piece_app (q_14 w os) (piece_app (q_15 w os) (piece_nil (fin_ w os))))))))))))))))
theorem rest2_ (w : World) (os : OsState) : topRun treeTable pwT w 11 annM (777 + (893 + (607 + (101 + (867 + (565 + (900 + (402 + (1635 + (859 + (785 + (771 + (224 + (1046 + (576 + 2))))))))))))))) (st_0 w os).abs (restOf (behindTheImports pwT) envM cdM ⟨0, 0, 0, 0⟩ frB) = some (st_15 w os).abs := by
  rw [body_eq]
  exact rest_ w os
theorem run_ (w : World) (os : OsState) : topRun treeTable pwT w 11 annM runM (s00 w os) (topStub pwT) = some (st_15 w os).abs :=
  go_top (pre_ w os) (piece_block (blk_ w os) (rest2_ w os))
noncomputable def kAs : List Addr := (KK { strHash := fun _ => 0, shareClass := fun _ => 0, mergeTok := id, idOf := fun _ => 0, idOfShared := fun _ _ => 0, followText := fun _ => false, idOfImm := fun _ => 0 }).map (·.1)
theorem kAs_eq (P : Params) : kAs = (KK P).map (·.1) := by kernel_rfl
noncomputable def hookK : Hook := kHook KK kAs kAs_eq
noncomputable def vw : Program := { pwT with main := { pwT.main with body := [stm 160] } }
noncomputable def looseN : List Str := [z15, z16, z17, z18, z19, z35, z36, z37, z38, z39, z61, z62, z63, z64, z65, z66, z67, z68, z69, z70, z71, z72, z73, z74, z75, z76, z77, z78, z79, z80, z81, z82, z83, z84, z85, z86, z87, z88, z89, z90, z91, z92, z93, z94, z95, z96, z97, z98, z99, z100, z101, z102, z103, z104, z105, z106, z107, z108, z109, z110, z111, z112, z113, z114, z124, z125, z126, z127, z128, z129, z130, z131, z132, z133, z134, z135, z136, z181, z182, z183, z184, z185, z186, z187, z188, z189, z190, z191, z192, z193, z194, z195, z196, z197, z198, z199, z200, z201, z218, z219, z220, z221, z270, z271, z272, z273, z274, z275, z276, z277, z278, z279, z280, z281, z282, z283, z284, z294, z378, z379, z380, z381, z382, z398, z399, z423, z424, z425, z438, z441, z540, z541, z542, z543, z544, z545, z546, z547, z548, z549, z550, z551, z552, z553, z554, z555, z556, z557]
theorem get_list {t : BT} {n : Nat} {life : Life} : ∀ (l : List (Addr × Obj)), l.all (fun x => Nat.blt x.1 n) = true → l.map (fun x => (t.get x.1).bind alive) = l.map (fun x => some x.2) → (l.map (·.1)).map (absHeap t n life).get? = l.map (fun x => some x.2)
  | [], _, _ => rfl
  | x :: r, h, e => by
    simp only [List.all_cons, Bool.and_eq_true, List.map_cons, List.cons.injEq] at h e ⊢
    refine ⟨?_, get_list r h.2 e.2⟩
    have lt : x.1 < n := Nat.le_of_ble_eq_true h.1
    cases g : t.get x.1 with
    | none => rw [g] at e; cases e.1
    | some o => rw [abs_get lt g]; rw [g] at e; exact e.1
noncomputable def hEnd (p : Params) : Heap := absHeap (T_15 p) 1280 lf
theorem yf_ (w : World) : kAs.map (hEnd w.params).get? = (KK w.params).map fun p => some p.2 := by
  rw [kAs_eq w.params]
  exact get_list (KK w.params) (by kernel_rfl) (by kernel_rfl)
noncomputable abbrev xt : Shared → Bool := fun s => xlAt vw [] s && recOk (RowW.records rwT.row.toRowW) s
noncomputable abbrev sEnd (w : World) (os : OsState) : Shared := ⟨hEnd w.params, #[], boot_drawn, 2432, os⟩
theorem l1 (w : World) (os : OsState) : (staticsOk (importedModules pwT.main.body) (boot_heap w.params) (hEnd w.params) && namesBound pwT (hEnd w.params) && gensDone (sEnd w os) && laidKept (boot_heap w.params) (hEnd w.params)) = true := by
  rw [PySem.W.Fast.te5923862056798008813]
  kernel_rfl
theorem l2 (w : World) (os : OsState) : seen ((recsOf vw).map (·.name)) (ownsOf vw) [] { sEnd w os with gens := #[] } = expectedOf vw := by
  rw [PySem.W.Fast.te5160383126252970620, PySem.W.Fast.te3399658132070893891, PySem.W.Fast.te5991557255702980513]
  kernel_rfl
theorem l3 (w : World) (os : OsState) : (sEnd w os).heap.bltView = bltViewBooted := by kernel_rfl
theorem l4 (w : World) (os : OsState) : ((sEnd w os).heap.keysOk (looseW vw looseN) ((recsOf vw).map (·.name)) ((litsOf vw).map (·.1)) ((clssOf vw (looseW vw looseN)).map (·.name)) && (sEnd w os).heap.accountedOkI (importedModules pwT.main.body) && (sEnd w os).heap.isNs mainGlobals && (sEnd w os).heap.isNs builtinsNs && tablesOk vw (sEnd w os).heap && xt (sEnd w os) && (if true then (sEnd w os).gens.size == 0 else !leftWithCleanup (sEnd w os).gens)) = true := by
  rw [PySem.W.Fast.te10880121769531294198, PySem.W.Fast.te821141287760084731, PySem.W.Fast.te3399658132070893891, PySem.W.Fast.te7409074990110511671, PySem.W.Fast.te13664370479719496447, PySem.W.Fast.te14722251495701143533, PySem.W.Fast.te5923862056798008813, PySem.W.Fast.te10994771534591457954]
  kernel_rfl
theorem l5 (w : World) (os : OsState) : tabsOk vw (sEnd w os) = true := by
  rw [PySem.W.Fast.te479339242167458305]
  kernel_rfl
theorem l6 (w : World) (os : OsState) : pinSeenD vw (drecsOf vw) (sEnd w os) = pinGoodD (drecsOf vw) := by
  rw [PySem.W.Fast.te16090120013241838585, PySem.W.Fast.te3247288618530077131]
  kernel_rfl
theorem l7 (w : World) (os : OsState) : plainSeenE vw (looseW vw looseN) (sEnd w os) = plainGoodE vw (looseW vw looseN) := by
  rw [PySem.W.Fast.te2386780881361962483, PySem.W.Fast.te821141287760084731]
  kernel_rfl
theorem l8 (w : World) (os : OsState) : plainSeenD vw looseN (sEnd w os) = plainGoodD vw looseN := by
  rw [PySem.W.Fast.te11698064438423848299]
  kernel_rfl
theorem l9 (w : World) (os : OsState) : wideSeen vw (sEnd w os) = wideGood vw := by
  rw [PySem.W.Fast.te7317090234206586261]
  kernel_rfl
theorem l10 (w : World) (os : OsState) : clsSeenW vw looseN (sEnd w os) = clsGoodW vw looseN := by
  rw [PySem.W.Fast.te7369524293546568484]
  kernel_rfl
theorem opening_eq : opening pwT = plainProg pwT.main.scope.names := by kernel_rfl
theorem fence_eq (s : Shared) : fenceModules? pwT s = some s := by kernel_rfl
theorem size_ (w : World) : ((boot_heap w.params).isNs mainGlobals && (#[] : Array GenState).size == 0, (boot_heap w.params).objs.size, (boot_heap w.params).nsMap mainGlobals "__annotations__") = (true, 11, some (.ref 6)) := by kernel_rfl
theorem os_ (w : World) (os : OsState) : openSeen vw looseN (importedModules pwT.main.body) xt true (sEnd w os) = openGood vw looseN := by
  delta openSeen openGood
  exact looks_pair (l2 w os) (looks_pair (l3 w os) (looks_pair (l4 w os) (looks_pair (l5 w os) (looks_pair (l6 w os) (looks_pair (l7 w os) (looks_pair (l8 w os) (looks_pair (l9 w os) (l10 w os))))))))
theorem looks_ (w : World) : (fun os => ((staticsOk (importedModules pwT.main.body) (boot_heap w.params) (hEnd w.params) && namesBound pwT (hEnd w.params) && gensDone (sEnd w os) && laidKept (boot_heap w.params) (hEnd w.params)),
        openSeen vw looseN (importedModules pwT.main.body) xt true (sEnd w os), hookK.obs (sEnd w os))) = fun _ => (true, openGood vw looseN, hookK.val w) := by
  funext os
  exact looks_pair (l1 w os) (looks_pair (os_ w os) (yf_ w))
theorem run2_ (w : World) (os : OsState) : topRun treeTable pwT w 11 (some (.ref 6)) runM ⟨boot_heap w.params, #[], boot_drawn, boot_toks, os⟩ (topStub pwT) = some ⟨hEnd w.params, #[], boot_drawn, 2432, os⟩ := by
  rw [show (some (⟨hEnd w.params, #[], boot_drawn, 2432, os⟩ : Shared)) = some (st_15 w os).abs from by kernel_rfl]
  exact run_ w os
theorem le_ : Nat.ble runM 22112 = true := by kernel_rfl
theorem left_ : LeftO pwT vw looseN xt hookK.obs hookK.val 22112 :=
  LeftO.of_pieces (p := pwT) (q := vw) (loose := looseN) (Xt := xt) (Yf := hookK.obs) (Ya := hookK.val) (N := 22112) (g0 := true) (H₀ := boot_heap) (H₁ := hEnd) (gs₀ := #[]) (gs₁ := #[]) (d₀ := boot_drawn) (d₁ := boot_drawn) (k₀ := boot_toks) (k₁ := 2432) (m₀ := 11) (ann := some (.ref 6)) (M := runM) (boot_open opening_eq (by kernel_rfl) fence_eq) size_ run2_ le_ looks_
noncomputable def dL : DefRec := ⟨⟨#[108, 97, 119]⟩, fArgs (stm 160), fBody (stm 160), fScope (stm 160), ⟨884, 0, 920, 110⟩⟩
section
open PySem.TablesWhole
theorem ws_app {top sc : Scope} {cx : PySem.TablesWhole.Ctx} : ∀ {a b : List Stmt}, wSs holds top cx sc a = true → wSs holds top cx sc b = true → wSs holds top cx sc (a ++ b) = true
  | [], _, _, h => h
  | s :: a, b, h, h' => by
    have h : (wS holds top cx sc s && wSs holds top cx sc a) = true := h
    have h := Bool.and_eq_true_iff.mp h
    exact Bool.and_eq_true_iff.mpr ⟨h.1, ws_app h.2 h'⟩
theorem wmod {m : Module} (h1 : noTwice m.scope = true) (h2 : wSs gather m.scope ⟨m.scope, [], [], [], none⟩ m.scope m.body = []) (h3 : wSs holds m.scope ⟨m.scope, [], [], [], none⟩ m.scope m.body = true) : wModule holds m = true := by
  have e : wModule holds m = (true && (noTwice m.scope && (wSs holds m.scope ⟨m.scope, [], wSs gather m.scope ⟨m.scope, [], [], [], none⟩ m.scope m.body, [], none⟩ m.scope m.body && true))) := rfl
  rw [e, h1, h2, h3]; rfl
theorem wpro {p : Program} (h : wModule holds p.main = true) (h2 : (holds.all (p.modules.map fun (_, _, m) => wModule holds m) && (holds.all (p.parses.map (wParse holds)) && (holds.all (p.harvested.map (wParse holds)) && true))) = true) : p.tablesWhole = true := by
  have e : p.tablesWhole = (wModule holds p.main && (holds.all (p.modules.map fun (_, _, m) => wModule holds m) && (holds.all (p.parses.map (wParse holds)) && (holds.all (p.harvested.map (wParse holds)) && true)))) := rfl
  rw [e, h, h2]; rfl
theorem tw1 : noTwice pwT.main.scope = true := by kernel_rfl
theorem tw2 : wSs gather pwT.main.scope ⟨pwT.main.scope, [], [], [], none⟩ pwT.main.scope pwT.main.body = [] := by kernel_rfl
theorem tw3 : wSs holds pwT.main.scope ⟨pwT.main.scope, [], [], [], none⟩ pwT.main.scope (pwT.main.body.take 120) = true := by kernel_rfl
theorem tw4 : wSs holds pwT.main.scope ⟨pwT.main.scope, [], [], [], none⟩ pwT.main.scope (pwT.main.body.drop 120) = true := by kernel_rfl
theorem tw6 : wModule holds pwT.main = true := wmod tw1 tw2 ((List.take_append_drop 120 pwT.main.body) ▸ ws_app tw3 tw4)
theorem tw7 : (holds.all (pwT.modules.map fun (_, _, m) => wModule holds m) && (holds.all (pwT.parses.map (wParse holds)) && (holds.all (pwT.harvested.map (wParse holds)) && true))) = true := by kernel_rfl
end
theorem tw8 : rwT.row.prog.tablesWhole = true := wpro (p := pwT) tw6 tw7
theorem head_ (walk : WalkO vw looseN (XL vw []) hookK.says rwT.row.toRowW dL [] fun f vs => PySem.call f vs) : PySem.Challenge.rw_sa0403_01.Holds := by
  rw [rw_eq]
  w_on
  o_law
  exact PySem.W.holds_open (r := rwT.row) (q := vw) (loose := looseN) (Xt := xt) (XP := XL vw []) (Yf := hookK.obs) (Ya := hookK.val) (YP := hookK.says) (d := dL) (kwd := []) (N := 22112) left_ hookK.of hookK.keeps (fun s e => xl_of s (Bool.and_eq_true_iff.mp e).1) XL.keeps
    (by kernel_rfl) (by kernel_rfl) (by kernel_rfl) (fun s e => recFacts_of (Bool.and_eq_true_iff.mp e).2) (by kernel_rfl) (by assumption) (by decide +kernel) ⟨rfl, rfl, rfl, rfl, rfl, tw8⟩ ⟨[.list []], by decide +kernel, by decide +kernel⟩ walk
end
section
open PySem PySem.W PyProof.Rows PySem.SeqAt
open scoped Classical
noncomputable def seqD : Data → Option (Array Value)
  | .seq vs _ => some vs
  | _ => none
theorem seqD_eq {o : Data} {vs : Array Value} (h : seqD o = some vs) : ∃ n, o = .seq vs n := by
  induction o using Data.casesOn with
  | seq us n => exact ⟨n, congrArg (Data.seq · n) (Option.some.inj h)⟩
  | _ => exact noS h
theorem ifS {α : Type} {b : Bool} {o : Option α} {r : α} (e : (if b = true then o else none) = some r) : b = true ∧ o = some r := by
  cases b with
  | true => exact ⟨rfl, e⟩
  | false => exact noS e
noncomputable def tupO (o : Obj) : Option (List Value) := if (o.cls == .type "tuple" && o.dict == none && o.slots == #[]) = true then (seqD o.data).map (·.toList) else none
theorem tupO_eq {o : Obj} {vs : List Value} (h : tupO o = some vs) : ∃ n, o = tupObj vs n := by
  have h := ifS h
  have b := and3 h.1
  obtain ⟨us, e, e2⟩ := Option.map_eq_some_iff.mp h.2
  obtain ⟨n, e⟩ := seqD_eq e
  obtain ⟨c, d, D, s⟩ := o
  cases eq_of_beq b.1.1; cases eq_of_beq b.1.2; cases eq_of_beq b.2; cases e; cases e2
  exact ⟨n, rfl⟩
noncomputable def dataF : Data → Option FuncData
  | .func fd => some fd
  | _ => none
noncomputable def dataV : Data → Option (Array Value)
  | .fields vs => some vs
  | _ => none
noncomputable def dataD : Data → Option (Array DictEntry)
  | .dict es _ => some es
  | _ => none
noncomputable def valS : Value → Option PySem.Str
  | .str s _ => some s
  | _ => none
noncomputable def valR : Value → Option Addr
  | .ref a => some a
  | _ => none
noncomputable def valI : Value → Option Int
  | .int i _ => some i
  | _ => none
theorem valS_eq {v : Value} {s : PySem.Str} (h : valS v = some s) : ∃ t, v = .str s t := by
  induction v using Value.casesOn with
  | str s t => exact ⟨t, congrArg (Value.str · t) (Option.some.inj h)⟩
  | _ => exact noS h
theorem valR_eq {v : Value} {a : Addr} (h : valR v = some a) : v = .ref a := by
  induction v using Value.casesOn with
  | ref a => exact congrArg Value.ref (Option.some.inj h)
  | _ => exact noS h
theorem valI_eq {v : Value} {i : Int} (h : valI v = some i) : ∃ t, v = .int i t := by
  induction v using Value.casesOn with
  | int s t => exact ⟨t, congrArg (Value.int · t) (Option.some.inj h)⟩
  | _ => exact noS h
theorem dataF_eq {o : Data} {fd : FuncData} (h : dataF o = some fd) : o = .func fd := by
  induction o using Data.casesOn with
  | func fd => exact congrArg Data.func (Option.some.inj h)
  | _ => exact noS h
theorem dataV_eq {o : Data} {fd : Array Value} (h : dataV o = some fd) : o = .fields fd := by
  induction o using Data.casesOn with
  | fields fd => exact congrArg Data.fields (Option.some.inj h)
  | _ => exact noS h
noncomputable def stE : Value → Value → Bool
  | .ref a, .ref b => a == b
  | .builtin a, .builtin b => a == b
  | .type a, .type b => a == b
  | _, _ => false
theorem stE_eq {u v : Value} (h : stE u v = true) : v = u := by
  induction u using Value.casesOn with
  | ref a => induction v using Value.casesOn with
    | ref b => exact congrArg Value.ref (eq_of_beq h).symm
    | _ => exact ff h
  | builtin a => induction v using Value.casesOn with
    | builtin b => exact congrArg Value.builtin (eq_of_beq h).symm
    | _ => exact ff h
  | type a => induction v using Value.casesOn with
    | type b => exact congrArg Value.type (eq_of_beq h).symm
    | _ => exact ff h
  | _ => exact ff h
mutual
/-- K says that the value stands for the datum; kf: where label 0 lies -/
noncomputable def vrB (K : Frag) (kf : Option Addr) : FV → Value → Bool
  | .none, v => v == .none
  | .int i, v => valI v == some i
  | .str s, v => valS v == some s
  | .st u, v => stE u v
  | .ref l, v => l == 0 && (valR v).isSome && valR v == kf
  | .tup xs, v => (((valR v).bind fun a => K.lookup a).bind tupO).any (vrBs K kf xs)
  | _, _ => false
noncomputable def vrBs (K : Frag) (kf : Option Addr) : List FV → List Value → Bool
  | [], vs => vs.isEmpty
  | x :: xs, vs => (vs.head?).any (vrB K kf x) && vrBs K kf xs vs.tail
end
section
variable {K : Frag} {kf : Option Addr} {p : Pt} {d : D} {a : Addr}
theorem any_to {α : Type} {o : Option α} {f : α → Bool} (h : o.any f = true) : ∃ x, o = some x ∧ f x = true := by
  cases o with
  | none => exact ff h
  | some x => exact ⟨x, rfl, h⟩
mutual
theorem vrB_ok (I : K.In p.h) (hk : ∀ a, kf = some a → p.ρ[0]? = some a) : ∀ (d : FV) (v : Value), vrB K kf d v = true → VRel p d v
  | .none, v, e => eq_of_beq e
  | .bool _, v, e => ff e
  | .rng _ _, v, e => ff e
  | .int i, v, e => valI_eq (eq_of_beq e)
  | .str s, v, e => valS_eq (eq_of_beq e)
  | .st u, v, e => stE_eq e
  | .ref l, v, e => by
    have e := and3 e
    cases h : valR v with
    | none => rw [h] at e; exact ff e.1.2
    | some a => exact ⟨a, valR_eq h, eq_of_beq e.1.1 ▸ hk a ((eq_of_beq e.2).symm.trans h)⟩
  | .tup xs, v, e => by
    obtain ⟨vs, h, q⟩ := any_to e
    obtain ⟨o, h1, h2⟩ := Option.bind_eq_some_iff.mp h
    obtain ⟨a, h3, h4⟩ := Option.bind_eq_some_iff.mp h1
    obtain ⟨n, h5⟩ := tupO_eq h2
    exact ⟨a, n, vs, valR_eq h3, h5 ▸ I _ _ h4, vrBs_ok I hk xs vs q⟩
theorem vrBs_ok (I : K.In p.h) (hk : ∀ a, kf = some a → p.ρ[0]? = some a) : ∀ (ds : List FV) (vs : List Value), vrBs K kf ds vs = true → VRels p ds vs
  | [], [], _ => rfl
  | [], _ :: _, e => ff e
  | d :: ds, [], e => ff (and2 e).1
  | d :: ds, v :: vs, e => ⟨v, vs, rfl, vrB_ok I hk d v (and2 e).1, vrBs_ok I hk ds vs (and2 e).2⟩
end
set_option backward.match.sparseCases true in
noncomputable def nsK (K : Frag) (a : Addr) (x : PySem.Str) : Option Value := match K.lookup a with
  | some o => (match o.data with | .dict es _ => nsFind es x | _ => none)
  | none => none
set_option backward.match.sparseCases true in
noncomputable def isNsK (K : Frag) (a : Addr) : Bool := match K.lookup a with
  | some o => (match o.data with | .dict es _ => es.all (fun e => match e.key with | .str _ _ => true | _ => false) | _ => false)
  | none => false
theorem ns_of {h : Heap} (I : K.In h) (e : isNsK K a = true) : h.Ns a (nsK K a) := by
  unfold isNsK at e
  cases hl : K.lookup a with
  | none => rw [hl] at e; exact ff e
  | some o =>
    rw [hl] at e
    have hg := I _ _ hl
    have x : h.isNs a = true := by unfold Heap.isNs; rw [hg]; exact e
    have z : h.nsMap a = nsK K a := by funext n; unfold Heap.nsMap nsK; rw [hg, hl]; rfl
    exact z ▸ Heap.Ns.of_isNs x
theorem lookup_mem {α β : Type} [BEq α] [LawfulBEq α] {x : α} {d : β} : ∀ {l : List (α × β)}, l.lookup x = some d → (x, d) ∈ l
  | [], h => noS h
  | (a, b) :: l, h => by
    rw [List.lookup_cons] at h
    cases e : x == a with
    | true => rw [e] at h; rw [eq_of_beq e, ← Option.some.inj h]; exact .head _
    | false => rw [e] at h; exact .tail _ (lookup_mem h)
noncomputable def gB (K : Frag) (kf : Addr) (p : PySem.Str × FV) : Bool := ((nsK K mainGlobals p.1).or (nsK K builtinsNs p.1)).any (vrB K (some kf) p.2)
theorem glob_of {l : List (PySem.Str × FV)} (I : K.In d.s.heap) (h1 : isNsK K mainGlobals = true) (h2 : isNsK K builtinsNs = true) (hX : ∀ x v, d.X.glob x = some v → l.lookup x = some v) (h : l.all (gB K d.k) = true) : GlobOk d (nsK K mainGlobals) (nsK K builtinsNs) :=
  ⟨ns_of I h1, ns_of I h2, fun x v e => (any_to (List.all_eq_true.mp h _ (lookup_mem (hX x v e)))).elim fun u g => ⟨u, (by
    have g1 : (nsK K mainGlobals x).or (nsK K builtinsNs x) = some u := g.1
    cases m : nsK K mainGlobals x with
    | some w => rw [m] at g1; exact .inl g1
    | none => rw [m] at g1; exact .inr ⟨rfl, g1⟩), fun ρ hρ => vrB_ok (p := ⟨d.s.heap, ρ⟩) I (fun a e => Option.some.inj e ▸ hρ) v u g.2⟩⟩
noncomputable def fdOf (K : Frag) (a : Addr) : Option FuncData := (K.lookup a).bind fun o => dataF o.data
noncomputable def codeB (K : Frag) (fd : FuncData) : Bool := (valR fd.code).any fun c => (K.lookup c).any fun o => (dataV o.data).any fun vs => (vs[1]?).any fun v => valS v == some fd.qualname
noncomputable def dfB (K : Frag) (fd : FuncData) (ds : List FV) : Bool := (fd.defaults == .none && ds.isEmpty) || (((valR fd.defaults).bind fun a => K.lookup a).bind tupO).any (vrBs K none ds)
noncomputable def parO (a : Arguments) : Option (List Arg) := if (a.posonlyargs.isEmpty && a.vararg.isNone && a.kwonlyargs.isEmpty && (a.kw_defaults.isEmpty && a.kwarg.isNone)) = true then some a.args else none
theorem parO_eq {a : Arguments} {ps : List Arg} (h : parO a = some ps) : a = ⟨[], ps, none, [], [], none, a.defaults⟩ := by
  have h := ifS h
  have b := and2 h.1
  have c := and3 b.1
  have d := and2 b.2
  obtain ⟨p, q, v, k, kd, kw, df⟩ := a
  cases List.isEmpty_iff.mp c.1.1; cases Option.isNone_iff_eq_none.mp c.1.2; cases List.isEmpty_iff.mp c.2; cases List.isEmpty_iff.mp d.1; cases Option.isNone_iff_eq_none.mp d.2; cases Option.some.inj h.2
  rfl
noncomputable def fnQ (K : Frag) (ds : List FV) (fd : FuncData) (p : List Arg × List Stmt × List (PySem.Str × NameKind)) : Bool :=
  fd.globals == mainGlobals && fd.closure.isEmpty && (fd.builtins == builtinsNs && codeB K fd && dfB K fd ds) && (okFn p.1 fd.scope p.2.1 && decide (ds.length ≤ p.1.length) && (parO fd.params).isSome)
noncomputable def fnB (K : Frag) (p : Addr × Stmt × List FV) : Bool := (fdOf K p.1).any fun fd => (fnP p.2.1).any (fnQ K p.2.2 fd)
noncomputable def fnT (K : Frag) (a : Addr) : Option (Option (List Arg) × FuncBody × List (PySem.Str × NameKind)) := (fdOf K a).map fun fd => (parO fd.params, fd.body, fd.scope.names)
noncomputable def stT (st : Stmt) : Option (Option (List Arg) × FuncBody × List (PySem.Str × NameKind)) := (fnP st).map fun p => (some p.1, .stmts p.2.1, p.2.2)
theorem fn_of {st : Stmt} {ds : List FV} (I : K.In d.s.heap) (h : fnB K (a, st, ds) = true) (e : fnT K a = stT st) : ∃ o fd ps df body, FnAt d a st ds o fd ps df body := by
  obtain ⟨fd, h1, h⟩ := any_to h
  obtain ⟨⟨ps, body, nm⟩, h2, h⟩ := any_to h
  obtain ⟨o, h3, h4⟩ := Option.bind_eq_some_iff.mp h1
  unfold fnT stT at e
  rw [h1, h2] at e
  have e := Option.some.inj e
  have e1 : parO fd.params = some ps := congrArg (·.1) e
  have h := and3 h
  have h0 := and2 h.1.1
  have b := and3 h.1.2
  have c := and3 h.2
  refine ⟨o, fd, ps, fd.params.defaults, body, I _ _ h3, dataF_eq h4, ?_, parO_eq e1, congrArg (·.2.1) e, eq_of_beq h0.1, List.isEmpty_iff.mp h0.2, eq_of_beq b.1.1, ?_, c.1.1, of_decide_eq_true c.1.2, ?_⟩
  · exact h2.trans (congrArg (fun x => some (ps, body, x)) (congrArg (·.2.2) e : fd.scope.names = nm).symm)
  · obtain ⟨c, q1, q⟩ := any_to b.1.2
    obtain ⟨oc, q2, q⟩ := any_to q
    obtain ⟨vs, q3, q⟩ := any_to q
    obtain ⟨v, q4, q⟩ := any_to q
    obtain ⟨t, q5⟩ := valS_eq (eq_of_beq q)
    exact ⟨c, oc, vs, t, valR_eq q1, I _ _ q2, dataV_eq q3, q5 ▸ q4⟩
  · refine (Bool.or_eq_true_iff.mp b.2).imp (fun q => ⟨eq_of_beq (and2 q).1, List.isEmpty_iff.mp (and2 q).2⟩) fun q => ?_
    obtain ⟨vs, h, q⟩ := any_to q
    obtain ⟨o, h1, h2⟩ := Option.bind_eq_some_iff.mp h
    obtain ⟨T, h3, h4⟩ := Option.bind_eq_some_iff.mp h1
    obtain ⟨n, h5⟩ := tupO_eq h2
    exact ⟨T, vs, n, valR_eq h3, h5 ▸ I _ _ h4, fun ρ => rels_of (vrBs_ok (p := ⟨d.s.heap, ρ⟩) I (fun _ h => noS h) _ _ q)⟩
end
end
section
open PySem PySem.W PyProof.Rows PySem.SeqAt
set_option maxHeartbeats 0
noncomputable def clsB (K : Frag) (a : Addr) : Bool := keepIn K (.ref a) && makesIn K a && ((X.meth a "__init__").isSome || findIn K (.ref a) "__init__" == some (some (.builtin "object.__init__")))
theorem j_glob (P : Params) : globL.all (gB (KK P) 212) = true := by kernel_rfl
theorem j_fn (P : Params) : fnL.all (fnB (KK P)) = true := by kernel_rfl
theorem j_fn2 (P : Params) : fnL.map (fun p => fnT (KK P) p.1) = fnL.map (fun p => stT p.2.1) := by kernel_rfl
theorem j_own (P : Params) : ownL.all (fun p => p.2.all (ownOk (KK P) p.1)) = true := by kernel_rfl
theorem j_meth (P : Params) : methL.all (fun p => methOk (KK P) p.1.1 p.1.2 p.2) = true := by kernel_rfl
theorem j_keep (P : Params) : fnL.all (fun p => keepIn (KK P) (.ref p.1)) = true := by kernel_rfl
theorem j_cls (P : Params) : clsL.all (clsB (KK P)) = true := by kernel_rfl
theorem j_ns (P : Params) : (isNsK (KK P) mainGlobals && isNsK (KK P) builtinsNs && isNsK (KK P) cStatics) = true := by kernel_rfl
theorem j_lim (P : Params) : nsK (KK P) cStatics "sys.recursionlimit" = none := by kernel_rfl
theorem j_law (P : Params) : nsK (KK P) mainGlobals ⟨#[108, 97, 119]⟩ = some (.ref 1279) := by kernel_rfl
theorem j_kf (P : Params) : (KK P).lookup 212 = some (dctObj [⟨3, .int 3 472, .int 6 530⟩, ⟨4, .int 4 474, .int 5 528⟩, ⟨5, .int 5 476, .int 4 526⟩, ⟨6, .int 6 478, .int 1 520⟩, ⟨7, .int 7 480, .int 2 522⟩, ⟨10, .int 10 486, .int 7 532⟩] 6) := by kernel_rfl
theorem j_sys (P : Params) : ((KK P).lookup sysModules).isSome = true := by kernel_rfl
end
section
open PySem PySem.W PyProof.Rows PySem.SeqAt
open scoped Classical
theorem ns_det {h : Heap} {a : Addr} {m m' : PySem.Str → Option Value} (x : h.Ns a m) (y : h.Ns a m') : m = m' := by
  obtain ⟨o, es, ep, e1, e2, _, e3⟩ := x
  obtain ⟨o', es', ep', e1', e2', _, e3'⟩ := y
  rw [e1] at e1'
  cases e1'
  rw [e2] at e2'
  cases e2'
  funext n
  rw [← e3, e3']
theorem well_int {P : Params} {h : Heap} {v : Value} {i : Int} (x : Well P h v (.int i)) : ∃ t, v = .int i t := by cases x; exact ⟨_, rfl⟩
theorem well_list {P : Params} {h : Heap} {v : Value} {xs : List WData} (x : Well P h v (.list xs)) : ∃ l vs, v = .ref l ∧ h.get? l = some (lstObj vs 0) ∧ WellAll P h vs xs := by cases x with | list g w => exact ⟨_, _, rfl, g, w⟩
theorem well_nil {P : Params} {h : Heap} {vs : List Value} (x : WellAll P h vs []) : vs = [] := by cases x; rfl
theorem int_of {P : Params} {h : Heap} {v : Value} {x : WData} (hx : WShape.has [] x .int = true) (w : Well P h v x) : ∃ i t, v = .int i t := by
  induction x using WData.casesOn with
  | int i => exact ⟨i, well_int w⟩
  | _ => exact ff hx
theorem list_of {x : WData} (hx : WShape.has [] x (.list .int) = true) : ∃ xs, x = .list xs ∧ WShape.hasItems [] xs .int = true := by
  induction x using WData.casesOn with
  | list xs => exact ⟨xs, rfl, (Bool.or_false _).symm.trans hx⟩
  | _ => exact ff hx
theorem ints_well {P : Params} {h : Heap} : ∀ {xs : List WData} {vs : List Value}, WShape.hasItems [] xs .int = true → WellAll P h vs xs → ∃ is : List Int, xs.length = is.length ∧ ∀ p, F2 (VRel p) (is.map .int) vs
  | [], _, _, W => ⟨[], rfl, fun _ => well_nil W ▸ .nil⟩
  | x :: xs, vs, hh, W => by
    have hh : (WShape.has [] x .int && WShape.hasItems [] xs .int) = true := hh
    obtain ⟨v, vs', e, w1, w2⟩ := wellAll_cons_inv W
    obtain ⟨is, e', r⟩ := ints_well (and2 hh).2 w2
    obtain ⟨i, t, e2⟩ := int_of (and2 hh).1 w1
    exact ⟨i :: is, congrArg (· + 1) e', fun p => e ▸ .cons ⟨t, e2⟩ (r p)⟩
theorem room60 : Room 60 callerA := ⟨rfl, by decide, by decide⟩
noncomputable def entI (q : Int × Nat × Int × Nat) : DictEntry := ⟨q.1, .int q.1 q.2.1, .int q.2.2.1 q.2.2.2⟩
noncomputable def kvI (q : Int × Nat × Int × Nat) : FV × Value := (.int q.1, .int q.2.2.1 q.2.2.2)
noncomputable def kfQ : List (Int × Nat × Int × Nat) := [(3, 472, 6, 530), (4, 474, 5, 528), (5, 476, 4, 526), (6, 478, 1, 520), (7, 480, 2, 522), (10, 486, 7, 532)]
noncomputable def kfD : List (FV × FV) := kfQ.map fun q => (.int q.1, .int q.2.2.1)
theorem dict_ints {d : D} {p : Pt} {a : Addr} {n : Nat} {qs : List (Int × Nat × Int × Nat)} (g : p.h.get? a = some (dctObj (qs.map entI) n)) (nd : (qs.map (·.1)).Nodup) (hh : ∀ q ∈ qs, hashFV d.w (.int q.1) = q.1) : MRel d p a (.dct (qs.map fun q => (.int q.1, .int q.2.2.1))) := by
  refine .inl ⟨qs.map kvI, ⟨_, _, n, g, ⟨rfl, rfl, rfl⟩, rfl, fun e he => ?_, ?_, List.pairwise_map.mpr (List.pairwise_map.mpr ((List.pairwise_map.mp nd).imp fun h e => h (FV.int.inj e)))⟩, ?_⟩
  · obtain ⟨q, hq, rfl⟩ := List.mem_map.mp (Array.mem_toList_iff.mpr he)
    exact ⟨.int q.1, decide_eq_true rfl, (hh q hq).symm⟩
  · show Pairs d.fk (qs.map entI) (qs.map kvI)
    clear g nd hh
    induction qs with
    | nil => exact .nil
    | cons q qs ih => exact .cons (decide_eq_true rfl) rfl ih
  · clear g nd hh
    induction qs with
    | nil => exact .nil
    | cons q qs ih => exact .cons ⟨rfl, _, rfl⟩ ih
theorem good_of {d : D} {P : Params} (I : (KK P).In d.s.heap) (eX : d.X = X) (eK : d.K = KK P) (ek : d.k = 212) (el : d.kf = kfD) {vs : List Value} {n : Nat} (gl : d.s.heap.get? d.l = some (lstObj vs n)) (r : F2 (VRel ⟨d.s.heap, [d.k, d.l]⟩) d.xs vs) (hl : d.l ≠ sysModules) : Good d := by
  have ns := and3 (j_ns P)
  have kf := I _ _ (j_kf P)
  obtain ⟨sm, hs⟩ := Option.isSome_iff_exists.mp (j_sys P)
  refine ⟨?_, ⟨vs, n, gl, r⟩, ?_, ek ▸ by decide, hl, ⟨sm, I _ _ hs⟩, ⟨_, ns_of I ns.2, j_lim P⟩, eK ▸ I, fun C a h => ?_, fun C a f h => ?_, fun a st ds h => ?_, fun a h => ?_, _, _, glob_of (l := globL) I ns.1.1 ns.1.2 (eX ▸ fun _ _ h => h) (by rw [ek]; exact j_glob P)⟩
  · rw [el, ek]
    exact dict_ints (n := 6) kf (by decide) fun q hq => eq_of_beq (List.all_eq_true.mp (show kfQ.all (fun q => hashFV d.w (.int q.1) == q.1) = true from rfl) q hq)
  · intro e
    rw [← e, ek, kf] at gl
    have := congrArg Obj.cls (Option.some.inj gl)
    simp at this
  · rw [eX] at h
    have h : ((ownL.lookup C).getD []).contains a = true := h
    cases hl : ownL.lookup C with
    | none => rw [hl] at h; exact ff h
    | some as =>
      rw [hl] at h
      exact eK ▸ List.all_eq_true.mp (List.all_eq_true.mp (j_own P) _ (lookup_mem hl)) a (List.contains_iff_mem.mp h)
  · rw [eX] at h
    exact eK ▸ List.all_eq_true.mp (j_meth P) _ (lookup_mem (show methL.lookup (C, a) = some f from h))
  · rw [eX] at h
    have m := lookup_mem (show fnL.lookup a = some (st, ds) from h)
    exact ⟨eK ▸ List.all_eq_true.mp (j_keep P) _ m, fn_of I (List.all_eq_true.mp (j_fn P) _ m) (List.map_inj_left.mp (j_fn2 P) _ m)⟩
  · rw [eX] at h
    have e := and3 (List.all_eq_true.mp (j_cls P) a (List.contains_iff_mem.mp (show clsL.contains a = true from h)))
    refine eK ▸ ⟨e.1.1, e.1.2, fun hn => ?_⟩
    rw [eX] at hn
    rcases Bool.or_eq_true_iff.mp e.2 with e | e
    · rw [hn] at e; exact ff e
    · exact eq_of_beq e
theorem reads_low {R : WRecords} {cl : Str → Option Addr} {h : Heap} {l : Addr} {xs : List WData} {as : List Addr} (hr : ReadsAllW R cl h [.ref l] [.list xs] as) : l ∈ as := by
  cases hr with
  | cons r1 r2 => cases r1 with
    | list g _ _ _ => exact .head _
theorem len63 {xs : List WData} (p2 : WTm.holds [] (.and (.not (.lt (.lit (.int 63)) (.len (.arg 0)))) (.lit (.bool true))) { args := [.list xs] } = true) : xs.length ≤ 63 := by
  have l : WTm.value [] (.not (.lt (.lit (.int 63)) (.len (.arg 0)))) { args := [.list xs] } = some (.bool (!(decide ((63 : Int) < (xs.length : Nat))))) := rfl
  unfold WTm.holds at p2
  rw [WTm.value, l] at p2
  by_cases q : (63 : Int) < (xs.length : Nat)
  · rw [decide_eq_true q] at p2; exact ff p2
  · exact Int.ofNat_le.mp (Int.not_lt.mp q)
theorem walk_in {P : Params} {h : Heap} {cl : Str → Option Addr} {args : List WData} {vals : List Value} {as : List Addr} (hpre : rwT.row.claim.pre args = true) (hr : ReadsAllW rwT.row.records cl h vals args as) (hwell : WellAll P h vals args) (hlow : ∀ a, a ∈ as → (a == sysModules) = false) :
    ∃ xs l vs, ∃ is : List Int, args = [.list xs] ∧ vals = [.ref l] ∧ h.get? l = some (lstObj vs 0) ∧ (∀ p, F2 (VRel p) (is.map .int) vs) ∧ is.length ≤ 63 ∧ l ≠ sysModules := by
  obtain ⟨p1, p2⟩ := pre_splitW (r := rwT.row.toRowW) hpre
  obtain ⟨d, r, rfl, h1, h2⟩ := hasAllW_cons (R := []) (e := .list .int) (es := []) p1
  cases hasAllW_nil h2
  obtain ⟨xs, rfl, h3⟩ := list_of h1
  obtain ⟨v, vs', rfl, w1, w2⟩ := wellAll_cons_inv hwell
  cases well_nil w2
  obtain ⟨l, vs, rfl, hl, w1⟩ := well_list w1
  obtain ⟨is, e, r⟩ := ints_well h3 w1
  exact ⟨xs, l, vs, is, rfl, rfl, hl, r, e ▸ len63 p2, fun q => ff (((beq_iff_eq (a := l) (b := sysModules)).mpr q ▸ hlow l (reads_low hr) : true = false).symm)⟩
theorem post_ {xs : List WData} : rwT.row.claim.post [.list xs] (.bool true) [.list xs] = true := by
  show (WShape.has [] (.bool true) .bool && WTm.holds [] (.eq .res (.lit (.bool true))) { args := [.list xs], res := some (.bool true), after := [.list xs] }) = true
  rw [show WShape.has [] (.bool true) .bool = true from rfl, Bool.true_and]
  unfold WTm.holds
  rw [show WTm.value [] (.eq .res (.lit (.bool true))) { args := [.list xs], res := some (.bool true), after := [.list xs] } = some (.bool (PySem.W.same (.bool true) (.bool true))) from rfl, show PySem.W.same (.bool true) (.bool true) = true by simp [PySem.W.same]]
theorem walk_ : WalkO vw looseN (XL vw []) hookK.says rwT.row.toRowW dL [] fun f vs => PySem.call f vs := by
  intro w s₀ s₁ mg mb G Y a o pm cd doc dV kV ho hd hcode hdf hmg hgens args vals as hpre hlay hr hwell hlow
  have I : (KK w.params).In s₁.heap := kIn_of Y
  have ha : a = 1279 := Value.ref.inj (Option.some.inj (hmg.symm.trans (ns_det G.T.g (ns_of I (and3 (j_ns w.params)).1.1) ▸ j_law w.params)))
  subst ha
  obtain ⟨xs, l, vs, is, rfl, rfl, hl, rel, h63, nsys⟩ := walk_in hpre hr hwell hlow
  refine wpAny_call (final ⟨w, rwT.row.toRowW.prog, X, KK w.params, s₁, 212, l, is.map .int, kfD⟩ (good_of (P := w.params) I rfl rfl rfl rfl hl (rel _) nsys) 60 callerA 1279 _ room60 (law_true (xs := is.map .int) (fun v hv => (List.mem_map.mp hv).imp fun i h => h.2.symm) (by rw [List.length_map]; exact h63)) fun s' keep same => ?_)
  obtain ⟨h, t, e⟩ := same
  exact GoodW.toG ⟨.inl ⟨_, .bool true, [], rfl, fun _ => rfl, .bool _, post_, fun _ => ⟨.nil, fun _ h => (by cases h)⟩⟩, keep, by rw [e], by rw [e]; exact hgens⟩
end
end Mine
theorem PySem.Challenge.cw_sa0403_01_holds : PySem.Challenge.rw_sa0403_01.Holds :=
  Mine.head_ Mine.walk_
