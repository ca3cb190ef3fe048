import PyProof.Rows.All
import Wide.All
import OpenK.AllK
import Wide.FinOn
import PySem.Challenge.RW_rr0073_01
set_option Elab.async false
set_option linter.all false
section
open PySem
set_option genInjectivity false
set_option genSizeOf false
namespace Mine

noncomputable def codeL : List Nat → Nat
  | [] => 0
  | c :: r => 128 * codeL r + (c + 1)
noncomputable def okL (l : List Nat) : Bool := l.all (fun c => Nat.blt c 127)
/-- the codes of __debug__ and __classdict__: names of another kind -/
noncomputable def oddNames : List Nat := [codeL [95, 95, 100, 101, 98, 117, 103, 95, 95], codeL [95, 95, 99, 108, 97, 115, 115, 100, 105, 99, 116, 95, 95]]
noncomputable def nm (s : Str) : Option Nat := if okL s.cps.toList && !(oddNames.contains (codeL s.cps.toList)) then some (codeL s.cps.toList) else none
noncomputable def notSuper : Expr → Bool
  | .Call (.Name _ _) [] [] _ => false
  | _ => true

set_option genInjectivity true in
inductive MVal
  | none | bool (b : Bool) | int (i : Int) | str (l : List Nat) | ref (i : Nat) | fn (a : Nat) | cls (a : Nat)
  | tkey (i : Nat) (x y : List Nat)
  deriving DecidableEq

set_option genInjectivity true in
inductive MObj
  | inst (c : Nat) (fs : List (Nat × MVal))
  | list (xs : List MVal)
  | tup (xs : List MVal)
  | dict (es : List (MVal × MVal))
  | cell (v : MVal)
  | cell0
  deriving DecidableEq

noncomputable abbrev MHeap := List MObj
noncomputable abbrev Loc := List (Nat × MVal)

inductive BF | len | abs | max | ord
inductive AOp | add | sub | mul | fdiv | mod | pow
inductive COp | eq | ne | lt | le | gt | ge | in_ | ni

mutual
inductive ME
  | none | bool (b : Bool) | int (i : Int) | str (l : List Nat)
  | loc (x : Nat) | cel (x : Nat) | glob (x : Nat)
  | attr (e : ME) (a : Nat)
  | idx (e i : ME)
  | slc (e lo hi : ME)
  | bin (op : AOp) (a b : ME)
  | neg (i : Int)
  | not (e : ME)
  | and (es : MEs) | or (es : MEs)
  | cmp (op : COp) (a b : ME)
  | inT (neg : Bool) (a : ME) (ls : List (List Nat))
  | eqNil (neg : Bool) (a : ME)
  | isN (neg : Bool) (a : ME)
  | ite (c a b : ME)
  | call (f : ME) (args : MEs)
  | bi (f : BF) (args : MEs)
  | meth (o : ME) (m : Nat) (args : MEs)
  | list (es : MEs)
  | tup (es : MEs)
  | dict0
inductive MEs
  | nil | cons (e : ME) (es : MEs)
end

mutual
inductive MS
  | expr (e : ME)
  | ret (e : ME)
  | setL (x : Nat) (e : ME)
  | setA (o : ME) (a : Nat) (e : ME)
  | setI (o i e : ME)
  | unp (x y : Nat) (e : ME)
  | augA (o : ME) (a : Nat) (e : ME)
  | ite (c : ME) (a b : MSs)
  | whl (c : ME) (b : MSs)
  | forR (x : Nat) (n : ME) (b : MSs)
  | forV (x : Nat) (e : ME) (b : MSs)
  | forI (x : Nat) (e : ME) (b : MSs)
  | comp (y x : Nat) (n elt : ME)
  | brk | cont
inductive MSs
  | nil | cons (s : MS) (ss : MSs)
end

inductive MF
  | next | brk | cont | ret (v : MVal)

/-- the table of what the text's top has made -/
structure FnI where
  params : List Nat
  dflts : List MVal
  body : MSs
structure Tab where
  fn : Nat → Option FnI
  init : Nat → Option Nat
  meth : Nat → Nat → Option Nat
  fld : Nat → Nat → Bool
  glob : Nat → Option MVal

noncomputable abbrev CallF := Nat → List MVal → MHeap → Option (MVal × MHeap)

noncomputable def lk (x : Nat) : List (Nat × MVal) → Option MVal
  | [] => none
  | (y, v) :: r => if Nat.beq x y then some v else lk x r
noncomputable def put (x : Nat) (v : MVal) : List (Nat × MVal) → List (Nat × MVal)
  | [] => [(x, v)]
  | (y, u) :: r => if Nat.beq x y then (y, v) :: r else (y, u) :: put x v r
noncomputable def dlk (x : MVal) : List (MVal × MVal) → Option MVal
  | [] => none
  | (y, v) :: r => if x = y then some v else dlk x r
noncomputable def dput (x : MVal) (v : MVal) : List (MVal × MVal) → List (MVal × MVal)
  | [] => [(x, v)]
  | (y, u) :: r => if x = y then (y, v) :: r else (y, u) :: dput x v r
noncomputable def allStr (k : List (MVal × MVal)) : Bool := k.all fun p => match p.1 with | .str _ => true | _ => false
noncomputable def allInt (k : List (MVal × MVal)) : Bool := k.all fun p => match p.1 with | .int _ => true | _ => false
noncomputable def okKey (x : MVal) (k : List (MVal × MVal)) : Bool := match x with | .str _ => allStr k | .int _ => allInt k | _ => false

noncomputable def ltL : List Nat → List Nat → Bool
  | [], [] => false
  | [], _ :: _ => true
  | _ :: _, [] => false
  | a :: r, b :: t => Nat.blt a b || (Nat.beq a b && ltL r t)

noncomputable def intsOf : List MVal → Option (List Int)
  | [] => some []
  | .int i :: r => (intsOf r).map (i :: ·)
  | _ :: _ => none
noncomputable def strsOf : List MVal → Option (List (List Nat))
  | [] => some []
  | .str i :: r => (strsOf r).map (i :: ·)
  | _ :: _ => none

noncomputable def szLine : Nat := 2 ^ 20

noncomputable def intV : MVal → Option Int
  | .int a => some a
  | _ => none
noncomputable def strV : MVal → Option (List Nat)
  | .str a => some a
  | _ => none
noncomputable def refV : MVal → Option Nat
  | .ref a => some a
  | _ => none
noncomputable def tupO : MObj → Option (List MVal)
  | .tup xs => some xs
  | _ => none
noncomputable def one {α : Type} : List α → Option α
  | [a] => some a
  | _ => none
noncomputable def two {α : Type} : List α → Option (α × α)
  | [a, b] => some (a, b)
  | _ => none

noncomputable def binop (op : AOp) (v u : MVal) (H : MHeap) : Option (MVal × MHeap) := match op with
  | .add => (match v with
    | .int a => (intV u).map fun b => (.int (a + b), H)
    | .str a => (strV u).bind fun b => if a.length + b.length ≤ szLine then some (.str (a ++ b), H) else none
    | .ref i => (refV u).bind fun j => (H[i]?).bind fun x => (H[j]?).bind fun y => (tupO x).bind fun xs => (tupO y).bind fun ys => if xs ≠ [] ∧ ys ≠ [] ∧ xs.length + ys.length ≤ szLine then some (.ref H.length, H ++ [.tup (xs ++ ys)]) else none
    | _ => none)
  | .sub => (intV v).bind fun a => (intV u).map fun b => (.int (a - b), H)
  | .mul => (intV v).bind fun a => (intV u).bind fun b => if a.natAbs ≤ szLine ∧ b.natAbs ≤ szLine then some (.int (a * b), H) else none
  | .fdiv => (intV v).bind fun a => (intV u).bind fun b => if 0 < b ∧ b ≤ 2 ^ 200 then some (.int (Int.fdiv a b), H) else none
  | .mod => (intV v).bind fun a => (intV u).bind fun b => if 0 < b then some (.int (Int.fmod a b), H) else none
  | .pow => (intV v).bind fun a => (intV u).bind fun b => if a = 7 ∧ 0 ≤ b ∧ b ≤ 64 then some (.int (a ^ b.toNat), H) else none

/-- two elements that are compared within a tuple -/
noncomputable def eqV (a c : MVal) : Option Bool := match a with
  | .int x => (intV c).map fun y => x == y
  | .str x => (strV c).map fun y => x == y
  | _ => none
noncomputable def tupEq (i j : Nat) (H : MHeap) : Option Bool := (H[i]?).bind fun x => (H[j]?).bind fun y => (tupO x).bind fun xs => (tupO y).bind fun ys => (two xs).bind fun p => (two ys).bind fun q =>
  (eqV p.1 q.1).bind fun e => (eqV p.2 q.2).map fun f => e && f
noncomputable def inRef (v : MVal) (i : Nat) (H : MHeap) : Option Bool := (H[i]?).bind fun x => match x with
  | .tup xs => (strV v).bind fun a => (strsOf xs).map fun ls => ls.contains a
  | .dict es => if okKey v es then some (dlk v es).isSome else none
  | _ => none
noncomputable def cmpop (op : COp) (v u : MVal) (H : MHeap) : Option Bool := match op with
  | .eq => (match v with
    | .int a => (intV u).map fun b => a == b
    | .str a => (strV u).map fun b => a == b
    | .ref i => (refV u).bind fun j => tupEq i j H
    | _ => none)
  | .ne => (match v with
    | .int a => (intV u).map fun b => !(a == b)
    | .str a => (strV u).map fun b => !(a == b)
    | .ref i => (refV u).bind fun j => (tupEq i j H).map (!·)
    | _ => none)
  | .lt => (match v with
    | .int a => (intV u).map fun b => decide (a < b)
    | .str a => (strV u).map fun b => ltL a b
    | _ => none)
  | .le => (match v with
    | .int a => (intV u).map fun b => decide (a ≤ b)
    | .str a => (strV u).map fun b => !(ltL b a)
    | _ => none)
  | .gt => (intV v).bind fun a => (intV u).map fun b => decide (b < a)
  | .ge => (intV v).bind fun a => (intV u).map fun b => decide (b ≤ a)
  | .in_ => (match u with
    | .str b => (strV v).bind fun l => (one l).map fun c => b.contains c
    | .ref i => inRef v i H
    | _ => none)
  | .ni => (refV u).bind fun i => (inRef v i H).map (!·)

noncomputable def truth : MVal → Option Bool
  | .bool b => some b
  | _ => none

/-- an int index in a list of n items -/
noncomputable def place (i : Int) (n : Nat) : Option Nat :=
  if 0 ≤ i then (if i.toNat < n then some i.toNat else none) else (if 0 ≤ i + n then some (i + n).toNat else none)

noncomputable def index (v k : MVal) (H : MHeap) : Option MVal := match v, k with
  | .ref o, .int i => match H[o]? with
    | some (.list xs) => if xs.length ≤ szLine then (place i xs.length).bind (xs[·]?) else none
    | some (.tup xs) => if xs.length ≤ szLine then (place i xs.length).bind (xs[·]?) else none
    | _ => none
  | .ref o, .str k => match H[o]? with
    | some (.dict es) => if okKey (.str k) es then dlk (.str k) es else none
    | _ => none
  | _, _ => none

/-- the keys are tuples of two strs, none of them (a, b) -/
noncomputable def tupKeys (a b : List Nat) (H : MHeap) (es : List (MVal × MVal)) : Bool := es.all fun p => match p.1 with
  | .tkey j c d => H[j]? == some (.tup [.str c, .str d]) && !(a == c && b == d)
  | _ => false
noncomputable def keyOf (p : MVal × MVal) : List Nat × List Nat := match p.1 with
  | .tkey _ c d => (c, d)
  | _ => ([], [])
noncomputable def storeI (o k v : MVal) (H : MHeap) : Option MHeap := match o with
  | .ref o => match H[o]?, k with
    | some (.list xs), .int i => if 0 ≤ i ∧ i.toNat < xs.length ∧ xs.length ≤ szLine then some (H.set o (.list (xs.set i.toNat v))) else none
    | some (.dict es), .ref j => (match H[j]? with
      | some (.tup [.str a, .str b]) => if tupKeys a b H es ∧ es.length < 1000 ∧ (es.map keyOf).Nodup then some (H.set o (.dict (es ++ [(.tkey j a b, v)]))) else none
      | _ => none)
    | some (.dict es), k => if okKey k es ∧ es.length < 1000 then some (H.set o (.dict (dput k v es))) else none
    | _, _ => none
  | _ => none

noncomputable def lenO : MObj → Option MVal
  | .list xs => if xs.length ≤ szLine then some (.int xs.length) else none
  | _ => none
noncomputable def lenV (v : MVal) (H : MHeap) : Option MVal := match v with
  | .str l => if l.length ≤ szLine then some (.int l.length) else none
  | .ref i => H[i]?.bind lenO
  | _ => none
noncomputable def builtin (f : BF) (vs : List MVal) (H : MHeap) : Option MVal := match f with
  | .len => (one vs).bind fun v => lenV v H
  | .abs => (one vs).bind fun v => (intV v).map fun i => .int i.natAbs
  | .max => (two vs).bind fun p => (intV p.1).bind fun a => (intV p.2).map fun b => .int (if a < b then b else a)
  | .ord => (one vs).bind fun v => (strV v).bind fun l => (one l).map fun (c : Nat) => .int c

noncomputable def hexL : List Nat := [48, 49, 50, 51, 52, 53, 54, 55, 56, 57, 65, 66, 67, 68, 69, 70]

noncomputable def n_append : Nat := codeL [97, 112, 112, 101, 110, 100]
noncomputable def n_find : Nat := codeL [102, 105, 110, 100]

inductive MM
  | fn (a : Nat) (self : MVal)
  | app (o : Nat)
  | find (l : List Nat)

noncomputable def methOf (T : Tab) (v : MVal) (m : Nat) (H : MHeap) : Option MM := match v with
  | .ref i => (match H[i]? with
    | some (.inst c fs) => (match lk m fs with
      | none => (T.meth c m).map fun f => .fn f v
      | some _ => none)
    | some (.list _) => if Nat.beq m n_append then some (.app i) else none
    | _ => none)
  | .str l => if Nat.beq m n_find then some (.find l) else none
  | _ => none
noncomputable def methCall (C : CallF) (m : MM) (args : List MVal) (H : MHeap) : Option (MVal × MHeap) := match m with
  | .fn f self => C f (self :: args) H
  | .app o => (match args, H[o]? with
    | [v], some (.list xs) => if xs.length < szLine then some (.none, H.set o (.list (xs ++ [v]))) else none
    | _, _ => none)
  | .find l => (match args with
    | [.str [c]] => if l = hexL ∧ (c = 48 ∨ c = 49) then some (.int ((c : Int) - 48), H) else none
    | _ => none)

noncomputable def callV (T : Tab) (C : CallF) (v : MVal) (args : List MVal) (H : MHeap) : Option (MVal × MHeap) := match v with
  | .fn a => (match T.fn a with
    | some _ => C a args H
    | none => none)
  | .cls c => (match T.init c with
    | some f => (match C f (.ref H.length :: args) (H ++ [.inst c []]) with
      | some (.none, H') => some (.ref H.length, H')
      | _ => none)
    | none => none)
  | _ => none

noncomputable def getA (T : Tab) (v : MVal) (a : Nat) (H : MHeap) : Option MVal := match v with
  | .ref i => (match H[i]? with
    | some (.inst c fs) => if T.fld c a then lk a fs else none
    | _ => none)
  | _ => none
noncomputable def setAt (T : Tab) (o : MVal) (a : Nat) (v : MVal) (H : MHeap) : Option MHeap := match o with
  | .ref i => (match H[i]? with
    | some (.inst c fs) => if T.fld c a && Nat.blt fs.length 40 then some (H.set i (.inst c (put a v fs))) else none
    | _ => none)
  | _ => none

/-- a slice of a str by two ints that are not below nought; of a list by an upper bound -/
noncomputable def sliceS (v a b : MVal) : Option MVal := match v, a, b with
  | .str l, .int a, .int b => if 0 ≤ a ∧ 0 ≤ b ∧ a ≤ 2 ^ 40 ∧ b ≤ 2 ^ 40 ∧ l.length ≤ szLine then some (.str ((l.drop a.toNat).take (b.toNat - a.toNat))) else none
  | _, _, _ => none
/-- the truth of what was found, where a test asks -/
noncomputable def fin (b : Bool) (r : Option (MVal × MHeap)) : Option (MVal × MHeap) := if b then r.bind fun (v, H1) => (truth v).map fun t => (.bool t, H1) else r
noncomputable def toT (r : Option (MVal × MHeap)) : Option (Bool × MHeap) := r.bind fun (v, H1) => (truth v).map (·, H1)
noncomputable def ofT (r : Option (Bool × MHeap)) : Option (MVal × MHeap) := r.map fun (t, H1) => (.bool t, H1)

mutual
noncomputable def ev (T : Tab) (C : CallF) (ρ : Loc) : ME → Bool → MHeap → Option (MVal × MHeap)
  | .none, b, H => fin b (some (.none, H))
  | .bool x, b, H => fin b (some (.bool x, H))
  | .int i, b, H => fin b (some (.int i, H))
  | .str l, b, H => fin b (some (.str l, H))
  | .loc x, b, H => fin b ((lk x ρ).map (·, H))
  | .cel x, b, H => fin b (match lk x ρ with
    | some (.ref i) => (match H[i]? with
      | some (.cell v) => some (v, H)
      | _ => none)
    | _ => none)
  | .glob x, b, H => fin b ((T.glob x).map (·, H))
  | .attr e a, b, H => fin b ((ev T C ρ e false H).bind fun (v, H1) => (getA T v a H1).map (·, H1))
  | .idx e i, b, H => fin b ((ev T C ρ e false H).bind fun (v, H1) => (ev T C ρ i false H1).bind fun (k, H2) => (index v k H2).map (·, H2))
  | .slc e lo hi, b, H => fin b ((ev T C ρ e false H).bind fun (v, H1) => (ev T C ρ lo false H1).bind fun (a, H2) => (ev T C ρ hi false H2).bind fun (c, H3) => (sliceS v a c).map (·, H3))
  | .bin op x y, b, H => fin b ((ev T C ρ x false H).bind fun (v, H1) => (ev T C ρ y false H1).bind fun (u, H2) => binop op v u H2)
  | .neg i, b, H => fin b (some (.int (-i), H))
  | .not e, b, H => if b then (ev T C ρ e true H).bind fun (v, H1) => (truth v).map fun t => (.bool (!t), H1)
    else (ev T C ρ e false H).bind fun (v, H1) => (truth v).map fun t => (.bool (!t), H1)
  | .and es, b, H => if b then ofT (evAll T C ρ es H) else evAnd T C ρ es H
  | .or es, b, H => if b then ofT (evAny T C ρ es H) else evOr T C ρ es H
  | .cmp op x y, b, H => fin b ((ev T C ρ x false H).bind fun (v, H1) => (ev T C ρ y false H1).bind fun (u, H2) => (cmpop op v u H2).map fun r => (.bool r, H2))
  | .inT n a ls, b, H => fin b ((ev T C ρ a false H).bind fun (v, H1) => match v with
    | .str l => some (.bool (n != ls.contains l), H1)
    | _ => none)
  | .eqNil n a, b, H => fin b ((ev T C ρ a false H).bind fun (v, H1) => match v with
    | .ref i => (match H1[i]? with
      | some (.list xs) => some (.bool (n != xs.isEmpty), H1)
      | _ => none)
    | _ => none)
  | .isN n a, b, H => fin b ((ev T C ρ a false H).map fun (v, H1) => (.bool (n != (v == .none)), H1))
  | .ite c x y, b, H => (ev T C ρ c true H).bind fun (v, H1) => (truth v).bind fun t => if t then ev T C ρ x b H1 else ev T C ρ y b H1
  | .call f args, b, H => fin b ((ev T C ρ f false H).bind fun (v, H1) => (evEs T C ρ args H1).bind fun (vs, H2) => callV T C v vs H2)
  | .bi f args, b, H => fin b ((evEs T C ρ args H).bind fun (vs, H1) => (builtin f vs H1).map (·, H1))
  | .meth o m args, b, H => fin b ((ev T C ρ o false H).bind fun (v, H1) => (methOf T v m H1).bind fun mm => (evEs T C ρ args H1).bind fun (vs, H2) => methCall C mm vs H2)
  | .list es, b, H => fin b ((evEs T C ρ es H).map fun (vs, H1) => (.ref H1.length, H1 ++ [.list vs]))
  | .tup es, b, H => fin b ((evEs T C ρ es H).map fun (vs, H1) => (.ref H1.length, H1 ++ [.tup vs]))
  | .dict0, b, H => fin b (some (.ref H.length, H ++ [.dict []]))
termination_by structural x => x
noncomputable def evEs (T : Tab) (C : CallF) (ρ : Loc) : MEs → MHeap → Option (List MVal × MHeap)
  | .nil, H => some ([], H)
  | .cons e es, H => (ev T C ρ e false H).bind fun (v, H1) => (evEs T C ρ es H1).map fun (vs, H2) => (v :: vs, H2)
termination_by structural x => x
noncomputable def evAnd (T : Tab) (C : CallF) (ρ : Loc) : MEs → MHeap → Option (MVal × MHeap)
  | .nil, _ => none
  | .cons e es, H => (ev T C ρ e false H).bind fun (v, H1) => match es with
    | .nil => some (v, H1)
    | _ => (truth v).bind fun t => if t then evAnd T C ρ es H1 else some (v, H1)
termination_by structural x => x
noncomputable def evOr (T : Tab) (C : CallF) (ρ : Loc) : MEs → MHeap → Option (MVal × MHeap)
  | .nil, _ => none
  | .cons e es, H => (ev T C ρ e false H).bind fun (v, H1) => match es with
    | .nil => some (v, H1)
    | _ => (truth v).bind fun t => if t then some (v, H1) else evOr T C ρ es H1
termination_by structural x => x
noncomputable def evAll (T : Tab) (C : CallF) (ρ : Loc) : MEs → MHeap → Option (Bool × MHeap)
  | .nil, H => some (true, H)
  | .cons e es, H => (ev T C ρ e true H).bind fun (v, H1) => (truth v).bind fun t => if t then evAll T C ρ es H1 else some (false, H1)
termination_by structural x => x
noncomputable def evAny (T : Tab) (C : CallF) (ρ : Loc) : MEs → MHeap → Option (Bool × MHeap)
  | .nil, H => some (false, H)
  | .cons e es, H => (ev T C ρ e true H).bind fun (v, H1) => (truth v).bind fun t => if t then some (true, H1) else evAny T C ρ es H1
termination_by structural x => x
end
noncomputable def evE (T : Tab) (C : CallF) (ρ : Loc) (e : ME) (H : MHeap) : Option (MVal × MHeap) := ev T C ρ e false H
noncomputable def evT (T : Tab) (C : CallF) (ρ : Loc) (e : ME) (H : MHeap) : Option (Bool × MHeap) := toT (ev T C ρ e true H)

section
variable (T : Tab) (C : CallF) (ρ : Loc) (H : MHeap)
theorem evE_none : evE T C ρ .none H = some (.none, H) := rfl
theorem evE_bool (b : Bool) : evE T C ρ (.bool b) H = some (.bool b, H) := rfl
theorem evE_int (i : Int) : evE T C ρ (.int i) H = some (.int i, H) := rfl
theorem evE_str (l : List Nat) : evE T C ρ (.str l) H = some (.str l, H) := rfl
theorem evE_loc (x : Nat) : evE T C ρ (.loc x) H = (lk x ρ).map (·, H) := rfl
theorem evE_cel (x : Nat) : evE T C ρ (.cel x) H = (match lk x ρ with
    | some (.ref i) => (match H[i]? with
      | some (.cell v) => some (v, H)
      | _ => none)
    | _ => none) := rfl
theorem evE_glob (x : Nat) : evE T C ρ (.glob x) H = (T.glob x).map (·, H) := rfl
theorem evE_attr (e : ME) (a : Nat) : evE T C ρ (.attr e a) H = (evE T C ρ e H).bind fun (v, H1) => (getA T v a H1).map (·, H1) := rfl
theorem evE_idx (e i : ME) : evE T C ρ (.idx e i) H = (evE T C ρ e H).bind fun (v, H1) => (evE T C ρ i H1).bind fun (k, H2) => (index v k H2).map (·, H2) := rfl
theorem evE_slc (e lo hi : ME) : evE T C ρ (.slc e lo hi) H = (evE T C ρ e H).bind fun (v, H1) => (evE T C ρ lo H1).bind fun (a, H2) => (evE T C ρ hi H2).bind fun (b, H3) => (sliceS v a b).map (·, H3) := rfl
theorem evE_bin (op : AOp) (a b : ME) : evE T C ρ (.bin op a b) H = (evE T C ρ a H).bind fun (v, H1) => (evE T C ρ b H1).bind fun (u, H2) => binop op v u H2 := rfl
theorem evE_neg (i : Int) : evE T C ρ (.neg i) H = some (.int (-i), H) := rfl
theorem evE_not (e : ME) : evE T C ρ (.not e) H = (evE T C ρ e H).bind fun (v, H1) => (truth v).map fun b => (.bool (!b), H1) := rfl
theorem evE_and (es : MEs) : evE T C ρ (.and es) H = evAnd T C ρ es H := rfl
theorem evE_or (es : MEs) : evE T C ρ (.or es) H = evOr T C ρ es H := rfl
theorem evE_cmp (op : COp) (a b : ME) : evE T C ρ (.cmp op a b) H = (evE T C ρ a H).bind fun (v, H1) => (evE T C ρ b H1).bind fun (u, H2) => (cmpop op v u H2).map fun r => (.bool r, H2) := rfl
theorem evE_inT (n : Bool) (a : ME) (ls : List (List Nat)) : evE T C ρ (.inT n a ls) H = (evE T C ρ a H).bind fun (v, H1) => match v with
    | .str l => some (.bool (n != ls.contains l), H1)
    | _ => none := rfl
theorem evE_eqNil (n : Bool) (a : ME) : evE T C ρ (.eqNil n a) H = (evE T C ρ a H).bind fun (v, H1) => match v with
    | .ref i => (match H1[i]? with
      | some (.list xs) => some (.bool (n != xs.isEmpty), H1)
      | _ => none)
    | _ => none := rfl
theorem evE_isN (n : Bool) (a : ME) : evE T C ρ (.isN n a) H = (evE T C ρ a H).map fun (v, H1) => (.bool (n != (v == .none)), H1) := rfl
theorem evE_ite (c a b : ME) : evE T C ρ (.ite c a b) H = (evT T C ρ c H).bind fun (t, H1) => if t then evE T C ρ a H1 else evE T C ρ b H1 := by
  show (ev T C ρ c true H).bind _ = (toT (ev T C ρ c true H)).bind _
  cases ev T C ρ c true H with
  | none => rfl
  | some r =>
    obtain ⟨v, H1⟩ := r
    simp only [toT, Option.bind_some]
    cases truth v <;> rfl
theorem evE_call (f : ME) (args : MEs) : evE T C ρ (.call f args) H = (evE T C ρ f H).bind fun (v, H1) => (evEs T C ρ args H1).bind fun (vs, H2) => callV T C v vs H2 := rfl
theorem evE_bi (f : BF) (args : MEs) : evE T C ρ (.bi f args) H = (evEs T C ρ args H).bind fun (vs, H1) => (builtin f vs H1).map (·, H1) := rfl
theorem evE_meth (o : ME) (m : Nat) (args : MEs) : evE T C ρ (.meth o m args) H = (evE T C ρ o H).bind fun (v, H1) => (methOf T v m H1).bind fun mm => (evEs T C ρ args H1).bind fun (vs, H2) => methCall C mm vs H2 := rfl
theorem evE_list (es : MEs) : evE T C ρ (.list es) H = (evEs T C ρ es H).map fun (vs, H1) => (.ref H1.length, H1 ++ [.list vs]) := rfl
theorem evE_tup (es : MEs) : evE T C ρ (.tup es) H = (evEs T C ρ es H).map fun (vs, H1) => (.ref H1.length, H1 ++ [.tup vs]) := rfl
theorem evE_dict0 : evE T C ρ .dict0 H = some (.ref H.length, H ++ [.dict []]) := rfl
theorem evEs_nil : evEs T C ρ .nil H = some ([], H) := rfl
theorem evEs_cons (e : ME) (es : MEs) : evEs T C ρ (.cons e es) H = (evE T C ρ e H).bind fun (v, H1) => (evEs T C ρ es H1).map fun (vs, H2) => (v :: vs, H2) := rfl
theorem evAnd_nil : evAnd T C ρ .nil H = none := rfl
theorem evAnd_one (e : ME) : evAnd T C ρ (.cons e .nil) H = evE T C ρ e H := by
  show (evE T C ρ e H).bind _ = _
  cases evE T C ρ e H <;> rfl
theorem evAnd_two (e f : ME) (es : MEs) : evAnd T C ρ (.cons e (.cons f es)) H = (evE T C ρ e H).bind fun (v, H1) => (truth v).bind fun t => if t then evAnd T C ρ (.cons f es) H1 else some (v, H1) := rfl
theorem evOr_nil : evOr T C ρ .nil H = none := rfl
theorem evOr_one (e : ME) : evOr T C ρ (.cons e .nil) H = evE T C ρ e H := by
  show (evE T C ρ e H).bind _ = _
  cases evE T C ρ e H <;> rfl
theorem evOr_two (e f : ME) (es : MEs) : evOr T C ρ (.cons e (.cons f es)) H = (evE T C ρ e H).bind fun (v, H1) => (truth v).bind fun t => if t then some (v, H1) else evOr T C ρ (.cons f es) H1 := rfl
theorem evAll_nil : evAll T C ρ .nil H = some (true, H) := rfl
theorem evAll_cons (e : ME) (es : MEs) : evAll T C ρ (.cons e es) H = (evT T C ρ e H).bind fun (t, H1) => if t then evAll T C ρ es H1 else some (false, H1) := by
  show (ev T C ρ e true H).bind _ = (toT (ev T C ρ e true H)).bind _
  cases ev T C ρ e true H with
  | none => rfl
  | some r =>
    obtain ⟨v, H1⟩ := r
    simp only [toT, Option.bind_some]
    cases truth v <;> rfl
theorem evAny_nil : evAny T C ρ .nil H = some (false, H) := rfl
theorem evAny_cons (e : ME) (es : MEs) : evAny T C ρ (.cons e es) H = (evT T C ρ e H).bind fun (t, H1) => if t then some (true, H1) else evAny T C ρ es H1 := by
  show (ev T C ρ e true H).bind _ = (toT (ev T C ρ e true H)).bind _
  cases ev T C ρ e true H with
  | none => rfl
  | some r =>
    obtain ⟨v, H1⟩ := r
    simp only [toT, Option.bind_some]
    cases truth v <;> rfl
theorem evT_not (e : ME) : evT T C ρ (.not e) H = (evT T C ρ e H).map fun (b, H1) => (!b, H1) := by
  show toT ((ev T C ρ e true H).bind _) = (toT (ev T C ρ e true H)).map _
  cases ev T C ρ e true H with
  | none => rfl
  | some r =>
    obtain ⟨v, H1⟩ := r
    simp only [toT, Option.bind_some]
    cases truth v <;> rfl
theorem toT_ofT (r : Option (Bool × MHeap)) : toT (ofT r) = r := by cases r <;> rfl
theorem evT_and (es : MEs) : evT T C ρ (.and es) H = evAll T C ρ es H := toT_ofT _
theorem evT_or (es : MEs) : evT T C ρ (.or es) H = evAny T C ρ es H := toT_ofT _
theorem evT_ite (c a b : ME) : evT T C ρ (.ite c a b) H = (evT T C ρ c H).bind fun (t, H1) => if t then evT T C ρ a H1 else evT T C ρ b H1 := by
  show toT ((ev T C ρ c true H).bind _) = (toT (ev T C ρ c true H)).bind _
  cases ev T C ρ c true H with
  | none => rfl
  | some r =>
    obtain ⟨v, H1⟩ := r
    simp only [toT, Option.bind_some]
    cases truth v with
    | none => rfl
    | some t => cases t <;> rfl
noncomputable def isPlainT : ME → Bool
  | .not _ => false
  | .and _ => false
  | .or _ => false
  | .ite _ _ _ => false
  | _ => true
theorem toT_fin (r : Option (MVal × MHeap)) : toT (fin true r) = toT r := by
  cases r with
  | none => rfl
  | some r =>
    obtain ⟨v, H1⟩ := r
    simp only [toT, fin, if_true, Option.bind_some]
    cases truth v <;> rfl
theorem evT_plain {m : ME} (h : isPlainT m = true) : evT T C ρ m H = (evE T C ρ m H).bind fun (v, H1) => (truth v).map (·, H1) := by
  cases m <;> first | exact toT_fin _ | (cases h)
end

noncomputable abbrev Out := MF × Loc × MHeap

noncomputable def loopW (test : Loc → MHeap → Option (Bool × MHeap)) (body : Loc → MHeap → Option Out) : Nat → Loc → MHeap → Option Out
  | 0, _, _ => none
  | w + 1, ρ, H => (test ρ H).bind fun (t, H1) => if t then (body ρ H1).bind fun (f, ρ2, H2) => match f with
      | .next => loopW test body w ρ2 H2
      | .cont => loopW test body w ρ2 H2
      | .brk => some (.next, ρ2, H2)
      | .ret v => some (.ret v, ρ2, H2)
    else some (.next, ρ, H1)

/-- a for over what nxt gives: none (stuck), some none (the end), some (some v) -/
noncomputable def loopF (nxt : Nat → MHeap → Option (Option MVal)) (x : Nat) (body : Loc → MHeap → Option Out) : Nat → Nat → Loc → MHeap → Option Out
  | 0, _, _, _ => none
  | w + 1, k, ρ, H => (nxt k H).bind fun
    | none => some (.next, ρ, H)
    | some v => (body (put x v ρ) H).bind fun (f, ρ2, H2) => match f with
      | .next => loopF nxt x body w (k + 1) ρ2 H2
      | .cont => loopF nxt x body w (k + 1) ρ2 H2
      | .brk => some (.next, ρ2, H2)
      | .ret v => some (.ret v, ρ2, H2)

noncomputable def compL (elt : Loc → MHeap → Option (MVal × MHeap)) (x : Nat) (ρ : Loc) : Nat → Nat → MHeap → Option (List MVal × MHeap)
  | 0, _, H => some ([], H)
  | w + 1, k, H => (elt ρ H).bind fun (v, H1) => (compL elt x ρ w (k + 1) H1).map fun (vs, H2) => (v :: vs, H2)

noncomputable def nxtR (n : Int) (k : Nat) (_ : MHeap) : Option (Option MVal) := if (k : Int) < n then some (some (.int k)) else some none
noncomputable def nxtL (i : Nat) (k : Nat) (H : MHeap) : Option (Option MVal) := match H[i]? with
  | some (.list xs) => some xs[k]?
  | _ => none
noncomputable def nxtT (i : Nat) (k : Nat) (H : MHeap) : Option (Option MVal) := match H[i]? with
  | some (.tup xs) => some xs[k]?
  | _ => none
noncomputable def nxtS (l : List Nat) (k : Nat) (_ : MHeap) : Option (Option MVal) := some (l[k]?.map fun c => .str [c])
/-- reversed, of a list that keeps its length n0 -/
noncomputable def nxtV (i n0 : Nat) (k : Nat) (H : MHeap) : Option (Option MVal) := match H[i]? with
  | some (.list xs) => if xs.length = n0 then (if k < n0 then some xs[n0 - 1 - k]? else some none) else none
  | _ => none

mutual
noncomputable def exS (T : Tab) (C : CallF) (W : Nat) : MS → Loc → MHeap → Option Out
  | .expr e, ρ, H => (evE T C ρ e H).map fun (_, H1) => (.next, ρ, H1)
  | .ret e, ρ, H => (evE T C ρ e H).map fun (v, H1) => (.ret v, ρ, H1)
  | .setL x e, ρ, H => (evE T C ρ e H).map fun (v, H1) => (.next, put x v ρ, H1)
  | .setA o a e, ρ, H => (evE T C ρ e H).bind fun (v, H1) => (evE T C ρ o H1).bind fun (ov, H2) => (setAt T ov a v H2).map fun H3 => (.next, ρ, H3)
  | .setI o i e, ρ, H => (evE T C ρ e H).bind fun (v, H1) => (evE T C ρ o H1).bind fun (ov, H2) => (evE T C ρ i H2).bind fun (iv, H3) => (storeI ov iv v H3).map fun H4 => (.next, ρ, H4)
  | .unp x y e, ρ, H => (evE T C ρ e H).bind fun (v, H1) => match v with
    | .ref i => (match H1[i]? with
      | some (.list [a, b]) => some (.next, put y b (put x a ρ), H1)
      | _ => none)
    | _ => none
  | .augA o a e, ρ, H => (evE T C ρ o H).bind fun (ov, H1) => (getA T ov a H1).bind fun old => (evE T C ρ e H1).bind fun (v, H2) => (match old, v with
      | .int p, .int q => (setAt T ov a (.int (p + q)) H2).map fun H3 => (.next, ρ, H3)
      | _, _ => none)
  | .ite c a b, ρ, H => (evT T C ρ c H).bind fun (t, H1) => if t then exSs T C W a ρ H1 else exSs T C W b ρ H1
  | .whl c b, ρ, H => loopW (fun ρ H => evT T C ρ c H) (fun ρ H => exSs T C W b ρ H) W ρ H
  | .forR x n b, ρ, H => (evE T C ρ n H).bind fun (v, H1) => match v with
    | .int n => if 0 ≤ n ∧ n ≤ szLine then loopF (nxtR n) x (fun ρ H => exSs T C W b ρ H) W 0 ρ H1 else none
    | _ => none
  | .forV x e b, ρ, H => (evE T C ρ e H).bind fun (v, H1) => match v with
    | .ref i => (match H1[i]? with
      | some (.list xs) => loopF (nxtV i xs.length) x (fun ρ H => exSs T C W b ρ H) W 0 ρ H1
      | _ => none)
    | _ => none
  | .forI x e b, ρ, H => (evE T C ρ e H).bind fun (v, H1) => match v with
    | .ref i => (match H1[i]? with
      | some (.list _) => loopF (nxtL i) x (fun ρ H => exSs T C W b ρ H) W 0 ρ H1
      | some (.tup _) => loopF (nxtT i) x (fun ρ H => exSs T C W b ρ H) W 0 ρ H1
      | _ => none)
    | .str l => loopF (nxtS l) x (fun ρ H => exSs T C W b ρ H) W 0 ρ H1
    | _ => none
  | .comp y x n elt, ρ, H => (evE T C ρ n H).bind fun (v, H1) => match v with
    | .int n => if 0 ≤ n ∧ n ≤ szLine then (compL (fun ρ H => evE T C ρ elt H) x ρ n.toNat 0 H1).map fun (vs, H2) => (.next, put y (.ref H2.length) ρ, H2 ++ [.list vs]) else none
    | _ => none
  | .brk, ρ, H => some (.brk, ρ, H)
  | .cont, ρ, H => some (.cont, ρ, H)
noncomputable def exSs (T : Tab) (C : CallF) (W : Nat) : MSs → Loc → MHeap → Option Out
  | .nil, ρ, H => some (.next, ρ, H)
  | .cons s ss, ρ, H => (exS T C W s ρ H).bind fun (f, ρ1, H1) => match f with
    | .next => exSs T C W ss ρ1 H1
    | f => some (f, ρ1, H1)
end

noncomputable def bindP (ps : List Nat) (ds vs : List MVal) : Option Loc :=
  if vs.length ≤ ps.length ∧ ps.length ≤ vs.length + ds.length then some (ps.zip (vs ++ ds.drop (ds.length - (ps.length - vs.length)))) else none

noncomputable def outV : MF → Option MVal
  | .ret v => some v
  | .next => some .none
  | _ => none

noncomputable def callF (T : Tab) (W : Nat) : Nat → CallF
  | 0 => fun _ _ _ => none
  | d + 1 => fun f args H => (T.fn f).bind fun I => (bindP I.params I.dflts args).bind fun ρ =>
      (exSs T (callF T W d) W I.body ρ H).bind fun (fl, _, H1) => (outV fl).map (·, H1)

-- the text's trees to these

noncomputable def erC : Const → Option ME
  | .none => some .none
  | .bool b => some (.bool b)
  | .int i => some (.int i)
  | .str s => some (.str s.cps.toList)
  | _ => none

noncomputable def erOp : Operator → Option AOp
  | .Add => some .add | .Sub => some .sub | .Mult => some .mul | .FloorDiv => some .fdiv | .Mod => some .mod | .Pow => some .pow
  | _ => none
noncomputable def erCmp : CmpOp → Option COp
  | .Eq => some .eq | .NotEq => some .ne | .Lt => some .lt | .LtE => some .le | .Gt => some .gt | .GtE => some .ge | .In => some .in_ | .NotIn => some .ni
  | _ => none

/-- looks at an expression of one kind -/
noncomputable def constOf : Expr → Option Const
  | .Constant c _ _ => some c
  | _ => none
noncomputable def strOf (e : Expr) : Option Str := (constOf e).bind fun c => match c with
  | .str s => some s
  | _ => none
noncomputable def intOf (e : Expr) : Option Int := (constOf e).bind fun c => match c with
  | .int i => some i
  | _ => none
noncomputable def noneOf (e : Expr) : Option Unit := (constOf e).bind fun c => match c with
  | .none => some ()
  | _ => none
noncomputable def nameOf : Expr → Option Str
  | .Name x _ => some x
  | _ => none
noncomputable def attrOf : Expr → Option (Expr × Str × Pos)
  | .Attribute o a p => some (o, a, p)
  | _ => none
noncomputable def subOf : Expr → Option (Expr × Expr)
  | .Subscript o i _ => some (o, i)
  | _ => none
noncomputable def listOf0 : Expr → Option (List Expr)
  | .List es _ => some es
  | _ => none
noncomputable def tupOf0 : Expr → Option (List Expr)
  | .Tuple es _ _ => some es
  | _ => none
noncomputable def sliceOf : Expr → Option (Option Expr × Option Expr × Option Expr)
  | .Slice a b c _ => some (a, b, c)
  | _ => none
noncomputable def callOf : Expr → Option (Expr × List Expr × List Keyword)
  | .Call f es ks _ => some (f, es, ks)
  | _ => none
noncomputable def isG : NameKind → Bool
  | .globalImplicit => true
  | _ => false
noncomputable def isL_ : NameKind → Bool
  | .local => true
  | _ => false

noncomputable def strConsts : List Expr → Option (List (List Nat))
  | [] => some []
  | e :: r => (strOf e).bind fun s => (strConsts r).map (s.cps.toList :: ·)

noncomputable def biOf (s : Str) : Option BF :=
  if s = "len" then some .len else if s = "abs" then some .abs else if s = "max" then some .max else if s = "ord" then some .ord else none

/-- a comparison of another kind -/
inductive Sp
  | isN (n : Bool) | inT (ls : List (List Nat)) | eqNil (n : Bool)
noncomputable def special (op : CmpOp) (b : Expr) : Option Sp := match op with
  | .Is => (noneOf b).map fun _ => .isN false
  | .IsNot => (noneOf b).map fun _ => .isN true
  | .In => (tupOf0 b).bind fun es => (strConsts es).bind fun ls => if Nat.ble ls.length 100 && Nat.blt 0 ls.length then some (.inT ls) else none
  | .Eq => (listOf0 b).bind fun es => match es with
    | [] => some (.eqNil false)
    | _ => none
  | .NotEq => (listOf0 b).bind fun es => match es with
    | [] => some (.eqNil true)
    | _ => none
  | _ => none
noncomputable def Sp.put (m : ME) : Sp → ME
  | .isN n => .isN n m
  | .inT ls => .inT false m ls
  | .eqNil n => .eqNil n m
noncomputable def erN (n : Nat) : NameKind → Option ME
  | .local => some (.loc n)
  | .cell => some (.cel n)
  | .free => some (.cel n)
  | .globalImplicit => some (.glob n)
  | _ => none

mutual
noncomputable def er (sc : Scope) : Nat → Expr → Option ME
  | 0, _ => none
  | k + 1, e => match e with
    | .Constant c _ _ => erC c
    | .Name x _ => (nm x).bind fun n => (sc.names.lookup x).bind fun kd => erN n kd
    | .Attribute e a _ => (er sc k e).bind fun m => (nm a).bind fun n => if notSuper e then some (.attr m n) else none
    | .Subscript e i _ => (er sc k e).bind fun m => match sliceOf i with
      | some (lo, hi, st) => lo.bind fun lo => hi.bind fun hi => if st.isNone then (er sc k lo).bind fun a => (er sc k hi).map fun b => .slc m a b else none
      | none => (er sc k i).map fun n => .idx m n
    | .BinOp a op b _ => (er sc k a).bind fun m => (erOp op).bind fun o => (er sc k b).map fun n => .bin o m n
    | .UnaryOp op e _ => match op with
      | .Not => (er sc k e).map fun m => .not m
      | .USub => (intOf e).map fun i => .neg i
      | _ => none
    | .BoolOp op es _ => (ers sc k es).map fun m => match op with
      | .And => .and m
      | .Or => .or m
    | .Compare a ops rs _ => (one ops).bind fun op => (one rs).bind fun b => (er sc k a).bind fun m => match special op b with
      | some s => some (s.put m)
      | none => (erCmp op).bind fun o => (er sc k b).map fun n => .cmp o m n
    | .IfExp c a b _ => (er sc k c).bind fun m => (er sc k a).bind fun o => (er sc k b).map fun n => .ite m o n
    | .Call f args kws cp => if kws.isEmpty then (ers sc k args).bind fun es => match attrOf f with
        | some (o, m, ap) => (er sc k o).bind fun e => (nm m).bind fun n => if notSuper o && (ap.endLine == cp.line && Nat.blt args.length 20) then some (.meth e n es) else none
        | none => (nameOf f).bind fun x => match biOf x with
          | some g => (sc.names.lookup x).bind fun kd => if isG kd then some (.bi g es) else none
          | none => (er sc k f).map fun m => .call m es
      else none
    | .List es _ => (ers sc k es).map fun m => .list m
    | .Tuple es _ _ => (ers sc k es).map fun m => .tup m
    | .Dict ks vs _ => if ks.isEmpty && vs.isEmpty then some .dict0 else none
    | _ => none
noncomputable def ers (sc : Scope) : Nat → List Expr → Option MEs
  | 0, _ => none
  | k + 1, l => match l with
    | [] => some .nil
    | e :: r => (er sc k e).bind fun m => (ers sc k r).map fun n => .cons m n
end

noncomputable def isLoc (sc : Scope) (x : Str) : Option Nat := (sc.names.lookup x).bind fun kd => if isL_ kd then nm x else none

mutual
noncomputable def erS (sc : Scope) : Nat → Stmt → Option MS
  | 0, _ => none
  | k + 1, s => match s with
    | .Expr e _ => (er sc k e).map .expr
    | .Return e _ => match e with
      | some e => (er sc k e).map .ret
      | none => some (.ret .none)
    | .Assign ts e _ => (one ts).bind fun t => match nameOf t with
      | some x => (isLoc sc x).bind fun n => (er sc k e).map fun m => .setL n m
      | none => match attrOf t with
        | some (o, a, _) => (er sc k o).bind fun m => (nm a).bind fun n => (er sc k e).map fun v => .setA m n v
        | none => match subOf t with
          | some (o, i) => (er sc k o).bind fun m => (er sc k i).bind fun n => (er sc k e).map fun v => .setI m n v
          | none => (tupOf0 t).bind fun xs => (two xs).bind fun (a, b) => (nameOf a).bind fun x => (nameOf b).bind fun y => (isLoc sc x).bind fun m => (isLoc sc y).bind fun n => (nameOf e).bind fun _ => (er sc k e).map fun v => .unp m n v
    | .AugAssign t op e _ => match op with
      | .Add => (attrOf t).bind fun (o, a, _) => (er sc k o).bind fun m => (nm a).bind fun n => (er sc k e).map fun v => .augA m n v
      | _ => none
    | .If c a b _ => (er sc k c).bind fun m => (erSs sc k a).bind fun n => (erSs sc k b).map fun v => .ite m n v
    | .While c b els _ => if els.isEmpty then (er sc k c).bind fun m => (erSs sc k b).map fun n => .whl m n else none
    | .For t it b els _ => if els.isEmpty then (nameOf t).bind fun x => (isLoc sc x).bind fun n => (erSs sc k b).bind fun m => match callOf it with
        | some (f, es, ks) => if ks.isEmpty then (one es).bind fun e => (nameOf f).bind fun f => (sc.names.lookup f).bind fun kd => if isG kd then (er sc k e).bind fun v => if f = "range" then some (.forR n v m) else if f = "reversed" then some (.forV n v m) else none else none else none
        | none => (er sc k it).map fun v => .forI n v m
      else none
    | .Break _ => some .brk
    | .Continue _ => some .cont
    | _ => none
noncomputable def erSs (sc : Scope) : Nat → List Stmt → Option MSs
  | 0, _ => none
  | k + 1, l => match l with
    | [] => some .nil
    | s :: r => (erS sc k s).bind fun m => (erSs sc k r).map fun n => .cons m n
end
end Mine

end
section
open PySem
namespace Mine
noncomputable def lkA {α : Type} (a : Nat) : List (Nat × α) → Option α
  | [] => none
  | (b, v) :: r => if Nat.beq a b then some v else lkA a r
theorem lkA_mem {α : Type} {a : Nat} {v : α} : ∀ {l : List (Nat × α)}, lkA a l = some v → (a, v) ∈ l
  | [], h => by cases h
  | (b, u) :: r, h => by
    unfold lkA at h
    split at h
    · rename_i q; cases h; rw [Nat.eq_of_beq_eq_true q]; exact .head _
    · exact .tail _ (lkA_mem h)
noncomputable def lkM (c n : Nat) : List (Nat × Nat × Nat × Str) → Option Nat
  | [] => none
  | (b, m, f, _) :: r => if Nat.beq c b && Nat.beq n m then some f else lkM c n r
theorem lkM_mem {c n f : Nat} : ∀ {l : List (Nat × Nat × Nat × Str)}, lkM c n l = some f → ∃ x, (c, n, f, x) ∈ l
  | [], h => by cases h
  | (b, m, g, x) :: r, h => by
    unfold lkM at h
    split at h
    · rename_i q
      simp only [Bool.and_eq_true] at q
      cases h; rw [Nat.eq_of_beq_eq_true q.1, Nat.eq_of_beq_eq_true q.2]; exact ⟨x, .head _⟩
    · obtain ⟨x, h'⟩ := lkM_mem h
      exact ⟨x, .tail _ h'⟩
noncomputable def lkF (c n : Nat) : List (Nat × Nat × Str) → Bool
  | [] => false
  | (b, m, _) :: r => (Nat.beq c b && Nat.beq n m) || lkF c n r
theorem lkF_mem {c n : Nat} : ∀ {l : List (Nat × Nat × Str)}, lkF c n l = true → ∃ x, (c, n, x) ∈ l
  | [], h => by cases h
  | (b, m, x) :: r, h => by
    unfold lkF at h
    rcases Bool.or_eq_true _ _ |>.mp h with q | q
    · simp only [Bool.and_eq_true] at q
      rw [Nat.eq_of_beq_eq_true q.1, Nat.eq_of_beq_eq_true q.2]; exact ⟨x, .head _⟩
    · obtain ⟨x, h'⟩ := lkF_mem q
      exact ⟨x, .tail _ h'⟩
noncomputable def lkG (n : Nat) : List (Nat × MVal × Str) → Option MVal
  | [] => none
  | (m, v, _) :: r => if Nat.beq n m then some v else lkG n r
theorem lkG_mem {n : Nat} {v : MVal} : ∀ {l : List (Nat × MVal × Str)}, lkG n l = some v → ∃ x, (n, v, x) ∈ l
  | [], h => by cases h
  | (m, u, x) :: r, h => by
    unfold lkG at h
    split at h
    · rename_i q
      cases h; rw [Nat.eq_of_beq_eq_true q]; exact ⟨x, .head _⟩
    · obtain ⟨x, h'⟩ := lkG_mem h
      exact ⟨x, .tail _ h'⟩

structure TabL where
  fnT : List (Nat × FnI)
  initT : List (Nat × Nat)
  methT : List (Nat × Nat × Nat × Str)
  fldT : List (Nat × Nat × Str)
  globT : List (Nat × MVal × Str)
noncomputable def TabL.tab (l : TabL) : Tab where
  fn := fun a => lkA a l.fnT
  init := fun c => lkA c l.initT
  meth := fun c n => lkM c n l.methT
  fld := fun c n => lkF c n l.fldT
  glob := fun n => lkG n l.globT

end Mine

end
section
open PySem
set_option maxRecDepth 10000
namespace Mine
/-- Node.__init__ -/
noncomputable def b36 : MSs := (.cons (.setA (.loc 217805684) 14576 (.loc 14576)) (.cons (.setA (.loc 217805684) 27591751409 (.loc 27591751409)) (.cons (.setA (.loc 217805684) 215776629 (.loc 456873066921333)) (.cons (.setA (.loc 217805684) 244938092 (.loc 244938092)) (.cons (.setA (.loc 217805684) 27629678967 (.loc 27629678967)) (.cons (.setA (.loc 217805684) 215808884 (.bool false)) .nil))))))
/-- is_designator -/
noncomputable def b50 : MSs := (.cons (.whl (.inT false (.attr (.loc 215578735) 14576) [[102, 105, 101, 108, 100], [105, 110, 100, 101, 120], [103, 117, 97, 114, 100]]) (.cons (.setL 215578735 (.idx (.attr (.loc 215578735) 244938092) (.int 0))) .nil)) (.cons (.ret (.or (.cons (.cmp .eq (.attr (.loc 215578735) 14576) (.str [118, 97, 114])) (.cons (.cmp .eq (.attr (.loc 215578735) 14576) (.str [100, 101, 114, 101, 102])) .nil)))) .nil))
/-- same_type -/
noncomputable def b57 : MSs := (.cons (.ret (.cmp .eq (.attr (.loc 98) 3978959764335) (.attr (.loc 99) 3978959764335))) .nil)
/-- is_integer -/
noncomputable def b64 : MSs := (.cons (.ret (.or (.cons (.cmp .eq (.attr (.loc 117) 232585319) (.str [105, 110, 116, 101, 103, 101, 114])) (.cons (.cmp .eq (.attr (.loc 117) 232585319) (.str [98, 121, 116, 101])) .nil)))) .nil)
/-- record_of -/
noncomputable def b71 : MSs := (.cons (.ite (.cmp .eq (.attr (.loc 117) 232585319) (.str [114, 101, 99, 111, 114, 100])) (.cons (.ret (.loc 117)) .nil) .nil) (.cons (.ite (.cmp .eq (.attr (.loc 117) 232585319) (.str [112, 111, 105, 110, 116, 101, 114])) (.cons (.ret (.attr (.loc 117) 215822691)) .nil) .nil) (.cons (.ret .none) .nil)))
/-- extends -/
noncomputable def b78 : MSs := (.cons (.ite (.cmp .ne (.attr (.loc 98) 232585319) (.attr (.loc 99) 232585319)) (.cons (.ret (.bool false)) .nil) .nil) (.cons (.setL 1685488 (.call (.glob 7485408294595015539) (.cons (.loc 98) .nil))) (.cons (.setL 3497961189752 (.call (.glob 7485408294595015539) (.cons (.loc 99) .nil))) (.cons (.ite (.isN false (.loc 3497961189752)) (.cons (.ret (.bool false)) .nil) .nil) (.cons (.whl (.isN true (.loc 1685488)) (.cons (.ite (.call (.glob 7414028544354529652) (.cons (.loc 1685488) (.cons (.loc 3497961189752) .nil))) (.cons (.ret (.bool true)) .nil) .nil) (.cons (.setL 1685488 (.attr (.loc 1685488) 215822691)) .nil))) (.cons (.ret (.bool false)) .nil))))))
/-- index_of -/
noncomputable def b85 : MSs := (.cons (.setL 117 (.attr (.loc 215578735) 215776629)) (.cons (.ite (.or (.cons (.cmp .ne (.attr (.loc 117) 232585319) (.str [97, 114, 114, 97, 121])) (.cons (.not (.call (.glob 2241487510733015978415241834) (.cons (.loc 215578735) .nil))) .nil))) (.cons (.expr (.meth (.loc 4016836508134) 228389230 (.cons (.loc 27591751409) (.cons (.str [110, 111, 116, 95, 97, 110, 95, 97, 114, 114, 97, 121]) .nil)))) (.cons (.ret (.loc 215578735)) .nil)) .nil) (.cons (.ite (.not (.call (.glob 1068096658276177427050) (.cons (.attr (.loc 32696268778) 215776629) .nil))) (.cons (.expr (.meth (.loc 4016836508134) 228389230 (.cons (.attr (.loc 32696268778) 27591751409) (.cons (.str [110, 111, 116, 95, 97, 110, 95, 105, 110, 116, 101, 103, 101, 114]) .nil)))) .nil) (.cons (.ite (.cmp .eq (.attr (.loc 32696268778) 14576) (.str [99, 111, 110, 115, 116])) (.cons (.ite (.or (.cons (.cmp .lt (.attr (.loc 32696268778) 27629678967) (.int 0)) (.cons (.and (.cons (.cmp .ge (.attr (.loc 117) 3639399412589) (.int 0)) (.cons (.cmp .ge (.attr (.loc 32696268778) 27629678967) (.attr (.loc 117) 3639399412589)) .nil))) .nil))) (.cons (.expr (.meth (.loc 4016836508134) 228389230 (.cons (.attr (.loc 32696268778) 27591751409) (.cons (.str [105, 110, 100, 101, 120, 95, 111, 117, 116, 95, 111, 102, 95, 114, 97, 110, 103, 101]) .nil)))) .nil) .nil) .nil) .nil) .nil)) (.cons (.ret (.call (.glob 215578703) (.cons (.str [105, 110, 100, 101, 120]) (.cons (.loc 27591751409) (.cons (.attr (.loc 117) 215822691) (.cons (.list (.cons (.loc 215578735) (.cons (.loc 32696268778) .nil))) (.cons .none .nil))))))) .nil))))
/-- field_named -/
noncomputable def b92 : MSs := (.cons (.whl (.isN true (.loc 3501440185203)) (.cons (.forI 27342255463 (.attr (.loc 3501440185203) 4013071906151) (.cons (.ite (.cmp .eq (.attr (.loc 27342255463) 215724399) (.loc 215724399)) (.cons (.ret (.loc 27342255463)) .nil) .nil) .nil)) (.cons (.setL 3501440185203 (.attr (.loc 3501440185203) 215822691)) .nil))) (.cons (.ret .none) .nil))
/-- field_of -/
noncomputable def b99 : MSs := (.cons (.ite (.and (.cons (.cmp .eq (.attr (.attr (.loc 215578735) 215776629) 232585319) (.str [112, 111, 105, 110, 116, 101, 114])) (.cons (.call (.glob 2241487510733015978415241834) (.cons (.loc 215578735) .nil)) .nil))) (.cons (.setL 215578735 (.call (.glob 215578703) (.cons (.str [100, 101, 114, 101, 102]) (.cons (.loc 27591751409) (.cons (.attr (.attr (.loc 215578735) 215776629) 215822691) (.cons (.list (.cons (.loc 215578735) .nil)) (.cons .none .nil))))))) .nil) .nil) (.cons (.ite (.or (.cons (.cmp .ne (.attr (.attr (.loc 215578735) 215776629) 232585319) (.str [114, 101, 99, 111, 114, 100])) (.cons (.not (.call (.glob 2241487510733015978415241834) (.cons (.loc 215578735) .nil))) .nil))) (.cons (.expr (.meth (.loc 4016836508134) 228389230 (.cons (.loc 27591751409) (.cons (.str [110, 111, 116, 95, 97, 95, 114, 101, 99, 111, 114, 100]) .nil)))) (.cons (.ret (.loc 215578735)) .nil)) .nil) (.cons (.setL 27346712679 (.call (.glob 120188519636166376011111) (.cons (.attr (.loc 215578735) 215776629) (.cons (.loc 215724399) .nil)))) (.cons (.ite (.isN false (.loc 27346712679)) (.cons (.expr (.meth (.loc 4016836508134) 228389230 (.cons (.loc 27591751409) (.cons (.str [110, 111, 95, 115, 117, 99, 104, 95, 102, 105, 101, 108, 100]) .nil)))) (.cons (.ret (.loc 215578735)) .nil)) .nil) (.cons (.ret (.call (.glob 215578703) (.cons (.str [102, 105, 101, 108, 100]) (.cons (.loc 27591751409) (.cons (.attr (.loc 27346712679) 215776629) (.cons (.list (.cons (.loc 215578735) .nil)) (.cons (.loc 27346712679) .nil))))))) .nil)))))
/-- deref_of -/
noncomputable def b106 : MSs := (.cons (.ite (.or (.cons (.cmp .ne (.attr (.attr (.loc 215578735) 215776629) 232585319) (.str [112, 111, 105, 110, 116, 101, 114])) (.cons (.not (.call (.glob 2241487510733015978415241834) (.cons (.loc 215578735) .nil))) .nil))) (.cons (.expr (.meth (.loc 4016836508134) 228389230 (.cons (.loc 27591751409) (.cons (.str [110, 111, 116, 95, 97, 95, 112, 111, 105, 110, 116, 101, 114]) .nil)))) (.cons (.ret (.loc 215578735)) .nil)) .nil) (.cons (.ret (.call (.glob 215578703) (.cons (.str [100, 101, 114, 101, 102]) (.cons (.loc 27591751409) (.cons (.attr (.attr (.loc 215578735) 215776629) 215822691) (.cons (.list (.cons (.loc 215578735) .nil)) (.cons .none .nil))))))) .nil))
/-- guard_code -/
noncomputable def b113 : MSs := (.cons (.setL 31085819882 (.loc 215578735)) (.cons (.whl (.cmp .eq (.attr (.loc 31085819882) 14576) (.str [103, 117, 97, 114, 100])) (.cons (.setL 31085819882 (.idx (.attr (.loc 31085819882) 244938092) (.int 0))) .nil)) (.cons (.ite (.not (.call (.glob 2241487510733015978415241834) (.cons (.loc 215578735) .nil))) (.cons (.ret (.str [110, 111, 95, 103, 117, 97, 114, 100])) .nil) .nil) (.cons (.ite (.cmp .eq (.attr (.attr (.loc 215578735) 215776629) 232585319) (.str [114, 101, 99, 111, 114, 100])) (.cons (.setL 15532894571520357920423267 (.and (.cons (.cmp .eq (.attr (.loc 31085819882) 14576) (.str [118, 97, 114])) (.cons (.cmp .eq (.attr (.attr (.loc 31085819882) 27629678967) 213644652) (.str [112, 97, 114])) .nil)))) (.cons (.ite (.and (.cons (.not (.loc 15532894571520357920423267)) (.cons (.cmp .ne (.attr (.loc 31085819882) 14576) (.str [100, 101, 114, 101, 102])) .nil))) (.cons (.ret (.str [110, 111, 95, 103, 117, 97, 114, 100])) .nil) .nil) .nil)) (.cons (.ite (.cmp .ne (.attr (.attr (.loc 215578735) 215776629) 232585319) (.str [112, 111, 105, 110, 116, 101, 114])) (.cons (.ret (.str [110, 111, 95, 103, 117, 97, 114, 100])) .nil) .nil) .nil)) (.cons (.ite (.not (.call (.glob 513673741040870) (.cons (.loc 117) (.cons (.attr (.loc 215578735) 215776629) .nil)))) (.cons (.ret (.str [110, 111, 116, 95, 97, 110, 95, 101, 120, 116, 101, 110, 115, 105, 111, 110])) .nil) .nil) (.cons (.ret (.str [])) .nil))))))
/-- guard_of -/
noncomputable def b120 : MSs := (.cons (.setL 215578724 (.call (.glob 948125258282341809000) (.cons (.loc 215578735) (.cons (.loc 117) .nil)))) (.cons (.ite (.cmp .ne (.loc 215578724) (.str [])) (.cons (.expr (.meth (.loc 4016836508134) 228389230 (.cons (.loc 27591751409) (.cons (.loc 215578724) .nil)))) (.cons (.ret (.loc 215578735)) .nil)) .nil) (.cons (.ret (.call (.glob 215578703) (.cons (.str [103, 117, 97, 114, 100]) (.cons (.loc 27591751409) (.cons (.loc 117) (.cons (.list (.cons (.loc 215578735) .nil)) (.cons (.loc 117) .nil))))))) .nil)))
/-- qualident -/
noncomputable def b127 : MSs := (.cons (.setL 30012029045 (.meth (.loc 13043) 215724399 .nil)) (.cons (.ite (.isN false (.loc 30012029045)) (.cons (.ret .none) .nil) .nil) (.cons (.setL 27346712679 (.meth (.attr (.loc 13043) 4013348893300) 213644647 (.cons (.attr (.loc 30012029045) 27629678967) .nil))) (.cons (.ite (.isN false (.loc 27346712679)) (.cons (.expr (.meth (.attr (.loc 13043) 4016836508134) 228389230 (.cons (.attr (.loc 30012029045) 27591751409) (.cons (.str [117, 110, 100, 101, 102, 105, 110, 101, 100]) .nil)))) (.cons (.ret .none) .nil)) .nil) (.cons (.ite (.cmp .ne (.attr (.loc 27346712679) 213644652) (.str [109, 111, 100, 117, 108, 101])) (.cons (.ret (.loc 27346712679)) .nil) .nil) (.cons (.ite (.not (.meth (.loc 13043) 4047148711142 (.cons (.str [46]) .nil))) (.cons (.ret .none) .nil) .nil) (.cons (.setL 31085819882 (.meth (.loc 13043) 215724399 .nil)) (.cons (.ite (.isN false (.loc 31085819882)) (.cons (.ret .none) .nil) .nil) (.cons (.setL 30049842420 (.meth (.attr (.loc 27346712679) 27629678967) 213644647 (.cons (.attr (.loc 31085819882) 27629678967) .nil))) (.cons (.ite (.isN false (.loc 30049842420)) (.cons (.expr (.meth (.attr (.loc 13043) 4016836508134) 228389230 (.cons (.attr (.loc 31085819882) 27591751409) (.cons (.str [110, 111, 116, 95, 101, 120, 112, 111, 114, 116, 101, 100]) .nil)))) .nil) .nil) (.cons (.ret (.loc 30049842420)) .nil)))))))))))
/-- selectors -/
noncomputable def b134 : MSs := (.cons (.whl (.bool true) (.cons (.setL 27591751409 (.attr (.attr (.loc 13043) 30012029045) 27591751409)) (.cons (.setL 4013084425064 (.and (.cons (.cmp .ne (.attr (.loc 215578735) 14576) (.str [99, 111, 110, 115, 116])) (.cons (.inT false (.attr (.attr (.loc 215578735) 215776629) 232585319) [[114, 101, 99, 111, 114, 100], [112, 111, 105, 110, 116, 101, 114]]) .nil)))) (.cons (.ite (.or (.cons (.inT false (.attr (.attr (.loc 13043) 30012029045) 213644652) [[46], [91], [94]]) (.cons (.and (.cons (.loc 4013084425064) (.cons (.meth (.loc 13043) 15074 (.cons (.str [40]) .nil)) .nil))) .nil))) (.cons (.expr (.meth (.loc 13043) 247263601 .nil)) .nil) .nil) (.cons (.ite (.meth (.loc 13043) 238728820 (.cons (.str [46]) .nil)) (.cons (.ite (.cmp .eq (.attr (.attr (.loc 215578735) 215776629) 232585319) (.str [112, 111, 105, 110, 116, 101, 114])) (.cons (.expr (.meth (.loc 13043) 247263601 .nil)) .nil) .nil) (.cons (.setL 215724399 (.meth (.loc 13043) 215724399 .nil)) (.cons (.ite (.isN true (.loc 215724399)) (.cons (.setL 215578735 (.call (.glob 58479752288777575) (.cons (.attr (.loc 13043) 31354289525) (.cons (.attr (.loc 13043) 4016836508134) (.cons (.loc 215578735) (.cons (.attr (.loc 215724399) 27629678967) (.cons (.loc 27591751409) .nil))))))) .nil) .nil) .nil))) (.cons (.ite (.meth (.loc 13043) 238728820 (.cons (.str [91]) .nil)) (.cons (.setL 215578735 (.call (.glob 58479757642790890) (.cons (.attr (.loc 13043) 31354289525) (.cons (.attr (.loc 13043) 4016836508134) (.cons (.loc 215578735) (.cons (.call (.loc 1031924933504939097318) (.cons (.loc 13043) .nil)) (.cons (.loc 27591751409) .nil))))))) (.cons (.whl (.meth (.loc 13043) 238728820 (.cons (.str [44]) .nil)) (.cons (.expr (.meth (.loc 13043) 247263601 .nil)) (.cons (.setL 215578735 (.call (.glob 58479757642790890) (.cons (.attr (.loc 13043) 31354289525) (.cons (.attr (.loc 13043) 4016836508134) (.cons (.loc 215578735) (.cons (.call (.loc 1031924933504939097318) (.cons (.loc 13043) .nil)) (.cons (.loc 27591751409) .nil))))))) .nil))) (.cons (.expr (.meth (.loc 13043) 4047148711142 (.cons (.str [93]) .nil))) .nil))) (.cons (.ite (.meth (.loc 13043) 238728820 (.cons (.str [94]) .nil)) (.cons (.setL 215578735 (.call (.glob 58479752811180901) (.cons (.attr (.loc 13043) 31354289525) (.cons (.attr (.loc 13043) 4016836508134) (.cons (.loc 215578735) (.cons (.loc 27591751409) .nil)))))) .nil) (.cons (.ite (.and (.cons (.loc 4013084425064) (.cons (.meth (.loc 13043) 15074 (.cons (.str [40]) .nil)) .nil))) (.cons (.setL 215578735 (.call (.glob 447734745709416) (.cons (.loc 13043) (.cons (.loc 215578735) (.cons (.loc 27591751409) .nil))))) .nil) (.cons (.ret (.loc 215578735)) .nil)) .nil)) .nil)) .nil)) .nil))))) .nil)
/-- guarded -/
noncomputable def b141 : MSs := (.cons (.expr (.meth (.loc 13043) 4047148711142 (.cons (.str [40]) .nil))) (.cons (.setL 247216372 (.attr (.attr (.loc 13043) 30012029045) 27591751409)) (.cons (.setL 27346712679 (.call (.glob 8493678047029410674) (.cons (.loc 13043) .nil))) (.cons (.ite (.isN true (.loc 27346712679)) (.cons (.ite (.cmp .ne (.attr (.loc 27346712679) 213644652) (.str [116, 121, 112, 101])) (.cons (.expr (.meth (.attr (.loc 13043) 4016836508134) 228389230 (.cons (.loc 247216372) (.cons (.str [110, 111, 116, 95, 97, 95, 116, 121, 112, 101]) .nil)))) .nil) (.cons (.setL 215578735 (.call (.glob 58479752301296488) (.cons (.attr (.loc 13043) 31354289525) (.cons (.attr (.loc 13043) 4016836508134) (.cons (.loc 215578735) (.cons (.attr (.loc 27346712679) 215776629) (.cons (.loc 27591751409) .nil))))))) .nil)) .nil) .nil) (.cons (.expr (.meth (.loc 13043) 4047148711142 (.cons (.str [41]) .nil))) (.cons (.ret (.loc 215578735)) .nil))))))
/-- ErrorList.__init__ -/
noncomputable def b155 : MSs := (.cons (.setA (.loc 217805684) 245250163 (.list .nil)) (.cons (.setA (.loc 217805684) 4013321402097 .dict0) .nil))
/-- ErrorList.mark -/
noncomputable def b162 : MSs := (.cons (.ite (.cmp .ni (.loc 27591751409) (.attr (.loc 217805684) 4013321402097)) (.cons (.setI (.attr (.loc 217805684) 4013321402097) (.loc 27591751409) (.loc 215578724)) (.cons (.expr (.meth (.attr (.loc 217805684) 245250163) 3500345686242 (.cons (.tup (.cons (.loc 27591751409) (.cons (.loc 215578724) .nil))) .nil))) .nil)) .nil) .nil)
/-- Token.__init__ -/
noncomputable def b197 : MSs := (.cons (.setA (.loc 217805684) 213644652 (.loc 213644652)) (.cons (.setA (.loc 217805684) 27629678967 (.loc 27629678967)) (.cons (.setA (.loc 217805684) 27591751409 (.loc 27591751409)) .nil)))
/-- keywords -/
noncomputable def b211 : MSs := (.cons (.ret (.tup (.cons (.str [65, 82, 82, 65, 89]) (.cons (.str [66, 69, 71, 73, 78]) (.cons (.str [66, 89]) (.cons (.str [67, 65, 83, 69]) (.cons (.str [67, 79, 78, 83, 84]) (.cons (.str [68, 73, 86]) (.cons (.str [68, 79]) (.cons (.str [69, 76, 83, 69]) (.cons (.str [69, 76, 83, 73, 70]) (.cons (.str [69, 78, 68]) (.cons (.str [70, 79, 82]) (.cons (.str [73, 70]) (.cons (.str [73, 77, 80, 79, 82, 84]) (.cons (.str [73, 78]) (.cons (.str [73, 83]) (.cons (.str [77, 79, 68]) (.cons (.str [77, 79, 68, 85, 76, 69]) (.cons (.str [78, 73, 76]) (.cons (.str [79, 70]) (.cons (.str [79, 82]) (.cons (.str [80, 79, 73, 78, 84, 69, 82]) (.cons (.str [80, 82, 79, 67, 69, 68, 85, 82, 69]) (.cons (.str [82, 69, 67, 79, 82, 68]) (.cons (.str [82, 69, 80, 69, 65, 84]) (.cons (.str [82, 69, 84, 85, 82, 78]) (.cons (.str [84, 72, 69, 78]) (.cons (.str [84, 79]) (.cons (.str [84, 89, 80, 69]) (.cons (.str [85, 78, 84, 73, 76]) (.cons (.str [86, 65, 82]) (.cons (.str [87, 72, 73, 76, 69]) .nil))))))))))))))))))))))))))))))))) .nil)
/-- is_letter -/
noncomputable def b218 : MSs := (.cons (.ret (.or (.cons (.and (.cons (.cmp .le (.str [97]) (.loc 242791652)) (.cons (.cmp .le (.loc 242791652) (.str [122])) .nil))) (.cons (.and (.cons (.cmp .le (.str [65]) (.loc 242791652)) (.cons (.cmp .le (.loc 242791652) (.str [90])) .nil))) .nil)))) .nil)
/-- is_digit -/
noncomputable def b225 : MSs := (.cons (.ret (.and (.cons (.cmp .le (.str [48]) (.loc 242791652)) (.cons (.cmp .le (.loc 242791652) (.str [57])) .nil)))) .nil)
/-- is_hex_digit -/
noncomputable def b232 : MSs := (.cons (.ret (.or (.cons (.call (.glob 66334939560819306) (.cons (.loc 242791652) .nil)) (.cons (.and (.cons (.cmp .le (.str [65]) (.loc 242791652)) (.cons (.cmp .le (.loc 242791652) (.str [70])) .nil))) .nil)))) .nil)
/-- digits_value -/
noncomputable def b239 : MSs := (.cons (.setL 27629678967 (.int 0)) (.cons (.forI 31630964069 (.loc 4017360614757) (.cons (.setL 27629678967 (.bin .add (.bin .mul (.loc 27629678967) (.loc 215822691)) (.meth (.str [48, 49, 50, 51, 52, 53, 54, 55, 56, 57, 65, 66, 67, 68, 69, 70]) 213644647 (.cons (.loc 31630964069) .nil)))) (.cons (.ite (.cmp .gt (.loc 27629678967) (.loc 247281774)) (.cons (.ret (.bin .add (.loc 247281774) (.int 1))) .nil) .nil) .nil))) (.cons (.ret (.loc 27629678967)) .nil)))
/-- Scanner.__init__ -/
noncomputable def b253 : MSs := (.cons (.setA (.loc 217805684) 3531779979380 (.loc 3531779979380)) (.cons (.setA (.loc 217805684) 4016836508134 (.loc 4016836508134)) (.cons (.setA (.loc 217805684) 27591751409 (.int 0)) (.cons (.setA (.loc 217805684) 31352223864 (.call (.glob 65750378982847340) .nil)) .nil))))
/-- Scanner.char -/
noncomputable def b261 : MSs := (.cons (.ret (.slc (.attr (.loc 217805684) 3531779979380) (.bin .add (.attr (.loc 217805684) 27591751409) (.loc 27319186658)) (.bin .add (.bin .add (.attr (.loc 217805684) 27591751409) (.loc 27319186658)) (.int 1)))) .nil)
/-- Scanner.take -/
noncomputable def b268 : MSs := (.cons (.whl (.bool true) (.cons (.expr (.meth (.loc 217805684) 238728820 .nil)) (.cons (.setL 30045516643 (.attr (.loc 217805684) 27591751409)) (.cons (.setL 242791652 (.meth (.loc 217805684) 242791652 .nil)) (.cons (.ite (.cmp .eq (.loc 242791652) (.str [])) (.cons (.ret (.call (.glob 30012029013) (.cons (.str [101, 111, 102]) (.cons (.str []) (.cons (.loc 30045516643) .nil))))) .nil) .nil) (.cons (.ite (.call (.glob 8344562828752468586) (.cons (.loc 242791652) .nil)) (.cons (.ret (.meth (.loc 217805684) 213710968 (.cons (.loc 30045516643) .nil))) .nil) .nil) (.cons (.ite (.call (.glob 66334939560819306) (.cons (.loc 242791652) .nil)) (.cons (.ret (.meth (.loc 217805684) 482785409874799 (.cons (.loc 30045516643) .nil))) .nil) .nil) (.cons (.ite (.cmp .eq (.loc 242791652) (.str [34])) (.cons (.ret (.meth (.loc 217805684) 3603433323252 (.cons (.loc 30045516643) .nil))) .nil) .nil) (.cons (.setL 3775485689204 (.meth (.loc 217805684) 3775485689204 .nil)) (.cons (.ite (.cmp .ne (.loc 3775485689204) (.str [])) (.cons (.setA (.loc 217805684) 27591751409 (.bin .add (.loc 30045516643) (.bi .len (.cons (.loc 3775485689204) .nil)))) (.cons (.ret (.call (.glob 30012029013) (.cons (.loc 3775485689204) (.cons (.str []) (.cons (.loc 30045516643) .nil))))) .nil)) .nil) (.cons (.expr (.meth (.attr (.loc 217805684) 4016836508134) 228389230 (.cons (.loc 30045516643) (.cons (.str [98, 97, 100, 95, 99, 104, 97, 114, 97, 99, 116, 101, 114]) .nil)))) (.cons (.setA (.loc 217805684) 27591751409 (.bin .add (.loc 30045516643) (.int 1))) .nil)))))))))))) .nil)
/-- Scanner.skip -/
noncomputable def b275 : MSs := (.cons (.whl (.bool true) (.cons (.setL 242791652 (.meth (.loc 217805684) 242791652 .nil)) (.cons (.ite (.and (.cons (.cmp .eq (.loc 242791652) (.str [40])) (.cons (.cmp .eq (.meth (.loc 217805684) 242791652 (.cons (.int 1) .nil)) (.str [42])) .nil))) (.cons (.expr (.meth (.loc 217805684) 3741929157491 .nil)) .nil) (.cons (.ite (.and (.cons (.cmp .ne (.loc 242791652) (.str [])) (.cons (.cmp .le (.bi .ord (.cons (.loc 242791652) .nil)) (.int 32)) .nil))) (.cons (.setA (.loc 217805684) 27591751409 (.bin .add (.attr (.loc 217805684) 27591751409) (.int 1))) .nil) (.cons (.ret .none) .nil)) .nil)) .nil))) .nil)
/-- Scanner.word -/
noncomputable def b289 : MSs := (.cons (.setL 1669094 (.loc 30045516643)) (.cons (.whl (.or (.cons (.call (.glob 8344562828752468586) (.cons (.slc (.attr (.loc 217805684) 3531779979380) (.loc 1669094) (.bin .add (.loc 1669094) (.int 1))) .nil)) (.cons (.call (.glob 66334939560819306) (.cons (.slc (.attr (.loc 217805684) 3531779979380) (.loc 1669094) (.bin .add (.loc 1669094) (.int 1))) .nil)) .nil))) (.cons (.setL 1669094 (.bin .add (.loc 1669094) (.int 1))) .nil)) (.cons (.setA (.loc 217805684) 27591751409 (.loc 1669094)) (.cons (.setL 215724399 (.slc (.attr (.loc 217805684) 3531779979380) (.loc 30045516643) (.loc 1669094))) (.cons (.ite (.cmp .in_ (.loc 215724399) (.attr (.loc 217805684) 31352223864)) (.cons (.ret (.call (.glob 30012029013) (.cons (.loc 215724399) (.cons (.str []) (.cons (.loc 30045516643) .nil))))) .nil) .nil) (.cons (.ret (.call (.glob 30012029013) (.cons (.str [105, 100, 101, 110, 116]) (.cons (.loc 215724399) (.cons (.loc 30045516643) .nil))))) .nil))))))
/-- Scanner.numeral -/
noncomputable def b296 : MSs := (.cons (.setL 1669094 (.loc 30045516643)) (.cons (.whl (.call (.glob 17806649749741141086452330) (.cons (.slc (.attr (.loc 217805684) 3531779979380) (.loc 1669094) (.bin .add (.loc 1669094) (.int 1))) .nil)) (.cons (.setL 1669094 (.bin .add (.loc 1669094) (.int 1))) .nil)) (.cons (.setL 4017360614757 (.slc (.attr (.loc 217805684) 3531779979380) (.loc 30045516643) (.loc 1669094))) (.cons (.setL 3603433093094 (.slc (.attr (.loc 217805684) 3531779979380) (.loc 1669094) (.bin .add (.loc 1669094) (.int 1)))) (.cons (.ite (.or (.cons (.cmp .eq (.loc 3603433093094) (.str [72])) (.cons (.cmp .eq (.loc 3603433093094) (.str [88])) .nil))) (.cons (.setA (.loc 217805684) 27591751409 (.bin .add (.loc 1669094) (.int 1))) (.cons (.ite (.cmp .eq (.loc 3603433093094) (.str [72])) (.cons (.ret (.meth (.loc 217805684) 129596363569185498755945 (.cons (.loc 30045516643) (.cons (.loc 4017360614757) .nil)))) .nil) .nil) (.cons (.ret (.meth (.loc 217805684) 8344562243575788772 (.cons (.loc 30045516643) (.cons (.loc 4017360614757) .nil)))) .nil))) .nil) (.cons (.setL 1669094 (.loc 30045516643)) (.cons (.whl (.call (.glob 66334939560819306) (.cons (.slc (.attr (.loc 217805684) 3531779979380) (.loc 1669094) (.bin .add (.loc 1669094) (.int 1))) .nil)) (.cons (.setL 1669094 (.bin .add (.loc 1669094) (.int 1))) .nil)) (.cons (.setA (.loc 217805684) 27591751409 (.loc 1669094)) (.cons (.ite (.and (.cons (.cmp .eq (.meth (.loc 217805684) 242791652 .nil) (.str [46])) (.cons (.cmp .ne (.meth (.loc 217805684) 242791652 (.cons (.int 1) .nil)) (.str [46])) .nil))) (.cons (.ret (.meth (.loc 217805684) 230208371 (.cons (.loc 30045516643) .nil))) .nil) .nil) (.cons (.setL 27629678967 (.call (.glob 15554126487944683681625445) (.cons (.slc (.attr (.loc 217805684) 3531779979380) (.loc 30045516643) (.loc 1669094)) (.cons (.int 10) (.cons (.glob 12625915966970992962906190) .nil))))) (.cons (.ret (.meth (.loc 217805684) 27610854648 (.cons (.loc 30045516643) (.cons (.loc 27629678967) (.cons (.glob 12625915966970992962906190) .nil))))) .nil)))))))))))
/-- Scanner.whole -/
noncomputable def b303 : MSs := (.cons (.ite (.cmp .gt (.loc 27629678967) (.loc 247281774)) (.cons (.expr (.meth (.attr (.loc 217805684) 4016836508134) 228389230 (.cons (.loc 30045516643) (.cons (.str [110, 117, 109, 98, 101, 114, 95, 116, 111, 111, 95, 108, 97, 114, 103, 101]) .nil)))) (.cons (.setL 27629678967 (.int 0)) .nil)) .nil) (.cons (.ret (.call (.glob 30012029013) (.cons (.str [105, 110, 116]) (.cons (.loc 27629678967) (.cons (.loc 30045516643) .nil))))) .nil))
/-- Scanner.symbol -/
noncomputable def b345 : MSs := (.cons (.setL 242921841 (.bin .add (.meth (.loc 217805684) 242791652 .nil) (.meth (.loc 217805684) 242791652 (.cons (.int 1) .nil)))) (.cons (.ite (.inT false (.loc 242921841) [[58, 61], [60, 61], [62, 61], [46, 46]]) (.cons (.ret (.loc 242921841)) .nil) .nil) (.cons (.ite (.cmp .in_ (.meth (.loc 217805684) 242791652 .nil) (.str [43, 45, 42, 47, 126, 38, 46, 44, 59, 124, 40, 91, 123, 94, 61, 35, 60, 62, 58, 41, 93, 125])) (.cons (.ret (.meth (.loc 217805684) 242791652 .nil)) .nil) .nil) (.cons (.ret (.str [])) .nil))))
/-- Type.__init__ -/
noncomputable def b366 : MSs := (.cons (.setA (.loc 217805684) 3978959764335 (.loc 3978959764335)) (.cons (.setA (.loc 217805684) 232585319 (.loc 232585319)) (.cons (.setA (.loc 217805684) 215938420 (.loc 215938420)) (.cons (.setA (.loc 217805684) 215822691 .none) (.cons (.setA (.loc 217805684) 3639399412589 (.int 0)) (.cons (.setA (.loc 217805684) 4013071906151 (.list .nil)) (.cons (.setA (.loc 217805684) 29475337069 (.int 0)) (.cons (.setA (.loc 217805684) 4015464968561 (.list .nil)) (.cons (.setA (.loc 217805684) 3534201911406 (.str [])) (.cons (.setA (.loc 217805684) 29475008877 (.str [])) (.cons (.setA (.loc 217805684) 3841524856169 (.list .nil)) (.cons (.setA (.loc 217805684) 236715238 (.int 0)) .nil))))))))))))
/-- Obj.__init__ -/
noncomputable def b387 : MSs := (.cons (.setA (.loc 217805684) 215724399 (.loc 215724399)) (.cons (.setA (.loc 217805684) 213644652 (.loc 213644652)) (.cons (.setA (.loc 217805684) 215776629 (.loc 456873066921333)) (.cons (.setA (.loc 217805684) 27591751409 (.loc 27591751409)) (.cons (.setA (.loc 217805684) 57310597235899622 (.bool false)) (.cons (.setA (.loc 217805684) 69163125596271475 (.bool false)) (.cons (.setA (.loc 217805684) 29475337069 (.int 0)) (.cons (.setA (.loc 217805684) 3534201911406 (.str [])) (.cons (.setA (.loc 217805684) 27629678967 .none) (.cons (.setA (.loc 217805684) 247215860 (.int 0)) (.cons (.setA (.loc 217805684) 4047714776048 (.int 0)) (.cons (.setA (.loc 217805684) 3978959764335 (.int 0)) (.cons (.setA (.loc 217805684) 487183448046186 (.bool false)) (.cons (.setA (.loc 217805684) 57310699516129647 .none) .nil))))))))))))))
/-- Types.__init__ -/
noncomputable def b408 : MSs := (.cons (.setA (.loc 217805684) 509311683770468 (.int 0)) (.cons (.setA (.loc 217805684) 30049843180 .dict0) (.cons (.setA (.loc 217805684) 491578027948131 (.meth (.loc 217805684) 1979247 (.cons (.str [98, 111, 111, 108, 101, 97, 110]) (.cons (.int 1) .nil)))) (.cons (.setA (.loc 217805684) 242791652 (.meth (.loc 217805684) 1979247 (.cons (.str [99, 104, 97, 114]) (.cons (.int 1) .nil)))) (.cons (.setA (.loc 217805684) 215842147 (.meth (.loc 217805684) 1979247 (.cons (.str [98, 121, 116, 101]) (.cons (.int 1) .nil)))) (.cons (.setA (.loc 217805684) 509308175218666 (.meth (.loc 217805684) 1979247 (.cons (.str [105, 110, 116, 101, 103, 101, 114]) (.cons (.int 4) .nil)))) (.cons (.setA (.loc 217805684) 228405614 (.meth (.loc 217805684) 1979247 (.cons (.str [115, 101, 116]) (.cons (.int 4) .nil)))) (.cons (.setA (.loc 217805684) 1799535 (.meth (.loc 217805684) 1979247 (.cons (.str [110, 105, 108]) (.cons (.int 4) .nil)))) (.cons (.setA (.loc 217805684) 215742575 (.meth (.loc 217805684) 1979247 (.cons (.str [110, 111, 110, 101]) (.cons (.int 0) .nil)))) .nil)))))))))
/-- Types.new -/
noncomputable def b416 : MSs := (.cons (.augA (.loc 217805684) 509311683770468 (.int 1)) (.cons (.setL 215576942 (.call (.glob 215776597) (.cons (.attr (.loc 217805684) 509311683770468) (.cons (.loc 232585319) (.cons (.loc 215938420) .nil))))) (.cons (.setA (.loc 215576942) 3534201911406 (.loc 3534201911406)) (.cons (.setA (.loc 215576942) 29475008877 (.loc 29475008877)) (.cons (.ite (.cmp .ne (.loc 29475008877) (.str [])) (.cons (.setI (.attr (.loc 217805684) 30049843180) (.tup (.cons (.loc 3534201911406) (.cons (.loc 29475008877) .nil))) (.loc 215576942)) .nil) .nil) (.cons (.ret (.loc 215576942)) .nil))))))
/-- Scope.__init__ -/
noncomputable def b444 : MSs := (.cons (.setA (.loc 217805684) 29475337069 (.loc 29475337069)) (.cons (.setA (.loc 217805684) 29475008877 (.loc 29475008877)) (.cons (.setA (.loc 217805684) 31354237295 .dict0) (.cons (.setA (.loc 217805684) 31085656560 (.list .nil)) (.cons (.setA (.loc 217805684) 31385728756 (.int 0)) .nil)))))
/-- Scopes.__init__ -/
noncomputable def b465 : MSs := (.cons (.setA (.loc 217805684) 31354289525 (.loc 31354289525)) (.cons (.setA (.loc 217805684) 3534201911406 (.loc 3534201911406)) (.cons (.setA (.loc 217805684) 29202365172 (.list (.cons (.call (.glob 27619242580) (.cons (.neg 1) (.cons (.str []) .nil))) .nil))) (.cons (.setA (.loc 217805684) 29475337069 (.neg 1)) .nil))))
/-- Scopes.open -/
noncomputable def b472 : MSs := (.cons (.setL 27619242612 (.call (.glob 27619242580) (.cons (.bin .add (.attr (.loc 217805684) 29475337069) (.int 1)) (.cons (.loc 29475008877) .nil)))) (.cons (.expr (.meth (.attr (.loc 217805684) 29202365172) 3500345686242 (.cons (.loc 27619242612) .nil))) (.cons (.setA (.loc 217805684) 29475337069 (.attr (.loc 27619242612) 29475337069)) (.cons (.ret (.loc 27619242612)) .nil))))
/-- Scopes.add -/
noncomputable def b493 : MSs := (.cons (.setL 27619242612 (.idx (.attr (.loc 217805684) 29202365172) (.neg 1))) (.cons (.ite (.cmp .in_ (.attr (.loc 1765872) 215724399) (.attr (.loc 27619242612) 31354237295)) (.cons (.ret (.bool false)) .nil) .nil) (.cons (.setI (.attr (.loc 27619242612) 31354237295) (.attr (.loc 1765872) 215724399) (.loc 1765872)) (.cons (.expr (.meth (.attr (.loc 27619242612) 31085656560) 3500345686242 (.cons (.loc 1765872) .nil))) (.cons (.ite (.or (.cons (.cmp .eq (.attr (.loc 1765872) 213644652) (.str [118, 97, 114])) (.cons (.cmp .eq (.attr (.loc 1765872) 213644652) (.str [112, 97, 114])) .nil))) (.cons (.setA (.loc 1765872) 247215860 (.attr (.loc 27619242612) 31385728756)) (.cons (.augA (.loc 27619242612) 31385728756 (.int 1)) .nil)) .nil) (.cons (.ret (.bool true)) .nil))))))
/-- Scopes.insert -/
noncomputable def b500 : MSs := (.cons (.setL 1765872 (.call (.glob 1765840) (.cons (.loc 215724399) (.cons (.loc 213644652) (.cons (.loc 117) (.cons (.loc 27591751409) .nil)))))) (.cons (.setA (.loc 1765872) 29475337069 (.bi .max (.cons (.attr (.loc 217805684) 29475337069) (.cons (.int 0) .nil)))) (.cons (.ite (.cmp .ge (.attr (.loc 217805684) 29475337069) (.int 0)) (.cons (.setA (.loc 1765872) 3534201911406 (.attr (.loc 217805684) 3534201911406)) .nil) .nil) (.cons (.ite (.not (.meth (.loc 217805684) 1667810 (.cons (.loc 1765872) .nil))) (.cons (.ret .none) .nil) .nil) (.cons (.ret (.loc 1765872)) .nil)))))
/-- Scopes.find -/
noncomputable def b507 : MSs := (.cons (.forV 27619242612 (.attr (.loc 217805684) 29202365172) (.cons (.ite (.cmp .in_ (.loc 215724399) (.attr (.loc 27619242612) 31354237295)) (.cons (.ret (.idx (.attr (.loc 27619242612) 31354237295) (.loc 215724399))) .nil) .nil) .nil)) (.cons (.ret .none) .nil))
/-- std_functions -/
noncomputable def b521 : MSs := (.cons (.ret (.tup (.cons (.str [65, 66, 83]) (.cons (.str [79, 68, 68]) (.cons (.str [76, 69, 78]) (.cons (.str [76, 83, 76]) (.cons (.str [65, 83, 82]) (.cons (.str [82, 79, 82]) (.cons (.str [79, 82, 68]) (.cons (.str [67, 72, 82]) .nil)))))))))) .nil)
/-- std_procedures -/
noncomputable def b528 : MSs := (.cons (.ret (.tup (.cons (.str [73, 78, 67]) (.cons (.str [68, 69, 67]) (.cons (.str [73, 78, 67, 76]) (.cons (.str [69, 88, 67, 76]) (.cons (.str [78, 69, 87]) (.cons (.str [65, 83, 83, 69, 82, 84]) .nil)))))))) .nil)
/-- fill -/
noncomputable def b535 : MSs := (.cons (.setL 31354289525 (.attr (.loc 4013348893300) 31354289525)) (.cons (.expr (.meth (.loc 4013348893300) 4051175290858 (.cons (.str [66, 79, 79, 76, 69, 65, 78]) (.cons (.str [116, 121, 112, 101]) (.cons (.attr (.loc 31354289525) 491578027948131) (.cons (.int 0) .nil)))))) (.cons (.expr (.meth (.loc 4013348893300) 4051175290858 (.cons (.str [67, 72, 65, 82]) (.cons (.str [116, 121, 112, 101]) (.cons (.attr (.loc 31354289525) 242791652) (.cons (.int 0) .nil)))))) (.cons (.expr (.meth (.loc 4013348893300) 4051175290858 (.cons (.str [66, 89, 84, 69]) (.cons (.str [116, 121, 112, 101]) (.cons (.attr (.loc 31354289525) 215842147) (.cons (.int 0) .nil)))))) (.cons (.expr (.meth (.loc 4013348893300) 4051175290858 (.cons (.str [73, 78, 84, 69, 71, 69, 82]) (.cons (.str [116, 121, 112, 101]) (.cons (.attr (.loc 31354289525) 509308175218666) (.cons (.int 0) .nil)))))) (.cons (.expr (.meth (.loc 4013348893300) 4051175290858 (.cons (.str [83, 69, 84]) (.cons (.str [116, 121, 112, 101]) (.cons (.attr (.loc 31354289525) 228405614) (.cons (.int 0) .nil)))))) (.cons (.setA (.meth (.loc 4013348893300) 4051175290858 (.cons (.str [70, 65, 76, 83, 69]) (.cons (.str [99, 111, 110, 115, 116]) (.cons (.attr (.loc 31354289525) 491578027948131) (.cons (.int 0) .nil))))) 27629678967 (.int 0)) (.cons (.setA (.meth (.loc 4013348893300) 4051175290858 (.cons (.str [84, 82, 85, 69]) (.cons (.str [99, 111, 110, 115, 116]) (.cons (.attr (.loc 31354289525) 491578027948131) (.cons (.int 0) .nil))))) 27629678967 (.int 1)) (.cons (.forI 215724399 (.bin .add (.call (.glob 2260673379378386747969338100) .nil) (.call (.glob 289192574609254745411296000756) .nil)) (.cons (.setA (.meth (.loc 4013348893300) 4051175290858 (.cons (.loc 215724399) (.cons (.str [115, 116, 100]) (.cons (.attr (.loc 31354289525) 215742575) (.cons (.int 0) .nil))))) 27629678967 (.loc 215724399)) .nil)) .nil)))))))))
/-- Reader.__init__ -/
noncomputable def b550 : MSs := (.cons (.setA (.loc 217805684) 509310072828532 (.call (.glob 509310072828500) (.cons (.loc 3531779979380) (.cons (.loc 4016836508134) .nil)))) (.cons (.setA (.loc 217805684) 31354289525 (.loc 31354289525)) (.cons (.setA (.loc 217805684) 4016836508134 (.loc 4016836508134)) (.cons (.setA (.loc 217805684) 65191896583796586 (.loc 65191896583796586)) (.cons (.setA (.loc 217805684) 4013348893300 (.call (.glob 4013348893268) (.cons (.loc 31354289525) (.cons (.str []) .nil)))) (.cons (.expr (.call (.glob 230389095) (.cons (.attr (.loc 217805684) 4013348893300) .nil))) (.cons (.setA (.loc 217805684) 3534201911406 (.str [])) (.cons (.setA (.loc 217805684) 31350077937 (.list .nil)) (.cons (.setA (.loc 217805684) 513674835473267 (.list .nil)) (.cons (.setA (.loc 217805684) 65750375224637543 (.list .nil)) (.cons (.setA (.loc 217805684) 29475337069 (.int 0)) (.cons (.setA (.loc 217805684) 247280495 (.int 0)) (.cons (.setA (.loc 217805684) 31385776497 (.int 0)) (.cons (.setA (.loc 217805684) 30012029045 (.meth (.attr (.loc 217805684) 509310072828532) 215691637 .nil)) .nil))))))))))))))
/-- Reader.step -/
noncomputable def b557 : MSs := (.cons (.setL 30012029045 (.attr (.loc 217805684) 30012029045)) (.cons (.setA (.loc 217805684) 30012029045 (.meth (.attr (.loc 217805684) 509310072828532) 215691637 .nil)) (.cons (.ret (.loc 30012029045)) .nil)))
/-- Reader.at -/
noncomputable def b564 : MSs := (.cons (.ret (.cmp .eq (.attr (.attr (.loc 217805684) 30012029045) 213644652) (.loc 213644652))) .nil)
/-- Reader.skip -/
noncomputable def b571 : MSs := (.cons (.ite (.cmp .ne (.attr (.attr (.loc 217805684) 30012029045) 213644652) (.loc 213644652)) (.cons (.ret (.bool false)) .nil) .nil) (.cons (.expr (.meth (.loc 217805684) 238664436 .nil)) (.cons (.ret (.bool true)) .nil)))
/-- Reader.expect -/
noncomputable def b578 : MSs := (.cons (.ite (.meth (.loc 217805684) 238728820 (.cons (.loc 213644652) .nil)) (.cons (.ret (.bool true)) .nil) .nil) (.cons (.setL 215724399 (.loc 213644652)) (.cons (.ite (.cmp .eq (.loc 213644652) (.str [105, 100, 101, 110, 116])) (.cons (.setL 215724399 (.str [105, 100, 101, 110, 116, 105, 102, 105, 101, 114])) .nil) .nil) (.cons (.expr (.meth (.loc 217805684) 228389230 (.cons (.bin .add (.str [101, 120, 112, 101, 99, 116, 101, 100, 32]) (.loc 215724399)) .nil))) (.cons (.ret (.bool false)) .nil)))))
/-- Reader.mark -/
noncomputable def b585 : MSs := (.cons (.expr (.meth (.attr (.loc 217805684) 4016836508134) 228389230 (.cons (.attr (.attr (.loc 217805684) 30012029045) 27591751409) (.cons (.loc 215578724) .nil)))) .nil)
/-- Reader.name -/
noncomputable def b592 : MSs := (.cons (.ite (.meth (.loc 217805684) 15074 (.cons (.str [105, 100, 101, 110, 116]) .nil)) (.cons (.ret (.meth (.loc 217805684) 238664436 .nil)) .nil) .nil) (.cons (.expr (.meth (.loc 217805684) 228389230 (.cons (.str [101, 120, 112, 101, 99, 116, 101, 100, 32, 105, 100, 101, 110, 116, 105, 102, 105, 101, 114]) .nil))) (.cons (.ret .none) .nil)))
/-- Reader.give_up -/
noncomputable def b599 : MSs := (.cons (.expr (.meth (.loc 217805684) 228389230 (.cons (.str [116, 111, 111, 95, 100, 101, 101, 112]) .nil))) (.cons (.expr (.meth (.loc 217805684) 496627307165300 (.cons (.tup .nil) .nil))) .nil))
/-- Reader.part -/
noncomputable def b620 : MSs := (.cons (.augA (.loc 217805684) 31385776497 (.int 1)) (.cons (.ite (.cmp .gt (.attr (.loc 217805684) 31385776497) (.glob 780935164515317000270)) (.cons (.expr (.meth (.loc 217805684) 501059690558824 .nil)) .nil) .nil) .nil))
/-- Reader.skip_to -/
noncomputable def b627 : MSs := (.cons (.whl (.and (.cons (.cmp .ni (.attr (.attr (.loc 217805684) 30012029045) 213644652) (.loc 31352157548)) (.cons (.cmp .ne (.attr (.attr (.loc 217805684) 30012029045) 213644652) (.str [101, 111, 102])) .nil))) (.cons (.expr (.meth (.loc 217805684) 238664436 .nil)) .nil)) .nil)
/-- _law_take -/
noncomputable def b641 : MSs := (.cons (.unp 1980531 15074 (.loc 27627404020)) (.cons (.setI (.loc 27627404020) (.int 1) (.bin .add (.loc 15074) (.int 1))) (.cons (.ite (.eqNil false (.loc 1980531)) (.cons (.ret (.int 0)) .nil) .nil) (.cons (.ret (.bin .mod (.bin .fdiv (.bi .abs (.cons (.idx (.loc 1980531) (.bin .mod (.loc 15074) (.bi .len (.cons (.loc 1980531) .nil)))) .nil)) (.bin .pow (.int 7) (.bin .fdiv (.loc 15074) (.bi .len (.cons (.loc 1980531) .nil))))) (.loc 247281774))) .nil))))
/-- _law_index -/
noncomputable def b648 : MSs := (.cons (.setL 30012029045 (.meth (.loc 13043) 238664436 .nil)) (.cons (.ret (.call (.glob 215578703) (.cons (.str [99, 111, 110, 115, 116]) (.cons (.attr (.loc 30012029045) 27591751409) (.cons (.attr (.attr (.loc 13043) 31354289525) 509308175218666) (.cons (.list .nil) (.cons (.ite (.cmp .eq (.attr (.loc 30012029045) 213644652) (.str [105, 110, 116])) (.attr (.loc 30012029045) 27629678967) (.int 0)) .nil))))))) .nil))
noncomputable def fnT : List (Nat × FnI) := [(36, ⟨[217805684, 14576, 27591751409, 456873066921333, 244938092, 27629678967], [.none], b36⟩),
  (50, ⟨[215578735], [], b50⟩),
  (57, ⟨[98, 99], [], b57⟩),
  (64, ⟨[117], [], b64⟩),
  (71, ⟨[117], [], b71⟩),
  (78, ⟨[98, 99], [], b78⟩),
  (85, ⟨[31354289525, 4016836508134, 215578735, 32696268778, 27591751409], [], b85⟩),
  (92, ⟨[3501440185203, 215724399], [], b92⟩),
  (99, ⟨[31354289525, 4016836508134, 215578735, 215724399, 27591751409], [], b99⟩),
  (106, ⟨[31354289525, 4016836508134, 215578735, 27591751409], [], b106⟩),
  (113, ⟨[215578735, 117], [], b113⟩),
  (120, ⟨[31354289525, 4016836508134, 215578735, 117, 27591751409], [], b120⟩),
  (127, ⟨[13043], [], b127⟩),
  (134, ⟨[13043, 215578735, 1031924933504939097318], [], b134⟩),
  (141, ⟨[13043, 215578735, 27591751409], [], b141⟩),
  (155, ⟨[217805684], [], b155⟩),
  (162, ⟨[217805684, 27591751409, 215578724], [], b162⟩),
  (197, ⟨[217805684, 213644652, 27629678967, 27591751409], [], b197⟩),
  (211, ⟨[], [], b211⟩),
  (218, ⟨[242791652], [], b218⟩),
  (225, ⟨[242791652], [], b225⟩),
  (232, ⟨[242791652], [], b232⟩),
  (239, ⟨[4017360614757, 215822691, 247281774], [], b239⟩),
  (253, ⟨[217805684, 3531779979380, 4016836508134], [], b253⟩),
  (261, ⟨[217805684, 27319186658], [(.int 0)], b261⟩),
  (268, ⟨[217805684], [], b268⟩),
  (275, ⟨[217805684], [], b275⟩),
  (289, ⟨[217805684, 30045516643], [], b289⟩),
  (296, ⟨[217805684, 30045516643], [], b296⟩),
  (303, ⟨[217805684, 30045516643, 27629678967, 247281774], [], b303⟩),
  (345, ⟨[217805684], [], b345⟩),
  (366, ⟨[217805684, 3978959764335, 232585319, 215938420], [], b366⟩),
  (387, ⟨[217805684, 215724399, 213644652, 456873066921333, 27591751409], [], b387⟩),
  (408, ⟨[217805684], [], b408⟩),
  (416, ⟨[217805684, 232585319, 215938420, 3534201911406, 29475008877], [(.str []), (.str [])], b416⟩),
  (444, ⟨[217805684, 29475337069, 29475008877], [], b444⟩),
  (465, ⟨[217805684, 31354289525, 3534201911406], [], b465⟩),
  (472, ⟨[217805684, 29475008877], [], b472⟩),
  (493, ⟨[217805684, 1765872], [], b493⟩),
  (500, ⟨[217805684, 215724399, 213644652, 117, 27591751409], [], b500⟩),
  (507, ⟨[217805684, 215724399], [], b507⟩),
  (521, ⟨[], [], b521⟩),
  (528, ⟨[], [], b528⟩),
  (535, ⟨[4013348893300], [], b535⟩),
  (550, ⟨[217805684, 3531779979380, 31354289525, 4016836508134, 65191896583796586], [.none], b550⟩),
  (557, ⟨[217805684], [], b557⟩),
  (564, ⟨[217805684, 213644652], [], b564⟩),
  (571, ⟨[217805684, 213644652], [], b571⟩),
  (578, ⟨[217805684, 213644652], [], b578⟩),
  (585, ⟨[217805684, 215578724], [], b585⟩),
  (592, ⟨[217805684], [], b592⟩),
  (599, ⟨[217805684], [], b599⟩),
  (620, ⟨[217805684], [], b620⟩),
  (627, ⟨[217805684, 31352157548], [], b627⟩),
  (641, ⟨[27627404020, 247281774], [], b641⟩),
  (648, ⟨[13043], [], b648⟩)]
noncomputable def initT : List (Nat × Nat) := [(39, 36), (179, 155), (200, 197), (348, 253), (369, 366), (390, 387), (426, 408), (447, 444), (510, 465), (630, 550)]
noncomputable def methT : List (Nat × Nat × Nat × Str) := [(179, 228389230, 162, Str.ofString "mark"), (348, 242791652, 261, Str.ofString "char"), (348, 215691637, 268, Str.ofString "take"), (348, 238728820, 275, Str.ofString "skip"), (348, 213710968, 289, Str.ofString "word"), (348, 482785409874799, 296, Str.ofString "numeral"), (348, 27610854648, 303, Str.ofString "whole"), (348, 3775485689204, 345, Str.ofString "symbol"), (426, 1979247, 416, Str.ofString "new"), (510, 234469616, 472, Str.ofString "open"), (510, 1667810, 493, Str.ofString "add"), (510, 4051175290858, 500, Str.ofString "insert"), (510, 213644647, 507, Str.ofString "find"), (630, 238664436, 557, Str.ofString "step"), (630, 15074, 564, Str.ofString "at"), (630, 238728820, 571, Str.ofString "skip"), (630, 4047148711142, 578, Str.ofString "expect"), (630, 228389230, 585, Str.ofString "mark"), (630, 215724399, 592, Str.ofString "name"), (630, 501059690558824, 599, Str.ofString "give_up"), (630, 247263601, 620, Str.ofString "part"), (630, 496627307165300, 627, Str.ofString "skip_to")]
noncomputable def fldT : List (Nat × Nat × Str) := [(39, 14576, Str.ofString "op"), (39, 27591751409, Str.ofString "place"), (39, 215776629, Str.ofString "type"), (39, 244938092, Str.ofString "kids"), (39, 27629678967, Str.ofString "value"), (39, 215808884, Str.ofString "sure"), (179, 245250163, Str.ofString "rows"), (179, 4013321402097, Str.ofString "places"), (200, 213644652, Str.ofString "kind"), (200, 27629678967, Str.ofString "value"), (200, 27591751409, Str.ofString "place"), (348, 3531779979380, Str.ofString "source"), (348, 4016836508134, Str.ofString "errors"), (348, 27591751409, Str.ofString "place"), (348, 31352223864, Str.ofString "words"), (369, 3978959764335, Str.ofString "number"), (369, 232585319, Str.ofString "form"), (369, 215938420, Str.ofString "size"), (369, 215822691, Str.ofString "base"), (369, 3639399412589, Str.ofString "length"), (369, 4013071906151, Str.ofString "fields"), (369, 29475337069, Str.ofString "level"), (369, 4015464968561, Str.ofString "params"), (369, 3534201911406, Str.ofString "module"), (369, 29475008877, Str.ofString "label"), (369, 3841524856169, Str.ofString "hidden"), (369, 236715238, Str.ofString "exno"), (390, 215724399, Str.ofString "name"), (390, 213644652, Str.ofString "kind"), (390, 215776629, Str.ofString "type"), (390, 27591751409, Str.ofString "place"), (390, 57310597235899622, Str.ofString "exported"), (390, 69163125596271475, Str.ofString "readonly"), (390, 29475337069, Str.ofString "level"), (390, 3534201911406, Str.ofString "module"), (390, 27629678967, Str.ofString "value"), (390, 247215860, Str.ofString "slot"), (390, 4047714776048, Str.ofString "offset"), (390, 3978959764335, Str.ofString "number"), (390, 487183448046186, Str.ofString "isparam"), (390, 57310699516129647, Str.ofString "narrowed"), (426, 509311683770468, Str.ofString "counter"), (426, 30049843180, Str.ofString "known"), (426, 491578027948131, Str.ofString "boolean"), (426, 242791652, Str.ofString "char"), (426, 215842147, Str.ofString "byte"), (426, 509308175218666, Str.ofString "integer"), (426, 228405614, Str.ofString "mask"), (426, 1799535, Str.ofString "nil"), (426, 215742575, Str.ofString "none"), (447, 29475337069, Str.ofString "level"), (447, 29475008877, Str.ofString "label"), (447, 31354237295, Str.ofString "names"), (447, 31085656560, Str.ofString "order"), (447, 31385728756, Str.ofString "slots"), (510, 31354289525, Str.ofString "types"), (510, 3534201911406, Str.ofString "module"), (510, 29202365172, Str.ofString "stack"), (510, 29475337069, Str.ofString "level"), (630, 509310072828532, Str.ofString "scanner"), (630, 31354289525, Str.ofString "types"), (630, 4016836508134, Str.ofString "errors"), (630, 65191896583796586, Str.ofString "importer"), (630, 4013348893300, Str.ofString "scopes"), (630, 3534201911406, Str.ofString "module"), (630, 31350077937, Str.ofString "procs"), (630, 513674835473267, Str.ofString "records"), (630, 65750375224637543, Str.ofString "forwards"), (630, 29475337069, Str.ofString "level"), (630, 247280495, Str.ofString "nest"), (630, 31385776497, Str.ofString "parts"), (630, 30012029045, Str.ofString "token")]
noncomputable def globT : List (Nat × MVal × Str) := [(2241487510733015978415241834, MVal.fn 50, Str.ofString "is_designator"), (7414028544354529652, MVal.fn 57, Str.ofString "same_type"), (1068096658276177427050, MVal.fn 64, Str.ofString "is_integer"), (7485408294595015539, MVal.fn 71, Str.ofString "record_of"), (513673741040870, MVal.fn 78, Str.ofString "extends"), (58479757642790890, MVal.fn 85, Str.ofString "index_of"), (120188519636166376011111, MVal.fn 92, Str.ofString "field_named"), (58479752288777575, MVal.fn 99, Str.ofString "field_of"), (58479752811180901, MVal.fn 106, Str.ofString "deref_of"), (948125258282341809000, MVal.fn 113, Str.ofString "guard_code"), (58479752301296488, MVal.fn 120, Str.ofString "guard_of"), (8493678047029410674, MVal.fn 127, Str.ofString "qualident"), (8423916781400978292, MVal.fn 134, Str.ofString "selectors"), (447734745709416, MVal.fn 141, Str.ofString "guarded"), (65750378982847340, MVal.fn 211, Str.ofString "keywords"), (8344562828752468586, MVal.fn 218, Str.ofString "is_letter"), (66334939560819306, MVal.fn 225, Str.ofString "is_digit"), (17806649749741141086452330, MVal.fn 232, Str.ofString "is_hex_digit"), (15554126487944683681625445, MVal.fn 239, Str.ofString "digits_value"), (2260673379378386747969338100, MVal.fn 521, Str.ofString "std_functions"), (289192574609254745411296000756, MVal.fn 528, Str.ofString "std_procedures"), (230389095, MVal.fn 535, Str.ofString "fill"), (7411108241508710112, MVal.fn 641, Str.ofString "_law_take"), (1123435240847910156000, MVal.fn 648, Str.ofString "_law_index"), (215578703, MVal.cls 39, Str.ofString "Node"), (8496509566771329478, MVal.cls 179, Str.ofString "ErrorList"), (30012029013, MVal.cls 200, Str.ofString "Token"), (509310072828500, MVal.cls 348, Str.ofString "Scanner"), (215776597, MVal.cls 369, Str.ofString "Type"), (1765840, MVal.cls 390, Str.ofString "Obj"), (31354289493, MVal.cls 426, Str.ofString "Types"), (27619242580, MVal.cls 447, Str.ofString "Scope"), (4013348893268, MVal.cls 510, Str.ofString "Scopes"), (3978963759955, MVal.cls 630, Str.ofString "Reader"), (780935164515317000270, MVal.int 120, Str.ofString "MOST_PARTS"), (12625915966970992962906190, MVal.int 2147483647, Str.ofString "MOST_INTEGER"), (5019053728078309454, MVal.int 4294967295, Str.ofString "MOST_WORD")]
noncomputable def tabL : TabL := ⟨fnT, initT, methT, fldT, globT⟩
noncomputable def tb : Tab := tabL.tab
noncomputable def l1 : MS := (.setL 31354289525 (.call (.glob 31354289493) .nil))
noncomputable def l2 : MS := (.setL 3501440185203 (.meth (.loc 31354289525) 1979247 (.cons (.str [114, 101, 99, 111, 114, 100]) (.cons (.int 32) (.cons (.str [77]) (.cons (.str [82]) .nil))))))
noncomputable def l3 : MS := (.setL 509311683573873 (.meth (.loc 31354289525) 1979247 (.cons (.str [112, 111, 105, 110, 116, 101, 114]) (.cons (.int 4) (.cons (.str [77]) (.cons (.str [80]) .nil))))))
noncomputable def l4 : MS := (.setA (.loc 509311683573873) 215822691 (.loc 3501440185203))
noncomputable def l5 : MS := (.setL 242921841 (.meth (.loc 31354289525) 1979247 (.cons (.str [97, 114, 114, 97, 121]) (.cons (.int 8) .nil))))
noncomputable def l6 : MS := (.setA (.loc 242921841) 215822691 (.loc 509311683573873))
noncomputable def l7 : MS := (.setA (.loc 242921841) 3639399412589 (.int 2))
noncomputable def l8 : MS := (.setL 27596223733 (.meth (.loc 31354289525) 1979247 (.cons (.str [97, 114, 114, 97, 121]) (.cons (.int 24) .nil))))
noncomputable def l9 : MS := (.setA (.loc 27596223733) 215822691 (.loc 242921841))
noncomputable def l10 : MS := (.setA (.loc 27596223733) 3639399412589 (.int 3))
noncomputable def l11 : MS := (.setA (.loc 3501440185203) 4013071906151 (.list (.cons (.call (.glob 1765840) (.cons (.str [113]) (.cons (.str [102, 105, 101, 108, 100]) (.cons (.loc 509311683573873) (.cons (.int 0) .nil))))) (.cons (.call (.glob 1765840) (.cons (.str [109]) (.cons (.str [102, 105, 101, 108, 100]) (.cons (.loc 27596223733) (.cons (.int 0) .nil))))) .nil))))
noncomputable def l12 : MS := (.setL 242791279 (.cmp .eq (.call (.glob 7411108241508710112) (.cons (.cel 27627404020) (.cons (.int 2) .nil))) (.int 1)))
noncomputable def l13 : MS := (.setL 3497961189752 (.ite (.loc 242791279) (.bin .add (.int 116) (.call (.glob 7411108241508710112) (.cons (.cel 27627404020) (.cons (.int 10) .nil)))) (.call (.glob 7411108241508710112) (.cons (.cel 27627404020) (.cons (.int 10) .nil)))))
noncomputable def l14 : MS := (.comp 492162160357745 238664436 (.bin .add (.int 1) (.call (.glob 7411108241508710112) (.cons (.cel 27627404020) (.cons (.int 4) .nil)))) (.call (.glob 7411108241508710112) (.cons (.cel 27627404020) (.cons (.int 4) .nil))))
noncomputable def l15 : MS := (.setL 213561716 (.str []))
noncomputable def l16 : MS := (.setL 447739032615012 (.list .nil))
noncomputable def l17 : MS := (.setL 1068104015830316497514 (.bool true))
noncomputable def l18 : MS := (.forR 238664436 (.int 130) (.cons (.ite (.cmp .ge (.bi .len (.cons (.loc 447739032615012) .nil)) (.loc 3497961189752)) (.cons .brk .nil) .nil) (.cons (.setL 213644652 (.idx (.loc 492162160357745) (.bin .mod (.loc 238664436) (.bi .len (.cons (.loc 492162160357745) .nil))))) (.cons (.setL 31649741556 (.bi .len (.cons (.loc 213561716) .nil))) (.cons (.expr (.meth (.loc 447739032615012) 3500345686242 (.cons (.loc 31649741556) .nil))) (.cons (.ite (.and (.cons (.cmp .eq (.loc 213644652) (.int 1)) (.cons (.loc 1068104015830316497514) .nil))) (.cons (.setL 213561716 (.bin .add (.loc 213561716) (.str [94]))) (.cons (.setL 1068104015830316497514 (.bool false)) (.cons .cont .nil))) .nil) (.cons (.ite (.and (.cons (.cmp .eq (.loc 213644652) (.int 2)) (.cons (.loc 1068104015830316497514) .nil))) (.cons (.setL 213561716 (.bin .add (.loc 213561716) (.str [40, 80, 41]))) (.cons .cont .nil)) .nil) (.cons (.ite (.loc 1068104015830316497514) (.cons (.expr (.meth (.loc 447739032615012) 3500345686242 (.cons (.bin .add (.loc 31649741556) (.int 1)) .nil))) .nil) .nil) (.cons (.setL 1068104015830316497514 (.bool true)) (.cons (.ite (.cmp .lt (.loc 213644652) (.int 3)) (.cons (.setL 213561716 (.bin .add (.loc 213561716) (.str [46, 113]))) .nil) (.cons (.setL 213561716 (.bin .add (.loc 213561716) (.str [46, 109, 91, 49, 44, 32, 48, 93]))) (.cons (.expr (.meth (.loc 447739032615012) 3500345686242 (.cons (.bin .add (.loc 31649741556) (.int 2)) .nil))) (.cons (.expr (.meth (.loc 447739032615012) 3500345686242 (.cons (.bin .add (.loc 31649741556) (.int 6)) .nil))) .nil)))) .nil))))))))))
noncomputable def l19 : MS := (.setL 4016836508134 (.call (.glob 8496509566771329478) .nil))
noncomputable def l20 : MS := (.setL 13043 (.call (.glob 3978963759955) (.cons (.bin .add (.loc 213561716) (.str [32, 59])) (.cons (.loc 31354289525) (.cons (.loc 4016836508134) (.cons .none .nil))))))
noncomputable def l21 : MS := (.expr (.meth (.attr (.loc 13043) 4013348893300) 234469616 (.cons (.str []) .nil)))
noncomputable def l22 : MS := (.expr (.meth (.attr (.loc 13043) 4013348893300) 4051175290858 (.cons (.str [80]) (.cons (.str [116, 121, 112, 101]) (.cons (.loc 509311683573873) (.cons (.int 0) .nil))))))
noncomputable def l23 : MS := (.setL 215578735 (.call (.glob 8423916781400978292) (.cons (.loc 13043) (.cons (.call (.glob 215578703) (.cons (.str [118, 97, 114]) (.cons (.int 900) (.cons (.loc 509311683573873) (.cons (.list .nil) (.cons (.call (.glob 1765840) (.cons (.str [118]) (.cons (.str [118, 97, 114]) (.cons (.loc 509311683573873) (.cons (.int 0) .nil))))) .nil)))))) (.cons (.glob 1123435240847910156000) .nil)))))
noncomputable def l24 : MS := (.ite (.cmp .gt (.bi .len (.cons (.loc 447739032615012) .nil)) (.int 120)) (.cons (.ret (.and (.cons (.eqNil true (.attr (.loc 4016836508134) 245250163)) (.cons (.cmp .eq (.idx (.attr (.loc 4016836508134) 245250163) (.int 0)) (.tup (.cons (.idx (.loc 447739032615012) (.int 120)) (.cons (.str [116, 111, 111, 95, 100, 101, 101, 112]) .nil)))) (.cons (.cmp .eq (.attr (.attr (.loc 13043) 30012029045) 213644652) (.str [101, 111, 102])) (.cons (.isN true (.loc 215578735)) .nil)))))) .nil) .nil)
noncomputable def l25 : MS := (.ite (.or (.cons (.eqNil true (.attr (.loc 4016836508134) 245250163)) (.cons (.cmp .ne (.attr (.loc 13043) 31385776497) (.bi .len (.cons (.loc 447739032615012) .nil))) (.cons (.cmp .ne (.tup (.cons (.attr (.attr (.loc 13043) 30012029045) 213644652) (.cons (.attr (.attr (.loc 13043) 30012029045) 27591751409) .nil))) (.tup (.cons (.str [59]) (.cons (.bin .add (.bi .len (.cons (.loc 213561716) .nil)) (.int 1)) .nil)))) .nil)))) (.cons (.ret (.bool false)) .nil) .nil)
noncomputable def l26 : MS := (.ret (.cmp .eq (.attr (.attr (.loc 215578735) 215776629) 3978959764335) (.ite (.loc 1068104015830316497514) (.attr (.loc 509311683573873) 3978959764335) (.attr (.loc 3501440185203) 3978959764335))))
end Mine

end
section
open PySem
set_option maxRecDepth 10000
namespace Mine

theorem callF_go {W d : Nat} {f : Nat} {args : List MVal} {H : MHeap} {ps : List Nat} {ds : List MVal} {b : MSs} (h : tb.fn f = some ⟨ps, ds, b⟩) {ρ : Loc} (hb : bindP ps ds args = some ρ) {o : MF} {ρ' : Loc} {H' : MHeap} {v : MVal} (e : exSs tb (callF tb W d) W b ρ H = some (o, ρ', H')) (ho : outV o = some v) :
    callF tb W (d + 1) f args H = some (v, H') := by
  show (tb.fn f).bind _ = _
  rw [h]
  show (bindP ps ds args).bind _ = _
  rw [hb]
  show (exSs tb (callF tb W d) W b ρ H).bind _ = _
  rw [e]
  show (outV o).map _ = _
  rw [ho]; rfl
theorem callF_go2 {W d : Nat} {f : Nat} {args : List MVal} {H : MHeap} {ps : List Nat} {ds : List MVal} {b : MSs} (h : tb.fn f = some ⟨ps, ds, b⟩) {ρ : Loc} (hb : bindP ps ds args = some ρ) {o : MF} {v : MVal} (ho : outV o = some v) {ρ' : Loc} {H' : MHeap} (e : exSs tb (callF tb W d) W b ρ H = some (o, ρ', H')) :
    callF tb W (d + 1) f args H = some (v, H') := callF_go h hb e ho
theorem lk_put' (n m : Nat) (v : MVal) : ∀ ρ : Loc, lk n (put m v ρ) = if Nat.beq n m then some v else lk n ρ
  | [] => by simp [put, lk]
  | (y, u) :: r => by
    have ih := lk_put' n m v r
    unfold put
    cases h : Nat.beq m y with
    | true =>
      have e := Nat.eq_of_beq_eq_true h
      subst e
      simp only [if_true, lk]
      cases Nat.beq n m <;> simp
    | false =>
      simp only [Bool.false_eq_true, if_false, lk]
      cases q : Nat.beq n y with
      | true =>
        have e := Nat.eq_of_beq_eq_true q
        subst e
        have : Nat.beq n m = false := by
          cases z : Nat.beq n m with
          | false => rfl
          | true => have := Nat.eq_of_beq_eq_true z; subst this; rw [Nat.beq_refl] at h; cases h
        simp [this]
      | false => simp only [Bool.false_eq_true, if_false]; exact ih
theorem lkHit {n m : Nat} {v : MVal} {ρ : Loc} (h : Nat.beq n m = true) : lk n (put m v ρ) = some v := by rw [lk_put', h]; rfl
theorem lkMiss {n m : Nat} {v u : MVal} {ρ : Loc} (h : Nat.beq n m = false) (k : lk n ρ = some u) : lk n (put m v ρ) = some u := by rw [lk_put', h]; exact k
theorem lkHere {n m : Nat} {v : MVal} {ρ : Loc} (h : Nat.beq n m = true) : lk n ((m, v) :: ρ) = some v := by unfold lk; rw [h]; rfl
theorem lkNext {n m : Nat} {v u : MVal} {ρ : Loc} (h : Nat.beq n m = false) (k : lk n ρ = some u) : lk n ((m, v) :: ρ) = some u := by unfold lk; rw [h]; exact k

theorem bnd {α β : Type} {x : Option α} {a : α} {f : α → Option β} {r : Option β} (h : x = some a) (k : f a = r) : x.bind f = r := by subst h; exact k
theorem mpd {α β : Type} {x : Option α} {a : α} {f : α → β} (h : x = some a) : x.map f = some (f a) := by subst h; rfl
section
variable {T : Tab} {C : CallF} {W V : Nat} {ρ ρ1 ρ2 : Loc} {H H1 H2 H3 : MHeap} {v u ov iv : MVal} {r : Out} {t t' : Bool}
noncomputable def nextS (T : Tab) (C : CallF) (W : Nat) (ss : MSs) (f : MF) (ρ : Loc) (H : MHeap) : Option Out := match f with
  | .next => exSs T C W ss ρ H
  | f => some (f, ρ, H)
theorem nxN {ss : MSs} (h : exSs T C W ss ρ H = some r) : nextS T C W ss .next ρ H = some r := h
theorem nxR {ss : MSs} : nextS T C W ss (.ret v) ρ H = some (.ret v, ρ, H) := rfl
theorem nxB {ss : MSs} : nextS T C W ss .brk ρ H = some (.brk, ρ, H) := rfl
theorem nxC {ss : MSs} : nextS T C W ss .cont ρ H = some (.cont, ρ, H) := rfl
theorem xNil : exSs T C W .nil ρ H = some (.next, ρ, H) := rfl
theorem xCons0 (s : MS) (ss : MSs) : exSs T C W (.cons s ss) ρ H = (exS T C W s ρ H).bind fun (f, ρ1, H1) => nextS T C W ss f ρ1 H1 := rfl
theorem xCons {s : MS} {ss : MSs} {f : MF} (h : exS T C W s ρ H = some (f, ρ1, H1)) (k : nextS T C W ss f ρ1 H1 = some r) : exSs T C W (.cons s ss) ρ H = some r := (xCons0 s ss).trans (bnd h k)
theorem xExpr {e : ME} (h : evE T C ρ e H = some (v, H1)) : exS T C W (.expr e) ρ H = some (.next, ρ, H1) := mpd (x := evE T C ρ e H) h
theorem xRet {e : ME} (h : evE T C ρ e H = some (v, H1)) : exS T C W (.ret e) ρ H = some (.ret v, ρ, H1) := mpd (x := evE T C ρ e H) h
theorem xSetL {x : Nat} {e : ME} (h : evE T C ρ e H = some (v, H1)) : exS T C W (.setL x e) ρ H = some (.next, put x v ρ, H1) := mpd (x := evE T C ρ e H) h
theorem xSetA {o e : ME} {a : Nat} (h : evE T C ρ e H = some (v, H1)) (k : evE T C ρ o H1 = some (ov, H2)) (s : setAt T ov a v H2 = some H3) : exS T C W (.setA o a e) ρ H = some (.next, ρ, H3) :=
  bnd (x := evE T C ρ e H) h (bnd (x := evE T C ρ o H1) k (mpd (x := setAt T ov a v H2) s))
theorem xSetI {o i e : ME} {H4 : MHeap} (h : evE T C ρ e H = some (v, H1)) (k : evE T C ρ o H1 = some (ov, H2)) (l : evE T C ρ i H2 = some (iv, H3)) (s : storeI ov iv v H3 = some H4) : exS T C W (.setI o i e) ρ H = some (.next, ρ, H4) :=
  bnd (x := evE T C ρ e H) h (bnd (x := evE T C ρ o H1) k (bnd (x := evE T C ρ i H2) l (mpd (x := storeI ov iv v H3) s)))
theorem xUnp {x y i : Nat} {e : ME} {a b : MVal} (h : evE T C ρ e H = some (.ref i, H1)) (k : H1[i]? = some (.list [a, b])) : exS T C W (.unp x y e) ρ H = some (.next, put y b (put x a ρ), H1) := by
  refine bnd (x := evE T C ρ e H) h ?_
  dsimp only
  rw [k]
theorem xAugA {o e : ME} {a : Nat} {p q : Int} (h : evE T C ρ o H = some (ov, H1)) (g : getA T ov a H1 = some (.int p)) (k : evE T C ρ e H1 = some (.int q, H2)) (s : setAt T ov a (.int (p + q)) H2 = some H3) : exS T C W (.augA o a e) ρ H = some (.next, ρ, H3) :=
  bnd (x := evE T C ρ o H) h (bnd (x := getA T ov a H1) g (bnd (x := evE T C ρ e H1) k (mpd (x := setAt T ov a (.int (p + q)) H2) s)))
theorem ifT {α : Type} {x y : Option α} {z : α} (h : x = some z) : (if (true : Bool) = true then x else y) = some z := h
theorem ifF {α : Type} {x y : Option α} {z : α} (h : y = some z) : (if (false : Bool) = true then x else y) = some z := h
theorem xIte {c : ME} {a b : MSs} (h : evT T C ρ c H = some (t, H1)) (k : (if t = true then exSs T C W a ρ H1 else exSs T C W b ρ H1) = some r) : exS T C W (.ite c a b) ρ H = some r := bnd (x := evT T C ρ c H) h k
theorem xBrk : exS T C W .brk ρ H = some (.brk, ρ, H) := rfl
theorem xCont : exS T C W .cont ρ H = some (.cont, ρ, H) := rfl
theorem xWhl {c : ME} {b : MSs} (h : loopW (fun ρ H => evT T C ρ c H) (fun ρ H => exSs T C W b ρ H) W ρ H = some r) : exS T C W (.whl c b) ρ H = some r := h
noncomputable def goW (T : Tab) (C : CallF) (V : Nat) (c : ME) (b : MSs) (w : Nat) (f : MF) (ρ : Loc) (H : MHeap) : Option Out := match f with
  | .next => loopW (fun ρ H => evT T C ρ c H) (fun ρ H => exSs T C V b ρ H) w ρ H
  | .cont => loopW (fun ρ H => evT T C ρ c H) (fun ρ H => exSs T C V b ρ H) w ρ H
  | .brk => some (.next, ρ, H)
  | .ret v => some (.ret v, ρ, H)
noncomputable def goT (T : Tab) (C : CallF) (V : Nat) (c : ME) (b : MSs) (w : Nat) (t : Bool) (ρ : Loc) (H : MHeap) : Option Out := if t = true then (exSs T C V b ρ H).bind fun (f, ρ2, H2) => goW T C V c b w f ρ2 H2 else some (.next, ρ, H)
theorem lwStep {c : ME} {b : MSs} {w : Nat} (h : evT T C ρ c H = some (t, H1)) (k : goT T C V c b w t ρ H1 = some r) : loopW (fun ρ H => evT T C ρ c H) (fun ρ H => exSs T C V b ρ H) (w + 1) ρ H = some r := by
  refine bnd (x := evT T C ρ c H) h ?_
  cases t with
  | false => exact k
  | true => exact k
theorem gtT {c : ME} {b : MSs} {w : Nat} {f : MF} (h : exSs T C V b ρ H = some (f, ρ2, H2)) (k : goW T C V c b w f ρ2 H2 = some r) : goT T C V c b w true ρ H = some r := bnd (x := exSs T C V b ρ H) h k
theorem gtF {c : ME} {b : MSs} {w : Nat} : goT T C V c b w false ρ H = some (.next, ρ, H) := rfl
theorem gwN {c : ME} {b : MSs} {w : Nat} (h : loopW (fun ρ H => evT T C ρ c H) (fun ρ H => exSs T C V b ρ H) w ρ H = some r) : goW T C V c b w .next ρ H = some r := h
theorem gwR {c : ME} {b : MSs} {w : Nat} : goW T C V c b w (.ret v) ρ H = some (.ret v, ρ, H) := rfl

theorem eNone : evE T C ρ .none H = some (.none, H) := rfl
theorem eBool {b : Bool} : evE T C ρ (.bool b) H = some (.bool b, H) := rfl
theorem eInt {i : Int} : evE T C ρ (.int i) H = some (.int i, H) := rfl
theorem eStr {l : List Nat} : evE T C ρ (.str l) H = some (.str l, H) := rfl
theorem eLoc {x : Nat} (h : lk x ρ = some v) : evE T C ρ (.loc x) H = some (v, H) := mpd (x := lk x ρ) h
theorem eCel {x i : Nat} (h : lk x ρ = some (.ref i)) (k : H[i]? = some (.cell v)) : evE T C ρ (.cel x) H = some (v, H) := by rw [evE_cel, h]; dsimp only; rw [k]
theorem eGlob {x : Nat} (h : T.glob x = some v) : evE T C ρ (.glob x) H = some (v, H) := mpd (x := T.glob x) h
theorem eAttr {e : ME} {a : Nat} (h : evE T C ρ e H = some (v, H1)) (k : getA T v a H1 = some u) : evE T C ρ (.attr e a) H = some (u, H1) := bnd (x := evE T C ρ e H) h (mpd (x := getA T v a H1) k)
theorem eIdx {e i : ME} (h : evE T C ρ e H = some (v, H1)) (k : evE T C ρ i H1 = some (iv, H2)) (l : index v iv H2 = some u) : evE T C ρ (.idx e i) H = some (u, H2) :=
  bnd (x := evE T C ρ e H) h (bnd (x := evE T C ρ i H1) k (mpd (x := index v iv H2) l))
theorem eSlc {e lo hi : ME} {a b : MVal} (h : evE T C ρ e H = some (v, H1)) (k : evE T C ρ lo H1 = some (a, H2)) (l : evE T C ρ hi H2 = some (b, H3)) (s : sliceS v a b = some u) : evE T C ρ (.slc e lo hi) H = some (u, H3) :=
  bnd (x := evE T C ρ e H) h (bnd (x := evE T C ρ lo H1) k (bnd (x := evE T C ρ hi H2) l (mpd (x := sliceS v a b) s)))
theorem eBin {op : AOp} {a b : ME} {z : MVal × MHeap} (h : evE T C ρ a H = some (v, H1)) (k : evE T C ρ b H1 = some (u, H2)) (l : binop op v u H2 = some z) : evE T C ρ (.bin op a b) H = some z :=
  bnd (x := evE T C ρ a H) h (bnd (x := evE T C ρ b H1) k l)
theorem eNeg {i : Int} : evE T C ρ (.neg i) H = some (.int (-i), H) := rfl
theorem eNot {e : ME} (h : evE T C ρ e H = some (.bool t, H1)) (k : (!t) = t') : evE T C ρ (.not e) H = some (.bool t', H1) := by subst k; exact bnd (x := evE T C ρ e H) h rfl
theorem eCmp {op : COp} {a b : ME} (h : evE T C ρ a H = some (v, H1)) (k : evE T C ρ b H1 = some (u, H2)) (l : cmpop op v u H2 = some t) : evE T C ρ (.cmp op a b) H = some (.bool t, H2) :=
  bnd (x := evE T C ρ a H) h (bnd (x := evE T C ρ b H1) k (mpd (x := cmpop op v u H2) l))
theorem eInT {n : Bool} {a : ME} {ls : List (List Nat)} {l : List Nat} (h : evE T C ρ a H = some (.str l, H1)) (k : ls.contains l = t) (m : (n != t) = t') : evE T C ρ (.inT n a ls) H = some (.bool t', H1) := by
  subst k; subst m; exact bnd (x := evE T C ρ a H) h rfl
theorem eEqNil {n : Bool} {a : ME} {i : Nat} {xs : List MVal} (h : evE T C ρ a H = some (.ref i, H1)) (k : H1[i]? = some (.list xs)) (m : (n != xs.isEmpty) = t') : evE T C ρ (.eqNil n a) H = some (.bool t', H1) := by
  subst m
  refine bnd (x := evE T C ρ a H) h ?_
  dsimp only
  rw [k]
theorem eIsN {n : Bool} {a : ME} (h : evE T C ρ a H = some (v, H1)) (k : (v == .none) = t) (m : (n != t) = t') : evE T C ρ (.isN n a) H = some (.bool t', H1) := by
  subst k; subst m; exact mpd (x := evE T C ρ a H) h
theorem eIte {c a b : ME} {z : MVal × MHeap} (h : evT T C ρ c H = some (t, H1)) (k : (if t = true then evE T C ρ a H1 else evE T C ρ b H1) = some z) : evE T C ρ (.ite c a b) H = some z := (evE_ite T C ρ H c a b).trans (bnd h k)
theorem eCall {f : ME} {args : MEs} {vs : List MVal} {z : MVal × MHeap} (h : evE T C ρ f H = some (v, H1)) (k : evEs T C ρ args H1 = some (vs, H2)) (l : callV T C v vs H2 = some z) : evE T C ρ (.call f args) H = some z :=
  bnd (x := evE T C ρ f H) h (bnd (x := evEs T C ρ args H1) k l)
theorem eBi {f : BF} {args : MEs} {vs : List MVal} (h : evEs T C ρ args H = some (vs, H1)) (k : builtin f vs H1 = some v) : evE T C ρ (.bi f args) H = some (v, H1) := bnd (x := evEs T C ρ args H) h (mpd (x := builtin f vs H1) k)
theorem eMeth {o : ME} {m : Nat} {args : MEs} {mm : MM} {vs : List MVal} {z : MVal × MHeap} (h : evE T C ρ o H = some (v, H1)) (g : methOf T v m H1 = some mm) (k : evEs T C ρ args H1 = some (vs, H2)) (l : methCall C mm vs H2 = some z) : evE T C ρ (.meth o m args) H = some z :=
  bnd (x := evE T C ρ o H) h (bnd (x := methOf T v m H1) g (bnd (x := evEs T C ρ args H1) k l))
theorem mcFn {f : Nat} {vs : List MVal} {z : MVal × MHeap} (h : C f (v :: vs) H = some z) : methCall C (.fn f v) vs H = some z := h
theorem cvFn {f : Nat} {vs : List MVal} {z : MVal × MHeap} (g : (tb.fn f).isSome = true) (h : C f vs H = some z) : callV tb C (.fn f) vs H = some z := by
  unfold callV
  dsimp only
  cases q : tb.fn f with
  | none => rw [q] at g; cases g
  | some I => exact h
theorem eList {es : MEs} {vs : List MVal} (h : evEs T C ρ es H = some (vs, H1)) : evE T C ρ (.list es) H = some (.ref H1.length, H1 ++ [.list vs]) := mpd (x := evEs T C ρ es H) h
theorem eTup {es : MEs} {vs : List MVal} (h : evEs T C ρ es H = some (vs, H1)) : evE T C ρ (.tup es) H = some (.ref H1.length, H1 ++ [.tup vs]) := mpd (x := evEs T C ρ es H) h
theorem eDict0 : evE T C ρ .dict0 H = some (.ref H.length, H ++ [.dict []]) := rfl
theorem esNil : evEs T C ρ .nil H = some ([], H) := rfl
theorem esCons {e : ME} {es : MEs} {vs : List MVal} (h : evE T C ρ e H = some (v, H1)) (k : evEs T C ρ es H1 = some (vs, H2)) : evEs T C ρ (.cons e es) H = some (v :: vs, H2) := bnd (x := evE T C ρ e H) h (mpd (x := evEs T C ρ es H1) k)
theorem eAnd {es : MEs} {z : MVal × MHeap} (h : evAnd T C ρ es H = some z) : evE T C ρ (.and es) H = some z := h
theorem eOr {es : MEs} {z : MVal × MHeap} (h : evOr T C ρ es H = some z) : evE T C ρ (.or es) H = some z := h
theorem anOne {e : ME} {z : MVal × MHeap} (h : evE T C ρ e H = some z) : evAnd T C ρ (.cons e .nil) H = some z := (evAnd_one T C ρ H e).trans h
theorem anTwo {e f : ME} {es : MEs} {z : MVal × MHeap} (h : evE T C ρ e H = some (.bool t, H1)) (k : (if t = true then evAnd T C ρ (.cons f es) H1 else some (.bool t, H1)) = some z) : evAnd T C ρ (.cons e (.cons f es)) H = some z := (evAnd_two T C ρ H e f es).trans (bnd h k)
theorem orOne {e : ME} {z : MVal × MHeap} (h : evE T C ρ e H = some z) : evOr T C ρ (.cons e .nil) H = some z := (evOr_one T C ρ H e).trans h
theorem orTwo {e f : ME} {es : MEs} {z : MVal × MHeap} (h : evE T C ρ e H = some (.bool t, H1)) (k : (if t = true then some (.bool t, H1) else evOr T C ρ (.cons f es) H1) = some z) : evOr T C ρ (.cons e (.cons f es)) H = some z := (evOr_two T C ρ H e f es).trans (bnd h k)
theorem anB {e f : ME} {es : MEs} {a b : Bool} (h : evE T C ρ e H = some (.bool a, H)) (k : evAnd T C ρ (.cons f es) H = some (.bool b, H)) : evAnd T C ρ (.cons e (.cons f es)) H = some (.bool (a && b), H) := by
  refine (evAnd_two T C ρ H e f es).trans (bnd h ?_)
  cases a with
  | true => exact k
  | false => rfl
theorem orB {e f : ME} {es : MEs} {a b : Bool} (h : evE T C ρ e H = some (.bool a, H)) (k : evOr T C ρ (.cons f es) H = some (.bool b, H)) : evOr T C ρ (.cons e (.cons f es)) H = some (.bool (a || b), H) := by
  refine (evOr_two T C ρ H e f es).trans (bnd h ?_)
  cases a with
  | true => rfl
  | false => exact k
theorem leS {x : Nat} {a c : List Nat} (h : lk x ρ = some (.str c)) : evE T C ρ (.cmp .le (.str a) (.loc x)) H = some (.bool (!(ltL c a)), H) := eCmp eStr (eLoc h) rfl
theorem leS' {x : Nat} {a c : List Nat} (h : lk x ρ = some (.str c)) : evE T C ρ (.cmp .le (.loc x) (.str a)) H = some (.bool (!(ltL a c)), H) := eCmp (eLoc h) eStr rfl
theorem tPlain {m : ME} (q : isPlainT m = true) (h : evE T C ρ m H = some (.bool t, H1)) : evT T C ρ m H = some (t, H1) := (evT_plain T C ρ H q).trans (bnd h rfl)
theorem tNot {e : ME} (h : evT T C ρ e H = some (t, H1)) (k : (!t) = t') : evT T C ρ (.not e) H = some (t', H1) := by subst k; exact (evT_not T C ρ H e).trans (mpd h)
theorem tAnd {es : MEs} {z : Bool × MHeap} (h : evAll T C ρ es H = some z) : evT T C ρ (.and es) H = some z := (evT_and T C ρ H es).trans h
theorem tOr {es : MEs} {z : Bool × MHeap} (h : evAny T C ρ es H = some z) : evT T C ρ (.or es) H = some z := (evT_or T C ρ H es).trans h
theorem alNil : evAll T C ρ .nil H = some (true, H) := rfl
theorem alCons {e : ME} {es : MEs} {z : Bool × MHeap} (h : evT T C ρ e H = some (t, H1)) (k : (if t = true then evAll T C ρ es H1 else some (false, H1)) = some z) : evAll T C ρ (.cons e es) H = some z := (evAll_cons T C ρ H e es).trans (bnd h k)
theorem ayNil : evAny T C ρ .nil H = some (false, H) := rfl
theorem ayCons {e : ME} {es : MEs} {z : Bool × MHeap} (h : evT T C ρ e H = some (t, H1)) (k : (if t = true then some (true, H1) else evAny T C ρ es H1) = some z) : evAny T C ρ (.cons e es) H = some z := (evAny_cons T C ρ H e es).trans (bnd h k)

theorem bAdd {a b : Int} : binop .add (.int a) (.int b) H = some (.int (a + b), H) := rfl
theorem bSub {a b : Int} : binop .sub (.int a) (.int b) H = some (.int (a - b), H) := rfl
theorem bMod {a b : Int} (h : 0 < b) : binop .mod (.int a) (.int b) H = some (.int (Int.fmod a b), H) := if_pos h
theorem bDiv {a b : Int} (h : 0 < b ∧ b ≤ 2 ^ 200) : binop .fdiv (.int a) (.int b) H = some (.int (Int.fdiv a b), H) := if_pos h
theorem bPow {b : Int} (h : 0 ≤ b ∧ b ≤ 64) : binop .pow (.int 7) (.int b) H = some (.int (7 ^ b.toNat), H) := if_pos ⟨rfl, h⟩
theorem inRefTup {xs : List MVal} {ls : List (List Nat)} {a : List Nat} {i : Nat} (h : H[i]? = some (.tup xs)) (hs : strsOf xs = some ls) (hk : ls.contains a = t) : inRef (.str a) i H = some t := by subst hk; exact bnd h (mpd hs)
theorem inRefDict {es : List (MVal × MVal)} {i : Nat} (h : H[i]? = some (.dict es)) (ok : okKey v es = true) (hd : (dlk v es).isSome = t) : inRef v i H = some t := by
  refine bnd h ?_
  dsimp only
  rw [if_pos ok, hd]
theorem cEqI {a b : Int} (h : (a == b) = t) : cmpop .eq (.int a) (.int b) H = some t := h ▸ rfl
theorem cNeI {a b : Int} (h : (a == b) = t) (k : (!t) = t') : cmpop .ne (.int a) (.int b) H = some t' := by subst h; subst k; rfl
theorem cLt {a b : Int} (h : decide (a < b) = t) : cmpop .lt (.int a) (.int b) H = some t := h ▸ rfl
theorem cLe {a b : Int} (h : decide (a ≤ b) = t) : cmpop .le (.int a) (.int b) H = some t := h ▸ rfl
theorem cGt {a b : Int} (h : decide (b < a) = t) : cmpop .gt (.int a) (.int b) H = some t := h ▸ rfl
theorem cGe {a b : Int} (h : decide (b ≤ a) = t) : cmpop .ge (.int a) (.int b) H = some t := h ▸ rfl
theorem cEqS {a b : List Nat} (h : (a == b) = t) : cmpop .eq (.str a) (.str b) H = some t := h ▸ rfl
theorem cNeS {a b : List Nat} (h : (a == b) = t) (k : (!t) = t') : cmpop .ne (.str a) (.str b) H = some t' := by subst h; subst k; rfl
theorem cLtS {a b : List Nat} (h : ltL a b = t) : cmpop .lt (.str a) (.str b) H = some t := h ▸ rfl
theorem cLeS {a b : List Nat} (h : ltL b a = t) (k : (!t) = t') : cmpop .le (.str a) (.str b) H = some t' := by subst h; subst k; rfl
theorem cInS {c : Nat} {b : List Nat} (h : b.contains c = t) : cmpop .in_ (.str [c]) (.str b) H = some t := h ▸ rfl
end
theorem cvCls {C : CallF} {c f : Nat} {args : List MVal} {H H' : MHeap} (hi : tb.init c = some f) (h : C f (.ref H.length :: args) (H ++ [.inst c []]) = some (.none, H')) : callV tb C (.cls c) args H = some (.ref H.length, H') := by
  unfold callV
  dsimp only
  rw [hi]
  dsimp only
  rw [h]
theorem get_last (H : MHeap) (o : MObj) : (H ++ [o])[H.length]? = some o := by simp
theorem set_last (H : MHeap) (o o' : MObj) : (H ++ [o]).set H.length o' = H ++ [o'] := by simp
theorem setAt_last {H : MHeap} {c a : Nat} {fs : List (Nat × MVal)} {v : MVal} (hf : tb.fld c a = true) (hl : Nat.blt fs.length 40 = true) : setAt tb (.ref H.length) a v (H ++ [.inst c fs]) = some (H ++ [.inst c (put a v fs)]) := by
  unfold setAt; simp only [get_last, hf, hl, Bool.and_self, if_true, set_last]
section
variable {T : Tab} {C : CallF} {W V : Nat} {ρ ρ1 ρ2 : Loc} {H H1 H2 : MHeap} {v : MVal} {r : Out}
theorem lfN {nx : Nat → MHeap → Option (Option MVal)} {x k w : Nat} {b : MSs} (a : nx k H = some (some v)) (h : exSs T C V b (put x v ρ) H = some (.next, ρ2, H2)) (g : loopF nx x (fun ρ H => exSs T C V b ρ H) w (k + 1) ρ2 H2 = some r) : loopF nx x (fun ρ H => exSs T C V b ρ H) (w + 1) k ρ H = some r :=
  bnd (x := nx k H) a (bnd (x := exSs T C V b (put x v ρ) H) h g)
theorem lfR {nx : Nat → MHeap → Option (Option MVal)} {x k w : Nat} {b : MSs} {u : MVal} (a : nx k H = some (some v)) (h : exSs T C V b (put x v ρ) H = some (.ret u, ρ2, H2)) : loopF nx x (fun ρ H => exSs T C V b ρ H) (w + 1) k ρ H = some (.ret u, ρ2, H2) :=
  bnd (x := nx k H) a (bnd (x := exSs T C V b (put x v ρ) H) h rfl)
theorem lfE {nx : Nat → MHeap → Option (Option MVal)} {x k w : Nat} {b : MSs} (a : nx k H = some none) : loopF nx x (fun ρ H => exSs T C V b ρ H) (w + 1) k ρ H = some (.next, ρ, H) := bnd (x := nx k H) a rfl
theorem xForS {x : Nat} {e : ME} {b : MSs} {l : List Nat} (h : evE T C ρ e H = some (.str l, H1)) (k : loopF (nxtS l) x (fun ρ H => exSs T C W b ρ H) W 0 ρ H1 = some r) : exS T C W (.forI x e b) ρ H = some r := bnd (x := evE T C ρ e H) h k
theorem xForI {x i : Nat} {e : ME} {b : MSs} {xs : List MVal} (h : evE T C ρ e H = some (.ref i, H1)) (hi : H1[i]? = some (.list xs)) (k : loopF (nxtL i) x (fun ρ H => exSs T C W b ρ H) W 0 ρ H1 = some r) : exS T C W (.forI x e b) ρ H = some r := by
  refine bnd (x := evE T C ρ e H) h ?_
  dsimp only
  rw [hi]
  exact k
theorem xForV {x i : Nat} {e : ME} {b : MSs} {xs : List MVal} (h : evE T C ρ e H = some (.ref i, H1)) (hi : H1[i]? = some (.list xs)) (k : loopF (nxtV i xs.length) x (fun ρ H => exSs T C W b ρ H) W 0 ρ H1 = some r) : exS T C W (.forV x e b) ρ H = some r := by
  refine bnd (x := evE T C ρ e H) h ?_
  dsimp only
  rw [hi]
  exact k
end
end Mine

end
section
open PySem
namespace Mine

section
set_option maxRecDepth 10000

theorem slice_at (l : List Nat) (p : Nat) (hl : l.length ≤ szLine) (hp : p ≤ 100001) : sliceS (.str l) (.int p) (.int (p + 1)) = some (.str ((l.drop p).take 1)) := by
  unfold sliceS
  have h : (0 : Int) ≤ p ∧ (0 : Int) ≤ (p : Int) + 1 ∧ (p : Int) ≤ 2 ^ 40 ∧ (p : Int) + 1 ≤ 2 ^ 40 ∧ l.length ≤ szLine := ⟨by omega, by omega, by omega, by omega, hl⟩
  simp only [h, and_self, if_true]
  have e1 : ((p : Int) + 1).toNat - (p : Int).toNat = 1 := by omega
  have e2 : (p : Int).toNat = p := by omega
  rw [e1, e2]

theorem slice_at1 (l : List Nat) (p : Nat) (hl : l.length ≤ szLine) (hp : p ≤ 100000) : sliceS (.str l) (.int (p + 1)) (.int (p + 1 + 1)) = some (.str ((l.drop (p + 1)).take 1)) := slice_at l (p + 1) hl (by omega)
noncomputable def scanO (l : List Nat) (er w : MVal) (p : Nat) : MObj := .inst 348 [(3531779979380, .str l), (4016836508134, er), (27591751409, .int p), (31352223864, w)]

section
variable (T : Tab) (C : CallF) (ρ : Loc) (H : MHeap)
theorem evT_cmp (o a b) : evT T C ρ (.cmp o a b) H = (evE T C ρ (.cmp o a b) H).bind fun (v, H1) => (truth v).map (·, H1) := evT_plain T C ρ H rfl
theorem evT_inT (o a b) : evT T C ρ (.inT o a b) H = (evE T C ρ (.inT o a b) H).bind fun (v, H1) => (truth v).map (·, H1) := evT_plain T C ρ H rfl
theorem evT_eqNil (o a) : evT T C ρ (.eqNil o a) H = (evE T C ρ (.eqNil o a) H).bind fun (v, H1) => (truth v).map (·, H1) := evT_plain T C ρ H rfl
theorem evT_isN (o a) : evT T C ρ (.isN o a) H = (evE T C ρ (.isN o a) H).bind fun (v, H1) => (truth v).map (·, H1) := evT_plain T C ρ H rfl
theorem evT_meth (o a b) : evT T C ρ (.meth o a b) H = (evE T C ρ (.meth o a b) H).bind fun (v, H1) => (truth v).map (·, H1) := evT_plain T C ρ H rfl
theorem evT_call (o a) : evT T C ρ (.call o a) H = (evE T C ρ (.call o a) H).bind fun (v, H1) => (truth v).map (·, H1) := evT_plain T C ρ H rfl
theorem evT_loc (o) : evT T C ρ (.loc o) H = (evE T C ρ (.loc o) H).bind fun (v, H1) => (truth v).map (·, H1) := evT_plain T C ρ H rfl
theorem evT_attr (o a) : evT T C ρ (.attr o a) H = (evE T C ρ (.attr o a) H).bind fun (v, H1) => (truth v).map (·, H1) := evT_plain T C ρ H rfl
theorem evT_bool (o) : evT T C ρ (.bool o) H = (evE T C ρ (.bool o) H).bind fun (v, H1) => (truth v).map (·, H1) := evT_plain T C ρ H rfl
theorem truth_bool (b) : truth (.bool b) = some b := rfl
theorem bin_add (a b : Int) : binop .add (.int a) (.int b) H = some (.int (a + b), H) := rfl
theorem bin_sub (a b : Int) : binop .sub (.int a) (.int b) H = some (.int (a - b), H) := rfl
theorem cmp_eqi (a b : Int) : cmpop .eq (.int a) (.int b) H = some (a == b) := rfl
theorem cmp_nei (a b : Int) : cmpop .ne (.int a) (.int b) H = some (!(a == b)) := rfl
theorem cmp_lt (a b : Int) : cmpop .lt (.int a) (.int b) H = some (decide (a < b)) := rfl
theorem cmp_le (a b : Int) : cmpop .le (.int a) (.int b) H = some (decide (a ≤ b)) := rfl
theorem cmp_gt (a b : Int) : cmpop .gt (.int a) (.int b) H = some (decide (b < a)) := rfl
theorem cmp_ge (a b : Int) : cmpop .ge (.int a) (.int b) H = some (decide (b ≤ a)) := rfl
theorem cmp_eqs (a b : List Nat) : cmpop .eq (.str a) (.str b) H = some (a == b) := rfl
theorem cmp_nes (a b : List Nat) : cmpop .ne (.str a) (.str b) H = some (!(a == b)) := rfl
theorem cmp_lts (a b : List Nat) : cmpop .lt (.str a) (.str b) H = some (ltL a b) := rfl
theorem cmp_les (a b : List Nat) : cmpop .le (.str a) (.str b) H = some (!(ltL b a)) := rfl
end

theorem meth_inst {H : MHeap} {i c m f : Nat} {fs : List (Nat × MVal)} (h : H[i]? = some (.inst c fs)) (hl : lk m fs = none) (hm : tb.meth c m = some f) : methOf tb (.ref i) m H = some (.fn f (.ref i)) := by
  unfold methOf; simp only [h, hl, hm, Option.map_some]
theorem getA_inst {H : MHeap} {i c a : Nat} {fs : List (Nat × MVal)} {v : MVal} (h : H[i]? = some (.inst c fs)) (hf : tb.fld c a = true) (hv : lk a fs = some v) : getA tb (.ref i) a H = some v := by
  unfold getA; simp only [h, hf, if_true, hv]
theorem setAt_inst {H : MHeap} {i c a : Nat} {fs : List (Nat × MVal)} (h : H[i]? = some (.inst c fs)) (hf : tb.fld c a = true) (hl : Nat.blt fs.length 40 = true) (v : MVal) : setAt tb (.ref i) a v H = some (H.set i (.inst c (put a v fs))) := by
  unfold setAt; simp only [h, hf, hl, Bool.and_self, if_true]
/-- the scanner's fields -/
theorem scan_source {H : MHeap} {S : Nat} {l : List Nat} {er w : MVal} {p : Nat} (h : H[S]? = some (scanO l er w p)) : getA tb (.ref S) 3531779979380 H = some (.str l) := by
  unfold getA; simp only [h, scanO]; rfl
theorem scan_place {H : MHeap} {S : Nat} {l : List Nat} {er w : MVal} {p : Nat} (h : H[S]? = some (scanO l er w p)) : getA tb (.ref S) 27591751409 H = some (.int p) := by
  unfold getA; simp only [h, scanO]; rfl
theorem scan_set {H : MHeap} {S : Nat} {l : List Nat} {er w : MVal} {p : Nat} (h : H[S]? = some (scanO l er w p)) (q : Nat) : setAt tb (.ref S) 27591751409 (.int q) H = some (H.set S (scanO l er w q)) := by
  unfold setAt; simp only [h, scanO]; rfl

theorem char0 {W d : Nat} {H : MHeap} {S : Nat} {l : List Nat} {er w : MVal} {p : Nat} (h : H[S]? = some (scanO l er w p)) (hl : l.length ≤ szLine) (hp : p ≤ 100001) : callF tb W (d + 1) 261 [.ref S] H = some (.str ((l.drop p).take 1), H) := by
  apply callF_go2 (ρ := [(217805684, .ref S), (27319186658, .int 0)]) (o := .ret (.str ((l.drop p).take 1))) rfl rfl rfl
  have e0 : sliceS (.str l) (.int ((p : Int) + 0)) (.int ((p : Int) + 0 + 1)) = some (.str ((l.drop p).take 1)) := by rw [Int.add_zero]; exact slice_at l p hl hp
  (have zz0 := scan_source h; have zz1 := scan_place h; (repeat' (first|with_reducible (first|assumption|exact xNil|apply xCons|apply nxN|exact nxR|exact nxB|exact nxC|apply eLoc|apply eAttr|apply eMeth|apply mcFn|exact eInt|exact eStr|exact esNil|apply esCons|apply eGlob|apply eCall|apply cvFn|apply xExpr|apply xRet|apply xSetL|apply xIte|apply xSetA|apply xSetI|apply xUnp|apply xAugA|exact xBrk|exact xCont|apply xWhl|apply lwStep|apply gtT|exact gtF|apply gwN|exact gwR|apply ifT|apply ifF|apply tAnd|apply tOr|apply tNot|exact alNil|apply alCons|exact ayNil|apply ayCons|apply tPlain|apply eCmp|apply eBin|apply eIdx|apply eSlc|apply eBi|exact eNone|exact eBool|apply eInT|apply eIsN|apply eEqNil|apply eNot|apply eIte|apply eList|apply eTup|apply eCel|exact eNeg|exact eDict0|apply eAnd|apply eOr|apply anOne|apply anTwo|apply orOne|apply orTwo|exact bAdd|exact bSub|apply cEqS|apply cNeS|apply cEqI|apply cNeI|apply cLt|apply cLe|apply cGt|apply cGe|apply cLtS|apply cLeS|apply cInS)|((with_reducible apply lkHit); exact Eq.refl true)|((with_reducible apply lkHere); exact Eq.refl true)|((with_reducible apply lkMiss); exact Eq.refl false)|((with_reducible apply lkNext); exact Eq.refl false)|with_reducible apply xForS|((with_reducible apply lfE); (with_reducible assumption))|((with_reducible apply lfN); (with_reducible assumption))|((with_reducible apply setAt_last) <;> exact Eq.refl true)|exact Eq.refl true|exact Eq.refl false|exact xNil|with_reducible exact nxR|(apply xCons)|(apply xSetL)|(apply xExpr)|(apply xIte)|(apply xRet)|(apply xSetA)|exact rfl)))
theorem char1 {W d : Nat} {H : MHeap} {S : Nat} {l : List Nat} {er w : MVal} {p : Nat} (h : H[S]? = some (scanO l er w p)) (hl : l.length ≤ szLine) (hp : p ≤ 100000) : callF tb W (d + 1) 261 [.ref S, .int 1] H = some (.str ((l.drop (p + 1)).take 1), H) := by
  apply callF_go2 (ρ := [(217805684, .ref S), (27319186658, .int 1)]) (o := .ret (.str ((l.drop (p + 1)).take 1))) rfl rfl rfl
  (have zz0 := scan_source h; have zz1 := scan_place h; have zz2 := slice_at1 l p hl hp; (repeat' (first|with_reducible (first|assumption|exact xNil|apply xCons|apply nxN|exact nxR|exact nxB|exact nxC|apply eLoc|apply eAttr|apply eMeth|apply mcFn|exact eInt|exact eStr|exact esNil|apply esCons|apply eGlob|apply eCall|apply cvFn|apply xExpr|apply xRet|apply xSetL|apply xIte|apply xSetA|apply xSetI|apply xUnp|apply xAugA|exact xBrk|exact xCont|apply xWhl|apply lwStep|apply gtT|exact gtF|apply gwN|exact gwR|apply ifT|apply ifF|apply tAnd|apply tOr|apply tNot|exact alNil|apply alCons|exact ayNil|apply ayCons|apply tPlain|apply eCmp|apply eBin|apply eIdx|apply eSlc|apply eBi|exact eNone|exact eBool|apply eInT|apply eIsN|apply eEqNil|apply eNot|apply eIte|apply eList|apply eTup|apply eCel|exact eNeg|exact eDict0|apply eAnd|apply eOr|apply anOne|apply anTwo|apply orOne|apply orTwo|exact bAdd|exact bSub|apply cEqS|apply cNeS|apply cEqI|apply cNeI|apply cLt|apply cLe|apply cGt|apply cGe|apply cLtS|apply cLeS|apply cInS)|((with_reducible apply lkHit); exact Eq.refl true)|((with_reducible apply lkHere); exact Eq.refl true)|((with_reducible apply lkMiss); exact Eq.refl false)|((with_reducible apply lkNext); exact Eq.refl false)|with_reducible apply xForS|((with_reducible apply lfE); (with_reducible assumption))|((with_reducible apply lfN); (with_reducible assumption))|((with_reducible apply setAt_last) <;> exact Eq.refl true)|exact Eq.refl true|exact Eq.refl false|exact xNil|with_reducible exact nxR|(apply xCons)|(apply xSetL)|(apply xExpr)|(apply xIte)|(apply xRet)|(apply xSetA)|exact rfl)))
theorem is_letter_ {W d : Nat} {H : MHeap} (c : List Nat) : callF tb W (d + 1) 218 [.str c] H = some (.bool ((!(ltL c [97]) && !(ltL [122] c)) || (!(ltL c [65]) && !(ltL [90] c))), H) := by
  exact callF_go2 (ρ := [(242791652, .str c)]) (o := .ret _) rfl rfl rfl <| xCons (xRet (eOr (orB (eAnd (anB (leS (lkHere rfl)) (anOne (leS' (lkHere rfl))))) (orOne (eAnd (anB (leS (lkHere rfl)) (anOne (leS' (lkHere rfl))))))))) nxR
theorem is_digit_ {W d : Nat} {H : MHeap} (c : List Nat) : callF tb W (d + 1) 225 [.str c] H = some (.bool (!(ltL c [48]) && !(ltL [57] c)), H) := by
  exact callF_go2 (ρ := [(242791652, .str c)]) (o := .ret _) rfl rfl rfl <| xCons (xRet (eAnd (anB (leS (lkHere rfl)) (anOne (leS' (lkHere rfl)))))) nxR

noncomputable def stopAt (r : List Nat) : Bool := match r with
  | [] => true
  | x :: t => decide (32 < x) && !(x == 40 && t.take 1 == [42])
theorem drop_succ {l r : List Nat} {p c : Nat} (h : l.drop p = c :: r) : l.drop (p + 1) = r := by
  rw [← List.drop_drop, h]; rfl
theorem ord_1 (c : Nat) (H : MHeap) : builtin .ord [.str [c]] H = some (.int c) := rfl

theorem skip0 {W d : Nat} {H : MHeap} {S : Nat} {l : List Nat} {er w : MVal} {p : Nat} (h : H[S]? = some (scanO l er w p)) (hl : l.length ≤ szLine) (hp : p ≤ 100000) (hs : stopAt (l.drop p) = true) :
    callF tb (W + 1) (d + 2) 275 [.ref S] H = some (.none, H) := by
  have c0 := char0 (W := W + 1) (d := d) h hl (by omega)
  have c1 := char1 (W := W + 1) (d := d) h hl hp
  have m1 : methOf tb (.ref S) 242791652 H = some (.fn 261 (.ref S)) := meth_inst (c := 348) h rfl rfl
  cases hr : l.drop p with
  | nil =>
    rw [hr] at c0
    have c0 : callF tb (W + 1) (d + 1) 261 [.ref S] H = some (.str [], H) := c0
    apply callF_go2 (ρ := [(217805684, .ref S)]) (o := .ret .none) rfl rfl rfl
    (have zz0 := m1; have zz1 := c0; (repeat' (first|with_reducible (first|assumption|exact xNil|apply xCons|apply nxN|exact nxR|exact nxB|exact nxC|apply eLoc|apply eAttr|apply eMeth|apply mcFn|exact eInt|exact eStr|exact esNil|apply esCons|apply eGlob|apply eCall|apply cvFn|apply xExpr|apply xRet|apply xSetL|apply xIte|apply xSetA|apply xSetI|apply xUnp|apply xAugA|exact xBrk|exact xCont|apply xWhl|apply lwStep|apply gtT|exact gtF|apply gwN|exact gwR|apply ifT|apply ifF|apply tAnd|apply tOr|apply tNot|exact alNil|apply alCons|exact ayNil|apply ayCons|apply tPlain|apply eCmp|apply eBin|apply eIdx|apply eSlc|apply eBi|exact eNone|exact eBool|apply eInT|apply eIsN|apply eEqNil|apply eNot|apply eIte|apply eList|apply eTup|apply eCel|exact eNeg|exact eDict0|apply eAnd|apply eOr|apply anOne|apply anTwo|apply orOne|apply orTwo|exact bAdd|exact bSub|apply cEqS|apply cNeS|apply cEqI|apply cNeI|apply cLt|apply cLe|apply cGt|apply cGe|apply cLtS|apply cLeS|apply cInS)|((with_reducible apply lkHit); exact Eq.refl true)|((with_reducible apply lkHere); exact Eq.refl true)|((with_reducible apply lkMiss); exact Eq.refl false)|((with_reducible apply lkNext); exact Eq.refl false)|with_reducible apply xForS|((with_reducible apply lfE); (with_reducible assumption))|((with_reducible apply lfN); (with_reducible assumption))|((with_reducible apply setAt_last) <;> exact Eq.refl true)|exact Eq.refl true|exact Eq.refl false|exact xNil|with_reducible exact nxR|(apply xCons)|(apply xSetL)|(apply xExpr)|(apply xIte)|(apply xRet)|(apply xSetA)|exact rfl)))
  | cons x t =>
    rw [hr] at c0 hs
    rw [drop_succ hr] at c1
    have c0 : callF tb (W + 1) (d + 1) 261 [.ref S] H = some (.str [x], H) := c0
    simp only [stopAt, Bool.and_eq_true, Bool.not_eq_true', decide_eq_true_eq] at hs
    obtain ⟨hx, hn⟩ := hs
    have hle : decide ((x : Int) ≤ 32) = false := decide_eq_false (by omega)
    by_cases q : x = 40
    · subst q
      have hn' : (t.take 1 == [42]) = false := by simpa using hn
      apply callF_go2 (ρ := [(217805684, .ref S)]) (o := .ret .none) rfl rfl rfl
      (have zz0 := m1; have zz1 := c0; have zz2 := c1; have zz3 := hn'; have zz4 := ord_1 40 H; have zz5 := hle; (repeat' (first|with_reducible (first|assumption|exact xNil|apply xCons|apply nxN|exact nxR|exact nxB|exact nxC|apply eLoc|apply eAttr|apply eMeth|apply mcFn|exact eInt|exact eStr|exact esNil|apply esCons|apply eGlob|apply eCall|apply cvFn|apply xExpr|apply xRet|apply xSetL|apply xIte|apply xSetA|apply xSetI|apply xUnp|apply xAugA|exact xBrk|exact xCont|apply xWhl|apply lwStep|apply gtT|exact gtF|apply gwN|exact gwR|apply ifT|apply ifF|apply tAnd|apply tOr|apply tNot|exact alNil|apply alCons|exact ayNil|apply ayCons|apply tPlain|apply eCmp|apply eBin|apply eIdx|apply eSlc|apply eBi|exact eNone|exact eBool|apply eInT|apply eIsN|apply eEqNil|apply eNot|apply eIte|apply eList|apply eTup|apply eCel|exact eNeg|exact eDict0|apply eAnd|apply eOr|apply anOne|apply anTwo|apply orOne|apply orTwo|exact bAdd|exact bSub|apply cEqS|apply cNeS|apply cEqI|apply cNeI|apply cLt|apply cLe|apply cGt|apply cGe|apply cLtS|apply cLeS|apply cInS)|((with_reducible apply lkHit); exact Eq.refl true)|((with_reducible apply lkHere); exact Eq.refl true)|((with_reducible apply lkMiss); exact Eq.refl false)|((with_reducible apply lkNext); exact Eq.refl false)|with_reducible apply xForS|((with_reducible apply lfE); (with_reducible assumption))|((with_reducible apply lfN); (with_reducible assumption))|((with_reducible apply setAt_last) <;> exact Eq.refl true)|exact Eq.refl true|exact Eq.refl false|exact xNil|with_reducible exact nxR|(apply xCons)|(apply xSetL)|(apply xExpr)|(apply xIte)|(apply xRet)|(apply xSetA)|exact rfl)))
    · have q' : ([x] == ([40] : List Nat)) = false := by simp [q]
      apply callF_go2 (ρ := [(217805684, .ref S)]) (o := .ret .none) rfl rfl rfl
      (have zz0 := m1; have zz1 := c0; have zz2 := c1; have zz3 := q'; have zz4 := ord_1 x H; have zz5 := hle; (repeat' (first|with_reducible (first|assumption|exact xNil|apply xCons|apply nxN|exact nxR|exact nxB|exact nxC|apply eLoc|apply eAttr|apply eMeth|apply mcFn|exact eInt|exact eStr|exact esNil|apply esCons|apply eGlob|apply eCall|apply cvFn|apply xExpr|apply xRet|apply xSetL|apply xIte|apply xSetA|apply xSetI|apply xUnp|apply xAugA|exact xBrk|exact xCont|apply xWhl|apply lwStep|apply gtT|exact gtF|apply gwN|exact gwR|apply ifT|apply ifF|apply tAnd|apply tOr|apply tNot|exact alNil|apply alCons|exact ayNil|apply ayCons|apply tPlain|apply eCmp|apply eBin|apply eIdx|apply eSlc|apply eBi|exact eNone|exact eBool|apply eInT|apply eIsN|apply eEqNil|apply eNot|apply eIte|apply eList|apply eTup|apply eCel|exact eNeg|exact eDict0|apply eAnd|apply eOr|apply anOne|apply anTwo|apply orOne|apply orTwo|exact bAdd|exact bSub|apply cEqS|apply cNeS|apply cEqI|apply cNeI|apply cLt|apply cLe|apply cGt|apply cGe|apply cLtS|apply cLeS|apply cInS)|((with_reducible apply lkHit); exact Eq.refl true)|((with_reducible apply lkHere); exact Eq.refl true)|((with_reducible apply lkMiss); exact Eq.refl false)|((with_reducible apply lkNext); exact Eq.refl false)|with_reducible apply xForS|((with_reducible apply lfE); (with_reducible assumption))|((with_reducible apply lfN); (with_reducible assumption))|((with_reducible apply setAt_last) <;> exact Eq.refl true)|exact Eq.refl true|exact Eq.refl false|exact xNil|with_reducible exact nxR|(apply xCons)|(apply xSetL)|(apply xExpr)|(apply xIte)|(apply xRet)|(apply xSetA)|exact rfl)))

theorem get_set {H : MHeap} {i : Nat} {a : MObj} (h : H[i]? = some a) (b : MObj) : (H.set i b)[i]? = some b := by
  have : i < H.length := by
    rcases Nat.lt_or_ge i H.length with q | q
    · exact q
    · rw [List.getElem?_eq_none q] at h; cases h
  simp [this]

theorem skip1 {W d : Nat} {H : MHeap} {S : Nat} {l : List Nat} {er w : MVal} {p : Nat} {r : List Nat} (h : H[S]? = some (scanO l er w p)) (hl : l.length ≤ szLine) (hp : p ≤ 99999) (hd : l.drop p = 32 :: r) (hs : stopAt r = true) :
    callF tb (W + 2) (d + 2) 275 [.ref S] H = some (.none, H.set S (scanO l er w (p + 1))) := by
  have h1 := get_set h (scanO l er w (p + 1))
  have c0 := char0 (W := W + 2) (d := d) h hl (by omega)
  have c0' := char0 (W := W + 2) (d := d) h1 hl (by omega)
  have c1' := char1 (W := W + 2) (d := d) h1 hl (by omega)
  have m1 : methOf tb (.ref S) 242791652 H = some (.fn 261 (.ref S)) := meth_inst (c := 348) h rfl rfl
  have m1' : methOf tb (.ref S) 242791652 (H.set S (scanO l er w (p + 1))) = some (.fn 261 (.ref S)) := meth_inst (c := 348) h1 rfl rfl
  have st := scan_set h (p + 1)
  have e1 : ((p + 1 : Nat) : Int) = (p : Int) + 1 := by omega
  rw [e1] at st
  rw [hd] at c0
  rw [drop_succ hd] at c0'
  have q0 : ([32] == ([40] : List Nat)) = false := rfl
  have q1 : ([32] == ([] : List Nat)) = false := rfl
  have q2 : decide (((32 : Nat) : Int) ≤ 32) = true := rfl
  have c0 : callF tb (W + 2) (d + 1) 261 [.ref S] H = some (.str [32], H) := c0
  cases hr : r with
  | nil =>
    rw [hr] at c0'
    have c0' : callF tb (W + 2) (d + 1) 261 [.ref S] (H.set S (scanO l er w (p + 1))) = some (.str [], (H.set S (scanO l er w (p + 1)))) := c0'
    apply callF_go2 (ρ := [(217805684, .ref S)]) (o := .ret .none) rfl rfl rfl
    (have zz0 := m1; have zz1 := c0; have zz2 := q0; have zz3 := q1; have zz4 := q2; have zz5 := ord_1 32 H; have zz6 := scan_place h; have zz7 := st; have zz8 := m1'; have zz9 := c0'; (repeat' (first|with_reducible (first|assumption|exact xNil|apply xCons|apply nxN|exact nxR|exact nxB|exact nxC|apply eLoc|apply eAttr|apply eMeth|apply mcFn|exact eInt|exact eStr|exact esNil|apply esCons|apply eGlob|apply eCall|apply cvFn|apply xExpr|apply xRet|apply xSetL|apply xIte|apply xSetA|apply xSetI|apply xUnp|apply xAugA|exact xBrk|exact xCont|apply xWhl|apply lwStep|apply gtT|exact gtF|apply gwN|exact gwR|apply ifT|apply ifF|apply tAnd|apply tOr|apply tNot|exact alNil|apply alCons|exact ayNil|apply ayCons|apply tPlain|apply eCmp|apply eBin|apply eIdx|apply eSlc|apply eBi|exact eNone|exact eBool|apply eInT|apply eIsN|apply eEqNil|apply eNot|apply eIte|apply eList|apply eTup|apply eCel|exact eNeg|exact eDict0|apply eAnd|apply eOr|apply anOne|apply anTwo|apply orOne|apply orTwo|exact bAdd|exact bSub|apply cEqS|apply cNeS|apply cEqI|apply cNeI|apply cLt|apply cLe|apply cGt|apply cGe|apply cLtS|apply cLeS|apply cInS)|((with_reducible apply lkHit); exact Eq.refl true)|((with_reducible apply lkHere); exact Eq.refl true)|((with_reducible apply lkMiss); exact Eq.refl false)|((with_reducible apply lkNext); exact Eq.refl false)|with_reducible apply xForS|((with_reducible apply lfE); (with_reducible assumption))|((with_reducible apply lfN); (with_reducible assumption))|((with_reducible apply setAt_last) <;> exact Eq.refl true)|exact Eq.refl true|exact Eq.refl false|exact xNil|with_reducible exact nxR|(apply xCons)|(apply xSetL)|(apply xExpr)|(apply xIte)|(apply xRet)|(apply xSetA)|exact rfl)))
  | cons x t =>
    subst hr
    rw [drop_succ (drop_succ hd)] at c1'
    have c0' : callF tb (W + 2) (d + 1) 261 [.ref S] (H.set S (scanO l er w (p + 1))) = some (.str [x], (H.set S (scanO l er w (p + 1)))) := c0'
    simp only [stopAt, Bool.and_eq_true, Bool.not_eq_true', decide_eq_true_eq] at hs
    obtain ⟨hx, hn⟩ := hs
    have hle : decide ((x : Int) ≤ 32) = false := decide_eq_false (by omega)
    generalize H.set S (scanO l er w (p + 1)) = B at *
    by_cases q : x = 40
    · subst q
      have hn' : (t.take 1 == [42]) = false := by simpa using hn
      apply callF_go2 (ρ := [(217805684, .ref S)]) (o := .ret .none) rfl rfl rfl
      (have zz0 := m1; have zz1 := c0; have zz2 := q0; have zz3 := q1; have zz4 := q2; have zz5 := ord_1 32 H; have zz6 := scan_place h; have zz7 := st; have zz8 := m1'; have zz9 := c0'; have zz10 := c1'; have zz11 := hn'; have zz12 := hle; (repeat' (first|with_reducible (first|assumption|exact xNil|apply xCons|apply nxN|exact nxR|exact nxB|exact nxC|apply eLoc|apply eAttr|apply eMeth|apply mcFn|exact eInt|exact eStr|exact esNil|apply esCons|apply eGlob|apply eCall|apply cvFn|apply xExpr|apply xRet|apply xSetL|apply xIte|apply xSetA|apply xSetI|apply xUnp|apply xAugA|exact xBrk|exact xCont|apply xWhl|apply lwStep|apply gtT|exact gtF|apply gwN|exact gwR|apply ifT|apply ifF|apply tAnd|apply tOr|apply tNot|exact alNil|apply alCons|exact ayNil|apply ayCons|apply tPlain|apply eCmp|apply eBin|apply eIdx|apply eSlc|apply eBi|exact eNone|exact eBool|apply eInT|apply eIsN|apply eEqNil|apply eNot|apply eIte|apply eList|apply eTup|apply eCel|exact eNeg|exact eDict0|apply eAnd|apply eOr|apply anOne|apply anTwo|apply orOne|apply orTwo|exact bAdd|exact bSub|apply cEqS|apply cNeS|apply cEqI|apply cNeI|apply cLt|apply cLe|apply cGt|apply cGe|apply cLtS|apply cLeS|apply cInS)|((with_reducible apply lkHit); exact Eq.refl true)|((with_reducible apply lkHere); exact Eq.refl true)|((with_reducible apply lkMiss); exact Eq.refl false)|((with_reducible apply lkNext); exact Eq.refl false)|with_reducible apply xForS|((with_reducible apply lfE); (with_reducible assumption))|((with_reducible apply lfN); (with_reducible assumption))|((with_reducible apply setAt_last) <;> exact Eq.refl true)|exact Eq.refl true|exact Eq.refl false|exact xNil|with_reducible exact nxR|(apply xCons)|(apply xSetL)|(apply xExpr)|(apply xIte)|(apply xRet)|(apply xSetA)|exact rfl)))
    · have q' : ([x] == ([40] : List Nat)) = false := by simp [q]
      apply callF_go2 (ρ := [(217805684, .ref S)]) (o := .ret .none) rfl rfl rfl
      (have zz0 := m1; have zz1 := c0; have zz2 := q0; have zz3 := q1; have zz4 := q2; have zz5 := ord_1 32 H; have zz6 := scan_place h; have zz7 := st; have zz8 := m1'; have zz9 := c0'; have zz10 := c1'; have zz11 := q'; have zz12 := ord_1 x B; have zz13 := hle; (repeat' (first|with_reducible (first|assumption|exact xNil|apply xCons|apply nxN|exact nxR|exact nxB|exact nxC|apply eLoc|apply eAttr|apply eMeth|apply mcFn|exact eInt|exact eStr|exact esNil|apply esCons|apply eGlob|apply eCall|apply cvFn|apply xExpr|apply xRet|apply xSetL|apply xIte|apply xSetA|apply xSetI|apply xUnp|apply xAugA|exact xBrk|exact xCont|apply xWhl|apply lwStep|apply gtT|exact gtF|apply gwN|exact gwR|apply ifT|apply ifF|apply tAnd|apply tOr|apply tNot|exact alNil|apply alCons|exact ayNil|apply ayCons|apply tPlain|apply eCmp|apply eBin|apply eIdx|apply eSlc|apply eBi|exact eNone|exact eBool|apply eInT|apply eIsN|apply eEqNil|apply eNot|apply eIte|apply eList|apply eTup|apply eCel|exact eNeg|exact eDict0|apply eAnd|apply eOr|apply anOne|apply anTwo|apply orOne|apply orTwo|exact bAdd|exact bSub|apply cEqS|apply cNeS|apply cEqI|apply cNeI|apply cLt|apply cLe|apply cGt|apply cGe|apply cLtS|apply cLeS|apply cInS)|((with_reducible apply lkHit); exact Eq.refl true)|((with_reducible apply lkHere); exact Eq.refl true)|((with_reducible apply lkMiss); exact Eq.refl false)|((with_reducible apply lkNext); exact Eq.refl false)|with_reducible apply xForS|((with_reducible apply lfE); (with_reducible assumption))|((with_reducible apply lfN); (with_reducible assumption))|((with_reducible apply setAt_last) <;> exact Eq.refl true)|exact Eq.refl true|exact Eq.refl false|exact xNil|with_reducible exact nxR|(apply xCons)|(apply xSetL)|(apply xExpr)|(apply xIte)|(apply xRet)|(apply xSetA)|exact rfl)))

/-- a made Token -/
noncomputable def tokO (k : List Nat) (v : MVal) (p : Nat) : MObj := .inst 200 [(213644652, .str k), (27629678967, v), (27591751409, .int p)]
theorem token_init {W d : Nat} {H : MHeap} (k : List Nat) (v : MVal) (p : Int) : callF tb W (d + 1) 197 [.ref H.length, .str k, v, .int p] (H ++ [.inst 200 []]) = some (.none, H ++ [.inst 200 [(213644652, .str k), (27629678967, v), (27591751409, .int p)]]) := by
  apply callF_go2 (ρ := [(217805684, .ref H.length), (213644652, .str k), (27629678967, v), (27591751409, .int p)]) (o := .next) rfl rfl rfl
  ((repeat' (first|with_reducible (first|assumption|exact xNil|apply xCons|apply nxN|exact nxR|exact nxB|exact nxC|apply eLoc|apply eAttr|apply eMeth|apply mcFn|exact eInt|exact eStr|exact esNil|apply esCons|apply eGlob|apply eCall|apply cvFn|apply xExpr|apply xRet|apply xSetL|apply xIte|apply xSetA|apply xSetI|apply xUnp|apply xAugA|exact xBrk|exact xCont|apply xWhl|apply lwStep|apply gtT|exact gtF|apply gwN|exact gwR|apply ifT|apply ifF|apply tAnd|apply tOr|apply tNot|exact alNil|apply alCons|exact ayNil|apply ayCons|apply tPlain|apply eCmp|apply eBin|apply eIdx|apply eSlc|apply eBi|exact eNone|exact eBool|apply eInT|apply eIsN|apply eEqNil|apply eNot|apply eIte|apply eList|apply eTup|apply eCel|exact eNeg|exact eDict0|apply eAnd|apply eOr|apply anOne|apply anTwo|apply orOne|apply orTwo|exact bAdd|exact bSub|apply cEqS|apply cNeS|apply cEqI|apply cNeI|apply cLt|apply cLe|apply cGt|apply cGe|apply cLtS|apply cLeS|apply cInS)|((with_reducible apply lkHit); exact Eq.refl true)|((with_reducible apply lkHere); exact Eq.refl true)|((with_reducible apply lkMiss); exact Eq.refl false)|((with_reducible apply lkNext); exact Eq.refl false)|with_reducible apply xForS|((with_reducible apply lfE); (with_reducible assumption))|((with_reducible apply lfN); (with_reducible assumption))|((with_reducible apply setAt_last) <;> exact Eq.refl true)|exact Eq.refl true|exact Eq.refl false|exact xNil|with_reducible exact nxR|(apply xCons)|(apply xSetL)|(apply xExpr)|(apply xIte)|(apply xRet)|(apply xSetA)|exact rfl)))
theorem callV_token {W d : Nat} {H : MHeap} (k : List Nat) (v : MVal) (p : Nat) : callV tb (callF tb W (d + 1)) (.cls 200) [.str k, v, .int p] H = some (.ref H.length, H ++ [tokO k v p]) := by
  exact cvCls rfl (token_init k v p)


end
section
set_option maxRecDepth 10000

noncomputable def isL (c : List Nat) : Bool := (!(ltL c [97]) && !(ltL [122] c)) || (!(ltL c [65]) && !(ltL [90] c))
noncomputable def isD (c : List Nat) : Bool := !(ltL c [48]) && !(ltL [57] c)
theorem is_letter' {W d : Nat} {H : MHeap} (c : List Nat) : callF tb W (d + 1) 218 [.str c] H = some (.bool (isL c), H) := is_letter_ c
theorem is_digit' {W d : Nat} {H : MHeap} (c : List Nat) : callF tb W (d + 1) 225 [.str c] H = some (.bool (isD c), H) := is_digit_ c
theorem in_s (c : Nat) (b : List Nat) (H : MHeap) : cmpop .in_ (.str [c]) (.str b) H = some (b.contains c) := rfl
theorem add_s (a b : List Nat) (H : MHeap) (h : a.length + b.length ≤ szLine) : binop .add (.str a) (.str b) H = some (.str (a ++ b), H) := if_pos h

theorem symbol_ {W d : Nat} {H : MHeap} {S : Nat} {l : List Nat} {er w : MVal} {p c : Nat} {r : List Nat} (h : H[S]? = some (scanO l er w p)) (hl : l.length ≤ szLine) (hp : p ≤ 100000) (hd : l.drop p = c :: r)
    (hc : ([43, 45, 42, 47, 126, 38, 46, 44, 59, 124, 40, 91, 123, 94, 61, 35, 60, 62, 58, 41, 93, 125] : List Nat).contains c = true) (hn : ([[58, 61], [60, 61], [62, 61], [46, 46]] : List (List Nat)).contains (c :: r.take 1) = false) :
    callF tb W (d + 2) 345 [.ref S] H = some (.str [c], H) := by
  have c0 := char0 (W := W) (d := d) h hl (by omega)
  have c1 := char1 (W := W) (d := d) h hl hp
  rw [hd] at c0
  rw [drop_succ hd] at c1
  have m1 : methOf tb (.ref S) 242791652 H = some (.fn 261 (.ref S)) := meth_inst (c := 348) h rfl rfl
  have a1 : binop .add (.str [c]) (.str (r.take 1)) H = some (.str (c :: r.take 1), H) := add_s _ _ _ (by rw [List.length_take, List.length_singleton, show szLine = 1048576 from by decide]; omega)
  have c0 : callF tb W (d + 1) 261 [.ref S] H = some (.str [c], H) := c0
  apply callF_go2 (ρ := [(217805684, .ref S)]) (o := .ret (.str [c])) rfl rfl rfl
  (have zz0 := m1; have zz1 := c0; have zz2 := c1; have zz3 := a1; have zz4 := hn; have zz5 := hc; (repeat' (first|with_reducible (first|assumption|exact xNil|apply xCons|apply nxN|exact nxR|exact nxB|exact nxC|apply eLoc|apply eAttr|apply eMeth|apply mcFn|exact eInt|exact eStr|exact esNil|apply esCons|apply eGlob|apply eCall|apply cvFn|apply xExpr|apply xRet|apply xSetL|apply xIte|apply xSetA|apply xSetI|apply xUnp|apply xAugA|exact xBrk|exact xCont|apply xWhl|apply lwStep|apply gtT|exact gtF|apply gwN|exact gwR|apply ifT|apply ifF|apply tAnd|apply tOr|apply tNot|exact alNil|apply alCons|exact ayNil|apply ayCons|apply tPlain|apply eCmp|apply eBin|apply eIdx|apply eSlc|apply eBi|exact eNone|exact eBool|apply eInT|apply eIsN|apply eEqNil|apply eNot|apply eIte|apply eList|apply eTup|apply eCel|exact eNeg|exact eDict0|apply eAnd|apply eOr|apply anOne|apply anTwo|apply orOne|apply orTwo|exact bAdd|exact bSub|apply cEqS|apply cNeS|apply cEqI|apply cNeI|apply cLt|apply cLe|apply cGt|apply cGe|apply cLtS|apply cLeS|apply cInS)|((with_reducible apply lkHit); exact Eq.refl true)|((with_reducible apply lkHere); exact Eq.refl true)|((with_reducible apply lkMiss); exact Eq.refl false)|((with_reducible apply lkNext); exact Eq.refl false)|with_reducible apply xForS|((with_reducible apply lfE); (with_reducible assumption))|((with_reducible apply lfN); (with_reducible assumption))|((with_reducible apply setAt_last) <;> exact Eq.refl true)|exact Eq.refl true|exact Eq.refl false|exact xNil|with_reducible exact nxR|(apply xCons)|(apply xSetL)|(apply xExpr)|(apply xIte)|(apply xRet)|(apply xSetA)|exact rfl)))

/-- an identifier of one letter -/
theorem word_ {W d : Nat} {H : MHeap} {S wi : Nat} {l : List Nat} {er : MVal} {p c : Nat} {r : List Nat} {ws : List MVal} {ls : List (List Nat)} (h : H[S]? = some (scanO l er (.ref wi) p)) (hl : l.length ≤ szLine) (hp : p ≤ 100000) (hd : l.drop p = c :: r)
    (hL : isL [c] = true) (hn : isL (r.take 1) = false) (hn' : isD (r.take 1) = false) (hw : H[wi]? = some (.tup ws)) (hws : strsOf ws = some ls) (hk : ls.contains [c] = false) (hne : wi ≠ S) :
    callF tb (W + 2) (d + 2) 289 [.ref S, .int p] H = some (.ref H.length, H.set S (scanO l er (.ref wi) (p + 1)) ++ [tokO [105, 100, 101, 110, 116] (.str [c]) p]) := by
  have st := scan_set h (p + 1)
  have e1 : ((p + 1 : Nat) : Int) = (p : Int) + 1 := by omega
  rw [e1] at st
  have s0 := slice_at l p hl (by omega)
  have s1 := slice_at1 l p hl hp
  rw [hd] at s0
  rw [drop_succ hd] at s1
  have h1 := get_set h (scanO l er (.ref wi) (p + 1))
  have so1 := scan_source h1
  have w1 : getA tb (.ref S) 31352223864 (H.set S (scanO l er (.ref wi) (p + 1))) = some (.ref wi) := getA_inst (c := 348) h1 rfl rfl
  have hw1 : (H.set S (scanO l er (.ref wi) (p + 1)))[wi]? = some (.tup ws) := by rw [List.getElem?_set_ne (Ne.symm hne)]; exact hw
  have i1 : cmpop .in_ (.str [c]) (.ref wi) (H.set S (scanO l er (.ref wi) (p + 1))) = some false := inRefTup hw1 hws hk
  have tk := callV_token (W := W + 2) (d := d) (H := H.set S (scanO l er (.ref wi) (p + 1))) [105, 100, 101, 110, 116] (.str [c]) p
  rw [List.length_set] at tk
  have l1 : callF tb (W + 2) (d + 1) 218 [.str [c]] H = some (.bool true, H) := by rw [is_letter', hL]
  have l2 : callF tb (W + 2) (d + 1) 218 [.str (r.take 1)] H = some (.bool false, H) := by rw [is_letter', hn]
  have l3 : callF tb (W + 2) (d + 1) 225 [.str (r.take 1)] H = some (.bool false, H) := by rw [is_digit', hn']
  have s0 : sliceS (.str l) (.int p) (.int (p + 1)) = some (.str [c]) := s0
  generalize H.set S (scanO l er (.ref wi) (p + 1)) = B at *
  apply callF_go2 (ρ := [(217805684, .ref S), (30045516643, .int p)]) (o := .ret (.ref H.length)) rfl rfl rfl
  (have zz0 := scan_source h; have zz1 := scan_place h; have zz2 := s0; have zz3 := s1; have zz4 := st; have zz5 := so1; have zz6 := w1; have zz7 := i1; have zz8 := tk; (repeat' (first|with_reducible (first|assumption|exact xNil|apply xCons|apply nxN|exact nxR|exact nxB|exact nxC|apply eLoc|apply eAttr|apply eMeth|apply mcFn|exact eInt|exact eStr|exact esNil|apply esCons|apply eGlob|apply eCall|apply cvFn|apply xExpr|apply xRet|apply xSetL|apply xIte|apply xSetA|apply xSetI|apply xUnp|apply xAugA|exact xBrk|exact xCont|apply xWhl|apply lwStep|apply gtT|exact gtF|apply gwN|exact gwR|apply ifT|apply ifF|apply tAnd|apply tOr|apply tNot|exact alNil|apply alCons|exact ayNil|apply ayCons|apply tPlain|apply eCmp|apply eBin|apply eIdx|apply eSlc|apply eBi|exact eNone|exact eBool|apply eInT|apply eIsN|apply eEqNil|apply eNot|apply eIte|apply eList|apply eTup|apply eCel|exact eNeg|exact eDict0|apply eAnd|apply eOr|apply anOne|apply anTwo|apply orOne|apply orTwo|exact bAdd|exact bSub|apply cEqS|apply cNeS|apply cEqI|apply cNeI|apply cLt|apply cLe|apply cGt|apply cGe|apply cLtS|apply cLeS|apply cInS)|((with_reducible apply lkHit); exact Eq.refl true)|((with_reducible apply lkHere); exact Eq.refl true)|((with_reducible apply lkMiss); exact Eq.refl false)|((with_reducible apply lkNext); exact Eq.refl false)|with_reducible apply xForS|((with_reducible apply lfE); (with_reducible assumption))|((with_reducible apply lfN); (with_reducible assumption))|((with_reducible apply setAt_last) <;> exact Eq.refl true)|exact Eq.refl true|exact Eq.refl false|exact xNil|with_reducible exact nxR|(apply xCons)|(apply xSetL)|(apply xExpr)|(apply xIte)|(apply xRet)|(apply xSetA)|exact rfl)))


end
section
set_option maxRecDepth 10000

noncomputable def isH (c : List Nat) : Bool := isD c || (!(ltL c [65]) && !(ltL [70] c))
theorem is_hex' {W d : Nat} {H : MHeap} (c : List Nat) : callF tb W (d + 2) 232 [.str c] H = some (.bool (isH c), H) := by
  have e := is_digit' (W := W) (d := d) (H := H) c
  exact callF_go2 (ρ := [(242791652, .str c)]) (o := .ret (.bool (isH c))) rfl rfl rfl <| xCons (xRet (eOr (orB (eCall (eGlob rfl) (esCons (eLoc (lkHere rfl)) esNil) (cvFn rfl e)) (orOne (eAnd (anB (leS (lkHere rfl)) (anOne (leS' (lkHere rfl))))))))) nxR

theorem find_lit (c : Nat) (h : c = 48 ∨ c = 49) (C : CallF) (H : MHeap) : methCall C (.find hexL) [.str [c]] H = some (.int ((c : Int) - 48), H) := by
  unfold methCall
  simp only [h, and_self, if_true]
theorem meth_hex (H : MHeap) : methOf tb (.str hexL) 213644647 H = some (.find hexL) := rfl
theorem mul_i (a b : Int) (H : MHeap) (h : a.natAbs ≤ szLine ∧ b.natAbs ≤ szLine) : binop .mul (.int a) (.int b) H = some (.int (a * b), H) := if_pos h

theorem digits_value_ {W d : Nat} {H : MHeap} (c : Nat) (hc : c = 48 ∨ c = 49) : callF tb (W + 2) (d + 1) 239 [.str [c], .int 10, .int 2147483647] H = some (.int ((c : Int) - 48), H) := by
  have m0 : binop .mul (.int 0) (.int 10) H = some (.int 0, H) := mul_i 0 10 H (by decide)
  have le : decide ((2147483647 : Int) < (c : Int) - 48) = false := decide_eq_false (by rcases hc with rfl | rfl <;> decide)
  have ad : binop .add (.int 0) (.int ((c : Int) - 48)) H = some (.int ((c : Int) - 48), H) := by rw [bAdd, Int.zero_add]
  have n0 : nxtS [c] 0 H = some (some (.str [c])) := rfl
  have n1 : nxtS [c] (0 + 1) H = some none := rfl
  have mh : methOf tb (.str [48, 49, 50, 51, 52, 53, 54, 55, 56, 57, 65, 66, 67, 68, 69, 70]) 213644647 H = some (.find hexL) := rfl
  have fl := find_lit c hc (callF tb (W + 2) d) H
  apply callF_go2 (ρ := [(4017360614757, .str [c]), (215822691, .int 10), (247281774, .int 2147483647)]) (o := .ret (.int ((c : Int) - 48))) rfl rfl rfl
  (repeat' (first|with_reducible (first|assumption|exact xNil|apply xCons|apply nxN|exact nxR|exact nxB|exact nxC|apply eLoc|apply eAttr|apply eMeth|apply mcFn|exact eInt|exact eStr|exact esNil|apply esCons|apply eGlob|apply eCall|apply cvFn|apply xExpr|apply xRet|apply xSetL|apply xIte|apply xSetA|apply xSetI|apply xUnp|apply xAugA|exact xBrk|exact xCont|apply xWhl|apply lwStep|apply gtT|exact gtF|apply gwN|exact gwR|apply ifT|apply ifF|apply tAnd|apply tOr|apply tNot|exact alNil|apply alCons|exact ayNil|apply ayCons|apply tPlain|apply eCmp|apply eBin|apply eIdx|apply eSlc|apply eBi|exact eNone|exact eBool|apply eInT|apply eIsN|apply eEqNil|apply eNot|apply eIte|apply eList|apply eTup|apply eCel|exact eNeg|exact eDict0|apply eAnd|apply eOr|apply anOne|apply anTwo|apply orOne|apply orTwo|exact bAdd|exact bSub|apply cEqS|apply cNeS|apply cEqI|apply cNeI|apply cLt|apply cLe|apply cGt|apply cGe|apply cLtS|apply cLeS|apply cInS)|((with_reducible apply lkHit); exact Eq.refl true)|((with_reducible apply lkHere); exact Eq.refl true)|((with_reducible apply lkMiss); exact Eq.refl false)|((with_reducible apply lkNext); exact Eq.refl false)|with_reducible apply xForS|((with_reducible apply lfE); (with_reducible assumption))|((with_reducible apply lfN); (with_reducible assumption))|((with_reducible apply setAt_last) <;> exact Eq.refl true)|exact Eq.refl true|exact Eq.refl false|exact xNil|with_reducible exact nxR|(apply xCons)|(apply xSetL)|(apply xExpr)|(apply xIte)|(apply xRet)|(apply xSetA)|exact rfl))

theorem whole_ {W d : Nat} {H : MHeap} {S : Nat} (p : Nat) (v : Int) (hv : v ≤ 2147483647) : callF tb W (d + 2) 303 [.ref S, .int p, .int v, .int 2147483647] H = some (.ref H.length, H ++ [tokO [105, 110, 116] (.int v) p]) := by
  have tk := callV_token (W := W) (d := d) (H := H) [105, 110, 116] (.int v) p
  have le : decide ((2147483647 : Int) < v) = false := decide_eq_false (by omega)
  apply callF_go2 (ρ := [(217805684, .ref S), (30045516643, .int p), (27629678967, .int v), (247281774, .int 2147483647)]) (o := .ret (.ref H.length)) rfl rfl rfl
  (have zz0 := le; have zz1 := tk; (repeat' (first|with_reducible (first|assumption|exact xNil|apply xCons|apply nxN|exact nxR|exact nxB|exact nxC|apply eLoc|apply eAttr|apply eMeth|apply mcFn|exact eInt|exact eStr|exact esNil|apply esCons|apply eGlob|apply eCall|apply cvFn|apply xExpr|apply xRet|apply xSetL|apply xIte|apply xSetA|apply xSetI|apply xUnp|apply xAugA|exact xBrk|exact xCont|apply xWhl|apply lwStep|apply gtT|exact gtF|apply gwN|exact gwR|apply ifT|apply ifF|apply tAnd|apply tOr|apply tNot|exact alNil|apply alCons|exact ayNil|apply ayCons|apply tPlain|apply eCmp|apply eBin|apply eIdx|apply eSlc|apply eBi|exact eNone|exact eBool|apply eInT|apply eIsN|apply eEqNil|apply eNot|apply eIte|apply eList|apply eTup|apply eCel|exact eNeg|exact eDict0|apply eAnd|apply eOr|apply anOne|apply anTwo|apply orOne|apply orTwo|exact bAdd|exact bSub|apply cEqS|apply cNeS|apply cEqI|apply cNeI|apply cLt|apply cLe|apply cGt|apply cGe|apply cLtS|apply cLeS|apply cInS)|((with_reducible apply lkHit); exact Eq.refl true)|((with_reducible apply lkHere); exact Eq.refl true)|((with_reducible apply lkMiss); exact Eq.refl false)|((with_reducible apply lkNext); exact Eq.refl false)|with_reducible apply xForS|((with_reducible apply lfE); (with_reducible assumption))|((with_reducible apply lfN); (with_reducible assumption))|((with_reducible apply setAt_last) <;> exact Eq.refl true)|exact Eq.refl true|exact Eq.refl false|exact xNil|with_reducible exact nxR|(apply xCons)|(apply xSetL)|(apply xExpr)|(apply xIte)|(apply xRet)|(apply xSetA)|exact rfl)))

/-- a number of one digit, 0 or 1 -/
theorem numeral_ {W d : Nat} {H : MHeap} {S : Nat} {l : List Nat} {er w : MVal} {p c : Nat} {r : List Nat} (h : H[S]? = some (scanO l er w p)) (hl : l.length ≤ szLine) (hp : p ≤ 99999) (hd : l.drop p = c :: r)
    (hc : c = 48 ∨ c = 49) (hn : isH (r.take 1) = false) (hn2 : isD (r.take 1) = false) (h1 : (r.take 1 == [72]) = false) (h2 : (r.take 1 == [88]) = false) (h3 : (r.take 1 == [46]) = false) :
    callF tb (W + 2) (d + 3) 296 [.ref S, .int p] H = some (.ref H.length, H.set S (scanO l er w (p + 1)) ++ [tokO [105, 110, 116] (.int ((c : Int) - 48)) p]) := by
  have st := scan_set h (p + 1)
  have e1 : ((p + 1 : Nat) : Int) = (p : Int) + 1 := by omega
  rw [e1] at st
  have s0 := slice_at l p hl (by omega)
  have s1 := slice_at1 l p hl (by omega)
  rw [hd] at s0
  rw [drop_succ hd] at s1
  have hh1 := get_set h (scanO l er w (p + 1))
  have so1 := scan_source hh1
  have m1 : methOf tb (.ref S) 242791652 (H.set S (scanO l er w (p + 1))) = some (.fn 261 (.ref S)) := meth_inst (c := 348) hh1 rfl rfl
  have m2 : methOf tb (.ref S) 27610854648 (H.set S (scanO l er w (p + 1))) = some (.fn 303 (.ref S)) := meth_inst (c := 348) hh1 rfl rfl
  have c0 := char0 (W := W + 2) (d := d + 1) hh1 hl (by omega)
  rw [drop_succ hd] at c0
  have wh := whole_ (W := W + 2) (d := d) (H := H.set S (scanO l er w (p + 1))) (S := S) p ((c : Int) - 48) (by rcases hc with rfl | rfl <;> decide)
  rw [List.length_set] at wh
  have hD : isD [c] = true := by rcases hc with rfl | rfl <;> rfl
  have hH : isH [c] = true := by rcases hc with rfl | rfl <;> rfl
  have s0 : sliceS (.str l) (.int p) (.int (p + 1)) = some (.str [c]) := s0
  have x1 : callF tb (W + 2) (d + 2) 232 [.str [c]] H = some (.bool true, H) := by rw [is_hex', hH]
  have x2 : callF tb (W + 2) (d + 2) 232 [.str (r.take 1)] H = some (.bool false, H) := by rw [is_hex', hn]
  have x3 : callF tb (W + 2) (d + 2) 225 [.str [c]] H = some (.bool true, H) := by rw [is_digit', hD]
  have x4 : callF tb (W + 2) (d + 2) 225 [.str (r.take 1)] H = some (.bool false, H) := by rw [is_digit', hn2]
  generalize H.set S (scanO l er w (p + 1)) = B at *
  have dv := digits_value_ (W := W) (d := d + 1) (H := B) c hc
  apply callF_go2 (ρ := [(217805684, .ref S), (30045516643, .int p)]) (o := .ret (.ref H.length)) rfl rfl rfl
  (have zz0 := scan_source h; have zz1 := s0; have zz2 := s1; have zz3 := x1; have zz4 := x2; have zz5 := x3; have zz6 := x4; have zz7 := h1; have zz8 := h2; have zz9 := h3; have zz10 := st; have zz11 := so1; have zz12 := m1; have zz13 := m2; have zz14 := c0; have zz15 := dv; have zz16 := wh; (repeat' (first|with_reducible (first|assumption|exact xNil|apply xCons|apply nxN|exact nxR|exact nxB|exact nxC|apply eLoc|apply eAttr|apply eMeth|apply mcFn|exact eInt|exact eStr|exact esNil|apply esCons|apply eGlob|apply eCall|apply cvFn|apply xExpr|apply xRet|apply xSetL|apply xIte|apply xSetA|apply xSetI|apply xUnp|apply xAugA|exact xBrk|exact xCont|apply xWhl|apply lwStep|apply gtT|exact gtF|apply gwN|exact gwR|apply ifT|apply ifF|apply tAnd|apply tOr|apply tNot|exact alNil|apply alCons|exact ayNil|apply ayCons|apply tPlain|apply eCmp|apply eBin|apply eIdx|apply eSlc|apply eBi|exact eNone|exact eBool|apply eInT|apply eIsN|apply eEqNil|apply eNot|apply eIte|apply eList|apply eTup|apply eCel|exact eNeg|exact eDict0|apply eAnd|apply eOr|apply anOne|apply anTwo|apply orOne|apply orTwo|exact bAdd|exact bSub|apply cEqS|apply cNeS|apply cEqI|apply cNeI|apply cLt|apply cLe|apply cGt|apply cGe|apply cLtS|apply cLeS|apply cInS)|((with_reducible apply lkHit); exact Eq.refl true)|((with_reducible apply lkHere); exact Eq.refl true)|((with_reducible apply lkMiss); exact Eq.refl false)|((with_reducible apply lkNext); exact Eq.refl false)|with_reducible apply xForS|((with_reducible apply lfE); (with_reducible assumption))|((with_reducible apply lfN); (with_reducible assumption))|((with_reducible apply setAt_last) <;> exact Eq.refl true)|exact Eq.refl true|exact Eq.refl false|exact xNil|with_reducible exact nxR|(apply xCons)|(apply xSetL)|(apply xExpr)|(apply xIte)|(apply xRet)|(apply xSetA)|exact rfl)))


end
section
set_option maxRecDepth 10000

theorem len_s1 (c : Nat) (H : MHeap) : builtin .len [.str [c]] H = some (.int 1) := by
  show (if [c].length ≤ szLine then some (MVal.int ([c].length : Nat)) else none) = some (.int 1)
  rw [if_pos (by rw [List.length_singleton]; decide)]; rfl

section
variable {W d : Nat} {H H1 : MHeap} {S wi : Nat} {l : List Nat} {er w : MVal} {p c : Nat} {r : List Nat}

theorem take_eof (hm : methOf tb (.ref S) 238728820 H = some (.fn 275 (.ref S))) (hs : callF tb (W + 2) (d + 3) 275 [.ref S] H = some (.none, H1)) (h : H1[S]? = some (scanO l er w p)) (hl : l.length ≤ szLine) (hp : p ≤ 99999) (hd : l.drop p = []) :
    callF tb (W + 2) (d + 4) 268 [.ref S] H = some (.ref H1.length, H1 ++ [tokO [101, 111, 102] (.str []) p]) := by
  have c0 := char0 (W := W + 2) (d := d + 2) h hl (by omega)
  rw [hd] at c0
  have c0 : callF tb (W + 2) (d + 3) 261 [.ref S] H1 = some (.str [], H1) := c0
  have m1 : methOf tb (.ref S) 242791652 H1 = some (.fn 261 (.ref S)) := meth_inst (c := 348) h rfl rfl
  have tk := callV_token (W := W + 2) (d := d + 2) (H := H1) [101, 111, 102] (.str []) p
  apply callF_go2 (ρ := [(217805684, .ref S)]) (o := .ret (.ref H1.length)) rfl rfl rfl
  have q0 : (([] : List Nat) == ([] : List Nat)) = true := rfl
  (have zz0 := hm; have zz1 := hs; have zz2 := scan_place h; have zz3 := m1; have zz4 := c0; have zz5 := q0; have zz6 := tk; (repeat' (first|with_reducible (first|assumption|exact xNil|apply xCons|apply nxN|exact nxR|exact nxB|exact nxC|apply eLoc|apply eAttr|apply eMeth|apply mcFn|exact eInt|exact eStr|exact esNil|apply esCons|apply eGlob|apply eCall|apply cvFn|apply xExpr|apply xRet|apply xSetL|apply xIte|apply xSetA|apply xSetI|apply xUnp|apply xAugA|exact xBrk|exact xCont|apply xWhl|apply lwStep|apply gtT|exact gtF|apply gwN|exact gwR|apply ifT|apply ifF|apply tAnd|apply tOr|apply tNot|exact alNil|apply alCons|exact ayNil|apply ayCons|apply tPlain|apply eCmp|apply eBin|apply eIdx|apply eSlc|apply eBi|exact eNone|exact eBool|apply eInT|apply eIsN|apply eEqNil|apply eNot|apply eIte|apply eList|apply eTup|apply eCel|exact eNeg|exact eDict0|apply eAnd|apply eOr|apply anOne|apply anTwo|apply orOne|apply orTwo|exact bAdd|exact bSub|apply cEqS|apply cNeS|apply cEqI|apply cNeI|apply cLt|apply cLe|apply cGt|apply cGe|apply cLtS|apply cLeS|apply cInS)|((with_reducible apply lkHit); exact Eq.refl true)|((with_reducible apply lkHere); exact Eq.refl true)|((with_reducible apply lkMiss); exact Eq.refl false)|((with_reducible apply lkNext); exact Eq.refl false)|with_reducible apply xForS|((with_reducible apply lfE); (with_reducible assumption))|((with_reducible apply lfN); (with_reducible assumption))|((with_reducible apply setAt_last) <;> exact Eq.refl true)|exact Eq.refl true|exact Eq.refl false|exact xNil|with_reducible exact nxR|(apply xCons)|(apply xSetL)|(apply xExpr)|(apply xIte)|(apply xRet)|(apply xSetA)|exact rfl)))

theorem take_sym (hm : methOf tb (.ref S) 238728820 H = some (.fn 275 (.ref S))) (hs : callF tb (W + 2) (d + 3) 275 [.ref S] H = some (.none, H1)) (h : H1[S]? = some (scanO l er w p)) (hl : l.length ≤ szLine) (hp : p ≤ 99999) (hd : l.drop p = c :: r)
    (hL : isL [c] = false) (hD : isD [c] = false) (h34 : ([c] == ([34] : List Nat)) = false)
    (hc : ([43, 45, 42, 47, 126, 38, 46, 44, 59, 124, 40, 91, 123, 94, 61, 35, 60, 62, 58, 41, 93, 125] : List Nat).contains c = true) (hn : ([[58, 61], [60, 61], [62, 61], [46, 46]] : List (List Nat)).contains (c :: r.take 1) = false) :
    callF tb (W + 2) (d + 4) 268 [.ref S] H = some (.ref H1.length, H1.set S (scanO l er w (p + 1)) ++ [tokO [c] (.str []) p]) := by
  have c0 := char0 (W := W + 2) (d := d + 2) h hl (by omega)
  rw [hd] at c0
  have c0 : callF tb (W + 2) (d + 3) 261 [.ref S] H1 = some (.str [c], H1) := c0
  have m1 : methOf tb (.ref S) 242791652 H1 = some (.fn 261 (.ref S)) := meth_inst (c := 348) h rfl rfl
  have m2 : methOf tb (.ref S) 3775485689204 H1 = some (.fn 345 (.ref S)) := meth_inst (c := 348) h rfl rfl
  have sy := symbol_ (W := W + 2) (d := d + 1) h hl (by omega) hd hc hn
  have st := scan_set h (p + 1)
  have e1 : ((p + 1 : Nat) : Int) = (p : Int) + 1 := by omega
  rw [e1] at st
  have tk := callV_token (W := W + 2) (d := d + 2) (H := H1.set S (scanO l er w (p + 1))) [c] (.str []) p
  rw [List.length_set] at tk
  have q0 : ([c] == ([] : List Nat)) = false := rfl
  have x1 : callF tb (W + 2) (d + 3) 218 [.str [c]] H1 = some (.bool false, H1) := by rw [is_letter', hL]
  have x2 : callF tb (W + 2) (d + 3) 225 [.str [c]] H1 = some (.bool false, H1) := by rw [is_digit', hD]
  generalize H1.set S (scanO l er w (p + 1)) = B at *
  apply callF_go2 (ρ := [(217805684, .ref S)]) (o := .ret (.ref H1.length)) rfl rfl rfl
  (have zz0 := hm; have zz1 := hs; have zz2 := scan_place h; have zz3 := m1; have zz4 := c0; have zz5 := q0; have zz6 := x1; have zz7 := x2; have zz8 := h34; have zz9 := m2; have zz10 := sy; have zz11 := len_s1 c H1; have zz12 := st; have zz13 := tk; (repeat' (first|with_reducible (first|assumption|exact xNil|apply xCons|apply nxN|exact nxR|exact nxB|exact nxC|apply eLoc|apply eAttr|apply eMeth|apply mcFn|exact eInt|exact eStr|exact esNil|apply esCons|apply eGlob|apply eCall|apply cvFn|apply xExpr|apply xRet|apply xSetL|apply xIte|apply xSetA|apply xSetI|apply xUnp|apply xAugA|exact xBrk|exact xCont|apply xWhl|apply lwStep|apply gtT|exact gtF|apply gwN|exact gwR|apply ifT|apply ifF|apply tAnd|apply tOr|apply tNot|exact alNil|apply alCons|exact ayNil|apply ayCons|apply tPlain|apply eCmp|apply eBin|apply eIdx|apply eSlc|apply eBi|exact eNone|exact eBool|apply eInT|apply eIsN|apply eEqNil|apply eNot|apply eIte|apply eList|apply eTup|apply eCel|exact eNeg|exact eDict0|apply eAnd|apply eOr|apply anOne|apply anTwo|apply orOne|apply orTwo|exact bAdd|exact bSub|apply cEqS|apply cNeS|apply cEqI|apply cNeI|apply cLt|apply cLe|apply cGt|apply cGe|apply cLtS|apply cLeS|apply cInS)|((with_reducible apply lkHit); exact Eq.refl true)|((with_reducible apply lkHere); exact Eq.refl true)|((with_reducible apply lkMiss); exact Eq.refl false)|((with_reducible apply lkNext); exact Eq.refl false)|with_reducible apply xForS|((with_reducible apply lfE); (with_reducible assumption))|((with_reducible apply lfN); (with_reducible assumption))|((with_reducible apply setAt_last) <;> exact Eq.refl true)|exact Eq.refl true|exact Eq.refl false|exact xNil|with_reducible exact nxR|(apply xCons)|(apply xSetL)|(apply xExpr)|(apply xIte)|(apply xRet)|(apply xSetA)|exact rfl)))

theorem take_word (hm : methOf tb (.ref S) 238728820 H = some (.fn 275 (.ref S))) (hs : callF tb (W + 2) (d + 3) 275 [.ref S] H = some (.none, H1)) (h : H1[S]? = some (scanO l er (.ref wi) p)) (hl : l.length ≤ szLine) (hp : p ≤ 99999) (hd : l.drop p = c :: r)
    {ws : List MVal} {ls : List (List Nat)} (hL : isL [c] = true) (hn : isL (r.take 1) = false) (hn' : isD (r.take 1) = false) (hw : H1[wi]? = some (.tup ws)) (hws : strsOf ws = some ls) (hk : ls.contains [c] = false) (hne : wi ≠ S) :
    callF tb (W + 2) (d + 4) 268 [.ref S] H = some (.ref H1.length, H1.set S (scanO l er (.ref wi) (p + 1)) ++ [tokO [105, 100, 101, 110, 116] (.str [c]) p]) := by
  have c0 := char0 (W := W + 2) (d := d + 2) h hl (by omega)
  rw [hd] at c0
  have c0 : callF tb (W + 2) (d + 3) 261 [.ref S] H1 = some (.str [c], H1) := c0
  have m1 : methOf tb (.ref S) 242791652 H1 = some (.fn 261 (.ref S)) := meth_inst (c := 348) h rfl rfl
  have m2 : methOf tb (.ref S) 213710968 H1 = some (.fn 289 (.ref S)) := meth_inst (c := 348) h rfl rfl
  have wo := word_ (W := W) (d := d + 1) h hl (by omega) hd hL hn hn' hw hws hk hne
  have q0 : ([c] == ([] : List Nat)) = false := rfl
  have x1 : callF tb (W + 2) (d + 3) 218 [.str [c]] H1 = some (.bool true, H1) := by rw [is_letter', hL]
  apply callF_go2 (ρ := [(217805684, .ref S)]) (o := .ret (.ref H1.length)) rfl rfl rfl
  (have zz0 := hm; have zz1 := hs; have zz2 := scan_place h; have zz3 := m1; have zz4 := c0; have zz5 := q0; have zz6 := x1; have zz7 := m2; have zz8 := wo; (repeat' (first|with_reducible (first|assumption|exact xNil|apply xCons|apply nxN|exact nxR|exact nxB|exact nxC|apply eLoc|apply eAttr|apply eMeth|apply mcFn|exact eInt|exact eStr|exact esNil|apply esCons|apply eGlob|apply eCall|apply cvFn|apply xExpr|apply xRet|apply xSetL|apply xIte|apply xSetA|apply xSetI|apply xUnp|apply xAugA|exact xBrk|exact xCont|apply xWhl|apply lwStep|apply gtT|exact gtF|apply gwN|exact gwR|apply ifT|apply ifF|apply tAnd|apply tOr|apply tNot|exact alNil|apply alCons|exact ayNil|apply ayCons|apply tPlain|apply eCmp|apply eBin|apply eIdx|apply eSlc|apply eBi|exact eNone|exact eBool|apply eInT|apply eIsN|apply eEqNil|apply eNot|apply eIte|apply eList|apply eTup|apply eCel|exact eNeg|exact eDict0|apply eAnd|apply eOr|apply anOne|apply anTwo|apply orOne|apply orTwo|exact bAdd|exact bSub|apply cEqS|apply cNeS|apply cEqI|apply cNeI|apply cLt|apply cLe|apply cGt|apply cGe|apply cLtS|apply cLeS|apply cInS)|((with_reducible apply lkHit); exact Eq.refl true)|((with_reducible apply lkHere); exact Eq.refl true)|((with_reducible apply lkMiss); exact Eq.refl false)|((with_reducible apply lkNext); exact Eq.refl false)|with_reducible apply xForS|((with_reducible apply lfE); (with_reducible assumption))|((with_reducible apply lfN); (with_reducible assumption))|((with_reducible apply setAt_last) <;> exact Eq.refl true)|exact Eq.refl true|exact Eq.refl false|exact xNil|with_reducible exact nxR|(apply xCons)|(apply xSetL)|(apply xExpr)|(apply xIte)|(apply xRet)|(apply xSetA)|exact rfl)))

theorem take_num (hm : methOf tb (.ref S) 238728820 H = some (.fn 275 (.ref S))) (hs : callF tb (W + 2) (d + 3) 275 [.ref S] H = some (.none, H1)) (h : H1[S]? = some (scanO l er w p)) (hl : l.length ≤ szLine) (hp : p ≤ 99999) (hd : l.drop p = c :: r)
    (hc : c = 48 ∨ c = 49) (hn : isH (r.take 1) = false) (hn2 : isD (r.take 1) = false) (h1 : (r.take 1 == [72]) = false) (h2 : (r.take 1 == [88]) = false) (h3 : (r.take 1 == [46]) = false) :
    callF tb (W + 2) (d + 4) 268 [.ref S] H = some (.ref H1.length, H1.set S (scanO l er w (p + 1)) ++ [tokO [105, 110, 116] (.int ((c : Int) - 48)) p]) := by
  have c0 := char0 (W := W + 2) (d := d + 2) h hl (by omega)
  rw [hd] at c0
  have c0 : callF tb (W + 2) (d + 3) 261 [.ref S] H1 = some (.str [c], H1) := c0
  have m1 : methOf tb (.ref S) 242791652 H1 = some (.fn 261 (.ref S)) := meth_inst (c := 348) h rfl rfl
  have m2 : methOf tb (.ref S) 482785409874799 H1 = some (.fn 296 (.ref S)) := meth_inst (c := 348) h rfl rfl
  have nu := numeral_ (W := W) (d := d) h hl (by omega) hd hc hn hn2 h1 h2 h3
  have hL : isL [c] = false := by rcases hc with rfl | rfl <;> rfl
  have hD : isD [c] = true := by rcases hc with rfl | rfl <;> rfl
  have q0 : ([c] == ([] : List Nat)) = false := rfl
  have x1 : callF tb (W + 2) (d + 3) 218 [.str [c]] H1 = some (.bool false, H1) := by rw [is_letter', hL]
  have x2 : callF tb (W + 2) (d + 3) 225 [.str [c]] H1 = some (.bool true, H1) := by rw [is_digit', hD]
  apply callF_go2 (ρ := [(217805684, .ref S)]) (o := .ret (.ref H1.length)) rfl rfl rfl
  (have zz0 := hm; have zz1 := hs; have zz2 := scan_place h; have zz3 := m1; have zz4 := c0; have zz5 := q0; have zz6 := x1; have zz7 := x2; have zz8 := m2; have zz9 := nu; (repeat' (first|with_reducible (first|assumption|exact xNil|apply xCons|apply nxN|exact nxR|exact nxB|exact nxC|apply eLoc|apply eAttr|apply eMeth|apply mcFn|exact eInt|exact eStr|exact esNil|apply esCons|apply eGlob|apply eCall|apply cvFn|apply xExpr|apply xRet|apply xSetL|apply xIte|apply xSetA|apply xSetI|apply xUnp|apply xAugA|exact xBrk|exact xCont|apply xWhl|apply lwStep|apply gtT|exact gtF|apply gwN|exact gwR|apply ifT|apply ifF|apply tAnd|apply tOr|apply tNot|exact alNil|apply alCons|exact ayNil|apply ayCons|apply tPlain|apply eCmp|apply eBin|apply eIdx|apply eSlc|apply eBi|exact eNone|exact eBool|apply eInT|apply eIsN|apply eEqNil|apply eNot|apply eIte|apply eList|apply eTup|apply eCel|exact eNeg|exact eDict0|apply eAnd|apply eOr|apply anOne|apply anTwo|apply orOne|apply orTwo|exact bAdd|exact bSub|apply cEqS|apply cNeS|apply cEqI|apply cNeI|apply cLt|apply cLe|apply cGt|apply cGe|apply cLtS|apply cLeS|apply cInS)|((with_reducible apply lkHit); exact Eq.refl true)|((with_reducible apply lkHere); exact Eq.refl true)|((with_reducible apply lkMiss); exact Eq.refl false)|((with_reducible apply lkNext); exact Eq.refl false)|with_reducible apply xForS|((with_reducible apply lfE); (with_reducible assumption))|((with_reducible apply lfN); (with_reducible assumption))|((with_reducible apply setAt_last) <;> exact Eq.refl true)|exact Eq.refl true|exact Eq.refl false|exact xNil|with_reducible exact nxR|(apply xCons)|(apply xSetL)|(apply xExpr)|(apply xIte)|(apply xRet)|(apply xSetA)|exact rfl)))
end


end
section
set_option maxRecDepth 10000

noncomputable def wordL : List (List Nat) := [[65, 82, 82, 65, 89], [66, 69, 71, 73, 78], [66, 89], [67, 65, 83, 69], [67, 79, 78, 83, 84], [68, 73, 86], [68, 79], [69, 76, 83, 69], [69, 76, 83, 73, 70], [69, 78, 68], [70, 79, 82], [73, 70], [73, 77, 80, 79, 82, 84], [73, 78], [73, 83], [77, 79, 68], [77, 79, 68, 85, 76, 69], [78, 73, 76], [79, 70], [79, 82], [80, 79, 73, 78, 84, 69, 82], [80, 82, 79, 67, 69, 68, 85, 82, 69], [82, 69, 67, 79, 82, 68], [82, 69, 80, 69, 65, 84], [82, 69, 84, 85, 82, 78], [84, 72, 69, 78], [84, 79], [84, 89, 80, 69], [85, 78, 84, 73, 76], [86, 65, 82], [87, 72, 73, 76, 69]]
noncomputable def wordO : MObj := .tup (wordL.map .str)
theorem strsOf_map : ∀ ls : List (List Nat), strsOf (ls.map .str) = some ls
  | [] => rfl
  | a :: r => by simp [strsOf, strsOf_map r]
noncomputable def rdO (t n : Nat) : MObj := .inst 630 [(509310072828532, .ref 60), (31354289525, .ref 3), (4016836508134, .ref 56), (65191896583796586, .none), (4013348893300, .ref 62), (3534201911406, .str []), (31350077937, .ref 91), (513674835473267, .ref 92), (65750375224637543, .ref 93), (29475337069, .int 0), (247280495, .int 0), (31385776497, .int n), (30012029045, .ref t)]
noncomputable abbrev scO (l : List Nat) (p : Nat) : MObj := scanO l (.ref 56) (.ref 61) p

/-- all but the reader and the scanner stays -/
noncomputable def Keep (H H' : MHeap) : Prop := H.length ≤ H'.length ∧ ∀ i o, H[i]? = some o → i ≠ 59 → i ≠ 60 → H'[i]? = some o
theorem Keep.refl (H : MHeap) : Keep H H := ⟨Nat.le_refl _, fun _ _ h _ _ => h⟩
theorem Keep.trans {A B C : MHeap} (x : Keep A B) (y : Keep B C) : Keep A C := ⟨Nat.le_trans x.1 y.1, fun i o h a b => y.2 i o (x.2 i o h a b) a b⟩
theorem get_lt {H : MHeap} {i : Nat} {o : MObj} (h : H[i]? = some o) : i < H.length := by
  rcases Nat.lt_or_ge i H.length with q | q
  · exact q
  · rw [List.getElem?_eq_none q] at h; cases h
theorem Keep.at {H H' : MHeap} (K : Keep H H') {i : Nat} {o : MObj} (h : H[i]? = some o) (hi : 60 < i) : H'[i]? = some o := K.2 i o h (Nat.ne_of_gt (Nat.lt_of_succ_lt hi)) (Nat.ne_of_gt hi)
theorem lt_app {H x : MHeap} (h : 60 < H.length) : 60 < (H ++ x).length := by rw [List.length_append]; omega
theorem Keep.app (H : MHeap) (x : List MObj) : Keep H (H ++ x) := ⟨by simp, fun i o h _ _ => by rw [List.getElem?_append_left (get_lt h)]; exact h⟩
theorem Keep.set {H : MHeap} {j : Nat} (hj : j = 59 ∨ j = 60) (x : MObj) : Keep H (H.set j x) := ⟨by simp, fun i o h a b => by rw [List.getElem?_set_ne (by omega)]; exact h⟩

/-- the next token -/
noncomputable def Nx (l : List Nat) (p : Nat) (k : List Nat) (v : MVal) (q p' : Nat) : Prop := ∀ (W d : Nat) (H : MHeap), H[60]? = some (scO l p) → H[61]? = some wordO →
  callF tb (W + 2) (d + 4) 268 [.ref 60] H = some (.ref H.length, H.set 60 (scO l p') ++ [tokO k v q])

theorem set_same {H : MHeap} {i : Nat} {o : MObj} (h : H[i]? = some o) : H.set i o = H := by
  apply List.ext_getElem?
  intro j
  by_cases e : i = j
  · subst e; rw [get_set h, h]
  · rw [List.getElem?_set_ne e]

section
variable {l : List Nat} {p c : Nat} {r : List Nat}
theorem nx_eof (hl : l.length ≤ szLine) (hp : p ≤ 99999) (hd : l.drop p = []) : Nx l p [101, 111, 102] (.str []) p p := by
  intro W d H h hw
  have hm : methOf tb (.ref 60) 238728820 H = some (.fn 275 (.ref 60)) := meth_inst (c := 348) h rfl rfl
  rw [take_eof hm (skip0 (W := W + 1) (d := d + 1) h hl (by omega) (by rw [hd]; rfl)) h hl hp hd, set_same h]
theorem nx_sym (hl : l.length ≤ szLine) (hp : p ≤ 99999) (hd : l.drop p = c :: r) (hs : stopAt (c :: r) = true)
    (hL : isL [c] = false) (hD : isD [c] = false) (h34 : ([c] == ([34] : List Nat)) = false)
    (hc : ([43, 45, 42, 47, 126, 38, 46, 44, 59, 124, 40, 91, 123, 94, 61, 35, 60, 62, 58, 41, 93, 125] : List Nat).contains c = true) (hn : ([[58, 61], [60, 61], [62, 61], [46, 46]] : List (List Nat)).contains (c :: r.take 1) = false) :
    Nx l p [c] (.str []) p (p + 1) := by
  intro W d H h hw
  have hm : methOf tb (.ref 60) 238728820 H = some (.fn 275 (.ref 60)) := meth_inst (c := 348) h rfl rfl
  exact take_sym hm (skip0 (W := W + 1) (d := d + 1) h hl (by omega) (by rw [hd]; exact hs)) h hl hp hd hL hD h34 hc hn
/-- a blank ahead -/
theorem nx_sym1 (hl : l.length ≤ szLine) (hp : p ≤ 99998) (hd : l.drop p = 32 :: c :: r) (hs : stopAt (c :: r) = true)
    (hL : isL [c] = false) (hD : isD [c] = false) (h34 : ([c] == ([34] : List Nat)) = false)
    (hc : ([43, 45, 42, 47, 126, 38, 46, 44, 59, 124, 40, 91, 123, 94, 61, 35, 60, 62, 58, 41, 93, 125] : List Nat).contains c = true) (hn : ([[58, 61], [60, 61], [62, 61], [46, 46]] : List (List Nat)).contains (c :: r.take 1) = false) :
    Nx l p [c] (.str []) (p + 1) (p + 2) := by
  intro W d H h hw
  have hm : methOf tb (.ref 60) 238728820 H = some (.fn 275 (.ref 60)) := meth_inst (c := 348) h rfl rfl
  have h1 := get_set h (scO l (p + 1))
  rw [take_sym hm (skip1 (W := W) (d := d + 1) h hl (by omega) hd hs) h1 hl (by omega) (drop_succ hd) hL hD h34 hc hn, List.length_set, List.set_set]
theorem nx_word (hl : l.length ≤ szLine) (hp : p ≤ 99999) (hd : l.drop p = c :: r) (hs : stopAt (c :: r) = true)
    (hL : isL [c] = true) (hn : isL (r.take 1) = false) (hn' : isD (r.take 1) = false) (hk : wordL.contains [c] = false) : Nx l p [105, 100, 101, 110, 116] (.str [c]) p (p + 1) := by
  intro W d H h hw
  have hm : methOf tb (.ref 60) 238728820 H = some (.fn 275 (.ref 60)) := meth_inst (c := 348) h rfl rfl
  exact take_word hm (skip0 (W := W + 1) (d := d + 1) h hl (by omega) (by rw [hd]; exact hs)) h hl hp hd hL hn hn' hw (strsOf_map _) hk (by decide)
theorem nx_num (hl : l.length ≤ szLine) (hp : p ≤ 99999) (hd : l.drop p = c :: r) (hs : stopAt (c :: r) = true)
    (hc : c = 48 ∨ c = 49) (hn : isH (r.take 1) = false) (hn2 : isD (r.take 1) = false) (h1 : (r.take 1 == [72]) = false) (h2 : (r.take 1 == [88]) = false) (h3 : (r.take 1 == [46]) = false) :
    Nx l p [105, 110, 116] (.int ((c : Int) - 48)) p (p + 1) := by
  intro W d H h hw
  have hm : methOf tb (.ref 60) 238728820 H = some (.fn 275 (.ref 60)) := meth_inst (c := 348) h rfl rfl
  exact take_num hm (skip0 (W := W + 1) (d := d + 1) h hl (by omega) (by rw [hd]; exact hs)) h hl hp hd hc hn hn2 h1 h2 h3
theorem nx_num1 (hl : l.length ≤ szLine) (hp : p ≤ 99998) (hd : l.drop p = 32 :: c :: r) (hs : stopAt (c :: r) = true)
    (hc : c = 48 ∨ c = 49) (hn : isH (r.take 1) = false) (hn2 : isD (r.take 1) = false) (h1 : (r.take 1 == [72]) = false) (h2 : (r.take 1 == [88]) = false) (h3 : (r.take 1 == [46]) = false) :
    Nx l p [105, 110, 116] (.int ((c : Int) - 48)) (p + 1) (p + 2) := by
  intro W d H h hw
  have hm : methOf tb (.ref 60) 238728820 H = some (.fn 275 (.ref 60)) := meth_inst (c := 348) h rfl rfl
  have hh := get_set h (scO l (p + 1))
  rw [take_num hm (skip1 (W := W) (d := d + 1) h hl (by omega) hd hs) hh hl (by omega) (drop_succ hd) hc hn hn2 h1 h2 h3, List.length_set, List.set_set]
end

/-- the reader's state: n parts counted, the scanner at p, the token (k, v) at q -/
structure St (l : List Nat) (H : MHeap) (n p t : Nat) (k : List Nat) (v : MVal) (q : Nat) : Prop where
  rd : H[59]? = some (rdO t n)
  sc : H[60]? = some (scO l p)
  wo : H[61]? = some wordO
  tk : H[t]? = some (tokO k v q)
  lo : 61 < t

section
variable {l : List Nat} {H : MHeap} {n p t : Nat} {k : List Nat} {v : MVal} {q : Nat} {W d : Nat}
theorem St.lo' (S : St l H n p t k v q) : 60 < t := Nat.lt_of_succ_lt S.lo
theorem St.token (S : St l H n p t k v q) : getA tb (.ref 59) 30012029045 H = some (.ref t) := getA_inst (c := 630) S.rd rfl rfl
theorem St.kind (S : St l H n p t k v q) : getA tb (.ref t) 213644652 H = some (.str k) := getA_inst (c := 200) S.tk rfl rfl
theorem St.value (S : St l H n p t k v q) : getA tb (.ref t) 27629678967 H = some v := getA_inst (c := 200) S.tk rfl rfl
theorem St.place (S : St l H n p t k v q) : getA tb (.ref t) 27591751409 H = some (.int q) := getA_inst (c := 200) S.tk rfl rfl
theorem St.scanner (S : St l H n p t k v q) : getA tb (.ref 59) 509310072828532 H = some (.ref 60) := getA_inst (c := 630) S.rd rfl rfl
theorem St.parts (S : St l H n p t k v q) : getA tb (.ref 59) 31385776497 H = some (.int n) := getA_inst (c := 630) S.rd rfl rfl
theorem St.meth (S : St l H n p t k v q) {m f : Nat} (hl : lk m [(509310072828532, .ref 60), (31354289525, .ref 3), (4016836508134, .ref 56), (65191896583796586, .none), (4013348893300, .ref 62), (3534201911406, .str []), (31350077937, .ref 91), (513674835473267, .ref 92), (65750375224637543, .ref 93), (29475337069, .int 0), (247280495, .int 0), (31385776497, .int n), (30012029045, .ref t)] = none) (hm : tb.meth 630 m = some f) : methOf tb (.ref 59) m H = some (.fn f (.ref 59)) := meth_inst (c := 630) S.rd hl hm

noncomputable def stepH (H : MHeap) (l : List Nat) (n p' : Nat) (k' : List Nat) (v' : MVal) (q' : Nat) : MHeap := (H.set 60 (scO l p') ++ [tokO k' v' q']).set 59 (rdO H.length n)
theorem step_ (S : St l H n p t k v q) {k' : List Nat} {v' : MVal} {q' p' : Nat} (N : Nx l p k' v' q' p') :
    callF tb (W + 2) (d + 5) 557 [.ref 59] H = some (.ref t, stepH H l n p' k' v' q') := by
  have ta := N W d H S.sc S.wo
  have mt : methOf tb (.ref 60) 215691637 H = some (.fn 268 (.ref 60)) := meth_inst (c := 348) S.sc rfl rfl
  have rd1 : (H.set 60 (scO l p') ++ [tokO k' v' q'])[59]? = some (rdO t n) := by
    rw [List.getElem?_append_left (by rw [List.length_set]; exact get_lt S.rd), List.getElem?_set_ne (by decide)]; exact S.rd
  have st : setAt tb (.ref 59) 30012029045 (.ref H.length) (H.set 60 (scO l p') ++ [tokO k' v' q']) = some (stepH H l n p' k' v' q') := setAt_inst (c := 630) rd1 rfl rfl _
  apply callF_go2 (ρ := [(217805684, .ref 59)]) (o := .ret (.ref t)) rfl rfl rfl
  (have zz0 := S.token; have zz1 := S.scanner; have zz2 := mt; have zz3 := ta; have zz4 := st; (repeat' (first|with_reducible (first|assumption|exact xNil|apply xCons|apply nxN|exact nxR|exact nxB|exact nxC|apply eLoc|apply eAttr|apply eMeth|apply mcFn|exact eInt|exact eStr|exact esNil|apply esCons|apply eGlob|apply eCall|apply cvFn|apply xExpr|apply xRet|apply xSetL|apply xIte|apply xSetA|apply xSetI|apply xUnp|apply xAugA|exact xBrk|exact xCont|apply xWhl|apply lwStep|apply gtT|exact gtF|apply gwN|exact gwR|apply ifT|apply ifF|apply tAnd|apply tOr|apply tNot|exact alNil|apply alCons|exact ayNil|apply ayCons|apply tPlain|apply eCmp|apply eBin|apply eIdx|apply eSlc|apply eBi|exact eNone|exact eBool|apply eInT|apply eIsN|apply eEqNil|apply eNot|apply eIte|apply eList|apply eTup|apply eCel|exact eNeg|exact eDict0|apply eAnd|apply eOr|apply anOne|apply anTwo|apply orOne|apply orTwo|exact bAdd|exact bSub|apply cEqS|apply cNeS|apply cEqI|apply cNeI|apply cLt|apply cLe|apply cGt|apply cGe|apply cLtS|apply cLeS|apply cInS)|((with_reducible apply lkHit); exact Eq.refl true)|((with_reducible apply lkHere); exact Eq.refl true)|((with_reducible apply lkMiss); exact Eq.refl false)|((with_reducible apply lkNext); exact Eq.refl false)|with_reducible apply xForS|((with_reducible apply lfE); (with_reducible assumption))|((with_reducible apply lfN); (with_reducible assumption))|((with_reducible apply setAt_last) <;> exact Eq.refl true)|exact Eq.refl true|exact Eq.refl false|exact xNil|with_reducible exact nxR|(apply xCons)|(apply xSetL)|(apply xExpr)|(apply xIte)|(apply xRet)|(apply xSetA)|exact rfl)))
theorem step_st (S : St l H n p t k v q) {k' : List Nat} {v' : MVal} {q' p' : Nat} : St l (stepH H l n p' k' v' q') n p' H.length k' v' q' := by
  have h59 := get_lt S.rd
  have h60 := get_lt S.sc
  have h61 := get_lt S.wo
  unfold stepH
  refine ⟨?_, ?_, ?_, ?_, by have := get_lt S.tk; have := S.lo; omega⟩
  · refine get_set (a := rdO t n) ?_ _
    rw [List.getElem?_append_left (by rw [List.length_set]; exact h59), List.getElem?_set_ne (by decide)]; exact S.rd
  · rw [List.getElem?_set_ne (by decide), List.getElem?_append_left (by rw [List.length_set]; exact h60)]; exact get_set S.sc _
  · rw [List.getElem?_set_ne (by decide), List.getElem?_append_left (by rw [List.length_set]; exact h61), List.getElem?_set_ne (by decide)]; exact S.wo
  · rw [List.getElem?_set_ne (by omega), List.getElem?_append_right (by rw [List.length_set]; exact Nat.le_refl _), List.length_set]; simp
theorem step_keep {k' : List Nat} {v' : MVal} {q' p' : Nat} : Keep H (stepH H l n p' k' v' q') := by
  unfold stepH
  exact ((Keep.set (.inr rfl) _).trans (Keep.app _ _)).trans (Keep.set (.inl rfl) _)
end


end
section
set_option maxRecDepth 10000

section
variable {l : List Nat} {H : MHeap} {n p t : Nat} {k : List Nat} {v : MVal} {q : Nat} {W d : Nat}

theorem at_ (S : St l H n p t k v q) (kk : List Nat) : callF tb W (d + 1) 564 [.ref 59, .str kk] H = some (.bool (k == kk), H) := by
  apply callF_go2 (ρ := [(217805684, .ref 59), (213644652, .str kk)]) (o := .ret (.bool (k == kk))) rfl rfl rfl
  (have zz0 := S.token; have zz1 := S.kind; (repeat' (first|with_reducible (first|assumption|exact xNil|apply xCons|apply nxN|exact nxR|exact nxB|exact nxC|apply eLoc|apply eAttr|apply eMeth|apply mcFn|exact eInt|exact eStr|exact esNil|apply esCons|apply eGlob|apply eCall|apply cvFn|apply xExpr|apply xRet|apply xSetL|apply xIte|apply xSetA|apply xSetI|apply xUnp|apply xAugA|exact xBrk|exact xCont|apply xWhl|apply lwStep|apply gtT|exact gtF|apply gwN|exact gwR|apply ifT|apply ifF|apply tAnd|apply tOr|apply tNot|exact alNil|apply alCons|exact ayNil|apply ayCons|apply tPlain|apply eCmp|apply eBin|apply eIdx|apply eSlc|apply eBi|exact eNone|exact eBool|apply eInT|apply eIsN|apply eEqNil|apply eNot|apply eIte|apply eList|apply eTup|apply eCel|exact eNeg|exact eDict0|apply eAnd|apply eOr|apply anOne|apply anTwo|apply orOne|apply orTwo|exact bAdd|exact bSub|apply cEqS|apply cNeS|apply cEqI|apply cNeI|apply cLt|apply cLe|apply cGt|apply cGe|apply cLtS|apply cLeS|apply cInS)|((with_reducible apply lkHit); exact Eq.refl true)|((with_reducible apply lkHere); exact Eq.refl true)|((with_reducible apply lkMiss); exact Eq.refl false)|((with_reducible apply lkNext); exact Eq.refl false)|with_reducible apply xForS|((with_reducible apply lfE); (with_reducible assumption))|((with_reducible apply lfN); (with_reducible assumption))|((with_reducible apply setAt_last) <;> exact Eq.refl true)|exact Eq.refl true|exact Eq.refl false|exact xNil|with_reducible exact nxR|(apply xCons)|(apply xSetL)|(apply xExpr)|(apply xIte)|(apply xRet)|(apply xSetA)|exact rfl)))
theorem skip_no (S : St l H n p t k v q) {kk : List Nat} (h : (k == kk) = false) : callF tb W (d + 1) 571 [.ref 59, .str kk] H = some (.bool false, H) := by
  apply callF_go2 (ρ := [(217805684, .ref 59), (213644652, .str kk)]) (o := .ret (.bool false)) rfl rfl rfl
  (have zz0 := S.token; have zz1 := S.kind; have zz2 := h; (repeat' (first|with_reducible (first|assumption|exact xNil|apply xCons|apply nxN|exact nxR|exact nxB|exact nxC|apply eLoc|apply eAttr|apply eMeth|apply mcFn|exact eInt|exact eStr|exact esNil|apply esCons|apply eGlob|apply eCall|apply cvFn|apply xExpr|apply xRet|apply xSetL|apply xIte|apply xSetA|apply xSetI|apply xUnp|apply xAugA|exact xBrk|exact xCont|apply xWhl|apply lwStep|apply gtT|exact gtF|apply gwN|exact gwR|apply ifT|apply ifF|apply tAnd|apply tOr|apply tNot|exact alNil|apply alCons|exact ayNil|apply ayCons|apply tPlain|apply eCmp|apply eBin|apply eIdx|apply eSlc|apply eBi|exact eNone|exact eBool|apply eInT|apply eIsN|apply eEqNil|apply eNot|apply eIte|apply eList|apply eTup|apply eCel|exact eNeg|exact eDict0|apply eAnd|apply eOr|apply anOne|apply anTwo|apply orOne|apply orTwo|exact bAdd|exact bSub|apply cEqS|apply cNeS|apply cEqI|apply cNeI|apply cLt|apply cLe|apply cGt|apply cGe|apply cLtS|apply cLeS|apply cInS)|((with_reducible apply lkHit); exact Eq.refl true)|((with_reducible apply lkHere); exact Eq.refl true)|((with_reducible apply lkMiss); exact Eq.refl false)|((with_reducible apply lkNext); exact Eq.refl false)|with_reducible apply xForS|((with_reducible apply lfE); (with_reducible assumption))|((with_reducible apply lfN); (with_reducible assumption))|((with_reducible apply setAt_last) <;> exact Eq.refl true)|exact Eq.refl true|exact Eq.refl false|exact xNil|with_reducible exact nxR|(apply xCons)|(apply xSetL)|(apply xExpr)|(apply xIte)|(apply xRet)|(apply xSetA)|exact rfl)))
theorem skip_yes (S : St l H n p t k v q) {k' : List Nat} {v' : MVal} {q' p' : Nat} (N : Nx l p k' v' q' p') : callF tb (W + 2) (d + 6) 571 [.ref 59, .str k] H = some (.bool true, stepH H l n p' k' v' q') := by
  have h : (k == k) = true := by simp
  have sp := step_ (W := W) (d := d) S N
  have m1 : methOf tb (.ref 59) 238664436 H = some (.fn 557 (.ref 59)) := S.meth rfl rfl
  apply callF_go2 (ρ := [(217805684, .ref 59), (213644652, .str k)]) (o := .ret (.bool true)) rfl rfl rfl
  (have zz0 := S.token; have zz1 := S.kind; have zz2 := h; have zz3 := m1; have zz4 := sp; (repeat' (first|with_reducible (first|assumption|exact xNil|apply xCons|apply nxN|exact nxR|exact nxB|exact nxC|apply eLoc|apply eAttr|apply eMeth|apply mcFn|exact eInt|exact eStr|exact esNil|apply esCons|apply eGlob|apply eCall|apply cvFn|apply xExpr|apply xRet|apply xSetL|apply xIte|apply xSetA|apply xSetI|apply xUnp|apply xAugA|exact xBrk|exact xCont|apply xWhl|apply lwStep|apply gtT|exact gtF|apply gwN|exact gwR|apply ifT|apply ifF|apply tAnd|apply tOr|apply tNot|exact alNil|apply alCons|exact ayNil|apply ayCons|apply tPlain|apply eCmp|apply eBin|apply eIdx|apply eSlc|apply eBi|exact eNone|exact eBool|apply eInT|apply eIsN|apply eEqNil|apply eNot|apply eIte|apply eList|apply eTup|apply eCel|exact eNeg|exact eDict0|apply eAnd|apply eOr|apply anOne|apply anTwo|apply orOne|apply orTwo|exact bAdd|exact bSub|apply cEqS|apply cNeS|apply cEqI|apply cNeI|apply cLt|apply cLe|apply cGt|apply cGe|apply cLtS|apply cLeS|apply cInS)|((with_reducible apply lkHit); exact Eq.refl true)|((with_reducible apply lkHere); exact Eq.refl true)|((with_reducible apply lkMiss); exact Eq.refl false)|((with_reducible apply lkNext); exact Eq.refl false)|with_reducible apply xForS|((with_reducible apply lfE); (with_reducible assumption))|((with_reducible apply lfN); (with_reducible assumption))|((with_reducible apply setAt_last) <;> exact Eq.refl true)|exact Eq.refl true|exact Eq.refl false|exact xNil|with_reducible exact nxR|(apply xCons)|(apply xSetL)|(apply xExpr)|(apply xIte)|(apply xRet)|(apply xSetA)|exact rfl)))
theorem expect_yes (S : St l H n p t k v q) {k' : List Nat} {v' : MVal} {q' p' : Nat} (N : Nx l p k' v' q' p') : callF tb (W + 2) (d + 7) 578 [.ref 59, .str k] H = some (.bool true, stepH H l n p' k' v' q') := by
  have sp := skip_yes (W := W) (d := d) S N
  have m1 : methOf tb (.ref 59) 238728820 H = some (.fn 571 (.ref 59)) := S.meth rfl rfl
  apply callF_go2 (ρ := [(217805684, .ref 59), (213644652, .str k)]) (o := .ret (.bool true)) rfl rfl rfl
  (have zz0 := m1; have zz1 := sp; (repeat' (first|with_reducible (first|assumption|exact xNil|apply xCons|apply nxN|exact nxR|exact nxB|exact nxC|apply eLoc|apply eAttr|apply eMeth|apply mcFn|exact eInt|exact eStr|exact esNil|apply esCons|apply eGlob|apply eCall|apply cvFn|apply xExpr|apply xRet|apply xSetL|apply xIte|apply xSetA|apply xSetI|apply xUnp|apply xAugA|exact xBrk|exact xCont|apply xWhl|apply lwStep|apply gtT|exact gtF|apply gwN|exact gwR|apply ifT|apply ifF|apply tAnd|apply tOr|apply tNot|exact alNil|apply alCons|exact ayNil|apply ayCons|apply tPlain|apply eCmp|apply eBin|apply eIdx|apply eSlc|apply eBi|exact eNone|exact eBool|apply eInT|apply eIsN|apply eEqNil|apply eNot|apply eIte|apply eList|apply eTup|apply eCel|exact eNeg|exact eDict0|apply eAnd|apply eOr|apply anOne|apply anTwo|apply orOne|apply orTwo|exact bAdd|exact bSub|apply cEqS|apply cNeS|apply cEqI|apply cNeI|apply cLt|apply cLe|apply cGt|apply cGe|apply cLtS|apply cLeS|apply cInS)|((with_reducible apply lkHit); exact Eq.refl true)|((with_reducible apply lkHere); exact Eq.refl true)|((with_reducible apply lkMiss); exact Eq.refl false)|((with_reducible apply lkNext); exact Eq.refl false)|with_reducible apply xForS|((with_reducible apply lfE); (with_reducible assumption))|((with_reducible apply lfN); (with_reducible assumption))|((with_reducible apply setAt_last) <;> exact Eq.refl true)|exact Eq.refl true|exact Eq.refl false|exact xNil|with_reducible exact nxR|(apply xCons)|(apply xSetL)|(apply xExpr)|(apply xIte)|(apply xRet)|(apply xSetA)|exact rfl)))
theorem name_yes (S : St l H n p t [105, 100, 101, 110, 116] v q) {k' : List Nat} {v' : MVal} {q' p' : Nat} (N : Nx l p k' v' q' p') : callF tb (W + 2) (d + 6) 592 [.ref 59] H = some (.ref t, stepH H l n p' k' v' q') := by
  have sp := step_ (W := W) (d := d) S N
  have m1 : methOf tb (.ref 59) 238664436 H = some (.fn 557 (.ref 59)) := S.meth rfl rfl
  have m2 : methOf tb (.ref 59) 15074 H = some (.fn 564 (.ref 59)) := S.meth rfl rfl
  have a := at_ (W := W + 2) (d := d + 4) S [105, 100, 101, 110, 116]
  have h : (([105, 100, 101, 110, 116] : List Nat) == [105, 100, 101, 110, 116]) = true := rfl
  rw [h] at a
  apply callF_go2 (ρ := [(217805684, .ref 59)]) (o := .ret (.ref t)) rfl rfl rfl
  (have zz0 := m1; have zz1 := m2; have zz2 := sp; have zz3 := a; (repeat' (first|with_reducible (first|assumption|exact xNil|apply xCons|apply nxN|exact nxR|exact nxB|exact nxC|apply eLoc|apply eAttr|apply eMeth|apply mcFn|exact eInt|exact eStr|exact esNil|apply esCons|apply eGlob|apply eCall|apply cvFn|apply xExpr|apply xRet|apply xSetL|apply xIte|apply xSetA|apply xSetI|apply xUnp|apply xAugA|exact xBrk|exact xCont|apply xWhl|apply lwStep|apply gtT|exact gtF|apply gwN|exact gwR|apply ifT|apply ifF|apply tAnd|apply tOr|apply tNot|exact alNil|apply alCons|exact ayNil|apply ayCons|apply tPlain|apply eCmp|apply eBin|apply eIdx|apply eSlc|apply eBi|exact eNone|exact eBool|apply eInT|apply eIsN|apply eEqNil|apply eNot|apply eIte|apply eList|apply eTup|apply eCel|exact eNeg|exact eDict0|apply eAnd|apply eOr|apply anOne|apply anTwo|apply orOne|apply orTwo|exact bAdd|exact bSub|apply cEqS|apply cNeS|apply cEqI|apply cNeI|apply cLt|apply cLe|apply cGt|apply cGe|apply cLtS|apply cLeS|apply cInS)|((with_reducible apply lkHit); exact Eq.refl true)|((with_reducible apply lkHere); exact Eq.refl true)|((with_reducible apply lkMiss); exact Eq.refl false)|((with_reducible apply lkNext); exact Eq.refl false)|with_reducible apply xForS|((with_reducible apply lfE); (with_reducible assumption))|((with_reducible apply lfN); (with_reducible assumption))|((with_reducible apply setAt_last) <;> exact Eq.refl true)|exact Eq.refl true|exact Eq.refl false|exact xNil|with_reducible exact nxR|(apply xCons)|(apply xSetL)|(apply xExpr)|(apply xIte)|(apply xRet)|(apply xSetA)|exact rfl)))

noncomputable def partH (H : MHeap) (t n : Nat) : MHeap := H.set 59 (rdO t (n + 1))
theorem part_st (S : St l H n p t k v q) : St l (partH H t n) (n + 1) p t k v q := by
  unfold partH
  refine ⟨get_set S.rd _, ?_, ?_, ?_, S.lo⟩
  · rw [List.getElem?_set_ne (by decide)]; exact S.sc
  · rw [List.getElem?_set_ne (by decide)]; exact S.wo
  · rw [List.getElem?_set_ne (by have := S.lo; omega)]; exact S.tk
theorem part_keep {t n : Nat} : Keep H (partH H t n) := Keep.set (.inl rfl) _
theorem part_ok (S : St l H n p t k v q) (hn : n < 120) : callF tb W (d + 1) 620 [.ref 59] H = some (.none, partH H t n) := by
  have st : setAt tb (.ref 59) 31385776497 (.int ((n + 1 : Nat) : Int)) H = some (partH H t n) := setAt_inst (c := 630) S.rd rfl rfl _
  have e1 : ((n + 1 : Nat) : Int) = (n : Int) + 1 := by omega
  have le : decide ((120 : Int) < ((n + 1 : Nat) : Int)) = false := decide_eq_false (by omega)
  have pp := (part_st S).parts
  rw [e1] at st le pp
  apply callF_go2 (ρ := [(217805684, .ref 59)]) (o := .next) rfl rfl rfl
  (have zz0 := S.parts; have zz1 := st; have zz2 := pp; have zz3 := le; (repeat' (first|with_reducible (first|assumption|exact xNil|apply xCons|apply nxN|exact nxR|exact nxB|exact nxC|apply eLoc|apply eAttr|apply eMeth|apply mcFn|exact eInt|exact eStr|exact esNil|apply esCons|apply eGlob|apply eCall|apply cvFn|apply xExpr|apply xRet|apply xSetL|apply xIte|apply xSetA|apply xSetI|apply xUnp|apply xAugA|exact xBrk|exact xCont|apply xWhl|apply lwStep|apply gtT|exact gtF|apply gwN|exact gwR|apply ifT|apply ifF|apply tAnd|apply tOr|apply tNot|exact alNil|apply alCons|exact ayNil|apply ayCons|apply tPlain|apply eCmp|apply eBin|apply eIdx|apply eSlc|apply eBi|exact eNone|exact eBool|apply eInT|apply eIsN|apply eEqNil|apply eNot|apply eIte|apply eList|apply eTup|apply eCel|exact eNeg|exact eDict0|apply eAnd|apply eOr|apply anOne|apply anTwo|apply orOne|apply orTwo|exact bAdd|exact bSub|apply cEqS|apply cNeS|apply cEqI|apply cNeI|apply cLt|apply cLe|apply cGt|apply cGe|apply cLtS|apply cLeS|apply cInS)|((with_reducible apply lkHit); exact Eq.refl true)|((with_reducible apply lkHere); exact Eq.refl true)|((with_reducible apply lkMiss); exact Eq.refl false)|((with_reducible apply lkNext); exact Eq.refl false)|with_reducible apply xForS|((with_reducible apply lfE); (with_reducible assumption))|((with_reducible apply lfN); (with_reducible assumption))|((with_reducible apply setAt_last) <;> exact Eq.refl true)|exact Eq.refl true|exact Eq.refl false|exact xNil|with_reducible exact nxR|(apply xCons)|(apply xSetL)|(apply xExpr)|(apply xIte)|(apply xRet)|(apply xSetA)|exact rfl)))
end


end
section
set_option maxRecDepth 10000

noncomputable def nodeO (op : List Nat) (pl ty : MVal) (ki : Nat) (val : MVal) : MObj := .inst 39 [(14576, .str op), (27591751409, pl), (215776629, ty), (244938092, .ref ki), (27629678967, val), (215808884, .bool false)]
noncomputable def kidOp (op : List Nat) : Bool := ([[102, 105, 101, 108, 100], [105, 110, 100, 101, 120], [103, 117, 97, 114, 100]] : List (List Nat)).contains op
/-- the node at i leads through m kids to a var or a deref -/
inductive Des (H : MHeap) : Nat → Nat → Prop
  | base {i : Nat} {op pl ty ki val} : H[i]? = some (nodeO op pl ty ki val) → 60 < i → op = [118, 97, 114] ∨ op = [100, 101, 114, 101, 102] → Des H i 0
  | step {i j m : Nat} {op pl ty ki val} {r : List MVal} : H[i]? = some (nodeO op pl ty ki val) → 60 < i → kidOp op = true → H[ki]? = some (.list (.ref j :: r)) → 60 < ki → r.length < 10 → Des H j m → Des H i (m + 1)
theorem Des.keep {H H' : MHeap} (K : Keep H H') {i m : Nat} (D : Des H i m) : Des H' i m := by
  induction D with
  | base h hi ho => exact .base (K.at h hi) hi ho
  | step h hi ho hk hki hr _ ih => exact .step (K.at h hi) hi ho (K.at hk hki) hki hr ih

section
variable {H : MHeap} {i ki : Nat} {op : List Nat} {pl ty val : MVal}
theorem node_op (h : H[i]? = some (nodeO op pl ty ki val)) : getA tb (.ref i) 14576 H = some (.str op) := getA_inst (c := 39) h rfl rfl
theorem node_type (h : H[i]? = some (nodeO op pl ty ki val)) : getA tb (.ref i) 215776629 H = some ty := getA_inst (c := 39) h rfl rfl
theorem node_kids (h : H[i]? = some (nodeO op pl ty ki val)) : getA tb (.ref i) 244938092 H = some (.ref ki) := getA_inst (c := 39) h rfl rfl
theorem node_value (h : H[i]? = some (nodeO op pl ty ki val)) : getA tb (.ref i) 27629678967 H = some val := getA_inst (c := 39) h rfl rfl
theorem index_0 {r : List MVal} {v : MVal} (h : H[i]? = some (.list (v :: r))) (hr : r.length < 10) : index (.ref i) (.int 0) H = some v := by
  unfold index
  have hl : (v :: r).length ≤ szLine := by rw [List.length_cons, show szLine = 1048576 from by decide]; omega
  have hp : place 0 (v :: r).length = some 0 := by
    unfold place
    rw [if_pos (by decide), if_pos (by simp)]; rfl
  simp only [h, hl, if_true, hp, Option.bind_some, List.getElem?_cons_zero]
end

theorem loopW_next {tf : Loc → MHeap → Option (Bool × MHeap)} {bf : Loc → MHeap → Option Out} {w : Nat} {ρ ρ2 : Loc} {H H1 H2 : MHeap} (a : tf ρ H = some (true, H1)) (b : bf ρ H1 = some (.next, ρ2, H2)) : loopW tf bf (w + 1) ρ H = loopW tf bf w ρ2 H2 := by
  show (tf ρ H).bind _ = _
  rw [a]
  show (bf ρ H1).bind _ = _
  rw [b]; rfl
theorem loopW_stop {tf : Loc → MHeap → Option (Bool × MHeap)} {bf : Loc → MHeap → Option Out} {w : Nat} {ρ : Loc} {H H1 : MHeap} (a : tf ρ H = some (false, H1)) : loopW tf bf (w + 1) ρ H = some (.next, ρ, H1) := by
  show (tf ρ H).bind _ = _
  rw [a]; rfl
theorem loopW_ret {tf : Loc → MHeap → Option (Bool × MHeap)} {bf : Loc → MHeap → Option Out} {w : Nat} {ρ ρ2 : Loc} {H H1 H2 : MHeap} {v : MVal} (a : tf ρ H = some (true, H1)) (b : bf ρ H1 = some (.ret v, ρ2, H2)) : loopW tf bf (w + 1) ρ H = some (.ret v, ρ2, H2) := by
  show (tf ρ H).bind _ = _
  rw [a]
  show (bf ρ H1).bind _ = _
  rw [b]; rfl
theorem whl_next {T : Tab} {C : CallF} {W : Nat} {c : ME} {b ss : MSs} {ρ ρ' : Loc} {H H' : MHeap} (e : loopW (fun ρ H => evT T C ρ c H) (fun ρ H => exSs T C W b ρ H) W ρ H = some (.next, ρ', H')) : exSs T C W (.cons (.whl c b) ss) ρ H = exSs T C W ss ρ' H' := by
  show (loopW (fun ρ H => evT T C ρ c H) (fun ρ H => exSs T C W b ρ H) W ρ H).bind _ = _
  rw [e]; rfl
theorem whl_ret {T : Tab} {C : CallF} {W : Nat} {c : ME} {b ss : MSs} {ρ ρ' : Loc} {H H' : MHeap} {v : MVal} (e : loopW (fun ρ H => evT T C ρ c H) (fun ρ H => exSs T C W b ρ H) W ρ H = some (.ret v, ρ', H')) : exSs T C W (.cons (.whl c b) ss) ρ H = some (.ret v, ρ', H') := by
  show (loopW (fun ρ H => evT T C ρ c H) (fun ρ H => exSs T C W b ρ H) W ρ H).bind _ = _
  rw [e]; rfl
theorem des_loop {H : MHeap} {i m : Nat} (D : Des H i m) (C : CallF) (V : Nat) : ∀ W, m < W → ∃ j op pl ty ki val, H[j]? = some (nodeO op pl ty ki val) ∧ (op = [118, 97, 114] ∨ op = [100, 101, 114, 101, 102]) ∧
    loopW (fun ρ H => evT tb C ρ (.inT false (.attr (.loc 215578735) 14576) [[102, 105, 101, 108, 100], [105, 110, 100, 101, 120], [103, 117, 97, 114, 100]]) H) (fun ρ H => exSs tb C V (.cons (.setL 215578735 (.idx (.attr (.loc 215578735) 244938092) (.int 0))) .nil) ρ H) W [(215578735, .ref i)] H = some (.next, [(215578735, .ref j)], H) := by
  induction D with
  | @base i op pl ty ki val h hi ho =>
    intro W hW
    obtain ⟨w, rfl⟩ : ∃ w, W = w + 1 := ⟨W - 1, by omega⟩
    refine ⟨i, op, pl, ty, ki, val, h, ho, ?_⟩
    have hc : ([[102, 105, 101, 108, 100], [105, 110, 100, 101, 120], [103, 117, 97, 114, 100]] : List (List Nat)).contains op = false := by rcases ho with rfl | rfl <;> rfl
    refine loopW_stop ?_
    (have zz0 := node_op h; have zz1 := hc; (repeat' (first|with_reducible (first|assumption|exact xNil|apply xCons|apply nxN|exact nxR|exact nxB|exact nxC|apply eLoc|apply eAttr|apply eMeth|apply mcFn|exact eInt|exact eStr|exact esNil|apply esCons|apply eGlob|apply eCall|apply cvFn|apply xExpr|apply xRet|apply xSetL|apply xIte|apply xSetA|apply xSetI|apply xUnp|apply xAugA|exact xBrk|exact xCont|apply xWhl|apply lwStep|apply gtT|exact gtF|apply gwN|exact gwR|apply ifT|apply ifF|apply tAnd|apply tOr|apply tNot|exact alNil|apply alCons|exact ayNil|apply ayCons|apply tPlain|apply eCmp|apply eBin|apply eIdx|apply eSlc|apply eBi|exact eNone|exact eBool|apply eInT|apply eIsN|apply eEqNil|apply eNot|apply eIte|apply eList|apply eTup|apply eCel|exact eNeg|exact eDict0|apply eAnd|apply eOr|apply anOne|apply anTwo|apply orOne|apply orTwo|exact bAdd|exact bSub|apply cEqS|apply cNeS|apply cEqI|apply cNeI|apply cLt|apply cLe|apply cGt|apply cGe|apply cLtS|apply cLeS|apply cInS)|((with_reducible apply lkHit); exact Eq.refl true)|((with_reducible apply lkHere); exact Eq.refl true)|((with_reducible apply lkMiss); exact Eq.refl false)|((with_reducible apply lkNext); exact Eq.refl false)|with_reducible apply xForS|((with_reducible apply lfE); (with_reducible assumption))|((with_reducible apply lfN); (with_reducible assumption))|((with_reducible apply setAt_last) <;> exact Eq.refl true)|exact Eq.refl true|exact Eq.refl false|exact xNil|with_reducible exact nxR|(apply xCons)|(apply xSetL)|(apply xExpr)|(apply xIte)|(apply xRet)|(apply xSetA)|exact rfl)))
  | @step i j m op pl ty ki val r h hi ho hk hki hr D ih =>
    intro W hW
    obtain ⟨w, rfl⟩ : ∃ w, W = w + 1 := ⟨W - 1, by omega⟩
    obtain ⟨j', op', pl', ty', ki', val', h', ho', e⟩ := ih w (by omega)
    refine ⟨j', op', pl', ty', ki', val', h', ho', ?_⟩
    have hc : ([[102, 105, 101, 108, 100], [105, 110, 100, 101, 120], [103, 117, 97, 114, 100]] : List (List Nat)).contains op = true := ho
    have ht : (false != true) = true := rfl
    rw [loopW_next (ρ2 := [(215578735, .ref j)]) (H1 := H) (H2 := H) ?_ ?_]
    · exact e
    · (have zz0 := node_op h; have zz1 := hc; have zz2 := ht; (repeat' (first|with_reducible (first|assumption|exact xNil|apply xCons|apply nxN|exact nxR|exact nxB|exact nxC|apply eLoc|apply eAttr|apply eMeth|apply mcFn|exact eInt|exact eStr|exact esNil|apply esCons|apply eGlob|apply eCall|apply cvFn|apply xExpr|apply xRet|apply xSetL|apply xIte|apply xSetA|apply xSetI|apply xUnp|apply xAugA|exact xBrk|exact xCont|apply xWhl|apply lwStep|apply gtT|exact gtF|apply gwN|exact gwR|apply ifT|apply ifF|apply tAnd|apply tOr|apply tNot|exact alNil|apply alCons|exact ayNil|apply ayCons|apply tPlain|apply eCmp|apply eBin|apply eIdx|apply eSlc|apply eBi|exact eNone|exact eBool|apply eInT|apply eIsN|apply eEqNil|apply eNot|apply eIte|apply eList|apply eTup|apply eCel|exact eNeg|exact eDict0|apply eAnd|apply eOr|apply anOne|apply anTwo|apply orOne|apply orTwo|exact bAdd|exact bSub|apply cEqS|apply cNeS|apply cEqI|apply cNeI|apply cLt|apply cLe|apply cGt|apply cGe|apply cLtS|apply cLeS|apply cInS)|((with_reducible apply lkHit); exact Eq.refl true)|((with_reducible apply lkHere); exact Eq.refl true)|((with_reducible apply lkMiss); exact Eq.refl false)|((with_reducible apply lkNext); exact Eq.refl false)|with_reducible apply xForS|((with_reducible apply lfE); (with_reducible assumption))|((with_reducible apply lfN); (with_reducible assumption))|((with_reducible apply setAt_last) <;> exact Eq.refl true)|exact Eq.refl true|exact Eq.refl false|exact xNil|with_reducible exact nxR|(apply xCons)|(apply xSetL)|(apply xExpr)|(apply xIte)|(apply xRet)|(apply xSetA)|exact rfl)))
    · (have zz0 := node_kids h; have zz1 := index_0 hk hr; (repeat' (first|with_reducible (first|assumption|exact xNil|apply xCons|apply nxN|exact nxR|exact nxB|exact nxC|apply eLoc|apply eAttr|apply eMeth|apply mcFn|exact eInt|exact eStr|exact esNil|apply esCons|apply eGlob|apply eCall|apply cvFn|apply xExpr|apply xRet|apply xSetL|apply xIte|apply xSetA|apply xSetI|apply xUnp|apply xAugA|exact xBrk|exact xCont|apply xWhl|apply lwStep|apply gtT|exact gtF|apply gwN|exact gwR|apply ifT|apply ifF|apply tAnd|apply tOr|apply tNot|exact alNil|apply alCons|exact ayNil|apply ayCons|apply tPlain|apply eCmp|apply eBin|apply eIdx|apply eSlc|apply eBi|exact eNone|exact eBool|apply eInT|apply eIsN|apply eEqNil|apply eNot|apply eIte|apply eList|apply eTup|apply eCel|exact eNeg|exact eDict0|apply eAnd|apply eOr|apply anOne|apply anTwo|apply orOne|apply orTwo|exact bAdd|exact bSub|apply cEqS|apply cNeS|apply cEqI|apply cNeI|apply cLt|apply cLe|apply cGt|apply cGe|apply cLtS|apply cLeS|apply cInS)|((with_reducible apply lkHit); exact Eq.refl true)|((with_reducible apply lkHere); exact Eq.refl true)|((with_reducible apply lkMiss); exact Eq.refl false)|((with_reducible apply lkNext); exact Eq.refl false)|with_reducible apply xForS|((with_reducible apply lfE); (with_reducible assumption))|((with_reducible apply lfN); (with_reducible assumption))|((with_reducible apply setAt_last) <;> exact Eq.refl true)|exact Eq.refl true|exact Eq.refl false|exact xNil|with_reducible exact nxR|(apply xCons)|(apply xSetL)|(apply xExpr)|(apply xIte)|(apply xRet)|(apply xSetA)|exact rfl)))

theorem is_des {H : MHeap} {i m W d : Nat} (D : Des H i m) (hW : m < W) : callF tb W (d + 1) 50 [.ref i] H = some (.bool true, H) := by
  obtain ⟨j, op, pl, ty, ki, val, h, ho, e⟩ := des_loop D (callF tb W d) W W hW
  apply callF_go2 (ρ := [(215578735, .ref i)]) (o := .ret (.bool true)) rfl rfl rfl
  unfold b50
  rw [whl_next e]
  rcases ho with rfl | rfl
  · have q : (([118, 97, 114] : List Nat) == [118, 97, 114]) = true := rfl
    (have zz0 := node_op h; have zz1 := q; (repeat' (first|with_reducible (first|assumption|exact xNil|apply xCons|apply nxN|exact nxR|exact nxB|exact nxC|apply eLoc|apply eAttr|apply eMeth|apply mcFn|exact eInt|exact eStr|exact esNil|apply esCons|apply eGlob|apply eCall|apply cvFn|apply xExpr|apply xRet|apply xSetL|apply xIte|apply xSetA|apply xSetI|apply xUnp|apply xAugA|exact xBrk|exact xCont|apply xWhl|apply lwStep|apply gtT|exact gtF|apply gwN|exact gwR|apply ifT|apply ifF|apply tAnd|apply tOr|apply tNot|exact alNil|apply alCons|exact ayNil|apply ayCons|apply tPlain|apply eCmp|apply eBin|apply eIdx|apply eSlc|apply eBi|exact eNone|exact eBool|apply eInT|apply eIsN|apply eEqNil|apply eNot|apply eIte|apply eList|apply eTup|apply eCel|exact eNeg|exact eDict0|apply eAnd|apply eOr|apply anOne|apply anTwo|apply orOne|apply orTwo|exact bAdd|exact bSub|apply cEqS|apply cNeS|apply cEqI|apply cNeI|apply cLt|apply cLe|apply cGt|apply cGe|apply cLtS|apply cLeS|apply cInS)|((with_reducible apply lkHit); exact Eq.refl true)|((with_reducible apply lkHere); exact Eq.refl true)|((with_reducible apply lkMiss); exact Eq.refl false)|((with_reducible apply lkNext); exact Eq.refl false)|with_reducible apply xForS|((with_reducible apply lfE); (with_reducible assumption))|((with_reducible apply lfN); (with_reducible assumption))|((with_reducible apply setAt_last) <;> exact Eq.refl true)|exact Eq.refl true|exact Eq.refl false|exact xNil|with_reducible exact nxR|(apply xCons)|(apply xSetL)|(apply xExpr)|(apply xIte)|(apply xRet)|(apply xSetA)|exact rfl)))
  · have q : (([100, 101, 114, 101, 102] : List Nat) == [118, 97, 114]) = false := rfl
    have q' : (([100, 101, 114, 101, 102] : List Nat) == [100, 101, 114, 101, 102]) = true := rfl
    (have zz0 := node_op h; have zz1 := q; have zz2 := q'; (repeat' (first|with_reducible (first|assumption|exact xNil|apply xCons|apply nxN|exact nxR|exact nxB|exact nxC|apply eLoc|apply eAttr|apply eMeth|apply mcFn|exact eInt|exact eStr|exact esNil|apply esCons|apply eGlob|apply eCall|apply cvFn|apply xExpr|apply xRet|apply xSetL|apply xIte|apply xSetA|apply xSetI|apply xUnp|apply xAugA|exact xBrk|exact xCont|apply xWhl|apply lwStep|apply gtT|exact gtF|apply gwN|exact gwR|apply ifT|apply ifF|apply tAnd|apply tOr|apply tNot|exact alNil|apply alCons|exact ayNil|apply ayCons|apply tPlain|apply eCmp|apply eBin|apply eIdx|apply eSlc|apply eBi|exact eNone|exact eBool|apply eInT|apply eIsN|apply eEqNil|apply eNot|apply eIte|apply eList|apply eTup|apply eCel|exact eNeg|exact eDict0|apply eAnd|apply eOr|apply anOne|apply anTwo|apply orOne|apply orTwo|exact bAdd|exact bSub|apply cEqS|apply cNeS|apply cEqI|apply cNeI|apply cLt|apply cLe|apply cGt|apply cGe|apply cLtS|apply cLeS|apply cInS)|((with_reducible apply lkHit); exact Eq.refl true)|((with_reducible apply lkHere); exact Eq.refl true)|((with_reducible apply lkMiss); exact Eq.refl false)|((with_reducible apply lkNext); exact Eq.refl false)|with_reducible apply xForS|((with_reducible apply lfE); (with_reducible assumption))|((with_reducible apply lfN); (with_reducible assumption))|((with_reducible apply setAt_last) <;> exact Eq.refl true)|exact Eq.refl true|exact Eq.refl false|exact xNil|with_reducible exact nxR|(apply xCons)|(apply xSetL)|(apply xExpr)|(apply xIte)|(apply xRet)|(apply xSetA)|exact rfl)))


end
section
set_option maxRecDepth 10000

noncomputable def tyO (num : Int) (form : List Nat) (size : Int) (base : MVal) (len : Int) (fi pa hi : Nat) (mo la : List Nat) : MObj :=
  .inst 369 [(3978959764335, .int num), (232585319, .str form), (215938420, .int size), (215822691, base), (3639399412589, .int len), (4013071906151, .ref fi), (29475337069, .int 0), (4015464968561, .ref pa), (3534201911406, .str mo), (29475008877, .str la), (3841524856169, .ref hi), (236715238, .int 0)]
noncomputable def obO (name kind : List Nat) (ty : MVal) (lv : Int) (mo : List Nat) (val : MVal) (sl : Int) : MObj :=
  .inst 390 [(215724399, .str name), (213644652, .str kind), (215776629, ty), (27591751409, .int 0), (57310597235899622, .bool false), (69163125596271475, .bool false), (29475337069, .int lv), (3534201911406, .str mo), (27629678967, val), (247215860, .int sl), (4047714776048, .int 0), (3978959764335, .int 0), (487183448046186, .bool false), (57310699516129647, .none)]
/-- what the law has made ahead -/
structure Cst (H : MHeap) : Prop where
  c17 : H[17]? = some (tyO 4 [105, 110, 116, 101, 103, 101, 114] 4 .none 0 18 19 20 [] [])
  c33 : H[33]? = some (tyO 8 [114, 101, 99, 111, 114, 100] 32 .none 0 53 35 36 [77] [82])
  c38 : H[38]? = some (tyO 9 [112, 111, 105, 110, 116, 101, 114] 4 (.ref 33) 0 39 40 41 [77] [80])
  c43 : H[43]? = some (tyO 10 [97, 114, 114, 97, 121] 8 (.ref 38) 2 44 45 46 [] [])
  c47 : H[47]? = some (tyO 11 [97, 114, 114, 97, 121] 24 (.ref 43) 3 48 49 50 [] [])
  c51 : H[51]? = some (obO [113] [102, 105, 101, 108, 100] (.ref 38) 0 [] .none 0)
  c52 : H[52]? = some (obO [109] [102, 105, 101, 108, 100] (.ref 47) 0 [] .none 0)
  c53 : H[53]? = some (.list [.ref 51, .ref 52])
  c56 : H[56]? = some (.inst 179 [(245250163, .ref 57), (4013321402097, .ref 58)])
theorem Cst.keep {H H' : MHeap} (K : Keep H H') (c : Cst H) : Cst H' :=
  ⟨K.2 _ _ c.c17 (by decide) (by decide), K.2 _ _ c.c33 (by decide) (by decide), K.2 _ _ c.c38 (by decide) (by decide), K.2 _ _ c.c43 (by decide) (by decide), K.2 _ _ c.c47 (by decide) (by decide),
   K.2 _ _ c.c51 (by decide) (by decide), K.2 _ _ c.c52 (by decide) (by decide), K.2 _ _ c.c53 (by decide) (by decide), K.2 _ _ c.c56 (by decide) (by decide)⟩
section
variable {H : MHeap} {i : Nat} {num : Int} {form : List Nat} {size : Int} {base : MVal} {len : Int} {fi pa hi : Nat} {mo la : List Nat}
theorem ty_form (h : H[i]? = some (tyO num form size base len fi pa hi mo la)) : getA tb (.ref i) 232585319 H = some (.str form) := getA_inst (c := 369) h rfl rfl
theorem ty_base (h : H[i]? = some (tyO num form size base len fi pa hi mo la)) : getA tb (.ref i) 215822691 H = some base := getA_inst (c := 369) h rfl rfl
theorem ty_number (h : H[i]? = some (tyO num form size base len fi pa hi mo la)) : getA tb (.ref i) 3978959764335 H = some (.int num) := getA_inst (c := 369) h rfl rfl
theorem ty_length (h : H[i]? = some (tyO num form size base len fi pa hi mo la)) : getA tb (.ref i) 3639399412589 H = some (.int len) := getA_inst (c := 369) h rfl rfl
theorem ty_fields (h : H[i]? = some (tyO num form size base len fi pa hi mo la)) : getA tb (.ref i) 4013071906151 H = some (.ref fi) := getA_inst (c := 369) h rfl rfl
variable {name kind : List Nat} {ty val : MVal} {lv sl : Int}
theorem ob_name (h : H[i]? = some (obO name kind ty lv mo val sl)) : getA tb (.ref i) 215724399 H = some (.str name) := getA_inst (c := 390) h rfl rfl
theorem ob_kind (h : H[i]? = some (obO name kind ty lv mo val sl)) : getA tb (.ref i) 213644652 H = some (.str kind) := getA_inst (c := 390) h rfl rfl
theorem ob_type (h : H[i]? = some (obO name kind ty lv mo val sl)) : getA tb (.ref i) 215776629 H = some ty := getA_inst (c := 390) h rfl rfl
end

theorem node_init {W d : Nat} {H : MHeap} (op : List Nat) (pl ty : MVal) (ki : Nat) (val : MVal) : callF tb W (d + 1) 36 [.ref H.length, .str op, pl, ty, .ref ki, val] (H ++ [.inst 39 []]) = some (.none, H ++ [nodeO op pl ty ki val]) := by
  apply callF_go2 (ρ := [(217805684, .ref H.length), (14576, .str op), (27591751409, pl), (456873066921333, ty), (244938092, .ref ki), (27629678967, val)]) (o := .next) rfl rfl rfl
  ((repeat' (first|with_reducible (first|assumption|exact xNil|apply xCons|apply nxN|exact nxR|exact nxB|exact nxC|apply eLoc|apply eAttr|apply eMeth|apply mcFn|exact eInt|exact eStr|exact esNil|apply esCons|apply eGlob|apply eCall|apply cvFn|apply xExpr|apply xRet|apply xSetL|apply xIte|apply xSetA|apply xSetI|apply xUnp|apply xAugA|exact xBrk|exact xCont|apply xWhl|apply lwStep|apply gtT|exact gtF|apply gwN|exact gwR|apply ifT|apply ifF|apply tAnd|apply tOr|apply tNot|exact alNil|apply alCons|exact ayNil|apply ayCons|apply tPlain|apply eCmp|apply eBin|apply eIdx|apply eSlc|apply eBi|exact eNone|exact eBool|apply eInT|apply eIsN|apply eEqNil|apply eNot|apply eIte|apply eList|apply eTup|apply eCel|exact eNeg|exact eDict0|apply eAnd|apply eOr|apply anOne|apply anTwo|apply orOne|apply orTwo|exact bAdd|exact bSub|apply cEqS|apply cNeS|apply cEqI|apply cNeI|apply cLt|apply cLe|apply cGt|apply cGe|apply cLtS|apply cLeS|apply cInS)|((with_reducible apply lkHit); exact Eq.refl true)|((with_reducible apply lkHere); exact Eq.refl true)|((with_reducible apply lkMiss); exact Eq.refl false)|((with_reducible apply lkNext); exact Eq.refl false)|with_reducible apply xForS|((with_reducible apply lfE); (with_reducible assumption))|((with_reducible apply lfN); (with_reducible assumption))|((with_reducible apply setAt_last) <;> exact Eq.refl true)|exact Eq.refl true|exact Eq.refl false|exact xNil|with_reducible exact nxR|(apply xCons)|(apply xSetL)|(apply xExpr)|(apply xIte)|(apply xRet)|(apply xSetA)|exact rfl)))
theorem callV_node {W d : Nat} {H : MHeap} (op : List Nat) (pl ty : MVal) (ki : Nat) (val : MVal) : callV tb (callF tb W (d + 1)) (.cls 39) [.str op, pl, ty, .ref ki, val] H = some (.ref H.length, H ++ [nodeO op pl ty ki val]) := by
  exact cvCls rfl (node_init op pl ty ki val)


end
section
set_option maxRecDepth 10000

theorem loopF_next {nx : Nat → MHeap → Option (Option MVal)} {x : Nat} {bf : Loc → MHeap → Option Out} {w k : Nat} {ρ ρ2 : Loc} {H H2 : MHeap} {v : MVal} (a : nx k H = some (some v)) (b : bf (put x v ρ) H = some (.next, ρ2, H2)) : loopF nx x bf (w + 1) k ρ H = loopF nx x bf w (k + 1) ρ2 H2 := by
  show (nx k H).bind _ = _
  rw [a]
  show (bf (put x v ρ) H).bind _ = _
  rw [b]; rfl
theorem loopF_cont {nx : Nat → MHeap → Option (Option MVal)} {x : Nat} {bf : Loc → MHeap → Option Out} {w k : Nat} {ρ ρ2 : Loc} {H H2 : MHeap} {v : MVal} (a : nx k H = some (some v)) (b : bf (put x v ρ) H = some (.cont, ρ2, H2)) : loopF nx x bf (w + 1) k ρ H = loopF nx x bf w (k + 1) ρ2 H2 := by
  show (nx k H).bind _ = _
  rw [a]
  show (bf (put x v ρ) H).bind _ = _
  rw [b]; rfl
theorem loopF_brk {nx : Nat → MHeap → Option (Option MVal)} {x : Nat} {bf : Loc → MHeap → Option Out} {w k : Nat} {ρ ρ2 : Loc} {H H2 : MHeap} {v : MVal} (a : nx k H = some (some v)) (b : bf (put x v ρ) H = some (.brk, ρ2, H2)) : loopF nx x bf (w + 1) k ρ H = some (.next, ρ2, H2) := by
  show (nx k H).bind _ = _
  rw [a]
  show (bf (put x v ρ) H).bind _ = _
  rw [b]; rfl
theorem loopF_ret {nx : Nat → MHeap → Option (Option MVal)} {x : Nat} {bf : Loc → MHeap → Option Out} {w k : Nat} {ρ ρ2 : Loc} {H H2 : MHeap} {v u : MVal} (a : nx k H = some (some v)) (b : bf (put x v ρ) H = some (.ret u, ρ2, H2)) : loopF nx x bf (w + 1) k ρ H = some (.ret u, ρ2, H2) := by
  show (nx k H).bind _ = _
  rw [a]
  show (bf (put x v ρ) H).bind _ = _
  rw [b]; rfl
theorem loopF_stop {nx : Nat → MHeap → Option (Option MVal)} {x : Nat} {bf : Loc → MHeap → Option Out} {w k : Nat} {ρ : Loc} {H : MHeap} (a : nx k H = some none) : loopF nx x bf (w + 1) k ρ H = some (.next, ρ, H) := by
  show (nx k H).bind _ = _
  rw [a]; rfl
theorem forI_ret {T : Tab} {C : CallF} {W x i : Nat} {e : ME} {b ss : MSs} {ρ ρ' : Loc} {H H1 H' : MHeap} {xs : List MVal} {v : MVal} (he : evE T C ρ e H = some (.ref i, H1)) (hi : H1[i]? = some (.list xs)) (h : loopF (nxtL i) x (fun ρ H => exSs T C W b ρ H) W 0 ρ H1 = some (.ret v, ρ', H')) :
    exSs T C W (.cons (.forI x e b) ss) ρ H = some (.ret v, ρ', H') := by
  have q : exS T C W (.forI x e b) ρ H = some (.ret v, ρ', H') := xForI he hi h
  show (exS T C W (.forI x e b) ρ H).bind _ = _
  rw [q]; rfl
theorem nxtL_at {H : MHeap} {i k : Nat} {xs : List MVal} {v : MVal} (h : H[i]? = some (.list xs)) (hk : xs[k]? = some v) : nxtL i k H = some (some v) := by
  unfold nxtL; simp only [h, hk]

theorem field_q {W d : Nat} {H : MHeap} (c : Cst H) : callF tb (W + 3) (d + 1) 92 [.ref 33, .str [113]] H = some (.ref 51, H) := by
  refine Mine.callF_go (ρ := [(3501440185203, .ref 33), (215724399, .str [113])]) (o := .ret (.ref 51)) (ρ' := [(3501440185203, .ref 33), (215724399, .str [113]), (27342255463, .ref 51)]) rfl rfl ?_ rfl
  unfold b92
  have t0 : (false != true) = true := rfl
  have t1 : (MVal.ref 33 == MVal.none) = false := rfl
  have t2 : (true != false) = true := rfl
  refine whl_ret (loopW_ret (H1 := H) ?_ (forI_ret (i := 53) (H1 := H) ?_ c.c53 (loopF_ret (nxtL_at c.c53 (k := 0) rfl) ?_)))
  · (have zz0 := t1; have zz1 := t2; (repeat' (first|with_reducible (first|assumption|exact xNil|apply xCons|apply nxN|exact nxR|exact nxB|exact nxC|apply eLoc|apply eAttr|apply eMeth|apply mcFn|exact eInt|exact eStr|exact esNil|apply esCons|apply eGlob|apply eCall|apply cvFn|apply xExpr|apply xRet|apply xSetL|apply xIte|apply xSetA|apply xSetI|apply xUnp|apply xAugA|exact xBrk|exact xCont|apply xWhl|apply lwStep|apply gtT|exact gtF|apply gwN|exact gwR|apply ifT|apply ifF|apply tAnd|apply tOr|apply tNot|exact alNil|apply alCons|exact ayNil|apply ayCons|apply tPlain|apply eCmp|apply eBin|apply eIdx|apply eSlc|apply eBi|exact eNone|exact eBool|apply eInT|apply eIsN|apply eEqNil|apply eNot|apply eIte|apply eList|apply eTup|apply eCel|exact eNeg|exact eDict0|apply eAnd|apply eOr|apply anOne|apply anTwo|apply orOne|apply orTwo|exact bAdd|exact bSub|apply cEqS|apply cNeS|apply cEqI|apply cNeI|apply cLt|apply cLe|apply cGt|apply cGe|apply cLtS|apply cLeS|apply cInS)|((with_reducible apply lkHit); exact Eq.refl true)|((with_reducible apply lkHere); exact Eq.refl true)|((with_reducible apply lkMiss); exact Eq.refl false)|((with_reducible apply lkNext); exact Eq.refl false)|with_reducible apply xForS|((with_reducible apply lfE); (with_reducible assumption))|((with_reducible apply lfN); (with_reducible assumption))|((with_reducible apply setAt_last) <;> exact Eq.refl true)|exact Eq.refl true|exact Eq.refl false|exact xNil|with_reducible exact nxR|(apply xCons)|(apply xSetL)|(apply xExpr)|(apply xIte)|(apply xRet)|(apply xSetA)|exact rfl)))
  · (have zz0 := ty_fields c.c33; (repeat' (first|with_reducible (first|assumption|exact xNil|apply xCons|apply nxN|exact nxR|exact nxB|exact nxC|apply eLoc|apply eAttr|apply eMeth|apply mcFn|exact eInt|exact eStr|exact esNil|apply esCons|apply eGlob|apply eCall|apply cvFn|apply xExpr|apply xRet|apply xSetL|apply xIte|apply xSetA|apply xSetI|apply xUnp|apply xAugA|exact xBrk|exact xCont|apply xWhl|apply lwStep|apply gtT|exact gtF|apply gwN|exact gwR|apply ifT|apply ifF|apply tAnd|apply tOr|apply tNot|exact alNil|apply alCons|exact ayNil|apply ayCons|apply tPlain|apply eCmp|apply eBin|apply eIdx|apply eSlc|apply eBi|exact eNone|exact eBool|apply eInT|apply eIsN|apply eEqNil|apply eNot|apply eIte|apply eList|apply eTup|apply eCel|exact eNeg|exact eDict0|apply eAnd|apply eOr|apply anOne|apply anTwo|apply orOne|apply orTwo|exact bAdd|exact bSub|apply cEqS|apply cNeS|apply cEqI|apply cNeI|apply cLt|apply cLe|apply cGt|apply cGe|apply cLtS|apply cLeS|apply cInS)|((with_reducible apply lkHit); exact Eq.refl true)|((with_reducible apply lkHere); exact Eq.refl true)|((with_reducible apply lkMiss); exact Eq.refl false)|((with_reducible apply lkNext); exact Eq.refl false)|with_reducible apply xForS|((with_reducible apply lfE); (with_reducible assumption))|((with_reducible apply lfN); (with_reducible assumption))|((with_reducible apply setAt_last) <;> exact Eq.refl true)|exact Eq.refl true|exact Eq.refl false|exact xNil|with_reducible exact nxR|(apply xCons)|(apply xSetL)|(apply xExpr)|(apply xIte)|(apply xRet)|(apply xSetA)|exact rfl)))
  · have q0 : (([113] : List Nat) == [113]) = true := rfl
    (have zz0 := ob_name c.c51; have zz1 := q0; (repeat' (first|with_reducible (first|assumption|exact xNil|apply xCons|apply nxN|exact nxR|exact nxB|exact nxC|apply eLoc|apply eAttr|apply eMeth|apply mcFn|exact eInt|exact eStr|exact esNil|apply esCons|apply eGlob|apply eCall|apply cvFn|apply xExpr|apply xRet|apply xSetL|apply xIte|apply xSetA|apply xSetI|apply xUnp|apply xAugA|exact xBrk|exact xCont|apply xWhl|apply lwStep|apply gtT|exact gtF|apply gwN|exact gwR|apply ifT|apply ifF|apply tAnd|apply tOr|apply tNot|exact alNil|apply alCons|exact ayNil|apply ayCons|apply tPlain|apply eCmp|apply eBin|apply eIdx|apply eSlc|apply eBi|exact eNone|exact eBool|apply eInT|apply eIsN|apply eEqNil|apply eNot|apply eIte|apply eList|apply eTup|apply eCel|exact eNeg|exact eDict0|apply eAnd|apply eOr|apply anOne|apply anTwo|apply orOne|apply orTwo|exact bAdd|exact bSub|apply cEqS|apply cNeS|apply cEqI|apply cNeI|apply cLt|apply cLe|apply cGt|apply cGe|apply cLtS|apply cLeS|apply cInS)|((with_reducible apply lkHit); exact Eq.refl true)|((with_reducible apply lkHere); exact Eq.refl true)|((with_reducible apply lkMiss); exact Eq.refl false)|((with_reducible apply lkNext); exact Eq.refl false)|with_reducible apply xForS|((with_reducible apply lfE); (with_reducible assumption))|((with_reducible apply lfN); (with_reducible assumption))|((with_reducible apply setAt_last) <;> exact Eq.refl true)|exact Eq.refl true|exact Eq.refl false|exact xNil|with_reducible exact nxR|(apply xCons)|(apply xSetL)|(apply xExpr)|(apply xIte)|(apply xRet)|(apply xSetA)|exact rfl)))
theorem field_m {W d : Nat} {H : MHeap} (c : Cst H) : callF tb (W + 3) (d + 1) 92 [.ref 33, .str [109]] H = some (.ref 52, H) := by
  refine Mine.callF_go (ρ := [(3501440185203, .ref 33), (215724399, .str [109])]) (o := .ret (.ref 52)) (ρ' := [(3501440185203, .ref 33), (215724399, .str [109]), (27342255463, .ref 52)]) rfl rfl ?_ rfl
  unfold b92
  have t1 : (MVal.ref 33 == MVal.none) = false := rfl
  have t2 : (true != false) = true := rfl
  have q0 : (([113] : List Nat) == [109]) = false := rfl
  have q1 : (([109] : List Nat) == [109]) = true := rfl
  refine whl_ret (loopW_ret (H1 := H) ?_ (forI_ret (i := 53) (H1 := H) ?_ c.c53 ((loopF_next (ρ2 := [(3501440185203, .ref 33), (215724399, .str [109]), (27342255463, .ref 51)]) (H2 := H) (nxtL_at c.c53 (k := 0) rfl) ?_).trans (loopF_ret (nxtL_at c.c53 (k := 1) rfl) ?_))))
  · (have zz0 := t1; have zz1 := t2; (repeat' (first|with_reducible (first|assumption|exact xNil|apply xCons|apply nxN|exact nxR|exact nxB|exact nxC|apply eLoc|apply eAttr|apply eMeth|apply mcFn|exact eInt|exact eStr|exact esNil|apply esCons|apply eGlob|apply eCall|apply cvFn|apply xExpr|apply xRet|apply xSetL|apply xIte|apply xSetA|apply xSetI|apply xUnp|apply xAugA|exact xBrk|exact xCont|apply xWhl|apply lwStep|apply gtT|exact gtF|apply gwN|exact gwR|apply ifT|apply ifF|apply tAnd|apply tOr|apply tNot|exact alNil|apply alCons|exact ayNil|apply ayCons|apply tPlain|apply eCmp|apply eBin|apply eIdx|apply eSlc|apply eBi|exact eNone|exact eBool|apply eInT|apply eIsN|apply eEqNil|apply eNot|apply eIte|apply eList|apply eTup|apply eCel|exact eNeg|exact eDict0|apply eAnd|apply eOr|apply anOne|apply anTwo|apply orOne|apply orTwo|exact bAdd|exact bSub|apply cEqS|apply cNeS|apply cEqI|apply cNeI|apply cLt|apply cLe|apply cGt|apply cGe|apply cLtS|apply cLeS|apply cInS)|((with_reducible apply lkHit); exact Eq.refl true)|((with_reducible apply lkHere); exact Eq.refl true)|((with_reducible apply lkMiss); exact Eq.refl false)|((with_reducible apply lkNext); exact Eq.refl false)|with_reducible apply xForS|((with_reducible apply lfE); (with_reducible assumption))|((with_reducible apply lfN); (with_reducible assumption))|((with_reducible apply setAt_last) <;> exact Eq.refl true)|exact Eq.refl true|exact Eq.refl false|exact xNil|with_reducible exact nxR|(apply xCons)|(apply xSetL)|(apply xExpr)|(apply xIte)|(apply xRet)|(apply xSetA)|exact rfl)))
  · (have zz0 := ty_fields c.c33; (repeat' (first|with_reducible (first|assumption|exact xNil|apply xCons|apply nxN|exact nxR|exact nxB|exact nxC|apply eLoc|apply eAttr|apply eMeth|apply mcFn|exact eInt|exact eStr|exact esNil|apply esCons|apply eGlob|apply eCall|apply cvFn|apply xExpr|apply xRet|apply xSetL|apply xIte|apply xSetA|apply xSetI|apply xUnp|apply xAugA|exact xBrk|exact xCont|apply xWhl|apply lwStep|apply gtT|exact gtF|apply gwN|exact gwR|apply ifT|apply ifF|apply tAnd|apply tOr|apply tNot|exact alNil|apply alCons|exact ayNil|apply ayCons|apply tPlain|apply eCmp|apply eBin|apply eIdx|apply eSlc|apply eBi|exact eNone|exact eBool|apply eInT|apply eIsN|apply eEqNil|apply eNot|apply eIte|apply eList|apply eTup|apply eCel|exact eNeg|exact eDict0|apply eAnd|apply eOr|apply anOne|apply anTwo|apply orOne|apply orTwo|exact bAdd|exact bSub|apply cEqS|apply cNeS|apply cEqI|apply cNeI|apply cLt|apply cLe|apply cGt|apply cGe|apply cLtS|apply cLeS|apply cInS)|((with_reducible apply lkHit); exact Eq.refl true)|((with_reducible apply lkHere); exact Eq.refl true)|((with_reducible apply lkMiss); exact Eq.refl false)|((with_reducible apply lkNext); exact Eq.refl false)|with_reducible apply xForS|((with_reducible apply lfE); (with_reducible assumption))|((with_reducible apply lfN); (with_reducible assumption))|((with_reducible apply setAt_last) <;> exact Eq.refl true)|exact Eq.refl true|exact Eq.refl false|exact xNil|with_reducible exact nxR|(apply xCons)|(apply xSetL)|(apply xExpr)|(apply xIte)|(apply xRet)|(apply xSetA)|exact rfl)))
  · (have zz0 := ob_name c.c51; have zz1 := q0; (repeat' (first|with_reducible (first|assumption|exact xNil|apply xCons|apply nxN|exact nxR|exact nxB|exact nxC|apply eLoc|apply eAttr|apply eMeth|apply mcFn|exact eInt|exact eStr|exact esNil|apply esCons|apply eGlob|apply eCall|apply cvFn|apply xExpr|apply xRet|apply xSetL|apply xIte|apply xSetA|apply xSetI|apply xUnp|apply xAugA|exact xBrk|exact xCont|apply xWhl|apply lwStep|apply gtT|exact gtF|apply gwN|exact gwR|apply ifT|apply ifF|apply tAnd|apply tOr|apply tNot|exact alNil|apply alCons|exact ayNil|apply ayCons|apply tPlain|apply eCmp|apply eBin|apply eIdx|apply eSlc|apply eBi|exact eNone|exact eBool|apply eInT|apply eIsN|apply eEqNil|apply eNot|apply eIte|apply eList|apply eTup|apply eCel|exact eNeg|exact eDict0|apply eAnd|apply eOr|apply anOne|apply anTwo|apply orOne|apply orTwo|exact bAdd|exact bSub|apply cEqS|apply cNeS|apply cEqI|apply cNeI|apply cLt|apply cLe|apply cGt|apply cGe|apply cLtS|apply cLeS|apply cInS)|((with_reducible apply lkHit); exact Eq.refl true)|((with_reducible apply lkHere); exact Eq.refl true)|((with_reducible apply lkMiss); exact Eq.refl false)|((with_reducible apply lkNext); exact Eq.refl false)|with_reducible apply xForS|((with_reducible apply lfE); (with_reducible assumption))|((with_reducible apply lfN); (with_reducible assumption))|((with_reducible apply setAt_last) <;> exact Eq.refl true)|exact Eq.refl true|exact Eq.refl false|exact xNil|with_reducible exact nxR|(apply xCons)|(apply xSetL)|(apply xExpr)|(apply xIte)|(apply xRet)|(apply xSetA)|exact rfl)))
  · (have zz0 := ob_name c.c52; have zz1 := q1; (repeat' (first|with_reducible (first|assumption|exact xNil|apply xCons|apply nxN|exact nxR|exact nxB|exact nxC|apply eLoc|apply eAttr|apply eMeth|apply mcFn|exact eInt|exact eStr|exact esNil|apply esCons|apply eGlob|apply eCall|apply cvFn|apply xExpr|apply xRet|apply xSetL|apply xIte|apply xSetA|apply xSetI|apply xUnp|apply xAugA|exact xBrk|exact xCont|apply xWhl|apply lwStep|apply gtT|exact gtF|apply gwN|exact gwR|apply ifT|apply ifF|apply tAnd|apply tOr|apply tNot|exact alNil|apply alCons|exact ayNil|apply ayCons|apply tPlain|apply eCmp|apply eBin|apply eIdx|apply eSlc|apply eBi|exact eNone|exact eBool|apply eInT|apply eIsN|apply eEqNil|apply eNot|apply eIte|apply eList|apply eTup|apply eCel|exact eNeg|exact eDict0|apply eAnd|apply eOr|apply anOne|apply anTwo|apply orOne|apply orTwo|exact bAdd|exact bSub|apply cEqS|apply cNeS|apply cEqI|apply cNeI|apply cLt|apply cLe|apply cGt|apply cGe|apply cLtS|apply cLeS|apply cInS)|((with_reducible apply lkHit); exact Eq.refl true)|((with_reducible apply lkHere); exact Eq.refl true)|((with_reducible apply lkMiss); exact Eq.refl false)|((with_reducible apply lkNext); exact Eq.refl false)|with_reducible apply xForS|((with_reducible apply lfE); (with_reducible assumption))|((with_reducible apply lfN); (with_reducible assumption))|((with_reducible apply setAt_last) <;> exact Eq.refl true)|exact Eq.refl true|exact Eq.refl false|exact xNil|with_reducible exact nxR|(apply xCons)|(apply xSetL)|(apply xExpr)|(apply xIte)|(apply xRet)|(apply xSetA)|exact rfl)))


end
section
set_option maxRecDepth 10000

inductive Fd : List Nat → Nat → MVal → Prop
  | q : Fd [113] 51 (.ref 38)
  | m : Fd [109] 52 (.ref 47)
theorem field_fd {W d : Nat} {H : MHeap} (c : Cst H) {name : List Nat} {f : Nat} {ty : MVal} (F : Fd name f ty) : callF tb (W + 3) (d + 1) 92 [.ref 33, .str name] H = some (.ref f, H) := by
  cases F
  · exact field_q c
  · exact field_m c
theorem fd_type {H : MHeap} (c : Cst H) {name : List Nat} {f : Nat} {ty : MVal} (F : Fd name f ty) : getA tb (.ref f) 215776629 H = some ty := by
  cases F
  · exact ob_type c.c51
  · exact ob_type c.c52

noncomputable def recH (H : MHeap) (i pl f : Nat) (ty : MVal) : MHeap := (H ++ [MObj.list [.ref i]]) ++ [nodeO [102, 105, 101, 108, 100] (.int pl) ty H.length (.ref f)]
noncomputable def derH (H : MHeap) (i pl : Nat) (b : MVal) : MHeap := (H ++ [MObj.list [.ref i]]) ++ [nodeO [100, 101, 114, 101, 102] (.int pl) b H.length .none]

/-- a field of a record's node -/
theorem field_rec {W d : Nat} {H : MHeap} (c : Cst H) {i m ki : Nat} {op : List Nat} {pl0 val a1 a2 : MVal} (h : H[i]? = some (nodeO op pl0 (.ref 33) ki val)) (D : Des H i m) (hm : m < W + 3) {name : List Nat} {f : Nat} {ty : MVal} (F : Fd name f ty) (pl : Nat) :
    callF tb (W + 3) (d + 2) 99 [a1, a2, .ref i, .str name, .int pl] H = some (.ref (H ++ [MObj.list [.ref i]]).length, recH H i pl f ty) := by
  have ds := is_des (W := W + 3) (d := d) D hm
  have fd := field_fd (W := W) (d := d) c F
  have q1 : (([114, 101, 99, 111, 114, 100] : List Nat) == [112, 111, 105, 110, 116, 101, 114]) = false := rfl
  have q2 : (([114, 101, 99, 111, 114, 100] : List Nat) == [114, 101, 99, 111, 114, 100]) = true := rfl
  have q3 : (MVal.ref f == MVal.none) = false := rfl
  have q4 : (false != false) = false := rfl
  have nd := callV_node (W := W + 3) (d := d) (H := H ++ [MObj.list [.ref i]]) [102, 105, 101, 108, 100] (.int pl) ty H.length (.ref f)
  apply callF_go2 (ρ := [(31354289525, a1), (4016836508134, a2), (215578735, .ref i), (215724399, .str name), (27591751409, .int pl)]) (o := .ret (.ref (H ++ [MObj.list [.ref i]]).length)) rfl rfl rfl
  (have zz0 := node_type h; have zz1 := ty_form c.c33; have zz2 := q1; have zz3 := q2; have zz4 := ds; have zz5 := fd; have zz6 := q3; have zz7 := q4; have zz8 := fd_type c F; have zz9 := nd; have zz10 := recH; (repeat' (first|with_reducible (first|assumption|exact xNil|apply xCons|apply nxN|exact nxR|exact nxB|exact nxC|apply eLoc|apply eAttr|apply eMeth|apply mcFn|exact eInt|exact eStr|exact esNil|apply esCons|apply eGlob|apply eCall|apply cvFn|apply xExpr|apply xRet|apply xSetL|apply xIte|apply xSetA|apply xSetI|apply xUnp|apply xAugA|exact xBrk|exact xCont|apply xWhl|apply lwStep|apply gtT|exact gtF|apply gwN|exact gwR|apply ifT|apply ifF|apply tAnd|apply tOr|apply tNot|exact alNil|apply alCons|exact ayNil|apply ayCons|apply tPlain|apply eCmp|apply eBin|apply eIdx|apply eSlc|apply eBi|exact eNone|exact eBool|apply eInT|apply eIsN|apply eEqNil|apply eNot|apply eIte|apply eList|apply eTup|apply eCel|exact eNeg|exact eDict0|apply eAnd|apply eOr|apply anOne|apply anTwo|apply orOne|apply orTwo|exact bAdd|exact bSub|apply cEqS|apply cNeS|apply cEqI|apply cNeI|apply cLt|apply cLe|apply cGt|apply cGe|apply cLtS|apply cLeS|apply cInS)|((with_reducible apply lkHit); exact Eq.refl true)|((with_reducible apply lkHere); exact Eq.refl true)|((with_reducible apply lkMiss); exact Eq.refl false)|((with_reducible apply lkNext); exact Eq.refl false)|with_reducible apply xForS|((with_reducible apply lfE); (with_reducible assumption))|((with_reducible apply lfN); (with_reducible assumption))|((with_reducible apply setAt_last) <;> exact Eq.refl true)|exact Eq.refl true|exact Eq.refl false|exact xNil|with_reducible exact nxR|(apply xCons)|(apply xSetL)|(apply xExpr)|(apply xIte)|(apply xRet)|(apply xSetA)|exact rfl)))

/-- a field of a pointer's node -/
theorem field_ptr {W d : Nat} {H : MHeap} (c : Cst H) {i m ki : Nat} {op : List Nat} {pl0 val a1 a2 : MVal} (hlen : 60 < H.length) (h : H[i]? = some (nodeO op pl0 (.ref 38) ki val)) (D : Des H i m) (hm : m < W + 3) {name : List Nat} {f : Nat} {ty : MVal} (F : Fd name f ty) (pl : Nat) :
    callF tb (W + 3) (d + 2) 99 [a1, a2, .ref i, .str name, .int pl] H = some (.ref ((derH H i pl (.ref 33)) ++ [MObj.list [.ref (H ++ [MObj.list [.ref i]]).length]]).length, recH (derH H i pl (.ref 33)) (H ++ [MObj.list [.ref i]]).length pl f ty) := by
  have ds := is_des (W := W + 3) (d := d) D hm
  have K : Keep H (derH H i pl (.ref 33)) := (Keep.app _ _).trans (Keep.app _ _)
  have c2 := c.keep K
  have hd : (derH H i pl (.ref 33))[(H ++ [MObj.list [.ref i]]).length]? = some (nodeO [100, 101, 114, 101, 102] (.int pl) (.ref 33) H.length .none) := get_last _ _
  have D2 : Des (derH H i pl (.ref 33)) (H ++ [MObj.list [.ref i]]).length 0 := .base hd (lt_app (by assumption)) (.inr rfl)
  have ds2 := is_des (W := W + 3) (d := d) D2 (by omega)
  have fd := field_fd (W := W) (d := d) c2 F
  have q0 : (([112, 111, 105, 110, 116, 101, 114] : List Nat) == [112, 111, 105, 110, 116, 101, 114]) = true := rfl
  have q1 : (([114, 101, 99, 111, 114, 100] : List Nat) == [112, 111, 105, 110, 116, 101, 114]) = false := rfl
  have q2 : (([114, 101, 99, 111, 114, 100] : List Nat) == [114, 101, 99, 111, 114, 100]) = true := rfl
  have q3 : (MVal.ref f == MVal.none) = false := rfl
  have q4 : (false != false) = false := rfl
  have nd0 := callV_node (W := W + 3) (d := d) (H := H ++ [MObj.list [.ref i]]) [100, 101, 114, 101, 102] (.int pl) (.ref 33) H.length .none
  have e0 : (H ++ [MObj.list [.ref i]]) ++ [nodeO [100, 101, 114, 101, 102] (.int pl) (.ref 33) H.length .none] = derH H i pl (.ref 33) := rfl
  rw [e0] at nd0
  have nd := callV_node (W := W + 3) (d := d) (H := (derH H i pl (.ref 33)) ++ [MObj.list [.ref (H ++ [MObj.list [.ref i]]).length]]) [102, 105, 101, 108, 100] (.int pl) ty (derH H i pl (.ref 33)).length (.ref f)
  have k1 : Keep H (H ++ [MObj.list [.ref i]]) := Keep.app _ _
  apply callF_go2 (ρ := [(31354289525, a1), (4016836508134, a2), (215578735, .ref i), (215724399, .str name), (27591751409, .int pl)]) (o := .ret (.ref ((derH H i pl (.ref 33)) ++ [MObj.list [.ref (H ++ [MObj.list [.ref i]]).length]]).length)) rfl rfl rfl
  (have zz0 := node_type h; have zz1 := ty_form c.c38; have zz2 := ty_base c.c38; have zz3 := q0; have zz4 := ds; have zz5 := nd0; have zz6 := node_type hd; have zz7 := ty_form c2.c33; have zz8 := q1; have zz9 := q2; have zz10 := ds2; have zz11 := fd; have zz12 := q3; have zz13 := q4; have zz14 := fd_type c2 F; have zz15 := nd; have zz16 := recH; (repeat' (first|with_reducible (first|assumption|exact xNil|apply xCons|apply nxN|exact nxR|exact nxB|exact nxC|apply eLoc|apply eAttr|apply eMeth|apply mcFn|exact eInt|exact eStr|exact esNil|apply esCons|apply eGlob|apply eCall|apply cvFn|apply xExpr|apply xRet|apply xSetL|apply xIte|apply xSetA|apply xSetI|apply xUnp|apply xAugA|exact xBrk|exact xCont|apply xWhl|apply lwStep|apply gtT|exact gtF|apply gwN|exact gwR|apply ifT|apply ifF|apply tAnd|apply tOr|apply tNot|exact alNil|apply alCons|exact ayNil|apply ayCons|apply tPlain|apply eCmp|apply eBin|apply eIdx|apply eSlc|apply eBi|exact eNone|exact eBool|apply eInT|apply eIsN|apply eEqNil|apply eNot|apply eIte|apply eList|apply eTup|apply eCel|exact eNeg|exact eDict0|apply eAnd|apply eOr|apply anOne|apply anTwo|apply orOne|apply orTwo|exact bAdd|exact bSub|apply cEqS|apply cNeS|apply cEqI|apply cNeI|apply cLt|apply cLe|apply cGt|apply cGe|apply cLtS|apply cLeS|apply cInS)|((with_reducible apply lkHit); exact Eq.refl true)|((with_reducible apply lkHere); exact Eq.refl true)|((with_reducible apply lkMiss); exact Eq.refl false)|((with_reducible apply lkNext); exact Eq.refl false)|with_reducible apply xForS|((with_reducible apply lfE); (with_reducible assumption))|((with_reducible apply lfN); (with_reducible assumption))|((with_reducible apply setAt_last) <;> exact Eq.refl true)|exact Eq.refl true|exact Eq.refl false|exact xNil|with_reducible exact nxR|(apply xCons)|(apply xSetL)|(apply xExpr)|(apply xIte)|(apply xRet)|(apply xSetA)|exact rfl)))


end
section
set_option maxRecDepth 10000

theorem deref_ {W d : Nat} {H : MHeap} (c : Cst H) {i m ki : Nat} {op : List Nat} {pl0 val a1 a2 : MVal} (h : H[i]? = some (nodeO op pl0 (.ref 38) ki val)) (D : Des H i m) (hm : m < W) (pl : Nat) :
    callF tb W (d + 2) 106 [a1, a2, .ref i, .int pl] H = some (.ref (H ++ [MObj.list [.ref i]]).length, derH H i pl (.ref 33)) := by
  have ds := is_des (W := W) (d := d) D hm
  have q0 : (([112, 111, 105, 110, 116, 101, 114] : List Nat) == [112, 111, 105, 110, 116, 101, 114]) = true := rfl
  have nd0 := callV_node (W := W) (d := d) (H := H ++ [MObj.list [.ref i]]) [100, 101, 114, 101, 102] (.int pl) (.ref 33) H.length .none
  apply callF_go2 (ρ := [(31354289525, a1), (4016836508134, a2), (215578735, .ref i), (27591751409, .int pl)]) (o := .ret (.ref (H ++ [MObj.list [.ref i]]).length)) rfl rfl rfl
  (have zz0 := node_type h; have zz1 := ty_form c.c38; have zz2 := ty_base c.c38; have zz3 := q0; have zz4 := ds; have zz5 := nd0; have zz6 := derH; (repeat' (first|with_reducible (first|assumption|exact xNil|apply xCons|apply nxN|exact nxR|exact nxB|exact nxC|apply eLoc|apply eAttr|apply eMeth|apply mcFn|exact eInt|exact eStr|exact esNil|apply esCons|apply eGlob|apply eCall|apply cvFn|apply xExpr|apply xRet|apply xSetL|apply xIte|apply xSetA|apply xSetI|apply xUnp|apply xAugA|exact xBrk|exact xCont|apply xWhl|apply lwStep|apply gtT|exact gtF|apply gwN|exact gwR|apply ifT|apply ifF|apply tAnd|apply tOr|apply tNot|exact alNil|apply alCons|exact ayNil|apply ayCons|apply tPlain|apply eCmp|apply eBin|apply eIdx|apply eSlc|apply eBi|exact eNone|exact eBool|apply eInT|apply eIsN|apply eEqNil|apply eNot|apply eIte|apply eList|apply eTup|apply eCel|exact eNeg|exact eDict0|apply eAnd|apply eOr|apply anOne|apply anTwo|apply orOne|apply orTwo|exact bAdd|exact bSub|apply cEqS|apply cNeS|apply cEqI|apply cNeI|apply cLt|apply cLe|apply cGt|apply cGe|apply cLtS|apply cLeS|apply cInS)|((with_reducible apply lkHit); exact Eq.refl true)|((with_reducible apply lkHere); exact Eq.refl true)|((with_reducible apply lkMiss); exact Eq.refl false)|((with_reducible apply lkNext); exact Eq.refl false)|with_reducible apply xForS|((with_reducible apply lfE); (with_reducible assumption))|((with_reducible apply lfN); (with_reducible assumption))|((with_reducible apply setAt_last) <;> exact Eq.refl true)|exact Eq.refl true|exact Eq.refl false|exact xNil|with_reducible exact nxR|(apply xCons)|(apply xSetL)|(apply xExpr)|(apply xIte)|(apply xRet)|(apply xSetA)|exact rfl)))

theorem is_int {W d : Nat} {H : MHeap} (c : Cst H) : callF tb W (d + 1) 64 [.ref 17] H = some (.bool true, H) := by
  have q0 : (([105, 110, 116, 101, 103, 101, 114] : List Nat) == [105, 110, 116, 101, 103, 101, 114]) = true := rfl
  apply callF_go2 (ρ := [(117, .ref 17)]) (o := .ret (.bool true)) rfl rfl rfl
  (have zz0 := ty_form c.c17; have zz1 := q0; (repeat' (first|with_reducible (first|assumption|exact xNil|apply xCons|apply nxN|exact nxR|exact nxB|exact nxC|apply eLoc|apply eAttr|apply eMeth|apply mcFn|exact eInt|exact eStr|exact esNil|apply esCons|apply eGlob|apply eCall|apply cvFn|apply xExpr|apply xRet|apply xSetL|apply xIte|apply xSetA|apply xSetI|apply xUnp|apply xAugA|exact xBrk|exact xCont|apply xWhl|apply lwStep|apply gtT|exact gtF|apply gwN|exact gwR|apply ifT|apply ifF|apply tAnd|apply tOr|apply tNot|exact alNil|apply alCons|exact ayNil|apply ayCons|apply tPlain|apply eCmp|apply eBin|apply eIdx|apply eSlc|apply eBi|exact eNone|exact eBool|apply eInT|apply eIsN|apply eEqNil|apply eNot|apply eIte|apply eList|apply eTup|apply eCel|exact eNeg|exact eDict0|apply eAnd|apply eOr|apply anOne|apply anTwo|apply orOne|apply orTwo|exact bAdd|exact bSub|apply cEqS|apply cNeS|apply cEqI|apply cNeI|apply cLt|apply cLe|apply cGt|apply cGe|apply cLtS|apply cLeS|apply cInS)|((with_reducible apply lkHit); exact Eq.refl true)|((with_reducible apply lkHere); exact Eq.refl true)|((with_reducible apply lkMiss); exact Eq.refl false)|((with_reducible apply lkNext); exact Eq.refl false)|with_reducible apply xForS|((with_reducible apply lfE); (with_reducible assumption))|((with_reducible apply lfN); (with_reducible assumption))|((with_reducible apply setAt_last) <;> exact Eq.refl true)|exact Eq.refl true|exact Eq.refl false|exact xNil|with_reducible exact nxR|(apply xCons)|(apply xSetL)|(apply xExpr)|(apply xIte)|(apply xRet)|(apply xSetA)|exact rfl)))

noncomputable def ixH (H : MHeap) (i j pl : Nat) (b : MVal) : MHeap := (H ++ [MObj.list [.ref i, .ref j]]) ++ [nodeO [105, 110, 100, 101, 120] (.int pl) b H.length .none]
/-- an index by a constant that is within -/
theorem index_ {W d : Nat} {H : MHeap} (c : Cst H) {i j m ki kj ai : Nat} {op : List Nat} {pl0 pl1 val a1 a2 : MVal} {iv num sz len : Int} {b : MVal} {fi pa hi : Nat} (h : H[i]? = some (nodeO op pl0 (.ref ai) ki val)) (D : Des H i m) (hm : m < W)
    (hj : H[j]? = some (nodeO [99, 111, 110, 115, 116] pl1 (.ref 17) kj (.int iv))) (ha : H[ai]? = some (tyO num [97, 114, 114, 97, 121] sz b len fi pa hi [] [])) (h0 : 0 ≤ iv) (h1 : iv < len) (pl : Nat) :
    callF tb W (d + 2) 85 [a1, a2, .ref i, .ref j, .int pl] H = some (.ref (H ++ [MObj.list [.ref i, .ref j]]).length, ixH H i j pl b) := by
  have ds := is_des (W := W) (d := d) D hm
  have q0 : (([97, 114, 114, 97, 121] : List Nat) == [97, 114, 114, 97, 121]) = true := rfl
  have q1 : (([99, 111, 110, 115, 116] : List Nat) == [99, 111, 110, 115, 116]) = true := rfl
  have l0 : decide (iv < 0) = false := decide_eq_false (by omega)
  have l1 : decide (0 ≤ len) = true := decide_eq_true (by omega)
  have l2 : decide (len ≤ iv) = false := decide_eq_false (by omega)
  have nd0 := callV_node (W := W) (d := d) (H := H ++ [MObj.list [.ref i, .ref j]]) [105, 110, 100, 101, 120] (.int pl) b H.length .none
  apply callF_go2 (ρ := [(31354289525, a1), (4016836508134, a2), (215578735, .ref i), (32696268778, .ref j), (27591751409, .int pl)]) (o := .ret (.ref (H ++ [MObj.list [.ref i, .ref j]]).length)) rfl rfl rfl
  (have zz0 := node_type h; have zz1 := ty_form ha; have zz2 := ty_base ha; have zz3 := ty_length ha; have zz4 := q0; have zz5 := q1; have zz6 := ds; have zz7 := node_type hj; have zz8 := node_op hj; have zz9 := node_value hj; have zz10 := is_int (W := W) (d := d) c; have zz11 := nd0; have zz12 := ixH; (repeat' (first|with_reducible (first|assumption|exact xNil|apply xCons|apply nxN|exact nxR|exact nxB|exact nxC|apply eLoc|apply eAttr|apply eMeth|apply mcFn|exact eInt|exact eStr|exact esNil|apply esCons|apply eGlob|apply eCall|apply cvFn|apply xExpr|apply xRet|apply xSetL|apply xIte|apply xSetA|apply xSetI|apply xUnp|apply xAugA|exact xBrk|exact xCont|apply xWhl|apply lwStep|apply gtT|exact gtF|apply gwN|exact gwR|apply ifT|apply ifF|apply tAnd|apply tOr|apply tNot|exact alNil|apply alCons|exact ayNil|apply ayCons|apply tPlain|apply eCmp|apply eBin|apply eIdx|apply eSlc|apply eBi|exact eNone|exact eBool|apply eInT|apply eIsN|apply eEqNil|apply eNot|apply eIte|apply eList|apply eTup|apply eCel|exact eNeg|exact eDict0|apply eAnd|apply eOr|apply anOne|apply anTwo|apply orOne|apply orTwo|exact bAdd|exact bSub|apply cEqS|apply cNeS|apply cEqI|apply cNeI|apply cLt|apply cLe|apply cGt|apply cGe|apply cLtS|apply cLeS|apply cInS)|((with_reducible apply lkHit); exact Eq.refl true)|((with_reducible apply lkHere); exact Eq.refl true)|((with_reducible apply lkMiss); exact Eq.refl false)|((with_reducible apply lkNext); exact Eq.refl false)|with_reducible apply xForS|((with_reducible apply lfE); (with_reducible assumption))|((with_reducible apply lfN); (with_reducible assumption))|((with_reducible apply setAt_last) <;> exact Eq.refl true)|exact Eq.refl true|exact Eq.refl false|exact xNil|with_reducible exact nxR|(apply xCons)|(apply xSetL)|(apply xExpr)|(apply xIte)|(apply xRet)|(apply xSetA)|exact rfl)))


end
section
set_option maxRecDepth 10000

theorem same_33 {W d : Nat} {H : MHeap} (c : Cst H) : callF tb W (d + 1) 57 [.ref 33, .ref 33] H = some (.bool true, H) := by
  have q0 : ((8 : Int) == 8) = true := rfl
  apply callF_go2 (ρ := [(98, .ref 33), (99, .ref 33)]) (o := .ret (.bool true)) rfl rfl rfl
  (have zz0 := ty_number c.c33; have zz1 := q0; (repeat' (first|with_reducible (first|assumption|exact xNil|apply xCons|apply nxN|exact nxR|exact nxB|exact nxC|apply eLoc|apply eAttr|apply eMeth|apply mcFn|exact eInt|exact eStr|exact esNil|apply esCons|apply eGlob|apply eCall|apply cvFn|apply xExpr|apply xRet|apply xSetL|apply xIte|apply xSetA|apply xSetI|apply xUnp|apply xAugA|exact xBrk|exact xCont|apply xWhl|apply lwStep|apply gtT|exact gtF|apply gwN|exact gwR|apply ifT|apply ifF|apply tAnd|apply tOr|apply tNot|exact alNil|apply alCons|exact ayNil|apply ayCons|apply tPlain|apply eCmp|apply eBin|apply eIdx|apply eSlc|apply eBi|exact eNone|exact eBool|apply eInT|apply eIsN|apply eEqNil|apply eNot|apply eIte|apply eList|apply eTup|apply eCel|exact eNeg|exact eDict0|apply eAnd|apply eOr|apply anOne|apply anTwo|apply orOne|apply orTwo|exact bAdd|exact bSub|apply cEqS|apply cNeS|apply cEqI|apply cNeI|apply cLt|apply cLe|apply cGt|apply cGe|apply cLtS|apply cLeS|apply cInS)|((with_reducible apply lkHit); exact Eq.refl true)|((with_reducible apply lkHere); exact Eq.refl true)|((with_reducible apply lkMiss); exact Eq.refl false)|((with_reducible apply lkNext); exact Eq.refl false)|with_reducible apply xForS|((with_reducible apply lfE); (with_reducible assumption))|((with_reducible apply lfN); (with_reducible assumption))|((with_reducible apply setAt_last) <;> exact Eq.refl true)|exact Eq.refl true|exact Eq.refl false|exact xNil|with_reducible exact nxR|(apply xCons)|(apply xSetL)|(apply xExpr)|(apply xIte)|(apply xRet)|(apply xSetA)|exact rfl)))
theorem rec_38 {W d : Nat} {H : MHeap} (c : Cst H) : callF tb W (d + 1) 71 [.ref 38] H = some (.ref 33, H) := by
  have q0 : (([112, 111, 105, 110, 116, 101, 114] : List Nat) == [114, 101, 99, 111, 114, 100]) = false := rfl
  have q1 : (([112, 111, 105, 110, 116, 101, 114] : List Nat) == [112, 111, 105, 110, 116, 101, 114]) = true := rfl
  apply callF_go2 (ρ := [(117, .ref 38)]) (o := .ret (.ref 33)) rfl rfl rfl
  (have zz0 := ty_form c.c38; have zz1 := ty_base c.c38; have zz2 := q0; have zz3 := q1; (repeat' (first|with_reducible (first|assumption|exact xNil|apply xCons|apply nxN|exact nxR|exact nxB|exact nxC|apply eLoc|apply eAttr|apply eMeth|apply mcFn|exact eInt|exact eStr|exact esNil|apply esCons|apply eGlob|apply eCall|apply cvFn|apply xExpr|apply xRet|apply xSetL|apply xIte|apply xSetA|apply xSetI|apply xUnp|apply xAugA|exact xBrk|exact xCont|apply xWhl|apply lwStep|apply gtT|exact gtF|apply gwN|exact gwR|apply ifT|apply ifF|apply tAnd|apply tOr|apply tNot|exact alNil|apply alCons|exact ayNil|apply ayCons|apply tPlain|apply eCmp|apply eBin|apply eIdx|apply eSlc|apply eBi|exact eNone|exact eBool|apply eInT|apply eIsN|apply eEqNil|apply eNot|apply eIte|apply eList|apply eTup|apply eCel|exact eNeg|exact eDict0|apply eAnd|apply eOr|apply anOne|apply anTwo|apply orOne|apply orTwo|exact bAdd|exact bSub|apply cEqS|apply cNeS|apply cEqI|apply cNeI|apply cLt|apply cLe|apply cGt|apply cGe|apply cLtS|apply cLeS|apply cInS)|((with_reducible apply lkHit); exact Eq.refl true)|((with_reducible apply lkHere); exact Eq.refl true)|((with_reducible apply lkMiss); exact Eq.refl false)|((with_reducible apply lkNext); exact Eq.refl false)|with_reducible apply xForS|((with_reducible apply lfE); (with_reducible assumption))|((with_reducible apply lfN); (with_reducible assumption))|((with_reducible apply setAt_last) <;> exact Eq.refl true)|exact Eq.refl true|exact Eq.refl false|exact xNil|with_reducible exact nxR|(apply xCons)|(apply xSetL)|(apply xExpr)|(apply xIte)|(apply xRet)|(apply xSetA)|exact rfl)))
theorem ext_38 {W d : Nat} {H : MHeap} (c : Cst H) : callF tb (W + 1) (d + 2) 78 [.ref 38, .ref 38] H = some (.bool true, H) := by
  have q0 : (([112, 111, 105, 110, 116, 101, 114] : List Nat) == [112, 111, 105, 110, 116, 101, 114]) = true := rfl
  have q1 : (MVal.ref 33 == MVal.none) = false := rfl
  have q2 : (false != false) = false := rfl
  have q3 : (true != false) = true := rfl
  have r := rec_38 (W := W + 1) (d := d) c
  have sm := same_33 (W := W + 1) (d := d) c
  apply callF_go2 (ρ := [(98, .ref 38), (99, .ref 38)]) (o := .ret (.bool true)) rfl rfl rfl
  (have zz0 := ty_form c.c38; have zz1 := q0; have zz2 := q1; have zz3 := q2; have zz4 := q3; have zz5 := r; have zz6 := sm; (repeat' (first|with_reducible (first|assumption|exact xNil|apply xCons|apply nxN|exact nxR|exact nxB|exact nxC|apply eLoc|apply eAttr|apply eMeth|apply mcFn|exact eInt|exact eStr|exact esNil|apply esCons|apply eGlob|apply eCall|apply cvFn|apply xExpr|apply xRet|apply xSetL|apply xIte|apply xSetA|apply xSetI|apply xUnp|apply xAugA|exact xBrk|exact xCont|apply xWhl|apply lwStep|apply gtT|exact gtF|apply gwN|exact gwR|apply ifT|apply ifF|apply tAnd|apply tOr|apply tNot|exact alNil|apply alCons|exact ayNil|apply ayCons|apply tPlain|apply eCmp|apply eBin|apply eIdx|apply eSlc|apply eBi|exact eNone|exact eBool|apply eInT|apply eIsN|apply eEqNil|apply eNot|apply eIte|apply eList|apply eTup|apply eCel|exact eNeg|exact eDict0|apply eAnd|apply eOr|apply anOne|apply anTwo|apply orOne|apply orTwo|exact bAdd|exact bSub|apply cEqS|apply cNeS|apply cEqI|apply cNeI|apply cLt|apply cLe|apply cGt|apply cGe|apply cLtS|apply cLeS|apply cInS)|((with_reducible apply lkHit); exact Eq.refl true)|((with_reducible apply lkHere); exact Eq.refl true)|((with_reducible apply lkMiss); exact Eq.refl false)|((with_reducible apply lkNext); exact Eq.refl false)|with_reducible apply xForS|((with_reducible apply lfE); (with_reducible assumption))|((with_reducible apply lfN); (with_reducible assumption))|((with_reducible apply setAt_last) <;> exact Eq.refl true)|exact Eq.refl true|exact Eq.refl false|exact xNil|with_reducible exact nxR|(apply xCons)|(apply xSetL)|(apply xExpr)|(apply xIte)|(apply xRet)|(apply xSetA)|exact rfl)))

theorem guard_loop {H : MHeap} {i m i0 : Nat} {tv : MVal} (D : Des H i m) (C : CallF) (V : Nat) : ∀ W, m < W → ∃ j,
    loopW (fun ρ H => evT tb C ρ (.cmp .eq (.attr (.loc 31085819882) 14576) (.str [103, 117, 97, 114, 100])) H) (fun ρ H => exSs tb C V (.cons (.setL 31085819882 (.idx (.attr (.loc 31085819882) 244938092) (.int 0))) .nil) ρ H) W [(215578735, .ref i0), (117, tv), (31085819882, .ref i)] H = some (.next, [(215578735, .ref i0), (117, tv), (31085819882, .ref j)], H) := by
  induction D with
  | @base i op pl ty ki val h hi ho =>
    intro W hW
    obtain ⟨w, rfl⟩ : ∃ w, W = w + 1 := ⟨W - 1, by omega⟩
    refine ⟨i, loopW_stop ?_⟩
    have hc : (op == [103, 117, 97, 114, 100]) = false := by rcases ho with rfl | rfl <;> rfl
    (have zz0 := node_op h; have zz1 := hc; (repeat' (first|with_reducible (first|assumption|exact xNil|apply xCons|apply nxN|exact nxR|exact nxB|exact nxC|apply eLoc|apply eAttr|apply eMeth|apply mcFn|exact eInt|exact eStr|exact esNil|apply esCons|apply eGlob|apply eCall|apply cvFn|apply xExpr|apply xRet|apply xSetL|apply xIte|apply xSetA|apply xSetI|apply xUnp|apply xAugA|exact xBrk|exact xCont|apply xWhl|apply lwStep|apply gtT|exact gtF|apply gwN|exact gwR|apply ifT|apply ifF|apply tAnd|apply tOr|apply tNot|exact alNil|apply alCons|exact ayNil|apply ayCons|apply tPlain|apply eCmp|apply eBin|apply eIdx|apply eSlc|apply eBi|exact eNone|exact eBool|apply eInT|apply eIsN|apply eEqNil|apply eNot|apply eIte|apply eList|apply eTup|apply eCel|exact eNeg|exact eDict0|apply eAnd|apply eOr|apply anOne|apply anTwo|apply orOne|apply orTwo|exact bAdd|exact bSub|apply cEqS|apply cNeS|apply cEqI|apply cNeI|apply cLt|apply cLe|apply cGt|apply cGe|apply cLtS|apply cLeS|apply cInS)|((with_reducible apply lkHit); exact Eq.refl true)|((with_reducible apply lkHere); exact Eq.refl true)|((with_reducible apply lkMiss); exact Eq.refl false)|((with_reducible apply lkNext); exact Eq.refl false)|with_reducible apply xForS|((with_reducible apply lfE); (with_reducible assumption))|((with_reducible apply lfN); (with_reducible assumption))|((with_reducible apply setAt_last) <;> exact Eq.refl true)|exact Eq.refl true|exact Eq.refl false|exact xNil|with_reducible exact nxR|(apply xCons)|(apply xSetL)|(apply xExpr)|(apply xIte)|(apply xRet)|(apply xSetA)|exact rfl)))
  | @step i j m op pl ty ki val r h hi ho hk hki hr D ih =>
    intro W hW
    obtain ⟨w, rfl⟩ : ∃ w, W = w + 1 := ⟨W - 1, by omega⟩
    cases hc : (op == [103, 117, 97, 114, 100]) with
    | false =>
      refine ⟨i, loopW_stop ?_⟩
      (have zz0 := node_op h; have zz1 := hc; (repeat' (first|with_reducible (first|assumption|exact xNil|apply xCons|apply nxN|exact nxR|exact nxB|exact nxC|apply eLoc|apply eAttr|apply eMeth|apply mcFn|exact eInt|exact eStr|exact esNil|apply esCons|apply eGlob|apply eCall|apply cvFn|apply xExpr|apply xRet|apply xSetL|apply xIte|apply xSetA|apply xSetI|apply xUnp|apply xAugA|exact xBrk|exact xCont|apply xWhl|apply lwStep|apply gtT|exact gtF|apply gwN|exact gwR|apply ifT|apply ifF|apply tAnd|apply tOr|apply tNot|exact alNil|apply alCons|exact ayNil|apply ayCons|apply tPlain|apply eCmp|apply eBin|apply eIdx|apply eSlc|apply eBi|exact eNone|exact eBool|apply eInT|apply eIsN|apply eEqNil|apply eNot|apply eIte|apply eList|apply eTup|apply eCel|exact eNeg|exact eDict0|apply eAnd|apply eOr|apply anOne|apply anTwo|apply orOne|apply orTwo|exact bAdd|exact bSub|apply cEqS|apply cNeS|apply cEqI|apply cNeI|apply cLt|apply cLe|apply cGt|apply cGe|apply cLtS|apply cLeS|apply cInS)|((with_reducible apply lkHit); exact Eq.refl true)|((with_reducible apply lkHere); exact Eq.refl true)|((with_reducible apply lkMiss); exact Eq.refl false)|((with_reducible apply lkNext); exact Eq.refl false)|with_reducible apply xForS|((with_reducible apply lfE); (with_reducible assumption))|((with_reducible apply lfN); (with_reducible assumption))|((with_reducible apply setAt_last) <;> exact Eq.refl true)|exact Eq.refl true|exact Eq.refl false|exact xNil|with_reducible exact nxR|(apply xCons)|(apply xSetL)|(apply xExpr)|(apply xIte)|(apply xRet)|(apply xSetA)|exact rfl)))
    | true =>
      obtain ⟨j', e⟩ := ih w (by omega)
      refine ⟨j', ?_⟩
      rw [loopW_next (ρ2 := [(215578735, .ref i0), (117, tv), (31085819882, .ref j)]) (H1 := H) (H2 := H) ?_ ?_]
      · exact e
      · (have zz0 := node_op h; have zz1 := hc; (repeat' (first|with_reducible (first|assumption|exact xNil|apply xCons|apply nxN|exact nxR|exact nxB|exact nxC|apply eLoc|apply eAttr|apply eMeth|apply mcFn|exact eInt|exact eStr|exact esNil|apply esCons|apply eGlob|apply eCall|apply cvFn|apply xExpr|apply xRet|apply xSetL|apply xIte|apply xSetA|apply xSetI|apply xUnp|apply xAugA|exact xBrk|exact xCont|apply xWhl|apply lwStep|apply gtT|exact gtF|apply gwN|exact gwR|apply ifT|apply ifF|apply tAnd|apply tOr|apply tNot|exact alNil|apply alCons|exact ayNil|apply ayCons|apply tPlain|apply eCmp|apply eBin|apply eIdx|apply eSlc|apply eBi|exact eNone|exact eBool|apply eInT|apply eIsN|apply eEqNil|apply eNot|apply eIte|apply eList|apply eTup|apply eCel|exact eNeg|exact eDict0|apply eAnd|apply eOr|apply anOne|apply anTwo|apply orOne|apply orTwo|exact bAdd|exact bSub|apply cEqS|apply cNeS|apply cEqI|apply cNeI|apply cLt|apply cLe|apply cGt|apply cGe|apply cLtS|apply cLeS|apply cInS)|((with_reducible apply lkHit); exact Eq.refl true)|((with_reducible apply lkHere); exact Eq.refl true)|((with_reducible apply lkMiss); exact Eq.refl false)|((with_reducible apply lkNext); exact Eq.refl false)|with_reducible apply xForS|((with_reducible apply lfE); (with_reducible assumption))|((with_reducible apply lfN); (with_reducible assumption))|((with_reducible apply setAt_last) <;> exact Eq.refl true)|exact Eq.refl true|exact Eq.refl false|exact xNil|with_reducible exact nxR|(apply xCons)|(apply xSetL)|(apply xExpr)|(apply xIte)|(apply xRet)|(apply xSetA)|exact rfl)))
      · (have zz0 := node_kids h; have zz1 := index_0 hk hr; (repeat' (first|with_reducible (first|assumption|exact xNil|apply xCons|apply nxN|exact nxR|exact nxB|exact nxC|apply eLoc|apply eAttr|apply eMeth|apply mcFn|exact eInt|exact eStr|exact esNil|apply esCons|apply eGlob|apply eCall|apply cvFn|apply xExpr|apply xRet|apply xSetL|apply xIte|apply xSetA|apply xSetI|apply xUnp|apply xAugA|exact xBrk|exact xCont|apply xWhl|apply lwStep|apply gtT|exact gtF|apply gwN|exact gwR|apply ifT|apply ifF|apply tAnd|apply tOr|apply tNot|exact alNil|apply alCons|exact ayNil|apply ayCons|apply tPlain|apply eCmp|apply eBin|apply eIdx|apply eSlc|apply eBi|exact eNone|exact eBool|apply eInT|apply eIsN|apply eEqNil|apply eNot|apply eIte|apply eList|apply eTup|apply eCel|exact eNeg|exact eDict0|apply eAnd|apply eOr|apply anOne|apply anTwo|apply orOne|apply orTwo|exact bAdd|exact bSub|apply cEqS|apply cNeS|apply cEqI|apply cNeI|apply cLt|apply cLe|apply cGt|apply cGe|apply cLtS|apply cLeS|apply cInS)|((with_reducible apply lkHit); exact Eq.refl true)|((with_reducible apply lkHere); exact Eq.refl true)|((with_reducible apply lkMiss); exact Eq.refl false)|((with_reducible apply lkNext); exact Eq.refl false)|with_reducible apply xForS|((with_reducible apply lfE); (with_reducible assumption))|((with_reducible apply lfN); (with_reducible assumption))|((with_reducible apply setAt_last) <;> exact Eq.refl true)|exact Eq.refl true|exact Eq.refl false|exact xNil|with_reducible exact nxR|(apply xCons)|(apply xSetL)|(apply xExpr)|(apply xIte)|(apply xRet)|(apply xSetA)|exact rfl)))

theorem guard_code_ {W d : Nat} {H : MHeap} (c : Cst H) {i m ki : Nat} {op : List Nat} {pl0 val : MVal} (h : H[i]? = some (nodeO op pl0 (.ref 38) ki val)) (D : Des H i m) (hm : m < W + 1) :
    callF tb (W + 1) (d + 3) 113 [.ref i, .ref 38] H = some (.str [], H) := by
  have ds := is_des (W := W + 1) (d := d + 1) D hm
  have ex := ext_38 (W := W) (d := d) c
  obtain ⟨j, e⟩ := guard_loop (i0 := i) (tv := .ref 38) D (callF tb (W + 1) (d + 2)) (W + 1) (W + 1) hm
  have q0 : (([112, 111, 105, 110, 116, 101, 114] : List Nat) == [112, 111, 105, 110, 116, 101, 114]) = true := rfl
  have q1 : (([112, 111, 105, 110, 116, 101, 114] : List Nat) == [114, 101, 99, 111, 114, 100]) = false := rfl
  apply callF_go2 (ρ := [(215578735, .ref i), (117, .ref 38)]) (o := .ret (.str [])) rfl rfl rfl
  unfold b113
  rw [exSs]
  have e1 : exS tb (callF tb (W + 1) (d + 2)) (W + 1) (.setL 31085819882 (.loc 215578735)) [(215578735, .ref i), (117, .ref 38)] H = some (.next, [(215578735, .ref i), (117, .ref 38), (31085819882, .ref i)], H) := by ((repeat' (first|with_reducible (first|assumption|exact xNil|apply xCons|apply nxN|exact nxR|exact nxB|exact nxC|apply eLoc|apply eAttr|apply eMeth|apply mcFn|exact eInt|exact eStr|exact esNil|apply esCons|apply eGlob|apply eCall|apply cvFn|apply xExpr|apply xRet|apply xSetL|apply xIte|apply xSetA|apply xSetI|apply xUnp|apply xAugA|exact xBrk|exact xCont|apply xWhl|apply lwStep|apply gtT|exact gtF|apply gwN|exact gwR|apply ifT|apply ifF|apply tAnd|apply tOr|apply tNot|exact alNil|apply alCons|exact ayNil|apply ayCons|apply tPlain|apply eCmp|apply eBin|apply eIdx|apply eSlc|apply eBi|exact eNone|exact eBool|apply eInT|apply eIsN|apply eEqNil|apply eNot|apply eIte|apply eList|apply eTup|apply eCel|exact eNeg|exact eDict0|apply eAnd|apply eOr|apply anOne|apply anTwo|apply orOne|apply orTwo|exact bAdd|exact bSub|apply cEqS|apply cNeS|apply cEqI|apply cNeI|apply cLt|apply cLe|apply cGt|apply cGe|apply cLtS|apply cLeS|apply cInS)|((with_reducible apply lkHit); exact Eq.refl true)|((with_reducible apply lkHere); exact Eq.refl true)|((with_reducible apply lkMiss); exact Eq.refl false)|((with_reducible apply lkNext); exact Eq.refl false)|with_reducible apply xForS|((with_reducible apply lfE); (with_reducible assumption))|((with_reducible apply lfN); (with_reducible assumption))|((with_reducible apply setAt_last) <;> exact Eq.refl true)|exact Eq.refl true|exact Eq.refl false|exact xNil|with_reducible exact nxR|(apply xCons)|(apply xSetL)|(apply xExpr)|(apply xIte)|(apply xRet)|(apply xSetA)|exact rfl)))
  rw [e1]
  show exSs tb (callF tb (W + 1) (d + 2)) (W + 1) _ _ _ = _
  rw [whl_next e]
  (have zz0 := ds; have zz1 := node_type h; have zz2 := ty_form c.c38; have zz3 := q0; have zz4 := q1; have zz5 := ex; (repeat' (first|with_reducible (first|assumption|exact xNil|apply xCons|apply nxN|exact nxR|exact nxB|exact nxC|apply eLoc|apply eAttr|apply eMeth|apply mcFn|exact eInt|exact eStr|exact esNil|apply esCons|apply eGlob|apply eCall|apply cvFn|apply xExpr|apply xRet|apply xSetL|apply xIte|apply xSetA|apply xSetI|apply xUnp|apply xAugA|exact xBrk|exact xCont|apply xWhl|apply lwStep|apply gtT|exact gtF|apply gwN|exact gwR|apply ifT|apply ifF|apply tAnd|apply tOr|apply tNot|exact alNil|apply alCons|exact ayNil|apply ayCons|apply tPlain|apply eCmp|apply eBin|apply eIdx|apply eSlc|apply eBi|exact eNone|exact eBool|apply eInT|apply eIsN|apply eEqNil|apply eNot|apply eIte|apply eList|apply eTup|apply eCel|exact eNeg|exact eDict0|apply eAnd|apply eOr|apply anOne|apply anTwo|apply orOne|apply orTwo|exact bAdd|exact bSub|apply cEqS|apply cNeS|apply cEqI|apply cNeI|apply cLt|apply cLe|apply cGt|apply cGe|apply cLtS|apply cLeS|apply cInS)|((with_reducible apply lkHit); exact Eq.refl true)|((with_reducible apply lkHere); exact Eq.refl true)|((with_reducible apply lkMiss); exact Eq.refl false)|((with_reducible apply lkNext); exact Eq.refl false)|with_reducible apply xForS|((with_reducible apply lfE); (with_reducible assumption))|((with_reducible apply lfN); (with_reducible assumption))|((with_reducible apply setAt_last) <;> exact Eq.refl true)|exact Eq.refl true|exact Eq.refl false|exact xNil|with_reducible exact nxR|(apply xCons)|(apply xSetL)|(apply xExpr)|(apply xIte)|(apply xRet)|(apply xSetA)|exact rfl)))

noncomputable def gdH (H : MHeap) (i pl : Nat) : MHeap := (H ++ [MObj.list [.ref i]]) ++ [nodeO [103, 117, 97, 114, 100] (.int pl) (.ref 38) H.length (.ref 38)]
theorem guard_of_ {W d : Nat} {H : MHeap} (c : Cst H) {i m ki : Nat} {op : List Nat} {pl0 val a1 a2 : MVal} (h : H[i]? = some (nodeO op pl0 (.ref 38) ki val)) (D : Des H i m) (hm : m < W + 1) (pl : Nat) :
    callF tb (W + 1) (d + 4) 120 [a1, a2, .ref i, .ref 38, .int pl] H = some (.ref (H ++ [MObj.list [.ref i]]).length, gdH H i pl) := by
  have gc := guard_code_ (W := W) (d := d) c h D hm
  have q0 : (([] : List Nat) == []) = true := rfl
  have nd0 := callV_node (W := W + 1) (d := d + 2) (H := H ++ [MObj.list [.ref i]]) [103, 117, 97, 114, 100] (.int pl) (.ref 38) H.length (.ref 38)
  apply callF_go2 (ρ := [(31354289525, a1), (4016836508134, a2), (215578735, .ref i), (117, .ref 38), (27591751409, .int pl)]) (o := .ret (.ref (H ++ [MObj.list [.ref i]]).length)) rfl rfl rfl
  (have zz0 := gc; have zz1 := q0; have zz2 := nd0; have zz3 := gdH; (repeat' (first|with_reducible (first|assumption|exact xNil|apply xCons|apply nxN|exact nxR|exact nxB|exact nxC|apply eLoc|apply eAttr|apply eMeth|apply mcFn|exact eInt|exact eStr|exact esNil|apply esCons|apply eGlob|apply eCall|apply cvFn|apply xExpr|apply xRet|apply xSetL|apply xIte|apply xSetA|apply xSetI|apply xUnp|apply xAugA|exact xBrk|exact xCont|apply xWhl|apply lwStep|apply gtT|exact gtF|apply gwN|exact gwR|apply ifT|apply ifF|apply tAnd|apply tOr|apply tNot|exact alNil|apply alCons|exact ayNil|apply ayCons|apply tPlain|apply eCmp|apply eBin|apply eIdx|apply eSlc|apply eBi|exact eNone|exact eBool|apply eInT|apply eIsN|apply eEqNil|apply eNot|apply eIte|apply eList|apply eTup|apply eCel|exact eNeg|exact eDict0|apply eAnd|apply eOr|apply anOne|apply anTwo|apply orOne|apply orTwo|exact bAdd|exact bSub|apply cEqS|apply cNeS|apply cEqI|apply cNeI|apply cLt|apply cLe|apply cGt|apply cGe|apply cLtS|apply cLeS|apply cInS)|((with_reducible apply lkHit); exact Eq.refl true)|((with_reducible apply lkHere); exact Eq.refl true)|((with_reducible apply lkMiss); exact Eq.refl false)|((with_reducible apply lkNext); exact Eq.refl false)|with_reducible apply xForS|((with_reducible apply lfE); (with_reducible assumption))|((with_reducible apply lfN); (with_reducible assumption))|((with_reducible apply setAt_last) <;> exact Eq.refl true)|exact Eq.refl true|exact Eq.refl false|exact xNil|with_reducible exact nxR|(apply xCons)|(apply xSetL)|(apply xExpr)|(apply xIte)|(apply xRet)|(apply xSetA)|exact rfl)))


end
section
set_option maxRecDepth 10000

structure Cs2 (H : MHeap) : Prop where
  c62 : H[62]? = some (.inst 510 [(31354289525, .ref 3), (3534201911406, .str []), (29202365172, .ref 66), (29475337069, .int 0)])
  c66 : H[66]? = some (.list [.ref 63, .ref 95])
  c95 : H[95]? = some (.inst 447 [(29475337069, .int 0), (29475008877, .str []), (31354237295, .ref 96), (31085656560, .ref 97), (31385728756, .int 0)])
  c96 : H[96]? = some (.dict [(.str [80], .ref 98)])
  c98 : H[98]? = some (obO [80] [116, 121, 112, 101] (.ref 38) 0 [] .none 0)
  c3 : ∃ a b c d e f g h, H[3]? = some (.inst 426 [(509311683770468, a), (30049843180, b), (491578027948131, c), (242791652, d), (215842147, e), (509308175218666, .ref 17), (228405614, f), (1799535, g), (215742575, h)])
theorem Cs2.keep {H H' : MHeap} (K : Keep H H') (c : Cs2 H) : Cs2 H' :=
  ⟨K.2 _ _ c.c62 (by decide) (by decide), K.2 _ _ c.c66 (by decide) (by decide), K.2 _ _ c.c95 (by decide) (by decide), K.2 _ _ c.c96 (by decide) (by decide), K.2 _ _ c.c98 (by decide) (by decide), by
    obtain ⟨a, b, c', d, e, f, g, h, q⟩ := c.c3
    exact ⟨a, b, c', d, e, f, g, h, K.2 _ _ q (by decide) (by decide)⟩⟩

theorem forV_ret {T : Tab} {C : CallF} {W x i : Nat} {e : ME} {b ss : MSs} {ρ ρ' : Loc} {H H1 H' : MHeap} {xs : List MVal} {v : MVal} (he : evE T C ρ e H = some (.ref i, H1)) (hi : H1[i]? = some (.list xs)) (h : loopF (nxtV i xs.length) x (fun ρ H => exSs T C W b ρ H) W 0 ρ H1 = some (.ret v, ρ', H')) :
    exSs T C W (.cons (.forV x e b) ss) ρ H = some (.ret v, ρ', H') := by
  rw [exSs, exS, he]
  simp only [Option.bind_some, hi]
  rw [h]; rfl

theorem find_P {W d : Nat} {H : MHeap} (c : Cs2 H) : callF tb (W + 3) (d + 1) 507 [.ref 62, .str [80]] H = some (.ref 98, H) := by
  refine Mine.callF_go (ρ := [(217805684, .ref 62), (215724399, .str [80])]) (o := .ret (.ref 98)) (ρ' := [(217805684, .ref 62), (215724399, .str [80]), (27619242612, .ref 95)]) rfl rfl ?_ rfl
  unfold b507
  have n0 : nxtV 66 2 0 H = some (some (.ref 95)) := by unfold nxtV; simp only [c.c66]; rfl
  have g1 : getA tb (.ref 62) 29202365172 H = some (.ref 66) := getA_inst (c := 510) c.c62 rfl rfl
  have g2 : getA tb (.ref 95) 31354237295 H = some (.ref 96) := getA_inst (c := 447) c.c95 rfl rfl
  have i1 : cmpop .in_ (.str [80]) (.ref 96) H = some true := inRefDict c.c96 rfl rfl
  have x1 : index (.ref 96) (.str [80]) H = some (.ref 98) := by
    unfold index; simp only [c.c96]; rfl
  refine forV_ret (i := 66) (H1 := H) ?_ c.c66 (loopF_ret n0 ?_)
  · (have zz0 := g1; (repeat' (first|with_reducible (first|assumption|exact xNil|apply xCons|apply nxN|exact nxR|exact nxB|exact nxC|apply eLoc|apply eAttr|apply eMeth|apply mcFn|exact eInt|exact eStr|exact esNil|apply esCons|apply eGlob|apply eCall|apply cvFn|apply xExpr|apply xRet|apply xSetL|apply xIte|apply xSetA|apply xSetI|apply xUnp|apply xAugA|exact xBrk|exact xCont|apply xWhl|apply lwStep|apply gtT|exact gtF|apply gwN|exact gwR|apply ifT|apply ifF|apply tAnd|apply tOr|apply tNot|exact alNil|apply alCons|exact ayNil|apply ayCons|apply tPlain|apply eCmp|apply eBin|apply eIdx|apply eSlc|apply eBi|exact eNone|exact eBool|apply eInT|apply eIsN|apply eEqNil|apply eNot|apply eIte|apply eList|apply eTup|apply eCel|exact eNeg|exact eDict0|apply eAnd|apply eOr|apply anOne|apply anTwo|apply orOne|apply orTwo|exact bAdd|exact bSub|apply cEqS|apply cNeS|apply cEqI|apply cNeI|apply cLt|apply cLe|apply cGt|apply cGe|apply cLtS|apply cLeS|apply cInS)|((with_reducible apply lkHit); exact Eq.refl true)|((with_reducible apply lkHere); exact Eq.refl true)|((with_reducible apply lkMiss); exact Eq.refl false)|((with_reducible apply lkNext); exact Eq.refl false)|with_reducible apply xForS|((with_reducible apply lfE); (with_reducible assumption))|((with_reducible apply lfN); (with_reducible assumption))|((with_reducible apply setAt_last) <;> exact Eq.refl true)|exact Eq.refl true|exact Eq.refl false|exact xNil|with_reducible exact nxR|(apply xCons)|(apply xSetL)|(apply xExpr)|(apply xIte)|(apply xRet)|(apply xSetA)|exact rfl)))
  · (have zz0 := g2; have zz1 := i1; have zz2 := x1; (repeat' (first|with_reducible (first|assumption|exact xNil|apply xCons|apply nxN|exact nxR|exact nxB|exact nxC|apply eLoc|apply eAttr|apply eMeth|apply mcFn|exact eInt|exact eStr|exact esNil|apply esCons|apply eGlob|apply eCall|apply cvFn|apply xExpr|apply xRet|apply xSetL|apply xIte|apply xSetA|apply xSetI|apply xUnp|apply xAugA|exact xBrk|exact xCont|apply xWhl|apply lwStep|apply gtT|exact gtF|apply gwN|exact gwR|apply ifT|apply ifF|apply tAnd|apply tOr|apply tNot|exact alNil|apply alCons|exact ayNil|apply ayCons|apply tPlain|apply eCmp|apply eBin|apply eIdx|apply eSlc|apply eBi|exact eNone|exact eBool|apply eInT|apply eIsN|apply eEqNil|apply eNot|apply eIte|apply eList|apply eTup|apply eCel|exact eNeg|exact eDict0|apply eAnd|apply eOr|apply anOne|apply anTwo|apply orOne|apply orTwo|exact bAdd|exact bSub|apply cEqS|apply cNeS|apply cEqI|apply cNeI|apply cLt|apply cLe|apply cGt|apply cGe|apply cLtS|apply cLeS|apply cInS)|((with_reducible apply lkHit); exact Eq.refl true)|((with_reducible apply lkHere); exact Eq.refl true)|((with_reducible apply lkMiss); exact Eq.refl false)|((with_reducible apply lkNext); exact Eq.refl false)|with_reducible apply xForS|((with_reducible apply lfE); (with_reducible assumption))|((with_reducible apply lfN); (with_reducible assumption))|((with_reducible apply setAt_last) <;> exact Eq.refl true)|exact Eq.refl true|exact Eq.refl false|exact xNil|with_reducible exact nxR|(apply xCons)|(apply xSetL)|(apply xExpr)|(apply xIte)|(apply xRet)|(apply xSetA)|exact rfl)))


end
section
set_option maxRecDepth 10000

section
variable {l : List Nat} {H : MHeap} {n p t : Nat} {k : List Nat} {v : MVal} {q : Nat} {W d : Nat}
theorem St.scopes (S : St l H n p t k v q) : getA tb (.ref 59) 4013348893300 H = some (.ref 62) := getA_inst (c := 630) S.rd rfl rfl
theorem St.types (S : St l H n p t k v q) : getA tb (.ref 59) 31354289525 H = some (.ref 3) := getA_inst (c := 630) S.rd rfl rfl
theorem St.errors (S : St l H n p t k v q) : getA tb (.ref 59) 4016836508134 H = some (.ref 56) := getA_inst (c := 630) S.rd rfl rfl

theorem qualident_ (S : St l H n p t [105, 100, 101, 110, 116] (.str [80]) q) (c : Cs2 H) {k' : List Nat} {v' : MVal} {q' p' : Nat} (N : Nx l p k' v' q' p') : callF tb (W + 3) (d + 7) 127 [.ref 59] H = some (.ref 98, stepH H l n p' k' v' q') := by
  have nm := name_yes (W := W + 1) (d := d) S N
  have S' := step_st S (k' := k') (v' := v') (q' := q') (p' := p')
  have K := step_keep (H := H) (l := l) (n := n) (k' := k') (v' := v') (q' := q') (p' := p')
  have tk' := K.at S.tk S.lo'
  have va : getA tb (.ref t) 27629678967 (stepH H l n p' k' v' q') = some (.str [80]) := getA_inst (c := 200) tk' rfl rfl
  have c' := c.keep K
  have fi := find_P (W := W) (d := d + 5) c'
  have m1 : methOf tb (.ref 59) 215724399 H = some (.fn 592 (.ref 59)) := S.meth rfl rfl
  have m2 : methOf tb (.ref 62) 213644647 (stepH H l n p' k' v' q') = some (.fn 507 (.ref 62)) := meth_inst (c := 510) c'.c62 rfl rfl
  have q1 : (MVal.ref t == MVal.none) = false := rfl
  have q2 : (MVal.ref 98 == MVal.none) = false := rfl
  have q3 : (false != false) = false := rfl
  have q4 : (([116, 121, 112, 101] : List Nat) == [109, 111, 100, 117, 108, 101]) = false := rfl
  apply callF_go2 (ρ := [(13043, .ref 59)]) (o := .ret (.ref 98)) rfl rfl rfl
  (have zz0 := m1; have zz1 := nm; have zz2 := q1; have zz3 := q2; have zz4 := q3; have zz5 := S'.scopes; have zz6 := va; have zz7 := m2; have zz8 := fi; have zz9 := ob_kind c'.c98; have zz10 := q4; (repeat' (first|with_reducible (first|assumption|exact xNil|apply xCons|apply nxN|exact nxR|exact nxB|exact nxC|apply eLoc|apply eAttr|apply eMeth|apply mcFn|exact eInt|exact eStr|exact esNil|apply esCons|apply eGlob|apply eCall|apply cvFn|apply xExpr|apply xRet|apply xSetL|apply xIte|apply xSetA|apply xSetI|apply xUnp|apply xAugA|exact xBrk|exact xCont|apply xWhl|apply lwStep|apply gtT|exact gtF|apply gwN|exact gwR|apply ifT|apply ifF|apply tAnd|apply tOr|apply tNot|exact alNil|apply alCons|exact ayNil|apply ayCons|apply tPlain|apply eCmp|apply eBin|apply eIdx|apply eSlc|apply eBi|exact eNone|exact eBool|apply eInT|apply eIsN|apply eEqNil|apply eNot|apply eIte|apply eList|apply eTup|apply eCel|exact eNeg|exact eDict0|apply eAnd|apply eOr|apply anOne|apply anTwo|apply orOne|apply orTwo|exact bAdd|exact bSub|apply cEqS|apply cNeS|apply cEqI|apply cNeI|apply cLt|apply cLe|apply cGt|apply cGe|apply cLtS|apply cLeS|apply cInS)|((with_reducible apply lkHit); exact Eq.refl true)|((with_reducible apply lkHere); exact Eq.refl true)|((with_reducible apply lkMiss); exact Eq.refl false)|((with_reducible apply lkNext); exact Eq.refl false)|with_reducible apply xForS|((with_reducible apply lfE); (with_reducible assumption))|((with_reducible apply lfN); (with_reducible assumption))|((with_reducible apply setAt_last) <;> exact Eq.refl true)|exact Eq.refl true|exact Eq.refl false|exact xNil|with_reducible exact nxR|(apply xCons)|(apply xSetL)|(apply xExpr)|(apply xIte)|(apply xRet)|(apply xSetA)|exact rfl)))
end


end
section
set_option maxRecDepth 10000

theorem Cst.app {H : MHeap} (c : Cst H) (x : List MObj) : Cst (H ++ x) := c.keep (Keep.app _ _)
/-- the reader's state stays when objects are made -/
theorem St.app {l : List Nat} {H : MHeap} {n p t : Nat} {k : List Nat} {v : MVal} {q : Nat} (S : St l H n p t k v q) (x : List MObj) : St l (H ++ x) n p t k v q :=
  ⟨by rw [List.getElem?_append_left (get_lt S.rd)]; exact S.rd, by rw [List.getElem?_append_left (get_lt S.sc)]; exact S.sc, by rw [List.getElem?_append_left (get_lt S.wo)]; exact S.wo,
   by rw [List.getElem?_append_left (get_lt S.tk)]; exact S.tk, S.lo⟩

section
variable {l : List Nat} {H : MHeap} {n p t : Nat} {k : List Nat} {v : MVal} {q : Nat} {W d : Nat}
/-- (P) as a guard: the tokens '(', P, ')' and the next one -/
theorem guarded_ (S : St l H n p t [40] (.str []) q) (c : Cst H) (c2 : Cs2 H) {q1 p1 q2 p2 : Nat} {k3 : List Nat} {v3 : MVal} {q3 p3 : Nat}
    (N1 : Nx l p [105, 100, 101, 110, 116] (.str [80]) q1 p1) (N2 : Nx l p1 [41] (.str []) q2 p2) (N3 : Nx l p2 k3 v3 q3 p3)
    {i m ki : Nat} {op : List Nat} {pl0 val : MVal} (hi : 60 < i) (h : H[i]? = some (nodeO op pl0 (.ref 38) ki val)) (D : Des H i m) (hm : m < W + 1) (pl : Nat) :
    ∃ H' t' j kj, callF tb (W + 3) (d + 8) 141 [.ref 59, .ref i, .int pl] H = some (.ref j, H') ∧ St l H' n p3 t' k3 v3 q3 ∧ Keep H H' ∧ 60 < j ∧ H'[j]? = some (nodeO [103, 117, 97, 114, 100] (.int pl) (.ref 38) kj (.ref 38)) ∧ Des H' j (m + 1) := by
  have e1 := expect_yes (W := W + 1) (d := d) S N1
  have S1 := step_st S (k' := [105, 100, 101, 110, 116]) (v' := .str [80]) (q' := q1) (p' := p1)
  have K1 := step_keep (H := H) (l := l) (n := n) (k' := [105, 100, 101, 110, 116]) (v' := .str [80]) (q' := q1) (p' := p1)
  generalize hA : stepH H l n p1 [105, 100, 101, 110, 116] (.str [80]) q1 = A at e1 S1 K1
  have e2 := qualident_ (W := W) (d := d) S1 (c2.keep K1) N2
  have S2 := step_st S1 (k' := [41]) (v' := .str []) (q' := q2) (p' := p2)
  have K2 := K1.trans (step_keep (H := A) (l := l) (n := n) (k' := [41]) (v' := .str []) (q' := q2) (p' := p2))
  generalize hB : stepH A l n p2 [41] (.str []) q2 = B at e2 S2 K2
  have hb := K2.at h hi
  have Db := D.keep K2
  have cb := c.keep K2
  have cb2 := c2.keep K2
  have e3 := guard_of_ (W := W + 2) (d := d + 3) (a1 := .ref 3) (a2 := .ref 56) cb hb Db (by omega) pl
  have S3 : St l (gdH B i pl) n p2 A.length [41] (.str []) q2 := (S2.app _).app _
  have K3 : Keep B (gdH B i pl) := (Keep.app _ _).trans (Keep.app _ _)
  have e4 := expect_yes (W := W + 1) (d := d) S3 N3
  have S4 := step_st S3 (k' := k3) (v' := v3) (q' := q3) (p' := p3)
  have K4 := step_keep (H := gdH B i pl) (l := l) (n := n) (k' := k3) (v' := v3) (q' := q3) (p' := p3)
  generalize hC : stepH (gdH B i pl) l n p3 k3 v3 q3 = C at e4 S4 K4
  have bl : 60 < B.length := get_lt S2.sc
  have hj : (gdH B i pl)[(B ++ [MObj.list [.ref i]]).length]? = some (nodeO [103, 117, 97, 114, 100] (.int pl) (.ref 38) B.length (.ref 38)) := get_last _ _
  have hjl : 60 < (B ++ [MObj.list [.ref i]]).length := lt_app (by assumption)
  have hk : (gdH B i pl)[B.length]? = some (MObj.list [.ref i]) := by
    unfold gdH
    rw [List.getElem?_append_left (by simp)]; exact get_last _ _
  have Dj : Des (gdH B i pl) (B ++ [MObj.list [.ref i]]).length (m + 1) := .step hj hjl rfl hk bl (by simp) (Db.keep K3)
  refine ⟨C, _, (B ++ [MObj.list [.ref i]]).length, B.length, ?_, S4, (K2.trans K3).trans K4, hjl, K4.at hj hjl, Dj.keep K4⟩
  have m0 : methOf tb (.ref 59) 4047148711142 H = some (.fn 578 (.ref 59)) := S.meth rfl rfl
  have m3 : methOf tb (.ref 59) 4047148711142 (gdH B i pl) = some (.fn 578 (.ref 59)) := S3.meth rfl rfl
  have q5 : (MVal.ref 98 == MVal.none) = false := rfl
  have q6 : (true != false) = true := rfl
  have q7 : (([116, 121, 112, 101] : List Nat) == [116, 121, 112, 101]) = true := rfl
  apply callF_go2 (ρ := [(13043, .ref 59), (215578735, .ref i), (27591751409, .int pl)]) (o := .ret (.ref (B ++ [MObj.list [.ref i]]).length)) rfl rfl rfl
  (have zz0 := m0; have zz1 := e1; have zz2 := S1.token; have zz3 := S1.place; have zz4 := e2; have zz5 := q5; have zz6 := q6; have zz7 := ob_kind cb2.c98; have zz8 := q7; have zz9 := S2.types; have zz10 := S2.errors; have zz11 := ob_type cb2.c98; have zz12 := e3; have zz13 := m3; have zz14 := e4; (repeat' (first|with_reducible (first|assumption|exact xNil|apply xCons|apply nxN|exact nxR|exact nxB|exact nxC|apply eLoc|apply eAttr|apply eMeth|apply mcFn|exact eInt|exact eStr|exact esNil|apply esCons|apply eGlob|apply eCall|apply cvFn|apply xExpr|apply xRet|apply xSetL|apply xIte|apply xSetA|apply xSetI|apply xUnp|apply xAugA|exact xBrk|exact xCont|apply xWhl|apply lwStep|apply gtT|exact gtF|apply gwN|exact gwR|apply ifT|apply ifF|apply tAnd|apply tOr|apply tNot|exact alNil|apply alCons|exact ayNil|apply ayCons|apply tPlain|apply eCmp|apply eBin|apply eIdx|apply eSlc|apply eBi|exact eNone|exact eBool|apply eInT|apply eIsN|apply eEqNil|apply eNot|apply eIte|apply eList|apply eTup|apply eCel|exact eNeg|exact eDict0|apply eAnd|apply eOr|apply anOne|apply anTwo|apply orOne|apply orTwo|exact bAdd|exact bSub|apply cEqS|apply cNeS|apply cEqI|apply cNeI|apply cLt|apply cLe|apply cGt|apply cGe|apply cLtS|apply cLeS|apply cInS)|((with_reducible apply lkHit); exact Eq.refl true)|((with_reducible apply lkHere); exact Eq.refl true)|((with_reducible apply lkMiss); exact Eq.refl false)|((with_reducible apply lkNext); exact Eq.refl false)|with_reducible apply xForS|((with_reducible apply lfE); (with_reducible assumption))|((with_reducible apply lfN); (with_reducible assumption))|((with_reducible apply setAt_last) <;> exact Eq.refl true)|exact Eq.refl true|exact Eq.refl false|exact xNil|with_reducible exact nxR|(apply xCons)|(apply xSetL)|(apply xExpr)|(apply xIte)|(apply xRet)|(apply xSetA)|exact rfl)))
end


end
section
set_option maxRecDepth 10000
section
variable {l : List Nat} {H : MHeap} {n p t : Nat} {k : List Nat} {v : MVal} {q : Nat} {W d : Nat}
/-- an int's node -/
theorem law_index_ (S : St l H n p t [105, 110, 116] (.int iv) q) (c2 : Cs2 H) {q1 p1 : Nat} {k1 : List Nat} {v1 : MVal} (N1 : Nx l p k1 v1 q1 p1) :
    ∃ H' j kj t', callF tb (W + 2) (d + 6) 648 [.ref 59] H = some (.ref j, H') ∧ St l H' n p1 t' k1 v1 q1 ∧ Keep H H' ∧ 60 < j ∧ H'[j]? = some (nodeO [99, 111, 110, 115, 116] (.int q) (.ref 17) kj (.int iv)) := by
  have e1 := step_ (W := W) (d := d) S N1
  have S1 := step_st S (k' := k1) (v' := v1) (q' := q1) (p' := p1)
  have K1 := step_keep (H := H) (l := l) (n := n) (k' := k1) (v' := v1) (q' := q1) (p' := p1)
  generalize hA : stepH H l n p1 k1 v1 q1 = A at e1 S1 K1
  have tk' := K1.at S.tk S.lo'
  have a1 : getA tb (.ref t) 27591751409 A = some (.int q) := getA_inst (c := 200) tk' rfl rfl
  have a2 := S1.types
  obtain ⟨b1, b2, b3, b4, b5, b6, b7, b8, hq⟩ := (c2.keep K1).c3
  have a3 : getA tb (.ref 3) 509308175218666 A = some (.ref 17) := getA_inst (c := 426) hq rfl rfl
  have tk2 : (A ++ [MObj.list []])[t]? = some (tokO [105, 110, 116] (.int iv) q) := by rw [List.getElem?_append_left (get_lt tk')]; exact tk'
  have a4 : getA tb (.ref t) 213644652 (A ++ [MObj.list []]) = some (.str [105, 110, 116]) := getA_inst (c := 200) tk2 rfl rfl
  have a5 : getA tb (.ref t) 27629678967 (A ++ [MObj.list []]) = some (.int iv) := getA_inst (c := 200) tk2 rfl rfl
  have nd := callV_node (W := W + 2) (d := d + 4) (H := A ++ [MObj.list []]) [99, 111, 110, 115, 116] (.int q) (.ref 17) A.length (.int iv)
  have m1 : methOf tb (.ref 59) 238664436 H = some (.fn 557 (.ref 59)) := S.meth rfl rfl
  have q0 : (([105, 110, 116] : List Nat) == [105, 110, 116]) = true := rfl
  refine ⟨(A ++ [MObj.list []]) ++ [nodeO [99, 111, 110, 115, 116] (.int q) (.ref 17) A.length (.int iv)], (A ++ [MObj.list []]).length, A.length, _, ?_, (S1.app _).app _, K1.trans ((Keep.app _ _).trans (Keep.app _ _)), ?_, get_last _ _⟩
  · apply callF_go2 (ρ := [(13043, .ref 59)]) (o := .ret (.ref (A ++ [MObj.list []]).length)) rfl rfl rfl
    (have zz0 := m1; have zz1 := e1; have zz2 := a1; have zz3 := a2; have zz4 := a3; have zz5 := a4; have zz6 := a5; have zz7 := q0; have zz8 := nd; (repeat' (first|with_reducible (first|assumption|exact xNil|apply xCons|apply nxN|exact nxR|exact nxB|exact nxC|apply eLoc|apply eAttr|apply eMeth|apply mcFn|exact eInt|exact eStr|exact esNil|apply esCons|apply eGlob|apply eCall|apply cvFn|apply xExpr|apply xRet|apply xSetL|apply xIte|apply xSetA|apply xSetI|apply xUnp|apply xAugA|exact xBrk|exact xCont|apply xWhl|apply lwStep|apply gtT|exact gtF|apply gwN|exact gwR|apply ifT|apply ifF|apply tAnd|apply tOr|apply tNot|exact alNil|apply alCons|exact ayNil|apply ayCons|apply tPlain|apply eCmp|apply eBin|apply eIdx|apply eSlc|apply eBi|exact eNone|exact eBool|apply eInT|apply eIsN|apply eEqNil|apply eNot|apply eIte|apply eList|apply eTup|apply eCel|exact eNeg|exact eDict0|apply eAnd|apply eOr|apply anOne|apply anTwo|apply orOne|apply orTwo|exact bAdd|exact bSub|apply cEqS|apply cNeS|apply cEqI|apply cNeI|apply cLt|apply cLe|apply cGt|apply cGe|apply cLtS|apply cLeS|apply cInS)|((with_reducible apply lkHit); exact Eq.refl true)|((with_reducible apply lkHere); exact Eq.refl true)|((with_reducible apply lkMiss); exact Eq.refl false)|((with_reducible apply lkNext); exact Eq.refl false)|with_reducible apply xForS|((with_reducible apply lfE); (with_reducible assumption))|((with_reducible apply lfN); (with_reducible assumption))|((with_reducible apply setAt_last) <;> exact Eq.refl true)|exact Eq.refl true|exact Eq.refl false|exact xNil|with_reducible exact nxR|(apply xCons)|(apply xSetL)|(apply xExpr)|(apply xIte)|(apply xRet)|(apply xSetA)|exact rfl)))
  · have := get_lt S1.sc
    rw [List.length_append]; omega
end


end
section
set_option maxRecDepth 10000

structure Rho (i : Nat) (ρ : Loc) : Prop where
  rd : lk 13043 ρ = some (.ref 59)
  node : lk 215578735 ρ = some (.ref i)
  ex : lk 1031924933504939097318 ρ = some (.fn 648)

noncomputable def selB : MSs := match b134 with
  | .cons (.whl _ b) _ => b
  | _ => .nil

/-- a node of a pointer's or a record's type, no const -/
noncomputable def opOk (op : List Nat) : Prop := (op == [99, 111, 110, 115, 116]) = false
section
variable {l : List Nat} {H : MHeap} {n p t : Nat} {k : List Nat} {v : MVal} {q : Nat} {W d : Nat}
theorem turn_deref (S : St l H n p t [94] (.str []) q) (c : Cst H) {q1 p1 : Nat} {k1 : List Nat} {v1 : MVal} (N1 : Nx l p k1 v1 q1 p1) (hn : n < 120)
    {i m ki : Nat} {op : List Nat} {pl0 val : MVal} (hi : 60 < i) (h : H[i]? = some (nodeO op pl0 (.ref 38) ki val)) (ho : opOk op) (D : Des H i m) (hm : m < W + 3) {ρ : Loc} (R : Rho i ρ) :
    ∃ H' t' j kj ρ', exSs tb (callF tb (W + 3) (d + 9)) (W + 3) selB ρ H = some (.next, ρ', H') ∧ Rho j ρ' ∧ St l H' (n + 1) p1 t' k1 v1 q1 ∧ Keep H H' ∧ 60 < j ∧ H'[j]? = some (nodeO [100, 101, 114, 101, 102] (.int q) (.ref 33) kj .none) := by
  have e0 := part_ok (W := W + 3) (d := d + 8) S hn
  have S0 := part_st S
  have K0 := part_keep (H := H) (t := t) (n := n)
  generalize hA : partH H t n = A at e0 S0 K0
  have f1 := skip_no (W := W + 3) (d := d + 8) S0 (kk := [46]) rfl
  have f2 := skip_no (W := W + 3) (d := d + 8) S0 (kk := [91]) rfl
  have f3 := skip_yes (W := W + 1) (d := d + 3) S0 N1
  have S1 := step_st S0 (k' := k1) (v' := v1) (q' := q1) (p' := p1)
  have K1 := K0.trans (step_keep (H := A) (l := l) (n := n + 1) (k' := k1) (v' := v1) (q' := q1) (p' := p1))
  generalize hB : stepH A l (n + 1) p1 k1 v1 q1 = B at f3 S1 K1
  have hb := K1.at h hi
  have e4 := deref_ (W := W + 3) (d := d + 7) (a1 := .ref 3) (a2 := .ref 56) (c.keep K1) hb (D.keep K1) hm q
  have hjl : 60 < (B ++ [MObj.list [.ref i]]).length := lt_app (get_lt S1.sc)
  refine ⟨derH B i q (.ref 33), B.length - 0 + 0 - B.length + A.length, (B ++ [MObj.list [.ref i]]).length, B.length, put 215578735 (.ref (B ++ [MObj.list [.ref i]]).length) (put 4013084425064 (.bool true) (put 27591751409 (.int q) ρ)), ?_, ⟨?_, ?_, ?_⟩, ?_, K1.trans ((Keep.app _ _).trans (Keep.app _ _)), hjl, get_last _ _⟩
  · have m0 : methOf tb (.ref 59) 247263601 H = some (.fn 620 (.ref 59)) := S.meth rfl rfl
    have m1 : methOf tb (.ref 59) 238728820 A = some (.fn 571 (.ref 59)) := S0.meth rfl rfl
    have w1 : ([[46], [91], [94]] : List (List Nat)).contains [94] = true := rfl
    have w2 : ([[114, 101, 99, 111, 114, 100], [112, 111, 105, 110, 116, 101, 114]] : List (List Nat)).contains [112, 111, 105, 110, 116, 101, 114] = true := rfl
    have w3 : (false != true) = true := rfl
    unfold opOk at ho
    (have zz0 := R.rd; have zz1 := R.node; have zz2 := S.token; have zz3 := S.place; have zz4 := S.kind; have zz5 := node_op h; have zz6 := ho; have zz7 := node_type h; have zz8 := ty_form c.c38; have zz9 := w1; have zz10 := w2; have zz11 := w3; have zz12 := m0; have zz13 := e0; have zz14 := m1; have zz15 := f1; have zz16 := f2; have zz17 := f3; have zz18 := S1.types; have zz19 := S1.errors; have zz20 := e4; (repeat' (first|with_reducible (first|assumption|exact xNil|apply xCons|apply nxN|exact nxR|exact nxB|exact nxC|apply eLoc|apply eAttr|apply eMeth|apply mcFn|exact eInt|exact eStr|exact esNil|apply esCons|apply eGlob|apply eCall|apply cvFn|apply xExpr|apply xRet|apply xSetL|apply xIte|apply xSetA|apply xSetI|apply xUnp|apply xAugA|exact xBrk|exact xCont|apply xWhl|apply lwStep|apply gtT|exact gtF|apply gwN|exact gwR|apply ifT|apply ifF|apply tAnd|apply tOr|apply tNot|exact alNil|apply alCons|exact ayNil|apply ayCons|apply tPlain|apply eCmp|apply eBin|apply eIdx|apply eSlc|apply eBi|exact eNone|exact eBool|apply eInT|apply eIsN|apply eEqNil|apply eNot|apply eIte|apply eList|apply eTup|apply eCel|exact eNeg|exact eDict0|apply eAnd|apply eOr|apply anOne|apply anTwo|apply orOne|apply orTwo|exact bAdd|exact bSub|apply cEqS|apply cNeS|apply cEqI|apply cNeI|apply cLt|apply cLe|apply cGt|apply cGe|apply cLtS|apply cLeS|apply cInS)|((with_reducible apply lkHit); exact Eq.refl true)|((with_reducible apply lkHere); exact Eq.refl true)|((with_reducible apply lkMiss); exact Eq.refl false)|((with_reducible apply lkNext); exact Eq.refl false)|with_reducible apply xForS|((with_reducible apply lfE); (with_reducible assumption))|((with_reducible apply lfN); (with_reducible assumption))|((with_reducible apply setAt_last) <;> exact Eq.refl true)|exact Eq.refl true|exact Eq.refl false|exact xNil|with_reducible exact nxR|(apply xCons)|(apply xSetL)|(apply xExpr)|(apply xIte)|(apply xRet)|(apply xSetA)|exact rfl)))
  · (have zz0 := R.rd; (repeat' (first|with_reducible (first|assumption|exact xNil|apply xCons|apply nxN|exact nxR|exact nxB|exact nxC|apply eLoc|apply eAttr|apply eMeth|apply mcFn|exact eInt|exact eStr|exact esNil|apply esCons|apply eGlob|apply eCall|apply cvFn|apply xExpr|apply xRet|apply xSetL|apply xIte|apply xSetA|apply xSetI|apply xUnp|apply xAugA|exact xBrk|exact xCont|apply xWhl|apply lwStep|apply gtT|exact gtF|apply gwN|exact gwR|apply ifT|apply ifF|apply tAnd|apply tOr|apply tNot|exact alNil|apply alCons|exact ayNil|apply ayCons|apply tPlain|apply eCmp|apply eBin|apply eIdx|apply eSlc|apply eBi|exact eNone|exact eBool|apply eInT|apply eIsN|apply eEqNil|apply eNot|apply eIte|apply eList|apply eTup|apply eCel|exact eNeg|exact eDict0|apply eAnd|apply eOr|apply anOne|apply anTwo|apply orOne|apply orTwo|exact bAdd|exact bSub|apply cEqS|apply cNeS|apply cEqI|apply cNeI|apply cLt|apply cLe|apply cGt|apply cGe|apply cLtS|apply cLeS|apply cInS)|((with_reducible apply lkHit); exact Eq.refl true)|((with_reducible apply lkHere); exact Eq.refl true)|((with_reducible apply lkMiss); exact Eq.refl false)|((with_reducible apply lkNext); exact Eq.refl false)|with_reducible apply xForS|((with_reducible apply lfE); (with_reducible assumption))|((with_reducible apply lfN); (with_reducible assumption))|((with_reducible apply setAt_last) <;> exact Eq.refl true)|exact Eq.refl true|exact Eq.refl false|exact xNil|with_reducible exact nxR|(apply xCons)|(apply xSetL)|(apply xExpr)|(apply xIte)|(apply xRet)|(apply xSetA)|exact rfl)))
  · ((repeat' (first|with_reducible (first|assumption|exact xNil|apply xCons|apply nxN|exact nxR|exact nxB|exact nxC|apply eLoc|apply eAttr|apply eMeth|apply mcFn|exact eInt|exact eStr|exact esNil|apply esCons|apply eGlob|apply eCall|apply cvFn|apply xExpr|apply xRet|apply xSetL|apply xIte|apply xSetA|apply xSetI|apply xUnp|apply xAugA|exact xBrk|exact xCont|apply xWhl|apply lwStep|apply gtT|exact gtF|apply gwN|exact gwR|apply ifT|apply ifF|apply tAnd|apply tOr|apply tNot|exact alNil|apply alCons|exact ayNil|apply ayCons|apply tPlain|apply eCmp|apply eBin|apply eIdx|apply eSlc|apply eBi|exact eNone|exact eBool|apply eInT|apply eIsN|apply eEqNil|apply eNot|apply eIte|apply eList|apply eTup|apply eCel|exact eNeg|exact eDict0|apply eAnd|apply eOr|apply anOne|apply anTwo|apply orOne|apply orTwo|exact bAdd|exact bSub|apply cEqS|apply cNeS|apply cEqI|apply cNeI|apply cLt|apply cLe|apply cGt|apply cGe|apply cLtS|apply cLeS|apply cInS)|((with_reducible apply lkHit); exact Eq.refl true)|((with_reducible apply lkHere); exact Eq.refl true)|((with_reducible apply lkMiss); exact Eq.refl false)|((with_reducible apply lkNext); exact Eq.refl false)|with_reducible apply xForS|((with_reducible apply lfE); (with_reducible assumption))|((with_reducible apply lfN); (with_reducible assumption))|((with_reducible apply setAt_last) <;> exact Eq.refl true)|exact Eq.refl true|exact Eq.refl false|exact xNil|with_reducible exact nxR|(apply xCons)|(apply xSetL)|(apply xExpr)|(apply xIte)|(apply xRet)|(apply xSetA)|exact rfl)))
  · (have zz0 := R.ex; (repeat' (first|with_reducible (first|assumption|exact xNil|apply xCons|apply nxN|exact nxR|exact nxB|exact nxC|apply eLoc|apply eAttr|apply eMeth|apply mcFn|exact eInt|exact eStr|exact esNil|apply esCons|apply eGlob|apply eCall|apply cvFn|apply xExpr|apply xRet|apply xSetL|apply xIte|apply xSetA|apply xSetI|apply xUnp|apply xAugA|exact xBrk|exact xCont|apply xWhl|apply lwStep|apply gtT|exact gtF|apply gwN|exact gwR|apply ifT|apply ifF|apply tAnd|apply tOr|apply tNot|exact alNil|apply alCons|exact ayNil|apply ayCons|apply tPlain|apply eCmp|apply eBin|apply eIdx|apply eSlc|apply eBi|exact eNone|exact eBool|apply eInT|apply eIsN|apply eEqNil|apply eNot|apply eIte|apply eList|apply eTup|apply eCel|exact eNeg|exact eDict0|apply eAnd|apply eOr|apply anOne|apply anTwo|apply orOne|apply orTwo|exact bAdd|exact bSub|apply cEqS|apply cNeS|apply cEqI|apply cNeI|apply cLt|apply cLe|apply cGt|apply cGe|apply cLtS|apply cLeS|apply cInS)|((with_reducible apply lkHit); exact Eq.refl true)|((with_reducible apply lkHere); exact Eq.refl true)|((with_reducible apply lkMiss); exact Eq.refl false)|((with_reducible apply lkNext); exact Eq.refl false)|with_reducible apply xForS|((with_reducible apply lfE); (with_reducible assumption))|((with_reducible apply lfN); (with_reducible assumption))|((with_reducible apply setAt_last) <;> exact Eq.refl true)|exact Eq.refl true|exact Eq.refl false|exact xNil|with_reducible exact nxR|(apply xCons)|(apply xSetL)|(apply xExpr)|(apply xIte)|(apply xRet)|(apply xSetA)|exact rfl)))
  · have : St l (derH B i q (.ref 33)) (n + 1) p1 A.length k1 v1 q1 := (S1.app _).app _
    simpa using this
end


end
section
set_option maxRecDepth 10000
section
variable {l : List Nat} {H : MHeap} {n p t : Nat} {k : List Nat} {v : MVal} {q : Nat} {W d : Nat}
theorem turn_guard (S : St l H n p t [40] (.str []) q) (c : Cst H) (c2 : Cs2 H) {q1 p1 q2 p2 : Nat} {k3 : List Nat} {v3 : MVal} {q3 p3 : Nat}
    (N1 : Nx l p [105, 100, 101, 110, 116] (.str [80]) q1 p1) (N2 : Nx l p1 [41] (.str []) q2 p2) (N3 : Nx l p2 k3 v3 q3 p3) (hn : n < 120)
    {i m ki : Nat} {op : List Nat} {pl0 val : MVal} (hi : 60 < i) (h : H[i]? = some (nodeO op pl0 (.ref 38) ki val)) (ho : opOk op) (D : Des H i m) (hm : m < W + 1) {ρ : Loc} (R : Rho i ρ) :
    ∃ H' t' j kj ρ', exSs tb (callF tb (W + 3) (d + 9)) (W + 3) selB ρ H = some (.next, ρ', H') ∧ Rho j ρ' ∧ St l H' (n + 1) p3 t' k3 v3 q3 ∧ Keep H H' ∧ 60 < j ∧ H'[j]? = some (nodeO [103, 117, 97, 114, 100] (.int q) (.ref 38) kj (.ref 38)) ∧ Des H' j (m + 1) := by
  have e0 := part_ok (W := W + 3) (d := d + 8) S hn
  have S0 := part_st S
  have K0 := part_keep (H := H) (t := t) (n := n)
  generalize hA : partH H t n = A at e0 S0 K0
  have f1 := skip_no (W := W + 3) (d := d + 8) S0 (kk := [46]) rfl
  have f2 := skip_no (W := W + 3) (d := d + 8) S0 (kk := [91]) rfl
  have f3 := skip_no (W := W + 3) (d := d + 8) S0 (kk := [94]) rfl
  have f4 := at_ (W := W + 3) (d := d + 8) S0 [40]
  have f0 := at_ (W := W + 3) (d := d + 8) S [40]
  obtain ⟨H', t', j, kj, e5, S5, K5, hj, h5, D5⟩ := guarded_ (W := W) (d := d + 1) S0 (c.keep K0) (c2.keep K0) N1 N2 N3 hi (K0.at h hi) (D.keep K0) hm q
  refine ⟨H', t', j, kj, put 215578735 (.ref j) (put 4013084425064 (.bool true) (put 27591751409 (.int q) ρ)), ?_, ⟨?_, ?_, ?_⟩, S5, K0.trans K5, hj, h5, D5⟩
  · have m0 : methOf tb (.ref 59) 247263601 H = some (.fn 620 (.ref 59)) := S.meth rfl rfl
    have m1 : methOf tb (.ref 59) 238728820 A = some (.fn 571 (.ref 59)) := S0.meth rfl rfl
    have m2 : methOf tb (.ref 59) 15074 H = some (.fn 564 (.ref 59)) := S.meth rfl rfl
    have m3 : methOf tb (.ref 59) 15074 A = some (.fn 564 (.ref 59)) := S0.meth rfl rfl
    have w0 : (([40] : List Nat) == [40]) = true := rfl
    have w1 : ([[46], [91], [94]] : List (List Nat)).contains [40] = false := rfl
    have w2 : ([[114, 101, 99, 111, 114, 100], [112, 111, 105, 110, 116, 101, 114]] : List (List Nat)).contains [112, 111, 105, 110, 116, 101, 114] = true := rfl
    have w3 : (false != true) = true := rfl
    have w4 : (false != false) = false := rfl
    unfold opOk at ho
    (have zz0 := R.rd; have zz1 := R.node; have zz2 := S.token; have zz3 := S.place; have zz4 := S.kind; have zz5 := node_op h; have zz6 := ho; have zz7 := node_type h; have zz8 := ty_form c.c38; have zz9 := w0; have zz10 := w1; have zz11 := w2; have zz12 := w3; have zz13 := w4; have zz14 := m0; have zz15 := e0; have zz16 := m1; have zz17 := m2; have zz18 := m3; have zz19 := f0; have zz20 := f1; have zz21 := f2; have zz22 := f3; have zz23 := f4; have zz24 := e5; (repeat' (first|with_reducible (first|assumption|exact xNil|apply xCons|apply nxN|exact nxR|exact nxB|exact nxC|apply eLoc|apply eAttr|apply eMeth|apply mcFn|exact eInt|exact eStr|exact esNil|apply esCons|apply eGlob|apply eCall|apply cvFn|apply xExpr|apply xRet|apply xSetL|apply xIte|apply xSetA|apply xSetI|apply xUnp|apply xAugA|exact xBrk|exact xCont|apply xWhl|apply lwStep|apply gtT|exact gtF|apply gwN|exact gwR|apply ifT|apply ifF|apply tAnd|apply tOr|apply tNot|exact alNil|apply alCons|exact ayNil|apply ayCons|apply tPlain|apply eCmp|apply eBin|apply eIdx|apply eSlc|apply eBi|exact eNone|exact eBool|apply eInT|apply eIsN|apply eEqNil|apply eNot|apply eIte|apply eList|apply eTup|apply eCel|exact eNeg|exact eDict0|apply eAnd|apply eOr|apply anOne|apply anTwo|apply orOne|apply orTwo|exact bAdd|exact bSub|apply cEqS|apply cNeS|apply cEqI|apply cNeI|apply cLt|apply cLe|apply cGt|apply cGe|apply cLtS|apply cLeS|apply cInS)|((with_reducible apply lkHit); exact Eq.refl true)|((with_reducible apply lkHere); exact Eq.refl true)|((with_reducible apply lkMiss); exact Eq.refl false)|((with_reducible apply lkNext); exact Eq.refl false)|with_reducible apply xForS|((with_reducible apply lfE); (with_reducible assumption))|((with_reducible apply lfN); (with_reducible assumption))|((with_reducible apply setAt_last) <;> exact Eq.refl true)|exact Eq.refl true|exact Eq.refl false|exact xNil|with_reducible exact nxR|(apply xCons)|(apply xSetL)|(apply xExpr)|(apply xIte)|(apply xRet)|(apply xSetA)|exact rfl)))
  · (have zz0 := R.rd; (repeat' (first|with_reducible (first|assumption|exact xNil|apply xCons|apply nxN|exact nxR|exact nxB|exact nxC|apply eLoc|apply eAttr|apply eMeth|apply mcFn|exact eInt|exact eStr|exact esNil|apply esCons|apply eGlob|apply eCall|apply cvFn|apply xExpr|apply xRet|apply xSetL|apply xIte|apply xSetA|apply xSetI|apply xUnp|apply xAugA|exact xBrk|exact xCont|apply xWhl|apply lwStep|apply gtT|exact gtF|apply gwN|exact gwR|apply ifT|apply ifF|apply tAnd|apply tOr|apply tNot|exact alNil|apply alCons|exact ayNil|apply ayCons|apply tPlain|apply eCmp|apply eBin|apply eIdx|apply eSlc|apply eBi|exact eNone|exact eBool|apply eInT|apply eIsN|apply eEqNil|apply eNot|apply eIte|apply eList|apply eTup|apply eCel|exact eNeg|exact eDict0|apply eAnd|apply eOr|apply anOne|apply anTwo|apply orOne|apply orTwo|exact bAdd|exact bSub|apply cEqS|apply cNeS|apply cEqI|apply cNeI|apply cLt|apply cLe|apply cGt|apply cGe|apply cLtS|apply cLeS|apply cInS)|((with_reducible apply lkHit); exact Eq.refl true)|((with_reducible apply lkHere); exact Eq.refl true)|((with_reducible apply lkMiss); exact Eq.refl false)|((with_reducible apply lkNext); exact Eq.refl false)|with_reducible apply xForS|((with_reducible apply lfE); (with_reducible assumption))|((with_reducible apply lfN); (with_reducible assumption))|((with_reducible apply setAt_last) <;> exact Eq.refl true)|exact Eq.refl true|exact Eq.refl false|exact xNil|with_reducible exact nxR|(apply xCons)|(apply xSetL)|(apply xExpr)|(apply xIte)|(apply xRet)|(apply xSetA)|exact rfl)))
  · ((repeat' (first|with_reducible (first|assumption|exact xNil|apply xCons|apply nxN|exact nxR|exact nxB|exact nxC|apply eLoc|apply eAttr|apply eMeth|apply mcFn|exact eInt|exact eStr|exact esNil|apply esCons|apply eGlob|apply eCall|apply cvFn|apply xExpr|apply xRet|apply xSetL|apply xIte|apply xSetA|apply xSetI|apply xUnp|apply xAugA|exact xBrk|exact xCont|apply xWhl|apply lwStep|apply gtT|exact gtF|apply gwN|exact gwR|apply ifT|apply ifF|apply tAnd|apply tOr|apply tNot|exact alNil|apply alCons|exact ayNil|apply ayCons|apply tPlain|apply eCmp|apply eBin|apply eIdx|apply eSlc|apply eBi|exact eNone|exact eBool|apply eInT|apply eIsN|apply eEqNil|apply eNot|apply eIte|apply eList|apply eTup|apply eCel|exact eNeg|exact eDict0|apply eAnd|apply eOr|apply anOne|apply anTwo|apply orOne|apply orTwo|exact bAdd|exact bSub|apply cEqS|apply cNeS|apply cEqI|apply cNeI|apply cLt|apply cLe|apply cGt|apply cGe|apply cLtS|apply cLeS|apply cInS)|((with_reducible apply lkHit); exact Eq.refl true)|((with_reducible apply lkHere); exact Eq.refl true)|((with_reducible apply lkMiss); exact Eq.refl false)|((with_reducible apply lkNext); exact Eq.refl false)|with_reducible apply xForS|((with_reducible apply lfE); (with_reducible assumption))|((with_reducible apply lfN); (with_reducible assumption))|((with_reducible apply setAt_last) <;> exact Eq.refl true)|exact Eq.refl true|exact Eq.refl false|exact xNil|with_reducible exact nxR|(apply xCons)|(apply xSetL)|(apply xExpr)|(apply xIte)|(apply xRet)|(apply xSetA)|exact rfl)))
  · (have zz0 := R.ex; (repeat' (first|with_reducible (first|assumption|exact xNil|apply xCons|apply nxN|exact nxR|exact nxB|exact nxC|apply eLoc|apply eAttr|apply eMeth|apply mcFn|exact eInt|exact eStr|exact esNil|apply esCons|apply eGlob|apply eCall|apply cvFn|apply xExpr|apply xRet|apply xSetL|apply xIte|apply xSetA|apply xSetI|apply xUnp|apply xAugA|exact xBrk|exact xCont|apply xWhl|apply lwStep|apply gtT|exact gtF|apply gwN|exact gwR|apply ifT|apply ifF|apply tAnd|apply tOr|apply tNot|exact alNil|apply alCons|exact ayNil|apply ayCons|apply tPlain|apply eCmp|apply eBin|apply eIdx|apply eSlc|apply eBi|exact eNone|exact eBool|apply eInT|apply eIsN|apply eEqNil|apply eNot|apply eIte|apply eList|apply eTup|apply eCel|exact eNeg|exact eDict0|apply eAnd|apply eOr|apply anOne|apply anTwo|apply orOne|apply orTwo|exact bAdd|exact bSub|apply cEqS|apply cNeS|apply cEqI|apply cNeI|apply cLt|apply cLe|apply cGt|apply cGe|apply cLtS|apply cLeS|apply cInS)|((with_reducible apply lkHit); exact Eq.refl true)|((with_reducible apply lkHere); exact Eq.refl true)|((with_reducible apply lkMiss); exact Eq.refl false)|((with_reducible apply lkNext); exact Eq.refl false)|with_reducible apply xForS|((with_reducible apply lfE); (with_reducible assumption))|((with_reducible apply lfN); (with_reducible assumption))|((with_reducible apply setAt_last) <;> exact Eq.refl true)|exact Eq.refl true|exact Eq.refl false|exact xNil|with_reducible exact nxR|(apply xCons)|(apply xSetL)|(apply xExpr)|(apply xIte)|(apply xRet)|(apply xSetA)|exact rfl)))

/-- the end: another sign -/
theorem turn_end (S : St l H n p t k v q) {i ki ai : Nat} {op : List Nat} {pl0 val : MVal} (h : H[i]? = some (nodeO op pl0 (.ref ai) ki val)) {form : List Nat} (hf : getA tb (.ref ai) 232585319 H = some (.str form)) (ho : opOk op)
    (h1 : ([[46], [91], [94]] : List (List Nat)).contains k = false) (h2 : (k == [40]) = false) {ρ : Loc} (R : Rho i ρ) :
    ∃ ρ', exSs tb (callF tb W (d + 1)) W selB ρ H = some (.ret (.ref i), ρ', H) := by
  have f0 := at_ (W := W) (d := d) S [40]
  rw [h2] at f0
  have k1 : (k == [46]) = false := by
    cases z : (k == [46]) with
    | false => rfl
    | true => have := eq_of_beq z; subst this; cases h1
  have k2 : (k == [91]) = false := by
    cases z : (k == [91]) with
    | false => rfl
    | true => have := eq_of_beq z; subst this; cases h1
  have k3 : (k == [94]) = false := by
    cases z : (k == [94]) with
    | false => rfl
    | true => have := eq_of_beq z; subst this; cases h1
  have f1 := skip_no (W := W) (d := d) S (kk := [46]) k1
  have f2 := skip_no (W := W) (d := d) S (kk := [91]) k2
  have f3 := skip_no (W := W) (d := d) S (kk := [94]) k3
  refine ⟨put 4013084425064 (.bool (([[114, 101, 99, 111, 114, 100], [112, 111, 105, 110, 116, 101, 114]] : List (List Nat)).contains form)) (put 27591751409 (.int q) ρ), ?_⟩
  have m1 : methOf tb (.ref 59) 238728820 H = some (.fn 571 (.ref 59)) := S.meth rfl rfl
  have m2 : methOf tb (.ref 59) 15074 H = some (.fn 564 (.ref 59)) := S.meth rfl rfl
  have w3 : ∀ b : Bool, (false != b) = b := by intro b; cases b <;> rfl
  unfold opOk at ho
  generalize hg : (([[114, 101, 99, 111, 114, 100], [112, 111, 105, 110, 116, 101, 114]] : List (List Nat)).contains form) = g
  cases g
  · (have zz0 := R.rd; have zz1 := R.node; have zz2 := S.token; have zz3 := S.place; have zz4 := S.kind; have zz5 := node_op h; have zz6 := ho; have zz7 := node_type h; have zz8 := hf; have zz9 := hg; have zz10 := h1; have zz11 := w3; have zz12 := m1; have zz13 := m2; have zz14 := f0; have zz15 := f1; have zz16 := f2; have zz17 := f3; (repeat' (first|with_reducible (first|assumption|exact xNil|apply xCons|apply nxN|exact nxR|exact nxB|exact nxC|apply eLoc|apply eAttr|apply eMeth|apply mcFn|exact eInt|exact eStr|exact esNil|apply esCons|apply eGlob|apply eCall|apply cvFn|apply xExpr|apply xRet|apply xSetL|apply xIte|apply xSetA|apply xSetI|apply xUnp|apply xAugA|exact xBrk|exact xCont|apply xWhl|apply lwStep|apply gtT|exact gtF|apply gwN|exact gwR|apply ifT|apply ifF|apply tAnd|apply tOr|apply tNot|exact alNil|apply alCons|exact ayNil|apply ayCons|apply tPlain|apply eCmp|apply eBin|apply eIdx|apply eSlc|apply eBi|exact eNone|exact eBool|apply eInT|apply eIsN|apply eEqNil|apply eNot|apply eIte|apply eList|apply eTup|apply eCel|exact eNeg|exact eDict0|apply eAnd|apply eOr|apply anOne|apply anTwo|apply orOne|apply orTwo|exact bAdd|exact bSub|apply cEqS|apply cNeS|apply cEqI|apply cNeI|apply cLt|apply cLe|apply cGt|apply cGe|apply cLtS|apply cLeS|apply cInS)|((with_reducible apply lkHit); exact Eq.refl true)|((with_reducible apply lkHere); exact Eq.refl true)|((with_reducible apply lkMiss); exact Eq.refl false)|((with_reducible apply lkNext); exact Eq.refl false)|with_reducible apply xForS|((with_reducible apply lfE); (with_reducible assumption))|((with_reducible apply lfN); (with_reducible assumption))|((with_reducible apply setAt_last) <;> exact Eq.refl true)|exact Eq.refl true|exact Eq.refl false|exact xNil|with_reducible exact nxR|(apply xCons)|(apply xSetL)|(apply xExpr)|(apply xIte)|(apply xRet)|(apply xSetA)|exact rfl)))
  · (have zz0 := R.rd; have zz1 := R.node; have zz2 := S.token; have zz3 := S.place; have zz4 := S.kind; have zz5 := node_op h; have zz6 := ho; have zz7 := node_type h; have zz8 := hf; have zz9 := hg; have zz10 := h1; have zz11 := w3; have zz12 := m1; have zz13 := m2; have zz14 := f0; have zz15 := f1; have zz16 := f2; have zz17 := f3; (repeat' (first|with_reducible (first|assumption|exact xNil|apply xCons|apply nxN|exact nxR|exact nxB|exact nxC|apply eLoc|apply eAttr|apply eMeth|apply mcFn|exact eInt|exact eStr|exact esNil|apply esCons|apply eGlob|apply eCall|apply cvFn|apply xExpr|apply xRet|apply xSetL|apply xIte|apply xSetA|apply xSetI|apply xUnp|apply xAugA|exact xBrk|exact xCont|apply xWhl|apply lwStep|apply gtT|exact gtF|apply gwN|exact gwR|apply ifT|apply ifF|apply tAnd|apply tOr|apply tNot|exact alNil|apply alCons|exact ayNil|apply ayCons|apply tPlain|apply eCmp|apply eBin|apply eIdx|apply eSlc|apply eBi|exact eNone|exact eBool|apply eInT|apply eIsN|apply eEqNil|apply eNot|apply eIte|apply eList|apply eTup|apply eCel|exact eNeg|exact eDict0|apply eAnd|apply eOr|apply anOne|apply anTwo|apply orOne|apply orTwo|exact bAdd|exact bSub|apply cEqS|apply cNeS|apply cEqI|apply cNeI|apply cLt|apply cLe|apply cGt|apply cGe|apply cLtS|apply cLeS|apply cInS)|((with_reducible apply lkHit); exact Eq.refl true)|((with_reducible apply lkHere); exact Eq.refl true)|((with_reducible apply lkMiss); exact Eq.refl false)|((with_reducible apply lkNext); exact Eq.refl false)|with_reducible apply xForS|((with_reducible apply lfE); (with_reducible assumption))|((with_reducible apply lfN); (with_reducible assumption))|((with_reducible apply setAt_last) <;> exact Eq.refl true)|exact Eq.refl true|exact Eq.refl false|exact xNil|with_reducible exact nxR|(apply xCons)|(apply xSetL)|(apply xExpr)|(apply xIte)|(apply xRet)|(apply xSetA)|exact rfl)))
end


end
section
set_option maxRecDepth 10000
section
variable {l : List Nat} {H : MHeap} {n p t : Nat} {k : List Nat} {v : MVal} {q : Nat} {W d : Nat}
/-- '.q' or '.m' behind a deref -/
theorem turn_frec (S : St l H n p t [46] (.str []) q) (c : Cst H) {name : List Nat} {f : Nat} {ty : MVal} (F : Fd name f ty) {q1 p1 q2 p2 : Nat} {k2 : List Nat} {v2 : MVal}
    (N1 : Nx l p [105, 100, 101, 110, 116] (.str name) q1 p1) (N2 : Nx l p1 k2 v2 q2 p2) (hn : n < 120)
    {i m ki : Nat} {op : List Nat} {pl0 val : MVal} (hi : 60 < i) (h : H[i]? = some (nodeO op pl0 (.ref 33) ki val)) (ho : opOk op) (D : Des H i m) (hm : m < W + 3) {ρ : Loc} (R : Rho i ρ) :
    ∃ H' t' j kj ρ', exSs tb (callF tb (W + 3) (d + 9)) (W + 3) selB ρ H = some (.next, ρ', H') ∧ Rho j ρ' ∧ St l H' (n + 1) p2 t' k2 v2 q2 ∧ Keep H H' ∧ 60 < j ∧ H'[j]? = some (nodeO [102, 105, 101, 108, 100] (.int q) ty kj (.ref f)) ∧ Des H' j (m + 1) := by
  have e0 := part_ok (W := W + 3) (d := d + 8) S hn
  have S0 := part_st S
  have K0 := part_keep (H := H) (t := t) (n := n)
  generalize hA : partH H t n = A at e0 S0 K0
  have f1 := skip_yes (W := W + 1) (d := d + 3) S0 N1
  have S1 := step_st S0 (k' := [105, 100, 101, 110, 116]) (v' := .str name) (q' := q1) (p' := p1)
  have K1 := K0.trans (step_keep (H := A) (l := l) (n := n + 1) (k' := [105, 100, 101, 110, 116]) (v' := .str name) (q' := q1) (p' := p1))
  generalize hB : stepH A l (n + 1) p1 [105, 100, 101, 110, 116] (.str name) q1 = B at f1 S1 K1
  have f2 := name_yes (W := W + 1) (d := d + 3) S1 N2
  have S2 := step_st S1 (k' := k2) (v' := v2) (q' := q2) (p' := p2)
  have KB := step_keep (H := B) (l := l) (n := n + 1) (k' := k2) (v' := v2) (q' := q2) (p' := p2)
  have K2 := K1.trans KB
  have tk' := KB.at S1.tk S1.lo'
  generalize hC : stepH B l (n + 1) p2 k2 v2 q2 = C at f2 S2 K2 KB tk'
  have va : getA tb (.ref A.length) 27629678967 C = some (.str name) := getA_inst (c := 200) tk' rfl rfl
  have hb := K1.at h hi
  have hc := K2.at h hi
  have cb := c.keep K1
  have e4 := field_rec (W := W) (d := d + 7) (a1 := .ref 3) (a2 := .ref 56) (c.keep K2) hc (D.keep K2) hm F q
  have cl : 60 < C.length := get_lt S2.sc
  have hjl : 60 < (C ++ [MObj.list [.ref i]]).length := lt_app (by assumption)
  have hk : (recH C i q f ty)[C.length]? = some (MObj.list [.ref i]) := by
    unfold recH
    rw [List.getElem?_append_left (by simp)]; exact get_last _ _
  have K3 : Keep C (recH C i q f ty) := (Keep.app _ _).trans (Keep.app _ _)
  have hj : (recH C i q f ty)[(C ++ [MObj.list [.ref i]]).length]? = some (nodeO [102, 105, 101, 108, 100] (.int q) ty C.length (.ref f)) := get_last _ _
  refine ⟨recH C i q f ty, _, (C ++ [MObj.list [.ref i]]).length, C.length, put 215578735 (.ref (C ++ [MObj.list [.ref i]]).length) (put 215724399 (.ref A.length) (put 4013084425064 (.bool true) (put 27591751409 (.int q) ρ))), ?_, ⟨?_, ?_, ?_⟩, (S2.app _).app _, K2.trans K3, hjl, hj, .step hj hjl rfl hk cl (by simp) ((D.keep K2).keep K3)⟩
  · have m0 : methOf tb (.ref 59) 247263601 H = some (.fn 620 (.ref 59)) := S.meth rfl rfl
    have m1 : methOf tb (.ref 59) 238728820 A = some (.fn 571 (.ref 59)) := S0.meth rfl rfl
    have m2 : methOf tb (.ref 59) 215724399 B = some (.fn 592 (.ref 59)) := S1.meth rfl rfl
    have w1 : ([[46], [91], [94]] : List (List Nat)).contains [46] = true := rfl
    have w2 : ([[114, 101, 99, 111, 114, 100], [112, 111, 105, 110, 116, 101, 114]] : List (List Nat)).contains [114, 101, 99, 111, 114, 100] = true := rfl
    have w3 : (false != true) = true := rfl
    have w4 : (([114, 101, 99, 111, 114, 100] : List Nat) == [112, 111, 105, 110, 116, 101, 114]) = false := rfl
    have w5 : (MVal.ref A.length == MVal.none) = false := rfl
    have w6 : (true != false) = true := rfl
    unfold opOk at ho
    (have zz0 := R.rd; have zz1 := R.node; have zz2 := S.token; have zz3 := S.place; have zz4 := S.kind; have zz5 := node_op h; have zz6 := ho; have zz7 := node_type h; have zz8 := ty_form c.c33; have zz9 := w1; have zz10 := w2; have zz11 := w3; have zz12 := w4; have zz13 := w5; have zz14 := w6; have zz15 := m0; have zz16 := e0; have zz17 := m1; have zz18 := f1; have zz19 := node_type hb; have zz20 := ty_form cb.c33; have zz21 := m2; have zz22 := f2; have zz23 := va; have zz24 := S2.types; have zz25 := S2.errors; have zz26 := e4; (repeat' (first|with_reducible (first|assumption|exact xNil|apply xCons|apply nxN|exact nxR|exact nxB|exact nxC|apply eLoc|apply eAttr|apply eMeth|apply mcFn|exact eInt|exact eStr|exact esNil|apply esCons|apply eGlob|apply eCall|apply cvFn|apply xExpr|apply xRet|apply xSetL|apply xIte|apply xSetA|apply xSetI|apply xUnp|apply xAugA|exact xBrk|exact xCont|apply xWhl|apply lwStep|apply gtT|exact gtF|apply gwN|exact gwR|apply ifT|apply ifF|apply tAnd|apply tOr|apply tNot|exact alNil|apply alCons|exact ayNil|apply ayCons|apply tPlain|apply eCmp|apply eBin|apply eIdx|apply eSlc|apply eBi|exact eNone|exact eBool|apply eInT|apply eIsN|apply eEqNil|apply eNot|apply eIte|apply eList|apply eTup|apply eCel|exact eNeg|exact eDict0|apply eAnd|apply eOr|apply anOne|apply anTwo|apply orOne|apply orTwo|exact bAdd|exact bSub|apply cEqS|apply cNeS|apply cEqI|apply cNeI|apply cLt|apply cLe|apply cGt|apply cGe|apply cLtS|apply cLeS|apply cInS)|((with_reducible apply lkHit); exact Eq.refl true)|((with_reducible apply lkHere); exact Eq.refl true)|((with_reducible apply lkMiss); exact Eq.refl false)|((with_reducible apply lkNext); exact Eq.refl false)|with_reducible apply xForS|((with_reducible apply lfE); (with_reducible assumption))|((with_reducible apply lfN); (with_reducible assumption))|((with_reducible apply setAt_last) <;> exact Eq.refl true)|exact Eq.refl true|exact Eq.refl false|exact xNil|with_reducible exact nxR|(apply xCons)|(apply xSetL)|(apply xExpr)|(apply xIte)|(apply xRet)|(apply xSetA)|exact rfl)))
  · (have zz0 := R.rd; (repeat' (first|with_reducible (first|assumption|exact xNil|apply xCons|apply nxN|exact nxR|exact nxB|exact nxC|apply eLoc|apply eAttr|apply eMeth|apply mcFn|exact eInt|exact eStr|exact esNil|apply esCons|apply eGlob|apply eCall|apply cvFn|apply xExpr|apply xRet|apply xSetL|apply xIte|apply xSetA|apply xSetI|apply xUnp|apply xAugA|exact xBrk|exact xCont|apply xWhl|apply lwStep|apply gtT|exact gtF|apply gwN|exact gwR|apply ifT|apply ifF|apply tAnd|apply tOr|apply tNot|exact alNil|apply alCons|exact ayNil|apply ayCons|apply tPlain|apply eCmp|apply eBin|apply eIdx|apply eSlc|apply eBi|exact eNone|exact eBool|apply eInT|apply eIsN|apply eEqNil|apply eNot|apply eIte|apply eList|apply eTup|apply eCel|exact eNeg|exact eDict0|apply eAnd|apply eOr|apply anOne|apply anTwo|apply orOne|apply orTwo|exact bAdd|exact bSub|apply cEqS|apply cNeS|apply cEqI|apply cNeI|apply cLt|apply cLe|apply cGt|apply cGe|apply cLtS|apply cLeS|apply cInS)|((with_reducible apply lkHit); exact Eq.refl true)|((with_reducible apply lkHere); exact Eq.refl true)|((with_reducible apply lkMiss); exact Eq.refl false)|((with_reducible apply lkNext); exact Eq.refl false)|with_reducible apply xForS|((with_reducible apply lfE); (with_reducible assumption))|((with_reducible apply lfN); (with_reducible assumption))|((with_reducible apply setAt_last) <;> exact Eq.refl true)|exact Eq.refl true|exact Eq.refl false|exact xNil|with_reducible exact nxR|(apply xCons)|(apply xSetL)|(apply xExpr)|(apply xIte)|(apply xRet)|(apply xSetA)|exact rfl)))
  · ((repeat' (first|with_reducible (first|assumption|exact xNil|apply xCons|apply nxN|exact nxR|exact nxB|exact nxC|apply eLoc|apply eAttr|apply eMeth|apply mcFn|exact eInt|exact eStr|exact esNil|apply esCons|apply eGlob|apply eCall|apply cvFn|apply xExpr|apply xRet|apply xSetL|apply xIte|apply xSetA|apply xSetI|apply xUnp|apply xAugA|exact xBrk|exact xCont|apply xWhl|apply lwStep|apply gtT|exact gtF|apply gwN|exact gwR|apply ifT|apply ifF|apply tAnd|apply tOr|apply tNot|exact alNil|apply alCons|exact ayNil|apply ayCons|apply tPlain|apply eCmp|apply eBin|apply eIdx|apply eSlc|apply eBi|exact eNone|exact eBool|apply eInT|apply eIsN|apply eEqNil|apply eNot|apply eIte|apply eList|apply eTup|apply eCel|exact eNeg|exact eDict0|apply eAnd|apply eOr|apply anOne|apply anTwo|apply orOne|apply orTwo|exact bAdd|exact bSub|apply cEqS|apply cNeS|apply cEqI|apply cNeI|apply cLt|apply cLe|apply cGt|apply cGe|apply cLtS|apply cLeS|apply cInS)|((with_reducible apply lkHit); exact Eq.refl true)|((with_reducible apply lkHere); exact Eq.refl true)|((with_reducible apply lkMiss); exact Eq.refl false)|((with_reducible apply lkNext); exact Eq.refl false)|with_reducible apply xForS|((with_reducible apply lfE); (with_reducible assumption))|((with_reducible apply lfN); (with_reducible assumption))|((with_reducible apply setAt_last) <;> exact Eq.refl true)|exact Eq.refl true|exact Eq.refl false|exact xNil|with_reducible exact nxR|(apply xCons)|(apply xSetL)|(apply xExpr)|(apply xIte)|(apply xRet)|(apply xSetA)|exact rfl)))
  · (have zz0 := R.ex; (repeat' (first|with_reducible (first|assumption|exact xNil|apply xCons|apply nxN|exact nxR|exact nxB|exact nxC|apply eLoc|apply eAttr|apply eMeth|apply mcFn|exact eInt|exact eStr|exact esNil|apply esCons|apply eGlob|apply eCall|apply cvFn|apply xExpr|apply xRet|apply xSetL|apply xIte|apply xSetA|apply xSetI|apply xUnp|apply xAugA|exact xBrk|exact xCont|apply xWhl|apply lwStep|apply gtT|exact gtF|apply gwN|exact gwR|apply ifT|apply ifF|apply tAnd|apply tOr|apply tNot|exact alNil|apply alCons|exact ayNil|apply ayCons|apply tPlain|apply eCmp|apply eBin|apply eIdx|apply eSlc|apply eBi|exact eNone|exact eBool|apply eInT|apply eIsN|apply eEqNil|apply eNot|apply eIte|apply eList|apply eTup|apply eCel|exact eNeg|exact eDict0|apply eAnd|apply eOr|apply anOne|apply anTwo|apply orOne|apply orTwo|exact bAdd|exact bSub|apply cEqS|apply cNeS|apply cEqI|apply cNeI|apply cLt|apply cLe|apply cGt|apply cGe|apply cLtS|apply cLeS|apply cInS)|((with_reducible apply lkHit); exact Eq.refl true)|((with_reducible apply lkHere); exact Eq.refl true)|((with_reducible apply lkMiss); exact Eq.refl false)|((with_reducible apply lkNext); exact Eq.refl false)|with_reducible apply xForS|((with_reducible apply lfE); (with_reducible assumption))|((with_reducible apply lfN); (with_reducible assumption))|((with_reducible apply setAt_last) <;> exact Eq.refl true)|exact Eq.refl true|exact Eq.refl false|exact xNil|with_reducible exact nxR|(apply xCons)|(apply xSetL)|(apply xExpr)|(apply xIte)|(apply xRet)|(apply xSetA)|exact rfl)))
end


end
section
set_option maxRecDepth 10000
section
variable {l : List Nat} {H : MHeap} {n p t : Nat} {k : List Nat} {v : MVal} {q : Nat} {W d : Nat}
/-- '.q' or '.m' behind a pointer: two parts -/
theorem turn_fptr (S : St l H n p t [46] (.str []) q) (c : Cst H) {name : List Nat} {f : Nat} {ty : MVal} (F : Fd name f ty) {q1 p1 q2 p2 : Nat} {k2 : List Nat} {v2 : MVal}
    (N1 : Nx l p [105, 100, 101, 110, 116] (.str name) q1 p1) (N2 : Nx l p1 k2 v2 q2 p2) (hn : n + 1 < 120)
    {i m ki : Nat} {op : List Nat} {pl0 val : MVal} (hi : 60 < i) (h : H[i]? = some (nodeO op pl0 (.ref 38) ki val)) (ho : opOk op) (D : Des H i m) (hm : m < W + 3) {ρ : Loc} (R : Rho i ρ) :
    ∃ H' t' j kj ρ', exSs tb (callF tb (W + 3) (d + 9)) (W + 3) selB ρ H = some (.next, ρ', H') ∧ Rho j ρ' ∧ St l H' (n + 1 + 1) p2 t' k2 v2 q2 ∧ Keep H H' ∧ 60 < j ∧ H'[j]? = some (nodeO [102, 105, 101, 108, 100] (.int q) ty kj (.ref f)) ∧ Des H' j 1 := by
  have e0 := part_ok (W := W + 3) (d := d + 8) S (by omega)
  have S0 := part_st S
  have K0 := part_keep (H := H) (t := t) (n := n)
  generalize hA : partH H t n = A at e0 S0 K0
  have f1 := skip_yes (W := W + 1) (d := d + 3) S0 N1
  have S1 := step_st S0 (k' := [105, 100, 101, 110, 116]) (v' := .str name) (q' := q1) (p' := p1)
  have K1 := K0.trans (step_keep (H := A) (l := l) (n := n + 1) (k' := [105, 100, 101, 110, 116]) (v' := .str name) (q' := q1) (p' := p1))
  generalize hB : stepH A l (n + 1) p1 [105, 100, 101, 110, 116] (.str name) q1 = B at f1 S1 K1
  have e1 := part_ok (W := W + 3) (d := d + 8) S1 hn
  have T0 := part_st S1
  have K1' := K1.trans (part_keep (H := B) (t := A.length) (n := n + 1))
  generalize hB' : partH B A.length (n + 1) = B' at e1 T0 K1'
  have f2 := name_yes (W := W + 1) (d := d + 3) T0 N2
  have S2 := step_st T0 (k' := k2) (v' := v2) (q' := q2) (p' := p2)
  have KB := step_keep (H := B') (l := l) (n := n + 1 + 1) (k' := k2) (v' := v2) (q' := q2) (p' := p2)
  have K2 := K1'.trans KB
  have tk' := KB.2 _ _ T0.tk (by have := S1.lo; omega) (by have := S1.lo; omega)
  generalize hC : stepH B' l (n + 1 + 1) p2 k2 v2 q2 = C at f2 S2 K2 KB tk'
  have va : getA tb (.ref A.length) 27629678967 C = some (.str name) := getA_inst (c := 200) tk' rfl rfl
  have hb := K1.at h hi
  have hc := K2.at h hi
  have cb := c.keep K1
  have cl : 60 < C.length := get_lt S2.sc
  have e4 := field_ptr (W := W) (d := d + 7) (a1 := .ref 3) (a2 := .ref 56) (c.keep K2) cl hc (D.keep K2) hm F q
  have hdl : 60 < (C ++ [MObj.list [.ref i]]).length := lt_app (by assumption)
  have hd : (derH C i q (.ref 33))[(C ++ [MObj.list [.ref i]]).length]? = some (nodeO [100, 101, 114, 101, 102] (.int q) (.ref 33) C.length .none) := get_last _ _
  have KD : Keep C (derH C i q (.ref 33)) := (Keep.app _ _).trans (Keep.app _ _)
  generalize hE : derH C i q (.ref 33) = E at e4 hd KD
  generalize hx : (C ++ [MObj.list [.ref i]]).length = x at e4 hd hdl
  have SE : St l E (n + 1 + 1) p2 B'.length k2 v2 q2 := by rw [← hE]; exact (S2.app _).app _
  have el : 60 < E.length := get_lt SE.sc
  have hjl : 60 < (E ++ [MObj.list [.ref x]]).length := lt_app (by assumption)
  have hk : (recH E x q f ty)[E.length]? = some (MObj.list [.ref x]) := by
    unfold recH
    rw [List.getElem?_append_left (by simp)]; exact get_last _ _
  have K3 : Keep E (recH E x q f ty) := (Keep.app _ _).trans (Keep.app _ _)
  have hj : (recH E x q f ty)[(E ++ [MObj.list [.ref x]]).length]? = some (nodeO [102, 105, 101, 108, 100] (.int q) ty E.length (.ref f)) := get_last _ _
  have Dx : Des E x 0 := .base hd hdl (.inr rfl)
  refine ⟨recH E x q f ty, _, (E ++ [MObj.list [.ref x]]).length, E.length, put 215578735 (.ref (E ++ [MObj.list [.ref x]]).length) (put 215724399 (.ref A.length) (put 4013084425064 (.bool true) (put 27591751409 (.int q) ρ))), ?_, ⟨?_, ?_, ?_⟩, (SE.app _).app _, (K2.trans KD).trans K3, hjl, hj, .step hj hjl rfl hk el (by simp) (Dx.keep K3)⟩
  · have m0 : methOf tb (.ref 59) 247263601 H = some (.fn 620 (.ref 59)) := S.meth rfl rfl
    have m0' : methOf tb (.ref 59) 247263601 B = some (.fn 620 (.ref 59)) := S1.meth rfl rfl
    have m1 : methOf tb (.ref 59) 238728820 A = some (.fn 571 (.ref 59)) := S0.meth rfl rfl
    have m2 : methOf tb (.ref 59) 215724399 B' = some (.fn 592 (.ref 59)) := T0.meth rfl rfl
    have w1 : ([[46], [91], [94]] : List (List Nat)).contains [46] = true := rfl
    have w2 : ([[114, 101, 99, 111, 114, 100], [112, 111, 105, 110, 116, 101, 114]] : List (List Nat)).contains [112, 111, 105, 110, 116, 101, 114] = true := rfl
    have w3 : (false != true) = true := rfl
    have w4 : (([112, 111, 105, 110, 116, 101, 114] : List Nat) == [112, 111, 105, 110, 116, 101, 114]) = true := rfl
    have w5 : (MVal.ref A.length == MVal.none) = false := rfl
    have w6 : (true != false) = true := rfl
    unfold opOk at ho
    (have zz0 := R.rd; have zz1 := R.node; have zz2 := S.token; have zz3 := S.place; have zz4 := S.kind; have zz5 := node_op h; have zz6 := ho; have zz7 := node_type h; have zz8 := ty_form c.c38; have zz9 := w1; have zz10 := w2; have zz11 := w3; have zz12 := w4; have zz13 := w5; have zz14 := w6; have zz15 := m0; have zz16 := m0'; have zz17 := e0; have zz18 := e1; have zz19 := m1; have zz20 := f1; have zz21 := node_type hb; have zz22 := ty_form cb.c38; have zz23 := m2; have zz24 := f2; have zz25 := va; have zz26 := S2.types; have zz27 := S2.errors; have zz28 := e4; (repeat' (first|with_reducible (first|assumption|exact xNil|apply xCons|apply nxN|exact nxR|exact nxB|exact nxC|apply eLoc|apply eAttr|apply eMeth|apply mcFn|exact eInt|exact eStr|exact esNil|apply esCons|apply eGlob|apply eCall|apply cvFn|apply xExpr|apply xRet|apply xSetL|apply xIte|apply xSetA|apply xSetI|apply xUnp|apply xAugA|exact xBrk|exact xCont|apply xWhl|apply lwStep|apply gtT|exact gtF|apply gwN|exact gwR|apply ifT|apply ifF|apply tAnd|apply tOr|apply tNot|exact alNil|apply alCons|exact ayNil|apply ayCons|apply tPlain|apply eCmp|apply eBin|apply eIdx|apply eSlc|apply eBi|exact eNone|exact eBool|apply eInT|apply eIsN|apply eEqNil|apply eNot|apply eIte|apply eList|apply eTup|apply eCel|exact eNeg|exact eDict0|apply eAnd|apply eOr|apply anOne|apply anTwo|apply orOne|apply orTwo|exact bAdd|exact bSub|apply cEqS|apply cNeS|apply cEqI|apply cNeI|apply cLt|apply cLe|apply cGt|apply cGe|apply cLtS|apply cLeS|apply cInS)|((with_reducible apply lkHit); exact Eq.refl true)|((with_reducible apply lkHere); exact Eq.refl true)|((with_reducible apply lkMiss); exact Eq.refl false)|((with_reducible apply lkNext); exact Eq.refl false)|with_reducible apply xForS|((with_reducible apply lfE); (with_reducible assumption))|((with_reducible apply lfN); (with_reducible assumption))|((with_reducible apply setAt_last) <;> exact Eq.refl true)|exact Eq.refl true|exact Eq.refl false|exact xNil|with_reducible exact nxR|(apply xCons)|(apply xSetL)|(apply xExpr)|(apply xIte)|(apply xRet)|(apply xSetA)|exact rfl)))
  · (have zz0 := R.rd; (repeat' (first|with_reducible (first|assumption|exact xNil|apply xCons|apply nxN|exact nxR|exact nxB|exact nxC|apply eLoc|apply eAttr|apply eMeth|apply mcFn|exact eInt|exact eStr|exact esNil|apply esCons|apply eGlob|apply eCall|apply cvFn|apply xExpr|apply xRet|apply xSetL|apply xIte|apply xSetA|apply xSetI|apply xUnp|apply xAugA|exact xBrk|exact xCont|apply xWhl|apply lwStep|apply gtT|exact gtF|apply gwN|exact gwR|apply ifT|apply ifF|apply tAnd|apply tOr|apply tNot|exact alNil|apply alCons|exact ayNil|apply ayCons|apply tPlain|apply eCmp|apply eBin|apply eIdx|apply eSlc|apply eBi|exact eNone|exact eBool|apply eInT|apply eIsN|apply eEqNil|apply eNot|apply eIte|apply eList|apply eTup|apply eCel|exact eNeg|exact eDict0|apply eAnd|apply eOr|apply anOne|apply anTwo|apply orOne|apply orTwo|exact bAdd|exact bSub|apply cEqS|apply cNeS|apply cEqI|apply cNeI|apply cLt|apply cLe|apply cGt|apply cGe|apply cLtS|apply cLeS|apply cInS)|((with_reducible apply lkHit); exact Eq.refl true)|((with_reducible apply lkHere); exact Eq.refl true)|((with_reducible apply lkMiss); exact Eq.refl false)|((with_reducible apply lkNext); exact Eq.refl false)|with_reducible apply xForS|((with_reducible apply lfE); (with_reducible assumption))|((with_reducible apply lfN); (with_reducible assumption))|((with_reducible apply setAt_last) <;> exact Eq.refl true)|exact Eq.refl true|exact Eq.refl false|exact xNil|with_reducible exact nxR|(apply xCons)|(apply xSetL)|(apply xExpr)|(apply xIte)|(apply xRet)|(apply xSetA)|exact rfl)))
  · ((repeat' (first|with_reducible (first|assumption|exact xNil|apply xCons|apply nxN|exact nxR|exact nxB|exact nxC|apply eLoc|apply eAttr|apply eMeth|apply mcFn|exact eInt|exact eStr|exact esNil|apply esCons|apply eGlob|apply eCall|apply cvFn|apply xExpr|apply xRet|apply xSetL|apply xIte|apply xSetA|apply xSetI|apply xUnp|apply xAugA|exact xBrk|exact xCont|apply xWhl|apply lwStep|apply gtT|exact gtF|apply gwN|exact gwR|apply ifT|apply ifF|apply tAnd|apply tOr|apply tNot|exact alNil|apply alCons|exact ayNil|apply ayCons|apply tPlain|apply eCmp|apply eBin|apply eIdx|apply eSlc|apply eBi|exact eNone|exact eBool|apply eInT|apply eIsN|apply eEqNil|apply eNot|apply eIte|apply eList|apply eTup|apply eCel|exact eNeg|exact eDict0|apply eAnd|apply eOr|apply anOne|apply anTwo|apply orOne|apply orTwo|exact bAdd|exact bSub|apply cEqS|apply cNeS|apply cEqI|apply cNeI|apply cLt|apply cLe|apply cGt|apply cGe|apply cLtS|apply cLeS|apply cInS)|((with_reducible apply lkHit); exact Eq.refl true)|((with_reducible apply lkHere); exact Eq.refl true)|((with_reducible apply lkMiss); exact Eq.refl false)|((with_reducible apply lkNext); exact Eq.refl false)|with_reducible apply xForS|((with_reducible apply lfE); (with_reducible assumption))|((with_reducible apply lfN); (with_reducible assumption))|((with_reducible apply setAt_last) <;> exact Eq.refl true)|exact Eq.refl true|exact Eq.refl false|exact xNil|with_reducible exact nxR|(apply xCons)|(apply xSetL)|(apply xExpr)|(apply xIte)|(apply xRet)|(apply xSetA)|exact rfl)))
  · (have zz0 := R.ex; (repeat' (first|with_reducible (first|assumption|exact xNil|apply xCons|apply nxN|exact nxR|exact nxB|exact nxC|apply eLoc|apply eAttr|apply eMeth|apply mcFn|exact eInt|exact eStr|exact esNil|apply esCons|apply eGlob|apply eCall|apply cvFn|apply xExpr|apply xRet|apply xSetL|apply xIte|apply xSetA|apply xSetI|apply xUnp|apply xAugA|exact xBrk|exact xCont|apply xWhl|apply lwStep|apply gtT|exact gtF|apply gwN|exact gwR|apply ifT|apply ifF|apply tAnd|apply tOr|apply tNot|exact alNil|apply alCons|exact ayNil|apply ayCons|apply tPlain|apply eCmp|apply eBin|apply eIdx|apply eSlc|apply eBi|exact eNone|exact eBool|apply eInT|apply eIsN|apply eEqNil|apply eNot|apply eIte|apply eList|apply eTup|apply eCel|exact eNeg|exact eDict0|apply eAnd|apply eOr|apply anOne|apply anTwo|apply orOne|apply orTwo|exact bAdd|exact bSub|apply cEqS|apply cNeS|apply cEqI|apply cNeI|apply cLt|apply cLe|apply cGt|apply cGe|apply cLtS|apply cLeS|apply cInS)|((with_reducible apply lkHit); exact Eq.refl true)|((with_reducible apply lkHere); exact Eq.refl true)|((with_reducible apply lkMiss); exact Eq.refl false)|((with_reducible apply lkNext); exact Eq.refl false)|with_reducible apply xForS|((with_reducible apply lfE); (with_reducible assumption))|((with_reducible apply lfN); (with_reducible assumption))|((with_reducible apply setAt_last) <;> exact Eq.refl true)|exact Eq.refl true|exact Eq.refl false|exact xNil|with_reducible exact nxR|(apply xCons)|(apply xSetL)|(apply xExpr)|(apply xIte)|(apply xRet)|(apply xSetA)|exact rfl)))
end


end
section
set_option maxRecDepth 10000
section
variable {l : List Nat} {H : MHeap} {n p t : Nat} {k : List Nat} {v : MVal} {q : Nat} {W d : Nat}
theorem ixH_des {H : MHeap} {i j m pl : Nat} {b : MVal} (D : Des H i m) (hl : 60 < H.length) : Des (ixH H i j pl b) (H ++ [MObj.list [.ref i, .ref j]]).length (m + 1) ∧ (ixH H i j pl b)[(H ++ [MObj.list [.ref i, .ref j]]).length]? = some (nodeO [105, 110, 100, 101, 120] (.int pl) b H.length .none) ∧ Keep H (ixH H i j pl b) := by
  have K : Keep H (ixH H i j pl b) := (Keep.app _ _).trans (Keep.app _ _)
  have hj : (ixH H i j pl b)[(H ++ [MObj.list [.ref i, .ref j]]).length]? = some (nodeO [105, 110, 100, 101, 120] (.int pl) b H.length .none) := get_last _ _
  have hk : (ixH H i j pl b)[H.length]? = some (MObj.list [.ref i, .ref j]) := by
    unfold ixH
    rw [List.getElem?_append_left (by simp)]; exact get_last _ _
  exact ⟨.step hj (lt_app (by assumption)) rfl hk hl (by simp) (D.keep K), hj, K⟩
/-- '[1, 0]' behind an array: two parts -/
theorem turn_index (S : St l H n p t [91] (.str []) q) (c : Cst H) (c2 : Cs2 H) {q1 p1 q2 p2 q3 p3 q4 p4 q5 p5 : Nat} {k5 : List Nat} {v5 : MVal}
    (N1 : Nx l p [105, 110, 116] (.int 1) q1 p1) (N2 : Nx l p1 [44] (.str []) q2 p2) (N3 : Nx l p2 [105, 110, 116] (.int 0) q3 p3) (N4 : Nx l p3 [93] (.str []) q4 p4) (N5 : Nx l p4 k5 v5 q5 p5) (hn : n + 1 < 120)
    {i m ki : Nat} {op : List Nat} {pl0 val : MVal} (hi : 60 < i) (h : H[i]? = some (nodeO op pl0 (.ref 47) ki val)) (ho : opOk op) (D : Des H i m) (hm : m + 1 < W + 3) {ρ : Loc} (R : Rho i ρ) :
    ∃ H' t' j kj ρ', exSs tb (callF tb (W + 3) (d + 9)) (W + 3) selB ρ H = some (.next, ρ', H') ∧ Rho j ρ' ∧ St l H' (n + 1 + 1) p5 t' k5 v5 q5 ∧ Keep H H' ∧ 60 < j ∧ H'[j]? = some (nodeO [105, 110, 100, 101, 120] (.int q) (.ref 38) kj .none) ∧ Des H' j (m + 2) := by
  have e0 := part_ok (W := W + 3) (d := d + 8) S (by omega)
  have S0 := part_st S
  have K0 := part_keep (H := H) (t := t) (n := n)
  generalize hA : partH H t n = A at e0 S0 K0
  have f0 := skip_no (W := W + 3) (d := d + 8) S0 (kk := [46]) rfl
  have f1 := skip_yes (W := W + 1) (d := d + 3) S0 N1
  have S1 := step_st S0 (k' := [105, 110, 116]) (v' := .int 1) (q' := q1) (p' := p1)
  have K1 := K0.trans (step_keep (H := A) (l := l) (n := n + 1) (k' := [105, 110, 116]) (v' := .int 1) (q' := q1) (p' := p1))
  generalize hB : stepH A l (n + 1) p1 [105, 110, 116] (.int 1) q1 = B at f1 S1 K1
  obtain ⟨C, jc, kc, tc, f2, S2, K2', hjc, hc⟩ := law_index_ (W := W + 1) (d := d + 3) S1 (c2.keep K1) N2
  have K2 := K1.trans K2'
  have hiC := K2.at h hi
  have cC := c.keep K2
  have Cl : 60 < C.length := get_lt S2.sc
  have f3 := index_ (W := W + 3) (d := d + 7) (a1 := .ref 3) (a2 := .ref 56) cC hiC (D.keep K2) (by omega) hc cC.c47 (by decide) (by decide) q
  obtain ⟨D1, h1, KC⟩ := ixH_des (j := jc) (pl := q) (b := .ref 43) (D.keep K2) Cl
  have S3 : St l (ixH C i jc q (.ref 43)) (n + 1) p2 tc [44] (.str []) q2 := (S2.app _).app _
  have hj1l : 60 < (C ++ [MObj.list [.ref i, .ref jc]]).length := lt_app (by assumption)
  have K3 := K2.trans KC
  generalize hC' : ixH C i jc q (.ref 43) = C' at f3 D1 h1 KC S3 K3
  generalize hj1 : (C ++ [MObj.list [.ref i, .ref jc]]).length = j1 at f3 D1 h1 hj1l
  have f4 := skip_yes (W := W + 1) (d := d + 3) S3 N3
  have S4 := step_st S3 (k' := [105, 110, 116]) (v' := .int 0) (q' := q3) (p' := p3)
  have K4' := (step_keep (H := C') (l := l) (n := n + 1) (k' := [105, 110, 116]) (v' := .int 0) (q' := q3) (p' := p3))
  generalize hD : stepH C' l (n + 1) p3 [105, 110, 116] (.int 0) q3 = E at f4 S4 K4'
  have f5 := part_ok (W := W + 3) (d := d + 8) S4 hn
  have S5 := part_st S4
  have K5' := K4'.trans (part_keep (H := E) (t := C'.length) (n := n + 1))
  generalize hE : partH E C'.length (n + 1) = F at f5 S5 K5'
  have K5 := K3.trans K5'
  obtain ⟨G, jg, kg, tg, f6, S6, K6', hjg, hg⟩ := law_index_ (W := W + 1) (d := d + 3) S5 (c2.keep K5) N4
  have K6'' := K5'.trans K6'
  have K6 := K3.trans K6''
  have h1G := K6''.at h1 hj1l
  have cG := c.keep K6
  have Gl : 60 < G.length := get_lt S6.sc
  have f7 := index_ (W := W + 3) (d := d + 7) (a1 := .ref 3) (a2 := .ref 56) cG h1G (D1.keep K6'') (by omega) hg cG.c43 (by decide) (by decide) q
  obtain ⟨D2, h2, KG⟩ := ixH_des (j := jg) (pl := q) (b := .ref 38) (D1.keep K6'') Gl
  have S7 : St l (ixH G j1 jg q (.ref 38)) (n + 1 + 1) p4 tg [93] (.str []) q4 := (S6.app _).app _
  have hj2l : 60 < (G ++ [MObj.list [.ref j1, .ref jg]]).length := lt_app (by assumption)
  have K7 := K6.trans KG
  generalize hG' : ixH G j1 jg q (.ref 38) = G' at f7 D2 h2 KG S7 K7
  generalize hj2 : (G ++ [MObj.list [.ref j1, .ref jg]]).length = j2 at f7 D2 h2 hj2l
  have f8 := skip_no (W := W + 3) (d := d + 8) S7 (kk := [44]) rfl
  have f9 := expect_yes (W := W + 1) (d := d + 2) S7 N5
  have S8 := step_st S7 (k' := k5) (v' := v5) (q' := q5) (p' := p5)
  have K8' := (step_keep (H := G') (l := l) (n := n + 1 + 1) (k' := k5) (v' := v5) (q' := q5) (p' := p5))
  generalize hX : stepH G' l (n + 1 + 1) p5 k5 v5 q5 = X at f9 S8 K8'
  refine ⟨X, _, j2, G.length, put 215578735 (.ref j2) (put 215578735 (.ref j1) (put 4013084425064 (.bool false) (put 27591751409 (.int q) ρ))), ?_, ⟨?_, ?_, ?_⟩, S8, K7.trans K8', hj2l, K8'.2 _ _ h2 (by omega) (by omega), D2.keep K8'⟩
  · have m0 : methOf tb (.ref 59) 247263601 H = some (.fn 620 (.ref 59)) := S.meth rfl rfl
    have m1 : methOf tb (.ref 59) 238728820 A = some (.fn 571 (.ref 59)) := S0.meth rfl rfl
    have m2 : methOf tb (.ref 59) 238728820 C' = some (.fn 571 (.ref 59)) := S3.meth rfl rfl
    have m3 : methOf tb (.ref 59) 247263601 E = some (.fn 620 (.ref 59)) := S4.meth rfl rfl
    have m4 : methOf tb (.ref 59) 238728820 G' = some (.fn 571 (.ref 59)) := S7.meth rfl rfl
    have m5 : methOf tb (.ref 59) 4047148711142 G' = some (.fn 578 (.ref 59)) := S7.meth rfl rfl
    have w1 : ([[46], [91], [94]] : List (List Nat)).contains [91] = true := rfl
    have w2 : ([[114, 101, 99, 111, 114, 100], [112, 111, 105, 110, 116, 101, 114]] : List (List Nat)).contains [97, 114, 114, 97, 121] = false := rfl
    have w3 : (false != true) = true := rfl
    have w4 : (false != false) = false := rfl
    unfold opOk at ho
    (have zz0 := R.rd; have zz1 := R.node; have zz2 := R.ex; have zz3 := S.token; have zz4 := S.place; have zz5 := S.kind; have zz6 := node_op h; have zz7 := ho; have zz8 := node_type h; have zz9 := ty_form c.c47; have zz10 := w1; have zz11 := w2; have zz12 := w3; have zz13 := w4; have zz14 := m0; have zz15 := e0; have zz16 := m1; have zz17 := f0; have zz18 := f1; have zz19 := S1.types; have zz20 := S1.errors; have zz21 := f2; have zz22 := f3; have zz23 := m2; have zz24 := f4; have zz25 := m3; have zz26 := f5; have zz27 := S5.types; have zz28 := S5.errors; have zz29 := f6; have zz30 := f7; have zz31 := m4; have zz32 := f8; have zz33 := m5; have zz34 := f9; (repeat' (first|with_reducible (first|assumption|exact xNil|apply xCons|apply nxN|exact nxR|exact nxB|exact nxC|apply eLoc|apply eAttr|apply eMeth|apply mcFn|exact eInt|exact eStr|exact esNil|apply esCons|apply eGlob|apply eCall|apply cvFn|apply xExpr|apply xRet|apply xSetL|apply xIte|apply xSetA|apply xSetI|apply xUnp|apply xAugA|exact xBrk|exact xCont|apply xWhl|apply lwStep|apply gtT|exact gtF|apply gwN|exact gwR|apply ifT|apply ifF|apply tAnd|apply tOr|apply tNot|exact alNil|apply alCons|exact ayNil|apply ayCons|apply tPlain|apply eCmp|apply eBin|apply eIdx|apply eSlc|apply eBi|exact eNone|exact eBool|apply eInT|apply eIsN|apply eEqNil|apply eNot|apply eIte|apply eList|apply eTup|apply eCel|exact eNeg|exact eDict0|apply eAnd|apply eOr|apply anOne|apply anTwo|apply orOne|apply orTwo|exact bAdd|exact bSub|apply cEqS|apply cNeS|apply cEqI|apply cNeI|apply cLt|apply cLe|apply cGt|apply cGe|apply cLtS|apply cLeS|apply cInS)|((with_reducible apply lkHit); exact Eq.refl true)|((with_reducible apply lkHere); exact Eq.refl true)|((with_reducible apply lkMiss); exact Eq.refl false)|((with_reducible apply lkNext); exact Eq.refl false)|with_reducible apply xForS|((with_reducible apply lfE); (with_reducible assumption))|((with_reducible apply lfN); (with_reducible assumption))|((with_reducible apply setAt_last) <;> exact Eq.refl true)|exact Eq.refl true|exact Eq.refl false|exact xNil|with_reducible exact nxR|(apply xCons)|(apply xSetL)|(apply xExpr)|(apply xIte)|(apply xRet)|(apply xSetA)|exact rfl)))
  · (have zz0 := R.rd; (repeat' (first|with_reducible (first|assumption|exact xNil|apply xCons|apply nxN|exact nxR|exact nxB|exact nxC|apply eLoc|apply eAttr|apply eMeth|apply mcFn|exact eInt|exact eStr|exact esNil|apply esCons|apply eGlob|apply eCall|apply cvFn|apply xExpr|apply xRet|apply xSetL|apply xIte|apply xSetA|apply xSetI|apply xUnp|apply xAugA|exact xBrk|exact xCont|apply xWhl|apply lwStep|apply gtT|exact gtF|apply gwN|exact gwR|apply ifT|apply ifF|apply tAnd|apply tOr|apply tNot|exact alNil|apply alCons|exact ayNil|apply ayCons|apply tPlain|apply eCmp|apply eBin|apply eIdx|apply eSlc|apply eBi|exact eNone|exact eBool|apply eInT|apply eIsN|apply eEqNil|apply eNot|apply eIte|apply eList|apply eTup|apply eCel|exact eNeg|exact eDict0|apply eAnd|apply eOr|apply anOne|apply anTwo|apply orOne|apply orTwo|exact bAdd|exact bSub|apply cEqS|apply cNeS|apply cEqI|apply cNeI|apply cLt|apply cLe|apply cGt|apply cGe|apply cLtS|apply cLeS|apply cInS)|((with_reducible apply lkHit); exact Eq.refl true)|((with_reducible apply lkHere); exact Eq.refl true)|((with_reducible apply lkMiss); exact Eq.refl false)|((with_reducible apply lkNext); exact Eq.refl false)|with_reducible apply xForS|((with_reducible apply lfE); (with_reducible assumption))|((with_reducible apply lfN); (with_reducible assumption))|((with_reducible apply setAt_last) <;> exact Eq.refl true)|exact Eq.refl true|exact Eq.refl false|exact xNil|with_reducible exact nxR|(apply xCons)|(apply xSetL)|(apply xExpr)|(apply xIte)|(apply xRet)|(apply xSetA)|exact rfl)))
  · ((repeat' (first|with_reducible (first|assumption|exact xNil|apply xCons|apply nxN|exact nxR|exact nxB|exact nxC|apply eLoc|apply eAttr|apply eMeth|apply mcFn|exact eInt|exact eStr|exact esNil|apply esCons|apply eGlob|apply eCall|apply cvFn|apply xExpr|apply xRet|apply xSetL|apply xIte|apply xSetA|apply xSetI|apply xUnp|apply xAugA|exact xBrk|exact xCont|apply xWhl|apply lwStep|apply gtT|exact gtF|apply gwN|exact gwR|apply ifT|apply ifF|apply tAnd|apply tOr|apply tNot|exact alNil|apply alCons|exact ayNil|apply ayCons|apply tPlain|apply eCmp|apply eBin|apply eIdx|apply eSlc|apply eBi|exact eNone|exact eBool|apply eInT|apply eIsN|apply eEqNil|apply eNot|apply eIte|apply eList|apply eTup|apply eCel|exact eNeg|exact eDict0|apply eAnd|apply eOr|apply anOne|apply anTwo|apply orOne|apply orTwo|exact bAdd|exact bSub|apply cEqS|apply cNeS|apply cEqI|apply cNeI|apply cLt|apply cLe|apply cGt|apply cGe|apply cLtS|apply cLeS|apply cInS)|((with_reducible apply lkHit); exact Eq.refl true)|((with_reducible apply lkHere); exact Eq.refl true)|((with_reducible apply lkMiss); exact Eq.refl false)|((with_reducible apply lkNext); exact Eq.refl false)|with_reducible apply xForS|((with_reducible apply lfE); (with_reducible assumption))|((with_reducible apply lfN); (with_reducible assumption))|((with_reducible apply setAt_last) <;> exact Eq.refl true)|exact Eq.refl true|exact Eq.refl false|exact xNil|with_reducible exact nxR|(apply xCons)|(apply xSetL)|(apply xExpr)|(apply xIte)|(apply xRet)|(apply xSetA)|exact rfl)))
  · (have zz0 := R.ex; (repeat' (first|with_reducible (first|assumption|exact xNil|apply xCons|apply nxN|exact nxR|exact nxB|exact nxC|apply eLoc|apply eAttr|apply eMeth|apply mcFn|exact eInt|exact eStr|exact esNil|apply esCons|apply eGlob|apply eCall|apply cvFn|apply xExpr|apply xRet|apply xSetL|apply xIte|apply xSetA|apply xSetI|apply xUnp|apply xAugA|exact xBrk|exact xCont|apply xWhl|apply lwStep|apply gtT|exact gtF|apply gwN|exact gwR|apply ifT|apply ifF|apply tAnd|apply tOr|apply tNot|exact alNil|apply alCons|exact ayNil|apply ayCons|apply tPlain|apply eCmp|apply eBin|apply eIdx|apply eSlc|apply eBi|exact eNone|exact eBool|apply eInT|apply eIsN|apply eEqNil|apply eNot|apply eIte|apply eList|apply eTup|apply eCel|exact eNeg|exact eDict0|apply eAnd|apply eOr|apply anOne|apply anTwo|apply orOne|apply orTwo|exact bAdd|exact bSub|apply cEqS|apply cNeS|apply cEqI|apply cNeI|apply cLt|apply cLe|apply cGt|apply cGe|apply cLtS|apply cLeS|apply cInS)|((with_reducible apply lkHit); exact Eq.refl true)|((with_reducible apply lkHere); exact Eq.refl true)|((with_reducible apply lkMiss); exact Eq.refl false)|((with_reducible apply lkNext); exact Eq.refl false)|with_reducible apply xForS|((with_reducible apply lfE); (with_reducible assumption))|((with_reducible apply lfN); (with_reducible assumption))|((with_reducible apply setAt_last) <;> exact Eq.refl true)|exact Eq.refl true|exact Eq.refl false|exact xNil|with_reducible exact nxR|(apply xCons)|(apply xSetL)|(apply xExpr)|(apply xIte)|(apply xRet)|(apply xSetA)|exact rfl)))
end


end
section
set_option maxRecDepth 10000

/-- all but the marked rows and places stays -/
noncomputable def KM (H H' : MHeap) : Prop := H.length ≤ H'.length ∧ ∀ i o, H[i]? = some o → i ≠ 57 → i ≠ 58 → H'[i]? = some o
noncomputable def KA (H H' : MHeap) : Prop := H.length ≤ H'.length ∧ ∀ i o, H[i]? = some o → i ≠ 57 → i ≠ 58 → i ≠ 59 → i ≠ 60 → H'[i]? = some o
theorem KM.ka {H H' : MHeap} (k : KM H H') : KA H H' := ⟨k.1, fun i o h a b _ _ => k.2 i o h a b⟩
theorem Keep.ka {H H' : MHeap} (k : Keep H H') : KA H H' := ⟨k.1, fun i o h _ _ a b => k.2 i o h a b⟩
theorem KA.at {H H' : MHeap} (K : KA H H') {i : Nat} {o : MObj} (h : H[i]? = some o) (hi : 60 < i) : H'[i]? = some o :=
  K.2 i o h (Nat.ne_of_gt (Nat.lt_trans (by decide) hi)) (Nat.ne_of_gt (Nat.lt_trans (by decide) hi)) (Nat.ne_of_gt (Nat.lt_trans (by decide) hi)) (Nat.ne_of_gt hi)
theorem KA.refl (H : MHeap) : KA H H := (Keep.refl H).ka
theorem KA.trans {A B C : MHeap} (x : KA A B) (y : KA B C) : KA A C := ⟨Nat.le_trans x.1 y.1, fun i o h a b c d => y.2 i o (x.2 i o h a b c d) a b c d⟩
theorem KA.des {H H' : MHeap} (K : KA H H') {i m : Nat} (D : Des H i m) : Des H' i m := by
  induction D with
  | base h hi ho => exact .base (K.2 _ _ h (by omega) (by omega) (by omega) (by omega)) hi ho
  | step h hi ho hk hki hr _ ih => exact .step (K.2 _ _ h (by omega) (by omega) (by omega) (by omega)) hi ho (K.2 _ _ hk (by omega) (by omega) (by omega) (by omega)) hki hr ih
theorem KA.cst {H H' : MHeap} (K : KA H H') (c : Cst H) : Cst H' :=
  ⟨K.2 _ _ c.c17 (by decide) (by decide) (by decide) (by decide), K.2 _ _ c.c33 (by decide) (by decide) (by decide) (by decide), K.2 _ _ c.c38 (by decide) (by decide) (by decide) (by decide), K.2 _ _ c.c43 (by decide) (by decide) (by decide) (by decide), K.2 _ _ c.c47 (by decide) (by decide) (by decide) (by decide),
   K.2 _ _ c.c51 (by decide) (by decide) (by decide) (by decide), K.2 _ _ c.c52 (by decide) (by decide) (by decide) (by decide), K.2 _ _ c.c53 (by decide) (by decide) (by decide) (by decide), K.2 _ _ c.c56 (by decide) (by decide) (by decide) (by decide)⟩
theorem KA.cs2 {H H' : MHeap} (K : KA H H') (c : Cs2 H) : Cs2 H' :=
  ⟨K.2 _ _ c.c62 (by decide) (by decide) (by decide) (by decide), K.2 _ _ c.c66 (by decide) (by decide) (by decide) (by decide), K.2 _ _ c.c95 (by decide) (by decide) (by decide) (by decide), K.2 _ _ c.c96 (by decide) (by decide) (by decide) (by decide), K.2 _ _ c.c98 (by decide) (by decide) (by decide) (by decide), by
    obtain ⟨a, b, c', d, e, f, g, h, q⟩ := c.c3
    exact ⟨a, b, c', d, e, f, g, h, K.2 _ _ q (by decide) (by decide) (by decide) (by decide)⟩⟩
theorem St.km {l : List Nat} {H H' : MHeap} {n p t : Nat} {k : List Nat} {v : MVal} {q : Nat} (S : St l H n p t k v q) (K : KM H H') : St l H' n p t k v q :=
  ⟨K.2 _ _ S.rd (by decide) (by decide), K.2 _ _ S.sc (by decide) (by decide), K.2 _ _ S.wo (by decide) (by decide), K.2 _ _ S.tk (by have := S.lo; omega) (by have := S.lo; omega), S.lo⟩

/-- the marked rows -/
structure Er (H : MHeap) (N : Nat) (xs : List MVal) : Prop where
  r : H[57]? = some (.list xs)
  lx : xs.length ≤ N
  p : ∃ es, H[58]? = some (.dict es) ∧ allInt es = true ∧ es.length ≤ N ∧ (xs = [] → es = [])
theorem Er.keep {H H' : MHeap} {N : Nat} {xs : List MVal} (K : Keep H H') (e : Er H N xs) : Er H' N xs := by
  obtain ⟨es, a, b⟩ := e.p
  exact ⟨K.2 _ _ e.r (by decide) (by decide), e.lx, es, K.2 _ _ a (by decide) (by decide), b⟩

theorem dput_len (k v : MVal) : ∀ es : List (MVal × MVal), (dput k v es).length ≤ es.length + 1
  | [] => Nat.le_refl _
  | (y, u) :: r => by
    have := dput_len k v r
    unfold dput
    split
    · simp
    · simpa using this
theorem dput_int (i : Int) (v : MVal) : ∀ es : List (MVal × MVal), allInt es = true → allInt (dput (.int i) v es) = true
  | [], _ => rfl
  | (y, u) :: r, h => by
    unfold allInt at h
    rw [List.all_cons, Bool.and_eq_true] at h
    unfold dput
    split
    · unfold allInt
      rw [List.all_cons, Bool.and_eq_true]
      exact h
    · unfold allInt
      rw [List.all_cons, Bool.and_eq_true]
      exact ⟨h.1, dput_int i v r h.2⟩

section
variable {W d : Nat}
theorem mark_ {H : MHeap} {N : Nat} {xs : List MVal} (h56 : H[56]? = some (.inst 179 [(245250163, .ref 57), (4013321402097, .ref 58)])) (e : Er H N xs) (hN : N < 900) (hlen : 60 < H.length) (pl : Nat) (code : List Nat) :
    ∃ H' ys, callF tb W (d + 1) 162 [.ref 56, .int pl, .str code] H = some (.none, H') ∧ KM H H' ∧ Er H' (N + 1) (xs ++ ys) ∧ (xs = [] → ∃ r, ys = [.ref r] ∧ 60 < r ∧ H'[r]? = some (.tup [.int pl, .str code])) := by
  obtain ⟨es, hp, ok, le, h0⟩ := e.p
  have a1 : getA tb (.ref 56) 4013321402097 H = some (.ref 58) := getA_inst (c := 179) h56 rfl rfl
  have i1 : cmpop .ni (.int pl) (.ref 58) H = some (!(dlk (.int pl) es).isSome) := mpd (inRefDict hp ok rfl)
  cases hs : (dlk (.int pl) es).isSome with
  | true =>
    rw [hs] at i1
    refine ⟨H, [], ?_, ⟨Nat.le_refl _, fun _ _ h _ _ => h⟩, ⟨by rw [List.append_nil]; exact e.r, by rw [List.append_nil]; have := e.lx; omega, es, hp, ok, by omega, by rw [List.append_nil]; exact h0⟩, ?_⟩
    · apply callF_go2 (ρ := [(217805684, .ref 56), (27591751409, .int pl), (215578724, .str code)]) (o := .next) rfl rfl rfl
      (have zz0 := a1; have zz1 := i1; (repeat' (first|with_reducible (first|assumption|exact xNil|apply xCons|apply nxN|exact nxR|exact nxB|exact nxC|apply eLoc|apply eAttr|apply eMeth|apply mcFn|exact eInt|exact eStr|exact esNil|apply esCons|apply eGlob|apply eCall|apply cvFn|apply xExpr|apply xRet|apply xSetL|apply xIte|apply xSetA|apply xSetI|apply xUnp|apply xAugA|exact xBrk|exact xCont|apply xWhl|apply lwStep|apply gtT|exact gtF|apply gwN|exact gwR|apply ifT|apply ifF|apply tAnd|apply tOr|apply tNot|exact alNil|apply alCons|exact ayNil|apply ayCons|apply tPlain|apply eCmp|apply eBin|apply eIdx|apply eSlc|apply eBi|exact eNone|exact eBool|apply eInT|apply eIsN|apply eEqNil|apply eNot|apply eIte|apply eList|apply eTup|apply eCel|exact eNeg|exact eDict0|apply eAnd|apply eOr|apply anOne|apply anTwo|apply orOne|apply orTwo|exact bAdd|exact bSub|apply cEqS|apply cNeS|apply cEqI|apply cNeI|apply cLt|apply cLe|apply cGt|apply cGe|apply cLtS|apply cLeS|apply cInS)|((with_reducible apply lkHit); exact Eq.refl true)|((with_reducible apply lkHere); exact Eq.refl true)|((with_reducible apply lkMiss); exact Eq.refl false)|((with_reducible apply lkNext); exact Eq.refl false)|with_reducible apply xForS|((with_reducible apply lfE); (with_reducible assumption))|((with_reducible apply lfN); (with_reducible assumption))|((with_reducible apply setAt_last) <;> exact Eq.refl true)|exact Eq.refl true|exact Eq.refl false|exact xNil|with_reducible exact nxR|(apply xCons)|(apply xSetL)|(apply xExpr)|(apply xIte)|(apply xRet)|(apply xSetA)|exact rfl)))
    · intro hx
      rw [h0 hx] at hs
      cases hs
  | false =>
    rw [hs] at i1
    have st : storeI (.ref 58) (.int pl) (.str code) H = some (H.set 58 (.dict (dput (.int pl) (.str code) es))) := by
      have o1 : okKey (.int pl) es = true := ok
      have o2 : es.length < 1000 := by omega
      unfold storeI
      simp only [hp]
      simp only [o1, o2, and_self, if_true]
    have g56 : (H.set 58 (.dict (dput (.int pl) (.str code) es)))[56]? = some (.inst 179 [(245250163, .ref 57), (4013321402097, .ref 58)]) := by rw [List.getElem?_set_ne (by decide)]; exact h56
    have g57 : (H.set 58 (.dict (dput (.int pl) (.str code) es)))[57]? = some (.list xs) := by rw [List.getElem?_set_ne (by decide)]; exact e.r
    have g58 := get_set hp (.dict (dput (.int pl) (.str code) es))
    have hl1 : (H.set 58 (.dict (dput (.int pl) (.str code) es))).length = H.length := List.length_set
    have KB : ∀ i o, H[i]? = some o → i ≠ 57 → i ≠ 58 → (H.set 58 (.dict (dput (.int pl) (.str code) es)))[i]? = some o := fun i o h _ b => by rw [List.getElem?_set_ne (Ne.symm b)]; exact h
    generalize hB : H.set 58 (.dict (dput (.int pl) (.str code) es)) = B at st g56 g57 g58 hl1 KB
    have a2 : getA tb (.ref 56) 245250163 B = some (.ref 57) := getA_inst (c := 179) g56 rfl rfl
    have ma : methOf tb (.ref 57) 3500345686242 B = some (.app 57) := by
      unfold methOf; simp only [g57]; rfl
    have g57' : (B ++ [MObj.tup [.int pl, .str code]])[57]? = some (.list xs) := by rw [List.getElem?_append_left (by omega)]; exact g57
    have mc : methCall (callF tb W d) (.app 57) [.ref B.length] (B ++ [MObj.tup [.int pl, .str code]]) = some (.none, (B ++ [MObj.tup [.int pl, .str code]]).set 57 (.list (xs ++ [.ref B.length]))) := by
      unfold methCall
      have : xs.length < szLine := by have := e.lx; rw [show szLine = 1048576 from by decide]; omega
      simp only [g57', this, if_true]
    refine ⟨(B ++ [MObj.tup [.int pl, .str code]]).set 57 (.list (xs ++ [.ref B.length])), [.ref B.length], ?_, ⟨?_, ?_⟩, ⟨get_set g57' _, ?_, dput (.int pl) (.str code) es, ?_, dput_int _ _ _ ok, Nat.le_trans (dput_len _ _ _) (by omega), ?_⟩, ?_⟩
    · apply callF_go2 (ρ := [(217805684, .ref 56), (27591751409, .int pl), (215578724, .str code)]) (o := .next) rfl rfl rfl
      (have zz0 := a1; have zz1 := i1; have zz2 := st; have zz3 := a2; have zz4 := ma; have zz5 := mc; (repeat' (first|with_reducible (first|assumption|exact xNil|apply xCons|apply nxN|exact nxR|exact nxB|exact nxC|apply eLoc|apply eAttr|apply eMeth|apply mcFn|exact eInt|exact eStr|exact esNil|apply esCons|apply eGlob|apply eCall|apply cvFn|apply xExpr|apply xRet|apply xSetL|apply xIte|apply xSetA|apply xSetI|apply xUnp|apply xAugA|exact xBrk|exact xCont|apply xWhl|apply lwStep|apply gtT|exact gtF|apply gwN|exact gwR|apply ifT|apply ifF|apply tAnd|apply tOr|apply tNot|exact alNil|apply alCons|exact ayNil|apply ayCons|apply tPlain|apply eCmp|apply eBin|apply eIdx|apply eSlc|apply eBi|exact eNone|exact eBool|apply eInT|apply eIsN|apply eEqNil|apply eNot|apply eIte|apply eList|apply eTup|apply eCel|exact eNeg|exact eDict0|apply eAnd|apply eOr|apply anOne|apply anTwo|apply orOne|apply orTwo|exact bAdd|exact bSub|apply cEqS|apply cNeS|apply cEqI|apply cNeI|apply cLt|apply cLe|apply cGt|apply cGe|apply cLtS|apply cLeS|apply cInS)|((with_reducible apply lkHit); exact Eq.refl true)|((with_reducible apply lkHere); exact Eq.refl true)|((with_reducible apply lkMiss); exact Eq.refl false)|((with_reducible apply lkNext); exact Eq.refl false)|with_reducible apply xForS|((with_reducible apply lfE); (with_reducible assumption))|((with_reducible apply lfN); (with_reducible assumption))|((with_reducible apply setAt_last) <;> exact Eq.refl true)|exact Eq.refl true|exact Eq.refl false|exact xNil|with_reducible exact nxR|(apply xCons)|(apply xSetL)|(apply xExpr)|(apply xIte)|(apply xRet)|(apply xSetA)|exact rfl)))
    · rw [List.length_set, List.length_append, hl1]; omega
    · intro i o h x y
      rw [List.getElem?_set_ne (by omega), List.getElem?_append_left (by rw [hl1]; exact get_lt h)]; exact KB i o h x y
    · rw [List.length_append]; have := e.lx; simp; omega
    · rw [List.getElem?_set_ne (by decide), List.getElem?_append_left (by omega)]; exact g58
    · intro h; simp at h
    · intro _
      refine ⟨B.length, rfl, by omega, ?_⟩
      rw [List.getElem?_set_ne (by omega)]; exact get_last _ _
end


end
section
set_option maxRecDepth 10000

/-- n tokens ahead of the end -/
inductive Tk (l : List Nat) : Nat → Nat → Prop
  | eof {p : Nat} : Nx l p [101, 111, 102] (.str []) p p → Tk l p 0
  | cons {p p' q N : Nat} {k : List Nat} {v : MVal} : Nx l p k v q p' → (k == [101, 111, 102]) = false → Tk l p' N → Tk l p (N + 1)

section
variable {l : List Nat} {H : MHeap} {n p t : Nat} {k : List Nat} {v : MVal} {q : Nat} {W d : Nat}

theorem ni_nil {H : MHeap} {a : Nat} (h : H[a]? = some (.tup [])) (k : List Nat) : cmpop .ni (.str k) (.ref a) H = some true := mpd (inRefTup (ls := []) h rfl rfl)

theorem skip_loop {a N : Nat} (T : Tk l p N) (ha : 60 < a) : ∀ (H : MHeap) (t : Nat) (k : List Nat) (v : MVal) (q : Nat), St l H n p t k v q → (k == [101, 111, 102]) = false → H[a]? = some (.tup []) → ∀ w, N + 2 ≤ w → ∃ H' p' t' q', loopW (fun ρ H => evT tb (callF tb (W + 2) (d + 5)) ρ (.and (.cons (.cmp .ni (.attr (.attr (.loc 217805684) 30012029045) 213644652) (.loc 31352157548)) (.cons (.cmp .ne (.attr (.attr (.loc 217805684) 30012029045) 213644652) (.str [101, 111, 102])) .nil))) H)
    (fun ρ H => exSs tb (callF tb (W + 2) (d + 5)) (W + 2) (.cons (.expr (.meth (.loc 217805684) 238664436 .nil)) .nil) ρ H) w [(217805684, .ref 59), (31352157548, .ref a)] H = some (.next, [(217805684, .ref 59), (31352157548, .ref a)], H') ∧ St l H' n p' t' [101, 111, 102] (.str []) q' ∧ Keep H H' ∧ Nx l p' [101, 111, 102] (.str []) p' p' := by
  induction T with
  | @eof p N =>
    intro H t k v q S hk h w hw
    obtain ⟨w, rfl⟩ : ∃ w', w = w' + 1 + 1 := ⟨w - 2, by omega⟩
    have e := step_ (W := W) (d := d) S N
    have S1 := step_st S (k' := [101, 111, 102]) (v' := .str []) (q' := p) (p' := p)
    have K1 := step_keep (H := H) (l := l) (n := n) (k' := [101, 111, 102]) (v' := .str []) (q' := p) (p' := p)
    refine ⟨stepH H l n p [101, 111, 102] (.str []) p, _, _, _, ?_, S1, K1, N⟩
    have m1 : methOf tb (.ref 59) 238664436 H = some (.fn 557 (.ref 59)) := S.meth rfl rfl
    rw [loopW_next (ρ2 := [(217805684, .ref 59), (31352157548, .ref a)]) (H1 := H) (H2 := stepH H l n p [101, 111, 102] (.str []) p) ?_ ?_, loopW_stop (H1 := stepH H l n p [101, 111, 102] (.str []) p) ?_]
    · have h' := K1.at h ha
      have q0 : (([101, 111, 102] : List Nat) == [101, 111, 102]) = true := rfl
      (have zz0 := S1.token; have zz1 := S1.kind; have zz2 := ni_nil h' [101, 111, 102]; have zz3 := q0; (repeat' (first|with_reducible (first|assumption|exact xNil|apply xCons|apply nxN|exact nxR|exact nxB|exact nxC|apply eLoc|apply eAttr|apply eMeth|apply mcFn|exact eInt|exact eStr|exact esNil|apply esCons|apply eGlob|apply eCall|apply cvFn|apply xExpr|apply xRet|apply xSetL|apply xIte|apply xSetA|apply xSetI|apply xUnp|apply xAugA|exact xBrk|exact xCont|apply xWhl|apply lwStep|apply gtT|exact gtF|apply gwN|exact gwR|apply ifT|apply ifF|apply tAnd|apply tOr|apply tNot|exact alNil|apply alCons|exact ayNil|apply ayCons|apply tPlain|apply eCmp|apply eBin|apply eIdx|apply eSlc|apply eBi|exact eNone|exact eBool|apply eInT|apply eIsN|apply eEqNil|apply eNot|apply eIte|apply eList|apply eTup|apply eCel|exact eNeg|exact eDict0|apply eAnd|apply eOr|apply anOne|apply anTwo|apply orOne|apply orTwo|exact bAdd|exact bSub|apply cEqS|apply cNeS|apply cEqI|apply cNeI|apply cLt|apply cLe|apply cGt|apply cGe|apply cLtS|apply cLeS|apply cInS)|((with_reducible apply lkHit); exact Eq.refl true)|((with_reducible apply lkHere); exact Eq.refl true)|((with_reducible apply lkMiss); exact Eq.refl false)|((with_reducible apply lkNext); exact Eq.refl false)|with_reducible apply xForS|((with_reducible apply lfE); (with_reducible assumption))|((with_reducible apply lfN); (with_reducible assumption))|((with_reducible apply setAt_last) <;> exact Eq.refl true)|exact Eq.refl true|exact Eq.refl false|exact xNil|with_reducible exact nxR|(apply xCons)|(apply xSetL)|(apply xExpr)|(apply xIte)|(apply xRet)|(apply xSetA)|exact rfl)))
    · (have zz0 := S.token; have zz1 := S.kind; have zz2 := ni_nil h k; have zz3 := hk; (repeat' (first|with_reducible (first|assumption|exact xNil|apply xCons|apply nxN|exact nxR|exact nxB|exact nxC|apply eLoc|apply eAttr|apply eMeth|apply mcFn|exact eInt|exact eStr|exact esNil|apply esCons|apply eGlob|apply eCall|apply cvFn|apply xExpr|apply xRet|apply xSetL|apply xIte|apply xSetA|apply xSetI|apply xUnp|apply xAugA|exact xBrk|exact xCont|apply xWhl|apply lwStep|apply gtT|exact gtF|apply gwN|exact gwR|apply ifT|apply ifF|apply tAnd|apply tOr|apply tNot|exact alNil|apply alCons|exact ayNil|apply ayCons|apply tPlain|apply eCmp|apply eBin|apply eIdx|apply eSlc|apply eBi|exact eNone|exact eBool|apply eInT|apply eIsN|apply eEqNil|apply eNot|apply eIte|apply eList|apply eTup|apply eCel|exact eNeg|exact eDict0|apply eAnd|apply eOr|apply anOne|apply anTwo|apply orOne|apply orTwo|exact bAdd|exact bSub|apply cEqS|apply cNeS|apply cEqI|apply cNeI|apply cLt|apply cLe|apply cGt|apply cGe|apply cLtS|apply cLeS|apply cInS)|((with_reducible apply lkHit); exact Eq.refl true)|((with_reducible apply lkHere); exact Eq.refl true)|((with_reducible apply lkMiss); exact Eq.refl false)|((with_reducible apply lkNext); exact Eq.refl false)|with_reducible apply xForS|((with_reducible apply lfE); (with_reducible assumption))|((with_reducible apply lfN); (with_reducible assumption))|((with_reducible apply setAt_last) <;> exact Eq.refl true)|exact Eq.refl true|exact Eq.refl false|exact xNil|with_reducible exact nxR|(apply xCons)|(apply xSetL)|(apply xExpr)|(apply xIte)|(apply xRet)|(apply xSetA)|exact rfl)))
    · (have zz0 := m1; have zz1 := e; (repeat' (first|with_reducible (first|assumption|exact xNil|apply xCons|apply nxN|exact nxR|exact nxB|exact nxC|apply eLoc|apply eAttr|apply eMeth|apply mcFn|exact eInt|exact eStr|exact esNil|apply esCons|apply eGlob|apply eCall|apply cvFn|apply xExpr|apply xRet|apply xSetL|apply xIte|apply xSetA|apply xSetI|apply xUnp|apply xAugA|exact xBrk|exact xCont|apply xWhl|apply lwStep|apply gtT|exact gtF|apply gwN|exact gwR|apply ifT|apply ifF|apply tAnd|apply tOr|apply tNot|exact alNil|apply alCons|exact ayNil|apply ayCons|apply tPlain|apply eCmp|apply eBin|apply eIdx|apply eSlc|apply eBi|exact eNone|exact eBool|apply eInT|apply eIsN|apply eEqNil|apply eNot|apply eIte|apply eList|apply eTup|apply eCel|exact eNeg|exact eDict0|apply eAnd|apply eOr|apply anOne|apply anTwo|apply orOne|apply orTwo|exact bAdd|exact bSub|apply cEqS|apply cNeS|apply cEqI|apply cNeI|apply cLt|apply cLe|apply cGt|apply cGe|apply cLtS|apply cLeS|apply cInS)|((with_reducible apply lkHit); exact Eq.refl true)|((with_reducible apply lkHere); exact Eq.refl true)|((with_reducible apply lkMiss); exact Eq.refl false)|((with_reducible apply lkNext); exact Eq.refl false)|with_reducible apply xForS|((with_reducible apply lfE); (with_reducible assumption))|((with_reducible apply lfN); (with_reducible assumption))|((with_reducible apply setAt_last) <;> exact Eq.refl true)|exact Eq.refl true|exact Eq.refl false|exact xNil|with_reducible exact nxR|(apply xCons)|(apply xSetL)|(apply xExpr)|(apply xIte)|(apply xRet)|(apply xSetA)|exact rfl)))
  | @cons p p' q' N k' v' Nn hk' T ih =>
    intro H t k v q S hk h w hw
    obtain ⟨w, rfl⟩ : ∃ w', w = w' + 1 := ⟨w - 1, by omega⟩
    have e := step_ (W := W) (d := d) S Nn
    have S1 := step_st S (k' := k') (v' := v') (q' := q') (p' := p')
    have K1 := step_keep (H := H) (l := l) (n := n) (k' := k') (v' := v') (q' := q') (p' := p')
    have h' := K1.at h ha
    obtain ⟨H', p2, t2, q2, e2, S2, K2, N2⟩ := ih _ _ _ _ _ S1 hk' h' w (by omega)
    refine ⟨H', p2, t2, q2, ?_, S2, K1.trans K2, N2⟩
    have m1 : methOf tb (.ref 59) 238664436 H = some (.fn 557 (.ref 59)) := S.meth rfl rfl
    rw [loopW_next (ρ2 := [(217805684, .ref 59), (31352157548, .ref a)]) (H1 := H) (H2 := stepH H l n p' k' v' q') ?_ ?_]
    · exact e2
    · (have zz0 := S.token; have zz1 := S.kind; have zz2 := ni_nil h k; have zz3 := hk; (repeat' (first|with_reducible (first|assumption|exact xNil|apply xCons|apply nxN|exact nxR|exact nxB|exact nxC|apply eLoc|apply eAttr|apply eMeth|apply mcFn|exact eInt|exact eStr|exact esNil|apply esCons|apply eGlob|apply eCall|apply cvFn|apply xExpr|apply xRet|apply xSetL|apply xIte|apply xSetA|apply xSetI|apply xUnp|apply xAugA|exact xBrk|exact xCont|apply xWhl|apply lwStep|apply gtT|exact gtF|apply gwN|exact gwR|apply ifT|apply ifF|apply tAnd|apply tOr|apply tNot|exact alNil|apply alCons|exact ayNil|apply ayCons|apply tPlain|apply eCmp|apply eBin|apply eIdx|apply eSlc|apply eBi|exact eNone|exact eBool|apply eInT|apply eIsN|apply eEqNil|apply eNot|apply eIte|apply eList|apply eTup|apply eCel|exact eNeg|exact eDict0|apply eAnd|apply eOr|apply anOne|apply anTwo|apply orOne|apply orTwo|exact bAdd|exact bSub|apply cEqS|apply cNeS|apply cEqI|apply cNeI|apply cLt|apply cLe|apply cGt|apply cGe|apply cLtS|apply cLeS|apply cInS)|((with_reducible apply lkHit); exact Eq.refl true)|((with_reducible apply lkHere); exact Eq.refl true)|((with_reducible apply lkMiss); exact Eq.refl false)|((with_reducible apply lkNext); exact Eq.refl false)|with_reducible apply xForS|((with_reducible apply lfE); (with_reducible assumption))|((with_reducible apply lfN); (with_reducible assumption))|((with_reducible apply setAt_last) <;> exact Eq.refl true)|exact Eq.refl true|exact Eq.refl false|exact xNil|with_reducible exact nxR|(apply xCons)|(apply xSetL)|(apply xExpr)|(apply xIte)|(apply xRet)|(apply xSetA)|exact rfl)))
    · (have zz0 := m1; have zz1 := e; (repeat' (first|with_reducible (first|assumption|exact xNil|apply xCons|apply nxN|exact nxR|exact nxB|exact nxC|apply eLoc|apply eAttr|apply eMeth|apply mcFn|exact eInt|exact eStr|exact esNil|apply esCons|apply eGlob|apply eCall|apply cvFn|apply xExpr|apply xRet|apply xSetL|apply xIte|apply xSetA|apply xSetI|apply xUnp|apply xAugA|exact xBrk|exact xCont|apply xWhl|apply lwStep|apply gtT|exact gtF|apply gwN|exact gwR|apply ifT|apply ifF|apply tAnd|apply tOr|apply tNot|exact alNil|apply alCons|exact ayNil|apply ayCons|apply tPlain|apply eCmp|apply eBin|apply eIdx|apply eSlc|apply eBi|exact eNone|exact eBool|apply eInT|apply eIsN|apply eEqNil|apply eNot|apply eIte|apply eList|apply eTup|apply eCel|exact eNeg|exact eDict0|apply eAnd|apply eOr|apply anOne|apply anTwo|apply orOne|apply orTwo|exact bAdd|exact bSub|apply cEqS|apply cNeS|apply cEqI|apply cNeI|apply cLt|apply cLe|apply cGt|apply cGe|apply cLtS|apply cLeS|apply cInS)|((with_reducible apply lkHit); exact Eq.refl true)|((with_reducible apply lkHere); exact Eq.refl true)|((with_reducible apply lkMiss); exact Eq.refl false)|((with_reducible apply lkNext); exact Eq.refl false)|with_reducible apply xForS|((with_reducible apply lfE); (with_reducible assumption))|((with_reducible apply lfN); (with_reducible assumption))|((with_reducible apply setAt_last) <;> exact Eq.refl true)|exact Eq.refl true|exact Eq.refl false|exact xNil|with_reducible exact nxR|(apply xCons)|(apply xSetL)|(apply xExpr)|(apply xIte)|(apply xRet)|(apply xSetA)|exact rfl)))

theorem skip_to_ (S : St l H n p t k v q) {a N : Nat} (T : Tk l p N) (ha : 60 < a) (hk : (k == [101, 111, 102]) = false) (h : H[a]? = some (.tup [])) (hW : N ≤ W) :
    ∃ H' p' t' q', callF tb (W + 2) (d + 6) 627 [.ref 59, .ref a] H = some (.none, H') ∧ St l H' n p' t' [101, 111, 102] (.str []) q' ∧ Keep H H' ∧ Nx l p' [101, 111, 102] (.str []) p' p' := by
  obtain ⟨H', p', t', q', e, S1, K, N1⟩ := skip_loop (W := W) (d := d) T ha H t k v q S hk h (W + 2) (by omega)
  refine ⟨H', p', t', q', ?_, S1, K, N1⟩
  apply callF_go2 (ρ := [(217805684, .ref 59), (31352157548, .ref a)]) (o := .next) rfl rfl rfl
  unfold b627
  rw [whl_next e]
  rfl

/-- the reader's mark -/
theorem rd_mark (S : St l H n p t k v q) {N : Nat} {xs : List MVal} (c : Cst H) (e : Er H N xs) (hN : N < 900) (code : List Nat) :
    ∃ H' ys, callF tb W (d + 2) 585 [.ref 59, .str code] H = some (.none, H') ∧ St l H' n p t k v q ∧ KA H H' ∧ Er H' (N + 1) (xs ++ ys) ∧ (xs = [] → ∃ r, ys = [.ref r] ∧ 60 < r ∧ H'[r]? = some (.tup [.int q, .str code])) := by
  obtain ⟨H', ys, e1, K, E1, f⟩ := mark_ (W := W) (d := d) c.c56 e hN (get_lt S.sc) q code
  refine ⟨H', ys, ?_, S.km K, K.ka, E1, f⟩
  have m1 : methOf tb (.ref 56) 228389230 H = some (.fn 162 (.ref 56)) := meth_inst (c := 179) c.c56 rfl rfl
  apply callF_go2 (ρ := [(217805684, .ref 59), (215578724, .str code)]) (o := .next) rfl rfl rfl
  (have zz0 := S.errors; have zz1 := S.token; have zz2 := S.place; have zz3 := m1; have zz4 := e1; (repeat' (first|with_reducible (first|assumption|exact xNil|apply xCons|apply nxN|exact nxR|exact nxB|exact nxC|apply eLoc|apply eAttr|apply eMeth|apply mcFn|exact eInt|exact eStr|exact esNil|apply esCons|apply eGlob|apply eCall|apply cvFn|apply xExpr|apply xRet|apply xSetL|apply xIte|apply xSetA|apply xSetI|apply xUnp|apply xAugA|exact xBrk|exact xCont|apply xWhl|apply lwStep|apply gtT|exact gtF|apply gwN|exact gwR|apply ifT|apply ifF|apply tAnd|apply tOr|apply tNot|exact alNil|apply alCons|exact ayNil|apply ayCons|apply tPlain|apply eCmp|apply eBin|apply eIdx|apply eSlc|apply eBi|exact eNone|exact eBool|apply eInT|apply eIsN|apply eEqNil|apply eNot|apply eIte|apply eList|apply eTup|apply eCel|exact eNeg|exact eDict0|apply eAnd|apply eOr|apply anOne|apply anTwo|apply orOne|apply orTwo|exact bAdd|exact bSub|apply cEqS|apply cNeS|apply cEqI|apply cNeI|apply cLt|apply cLe|apply cGt|apply cGe|apply cLtS|apply cLeS|apply cInS)|((with_reducible apply lkHit); exact Eq.refl true)|((with_reducible apply lkHere); exact Eq.refl true)|((with_reducible apply lkMiss); exact Eq.refl false)|((with_reducible apply lkNext); exact Eq.refl false)|with_reducible apply xForS|((with_reducible apply lfE); (with_reducible assumption))|((with_reducible apply lfN); (with_reducible assumption))|((with_reducible apply setAt_last) <;> exact Eq.refl true)|exact Eq.refl true|exact Eq.refl false|exact xNil|with_reducible exact nxR|(apply xCons)|(apply xSetL)|(apply xExpr)|(apply xIte)|(apply xRet)|(apply xSetA)|exact rfl)))

theorem give_up_ (S : St l H n p t k v q) {N : Nat} (c : Cst H) (e : Er H 0 []) (T : Tk l p N) (hk : (k == [101, 111, 102]) = false) (hW : N ≤ W) :
    ∃ H' p' t' q' r, callF tb (W + 2) (d + 7) 599 [.ref 59] H = some (.none, H') ∧ St l H' n p' t' [101, 111, 102] (.str []) q' ∧ KA H H' ∧ Nx l p' [101, 111, 102] (.str []) p' p' ∧ Er H' 1 [.ref r] ∧ 60 < r ∧ H'[r]? = some (.tup [.int q, .str [116, 111, 111, 95, 100, 101, 101, 112]]) := by
  obtain ⟨A, ys, e1, S1, K1, E1, f⟩ := rd_mark (W := W + 2) (d := d + 4) S c e (by omega) [116, 111, 111, 95, 100, 101, 101, 112]
  obtain ⟨r, rfl, hr, h1⟩ := f rfl
  have Al : 60 < A.length := get_lt S1.sc
  obtain ⟨H', p', t', q', e2, S2, K2, N2⟩ := skip_to_ (W := W) (d := d) (S1.app [MObj.tup []]) T Al hk (get_last _ _) hW
  refine ⟨H', p', t', q', r, ?_, S2, (K1.trans (Keep.app _ _).ka).trans K2.ka, N2, (E1.keep (Keep.app _ _)).keep K2, hr, ?_⟩
  · have m1 : methOf tb (.ref 59) 228389230 H = some (.fn 585 (.ref 59)) := S.meth rfl rfl
    have m2 : methOf tb (.ref 59) 496627307165300 A = some (.fn 627 (.ref 59)) := S1.meth rfl rfl
    apply callF_go2 (ρ := [(217805684, .ref 59)]) (o := .next) rfl rfl rfl
    (have zz0 := m1; have zz1 := e1; have zz2 := m2; have zz3 := e2; (repeat' (first|with_reducible (first|assumption|exact xNil|apply xCons|apply nxN|exact nxR|exact nxB|exact nxC|apply eLoc|apply eAttr|apply eMeth|apply mcFn|exact eInt|exact eStr|exact esNil|apply esCons|apply eGlob|apply eCall|apply cvFn|apply xExpr|apply xRet|apply xSetL|apply xIte|apply xSetA|apply xSetI|apply xUnp|apply xAugA|exact xBrk|exact xCont|apply xWhl|apply lwStep|apply gtT|exact gtF|apply gwN|exact gwR|apply ifT|apply ifF|apply tAnd|apply tOr|apply tNot|exact alNil|apply alCons|exact ayNil|apply ayCons|apply tPlain|apply eCmp|apply eBin|apply eIdx|apply eSlc|apply eBi|exact eNone|exact eBool|apply eInT|apply eIsN|apply eEqNil|apply eNot|apply eIte|apply eList|apply eTup|apply eCel|exact eNeg|exact eDict0|apply eAnd|apply eOr|apply anOne|apply anTwo|apply orOne|apply orTwo|exact bAdd|exact bSub|apply cEqS|apply cNeS|apply cEqI|apply cNeI|apply cLt|apply cLe|apply cGt|apply cGe|apply cLtS|apply cLeS|apply cInS)|((with_reducible apply lkHit); exact Eq.refl true)|((with_reducible apply lkHere); exact Eq.refl true)|((with_reducible apply lkMiss); exact Eq.refl false)|((with_reducible apply lkNext); exact Eq.refl false)|with_reducible apply xForS|((with_reducible apply lfE); (with_reducible assumption))|((with_reducible apply lfN); (with_reducible assumption))|((with_reducible apply setAt_last) <;> exact Eq.refl true)|exact Eq.refl true|exact Eq.refl false|exact xNil|with_reducible exact nxR|(apply xCons)|(apply xSetL)|(apply xExpr)|(apply xIte)|(apply xRet)|(apply xSetA)|exact rfl)))
  · exact K2.2 _ _ ((Keep.app _ _).2 _ _ h1 (by omega) (by omega)) (by omega) (by omega)

/-- one part too many -/
theorem part_over (S : St l H 120 p t k v q) {N : Nat} (c : Cst H) (e : Er H 0 []) (T : Tk l p N) (hk : (k == [101, 111, 102]) = false) (hW : N ≤ W) :
    ∃ H' p' t' q' r, callF tb (W + 2) (d + 8) 620 [.ref 59] H = some (.none, H') ∧ St l H' 121 p' t' [101, 111, 102] (.str []) q' ∧ KA H H' ∧ Nx l p' [101, 111, 102] (.str []) p' p' ∧ Er H' 1 [.ref r] ∧ 60 < r ∧ H'[r]? = some (.tup [.int q, .str [116, 111, 111, 95, 100, 101, 101, 112]]) := by
  have S0 := part_st S
  have K0 := part_keep (H := H) (t := t) (n := 120)
  have st : setAt tb (.ref 59) 31385776497 (.int ((120 + 1 : Nat) : Int)) H = some (partH H t 120) := setAt_inst (c := 630) S.rd rfl rfl _
  have pp := S0.parts
  have sp := S.parts
  have e1 : ((120 + 1 : Nat) : Int) = 120 + 1 := by omega
  have e2 : ((120 : Nat) : Int) = 120 := by omega
  rw [e1] at st pp
  rw [e2] at sp
  have le : decide ((120 : Int) < 120 + 1) = true := rfl
  have m1 : methOf tb (.ref 59) 501059690558824 (partH H t 120) = some (.fn 599 (.ref 59)) := S0.meth rfl rfl
  obtain ⟨H', p', t', q', r, e3, S3, K3, N3, E3, hr, h3⟩ := give_up_ (W := W) (d := d) S0 (c.keep K0) (e.keep K0) T hk hW
  refine ⟨H', p', t', q', r, ?_, S3, K0.ka.trans K3, N3, E3, hr, h3⟩
  apply callF_go2 (ρ := [(217805684, .ref 59)]) (o := .next) rfl rfl rfl
  (have zz0 := sp; have zz1 := st; have zz2 := pp; have zz3 := le; have zz4 := m1; have zz5 := e3; (repeat' (first|with_reducible (first|assumption|exact xNil|apply xCons|apply nxN|exact nxR|exact nxB|exact nxC|apply eLoc|apply eAttr|apply eMeth|apply mcFn|exact eInt|exact eStr|exact esNil|apply esCons|apply eGlob|apply eCall|apply cvFn|apply xExpr|apply xRet|apply xSetL|apply xIte|apply xSetA|apply xSetI|apply xUnp|apply xAugA|exact xBrk|exact xCont|apply xWhl|apply lwStep|apply gtT|exact gtF|apply gwN|exact gwR|apply ifT|apply ifF|apply tAnd|apply tOr|apply tNot|exact alNil|apply alCons|exact ayNil|apply ayCons|apply tPlain|apply eCmp|apply eBin|apply eIdx|apply eSlc|apply eBi|exact eNone|exact eBool|apply eInT|apply eIsN|apply eEqNil|apply eNot|apply eIte|apply eList|apply eTup|apply eCel|exact eNeg|exact eDict0|apply eAnd|apply eOr|apply anOne|apply anTwo|apply orOne|apply orTwo|exact bAdd|exact bSub|apply cEqS|apply cNeS|apply cEqI|apply cNeI|apply cLt|apply cLe|apply cGt|apply cGe|apply cLtS|apply cLeS|apply cInS)|((with_reducible apply lkHit); exact Eq.refl true)|((with_reducible apply lkHere); exact Eq.refl true)|((with_reducible apply lkMiss); exact Eq.refl false)|((with_reducible apply lkNext); exact Eq.refl false)|with_reducible apply xForS|((with_reducible apply lfE); (with_reducible assumption))|((with_reducible apply lfN); (with_reducible assumption))|((with_reducible apply setAt_last) <;> exact Eq.refl true)|exact Eq.refl true|exact Eq.refl false|exact xNil|with_reducible exact nxR|(apply xCons)|(apply xSetL)|(apply xExpr)|(apply xIte)|(apply xRet)|(apply xSetA)|exact rfl)))

/-- no name -/
theorem name_no (S : St l H n p t k v q) {N : Nat} {xs : List MVal} (c : Cst H) (e : Er H N xs) (hN : N < 900) (hk : (k == [105, 100, 101, 110, 116]) = false) :
    ∃ H' ys, callF tb W (d + 3) 592 [.ref 59] H = some (.none, H') ∧ St l H' n p t k v q ∧ KA H H' ∧ Er H' (N + 1) (xs ++ ys) := by
  obtain ⟨H', ys, e1, S1, K1, E1, _⟩ := rd_mark (W := W) (d := d) S c e hN [101, 120, 112, 101, 99, 116, 101, 100, 32, 105, 100, 101, 110, 116, 105, 102, 105, 101, 114]
  have a := at_ (W := W) (d := d + 1) S [105, 100, 101, 110, 116]
  rw [hk] at a
  refine ⟨H', ys, ?_, S1, K1, E1⟩
  have m1 : methOf tb (.ref 59) 15074 H = some (.fn 564 (.ref 59)) := S.meth rfl rfl
  have m2 : methOf tb (.ref 59) 228389230 H = some (.fn 585 (.ref 59)) := S.meth rfl rfl
  apply callF_go2 (ρ := [(217805684, .ref 59)]) (o := .ret .none) rfl rfl rfl
  (have zz0 := m1; have zz1 := m2; have zz2 := a; have zz3 := e1; (repeat' (first|with_reducible (first|assumption|exact xNil|apply xCons|apply nxN|exact nxR|exact nxB|exact nxC|apply eLoc|apply eAttr|apply eMeth|apply mcFn|exact eInt|exact eStr|exact esNil|apply esCons|apply eGlob|apply eCall|apply cvFn|apply xExpr|apply xRet|apply xSetL|apply xIte|apply xSetA|apply xSetI|apply xUnp|apply xAugA|exact xBrk|exact xCont|apply xWhl|apply lwStep|apply gtT|exact gtF|apply gwN|exact gwR|apply ifT|apply ifF|apply tAnd|apply tOr|apply tNot|exact alNil|apply alCons|exact ayNil|apply ayCons|apply tPlain|apply eCmp|apply eBin|apply eIdx|apply eSlc|apply eBi|exact eNone|exact eBool|apply eInT|apply eIsN|apply eEqNil|apply eNot|apply eIte|apply eList|apply eTup|apply eCel|exact eNeg|exact eDict0|apply eAnd|apply eOr|apply anOne|apply anTwo|apply orOne|apply orTwo|exact bAdd|exact bSub|apply cEqS|apply cNeS|apply cEqI|apply cNeI|apply cLt|apply cLe|apply cGt|apply cGe|apply cLtS|apply cLeS|apply cInS)|((with_reducible apply lkHit); exact Eq.refl true)|((with_reducible apply lkHere); exact Eq.refl true)|((with_reducible apply lkMiss); exact Eq.refl false)|((with_reducible apply lkNext); exact Eq.refl false)|with_reducible apply xForS|((with_reducible apply lfE); (with_reducible assumption))|((with_reducible apply lfN); (with_reducible assumption))|((with_reducible apply setAt_last) <;> exact Eq.refl true)|exact Eq.refl true|exact Eq.refl false|exact xNil|with_reducible exact nxR|(apply xCons)|(apply xSetL)|(apply xExpr)|(apply xIte)|(apply xRet)|(apply xSetA)|exact rfl)))
/-- another sign than the one that is wanted -/
theorem expect_no (S : St l H n p t k v q) {N : Nat} {xs : List MVal} (c : Cst H) (e : Er H N xs) (hN : N < 900) {kk : List Nat} (hk : (k == kk) = false) (hi : (kk == [105, 100, 101, 110, 116]) = false) (hl : kk.length < 100) :
    ∃ H' ys, callF tb W (d + 3) 578 [.ref 59, .str kk] H = some (.bool false, H') ∧ St l H' n p t k v q ∧ KA H H' ∧ Er H' (N + 1) (xs ++ ys) := by
  obtain ⟨H', ys, e1, S1, K1, E1, _⟩ := rd_mark (W := W) (d := d) S c e hN ([101, 120, 112, 101, 99, 116, 101, 100, 32] ++ kk)
  have a := skip_no (W := W) (d := d + 1) S hk
  refine ⟨H', ys, ?_, S1, K1, E1⟩
  have m1 : methOf tb (.ref 59) 238728820 H = some (.fn 571 (.ref 59)) := S.meth rfl rfl
  have m2 : methOf tb (.ref 59) 228389230 H = some (.fn 585 (.ref 59)) := S.meth rfl rfl
  have ad : binop .add (.str [101, 120, 112, 101, 99, 116, 101, 100, 32]) (.str kk) H = some (.str ([101, 120, 112, 101, 99, 116, 101, 100, 32] ++ kk), H) := add_s _ _ _ (by rw [show szLine = 1048576 from by decide]; simp; omega)
  apply callF_go2 (ρ := [(217805684, .ref 59), (213644652, .str kk)]) (o := .ret (.bool false)) rfl rfl rfl
  (have zz0 := m1; have zz1 := m2; have zz2 := a; have zz3 := hi; have zz4 := ad; have zz5 := e1; (repeat' (first|with_reducible (first|assumption|exact xNil|apply xCons|apply nxN|exact nxR|exact nxB|exact nxC|apply eLoc|apply eAttr|apply eMeth|apply mcFn|exact eInt|exact eStr|exact esNil|apply esCons|apply eGlob|apply eCall|apply cvFn|apply xExpr|apply xRet|apply xSetL|apply xIte|apply xSetA|apply xSetI|apply xUnp|apply xAugA|exact xBrk|exact xCont|apply xWhl|apply lwStep|apply gtT|exact gtF|apply gwN|exact gwR|apply ifT|apply ifF|apply tAnd|apply tOr|apply tNot|exact alNil|apply alCons|exact ayNil|apply ayCons|apply tPlain|apply eCmp|apply eBin|apply eIdx|apply eSlc|apply eBi|exact eNone|exact eBool|apply eInT|apply eIsN|apply eEqNil|apply eNot|apply eIte|apply eList|apply eTup|apply eCel|exact eNeg|exact eDict0|apply eAnd|apply eOr|apply anOne|apply anTwo|apply orOne|apply orTwo|exact bAdd|exact bSub|apply cEqS|apply cNeS|apply cEqI|apply cNeI|apply cLt|apply cLe|apply cGt|apply cGe|apply cLtS|apply cLeS|apply cInS)|((with_reducible apply lkHit); exact Eq.refl true)|((with_reducible apply lkHere); exact Eq.refl true)|((with_reducible apply lkMiss); exact Eq.refl false)|((with_reducible apply lkNext); exact Eq.refl false)|with_reducible apply xForS|((with_reducible apply lfE); (with_reducible assumption))|((with_reducible apply lfN); (with_reducible assumption))|((with_reducible apply setAt_last) <;> exact Eq.refl true)|exact Eq.refl true|exact Eq.refl false|exact xNil|with_reducible exact nxR|(apply xCons)|(apply xSetL)|(apply xExpr)|(apply xIte)|(apply xRet)|(apply xSetA)|exact rfl)))
end


end
section
set_option maxRecDepth 10000

/-- at the end, with the first mark at K -/
noncomputable def Ov (l : List Nat) (H : MHeap) (K : Nat) : Prop := ∃ n p t q, St l H n p t [101, 111, 102] (.str []) q ∧ ∃ N r xs, Er H N (.ref r :: xs) ∧ N ≤ 100 ∧ H[r]? = some (.tup [.int K, .str [116, 111, 111, 95, 100, 101, 101, 112]])

section
variable {l : List Nat} {H : MHeap} {n p t : Nat} {k : List Nat} {v : MVal} {q : Nat} {W d : Nat}

theorem ov_any (S : St l H 120 p t k v q) {N : Nat} (c : Cst H) (e : Er H 0 []) (T : Tk l p N) (hW : N ≤ W) (h1 : ([[46], [91], [94]] : List (List Nat)).contains k = true)
    {i ki ai : Nat} {op : List Nat} {pl0 val : MVal} (h : H[i]? = some (nodeO op pl0 (.ref ai) ki val)) {form : List Nat} (hf : getA tb (.ref ai) 232585319 H = some (.str form)) (ho : opOk op) {ρ : Loc} (R : Rho i ρ) :
    ∃ ρ' H', exSs tb (callF tb (W + 2) (d + 9)) (W + 2) selB ρ H = some (.ret (.ref i), ρ', H') ∧ KA H H' ∧ Ov l H' q := by
  have hk : (k == [101, 111, 102]) = false := by
    cases z : (k == [101, 111, 102]) with
    | false => rfl
    | true => have := eq_of_beq z; subst this; cases h1
  obtain ⟨A, p1, t1, q1, r, e1, S1, K1, N1, E1, hr, h2⟩ := part_over (W := W) (d := d + 1) S c e T hk hW
  have f0 := at_ (W := W + 2) (d := d + 8) S1 [40]
  have f1 := skip_no (W := W + 2) (d := d + 8) S1 (kk := [46]) rfl
  have f2 := skip_no (W := W + 2) (d := d + 8) S1 (kk := [91]) rfl
  have f3 := skip_no (W := W + 2) (d := d + 8) S1 (kk := [94]) rfl
  have w0 : (([101, 111, 102] : List Nat) == [40]) = false := rfl
  rw [w0] at f0
  refine ⟨put 4013084425064 (.bool (([[114, 101, 99, 111, 114, 100], [112, 111, 105, 110, 116, 101, 114]] : List (List Nat)).contains form)) (put 27591751409 (.int q) ρ), A, ?_, K1, ⟨_, _, _, _, S1, _, _, _, E1, by decide, h2⟩⟩
  have m0 : methOf tb (.ref 59) 247263601 H = some (.fn 620 (.ref 59)) := S.meth rfl rfl
  have m1 : methOf tb (.ref 59) 238728820 A = some (.fn 571 (.ref 59)) := S1.meth rfl rfl
  have m2 : methOf tb (.ref 59) 15074 A = some (.fn 564 (.ref 59)) := S1.meth rfl rfl
  have w3 : ∀ b : Bool, (false != b) = b := by intro b; cases b <;> rfl
  unfold opOk at ho
  generalize hg : (([[114, 101, 99, 111, 114, 100], [112, 111, 105, 110, 116, 101, 114]] : List (List Nat)).contains form) = g
  cases g
  · (have zz0 := R.rd; have zz1 := R.node; have zz2 := S.token; have zz3 := S.place; have zz4 := S.kind; have zz5 := node_op h; have zz6 := ho; have zz7 := node_type h; have zz8 := hf; have zz9 := hg; have zz10 := h1; have zz11 := w3; have zz12 := m0; have zz13 := e1; have zz14 := m1; have zz15 := m2; have zz16 := f0; have zz17 := f1; have zz18 := f2; have zz19 := f3; (repeat' (first|with_reducible (first|assumption|exact xNil|apply xCons|apply nxN|exact nxR|exact nxB|exact nxC|apply eLoc|apply eAttr|apply eMeth|apply mcFn|exact eInt|exact eStr|exact esNil|apply esCons|apply eGlob|apply eCall|apply cvFn|apply xExpr|apply xRet|apply xSetL|apply xIte|apply xSetA|apply xSetI|apply xUnp|apply xAugA|exact xBrk|exact xCont|apply xWhl|apply lwStep|apply gtT|exact gtF|apply gwN|exact gwR|apply ifT|apply ifF|apply tAnd|apply tOr|apply tNot|exact alNil|apply alCons|exact ayNil|apply ayCons|apply tPlain|apply eCmp|apply eBin|apply eIdx|apply eSlc|apply eBi|exact eNone|exact eBool|apply eInT|apply eIsN|apply eEqNil|apply eNot|apply eIte|apply eList|apply eTup|apply eCel|exact eNeg|exact eDict0|apply eAnd|apply eOr|apply anOne|apply anTwo|apply orOne|apply orTwo|exact bAdd|exact bSub|apply cEqS|apply cNeS|apply cEqI|apply cNeI|apply cLt|apply cLe|apply cGt|apply cGe|apply cLtS|apply cLeS|apply cInS)|((with_reducible apply lkHit); exact Eq.refl true)|((with_reducible apply lkHere); exact Eq.refl true)|((with_reducible apply lkMiss); exact Eq.refl false)|((with_reducible apply lkNext); exact Eq.refl false)|with_reducible apply xForS|((with_reducible apply lfE); (with_reducible assumption))|((with_reducible apply lfN); (with_reducible assumption))|((with_reducible apply setAt_last) <;> exact Eq.refl true)|exact Eq.refl true|exact Eq.refl false|exact xNil|with_reducible exact nxR|(apply xCons)|(apply xSetL)|(apply xExpr)|(apply xIte)|(apply xRet)|(apply xSetA)|exact rfl)))
  · (have zz0 := R.rd; have zz1 := R.node; have zz2 := S.token; have zz3 := S.place; have zz4 := S.kind; have zz5 := node_op h; have zz6 := ho; have zz7 := node_type h; have zz8 := hf; have zz9 := hg; have zz10 := h1; have zz11 := w3; have zz12 := m0; have zz13 := e1; have zz14 := m1; have zz15 := m2; have zz16 := f0; have zz17 := f1; have zz18 := f2; have zz19 := f3; (repeat' (first|with_reducible (first|assumption|exact xNil|apply xCons|apply nxN|exact nxR|exact nxB|exact nxC|apply eLoc|apply eAttr|apply eMeth|apply mcFn|exact eInt|exact eStr|exact esNil|apply esCons|apply eGlob|apply eCall|apply cvFn|apply xExpr|apply xRet|apply xSetL|apply xIte|apply xSetA|apply xSetI|apply xUnp|apply xAugA|exact xBrk|exact xCont|apply xWhl|apply lwStep|apply gtT|exact gtF|apply gwN|exact gwR|apply ifT|apply ifF|apply tAnd|apply tOr|apply tNot|exact alNil|apply alCons|exact ayNil|apply ayCons|apply tPlain|apply eCmp|apply eBin|apply eIdx|apply eSlc|apply eBi|exact eNone|exact eBool|apply eInT|apply eIsN|apply eEqNil|apply eNot|apply eIte|apply eList|apply eTup|apply eCel|exact eNeg|exact eDict0|apply eAnd|apply eOr|apply anOne|apply anTwo|apply orOne|apply orTwo|exact bAdd|exact bSub|apply cEqS|apply cNeS|apply cEqI|apply cNeI|apply cLt|apply cLe|apply cGt|apply cGe|apply cLtS|apply cLeS|apply cInS)|((with_reducible apply lkHit); exact Eq.refl true)|((with_reducible apply lkHere); exact Eq.refl true)|((with_reducible apply lkMiss); exact Eq.refl false)|((with_reducible apply lkNext); exact Eq.refl false)|with_reducible apply xForS|((with_reducible apply lfE); (with_reducible assumption))|((with_reducible apply lfN); (with_reducible assumption))|((with_reducible apply setAt_last) <;> exact Eq.refl true)|exact Eq.refl true|exact Eq.refl false|exact xNil|with_reducible exact nxR|(apply xCons)|(apply xSetL)|(apply xExpr)|(apply xIte)|(apply xRet)|(apply xSetA)|exact rfl)))

theorem ov_par (S : St l H 120 p t [40] v q) {N : Nat} (c : Cst H) (e : Er H 0 []) (T : Tk l p N) (hW : N ≤ W)
    {i ki : Nat} {op : List Nat} {pl0 val : MVal} (h : H[i]? = some (nodeO op pl0 (.ref 38) ki val)) (ho : opOk op) {ρ : Loc} (R : Rho i ρ) :
    ∃ ρ' H', exSs tb (callF tb (W + 2) (d + 9)) (W + 2) selB ρ H = some (.ret (.ref i), ρ', H') ∧ KA H H' ∧ Ov l H' q := by
  obtain ⟨A, p1, t1, q1, r, e1, S1, K1, N1, E1, hr, h2⟩ := part_over (W := W) (d := d + 1) S c e T rfl hW
  have f := at_ (W := W + 2) (d := d + 8) S [40]
  have f0 := at_ (W := W + 2) (d := d + 8) S1 [40]
  have f1 := skip_no (W := W + 2) (d := d + 8) S1 (kk := [46]) rfl
  have f2 := skip_no (W := W + 2) (d := d + 8) S1 (kk := [91]) rfl
  have f3 := skip_no (W := W + 2) (d := d + 8) S1 (kk := [94]) rfl
  have w0 : (([101, 111, 102] : List Nat) == [40]) = false := rfl
  have w1 : (([40] : List Nat) == [40]) = true := rfl
  rw [w0] at f0
  rw [w1] at f
  refine ⟨put 4013084425064 (.bool true) (put 27591751409 (.int q) ρ), A, ?_, K1, ⟨_, _, _, _, S1, _, _, _, E1, by decide, h2⟩⟩
  have m : methOf tb (.ref 59) 15074 H = some (.fn 564 (.ref 59)) := S.meth rfl rfl
  have m0 : methOf tb (.ref 59) 247263601 H = some (.fn 620 (.ref 59)) := S.meth rfl rfl
  have m1 : methOf tb (.ref 59) 238728820 A = some (.fn 571 (.ref 59)) := S1.meth rfl rfl
  have m2 : methOf tb (.ref 59) 15074 A = some (.fn 564 (.ref 59)) := S1.meth rfl rfl
  have w2 : ([[46], [91], [94]] : List (List Nat)).contains [40] = false := rfl
  have w3 : ∀ b : Bool, (false != b) = b := by intro b; cases b <;> rfl
  have w4 : ([[114, 101, 99, 111, 114, 100], [112, 111, 105, 110, 116, 101, 114]] : List (List Nat)).contains [112, 111, 105, 110, 116, 101, 114] = true := rfl
  unfold opOk at ho
  (have zz0 := R.rd; have zz1 := R.node; have zz2 := S.token; have zz3 := S.place; have zz4 := S.kind; have zz5 := node_op h; have zz6 := ho; have zz7 := node_type h; have zz8 := ty_form c.c38; have zz9 := w2; have zz10 := w3; have zz11 := w4; have zz12 := m; have zz13 := f; have zz14 := m0; have zz15 := e1; have zz16 := m1; have zz17 := m2; have zz18 := f0; have zz19 := f1; have zz20 := f2; have zz21 := f3; (repeat' (first|with_reducible (first|assumption|exact xNil|apply xCons|apply nxN|exact nxR|exact nxB|exact nxC|apply eLoc|apply eAttr|apply eMeth|apply mcFn|exact eInt|exact eStr|exact esNil|apply esCons|apply eGlob|apply eCall|apply cvFn|apply xExpr|apply xRet|apply xSetL|apply xIte|apply xSetA|apply xSetI|apply xUnp|apply xAugA|exact xBrk|exact xCont|apply xWhl|apply lwStep|apply gtT|exact gtF|apply gwN|exact gwR|apply ifT|apply ifF|apply tAnd|apply tOr|apply tNot|exact alNil|apply alCons|exact ayNil|apply ayCons|apply tPlain|apply eCmp|apply eBin|apply eIdx|apply eSlc|apply eBi|exact eNone|exact eBool|apply eInT|apply eIsN|apply eEqNil|apply eNot|apply eIte|apply eList|apply eTup|apply eCel|exact eNeg|exact eDict0|apply eAnd|apply eOr|apply anOne|apply anTwo|apply orOne|apply orTwo|exact bAdd|exact bSub|apply cEqS|apply cNeS|apply cEqI|apply cNeI|apply cLt|apply cLe|apply cGt|apply cGe|apply cLtS|apply cLeS|apply cInS)|((with_reducible apply lkHit); exact Eq.refl true)|((with_reducible apply lkHere); exact Eq.refl true)|((with_reducible apply lkMiss); exact Eq.refl false)|((with_reducible apply lkNext); exact Eq.refl false)|with_reducible apply xForS|((with_reducible apply lfE); (with_reducible assumption))|((with_reducible apply lfN); (with_reducible assumption))|((with_reducible apply setAt_last) <;> exact Eq.refl true)|exact Eq.refl true|exact Eq.refl false|exact xNil|with_reducible exact nxR|(apply xCons)|(apply xSetL)|(apply xExpr)|(apply xIte)|(apply xRet)|(apply xSetA)|exact rfl)))

/-- the second part of '.q' is too many -/
theorem ov_fptr (S : St l H 119 p t [46] (.str []) q) (c : Cst H) (e : Er H 0 []) {name : List Nat} {q1 p1 N : Nat}
    (N1 : Nx l p [105, 100, 101, 110, 116] (.str name) q1 p1) (T : Tk l p1 N) (hW : N ≤ W + 1)
    {i m ki : Nat} {op : List Nat} {pl0 val : MVal} (hi : 60 < i) (h : H[i]? = some (nodeO op pl0 (.ref 38) ki val)) (ho : opOk op) {ρ : Loc} (R : Rho i ρ) :
    ∃ H' ρ', exSs tb (callF tb (W + 3) (d + 9)) (W + 3) selB ρ H = some (.next, ρ', H') ∧ Rho i ρ' ∧ KA H H' ∧ Ov l H' q1 := by
  have e0 := part_ok (W := W + 3) (d := d + 8) S (by omega)
  have S0 := part_st S
  have K0 := part_keep (H := H) (t := t) (n := 119)
  generalize hA : partH H t 119 = A at e0 S0 K0
  have f1 := skip_yes (W := W + 1) (d := d + 3) S0 N1
  have S1 := step_st S0 (k' := [105, 100, 101, 110, 116]) (v' := .str name) (q' := q1) (p' := p1)
  have K1 := K0.trans (step_keep (H := A) (l := l) (n := 120) (k' := [105, 100, 101, 110, 116]) (v' := .str name) (q' := q1) (p' := p1))
  generalize hB : stepH A l 120 p1 [105, 100, 101, 110, 116] (.str name) q1 = B at f1 S1 K1
  have cb := c.keep K1
  have hb := K1.at h hi
  obtain ⟨C, p2, t2, q2, r, e1, S2, K2, N2, E2, hr, h2⟩ := part_over (W := W + 1) (d := d + 1) S1 cb (e.keep K1) T rfl hW
  obtain ⟨D, ys, e3, S3, K3, E3⟩ := name_no (W := W + 3) (d := d + 6) S2 (K2.cst cb) E2 (by omega) rfl
  refine ⟨D, put 215724399 .none (put 4013084425064 (.bool true) (put 27591751409 (.int q) ρ)), ?_, ⟨?_, ?_, ?_⟩, (K1.ka.trans K2).trans K3, _, _, _, _, S3, _, _, _, E3, by decide, K3.2 _ _ h2 (by omega) (by omega) (by omega) (by omega)⟩
  · have m0 : methOf tb (.ref 59) 247263601 H = some (.fn 620 (.ref 59)) := S.meth rfl rfl
    have m0' : methOf tb (.ref 59) 247263601 B = some (.fn 620 (.ref 59)) := S1.meth rfl rfl
    have m1 : methOf tb (.ref 59) 238728820 A = some (.fn 571 (.ref 59)) := S0.meth rfl rfl
    have m2 : methOf tb (.ref 59) 215724399 C = some (.fn 592 (.ref 59)) := S2.meth rfl rfl
    have w1 : ([[46], [91], [94]] : List (List Nat)).contains [46] = true := rfl
    have w2 : ([[114, 101, 99, 111, 114, 100], [112, 111, 105, 110, 116, 101, 114]] : List (List Nat)).contains [112, 111, 105, 110, 116, 101, 114] = true := rfl
    have w3 : (false != true) = true := rfl
    have w4 : (([112, 111, 105, 110, 116, 101, 114] : List Nat) == [112, 111, 105, 110, 116, 101, 114]) = true := rfl
    have w5 : (MVal.none == MVal.none) = true := rfl
    have w6 : (true != true) = false := rfl
    unfold opOk at ho
    (have zz0 := R.rd; have zz1 := R.node; have zz2 := S.token; have zz3 := S.place; have zz4 := S.kind; have zz5 := node_op h; have zz6 := ho; have zz7 := node_type h; have zz8 := ty_form c.c38; have zz9 := w1; have zz10 := w2; have zz11 := w3; have zz12 := w4; have zz13 := w5; have zz14 := w6; have zz15 := m0; have zz16 := m0'; have zz17 := e0; have zz18 := e1; have zz19 := m1; have zz20 := f1; have zz21 := node_type hb; have zz22 := ty_form cb.c38; have zz23 := m2; have zz24 := e3; (repeat' (first|with_reducible (first|assumption|exact xNil|apply xCons|apply nxN|exact nxR|exact nxB|exact nxC|apply eLoc|apply eAttr|apply eMeth|apply mcFn|exact eInt|exact eStr|exact esNil|apply esCons|apply eGlob|apply eCall|apply cvFn|apply xExpr|apply xRet|apply xSetL|apply xIte|apply xSetA|apply xSetI|apply xUnp|apply xAugA|exact xBrk|exact xCont|apply xWhl|apply lwStep|apply gtT|exact gtF|apply gwN|exact gwR|apply ifT|apply ifF|apply tAnd|apply tOr|apply tNot|exact alNil|apply alCons|exact ayNil|apply ayCons|apply tPlain|apply eCmp|apply eBin|apply eIdx|apply eSlc|apply eBi|exact eNone|exact eBool|apply eInT|apply eIsN|apply eEqNil|apply eNot|apply eIte|apply eList|apply eTup|apply eCel|exact eNeg|exact eDict0|apply eAnd|apply eOr|apply anOne|apply anTwo|apply orOne|apply orTwo|exact bAdd|exact bSub|apply cEqS|apply cNeS|apply cEqI|apply cNeI|apply cLt|apply cLe|apply cGt|apply cGe|apply cLtS|apply cLeS|apply cInS)|((with_reducible apply lkHit); exact Eq.refl true)|((with_reducible apply lkHere); exact Eq.refl true)|((with_reducible apply lkMiss); exact Eq.refl false)|((with_reducible apply lkNext); exact Eq.refl false)|with_reducible apply xForS|((with_reducible apply lfE); (with_reducible assumption))|((with_reducible apply lfN); (with_reducible assumption))|((with_reducible apply setAt_last) <;> exact Eq.refl true)|exact Eq.refl true|exact Eq.refl false|exact xNil|with_reducible exact nxR|(apply xCons)|(apply xSetL)|(apply xExpr)|(apply xIte)|(apply xRet)|(apply xSetA)|exact rfl)))
  · (have zz0 := R.rd; (repeat' (first|with_reducible (first|assumption|exact xNil|apply xCons|apply nxN|exact nxR|exact nxB|exact nxC|apply eLoc|apply eAttr|apply eMeth|apply mcFn|exact eInt|exact eStr|exact esNil|apply esCons|apply eGlob|apply eCall|apply cvFn|apply xExpr|apply xRet|apply xSetL|apply xIte|apply xSetA|apply xSetI|apply xUnp|apply xAugA|exact xBrk|exact xCont|apply xWhl|apply lwStep|apply gtT|exact gtF|apply gwN|exact gwR|apply ifT|apply ifF|apply tAnd|apply tOr|apply tNot|exact alNil|apply alCons|exact ayNil|apply ayCons|apply tPlain|apply eCmp|apply eBin|apply eIdx|apply eSlc|apply eBi|exact eNone|exact eBool|apply eInT|apply eIsN|apply eEqNil|apply eNot|apply eIte|apply eList|apply eTup|apply eCel|exact eNeg|exact eDict0|apply eAnd|apply eOr|apply anOne|apply anTwo|apply orOne|apply orTwo|exact bAdd|exact bSub|apply cEqS|apply cNeS|apply cEqI|apply cNeI|apply cLt|apply cLe|apply cGt|apply cGe|apply cLtS|apply cLeS|apply cInS)|((with_reducible apply lkHit); exact Eq.refl true)|((with_reducible apply lkHere); exact Eq.refl true)|((with_reducible apply lkMiss); exact Eq.refl false)|((with_reducible apply lkNext); exact Eq.refl false)|with_reducible apply xForS|((with_reducible apply lfE); (with_reducible assumption))|((with_reducible apply lfN); (with_reducible assumption))|((with_reducible apply setAt_last) <;> exact Eq.refl true)|exact Eq.refl true|exact Eq.refl false|exact xNil|with_reducible exact nxR|(apply xCons)|(apply xSetL)|(apply xExpr)|(apply xIte)|(apply xRet)|(apply xSetA)|exact rfl)))
  · (have zz0 := R.node; (repeat' (first|with_reducible (first|assumption|exact xNil|apply xCons|apply nxN|exact nxR|exact nxB|exact nxC|apply eLoc|apply eAttr|apply eMeth|apply mcFn|exact eInt|exact eStr|exact esNil|apply esCons|apply eGlob|apply eCall|apply cvFn|apply xExpr|apply xRet|apply xSetL|apply xIte|apply xSetA|apply xSetI|apply xUnp|apply xAugA|exact xBrk|exact xCont|apply xWhl|apply lwStep|apply gtT|exact gtF|apply gwN|exact gwR|apply ifT|apply ifF|apply tAnd|apply tOr|apply tNot|exact alNil|apply alCons|exact ayNil|apply ayCons|apply tPlain|apply eCmp|apply eBin|apply eIdx|apply eSlc|apply eBi|exact eNone|exact eBool|apply eInT|apply eIsN|apply eEqNil|apply eNot|apply eIte|apply eList|apply eTup|apply eCel|exact eNeg|exact eDict0|apply eAnd|apply eOr|apply anOne|apply anTwo|apply orOne|apply orTwo|exact bAdd|exact bSub|apply cEqS|apply cNeS|apply cEqI|apply cNeI|apply cLt|apply cLe|apply cGt|apply cGe|apply cLtS|apply cLeS|apply cInS)|((with_reducible apply lkHit); exact Eq.refl true)|((with_reducible apply lkHere); exact Eq.refl true)|((with_reducible apply lkMiss); exact Eq.refl false)|((with_reducible apply lkNext); exact Eq.refl false)|with_reducible apply xForS|((with_reducible apply lfE); (with_reducible assumption))|((with_reducible apply lfN); (with_reducible assumption))|((with_reducible apply setAt_last) <;> exact Eq.refl true)|exact Eq.refl true|exact Eq.refl false|exact xNil|with_reducible exact nxR|(apply xCons)|(apply xSetL)|(apply xExpr)|(apply xIte)|(apply xRet)|(apply xSetA)|exact rfl)))
  · (have zz0 := R.ex; (repeat' (first|with_reducible (first|assumption|exact xNil|apply xCons|apply nxN|exact nxR|exact nxB|exact nxC|apply eLoc|apply eAttr|apply eMeth|apply mcFn|exact eInt|exact eStr|exact esNil|apply esCons|apply eGlob|apply eCall|apply cvFn|apply xExpr|apply xRet|apply xSetL|apply xIte|apply xSetA|apply xSetI|apply xUnp|apply xAugA|exact xBrk|exact xCont|apply xWhl|apply lwStep|apply gtT|exact gtF|apply gwN|exact gwR|apply ifT|apply ifF|apply tAnd|apply tOr|apply tNot|exact alNil|apply alCons|exact ayNil|apply ayCons|apply tPlain|apply eCmp|apply eBin|apply eIdx|apply eSlc|apply eBi|exact eNone|exact eBool|apply eInT|apply eIsN|apply eEqNil|apply eNot|apply eIte|apply eList|apply eTup|apply eCel|exact eNeg|exact eDict0|apply eAnd|apply eOr|apply anOne|apply anTwo|apply orOne|apply orTwo|exact bAdd|exact bSub|apply cEqS|apply cNeS|apply cEqI|apply cNeI|apply cLt|apply cLe|apply cGt|apply cGe|apply cLtS|apply cLeS|apply cInS)|((with_reducible apply lkHit); exact Eq.refl true)|((with_reducible apply lkHere); exact Eq.refl true)|((with_reducible apply lkMiss); exact Eq.refl false)|((with_reducible apply lkNext); exact Eq.refl false)|with_reducible apply xForS|((with_reducible apply lfE); (with_reducible assumption))|((with_reducible apply lfN); (with_reducible assumption))|((with_reducible apply setAt_last) <;> exact Eq.refl true)|exact Eq.refl true|exact Eq.refl false|exact xNil|with_reducible exact nxR|(apply xCons)|(apply xSetL)|(apply xExpr)|(apply xIte)|(apply xRet)|(apply xSetA)|exact rfl)))

/-- the index that is read at the end -/
theorem law_index_eof (S : St l H n p t [101, 111, 102] (.str []) q) (c2 : Cs2 H) {q1 p1 : Nat} {k1 : List Nat} {v1 : MVal} (N1 : Nx l p k1 v1 q1 p1) :
    ∃ H' j kj t', callF tb (W + 2) (d + 6) 648 [.ref 59] H = some (.ref j, H') ∧ St l H' n p1 t' k1 v1 q1 ∧ Keep H H' ∧ 60 < j ∧ H'[j]? = some (nodeO [99, 111, 110, 115, 116] (.int q) (.ref 17) kj (.int 0)) := by
  have e1 := step_ (W := W) (d := d) S N1
  have S1 := step_st S (k' := k1) (v' := v1) (q' := q1) (p' := p1)
  have K1 := step_keep (H := H) (l := l) (n := n) (k' := k1) (v' := v1) (q' := q1) (p' := p1)
  generalize hA : stepH H l n p1 k1 v1 q1 = A at e1 S1 K1
  have tk' := K1.at S.tk S.lo'
  have a1 : getA tb (.ref t) 27591751409 A = some (.int q) := getA_inst (c := 200) tk' rfl rfl
  have a2 := S1.types
  obtain ⟨b1, b2, b3, b4, b5, b6, b7, b8, hq⟩ := (c2.keep K1).c3
  have a3 : getA tb (.ref 3) 509308175218666 A = some (.ref 17) := getA_inst (c := 426) hq rfl rfl
  have tk2 : (A ++ [MObj.list []])[t]? = some (tokO [101, 111, 102] (.str []) q) := by rw [List.getElem?_append_left (get_lt tk')]; exact tk'
  have a4 : getA tb (.ref t) 213644652 (A ++ [MObj.list []]) = some (.str [101, 111, 102]) := getA_inst (c := 200) tk2 rfl rfl
  have nd := callV_node (W := W + 2) (d := d + 4) (H := A ++ [MObj.list []]) [99, 111, 110, 115, 116] (.int q) (.ref 17) A.length (.int 0)
  have m1 : methOf tb (.ref 59) 238664436 H = some (.fn 557 (.ref 59)) := S.meth rfl rfl
  have q0 : (([101, 111, 102] : List Nat) == [105, 110, 116]) = false := rfl
  refine ⟨(A ++ [MObj.list []]) ++ [nodeO [99, 111, 110, 115, 116] (.int q) (.ref 17) A.length (.int 0)], (A ++ [MObj.list []]).length, A.length, _, ?_, (S1.app _).app _, K1.trans ((Keep.app _ _).trans (Keep.app _ _)), ?_, get_last _ _⟩
  · apply callF_go2 (ρ := [(13043, .ref 59)]) (o := .ret (.ref (A ++ [MObj.list []]).length)) rfl rfl rfl
    (have zz0 := m1; have zz1 := e1; have zz2 := a1; have zz3 := a2; have zz4 := a3; have zz5 := a4; have zz6 := q0; have zz7 := nd; (repeat' (first|with_reducible (first|assumption|exact xNil|apply xCons|apply nxN|exact nxR|exact nxB|exact nxC|apply eLoc|apply eAttr|apply eMeth|apply mcFn|exact eInt|exact eStr|exact esNil|apply esCons|apply eGlob|apply eCall|apply cvFn|apply xExpr|apply xRet|apply xSetL|apply xIte|apply xSetA|apply xSetI|apply xUnp|apply xAugA|exact xBrk|exact xCont|apply xWhl|apply lwStep|apply gtT|exact gtF|apply gwN|exact gwR|apply ifT|apply ifF|apply tAnd|apply tOr|apply tNot|exact alNil|apply alCons|exact ayNil|apply ayCons|apply tPlain|apply eCmp|apply eBin|apply eIdx|apply eSlc|apply eBi|exact eNone|exact eBool|apply eInT|apply eIsN|apply eEqNil|apply eNot|apply eIte|apply eList|apply eTup|apply eCel|exact eNeg|exact eDict0|apply eAnd|apply eOr|apply anOne|apply anTwo|apply orOne|apply orTwo|exact bAdd|exact bSub|apply cEqS|apply cNeS|apply cEqI|apply cNeI|apply cLt|apply cLe|apply cGt|apply cGe|apply cLtS|apply cLeS|apply cInS)|((with_reducible apply lkHit); exact Eq.refl true)|((with_reducible apply lkHere); exact Eq.refl true)|((with_reducible apply lkMiss); exact Eq.refl false)|((with_reducible apply lkNext); exact Eq.refl false)|with_reducible apply xForS|((with_reducible apply lfE); (with_reducible assumption))|((with_reducible apply lfN); (with_reducible assumption))|((with_reducible apply setAt_last) <;> exact Eq.refl true)|exact Eq.refl true|exact Eq.refl false|exact xNil|with_reducible exact nxR|(apply xCons)|(apply xSetL)|(apply xExpr)|(apply xIte)|(apply xRet)|(apply xSetA)|exact rfl)))
  · have := get_lt S1.sc
    rw [List.length_append]; omega

/-- the second index of '[1, 0]' is too many -/
theorem ov_index (S : St l H 119 p t [91] (.str []) q) (c : Cst H) (c2 : Cs2 H) (e : Er H 0 []) {q1 p1 q2 p2 q3 p3 N : Nat}
    (N1 : Nx l p [105, 110, 116] (.int 1) q1 p1) (N2 : Nx l p1 [44] (.str []) q2 p2) (N3 : Nx l p2 [105, 110, 116] (.int 0) q3 p3) (T : Tk l p3 N) (hW : N ≤ W + 1)
    {i m ki : Nat} {op : List Nat} {pl0 val : MVal} (hi : 60 < i) (h : H[i]? = some (nodeO op pl0 (.ref 47) ki val)) (ho : opOk op) (D : Des H i m) (hm : m + 1 < W + 3) {ρ : Loc} (R : Rho i ρ) :
    ∃ H' j kj ρ', exSs tb (callF tb (W + 3) (d + 9)) (W + 3) selB ρ H = some (.next, ρ', H') ∧ Rho j ρ' ∧ KA H H' ∧ Ov l H' q3 ∧ H'[j]? = some (nodeO [105, 110, 100, 101, 120] (.int q) (.ref 38) kj .none) := by
  have e0 := part_ok (W := W + 3) (d := d + 8) S (by omega)
  have S0 := part_st S
  have K0 := part_keep (H := H) (t := t) (n := 119)
  generalize hA : partH H t 119 = A at e0 S0 K0
  have f0 := skip_no (W := W + 3) (d := d + 8) S0 (kk := [46]) rfl
  have f1 := skip_yes (W := W + 1) (d := d + 3) S0 N1
  have S1 := step_st S0 (k' := [105, 110, 116]) (v' := .int 1) (q' := q1) (p' := p1)
  have K1 := K0.trans (step_keep (H := A) (l := l) (n := 120) (k' := [105, 110, 116]) (v' := .int 1) (q' := q1) (p' := p1))
  generalize hB : stepH A l 120 p1 [105, 110, 116] (.int 1) q1 = B at f1 S1 K1
  obtain ⟨C, jc, kc, tc, f2, S2, K2', hjc, hc⟩ := law_index_ (W := W + 1) (d := d + 3) S1 (c2.keep K1) N2
  have K2 := K1.trans K2'
  have hiC := K2.at h hi
  have cC := c.keep K2
  have Cl : 60 < C.length := get_lt S2.sc
  have f3 := index_ (W := W + 3) (d := d + 7) (a1 := .ref 3) (a2 := .ref 56) cC hiC (D.keep K2) (by omega) hc cC.c47 (by decide) (by decide) q
  obtain ⟨D1, h1, KC⟩ := ixH_des (j := jc) (pl := q) (b := .ref 43) (D.keep K2) Cl
  have S3 : St l (ixH C i jc q (.ref 43)) 120 p2 tc [44] (.str []) q2 := (S2.app _).app _
  have hj1l : 60 < (C ++ [MObj.list [.ref i, .ref jc]]).length := lt_app (by assumption)
  have K3 := K2.trans KC
  generalize hC' : ixH C i jc q (.ref 43) = C' at f3 D1 h1 KC S3 K3
  generalize hj1 : (C ++ [MObj.list [.ref i, .ref jc]]).length = j1 at f3 D1 h1 hj1l
  have f4 := skip_yes (W := W + 1) (d := d + 3) S3 N3
  have S4 := step_st S3 (k' := [105, 110, 116]) (v' := .int 0) (q' := q3) (p' := p3)
  have K4' := (step_keep (H := C') (l := l) (n := 120) (k' := [105, 110, 116]) (v' := .int 0) (q' := q3) (p' := p3))
  generalize hD : stepH C' l 120 p3 [105, 110, 116] (.int 0) q3 = E at f4 S4 K4'
  have K4 := K3.trans K4'
  obtain ⟨F, p5, t5, q5, r, f5, S5, K5', N5, E5, hr, h5⟩ := part_over (W := W + 1) (d := d + 1) S4 (c.keep K4) (e.keep K4) T rfl hW
  have K5 := K4.ka.trans K5'
  obtain ⟨G, jg, kg, tg, f6, S6, K6', hjg, hg⟩ := law_index_eof (W := W + 1) (d := d + 3) S5 (K5.cs2 c2) N5
  have K6'' := (K4'.ka.trans K5').trans K6'.ka
  have K6 := K3.ka.trans K6''
  have h1G := K6''.at h1 hj1l
  have cG := K6.cst c
  have Gl : 60 < G.length := get_lt S6.sc
  have f7 := index_ (W := W + 3) (d := d + 7) (a1 := .ref 3) (a2 := .ref 56) cG h1G (K6''.des D1) (by omega) hg cG.c43 (by decide) (by decide) q
  obtain ⟨D2, h2, KG⟩ := ixH_des (j := jg) (pl := q) (b := .ref 38) (K6''.des D1) Gl
  have S7 : St l (ixH G j1 jg q (.ref 38)) 121 p5 tg [101, 111, 102] (.str []) p5 := (S6.app _).app _
  have hj2l : 60 < (G ++ [MObj.list [.ref j1, .ref jg]]).length := lt_app (by assumption)
  have K7 := K6.trans KG.ka
  have E7 := (E5.keep K6').keep KG
  have h7 := KG.2 _ _ (K6'.2 _ _ h5 (by omega) (by omega)) (by omega) (by omega)
  have c7 := cG.keep KG
  generalize hG' : ixH G j1 jg q (.ref 38) = G' at f7 D2 h2 KG S7 K7 E7 h7 c7
  generalize hj2 : (G ++ [MObj.list [.ref j1, .ref jg]]).length = j2 at f7 D2 h2 hj2l
  have f8 := skip_no (W := W + 3) (d := d + 8) S7 (kk := [44]) rfl
  obtain ⟨X, ys, f9, S8, K8', E8⟩ := expect_no (W := W + 3) (d := d + 6) S7 c7 E7 (by omega) (kk := [93]) rfl rfl (by decide)
  refine ⟨X, j2, G.length, put 215578735 (.ref j2) (put 215578735 (.ref j1) (put 4013084425064 (.bool false) (put 27591751409 (.int q) ρ))), ?_, ⟨?_, ?_, ?_⟩, K7.trans K8', ⟨_, _, _, _, S8, _, _, _, E8, by decide, K8'.2 _ _ h7 (by omega) (by omega) (by omega) (by omega)⟩, K8'.2 _ _ h2 (by omega) (by omega) (by omega) (by omega)⟩
  · have m0 : methOf tb (.ref 59) 247263601 H = some (.fn 620 (.ref 59)) := S.meth rfl rfl
    have m1 : methOf tb (.ref 59) 238728820 A = some (.fn 571 (.ref 59)) := S0.meth rfl rfl
    have m2 : methOf tb (.ref 59) 238728820 C' = some (.fn 571 (.ref 59)) := S3.meth rfl rfl
    have m3 : methOf tb (.ref 59) 247263601 E = some (.fn 620 (.ref 59)) := S4.meth rfl rfl
    have m4 : methOf tb (.ref 59) 238728820 G' = some (.fn 571 (.ref 59)) := S7.meth rfl rfl
    have m5 : methOf tb (.ref 59) 4047148711142 G' = some (.fn 578 (.ref 59)) := S7.meth rfl rfl
    have w1 : ([[46], [91], [94]] : List (List Nat)).contains [91] = true := rfl
    have w2 : ([[114, 101, 99, 111, 114, 100], [112, 111, 105, 110, 116, 101, 114]] : List (List Nat)).contains [97, 114, 114, 97, 121] = false := rfl
    have w3 : (false != true) = true := rfl
    have w4 : (false != false) = false := rfl
    unfold opOk at ho
    (have zz0 := R.rd; have zz1 := R.node; have zz2 := R.ex; have zz3 := S.token; have zz4 := S.place; have zz5 := S.kind; have zz6 := node_op h; have zz7 := ho; have zz8 := node_type h; have zz9 := ty_form c.c47; have zz10 := w1; have zz11 := w2; have zz12 := w3; have zz13 := w4; have zz14 := m0; have zz15 := e0; have zz16 := m1; have zz17 := f0; have zz18 := f1; have zz19 := S1.types; have zz20 := S1.errors; have zz21 := f2; have zz22 := f3; have zz23 := m2; have zz24 := f4; have zz25 := m3; have zz26 := f5; have zz27 := S5.types; have zz28 := S5.errors; have zz29 := f6; have zz30 := f7; have zz31 := m4; have zz32 := f8; have zz33 := m5; have zz34 := f9; (repeat' (first|with_reducible (first|assumption|exact xNil|apply xCons|apply nxN|exact nxR|exact nxB|exact nxC|apply eLoc|apply eAttr|apply eMeth|apply mcFn|exact eInt|exact eStr|exact esNil|apply esCons|apply eGlob|apply eCall|apply cvFn|apply xExpr|apply xRet|apply xSetL|apply xIte|apply xSetA|apply xSetI|apply xUnp|apply xAugA|exact xBrk|exact xCont|apply xWhl|apply lwStep|apply gtT|exact gtF|apply gwN|exact gwR|apply ifT|apply ifF|apply tAnd|apply tOr|apply tNot|exact alNil|apply alCons|exact ayNil|apply ayCons|apply tPlain|apply eCmp|apply eBin|apply eIdx|apply eSlc|apply eBi|exact eNone|exact eBool|apply eInT|apply eIsN|apply eEqNil|apply eNot|apply eIte|apply eList|apply eTup|apply eCel|exact eNeg|exact eDict0|apply eAnd|apply eOr|apply anOne|apply anTwo|apply orOne|apply orTwo|exact bAdd|exact bSub|apply cEqS|apply cNeS|apply cEqI|apply cNeI|apply cLt|apply cLe|apply cGt|apply cGe|apply cLtS|apply cLeS|apply cInS)|((with_reducible apply lkHit); exact Eq.refl true)|((with_reducible apply lkHere); exact Eq.refl true)|((with_reducible apply lkMiss); exact Eq.refl false)|((with_reducible apply lkNext); exact Eq.refl false)|with_reducible apply xForS|((with_reducible apply lfE); (with_reducible assumption))|((with_reducible apply lfN); (with_reducible assumption))|((with_reducible apply setAt_last) <;> exact Eq.refl true)|exact Eq.refl true|exact Eq.refl false|exact xNil|with_reducible exact nxR|(apply xCons)|(apply xSetL)|(apply xExpr)|(apply xIte)|(apply xRet)|(apply xSetA)|exact rfl)))
  · (have zz0 := R.rd; (repeat' (first|with_reducible (first|assumption|exact xNil|apply xCons|apply nxN|exact nxR|exact nxB|exact nxC|apply eLoc|apply eAttr|apply eMeth|apply mcFn|exact eInt|exact eStr|exact esNil|apply esCons|apply eGlob|apply eCall|apply cvFn|apply xExpr|apply xRet|apply xSetL|apply xIte|apply xSetA|apply xSetI|apply xUnp|apply xAugA|exact xBrk|exact xCont|apply xWhl|apply lwStep|apply gtT|exact gtF|apply gwN|exact gwR|apply ifT|apply ifF|apply tAnd|apply tOr|apply tNot|exact alNil|apply alCons|exact ayNil|apply ayCons|apply tPlain|apply eCmp|apply eBin|apply eIdx|apply eSlc|apply eBi|exact eNone|exact eBool|apply eInT|apply eIsN|apply eEqNil|apply eNot|apply eIte|apply eList|apply eTup|apply eCel|exact eNeg|exact eDict0|apply eAnd|apply eOr|apply anOne|apply anTwo|apply orOne|apply orTwo|exact bAdd|exact bSub|apply cEqS|apply cNeS|apply cEqI|apply cNeI|apply cLt|apply cLe|apply cGt|apply cGe|apply cLtS|apply cLeS|apply cInS)|((with_reducible apply lkHit); exact Eq.refl true)|((with_reducible apply lkHere); exact Eq.refl true)|((with_reducible apply lkMiss); exact Eq.refl false)|((with_reducible apply lkNext); exact Eq.refl false)|with_reducible apply xForS|((with_reducible apply lfE); (with_reducible assumption))|((with_reducible apply lfN); (with_reducible assumption))|((with_reducible apply setAt_last) <;> exact Eq.refl true)|exact Eq.refl true|exact Eq.refl false|exact xNil|with_reducible exact nxR|(apply xCons)|(apply xSetL)|(apply xExpr)|(apply xIte)|(apply xRet)|(apply xSetA)|exact rfl)))
  · ((repeat' (first|with_reducible (first|assumption|exact xNil|apply xCons|apply nxN|exact nxR|exact nxB|exact nxC|apply eLoc|apply eAttr|apply eMeth|apply mcFn|exact eInt|exact eStr|exact esNil|apply esCons|apply eGlob|apply eCall|apply cvFn|apply xExpr|apply xRet|apply xSetL|apply xIte|apply xSetA|apply xSetI|apply xUnp|apply xAugA|exact xBrk|exact xCont|apply xWhl|apply lwStep|apply gtT|exact gtF|apply gwN|exact gwR|apply ifT|apply ifF|apply tAnd|apply tOr|apply tNot|exact alNil|apply alCons|exact ayNil|apply ayCons|apply tPlain|apply eCmp|apply eBin|apply eIdx|apply eSlc|apply eBi|exact eNone|exact eBool|apply eInT|apply eIsN|apply eEqNil|apply eNot|apply eIte|apply eList|apply eTup|apply eCel|exact eNeg|exact eDict0|apply eAnd|apply eOr|apply anOne|apply anTwo|apply orOne|apply orTwo|exact bAdd|exact bSub|apply cEqS|apply cNeS|apply cEqI|apply cNeI|apply cLt|apply cLe|apply cGt|apply cGe|apply cLtS|apply cLeS|apply cInS)|((with_reducible apply lkHit); exact Eq.refl true)|((with_reducible apply lkHere); exact Eq.refl true)|((with_reducible apply lkMiss); exact Eq.refl false)|((with_reducible apply lkNext); exact Eq.refl false)|with_reducible apply xForS|((with_reducible apply lfE); (with_reducible assumption))|((with_reducible apply lfN); (with_reducible assumption))|((with_reducible apply setAt_last) <;> exact Eq.refl true)|exact Eq.refl true|exact Eq.refl false|exact xNil|with_reducible exact nxR|(apply xCons)|(apply xSetL)|(apply xExpr)|(apply xIte)|(apply xRet)|(apply xSetA)|exact rfl)))
  · (have zz0 := R.ex; (repeat' (first|with_reducible (first|assumption|exact xNil|apply xCons|apply nxN|exact nxR|exact nxB|exact nxC|apply eLoc|apply eAttr|apply eMeth|apply mcFn|exact eInt|exact eStr|exact esNil|apply esCons|apply eGlob|apply eCall|apply cvFn|apply xExpr|apply xRet|apply xSetL|apply xIte|apply xSetA|apply xSetI|apply xUnp|apply xAugA|exact xBrk|exact xCont|apply xWhl|apply lwStep|apply gtT|exact gtF|apply gwN|exact gwR|apply ifT|apply ifF|apply tAnd|apply tOr|apply tNot|exact alNil|apply alCons|exact ayNil|apply ayCons|apply tPlain|apply eCmp|apply eBin|apply eIdx|apply eSlc|apply eBi|exact eNone|exact eBool|apply eInT|apply eIsN|apply eEqNil|apply eNot|apply eIte|apply eList|apply eTup|apply eCel|exact eNeg|exact eDict0|apply eAnd|apply eOr|apply anOne|apply anTwo|apply orOne|apply orTwo|exact bAdd|exact bSub|apply cEqS|apply cNeS|apply cEqI|apply cNeI|apply cLt|apply cLe|apply cGt|apply cGe|apply cLtS|apply cLeS|apply cInS)|((with_reducible apply lkHit); exact Eq.refl true)|((with_reducible apply lkHere); exact Eq.refl true)|((with_reducible apply lkMiss); exact Eq.refl false)|((with_reducible apply lkNext); exact Eq.refl false)|with_reducible apply xForS|((with_reducible apply lfE); (with_reducible assumption))|((with_reducible apply lfN); (with_reducible assumption))|((with_reducible apply setAt_last) <;> exact Eq.refl true)|exact Eq.refl true|exact Eq.refl false|exact xNil|with_reducible exact nxR|(apply xCons)|(apply xSetL)|(apply xExpr)|(apply xIte)|(apply xRet)|(apply xSetA)|exact rfl)))
end


end
section
set_option maxRecDepth 10000

/-- a drawn selector -/
inductive It | up | gd | q | m
noncomputable def itT : It → List Nat
  | .up => [94]
  | .gd => [40, 80, 41]
  | .q => [46, 113]
  | .m => [46, 109, 91, 49, 44, 32, 48, 93]
noncomputable def itB : It → Bool
  | .up => false
  | _ => true
noncomputable def itC : It → Bool → Nat → List Nat
  | .up, _, s => [s]
  | .gd, _, s => [s]
  | .q, b, s => s :: (if b then [s + 1] else [])
  | .m, b, s => s :: ((if b then [s + 1] else []) ++ [s + 2, s + 6])
noncomputable def itOk : It → Bool → Bool
  | .up, b => b
  | .gd, b => b
  | _, _ => true
noncomputable def txt : List It → List Nat
  | [] => []
  | x :: r => itT x ++ txt r
noncomputable def cnt : List It → Bool → Nat → List Nat
  | [], _, _ => []
  | x :: r, b, s => itC x b s ++ cnt r (itB x) (s + (itT x).length)
noncomputable def fnl : List It → Bool → Bool
  | [], b => b
  | x :: r, _ => fnl r (itB x)
noncomputable def okI : List It → Bool → Bool
  | [], _ => true
  | x :: r, b => itOk x b && okI r (itB x)

/-- the first token -/
noncomputable def ftK : List It → List Nat
  | [] => [59]
  | .up :: _ => [94]
  | .gd :: _ => [40]
  | .q :: _ => [46]
  | .m :: _ => [46]
noncomputable def ftQ : List It → Nat → Nat
  | [], s => s + 1
  | _ :: _, s => s
noncomputable def ftP : List It → Nat → Nat
  | [], s => s + 2
  | _ :: _, s => s + 1

section
variable {l : List Nat}
theorem drop_lt {s c : Nat} {r : List Nat} (h : l.drop s = c :: r) : s < l.length := by
  rcases Nat.lt_or_ge s l.length with q | q
  · exact q
  · rw [List.drop_of_length_le q] at h; cases h
variable (hl : l.length ≤ 90000)
include hl
theorem szl : l.length ≤ szLine := by rw [show szLine = 1048576 from by decide]; omega

theorem nx_first {its : List It} {s : Nat} (hd : l.drop s = txt its ++ [32, 59]) : Nx l s (ftK its) (.str []) (ftQ its s) (ftP its s) := by
  cases its with
  | nil =>
    have hd' : l.drop s = 32 :: 59 :: [] := hd
    have := drop_lt hd'
    exact nx_sym1 (szl hl) (by omega) hd' rfl rfl rfl rfl rfl rfl
  | cons x r =>
    cases x with
    | up =>
      have hd' : l.drop s = 94 :: (txt r ++ [32, 59]) := hd
      have := drop_lt hd'
      exact nx_sym (szl hl) (by omega) hd' rfl rfl rfl rfl rfl rfl
    | gd =>
      have hd' : l.drop s = 40 :: 80 :: 41 :: (txt r ++ [32, 59]) := hd
      have := drop_lt hd'
      exact nx_sym (szl hl) (by omega) hd' rfl rfl rfl rfl rfl rfl
    | q =>
      have hd' : l.drop s = 46 :: 113 :: (txt r ++ [32, 59]) := hd
      have := drop_lt hd'
      exact nx_sym (szl hl) (by omega) hd' rfl rfl rfl rfl rfl rfl
    | m =>
      have hd' : l.drop s = 46 :: 109 :: (91 :: 49 :: 44 :: 32 :: 48 :: 93 :: (txt r ++ [32, 59])) := hd
      have := drop_lt hd'
      exact nx_sym (szl hl) (by omega) hd' rfl rfl rfl rfl rfl rfl

theorem hd_l {its : List It} : ∃ c r, txt its ++ [32, 59] = c :: r ∧ isL [c] = false ∧ isD [c] = false := by
  cases its with
  | nil => exact ⟨_, _, rfl, rfl, rfl⟩
  | cons x r =>
    cases x <;> exact ⟨_, _, rfl, rfl, rfl⟩

theorem nx_up {r : List It} {s : Nat} (hd : l.drop s = itT .up ++ txt r ++ [32, 59]) : Nx l (s + 1) (ftK r) (.str []) (ftQ r (s + 1)) (ftP r (s + 1)) := by
  have hd' : l.drop s = 94 :: (txt r ++ [32, 59]) := hd
  exact nx_first hl (drop_succ hd')
theorem nx_gd {r : List It} {s : Nat} (hd : l.drop s = itT .gd ++ txt r ++ [32, 59]) : Nx l (s + 1) [105, 100, 101, 110, 116] (.str [80]) (s + 1) (s + 2) ∧ Nx l (s + 2) [41] (.str []) (s + 2) (s + 3) ∧ Nx l (s + 3) (ftK r) (.str []) (ftQ r (s + 3)) (ftP r (s + 3)) := by
  have hd0 : l.drop s = 40 :: 80 :: 41 :: (txt r ++ [32, 59]) := hd
  have hd1 := drop_succ hd0
  have hd2 := drop_succ hd1
  have hd3 := drop_succ hd2
  have := drop_lt hd2
  exact ⟨nx_word (szl hl) (by omega) hd1 rfl rfl rfl rfl rfl, nx_sym (szl hl) (by omega) hd2 rfl rfl rfl rfl rfl rfl, nx_first hl hd3⟩
theorem nx_q {r : List It} {s : Nat} (hd : l.drop s = itT .q ++ txt r ++ [32, 59]) : Nx l (s + 1) [105, 100, 101, 110, 116] (.str [113]) (s + 1) (s + 2) ∧ Nx l (s + 2) (ftK r) (.str []) (ftQ r (s + 2)) (ftP r (s + 2)) := by
  have hd0 : l.drop s = 46 :: 113 :: (txt r ++ [32, 59]) := hd
  have hd1 := drop_succ hd0
  have hd2 := drop_succ hd1
  have := drop_lt hd1
  obtain ⟨c, r', e, e1, e2⟩ := hd_l hl (its := r)
  have e1' : isL ((txt r ++ [32, 59]).take 1) = false := by rw [e]; exact e1
  have e2' : isD ((txt r ++ [32, 59]).take 1) = false := by rw [e]; exact e2
  exact ⟨nx_word (szl hl) (by omega) hd1 rfl rfl e1' e2' rfl, nx_first hl hd2⟩
theorem nx_m {r : List It} {s : Nat} (hd : l.drop s = itT .m ++ txt r ++ [32, 59]) : Nx l (s + 1) [105, 100, 101, 110, 116] (.str [109]) (s + 1) (s + 2) ∧ Nx l (s + 2) [91] (.str []) (s + 2) (s + 3) ∧ Nx l (s + 3) [105, 110, 116] (.int 1) (s + 3) (s + 4) ∧ Nx l (s + 4) [44] (.str []) (s + 4) (s + 5) ∧ Nx l (s + 5) [105, 110, 116] (.int 0) (s + 6) (s + 7) ∧ Nx l (s + 7) [93] (.str []) (s + 7) (s + 8) ∧ Nx l (s + 8) (ftK r) (.str []) (ftQ r (s + 8)) (ftP r (s + 8)) := by
  have hd0 : l.drop s = 46 :: 109 :: (91 :: 49 :: 44 :: 32 :: 48 :: 93 :: (txt r ++ [32, 59])) := hd
  have hd1 := drop_succ hd0
  have hd2 := drop_succ hd1
  have hd3 := drop_succ hd2
  have hd4 := drop_succ hd3
  have hd5 := drop_succ hd4
  have hd6 := drop_succ hd5
  have hd7 := drop_succ hd6
  have hd8 := drop_succ hd7
  have := drop_lt hd7
  exact ⟨nx_word (szl hl) (by omega) hd1 rfl rfl rfl rfl rfl, nx_sym (szl hl) (by omega) hd2 rfl rfl rfl rfl rfl rfl, nx_num (szl hl) (by omega) hd3 rfl (.inr rfl) rfl rfl rfl rfl rfl,
    nx_sym (szl hl) (by omega) hd4 rfl rfl rfl rfl rfl rfl, nx_num1 (szl hl) (by omega) hd5 rfl (.inl rfl) rfl rfl rfl rfl rfl, nx_sym (szl hl) (by omega) hd7 rfl rfl rfl rfl rfl rfl, nx_first hl hd8⟩

theorem ftK_ne (its : List It) : (ftK its == [101, 111, 102]) = false := by
  cases its with
  | nil => rfl
  | cons x r => cases x <;> rfl
theorem tk_ft : ∀ (its : List It) (s : Nat), l.drop s = txt its ++ [32, 59] → ∃ N, Tk l (ftP its s) N ∧ N ≤ (txt its).length
  | [], s, hd => by
    have hd' : l.drop s = 32 :: 59 :: [] := hd
    have := drop_lt (drop_succ hd')
    exact ⟨0, .eof (nx_eof (szl hl) (by show s + 2 ≤ _; omega) (drop_succ (drop_succ hd'))), Nat.zero_le _⟩
  | .up :: r, s, hd => by
    have hd' : l.drop s = 94 :: (txt r ++ [32, 59]) := hd
    obtain ⟨N, T, h⟩ := tk_ft r (s + 1) (drop_succ hd')
    exact ⟨N + 1, .cons (nx_up hl hd) (ftK_ne hl r) T, by show _ ≤ (itT .up ++ txt r).length; rw [List.length_append]; simp [itT]; omega⟩
  | .gd :: r, s, hd => by
    have hd' : l.drop s = 40 :: 80 :: 41 :: (txt r ++ [32, 59]) := hd
    obtain ⟨N, T, h⟩ := tk_ft r (s + 3) (drop_succ (drop_succ (drop_succ hd')))
    obtain ⟨n1, n2, n3⟩ := nx_gd hl hd
    exact ⟨N + 1 + 1 + 1, .cons n1 rfl (.cons n2 rfl (.cons n3 (ftK_ne hl r) T)), by show _ ≤ (itT .gd ++ txt r).length; rw [List.length_append]; simp [itT]; omega⟩
  | .q :: r, s, hd => by
    have hd' : l.drop s = 46 :: 113 :: (txt r ++ [32, 59]) := hd
    obtain ⟨N, T, h⟩ := tk_ft r (s + 2) (drop_succ (drop_succ hd'))
    obtain ⟨n1, n2⟩ := nx_q hl hd
    exact ⟨N + 1 + 1, .cons n1 rfl (.cons n2 (ftK_ne hl r) T), by show _ ≤ (itT .q ++ txt r).length; rw [List.length_append]; simp [itT]; omega⟩
  | .m :: r, s, hd => by
    have hd' : l.drop s = 46 :: 109 :: (91 :: 49 :: 44 :: 32 :: 48 :: 93 :: (txt r ++ [32, 59])) := hd
    obtain ⟨N, T, h⟩ := tk_ft r (s + 8) (drop_succ (drop_succ (drop_succ (drop_succ (drop_succ (drop_succ (drop_succ (drop_succ hd'))))))))
    obtain ⟨n1, n2, n3, n4, n5, n6, n7⟩ := nx_m hl hd
    exact ⟨N + 1 + 1 + 1 + 1 + 1 + 1 + 1, .cons n1 rfl (.cons n2 rfl (.cons n3 rfl (.cons n4 rfl (.cons n5 rfl (.cons n6 rfl (.cons n7 (ftK_ne hl r) T)))))), by show _ ≤ (itT .m ++ txt r).length; rw [List.length_append]; simp [itT]; omega⟩
end


end
section
set_option maxRecDepth 10000

theorem a1 {m n W : Nat} (h : m ≤ n) (k : n ≤ 120) (w : 200 ≤ W) : m + 1 < W + 3 := by omega
theorem a2 {m n W : Nat} (h : m ≤ n) (k : n ≤ 120) (w : 200 ≤ W) : m < W + 3 := by omega
theorem a3 {m n W : Nat} (h : m ≤ n) (k : n ≤ 120) (w : 200 ≤ W) : m < W + 1 := by omega
theorem a4 {n : Nat} (h : ¬ n < 120) (k : n ≤ 120) : n = 120 := by omega
theorem a5 {n : Nat} (h : ¬ n + 1 < 120) (k : n ≤ 120) (q : ¬ n = 119) : n = 120 := by omega
theorem a6 {x y : Nat} {l : List Nat} : 120 < 119 + (x :: y :: l).length := by simp; omega
theorem a7 {x : Nat} {l : List Nat} : 120 < 120 + (x :: l).length := by simp
theorem a8 {w k r : Nat} (h : 3 * (r + 1) + 3 ≤ w + 1) (q : k = 1) : 3 * r + 3 ≤ w := by omega
theorem a9 {s c d : Nat} {l t u : List Nat} (h : l.drop s = t ++ u) : t.length ≤ l.length := by
  have := congrArg List.length h
  rw [List.length_append, List.length_drop] at this; omega
theorem b1 {t N L W : Nat} (h : N ≤ t) (k : t ≤ L) (w : 200 + L ≤ W) : N ≤ W := by omega
theorem b2 {s c t : Nat} : s + (c + t) + 1 = s + c + t + 1 := by omega
theorem b3 {w r : Nat} (h : 3 * (r + 1) + 3 ≤ w) : ∃ w', w = w' + 1 ∧ 3 * r + 3 ≤ w' := ⟨w - 1, by omega⟩
theorem b4 {w r : Nat} (h : 3 * (r + 1) + 3 ≤ w) : ∃ w', w = w' + 2 ∧ 3 * r + 3 ≤ w' + 1 := ⟨w - 2, by omega⟩
theorem b5 {w r : Nat} (h : 3 * (r + 1) + 3 ≤ w) : ∃ w', w = w' + 1 + 2 ∧ 3 * r + 3 ≤ w' + 1 := ⟨w - 3, by omega⟩
theorem b6 {t N L W c : Nat} (h : N ≤ t) (k : t + c ≤ L) (w : 200 + L ≤ W) : N + 7 ≤ W := by omega


noncomputable def Goal (l : List Nat) (W d w : Nat) (ρ : Loc) (H : MHeap) (n : Nat) (cs : List Nat) (e : Nat) (fb : Bool) : Prop :=
  ∃ H' ρ' j, loopW (fun ρ H => evT tb (callF tb (W + 3) (d + 9)) ρ (.bool true) H) (fun ρ H => exSs tb (callF tb (W + 3) (d + 9)) (W + 3) selB ρ H) w ρ H = some (.ret (.ref j), ρ', H') ∧ KA H H' ∧
    (n + cs.length ≤ 120 → (∃ p t, St l H' (n + cs.length) p t [59] (.str []) e) ∧ Er H' 0 [] ∧ getA tb (.ref j) 215776629 H' = some (.ref (if fb then 38 else 33))) ∧
    (120 < n + cs.length → Ov l H' (cs.getD (120 - n) 0))

section
variable {l : List Nat} {H H1 : MHeap} {n p t : Nat} {k : List Nat} {v : MVal} {q : Nat} {W d w e : Nat} {ρ ρ1 : Loc} {cs : List Nat} {fb : Bool}

theorem goal_next (a : List Nat) (h : exSs tb (callF tb (W + 3) (d + 9)) (W + 3) selB ρ H = some (.next, ρ1, H1)) (K : KA H H1) (hn : n + a.length ≤ 120) (g : Goal l W d w ρ1 H1 (n + a.length) cs e fb) : Goal l W d (w + 1) ρ H n (a ++ cs) e fb := by
  obtain ⟨H', ρ', j, g1, g2, g3, g4⟩ := g
  refine ⟨H', ρ', j, ?_, K.trans g2, ?_, ?_⟩
  · rw [loopW_next (H1 := H) rfl h]; exact g1
  · intro x
    rw [List.length_append, ← Nat.add_assoc] at x ⊢
    exact g3 x
  · intro x
    rw [List.length_append, ← Nat.add_assoc] at x
    have := g4 x
    have e1 : (a ++ cs).getD (120 - n) 0 = cs.getD (120 - (n + a.length)) 0 := by
      simp only [List.getD_eq_getElem?_getD]
      rw [List.getElem?_append_right (by omega)]
      congr 2
      omega
    rw [e1]; exact this
theorem goal_ov {i : Nat} {K : Nat} (h : exSs tb (callF tb (W + 3) (d + 9)) (W + 3) selB ρ H = some (.ret (.ref i), ρ1, H1)) (ka : KA H H1) (o : Ov l H1 K) (hn : 120 < n + cs.length) (hK : cs.getD (120 - n) 0 = K) : Goal l W d (w + 1) ρ H n cs e fb := by
  refine ⟨H1, ρ1, i, loopW_ret (H1 := H) rfl h, ka, fun x => absurd x (Nat.not_le.mpr hn), fun _ => by rw [hK]; exact o⟩
/-- a turn that goes over, and the end behind it -/
theorem goal_ov2 {i ki ai : Nat} {K : Nat} {op : List Nat} {pl0 val : MVal} (h : exSs tb (callF tb (W + 3) (d + 9)) (W + 3) selB ρ H = some (.next, ρ1, H1)) (ka : KA H H1) (o : Ov l H1 K) (hn : 120 < n + cs.length) (hK : cs.getD (120 - n) 0 = K)
    (hi : H1[i]? = some (nodeO op pl0 (.ref ai) ki val)) {form : List Nat} (hf : getA tb (.ref ai) 232585319 H1 = some (.str form)) (ho : opOk op) (R : Rho i ρ1) : Goal l W d (w + 2) ρ H n cs e fb := by
  obtain ⟨n', p', t', q', S, o'⟩ := o
  obtain ⟨ρ2, e2⟩ := turn_end (W := W + 3) (d := d + 8) S hi hf ho rfl rfl R
  refine ⟨H1, ρ2, i, ?_, ka, fun x => absurd x (Nat.not_le.mpr hn), fun _ => by rw [hK]; exact ⟨_, _, _, _, S, o'⟩⟩
  rw [loopW_next (H1 := H) rfl h]
  exact loopW_ret (H1 := H1) rfl e2

/-- what a turn finds -/
structure Inv (l : List Nat) (H : MHeap) (n i ai m p t : Nat) (k : List Nat) (q : Nat) (ρ : Loc) : Prop where
  S : St l H n p t k (.str []) q
  c : Cst H
  c2 : Cs2 H
  er : Er H 0 []
  nd : ∃ op pl0 ki val, H[i]? = some (nodeO op pl0 (.ref ai) ki val) ∧ opOk op
  hi : 60 < i
  D : Des H i m
  hm : m ≤ n
  hn : n ≤ 120
  R : Rho i ρ

variable {i ai m : Nat}
theorem form_38 (c : Cst H) : getA tb (.ref 38) 232585319 H = some (.str [112, 111, 105, 110, 116, 101, 114]) := ty_form c.c38
theorem form_33 (c : Cst H) : getA tb (.ref 33) 232585319 H = some (.str [114, 101, 99, 111, 114, 100]) := ty_form c.c33
theorem form_47 (c : Cst H) : getA tb (.ref 47) 232585319 H = some (.str [97, 114, 114, 97, 121]) := ty_form c.c47

theorem inv_any (I : Inv l H 120 i ai m p t k q ρ) {N : Nat} (T : Tk l p N) (hN : N ≤ W) {form : List Nat} (hf : getA tb (.ref ai) 232585319 H = some (.str form)) (h1 : ([[46], [91], [94]] : List (List Nat)).contains k = true) (hn : 0 < cs.length) (hK : cs.getD 0 0 = q) : Goal l W d (w + 1) ρ H 120 cs e fb := by
  obtain ⟨op, pl0, ki, val, h, ho⟩ := I.nd
  obtain ⟨ρ', H', e1, K, o⟩ := ov_any (W := W + 1) (d := d) I.S I.c I.er T (Nat.le_succ_of_le hN) h1 h hf ho I.R
  exact goal_ov e1 K o (Nat.lt_add_of_pos_right hn) hK

/-- '[1, 0]' -/
theorem inv_index (hW : 200 ≤ W) {r : List It} {s : Nat} (I : Inv l H n i 47 m (s + 3) t [91] (s + 2) ρ) {N N2 : Nat} (T : Tk l (s + 3) N) (T2 : Tk l (s + 7) N2) (hN : N ≤ W) (hN2 : N2 ≤ W)
    (n3 : Nx l (s + 3) [105, 110, 116] (.int 1) (s + 3) (s + 4)) (n4 : Nx l (s + 4) [44] (.str []) (s + 4) (s + 5)) (n5 : Nx l (s + 5) [105, 110, 116] (.int 0) (s + 6) (s + 7)) (n6 : Nx l (s + 7) [93] (.str []) (s + 7) (s + 8)) (n7 : Nx l (s + 8) (ftK r) (.str []) (ftQ r (s + 8)) (ftP r (s + 8)))
    (g : ∀ H' t' j m' ρ', KA H H' → Inv l H' (n + 2) j 38 m' (ftP r (s + 8)) t' (ftK r) (ftQ r (s + 8)) ρ' → Goal l W d (w + 1) ρ' H' (n + 2) cs e fb) :
    Goal l W d (w + 2) ρ H n ([s + 2, s + 6] ++ cs) e fb := by
  obtain ⟨op, pl0, ki, val, h, ho⟩ := I.nd
  have hn := I.hn
  by_cases h1 : n + 1 < 120
  · obtain ⟨H', t', j, kj, ρ', e1, R', S', K', hj, h', D'⟩ := turn_index (W := W) (d := d) I.S I.c I.c2 n3 n4 n5 n6 n7 h1 I.hi h ho I.D (a1 I.hm hn hW) I.R
    exact goal_next [s + 2, s + 6] e1 K'.ka h1 (g H' t' j _ ρ' K'.ka ⟨S', I.c.keep K', I.c2.keep K', I.er.keep K', ⟨_, _, _, _, h', rfl⟩, hj, D', Nat.add_le_add_right I.hm 2, h1, R'⟩)
  · by_cases h2 : n = 119
    · subst h2
      obtain ⟨H', j, kj, ρ', e1, R', K', o, h'⟩ := ov_index (W := W) (d := d) I.S I.c I.c2 I.er n3 n4 n5 T2 (Nat.le_succ_of_le hN2) I.hi h ho I.D (a1 I.hm hn hW) I.R
      exact goal_ov2 e1 K' o a6 rfl h' (form_38 (K'.cst I.c)) rfl R'
    · have := a5 h1 hn h2
      subst this
      exact inv_any I T hN (form_47 I.c) rfl (Nat.succ_pos _) rfl

/-- '.q' or '.m' -/
theorem inv_field (hW : 200 ≤ W) {name : List Nat} {f ty : Nat} {k2 : List Nat} {q2 p2 : Nat} (F : Fd name f (.ref ty)) {b : Bool} {s : Nat} (I : Inv l H n i (if b then 38 else 33) m (s + 1) t [46] s ρ) {N N2 : Nat} (T : Tk l (s + 1) N) (T2 : Tk l (s + 2) N2) (hN : N ≤ W) (hN2 : N2 ≤ W)
    (n1 : Nx l (s + 1) [105, 100, 101, 110, 116] (.str name) (s + 1) (s + 2)) (n2 : Nx l (s + 2) k2 (.str []) q2 p2)
    (g : ∀ H' t' j m' ρ' n', n' = n + (if b then 2 else 1) → KA H H' → Inv l H' n' j ty m' p2 t' k2 q2 ρ' → Goal l W d (w + 1) ρ' H' n' cs e fb) :
    Goal l W d (w + 2) ρ H n ((s :: (if b then [s + 1] else [])) ++ cs) e fb := by
  obtain ⟨op, pl0, ki, val, h, ho⟩ := I.nd
  have hn := I.hn
  cases b with
  | false =>
    by_cases h1 : n < 120
    · obtain ⟨H', t', j, kj, ρ', e1, R', S', K', hj, h', D'⟩ := turn_frec (W := W) (d := d) I.S I.c F n1 n2 h1 I.hi h ho I.D (a2 I.hm hn hW) I.R
      exact goal_next [s] e1 K'.ka h1 (g H' t' j _ ρ' _ rfl K'.ka ⟨S', I.c.keep K', I.c2.keep K', I.er.keep K', ⟨_, _, _, _, h', rfl⟩, hj, D', Nat.add_le_add_right I.hm 1, h1, R'⟩)
    · have := a4 h1 hn
      subst this
      exact inv_any I T hN (form_33 I.c) rfl (Nat.succ_pos _) rfl
  | true =>
    by_cases h1 : n + 1 < 120
    · obtain ⟨H', t', j, kj, ρ', e1, R', S', K', hj, h', D'⟩ := turn_fptr (W := W) (d := d) I.S I.c F n1 n2 h1 I.hi h ho I.D (a2 I.hm hn hW) I.R
      exact goal_next [s, s + 1] e1 K'.ka h1 (g H' t' j _ ρ' _ rfl K'.ka ⟨S', I.c.keep K', I.c2.keep K', I.er.keep K', ⟨_, _, _, _, h', rfl⟩, hj, D', Nat.le_add_left 1 (n + 1), h1, R'⟩)
    · by_cases h2 : n = 119
      · subst h2
        obtain ⟨H', ρ', e1, R', K', o⟩ := ov_fptr (W := W) (d := d) I.S I.c I.er n1 T2 (Nat.le_succ_of_le hN2) (m := m) I.hi h ho I.R
        exact goal_ov2 e1 K' o a6 rfl (K'.at h I.hi) (form_38 (K'.cst I.c)) ho R'
      · have := a5 h1 hn h2
        subst this
        exact inv_any I T hN (form_38 I.c) rfl (Nat.succ_pos _) rfl
end

section
variable {l : List Nat}
theorem tk_mono : True := trivial
theorem sel_run (hl : l.length ≤ 90000) {W d : Nat} (hW : 200 + l.length ≤ W) : ∀ (its : List It) (b : Bool) (s n : Nat) (ρ : Loc) (i m t : Nat) (H : MHeap), l.drop s = txt its ++ [32, 59] → okI its b = true →
    Inv l H n i (if b then 38 else 33) m (ftP its s) t (ftK its) (ftQ its s) ρ → ∀ w, 3 * its.length + 3 ≤ w → Goal l W d w ρ H n (cnt its b s) (s + (txt its).length + 1) (fnl its b)
  | [], b, s, n, ρ, i, m, t, H, hd, hok, I, w, hw => by
    obtain ⟨w, rfl⟩ : ∃ w', w = w' + 1 := ⟨w - 1, by omega⟩
    obtain ⟨op, pl0, ki, val, h, ho⟩ := I.nd
    have hf : ∃ form, getA tb (.ref (if b then 38 else 33)) 232585319 H = some (.str form) := by
      cases b
      · exact ⟨_, form_33 I.c⟩
      · exact ⟨_, form_38 I.c⟩
    obtain ⟨form, hf⟩ := hf
    obtain ⟨ρ', e1⟩ := turn_end (W := W + 3) (d := d + 8) I.S h hf ho rfl rfl I.R
    refine ⟨H, ρ', i, loopW_ret (H1 := H) rfl e1, KA.refl H, fun _ => ⟨⟨_, _, I.S⟩, I.er, node_type h⟩, fun x => absurd x (by have := I.hn; show ¬ 120 < n + 0; omega)⟩
  | .up :: r, b, s, n, ρ, i, m, t, H, hd, hok, I, w, hw => by
    have hb : b = true ∧ okI r false = true := by
      have := hok
      rw [okI, Bool.and_eq_true] at this
      exact this
    obtain ⟨rfl, hok'⟩ := hb
    obtain ⟨w, rfl, hw'⟩ := b3 hw
    obtain ⟨N, T, hN⟩ := tk_ft hl _ s hd
    have hlen := a9 (c := 0) (d := 0) hd
    obtain ⟨op, pl0, ki, val, h, ho⟩ := I.nd
    have hn := I.hn
    have e0 : s + (txt (.up :: r)).length + 1 = s + 1 + (txt r).length + 1 := by
      show s + (itT .up ++ txt r).length + 1 = _
      rw [List.length_append]; simp [itT]; omega
    rw [e0]
    show Goal l W d (w + 1) ρ H n ([s] ++ cnt r false (s + 1)) _ (fnl r false)
    by_cases h1 : n < 120
    · obtain ⟨H', t', j, kj, ρ', e1, R', S', K', hj, h'⟩ := turn_deref (W := W) (d := d) I.S I.c (nx_up hl hd) h1 I.hi h ho I.D (a2 I.hm hn (Nat.le_trans (Nat.le_add_right _ _) hW)) I.R
      have hd' : l.drop s = 94 :: (txt r ++ [32, 59]) := hd
      exact goal_next [s] e1 K'.ka h1 (sel_run hl hW r false (s + 1) (n + 1) ρ' j 0 t' H' (drop_succ hd') hok' ⟨S', I.c.keep K', I.c2.keep K', I.er.keep K', ⟨_, _, _, _, h', rfl⟩, hj, .base h' hj (.inr rfl), Nat.zero_le _, h1, R'⟩ w hw')
    · have := a4 h1 hn
      subst this
      exact inv_any I T (b1 hN hlen hW) (form_38 I.c) rfl (Nat.succ_pos _) rfl
  | .gd :: r, b, s, n, ρ, i, m, t, H, hd, hok, I, w, hw => by
    have hb : b = true ∧ okI r true = true := by
      have := hok
      rw [okI, Bool.and_eq_true] at this
      exact this
    obtain ⟨rfl, hok'⟩ := hb
    obtain ⟨w, rfl, hw'⟩ := b3 hw
    obtain ⟨N, T, hN⟩ := tk_ft hl _ s hd
    have hlen := a9 (c := 0) (d := 0) hd
    obtain ⟨op, pl0, ki, val, h, ho⟩ := I.nd
    have hn := I.hn
    have e0 : s + (txt (.gd :: r)).length + 1 = s + 3 + (txt r).length + 1 := by
      show s + (itT .gd ++ txt r).length + 1 = _
      rw [List.length_append]; simp [itT]; omega
    rw [e0]
    show Goal l W d (w + 1) ρ H n ([s] ++ cnt r true (s + 3)) _ (fnl r true)
    obtain ⟨n1, n2, n3⟩ := nx_gd hl hd
    by_cases h1 : n < 120
    · obtain ⟨H', t', j, kj, ρ', e1, R', S', K', hj, h', D'⟩ := turn_guard (W := W) (d := d) I.S I.c I.c2 n1 n2 n3 h1 I.hi h ho I.D (a3 I.hm hn (Nat.le_trans (Nat.le_add_right _ _) hW)) I.R
      have hd' : l.drop s = 40 :: 80 :: 41 :: (txt r ++ [32, 59]) := hd
      exact goal_next [s] e1 K'.ka h1 (sel_run hl hW r true (s + 3) (n + 1) ρ' j _ t' H' (drop_succ (drop_succ (drop_succ hd'))) hok' ⟨S', I.c.keep K', I.c2.keep K', I.er.keep K', ⟨_, _, _, _, h', rfl⟩, hj, D', Nat.add_le_add_right I.hm 1, h1, R'⟩ w hw')
    · have := a4 h1 hn
      subst this
      obtain ⟨ρ', H', e1, K, o⟩ := ov_par (W := W + 1) (d := d) I.S I.c I.er T (Nat.le_succ_of_le (b1 hN hlen hW)) h ho I.R
      exact goal_ov e1 K o a7 rfl
  | .q :: r, b, s, n, ρ, i, m, t, H, hd, hok, I, w, hw => by
    have hok' : okI r true = true := by
      have := hok
      rw [okI, Bool.and_eq_true] at this
      exact this.2
    obtain ⟨w, rfl, hw'⟩ := b4 hw
    obtain ⟨n1, n2⟩ := nx_q hl hd
    have hd' : l.drop s = 46 :: 113 :: (txt r ++ [32, 59]) := hd
    have hd2 := drop_succ (drop_succ hd')
    obtain ⟨N, T', hN⟩ := tk_ft hl r (s + 2) hd2
    have T2 : Tk l (s + 2) (N + 1) := .cons n2 (ftK_ne hl r) T'
    have e0 : (txt (.q :: r)).length = (txt r).length + 2 := by
      show (itT .q ++ txt r).length = _
      rw [List.length_append]; simp [itT]; omega
    have hlen := a9 (c := 0) (d := 0) hd
    rw [e0] at hlen
    have e1 : s + (txt (.q :: r)).length + 1 = s + 2 + (txt r).length + 1 := by omega
    rw [e1]
    show Goal l W d (w + 2) ρ H n ((s :: (if b then [s + 1] else [])) ++ cnt r true (s + 2)) _ (fnl r true)
    exact inv_field (Nat.le_trans (Nat.le_add_right _ _) hW) .q I (.cons n1 rfl T2) T2 (Nat.le_trans (Nat.le_add_right _ 5) (b6 hN hlen hW)) (Nat.le_trans (Nat.le_add_right _ 6) (b6 hN hlen hW)) n1 n2 (fun H' t' j m' ρ' n' hn' K' I' => by
      exact sel_run hl hW r true (s + 2) n' ρ' j m' t' H' hd2 hok' I' (w + 1) hw')
  | .m :: r, b, s, n, ρ, i, m, t, H, hd, hok, I, w, hw => by
    have hok' : okI r true = true := by
      have := hok
      rw [okI, Bool.and_eq_true] at this
      exact this.2
    obtain ⟨w, rfl, hw'⟩ := b5 hw
    obtain ⟨n1, n2, n3, n4, n5, n6, n7⟩ := nx_m hl hd
    have hd' : l.drop s = 46 :: 109 :: (91 :: 49 :: 44 :: 32 :: 48 :: 93 :: (txt r ++ [32, 59])) := hd
    have hd2 := drop_succ (drop_succ (drop_succ (drop_succ (drop_succ (drop_succ (drop_succ (drop_succ hd')))))))
    obtain ⟨N, T', hN⟩ := tk_ft hl r (s + 8) hd2
    have T7 : Tk l (s + 7) (N + 1 + 1) := .cons n6 rfl (.cons n7 (ftK_ne hl r) T')
    have T3 : Tk l (s + 3) (N + 1 + 1 + 1 + 1 + 1) := .cons n3 rfl (.cons n4 rfl (.cons n5 rfl T7))
    have T2 : Tk l (s + 2) (N + 1 + 1 + 1 + 1 + 1 + 1) := .cons n2 rfl T3
    have e0 : (txt (.m :: r)).length = (txt r).length + 8 := by
      show (itT .m ++ txt r).length = _
      rw [List.length_append]; simp [itT]; omega
    have hlen := a9 (c := 0) (d := 0) hd
    rw [e0] at hlen
    have e1 : s + (txt (.m :: r)).length + 1 = s + 8 + (txt r).length + 1 := by omega
    rw [e1]
    have e2 : cnt (.m :: r) b s = (s :: (if b then [s + 1] else [])) ++ ([s + 2, s + 6] ++ cnt r true (s + 8)) := by
      show (s :: ((if b then [s + 1] else []) ++ [s + 2, s + 6])) ++ cnt r true (s + 8) = _
      simp
    rw [e2]
    show Goal l W d (w + 1 + 2) ρ H n _ _ (fnl r true)
    exact inv_field (Nat.le_trans (Nat.le_add_right _ _) hW) .m I (.cons n1 rfl T2) T2 (Nat.le_trans (Nat.le_add_right _ 0) (b6 hN hlen hW)) (Nat.le_trans (Nat.le_add_right _ 1) (b6 hN hlen hW)) n1 n2 (fun H' t' j m' ρ' n' hn' K' I' => by
      have := inv_index (W := W) (d := d) (w := w) (fb := fnl r true) (cs := cnt r true (s + 8)) (e := s + 8 + (txt r).length + 1) (Nat.le_trans (Nat.le_add_right _ _) hW) I' T3 T7 (Nat.le_trans (Nat.le_add_right _ 2) (b6 hN hlen hW)) (Nat.le_trans (Nat.le_add_right _ 5) (b6 hN hlen hW)) n3 n4 n5 n6 n7 (fun H'' t'' j' m'' ρ'' K'' I'' => sel_run hl hW r true (s + 8) (n' + 2) ρ'' j' m'' t'' H'' hd2 hok' I'' (w + 1) hw')
      exact this)
end


end
section
set_option maxRecDepth 10000

theorem b134_eq : b134 = .cons (.whl (.bool true) selB) .nil := rfl
theorem selectors_ {l : List Nat} (hl : l.length ≤ 90000) {W d : Nat} (hW : 200 + l.length ≤ W) {its : List It} {b : Bool} {s n i m t : Nat} {H : MHeap} (hd : l.drop s = txt its ++ [32, 59]) (hok : okI its b = true)
    (I : Inv l H n i (if b then 38 else 33) m (ftP its s) t (ftK its) (ftQ its s) [(13043, .ref 59), (215578735, .ref i), (1031924933504939097318, .fn 648)]) (hw : 3 * its.length ≤ W) :
    ∃ H' j, callF tb (W + 3) (d + 10) 134 [.ref 59, .ref i, .fn 648] H = some (.ref j, H') ∧ KA H H' ∧
    (n + (cnt its b s).length ≤ 120 → (∃ p t, St l H' (n + (cnt its b s).length) p t [59] (.str []) (s + (txt its).length + 1)) ∧ Er H' 0 [] ∧ getA tb (.ref j) 215776629 H' = some (.ref (if fnl its b then 38 else 33))) ∧
    (120 < n + (cnt its b s).length → Ov l H' ((cnt its b s).getD (120 - n) 0)) := by
  obtain ⟨H', ρ', j, e, K, a1, a2⟩ := sel_run hl hW (d := d) its b s n _ i m t H hd hok I (W + 3) (by omega)
  refine ⟨H', j, ?_, K, a1, a2⟩
  apply callF_go2 (ρ := [(13043, .ref 59), (215578735, .ref i), (1031924933504939097318, .fn 648)]) (o := .ret (.ref j)) rfl rfl rfl
  rw [b134_eq, whl_ret e]

/-- a draw -/
theorem place_ok {i n : Nat} (h : i < n) : place (i : Int) n = some i := by
  unfold place
  have : (i : Int).toNat = i := by omega
  rw [if_pos (by omega), this, if_pos h]
theorem take_ {W d : Nat} {H : MHeap} (row : List Int) (hr : row.length ≤ 40) {a most : Nat} (ha : a ≤ 60) (h1 : H[1]? = some (.list (row.map .int))) (h2 : H[2]? = some (.list [.ref 1, .int a])) (hm : 0 < most) :
    ∃ v : Nat, v < most ∧ callF tb W (d + 1) 641 [.ref 2, .int most] H = some (.int v, H.set 2 (.list [.ref 1, .int ((a : Int) + 1)])) := by
  have g1 : (H.set 2 (.list [.ref 1, .int ((a : Int) + 1)]))[1]? = some (.list (row.map .int)) := by rw [List.getElem?_set_ne (by decide)]; exact h1
  have st : storeI (.ref 2) (.int 1) (.int ((a : Int) + 1)) H = some (H.set 2 (.list [.ref 1, .int ((a : Int) + 1)])) := by
    unfold storeI
    simp only [h2]
    rfl
  generalize hB : H.set 2 (.list [.ref 1, .int ((a : Int) + 1)]) = B at g1 st
  have ss : szLine = 1048576 := by decide
  cases row with
  | nil =>
    refine ⟨0, hm, ?_⟩
    have g1 : B[1]? = some (.list []) := g1
    apply callF_go2 (ρ := [(27627404020, .ref 2), (247281774, .int most)]) (o := .ret (.int 0)) rfl rfl rfl
    (have zz0 := h2; have zz1 := st; have zz2 := g1; (repeat' (first|with_reducible (first|assumption|exact xNil|apply xCons|apply nxN|exact nxR|exact nxB|exact nxC|apply eLoc|apply eAttr|apply eMeth|apply mcFn|exact eInt|exact eStr|exact esNil|apply esCons|apply eGlob|apply eCall|apply cvFn|apply xExpr|apply xRet|apply xSetL|apply xIte|apply xSetA|apply xSetI|apply xUnp|apply xAugA|exact xBrk|exact xCont|apply xWhl|apply lwStep|apply gtT|exact gtF|apply gwN|exact gwR|apply ifT|apply ifF|apply tAnd|apply tOr|apply tNot|exact alNil|apply alCons|exact ayNil|apply ayCons|apply tPlain|apply eCmp|apply eBin|apply eIdx|apply eSlc|apply eBi|exact eNone|exact eBool|apply eInT|apply eIsN|apply eEqNil|apply eNot|apply eIte|apply eList|apply eTup|apply eCel|exact eNeg|exact eDict0|apply eAnd|apply eOr|apply anOne|apply anTwo|apply orOne|apply orTwo|exact bAdd|exact bSub|apply cEqS|apply cNeS|apply cEqI|apply cNeI|apply cLt|apply cLe|apply cGt|apply cGe|apply cLtS|apply cLeS|apply cInS)|((with_reducible apply lkHit); exact Eq.refl true)|((with_reducible apply lkHere); exact Eq.refl true)|((with_reducible apply lkMiss); exact Eq.refl false)|((with_reducible apply lkNext); exact Eq.refl false)|with_reducible apply xForS|((with_reducible apply lfE); (with_reducible assumption))|((with_reducible apply lfN); (with_reducible assumption))|((with_reducible apply setAt_last) <;> exact Eq.refl true)|exact Eq.refl true|exact Eq.refl false|exact xNil|with_reducible exact nxR|(apply xCons)|(apply xSetL)|(apply xExpr)|(apply xIte)|(apply xRet)|(apply xSetA)|exact rfl)))
  | cons x r =>
    generalize hrow : x :: r = row at *
    have hne : 0 < row.length := by rw [← hrow]; simp
    have hnil : row.isEmpty = false := by rw [← hrow]; rfl
    have hnil' : (row.map MVal.int).isEmpty = false := by rw [← hrow]; rfl
    have hlen : (row.map MVal.int).length = row.length := List.length_map _
    have ln : builtin .len [.ref 1] B = some (.int row.length) := by
      show (B[1]?).bind lenO = _
      rw [g1]
      show (if (row.map MVal.int).length ≤ szLine then some (MVal.int ((row.map MVal.int).length : Nat)) else none) = _
      rw [hlen, if_pos (by omega)]
    have k1 : Int.fmod (a : Int) (row.length : Int) = ((a % row.length : Nat) : Int) := by
      rw [Int.fmod_eq_emod_of_nonneg _ (by omega)]; rfl
    have k2 : Int.fdiv (a : Int) (row.length : Int) = ((a / row.length : Nat) : Int) := by
      rw [Int.fdiv_eq_ediv_of_nonneg _ (by omega)]; rfl
    have hlt : a % row.length < row.length := Nat.mod_lt _ hne
    have hle : a / row.length ≤ a := Nat.div_le_self _ _
    generalize hD : a / row.length = D at k2 hle
    have b1 : binop .mod (.int a) (.int row.length) B = some (.int ((a % row.length : Nat) : Int), B) := by
      rw [bMod (by omega), k1]
    have b2 : binop .fdiv (.int a) (.int row.length) B = some (.int (D : Int), B) := by
      have q40 : (40 : Int) ≤ 2 ^ 200 := by decide
      rw [bDiv ⟨by omega, by omega⟩, k2]
    have b3 : binop .pow (.int 7) (.int (D : Int)) B = some (.int ((7 ^ D : Nat) : Int), B) := by
      rw [bPow ⟨by omega, by omega⟩]
      have : (D : Int).toNat = D := by omega
      rw [this, Int.natCast_pow]; rfl
    have ix : index (.ref 1) (.int ((a % row.length : Nat) : Int)) B = some (.int row[a % row.length]) := by
      unfold index
      simp only [g1]
      rw [hlen, if_pos (by omega), place_ok hlt]
      simp [hlt]
    have p7 : (7 : Nat) ^ D ≤ 7 ^ 60 := Nat.pow_le_pow_right (by decide) (by omega)
    have p0 : 0 < (7 : Nat) ^ D := Nat.pow_pos (by decide)
    generalize hz : row[a % row.length] = z at ix
    have ab : builtin .abs [.int z] B = some (.int (z.natAbs : Int)) := rfl
    generalize hP : (7 : Nat) ^ D = P at b3 p7 p0
    have b4 : binop .fdiv (.int z.natAbs) (.int (P : Int)) B = some (.int ((z.natAbs / P : Nat) : Int), B) := by
      have h200 : ((7 : Nat) ^ 60 : Nat) ≤ 2 ^ 200 := by decide
      have : ((P : Nat) : Int) ≤ 2 ^ 200 := by
        have : P ≤ 2 ^ 200 := Nat.le_trans p7 h200
        exact_mod_cast this
      rw [bDiv ⟨by omega, this⟩, Int.fdiv_eq_ediv_of_nonneg _ (by omega)]; rfl
    have b5 : binop .mod (.int ((z.natAbs / P : Nat) : Int)) (.int most) B = some (.int ((z.natAbs / P % most : Nat) : Int), B) := by
      rw [bMod (by omega), Int.fmod_eq_emod_of_nonneg _ (by omega)]; rfl
    refine ⟨z.natAbs / P % most, Nat.mod_lt _ hm, ?_⟩
    have q : (false != (row.map MVal.int).isEmpty) = false := by rw [hnil']; rfl
    apply callF_go2 (ρ := [(27627404020, .ref 2), (247281774, .int most)]) (o := .ret (.int ((z.natAbs / P % most : Nat) : Int))) rfl rfl rfl
    (have zz0 := h2; have zz1 := st; have zz2 := g1; have zz3 := q; have zz4 := ln; have zz5 := ix; have zz6 := ab; (repeat' (first|with_reducible (first|assumption|exact xNil|apply xCons|apply nxN|exact nxR|exact nxB|exact nxC|apply eLoc|apply eAttr|apply eMeth|apply mcFn|exact eInt|exact eStr|exact esNil|apply esCons|apply eGlob|apply eCall|apply cvFn|apply xExpr|apply xRet|apply xSetL|apply xIte|apply xSetA|apply xSetI|apply xUnp|apply xAugA|exact xBrk|exact xCont|apply xWhl|apply lwStep|apply gtT|exact gtF|apply gwN|exact gwR|apply ifT|apply ifF|apply tAnd|apply tOr|apply tNot|exact alNil|apply alCons|exact ayNil|apply ayCons|apply tPlain|apply eCmp|apply eBin|apply eIdx|apply eSlc|apply eBi|exact eNone|exact eBool|apply eInT|apply eIsN|apply eEqNil|apply eNot|apply eIte|apply eList|apply eTup|apply eCel|exact eNeg|exact eDict0|apply eAnd|apply eOr|apply anOne|apply anTwo|apply orOne|apply orTwo|exact bAdd|exact bSub|apply cEqS|apply cNeS|apply cEqI|apply cNeI|apply cLt|apply cLe|apply cGt|apply cGe|apply cLtS|apply cLeS|apply cInS)|((with_reducible apply lkHit); exact Eq.refl true)|((with_reducible apply lkHere); exact Eq.refl true)|((with_reducible apply lkMiss); exact Eq.refl false)|((with_reducible apply lkNext); exact Eq.refl false)|with_reducible apply xForS|((with_reducible apply lfE); (with_reducible assumption))|((with_reducible apply lfN); (with_reducible assumption))|((with_reducible apply setAt_last) <;> exact Eq.refl true)|exact Eq.refl true|exact Eq.refl false|exact xNil|with_reducible exact nxR|(apply xCons)|(apply xSetL)|(apply xExpr)|(apply xIte)|(apply xRet)|(apply xSetA)|exact rfl)))


end
section
set_option maxRecDepth 10000

noncomputable abbrev CC : CallF := callF tb 2003 20
noncomputable def pre1 : MSs := .cons l1 (.cons l2 (.cons l3 (.cons l4 (.cons l5 (.cons l6 (.cons l7 (.cons l8 (.cons l9 (.cons l10 (.cons l11 .nil))))))))))
noncomputable def restA : List MObj := [.inst 426 [(509311683770468, .int 11), (30049843180, .ref 4), (491578027948131, .ref 5), (242791652, .ref 9), (215842147, .ref 13), (509308175218666, .ref 17), (228405614, .ref 21), (1799535, .ref 25), (215742575, .ref 29)], .dict [(.tkey 37 [77] [82], .ref 33), (.tkey 42 [77] [80], .ref 38)], .inst 369 [(3978959764335, .int 1), (232585319, .str [98, 111, 111, 108, 101, 97, 110]), (215938420, .int 1), (215822691, .none), (3639399412589, .int 0), (4013071906151, .ref 6), (29475337069, .int 0), (4015464968561, .ref 7), (3534201911406, .str []), (29475008877, .str []), (3841524856169, .ref 8), (236715238, .int 0)], .list [], .list [], .list [], .inst 369 [(3978959764335, .int 2), (232585319, .str [99, 104, 97, 114]), (215938420, .int 1), (215822691, .none), (3639399412589, .int 0), (4013071906151, .ref 10), (29475337069, .int 0), (4015464968561, .ref 11), (3534201911406, .str []), (29475008877, .str []), (3841524856169, .ref 12), (236715238, .int 0)], .list [], .list [], .list [], .inst 369 [(3978959764335, .int 3), (232585319, .str [98, 121, 116, 101]), (215938420, .int 1), (215822691, .none), (3639399412589, .int 0), (4013071906151, .ref 14), (29475337069, .int 0), (4015464968561, .ref 15), (3534201911406, .str []), (29475008877, .str []), (3841524856169, .ref 16), (236715238, .int 0)], .list [], .list [], .list [], .inst 369 [(3978959764335, .int 4), (232585319, .str [105, 110, 116, 101, 103, 101, 114]), (215938420, .int 4), (215822691, .none), (3639399412589, .int 0), (4013071906151, .ref 18), (29475337069, .int 0), (4015464968561, .ref 19), (3534201911406, .str []), (29475008877, .str []), (3841524856169, .ref 20), (236715238, .int 0)], .list [], .list [], .list [], .inst 369 [(3978959764335, .int 5), (232585319, .str [115, 101, 116]), (215938420, .int 4), (215822691, .none), (3639399412589, .int 0), (4013071906151, .ref 22), (29475337069, .int 0), (4015464968561, .ref 23), (3534201911406, .str []), (29475008877, .str []), (3841524856169, .ref 24), (236715238, .int 0)], .list [], .list [], .list [], .inst 369 [(3978959764335, .int 6), (232585319, .str [110, 105, 108]), (215938420, .int 4), (215822691, .none), (3639399412589, .int 0), (4013071906151, .ref 26), (29475337069, .int 0), (4015464968561, .ref 27), (3534201911406, .str []), (29475008877, .str []), (3841524856169, .ref 28), (236715238, .int 0)], .list [], .list [], .list [], .inst 369 [(3978959764335, .int 7), (232585319, .str [110, 111, 110, 101]), (215938420, .int 0), (215822691, .none), (3639399412589, .int 0), (4013071906151, .ref 30), (29475337069, .int 0), (4015464968561, .ref 31), (3534201911406, .str []), (29475008877, .str []), (3841524856169, .ref 32), (236715238, .int 0)], .list [], .list [], .list [], .inst 369 [(3978959764335, .int 8), (232585319, .str [114, 101, 99, 111, 114, 100]), (215938420, .int 32), (215822691, .none), (3639399412589, .int 0), (4013071906151, .ref 53), (29475337069, .int 0), (4015464968561, .ref 35), (3534201911406, .str [77]), (29475008877, .str [82]), (3841524856169, .ref 36), (236715238, .int 0)], .list [], .list [], .list [], .tup [.str [77], .str [82]], .inst 369 [(3978959764335, .int 9), (232585319, .str [112, 111, 105, 110, 116, 101, 114]), (215938420, .int 4), (215822691, .ref 33), (3639399412589, .int 0), (4013071906151, .ref 39), (29475337069, .int 0), (4015464968561, .ref 40), (3534201911406, .str [77]), (29475008877, .str [80]), (3841524856169, .ref 41), (236715238, .int 0)], .list [], .list [], .list [], .tup [.str [77], .str [80]], .inst 369 [(3978959764335, .int 10), (232585319, .str [97, 114, 114, 97, 121]), (215938420, .int 8), (215822691, .ref 38), (3639399412589, .int 2), (4013071906151, .ref 44), (29475337069, .int 0), (4015464968561, .ref 45), (3534201911406, .str []), (29475008877, .str []), (3841524856169, .ref 46), (236715238, .int 0)], .list [], .list [], .list [], .inst 369 [(3978959764335, .int 11), (232585319, .str [97, 114, 114, 97, 121]), (215938420, .int 24), (215822691, .ref 43), (3639399412589, .int 3), (4013071906151, .ref 48), (29475337069, .int 0), (4015464968561, .ref 49), (3534201911406, .str []), (29475008877, .str []), (3841524856169, .ref 50), (236715238, .int 0)], .list [], .list [], .list [], .inst 390 [(215724399, .str [113]), (213644652, .str [102, 105, 101, 108, 100]), (215776629, .ref 38), (27591751409, .int 0), (57310597235899622, .bool false), (69163125596271475, .bool false), (29475337069, .int 0), (3534201911406, .str []), (27629678967, .none), (247215860, .int 0), (4047714776048, .int 0), (3978959764335, .int 0), (487183448046186, .bool false), (57310699516129647, .none)], .inst 390 [(215724399, .str [109]), (213644652, .str [102, 105, 101, 108, 100]), (215776629, .ref 47), (27591751409, .int 0), (57310597235899622, .bool false), (69163125596271475, .bool false), (29475337069, .int 0), (3534201911406, .str []), (27629678967, .none), (247215860, .int 0), (4047714776048, .int 0), (3978959764335, .int 0), (487183448046186, .bool false), (57310699516129647, .none)], .list [.ref 51, .ref 52]]
noncomputable def hpA (row : List MVal) (a : Int) : MHeap := .cell (.ref 2) :: .list row :: .list [.ref 1, .int a] :: restA
noncomputable def rh0 : Loc := [(27627404020, .ref 0)]
noncomputable def rhA : Loc := [(27627404020, .ref 0), (31354289525, .ref 3), (3501440185203, .ref 33), (509311683573873, .ref 38), (242921841, .ref 43), (27596223733, .ref 47)]
theorem pre1_ (row : List MVal) : exSs tb CC 2003 pre1 rh0 [.cell (.ref 2), .list row, .list [.ref 1, .int 0]] = some (.next, rhA, hpA row 0) := by kernel_rfl


end
section
set_option maxRecDepth 10000

theorem hpA_set (row : List MVal) (a : Int) : (hpA row a).set 2 (.list [.ref 1, .int (a + 1)]) = hpA row (a + 1) := rfl
theorem hpA0 (row : List MVal) (a : Int) : (hpA row a)[0]? = some (.cell (.ref 2)) := rfl
theorem take_A (row : List Int) (hr : row.length ≤ 40) {a most : Nat} (ha : a ≤ 60) (hm : 0 < most) : ∃ v : Nat, v < most ∧ callF tb 2003 20 641 [.ref 2, .int most] (hpA (row.map .int) a) = some (.int v, hpA (row.map .int) (a + 1 : Nat)) :=
  take_ (W := 2003) (d := 19) row hr ha rfl rfl hm

theorem tk_ev {ρ : Loc} {H H' : MHeap} {v : MVal} {k : Int} (hs : lk 27627404020 ρ = some (.ref 0)) (hc : H[0]? = some (.cell (.ref 2))) (e : CC 641 [.ref 2, .int k] H = some (v, H')) : evE tb CC ρ (.call (.glob 7411108241508710112) (.cons (.cel 27627404020) (.cons (.int k) .nil))) H = some (v, H') :=
  eCall (eGlob rfl) (esCons (eCel hs hc) (esCons eInt esNil)) (cvFn rfl e)
noncomputable def pt (ks : List Nat) : List MVal := ks.map fun (k : Nat) => MVal.int (k : Int)
noncomputable def takeE : ME := .call (.glob 7411108241508710112) (.cons (.cel 27627404020) (.cons (.int 4) .nil))
noncomputable def rhB (b : Bool) (w : Nat) : Loc := rhA ++ [(242791279, .bool b), (3497961189752, .int w), (492162160357745, .ref 54)]
section
variable (row : List Int) (hr : row.length ≤ 40)
include hr
theorem near_ : ∃ b : Bool, exS tb CC 2003 l12 rhA (hpA (row.map .int) 0) = some (.next, rhA ++ [(242791279, .bool b)], hpA (row.map .int) 1) := by
  obtain ⟨v, hv, e⟩ := take_A row hr (a := 0) (most := 2) (by decide) (by decide)
  have e' : callF tb 2003 20 641 [.ref 2, .int 2] (hpA (row.map .int) 0) = some (.int v, hpA (row.map .int) 1) := e
  refine ⟨(v : Int) == 1, ?_⟩
  exact xSetL (eCmp (tk_ev rfl rfl e') eInt (cEqI rfl))
theorem wanted_ (b : Bool) : ∃ w : Nat, w ≤ 125 ∧ exS tb CC 2003 l13 (rhA ++ [(242791279, .bool b)]) (hpA (row.map .int) 1) = some (.next, rhA ++ [(242791279, .bool b), (3497961189752, .int w)], hpA (row.map .int) 2) := by
  obtain ⟨v, hv, e⟩ := take_A row hr (a := 1) (most := 10) (by decide) (by decide)
  have e' : callF tb 2003 20 641 [.ref 2, .int 10] (hpA (row.map .int) 1) = some (.int v, hpA (row.map .int) 2) := e
  cases b with
  | true =>
    refine ⟨116 + v, by omega, ?_⟩
    exact xSetL (eIte (tPlain rfl (eLoc (v := .bool true) rfl)) (ifT (eBin eInt (tk_ev rfl rfl e') rfl)))
  | false =>
    refine ⟨v, by omega, ?_⟩
    exact xSetL (eIte (tPlain rfl (eLoc (v := .bool false) rfl)) (ifF (tk_ev rfl rfl e')))
theorem comp_run (ρ : Loc) (hs : lk 27627404020 ρ = some (.ref 0)) : ∀ (L k a : Nat), a + L ≤ 60 → ∃ ks : List Nat, ks.length = L ∧ (∀ x ∈ ks, x < 4) ∧ compL (fun ρ H => evE tb CC ρ takeE H) 238664436 ρ L k (hpA (row.map .int) a) = some (pt ks, hpA (row.map .int) (a + L : Nat))
  | 0, k, a, h => ⟨[], rfl, by simp, rfl⟩
  | L + 1, k, a, h => by
    obtain ⟨v, hv, e⟩ := take_A row hr (a := a) (most := 4) (by omega) (by decide)
    have e' : callF tb 2003 20 641 [.ref 2, .int 4] (hpA (row.map .int) a) = some (.int v, hpA (row.map .int) (a + 1 : Nat)) := e
    obtain ⟨ks, h1, h2, h3⟩ := comp_run ρ hs L (k + 1) (a + 1) (by omega)
    refine ⟨v :: ks, by simp [h1], by intro x hx; rcases List.mem_cons.mp hx with rfl | hx; exact hv; exact h2 x hx, ?_⟩
    have e1 : evE tb CC ρ takeE (hpA (row.map .int) a) = some (.int v, hpA (row.map .int) (a + 1 : Nat)) := tk_ev hs rfl e'
    show (evE tb CC ρ takeE (hpA (row.map .int) a)).bind _ = _
    rw [e1]
    simp only [Option.bind_some, h3, Option.map_some]
    rw [show a + 1 + L = a + (L + 1) by omega]
    rfl
theorem pattern_ (b : Bool) (w : Nat) : ∃ ks : List Nat, 0 < ks.length ∧ ks.length ≤ 4 ∧ (∀ x ∈ ks, x < 4) ∧ ∃ a : Int, exS tb CC 2003 l14 (rhA ++ [(242791279, .bool b), (3497961189752, .int w)]) (hpA (row.map .int) 2) = some (.next, rhB b w, hpA (row.map .int) a ++ [.list (pt ks)]) := by
  obtain ⟨v, hv, e⟩ := take_A row hr (a := 2) (most := 4) (by decide) (by decide)
  have e' : callF tb 2003 20 641 [.ref 2, .int 4] (hpA (row.map .int) 2) = some (.int v, hpA (row.map .int) 3) := e
  obtain ⟨ks, h1, h2, h3⟩ := comp_run row hr (rhA ++ [(242791279, .bool b), (3497961189752, .int w)]) rfl (1 + v) 0 3 (by omega)
  refine ⟨ks, by omega, by omega, h2, (3 + (1 + v) : Nat), ?_⟩
  have e1 : evE tb CC (rhA ++ [(242791279, .bool b), (3497961189752, .int w)]) (.bin .add (.int 1) takeE) (hpA (row.map .int) 2) = some (.int (1 + (v : Int)), hpA (row.map .int) 3) := eBin eInt (tk_ev rfl rfl e') rfl
  have el : l14 = .comp 492162160357745 238664436 (.bin .add (.int 1) takeE) takeE := rfl
  have sz : (0 : Int) ≤ 1 + (v : Int) ∧ (1 + (v : Int)) ≤ szLine := ⟨by omega, by rw [show szLine = 1048576 from by decide]; omega⟩
  have en : (1 + (v : Int)).toNat = 1 + v := by omega
  rw [el, exS, e1]
  simp only [Option.bind_some]
  rw [if_pos sz, en]
  have h3' : compL (fun ρ H => evE tb CC ρ takeE H) 238664436 (rhA ++ [(242791279, .bool b), (3497961189752, .int w)]) (1 + v) 0 (hpA (row.map .int) 3) = some (pt ks, hpA (row.map .int) (3 + (1 + v) : Nat)) := h3
  rw [h3']
  rfl
end


end
section
set_option maxRecDepth 10000

noncomputable def hpB (row : List MVal) (a : Int) (P C : List MVal) : MHeap := hpA row a ++ [.list P, .list C]
noncomputable def bdyL : MSs := match l18 with
  | .forR _ _ b => b
  | _ => .nil
noncomputable def itemOf (x : Nat) (b : Bool) : It := if x = 1 ∧ b then .up else if x = 2 ∧ b then .gd else if x < 3 then .q else .m

/-- what the law's names say while the text is built -/
structure Lp (ρ : Loc) (w : Nat) (sd : List Nat) (b : Bool) : Prop where
  ty : lk 31354289525 ρ = some (.ref 3)
  re : lk 3501440185203 ρ = some (.ref 33)
  po : lk 509311683573873 ρ = some (.ref 38)
  wa : lk 3497961189752 ρ = some (.int w)
  pa : lk 492162160357745 ρ = some (.ref 54)
  co : lk 447739032615012 ρ = some (.ref 55)
  sa : lk 213561716 ρ = some (.str sd)
  ip : lk 1068104015830316497514 ρ = some (.bool b)
theorem Lp.other {ρ : Loc} {w : Nat} {sd : List Nat} {b : Bool} (L : Lp ρ w sd b) (x : Nat) (v : MVal) (h : (Nat.beq 31354289525 x || (Nat.beq 3501440185203 x || (Nat.beq 509311683573873 x || (Nat.beq 3497961189752 x || (Nat.beq 492162160357745 x || (Nat.beq 447739032615012 x || (Nat.beq 213561716 x || (Nat.beq 1068104015830316497514 x)))))))) = false) : Lp (put x v ρ) w sd b := by
  have a1 := Bool.or_eq_false_iff.mp h
  have a2 := Bool.or_eq_false_iff.mp a1.2
  have a3 := Bool.or_eq_false_iff.mp a2.2
  have a4 := Bool.or_eq_false_iff.mp a3.2
  have a5 := Bool.or_eq_false_iff.mp a4.2
  have a6 := Bool.or_eq_false_iff.mp a5.2
  have a7 := Bool.or_eq_false_iff.mp a6.2
  exact ⟨lkMiss a1.1 L.ty, lkMiss a2.1 L.re, lkMiss a3.1 L.po, lkMiss a4.1 L.wa, lkMiss a5.1 L.pa, lkMiss a6.1 L.co, lkMiss a7.1 L.sa, lkMiss a7.2 L.ip⟩
theorem Lp.said {ρ : Loc} {w : Nat} {sd : List Nat} {b : Bool} (L : Lp ρ w sd b) (sd' : List Nat) : Lp (put 213561716 (.str sd') ρ) w sd' b :=
  ⟨lkMiss rfl L.ty, lkMiss rfl L.re, lkMiss rfl L.po, lkMiss rfl L.wa, lkMiss rfl L.pa, lkMiss rfl L.co, lkHit rfl, lkMiss rfl L.ip⟩
theorem Lp.isp {ρ : Loc} {w : Nat} {sd : List Nat} {b : Bool} (L : Lp ρ w sd b) (b' : Bool) : Lp (put 1068104015830316497514 (.bool b') ρ) w sd b' :=
  ⟨lkMiss rfl L.ty, lkMiss rfl L.re, lkMiss rfl L.po, lkMiss rfl L.wa, lkMiss rfl L.pa, lkMiss rfl L.co, lkMiss rfl L.sa, lkHit rfl⟩

section
variable {row : List MVal} {a : Int} {P C : List MVal}
theorem hpB_54 : (hpB row a P C)[54]? = some (.list P) := rfl
theorem hpB_55 : (hpB row a P C)[55]? = some (.list C) := rfl
theorem hpB_app (T : CallF) (v : MVal) (h : C.length ≤ 9000) : methCall T (.app 55) [v] (hpB row a P C) = some (.none, hpB row a P (C ++ [v])) := by
  unfold methCall
  simp only [hpB_55]
  rw [if_pos (by rw [show szLine = 1048576 from by decide]; omega)]
  rfl
theorem hpB_m : methOf tb (.ref 55) 3500345686242 (hpB row a P C) = some (.app 55) := by
  unfold methOf; simp only [hpB_55]; rfl
theorem hpB_len (h : C.length ≤ 9000) : builtin .len [.ref 55] (hpB row a P C) = some (.int C.length) := by
  show ((hpB row a P C)[55]?).bind lenO = _
  rw [hpB_55]
  exact if_pos (by rw [show szLine = 1048576 from by decide]; omega)
theorem hpB_lenP (h : P.length ≤ 9000) : builtin .len [.ref 54] (hpB row a P C) = some (.int P.length) := by
  show ((hpB row a P C)[54]?).bind lenO = _
  rw [hpB_54]
  exact if_pos (by rw [show szLine = 1048576 from by decide]; omega)
end
theorem len_s {sd : List Nat} {H : MHeap} (h : sd.length ≤ 9000) : builtin .len [.str sd] H = some (.int sd.length) := by
  exact if_pos (by rw [show szLine = 1048576 from by decide]; omega)
theorem add_s' {sd u : List Nat} {H : MHeap} (h : sd.length ≤ 9000) (h' : u.length ≤ 9000) : binop .add (.str sd) (.str u) H = some (.str (sd ++ u), H) := add_s _ _ _ (by rw [show szLine = 1048576 from by decide]; omega)

section
variable {row : List MVal} {a : Int} {ks cs : List Nat} {ρ : Loc} {w : Nat} {sd : List Nat} {b : Bool}
theorem pt_len (ks : List Nat) : (pt ks).length = ks.length := List.length_map _
theorem bdy_brk (L : Lp ρ w sd b) (hc : cs.length ≤ 9000) (h : w ≤ cs.length) (k : Nat) : exSs tb CC 2003 bdyL (put 238664436 (.int k) ρ) (hpB row a (pt ks) (pt cs)) = some (.brk, put 238664436 (.int k) ρ, hpB row a (pt ks) (pt cs)) := by
  have L1 := L.other 238664436 (.int k) rfl
  have ln := hpB_len (row := row) (a := a) (P := pt ks) (C := pt cs) (by rw [pt_len]; exact hc)
  rw [pt_len] at ln
  have t1 : decide ((w : Int) ≤ (cs.length : Int)) = true := decide_eq_true (by omega)
  generalize put 238664436 (.int k) ρ = ρ1 at L1
  (have zz0 := L1.co; have zz1 := L1.wa; have zz2 := ln; have zz3 := t1; (repeat' (first|with_reducible (first|assumption|exact xNil|apply xCons|apply nxN|exact nxR|exact nxB|exact nxC|apply eLoc|apply eAttr|apply eMeth|apply mcFn|exact eInt|exact eStr|exact esNil|apply esCons|apply eGlob|apply eCall|apply cvFn|apply xExpr|apply xRet|apply xSetL|apply xIte|apply xSetA|apply xSetI|apply xUnp|apply xAugA|exact xBrk|exact xCont|apply xWhl|apply lwStep|apply gtT|exact gtF|apply gwN|exact gwR|apply ifT|apply ifF|apply tAnd|apply tOr|apply tNot|exact alNil|apply alCons|exact ayNil|apply ayCons|apply tPlain|apply eCmp|apply eBin|apply eIdx|apply eSlc|apply eBi|exact eNone|exact eBool|apply eInT|apply eIsN|apply eEqNil|apply eNot|apply eIte|apply eList|apply eTup|apply eCel|exact eNeg|exact eDict0|apply eAnd|apply eOr|apply anOne|apply anTwo|apply orOne|apply orTwo|exact bAdd|exact bSub|apply cEqS|apply cNeS|apply cEqI|apply cNeI|apply cLt|apply cLe|apply cGt|apply cGe|apply cLtS|apply cLeS|apply cInS)|((with_reducible apply lkHit); exact Eq.refl true)|((with_reducible apply lkHere); exact Eq.refl true)|((with_reducible apply lkMiss); exact Eq.refl false)|((with_reducible apply lkNext); exact Eq.refl false)|with_reducible apply xForS|((with_reducible apply lfE); (with_reducible assumption))|((with_reducible apply lfN); (with_reducible assumption))|((with_reducible apply setAt_last) <;> exact Eq.refl true)|exact Eq.refl true|exact Eq.refl false|exact xNil|with_reducible exact nxR|(apply xCons)|(apply xSetL)|(apply xExpr)|(apply xIte)|(apply xRet)|(apply xSetA)|exact rfl)))
theorem bdy_ok (L : Lp ρ w sd b) (hc : cs.length ≤ 8000) (hs : sd.length ≤ 8000) (h : cs.length < w) (k : Nat) (hk0 : 0 < ks.length) (hk4 : ks.length ≤ 4) (hk : ∀ x ∈ ks, x < 4) :
    ∃ ρ' o x, (o = .next ∨ o = .cont) ∧ exSs tb CC 2003 bdyL (put 238664436 (.int k) ρ) (hpB row a (pt ks) (pt cs)) = some (o, ρ', hpB row a (pt ks) (pt (cs ++ itC x b sd.length))) ∧ itOk x b = true ∧ Lp ρ' w (sd ++ itT x) (itB x) := by
  have L1 := L.other 238664436 (.int k) rfl
  have s1 : lk 238664436 (put 238664436 (.int k) ρ) = some (.int k) := lkHit rfl
  have ln := hpB_len (row := row) (a := a) (P := pt ks) (C := pt cs) (by rw [pt_len]; omega)
  rw [pt_len] at ln
  have lp := hpB_lenP (row := row) (a := a) (P := pt ks) (C := pt cs) (by rw [pt_len]; omega)
  rw [pt_len] at lp
  have t1 : decide ((w : Int) ≤ (cs.length : Int)) = false := decide_eq_false (by omega)
  have b1 : binop .mod (.int k) (.int ks.length) (hpB row a (pt ks) (pt cs)) = some (.int ((k % ks.length : Nat) : Int), (hpB row a (pt ks) (pt cs))) := by
    rw [bMod (by omega), Int.fmod_eq_emod_of_nonneg _ (by omega)]; rfl
  have hlt : k % ks.length < ks.length := Nat.mod_lt _ hk0
  have hx := hk _ (List.getElem_mem hlt)
  have ix : index (.ref 54) (.int ((k % ks.length : Nat) : Int)) (hpB row a (pt ks) (pt cs)) = some (.int (ks[k % ks.length] : Nat)) := by
    unfold index
    simp only [hpB_54]
    rw [pt_len, if_pos (by rw [show szLine = 1048576 from by decide]; omega), place_ok hlt]
    simp [hlt, pt]
  generalize ks[k % ks.length] = x at hx ix
  generalize put 238664436 (.int k) ρ = ρ1 at L1 s1
  have lsd := len_s (sd := sd) (H := hpB row a (pt ks) (pt cs)) (by omega)
  have ap0 := hpB_app (row := row) (a := a) (P := pt ks) (C := pt cs) CC (.int sd.length) (by rw [pt_len]; omega)
  have ap1 := hpB_app (row := row) (a := a) (P := pt ks) (C := pt cs ++ [.int sd.length]) CC (.int ((sd.length : Int) + 1)) (by simp [pt_len]; omega)
  have apm := fun (v : MVal) => hpB_app (row := row) (a := a) (P := pt ks) (C := pt cs ++ [.int sd.length]) CC v (by simp [pt_len]; omega)
  have apm1 := fun (u v : MVal) => hpB_app (row := row) (a := a) (P := pt ks) (C := pt cs ++ [.int sd.length] ++ [u]) CC v (by simp [pt_len]; omega)
  have apm2 := fun (u1 u v : MVal) => hpB_app (row := row) (a := a) (P := pt ks) (C := pt cs ++ [.int sd.length] ++ [u1] ++ [u]) CC v (by simp [pt_len]; omega)
  have A1 := L1.other 213644652 (.int x) rfl
  have A2 := A1.other 31649741556 (.int sd.length) rfl
  have B : ∀ u : List Nat, u.length ≤ 9000 → ∀ H, binop .add (.str sd) (.str u) H = some (.str (sd ++ u), H) := fun u hu H => add_s' (by omega) hu
  have Bu := B [94] (by decide)
  have Bg := B [40, 80, 41] (by decide)
  have Bq := B [46, 113] (by decide)
  have Bm := B [46, 109, 91, 49, 44, 32, 48, 93] (by decide)
  have k1 : lk 213644652 (put 31649741556 (.int sd.length) (put 213644652 (.int x) ρ1)) = some (.int x) := lkMiss rfl (lkHit rfl)
  have k2 : lk 31649741556 (put 31649741556 (.int sd.length) (put 213644652 (.int x) ρ1)) = some (.int sd.length) := lkHit rfl
  have c4 : x = 0 ∨ x = 1 ∨ x = 2 ∨ x = 3 := by omega
  have mB0 := hpB_m (row := row) (a := a) (P := pt ks) (C := pt cs)
  have mB1 := hpB_m (row := row) (a := a) (P := pt ks) (C := pt cs ++ [.int sd.length])
  have mB2 := fun (u : MVal) => hpB_m (row := row) (a := a) (P := pt ks) (C := pt cs ++ [.int sd.length] ++ [u])
  have mB3 := fun (u1 u : MVal) => hpB_m (row := row) (a := a) (P := pt ks) (C := pt cs ++ [.int sd.length] ++ [u1] ++ [u])
  rcases c4 with rfl | rfl | rfl | rfl
  · cases b with
    | false =>
      have q1 : ((((0 : Nat) : Int)) == 1) = false := rfl
      have q2 : ((((0 : Nat) : Int)) == 2) = false := rfl
      have q3 : decide ((((0 : Nat) : Int)) < 3) = true := rfl
      have ec : pt (cs ++ itC .q false sd.length) = pt cs ++ [.int sd.length] := by simp [pt, itC]
      refine ⟨put 213561716 (.str (sd ++ [46, 113])) (put 1068104015830316497514 (.bool true) (put 31649741556 (.int sd.length) (put 213644652 (.int (0 : Nat)) ρ1))), .next, .q, .inl rfl, ?_, rfl, (A2.isp _).said _⟩
      rw [ec]
      (have zz0 := L1.co; have zz1 := L1.wa; have zz2 := L1.pa; have zz3 := L1.sa; have zz4 := L1.ip; have zz5 := s1; have zz6 := ln; have zz7 := t1; have zz8 := lp; have zz9 := ix; have zz10 := lsd; have zz11 := mB0; have zz12 := ap0; have zz13 := q1; have zz14 := q2; have zz15 := q3; have zz16 := Bq (hpB row a (pt ks) (pt cs ++ [.int sd.length])); (repeat' (first|with_reducible (first|assumption|exact xNil|apply xCons|apply nxN|exact nxR|exact nxB|exact nxC|apply eLoc|apply eAttr|apply eMeth|apply mcFn|exact eInt|exact eStr|exact esNil|apply esCons|apply eGlob|apply eCall|apply cvFn|apply xExpr|apply xRet|apply xSetL|apply xIte|apply xSetA|apply xSetI|apply xUnp|apply xAugA|exact xBrk|exact xCont|apply xWhl|apply lwStep|apply gtT|exact gtF|apply gwN|exact gwR|apply ifT|apply ifF|apply tAnd|apply tOr|apply tNot|exact alNil|apply alCons|exact ayNil|apply ayCons|apply tPlain|apply eCmp|apply eBin|apply eIdx|apply eSlc|apply eBi|exact eNone|exact eBool|apply eInT|apply eIsN|apply eEqNil|apply eNot|apply eIte|apply eList|apply eTup|apply eCel|exact eNeg|exact eDict0|apply eAnd|apply eOr|apply anOne|apply anTwo|apply orOne|apply orTwo|exact bAdd|exact bSub|apply cEqS|apply cNeS|apply cEqI|apply cNeI|apply cLt|apply cLe|apply cGt|apply cGe|apply cLtS|apply cLeS|apply cInS)|((with_reducible apply lkHit); exact Eq.refl true)|((with_reducible apply lkHere); exact Eq.refl true)|((with_reducible apply lkMiss); exact Eq.refl false)|((with_reducible apply lkNext); exact Eq.refl false)|with_reducible apply xForS|((with_reducible apply lfE); (with_reducible assumption))|((with_reducible apply lfN); (with_reducible assumption))|((with_reducible apply setAt_last) <;> exact Eq.refl true)|exact Eq.refl true|exact Eq.refl false|exact xNil|with_reducible exact nxR|(apply xCons)|(apply xSetL)|(apply xExpr)|(apply xIte)|(apply xRet)|(apply xSetA)|exact rfl)))
    | true =>
      have q1 : ((((0 : Nat) : Int)) == 1) = false := rfl
      have q2 : ((((0 : Nat) : Int)) == 2) = false := rfl
      have q3 : decide ((((0 : Nat) : Int)) < 3) = true := rfl
      have ec : pt (cs ++ itC .q true sd.length) = pt cs ++ [.int sd.length] ++ [.int ((sd.length : Int) + 1)] := by simp [pt, itC]
      refine ⟨put 213561716 (.str (sd ++ [46, 113])) (put 1068104015830316497514 (.bool true) (put 31649741556 (.int sd.length) (put 213644652 (.int (0 : Nat)) ρ1))), .next, .q, .inl rfl, ?_, rfl, (A2.isp _).said _⟩
      rw [ec]
      (have zz0 := L1.co; have zz1 := L1.wa; have zz2 := L1.pa; have zz3 := L1.sa; have zz4 := L1.ip; have zz5 := s1; have zz6 := ln; have zz7 := t1; have zz8 := lp; have zz9 := ix; have zz10 := lsd; have zz11 := mB0; have zz12 := ap0; have zz13 := q1; have zz14 := q2; have zz15 := q3; have zz16 := Bq (hpB row a (pt ks) (pt cs ++ [.int sd.length] ++ [.int ((sd.length : Int) + 1)])); have zz17 := mB1; have zz18 := ap1; (repeat' (first|with_reducible (first|assumption|exact xNil|apply xCons|apply nxN|exact nxR|exact nxB|exact nxC|apply eLoc|apply eAttr|apply eMeth|apply mcFn|exact eInt|exact eStr|exact esNil|apply esCons|apply eGlob|apply eCall|apply cvFn|apply xExpr|apply xRet|apply xSetL|apply xIte|apply xSetA|apply xSetI|apply xUnp|apply xAugA|exact xBrk|exact xCont|apply xWhl|apply lwStep|apply gtT|exact gtF|apply gwN|exact gwR|apply ifT|apply ifF|apply tAnd|apply tOr|apply tNot|exact alNil|apply alCons|exact ayNil|apply ayCons|apply tPlain|apply eCmp|apply eBin|apply eIdx|apply eSlc|apply eBi|exact eNone|exact eBool|apply eInT|apply eIsN|apply eEqNil|apply eNot|apply eIte|apply eList|apply eTup|apply eCel|exact eNeg|exact eDict0|apply eAnd|apply eOr|apply anOne|apply anTwo|apply orOne|apply orTwo|exact bAdd|exact bSub|apply cEqS|apply cNeS|apply cEqI|apply cNeI|apply cLt|apply cLe|apply cGt|apply cGe|apply cLtS|apply cLeS|apply cInS)|((with_reducible apply lkHit); exact Eq.refl true)|((with_reducible apply lkHere); exact Eq.refl true)|((with_reducible apply lkMiss); exact Eq.refl false)|((with_reducible apply lkNext); exact Eq.refl false)|with_reducible apply xForS|((with_reducible apply lfE); (with_reducible assumption))|((with_reducible apply lfN); (with_reducible assumption))|((with_reducible apply setAt_last) <;> exact Eq.refl true)|exact Eq.refl true|exact Eq.refl false|exact xNil|with_reducible exact nxR|(apply xCons)|(apply xSetL)|(apply xExpr)|(apply xIte)|(apply xRet)|(apply xSetA)|exact rfl)))
  · cases b with
    | false =>
      have q1 : ((((1 : Nat) : Int)) == 1) = true := rfl
      have q2 : ((((1 : Nat) : Int)) == 2) = false := rfl
      have q3 : decide ((((1 : Nat) : Int)) < 3) = true := rfl
      have ec : pt (cs ++ itC .q false sd.length) = pt cs ++ [.int sd.length] := by simp [pt, itC]
      refine ⟨put 213561716 (.str (sd ++ [46, 113])) (put 1068104015830316497514 (.bool true) (put 31649741556 (.int sd.length) (put 213644652 (.int (1 : Nat)) ρ1))), .next, .q, .inl rfl, ?_, rfl, (A2.isp _).said _⟩
      rw [ec]
      (have zz0 := L1.co; have zz1 := L1.wa; have zz2 := L1.pa; have zz3 := L1.sa; have zz4 := L1.ip; have zz5 := s1; have zz6 := ln; have zz7 := t1; have zz8 := lp; have zz9 := ix; have zz10 := lsd; have zz11 := mB0; have zz12 := ap0; have zz13 := q1; have zz14 := q2; have zz15 := q3; have zz16 := Bq (hpB row a (pt ks) (pt cs ++ [.int sd.length])); (repeat' (first|with_reducible (first|assumption|exact xNil|apply xCons|apply nxN|exact nxR|exact nxB|exact nxC|apply eLoc|apply eAttr|apply eMeth|apply mcFn|exact eInt|exact eStr|exact esNil|apply esCons|apply eGlob|apply eCall|apply cvFn|apply xExpr|apply xRet|apply xSetL|apply xIte|apply xSetA|apply xSetI|apply xUnp|apply xAugA|exact xBrk|exact xCont|apply xWhl|apply lwStep|apply gtT|exact gtF|apply gwN|exact gwR|apply ifT|apply ifF|apply tAnd|apply tOr|apply tNot|exact alNil|apply alCons|exact ayNil|apply ayCons|apply tPlain|apply eCmp|apply eBin|apply eIdx|apply eSlc|apply eBi|exact eNone|exact eBool|apply eInT|apply eIsN|apply eEqNil|apply eNot|apply eIte|apply eList|apply eTup|apply eCel|exact eNeg|exact eDict0|apply eAnd|apply eOr|apply anOne|apply anTwo|apply orOne|apply orTwo|exact bAdd|exact bSub|apply cEqS|apply cNeS|apply cEqI|apply cNeI|apply cLt|apply cLe|apply cGt|apply cGe|apply cLtS|apply cLeS|apply cInS)|((with_reducible apply lkHit); exact Eq.refl true)|((with_reducible apply lkHere); exact Eq.refl true)|((with_reducible apply lkMiss); exact Eq.refl false)|((with_reducible apply lkNext); exact Eq.refl false)|with_reducible apply xForS|((with_reducible apply lfE); (with_reducible assumption))|((with_reducible apply lfN); (with_reducible assumption))|((with_reducible apply setAt_last) <;> exact Eq.refl true)|exact Eq.refl true|exact Eq.refl false|exact xNil|with_reducible exact nxR|(apply xCons)|(apply xSetL)|(apply xExpr)|(apply xIte)|(apply xRet)|(apply xSetA)|exact rfl)))
    | true =>
      have q1 : ((((1 : Nat) : Int)) == 1) = true := rfl
      have q2 : ((((1 : Nat) : Int)) == 2) = false := rfl
      have q3 : decide ((((1 : Nat) : Int)) < 3) = true := rfl
      have ec : pt (cs ++ itC .up true sd.length) = pt cs ++ [.int sd.length] := by simp [pt, itC]
      refine ⟨put 1068104015830316497514 (.bool false) (put 213561716 (.str (sd ++ [94])) (put 31649741556 (.int sd.length) (put 213644652 (.int (1 : Nat)) ρ1))), .cont, .up, .inr rfl, ?_, rfl, (A2.said _).isp _⟩
      rw [ec]
      (have zz0 := L1.co; have zz1 := L1.wa; have zz2 := L1.pa; have zz3 := L1.sa; have zz4 := L1.ip; have zz5 := s1; have zz6 := ln; have zz7 := t1; have zz8 := lp; have zz9 := ix; have zz10 := lsd; have zz11 := mB0; have zz12 := ap0; have zz13 := q1; have zz14 := q2; have zz15 := q3; have zz16 := Bu (hpB row a (pt ks) (pt cs ++ [.int sd.length])); (repeat' (first|with_reducible (first|assumption|exact xNil|apply xCons|apply nxN|exact nxR|exact nxB|exact nxC|apply eLoc|apply eAttr|apply eMeth|apply mcFn|exact eInt|exact eStr|exact esNil|apply esCons|apply eGlob|apply eCall|apply cvFn|apply xExpr|apply xRet|apply xSetL|apply xIte|apply xSetA|apply xSetI|apply xUnp|apply xAugA|exact xBrk|exact xCont|apply xWhl|apply lwStep|apply gtT|exact gtF|apply gwN|exact gwR|apply ifT|apply ifF|apply tAnd|apply tOr|apply tNot|exact alNil|apply alCons|exact ayNil|apply ayCons|apply tPlain|apply eCmp|apply eBin|apply eIdx|apply eSlc|apply eBi|exact eNone|exact eBool|apply eInT|apply eIsN|apply eEqNil|apply eNot|apply eIte|apply eList|apply eTup|apply eCel|exact eNeg|exact eDict0|apply eAnd|apply eOr|apply anOne|apply anTwo|apply orOne|apply orTwo|exact bAdd|exact bSub|apply cEqS|apply cNeS|apply cEqI|apply cNeI|apply cLt|apply cLe|apply cGt|apply cGe|apply cLtS|apply cLeS|apply cInS)|((with_reducible apply lkHit); exact Eq.refl true)|((with_reducible apply lkHere); exact Eq.refl true)|((with_reducible apply lkMiss); exact Eq.refl false)|((with_reducible apply lkNext); exact Eq.refl false)|with_reducible apply xForS|((with_reducible apply lfE); (with_reducible assumption))|((with_reducible apply lfN); (with_reducible assumption))|((with_reducible apply setAt_last) <;> exact Eq.refl true)|exact Eq.refl true|exact Eq.refl false|exact xNil|with_reducible exact nxR|(apply xCons)|(apply xSetL)|(apply xExpr)|(apply xIte)|(apply xRet)|(apply xSetA)|exact rfl)))
  · cases b with
    | false =>
      have q1 : ((((2 : Nat) : Int)) == 1) = false := rfl
      have q2 : ((((2 : Nat) : Int)) == 2) = true := rfl
      have q3 : decide ((((2 : Nat) : Int)) < 3) = true := rfl
      have ec : pt (cs ++ itC .q false sd.length) = pt cs ++ [.int sd.length] := by simp [pt, itC]
      refine ⟨put 213561716 (.str (sd ++ [46, 113])) (put 1068104015830316497514 (.bool true) (put 31649741556 (.int sd.length) (put 213644652 (.int (2 : Nat)) ρ1))), .next, .q, .inl rfl, ?_, rfl, (A2.isp _).said _⟩
      rw [ec]
      (have zz0 := L1.co; have zz1 := L1.wa; have zz2 := L1.pa; have zz3 := L1.sa; have zz4 := L1.ip; have zz5 := s1; have zz6 := ln; have zz7 := t1; have zz8 := lp; have zz9 := ix; have zz10 := lsd; have zz11 := mB0; have zz12 := ap0; have zz13 := q1; have zz14 := q2; have zz15 := q3; have zz16 := Bq (hpB row a (pt ks) (pt cs ++ [.int sd.length])); (repeat' (first|with_reducible (first|assumption|exact xNil|apply xCons|apply nxN|exact nxR|exact nxB|exact nxC|apply eLoc|apply eAttr|apply eMeth|apply mcFn|exact eInt|exact eStr|exact esNil|apply esCons|apply eGlob|apply eCall|apply cvFn|apply xExpr|apply xRet|apply xSetL|apply xIte|apply xSetA|apply xSetI|apply xUnp|apply xAugA|exact xBrk|exact xCont|apply xWhl|apply lwStep|apply gtT|exact gtF|apply gwN|exact gwR|apply ifT|apply ifF|apply tAnd|apply tOr|apply tNot|exact alNil|apply alCons|exact ayNil|apply ayCons|apply tPlain|apply eCmp|apply eBin|apply eIdx|apply eSlc|apply eBi|exact eNone|exact eBool|apply eInT|apply eIsN|apply eEqNil|apply eNot|apply eIte|apply eList|apply eTup|apply eCel|exact eNeg|exact eDict0|apply eAnd|apply eOr|apply anOne|apply anTwo|apply orOne|apply orTwo|exact bAdd|exact bSub|apply cEqS|apply cNeS|apply cEqI|apply cNeI|apply cLt|apply cLe|apply cGt|apply cGe|apply cLtS|apply cLeS|apply cInS)|((with_reducible apply lkHit); exact Eq.refl true)|((with_reducible apply lkHere); exact Eq.refl true)|((with_reducible apply lkMiss); exact Eq.refl false)|((with_reducible apply lkNext); exact Eq.refl false)|with_reducible apply xForS|((with_reducible apply lfE); (with_reducible assumption))|((with_reducible apply lfN); (with_reducible assumption))|((with_reducible apply setAt_last) <;> exact Eq.refl true)|exact Eq.refl true|exact Eq.refl false|exact xNil|with_reducible exact nxR|(apply xCons)|(apply xSetL)|(apply xExpr)|(apply xIte)|(apply xRet)|(apply xSetA)|exact rfl)))
    | true =>
      have q1 : ((((2 : Nat) : Int)) == 1) = false := rfl
      have q2 : ((((2 : Nat) : Int)) == 2) = true := rfl
      have q3 : decide ((((2 : Nat) : Int)) < 3) = true := rfl
      have ec : pt (cs ++ itC .gd true sd.length) = pt cs ++ [.int sd.length] := by simp [pt, itC]
      refine ⟨put 213561716 (.str (sd ++ [40, 80, 41])) (put 31649741556 (.int sd.length) (put 213644652 (.int (2 : Nat)) ρ1)), .cont, .gd, .inr rfl, ?_, rfl, A2.said _⟩
      rw [ec]
      (have zz0 := L1.co; have zz1 := L1.wa; have zz2 := L1.pa; have zz3 := L1.sa; have zz4 := L1.ip; have zz5 := s1; have zz6 := ln; have zz7 := t1; have zz8 := lp; have zz9 := ix; have zz10 := lsd; have zz11 := mB0; have zz12 := ap0; have zz13 := q1; have zz14 := q2; have zz15 := q3; have zz16 := Bg (hpB row a (pt ks) (pt cs ++ [.int sd.length])); (repeat' (first|with_reducible (first|assumption|exact xNil|apply xCons|apply nxN|exact nxR|exact nxB|exact nxC|apply eLoc|apply eAttr|apply eMeth|apply mcFn|exact eInt|exact eStr|exact esNil|apply esCons|apply eGlob|apply eCall|apply cvFn|apply xExpr|apply xRet|apply xSetL|apply xIte|apply xSetA|apply xSetI|apply xUnp|apply xAugA|exact xBrk|exact xCont|apply xWhl|apply lwStep|apply gtT|exact gtF|apply gwN|exact gwR|apply ifT|apply ifF|apply tAnd|apply tOr|apply tNot|exact alNil|apply alCons|exact ayNil|apply ayCons|apply tPlain|apply eCmp|apply eBin|apply eIdx|apply eSlc|apply eBi|exact eNone|exact eBool|apply eInT|apply eIsN|apply eEqNil|apply eNot|apply eIte|apply eList|apply eTup|apply eCel|exact eNeg|exact eDict0|apply eAnd|apply eOr|apply anOne|apply anTwo|apply orOne|apply orTwo|exact bAdd|exact bSub|apply cEqS|apply cNeS|apply cEqI|apply cNeI|apply cLt|apply cLe|apply cGt|apply cGe|apply cLtS|apply cLeS|apply cInS)|((with_reducible apply lkHit); exact Eq.refl true)|((with_reducible apply lkHere); exact Eq.refl true)|((with_reducible apply lkMiss); exact Eq.refl false)|((with_reducible apply lkNext); exact Eq.refl false)|with_reducible apply xForS|((with_reducible apply lfE); (with_reducible assumption))|((with_reducible apply lfN); (with_reducible assumption))|((with_reducible apply setAt_last) <;> exact Eq.refl true)|exact Eq.refl true|exact Eq.refl false|exact xNil|with_reducible exact nxR|(apply xCons)|(apply xSetL)|(apply xExpr)|(apply xIte)|(apply xRet)|(apply xSetA)|exact rfl)))
  · cases b with
    | false =>
      have q1 : ((((3 : Nat) : Int)) == 1) = false := rfl
      have q2 : ((((3 : Nat) : Int)) == 2) = false := rfl
      have q3 : decide ((((3 : Nat) : Int)) < 3) = false := rfl
      have ec : pt (cs ++ itC .m false sd.length) = pt cs ++ [.int sd.length] ++ [.int ((sd.length : Int) + 2)] ++ [.int ((sd.length : Int) + 6)] := by simp [pt, itC]
      refine ⟨put 213561716 (.str (sd ++ [46, 109, 91, 49, 44, 32, 48, 93])) (put 1068104015830316497514 (.bool true) (put 31649741556 (.int sd.length) (put 213644652 (.int (3 : Nat)) ρ1))), .next, .m, .inl rfl, ?_, rfl, (A2.isp _).said _⟩
      rw [ec]
      (have zz0 := L1.co; have zz1 := L1.wa; have zz2 := L1.pa; have zz3 := L1.sa; have zz4 := L1.ip; have zz5 := s1; have zz6 := ln; have zz7 := t1; have zz8 := lp; have zz9 := ix; have zz10 := lsd; have zz11 := mB0; have zz12 := ap0; have zz13 := q1; have zz14 := q2; have zz15 := q3; have zz16 := Bm (hpB row a (pt ks) (pt cs ++ [.int sd.length])); have zz17 := mB1; have zz18 := apm (.int ((sd.length : Int) + 2)); have zz19 := mB2 (.int ((sd.length : Int) + 2)); have zz20 := apm1 (.int ((sd.length : Int) + 2)) (.int ((sd.length : Int) + 6)); (repeat' (first|with_reducible (first|assumption|exact xNil|apply xCons|apply nxN|exact nxR|exact nxB|exact nxC|apply eLoc|apply eAttr|apply eMeth|apply mcFn|exact eInt|exact eStr|exact esNil|apply esCons|apply eGlob|apply eCall|apply cvFn|apply xExpr|apply xRet|apply xSetL|apply xIte|apply xSetA|apply xSetI|apply xUnp|apply xAugA|exact xBrk|exact xCont|apply xWhl|apply lwStep|apply gtT|exact gtF|apply gwN|exact gwR|apply ifT|apply ifF|apply tAnd|apply tOr|apply tNot|exact alNil|apply alCons|exact ayNil|apply ayCons|apply tPlain|apply eCmp|apply eBin|apply eIdx|apply eSlc|apply eBi|exact eNone|exact eBool|apply eInT|apply eIsN|apply eEqNil|apply eNot|apply eIte|apply eList|apply eTup|apply eCel|exact eNeg|exact eDict0|apply eAnd|apply eOr|apply anOne|apply anTwo|apply orOne|apply orTwo|exact bAdd|exact bSub|apply cEqS|apply cNeS|apply cEqI|apply cNeI|apply cLt|apply cLe|apply cGt|apply cGe|apply cLtS|apply cLeS|apply cInS)|((with_reducible apply lkHit); exact Eq.refl true)|((with_reducible apply lkHere); exact Eq.refl true)|((with_reducible apply lkMiss); exact Eq.refl false)|((with_reducible apply lkNext); exact Eq.refl false)|with_reducible apply xForS|((with_reducible apply lfE); (with_reducible assumption))|((with_reducible apply lfN); (with_reducible assumption))|((with_reducible apply setAt_last) <;> exact Eq.refl true)|exact Eq.refl true|exact Eq.refl false|exact xNil|with_reducible exact nxR|(apply xCons)|(apply xSetL)|(apply xExpr)|(apply xIte)|(apply xRet)|(apply xSetA)|exact rfl)))
    | true =>
      have q1 : ((((3 : Nat) : Int)) == 1) = false := rfl
      have q2 : ((((3 : Nat) : Int)) == 2) = false := rfl
      have q3 : decide ((((3 : Nat) : Int)) < 3) = false := rfl
      have ec : pt (cs ++ itC .m true sd.length) = pt cs ++ [.int sd.length] ++ [.int ((sd.length : Int) + 1)] ++ [.int ((sd.length : Int) + 2)] ++ [.int ((sd.length : Int) + 6)] := by simp [pt, itC]
      refine ⟨put 213561716 (.str (sd ++ [46, 109, 91, 49, 44, 32, 48, 93])) (put 1068104015830316497514 (.bool true) (put 31649741556 (.int sd.length) (put 213644652 (.int (3 : Nat)) ρ1))), .next, .m, .inl rfl, ?_, rfl, (A2.isp _).said _⟩
      rw [ec]
      (have zz0 := L1.co; have zz1 := L1.wa; have zz2 := L1.pa; have zz3 := L1.sa; have zz4 := L1.ip; have zz5 := s1; have zz6 := ln; have zz7 := t1; have zz8 := lp; have zz9 := ix; have zz10 := lsd; have zz11 := mB0; have zz12 := ap0; have zz13 := q1; have zz14 := q2; have zz15 := q3; have zz16 := Bm (hpB row a (pt ks) (pt cs ++ [.int sd.length] ++ [.int ((sd.length : Int) + 1)])); have zz17 := mB1; have zz18 := ap1; have zz19 := mB2 (.int ((sd.length : Int) + 1)); have zz20 := apm1 (.int ((sd.length : Int) + 1)) (.int ((sd.length : Int) + 2)); have zz21 := mB3 (.int ((sd.length : Int) + 1)) (.int ((sd.length : Int) + 2)); have zz22 := apm2 (.int ((sd.length : Int) + 1)) (.int ((sd.length : Int) + 2)) (.int ((sd.length : Int) + 6)); (repeat' (first|with_reducible (first|assumption|exact xNil|apply xCons|apply nxN|exact nxR|exact nxB|exact nxC|apply eLoc|apply eAttr|apply eMeth|apply mcFn|exact eInt|exact eStr|exact esNil|apply esCons|apply eGlob|apply eCall|apply cvFn|apply xExpr|apply xRet|apply xSetL|apply xIte|apply xSetA|apply xSetI|apply xUnp|apply xAugA|exact xBrk|exact xCont|apply xWhl|apply lwStep|apply gtT|exact gtF|apply gwN|exact gwR|apply ifT|apply ifF|apply tAnd|apply tOr|apply tNot|exact alNil|apply alCons|exact ayNil|apply ayCons|apply tPlain|apply eCmp|apply eBin|apply eIdx|apply eSlc|apply eBi|exact eNone|exact eBool|apply eInT|apply eIsN|apply eEqNil|apply eNot|apply eIte|apply eList|apply eTup|apply eCel|exact eNeg|exact eDict0|apply eAnd|apply eOr|apply anOne|apply anTwo|apply orOne|apply orTwo|exact bAdd|exact bSub|apply cEqS|apply cNeS|apply cEqI|apply cNeI|apply cLt|apply cLe|apply cGt|apply cGe|apply cLtS|apply cLeS|apply cInS)|((with_reducible apply lkHit); exact Eq.refl true)|((with_reducible apply lkHere); exact Eq.refl true)|((with_reducible apply lkMiss); exact Eq.refl false)|((with_reducible apply lkNext); exact Eq.refl false)|with_reducible apply xForS|((with_reducible apply lfE); (with_reducible assumption))|((with_reducible apply lfN); (with_reducible assumption))|((with_reducible apply setAt_last) <;> exact Eq.refl true)|exact Eq.refl true|exact Eq.refl false|exact xNil|with_reducible exact nxR|(apply xCons)|(apply xSetL)|(apply xExpr)|(apply xIte)|(apply xRet)|(apply xSetA)|exact rfl)))
end


end
section
set_option maxRecDepth 10000

theorem txt_snoc (x : It) : ∀ its : List It, txt (its ++ [x]) = txt its ++ itT x
  | [] => by show itT x ++ [] = [] ++ itT x; simp
  | y :: r => by
    show itT y ++ txt (r ++ [x]) = (itT y ++ txt r) ++ itT x
    rw [txt_snoc x r, List.append_assoc]
theorem cnt_snoc (x : It) : ∀ (its : List It) (b : Bool) (s : Nat), cnt (its ++ [x]) b s = cnt its b s ++ itC x (fnl its b) (s + (txt its).length)
  | [], b, s => by show itC x b s ++ [] = [] ++ itC x b (s + 0); simp
  | y :: r, b, s => by
    show itC y b s ++ cnt (r ++ [x]) (itB y) (s + (itT y).length) = (itC y b s ++ cnt r (itB y) (s + (itT y).length)) ++ itC x (fnl r (itB y)) (s + (itT y ++ txt r).length)
    rw [cnt_snoc x r, List.append_assoc, List.length_append, Nat.add_assoc s]
theorem fnl_snoc (x : It) : ∀ (its : List It) (b : Bool), fnl (its ++ [x]) b = itB x
  | [], b => rfl
  | y :: r, b => fnl_snoc x r (itB y)
theorem okI_snoc (x : It) : ∀ (its : List It) (b : Bool), okI its b = true → itOk x (fnl its b) = true → okI (its ++ [x]) b = true
  | [], b, _, h => by
    show (itOk x b && true) = true
    have : itOk x b = true := h
    rw [this]; rfl
  | y :: r, b, h, h' => by
    have h1 : (itOk y b && okI r (itB y)) = true := h
    rw [Bool.and_eq_true] at h1
    show (itOk y b && okI (r ++ [x]) (itB y)) = true
    rw [h1.1, okI_snoc x r (itB y) h1.2 h']; rfl
theorem txt_le : ∀ its : List It, (txt its).length ≤ 8 * its.length
  | [] => Nat.zero_le _
  | y :: r => by
    have := txt_le r
    show (itT y ++ txt r).length ≤ _
    rw [List.length_append, List.length_cons]
    have : (itT y).length ≤ 8 := by cases y <;> decide
    omega
theorem cnt_le : ∀ (its : List It) (b : Bool) (s : Nat), (cnt its b s).length ≤ 4 * its.length
  | [], _, _ => Nat.zero_le _
  | y :: r, b, s => by
    have := cnt_le r (itB y) (s + (itT y).length)
    show (itC y b s ++ cnt r (itB y) (s + (itT y).length)).length ≤ _
    rw [List.length_append, List.length_cons]
    have : (itC y b s).length ≤ 4 := by cases y <;> cases b <;> simp [itC]
    omega

section
variable {row : List MVal} {a : Int} {ks : List Nat} {w : Nat}
theorem nxtR_in {k : Nat} {H : MHeap} (h : k < 130) : nxtR 130 k H = some (some (.int k)) := if_pos (by omega)
theorem nxtR_end {k : Nat} {H : MHeap} (h : 130 ≤ k) : nxtR 130 k H = some none := if_neg (by omega)
theorem loop_ (hk0 : 0 < ks.length) (hk4 : ks.length ≤ 4) (hk : ∀ x ∈ ks, x < 4) : ∀ (f : Nat) (its : List It) (ρ : Loc), its.length ≤ 130 → okI its true = true → Lp ρ w (txt its) (fnl its true) → 130 < f + its.length →
    ∃ ρ' its', loopF (nxtR 130) 238664436 (fun ρ H => exSs tb CC 2003 bdyL ρ H) f its.length ρ (hpB row a (pt ks) (pt (cnt its true 0))) = some (.next, ρ', hpB row a (pt ks) (pt (cnt its' true 0))) ∧ okI its' true = true ∧ Lp ρ' w (txt its') (fnl its' true) ∧ its'.length ≤ 130
  | 0, its, ρ, h1, h2, L, h3 => absurd h3 (by omega)
  | f + 1, its, ρ, h1, h2, L, h3 => by
    have ht := txt_le its
    have hc := cnt_le its true 0
    by_cases h130 : its.length < 130
    · by_cases hw : w ≤ (cnt its true 0).length
      · refine ⟨_, its, loopF_brk (nxtR_in h130) (bdy_brk L (by omega) hw _), h2, L.other 238664436 _ rfl, h1⟩
      · obtain ⟨ρ1, o, x, ho, e, hx, L1⟩ := bdy_ok (row := row) (a := a) (ks := ks) L (by omega) (by omega) (Nat.lt_of_not_le hw) its.length hk0 hk4 hk
        have e1 : cnt its true 0 ++ itC x (fnl its true) (txt its).length = cnt (its ++ [x]) true 0 := by rw [cnt_snoc, Nat.zero_add]
        rw [e1] at e
        rw [← txt_snoc, ← fnl_snoc x its true] at L1
        have h2' := okI_snoc x its true h2 hx
        have hl : (its ++ [x]).length = its.length + 1 := by simp
        obtain ⟨ρ2, its2, e2, r⟩ := loop_ hk0 hk4 hk f (its ++ [x]) ρ1 (by omega) h2' L1 (by omega)
        rw [hl] at e2
        refine ⟨ρ2, its2, ?_, r⟩
        rcases ho with rfl | rfl
        · rw [loopF_next (nxtR_in h130) e]; exact e2
        · rw [loopF_cont (nxtR_in h130) e]; exact e2
    · exact ⟨ρ, its, loopF_stop (nxtR_end (by omega)), h2, L, h1⟩

theorem build_ {b : Bool} (hk0 : 0 < ks.length) (hk4 : ks.length ≤ 4) (hk : ∀ x ∈ ks, x < 4) (ss : MSs) :
    ∃ ρ its, exSs tb CC 2003 (.cons l15 (.cons l16 (.cons l17 (.cons l18 ss)))) (rhB b w) (hpA row a ++ [.list (pt ks)]) = exSs tb CC 2003 ss ρ (hpB row a (pt ks) (pt (cnt its true 0))) ∧ okI its true = true ∧ Lp ρ w (txt its) (fnl its true) ∧ its.length ≤ 130 := by
  obtain ⟨ρ, its, e, r⟩ := loop_ (row := row) (a := a) (w := w) hk0 hk4 hk 2003 [] (rhB b w ++ [(213561716, .str []), (447739032615012, .ref 55), (1068104015830316497514, .bool true)]) (by decide) rfl ⟨rfl, rfl, rfl, rfl, rfl, rfl, rfl, rfl⟩ (by decide)
  refine ⟨ρ, its, ?_, r⟩
  have el : l18 = .forR 238664436 (.int 130) bdyL := rfl
  have e0 : exSs tb CC 2003 (.cons l15 (.cons l16 (.cons l17 (.cons l18 ss)))) (rhB b w) (hpA row a ++ [.list (pt ks)]) = exSs tb CC 2003 (.cons l18 ss) (rhB b w ++ [(213561716, .str []), (447739032615012, .ref 55), (1068104015830316497514, .bool true)]) (hpB row a (pt ks) []) := rfl
  rw [e0, el, exSs, exS, evE_int]
  simp only [Option.bind_some]
  rw [if_pos ⟨by decide, by decide⟩]
  have e' : loopF (nxtR 130) 238664436 (fun ρ H => exSs tb CC 2003 bdyL ρ H) 2003 0 (rhB b w ++ [(213561716, .str []), (447739032615012, .ref 55), (1068104015830316497514, .bool true)]) (hpB row a (pt ks) []) = some (.next, ρ, hpB row a (pt ks) (pt (cnt its true 0))) := e
  rw [e']
  rfl
end


end
section
set_option maxRecDepth 10000

noncomputable def restR : List MObj := [.inst 510 [(31354289525, .ref 3), (3534201911406, .str []), (29202365172, .ref 66), (29475337069, .int (-1))], .inst 447 [(29475337069, .int (-1)), (29475008877, .str []), (31354237295, .ref 64), (31085656560, .ref 65), (31385728756, .int 0)], .dict [(.str [66, 79, 79, 76, 69, 65, 78], .ref 67), (.str [67, 72, 65, 82], .ref 68), (.str [66, 89, 84, 69], .ref 69), (.str [73, 78, 84, 69, 71, 69, 82], .ref 70), (.str [83, 69, 84], .ref 71), (.str [70, 65, 76, 83, 69], .ref 72), (.str [84, 82, 85, 69], .ref 73), (.str [65, 66, 83], .ref 77), (.str [79, 68, 68], .ref 78), (.str [76, 69, 78], .ref 79), (.str [76, 83, 76], .ref 80), (.str [65, 83, 82], .ref 81), (.str [82, 79, 82], .ref 82), (.str [79, 82, 68], .ref 83), (.str [67, 72, 82], .ref 84), (.str [73, 78, 67], .ref 85), (.str [68, 69, 67], .ref 86), (.str [73, 78, 67, 76], .ref 87), (.str [69, 88, 67, 76], .ref 88), (.str [78, 69, 87], .ref 89), (.str [65, 83, 83, 69, 82, 84], .ref 90)], .list [.ref 67, .ref 68, .ref 69, .ref 70, .ref 71, .ref 72, .ref 73, .ref 77, .ref 78, .ref 79, .ref 80, .ref 81, .ref 82, .ref 83, .ref 84, .ref 85, .ref 86, .ref 87, .ref 88, .ref 89, .ref 90], .list [.ref 63], .inst 390 [(215724399, .str [66, 79, 79, 76, 69, 65, 78]), (213644652, .str [116, 121, 112, 101]), (215776629, .ref 5), (27591751409, .int 0), (57310597235899622, .bool false), (69163125596271475, .bool false), (29475337069, .int 0), (3534201911406, .str []), (27629678967, .none), (247215860, .int 0), (4047714776048, .int 0), (3978959764335, .int 0), (487183448046186, .bool false), (57310699516129647, .none)], .inst 390 [(215724399, .str [67, 72, 65, 82]), (213644652, .str [116, 121, 112, 101]), (215776629, .ref 9), (27591751409, .int 0), (57310597235899622, .bool false), (69163125596271475, .bool false), (29475337069, .int 0), (3534201911406, .str []), (27629678967, .none), (247215860, .int 0), (4047714776048, .int 0), (3978959764335, .int 0), (487183448046186, .bool false), (57310699516129647, .none)], .inst 390 [(215724399, .str [66, 89, 84, 69]), (213644652, .str [116, 121, 112, 101]), (215776629, .ref 13), (27591751409, .int 0), (57310597235899622, .bool false), (69163125596271475, .bool false), (29475337069, .int 0), (3534201911406, .str []), (27629678967, .none), (247215860, .int 0), (4047714776048, .int 0), (3978959764335, .int 0), (487183448046186, .bool false), (57310699516129647, .none)], .inst 390 [(215724399, .str [73, 78, 84, 69, 71, 69, 82]), (213644652, .str [116, 121, 112, 101]), (215776629, .ref 17), (27591751409, .int 0), (57310597235899622, .bool false), (69163125596271475, .bool false), (29475337069, .int 0), (3534201911406, .str []), (27629678967, .none), (247215860, .int 0), (4047714776048, .int 0), (3978959764335, .int 0), (487183448046186, .bool false), (57310699516129647, .none)], .inst 390 [(215724399, .str [83, 69, 84]), (213644652, .str [116, 121, 112, 101]), (215776629, .ref 21), (27591751409, .int 0), (57310597235899622, .bool false), (69163125596271475, .bool false), (29475337069, .int 0), (3534201911406, .str []), (27629678967, .none), (247215860, .int 0), (4047714776048, .int 0), (3978959764335, .int 0), (487183448046186, .bool false), (57310699516129647, .none)], .inst 390 [(215724399, .str [70, 65, 76, 83, 69]), (213644652, .str [99, 111, 110, 115, 116]), (215776629, .ref 5), (27591751409, .int 0), (57310597235899622, .bool false), (69163125596271475, .bool false), (29475337069, .int 0), (3534201911406, .str []), (27629678967, .int 0), (247215860, .int 0), (4047714776048, .int 0), (3978959764335, .int 0), (487183448046186, .bool false), (57310699516129647, .none)], .inst 390 [(215724399, .str [84, 82, 85, 69]), (213644652, .str [99, 111, 110, 115, 116]), (215776629, .ref 5), (27591751409, .int 0), (57310597235899622, .bool false), (69163125596271475, .bool false), (29475337069, .int 0), (3534201911406, .str []), (27629678967, .int 1), (247215860, .int 0), (4047714776048, .int 0), (3978959764335, .int 0), (487183448046186, .bool false), (57310699516129647, .none)], .tup [.str [65, 66, 83], .str [79, 68, 68], .str [76, 69, 78], .str [76, 83, 76], .str [65, 83, 82], .str [82, 79, 82], .str [79, 82, 68], .str [67, 72, 82]], .tup [.str [73, 78, 67], .str [68, 69, 67], .str [73, 78, 67, 76], .str [69, 88, 67, 76], .str [78, 69, 87], .str [65, 83, 83, 69, 82, 84]], .tup [.str [65, 66, 83], .str [79, 68, 68], .str [76, 69, 78], .str [76, 83, 76], .str [65, 83, 82], .str [82, 79, 82], .str [79, 82, 68], .str [67, 72, 82], .str [73, 78, 67], .str [68, 69, 67], .str [73, 78, 67, 76], .str [69, 88, 67, 76], .str [78, 69, 87], .str [65, 83, 83, 69, 82, 84]], .inst 390 [(215724399, .str [65, 66, 83]), (213644652, .str [115, 116, 100]), (215776629, .ref 29), (27591751409, .int 0), (57310597235899622, .bool false), (69163125596271475, .bool false), (29475337069, .int 0), (3534201911406, .str []), (27629678967, .str [65, 66, 83]), (247215860, .int 0), (4047714776048, .int 0), (3978959764335, .int 0), (487183448046186, .bool false), (57310699516129647, .none)], .inst 390 [(215724399, .str [79, 68, 68]), (213644652, .str [115, 116, 100]), (215776629, .ref 29), (27591751409, .int 0), (57310597235899622, .bool false), (69163125596271475, .bool false), (29475337069, .int 0), (3534201911406, .str []), (27629678967, .str [79, 68, 68]), (247215860, .int 0), (4047714776048, .int 0), (3978959764335, .int 0), (487183448046186, .bool false), (57310699516129647, .none)], .inst 390 [(215724399, .str [76, 69, 78]), (213644652, .str [115, 116, 100]), (215776629, .ref 29), (27591751409, .int 0), (57310597235899622, .bool false), (69163125596271475, .bool false), (29475337069, .int 0), (3534201911406, .str []), (27629678967, .str [76, 69, 78]), (247215860, .int 0), (4047714776048, .int 0), (3978959764335, .int 0), (487183448046186, .bool false), (57310699516129647, .none)], .inst 390 [(215724399, .str [76, 83, 76]), (213644652, .str [115, 116, 100]), (215776629, .ref 29), (27591751409, .int 0), (57310597235899622, .bool false), (69163125596271475, .bool false), (29475337069, .int 0), (3534201911406, .str []), (27629678967, .str [76, 83, 76]), (247215860, .int 0), (4047714776048, .int 0), (3978959764335, .int 0), (487183448046186, .bool false), (57310699516129647, .none)], .inst 390 [(215724399, .str [65, 83, 82]), (213644652, .str [115, 116, 100]), (215776629, .ref 29), (27591751409, .int 0), (57310597235899622, .bool false), (69163125596271475, .bool false), (29475337069, .int 0), (3534201911406, .str []), (27629678967, .str [65, 83, 82]), (247215860, .int 0), (4047714776048, .int 0), (3978959764335, .int 0), (487183448046186, .bool false), (57310699516129647, .none)], .inst 390 [(215724399, .str [82, 79, 82]), (213644652, .str [115, 116, 100]), (215776629, .ref 29), (27591751409, .int 0), (57310597235899622, .bool false), (69163125596271475, .bool false), (29475337069, .int 0), (3534201911406, .str []), (27629678967, .str [82, 79, 82]), (247215860, .int 0), (4047714776048, .int 0), (3978959764335, .int 0), (487183448046186, .bool false), (57310699516129647, .none)], .inst 390 [(215724399, .str [79, 82, 68]), (213644652, .str [115, 116, 100]), (215776629, .ref 29), (27591751409, .int 0), (57310597235899622, .bool false), (69163125596271475, .bool false), (29475337069, .int 0), (3534201911406, .str []), (27629678967, .str [79, 82, 68]), (247215860, .int 0), (4047714776048, .int 0), (3978959764335, .int 0), (487183448046186, .bool false), (57310699516129647, .none)], .inst 390 [(215724399, .str [67, 72, 82]), (213644652, .str [115, 116, 100]), (215776629, .ref 29), (27591751409, .int 0), (57310597235899622, .bool false), (69163125596271475, .bool false), (29475337069, .int 0), (3534201911406, .str []), (27629678967, .str [67, 72, 82]), (247215860, .int 0), (4047714776048, .int 0), (3978959764335, .int 0), (487183448046186, .bool false), (57310699516129647, .none)], .inst 390 [(215724399, .str [73, 78, 67]), (213644652, .str [115, 116, 100]), (215776629, .ref 29), (27591751409, .int 0), (57310597235899622, .bool false), (69163125596271475, .bool false), (29475337069, .int 0), (3534201911406, .str []), (27629678967, .str [73, 78, 67]), (247215860, .int 0), (4047714776048, .int 0), (3978959764335, .int 0), (487183448046186, .bool false), (57310699516129647, .none)], .inst 390 [(215724399, .str [68, 69, 67]), (213644652, .str [115, 116, 100]), (215776629, .ref 29), (27591751409, .int 0), (57310597235899622, .bool false), (69163125596271475, .bool false), (29475337069, .int 0), (3534201911406, .str []), (27629678967, .str [68, 69, 67]), (247215860, .int 0), (4047714776048, .int 0), (3978959764335, .int 0), (487183448046186, .bool false), (57310699516129647, .none)], .inst 390 [(215724399, .str [73, 78, 67, 76]), (213644652, .str [115, 116, 100]), (215776629, .ref 29), (27591751409, .int 0), (57310597235899622, .bool false), (69163125596271475, .bool false), (29475337069, .int 0), (3534201911406, .str []), (27629678967, .str [73, 78, 67, 76]), (247215860, .int 0), (4047714776048, .int 0), (3978959764335, .int 0), (487183448046186, .bool false), (57310699516129647, .none)], .inst 390 [(215724399, .str [69, 88, 67, 76]), (213644652, .str [115, 116, 100]), (215776629, .ref 29), (27591751409, .int 0), (57310597235899622, .bool false), (69163125596271475, .bool false), (29475337069, .int 0), (3534201911406, .str []), (27629678967, .str [69, 88, 67, 76]), (247215860, .int 0), (4047714776048, .int 0), (3978959764335, .int 0), (487183448046186, .bool false), (57310699516129647, .none)], .inst 390 [(215724399, .str [78, 69, 87]), (213644652, .str [115, 116, 100]), (215776629, .ref 29), (27591751409, .int 0), (57310597235899622, .bool false), (69163125596271475, .bool false), (29475337069, .int 0), (3534201911406, .str []), (27629678967, .str [78, 69, 87]), (247215860, .int 0), (4047714776048, .int 0), (3978959764335, .int 0), (487183448046186, .bool false), (57310699516129647, .none)], .inst 390 [(215724399, .str [65, 83, 83, 69, 82, 84]), (213644652, .str [115, 116, 100]), (215776629, .ref 29), (27591751409, .int 0), (57310597235899622, .bool false), (69163125596271475, .bool false), (29475337069, .int 0), (3534201911406, .str []), (27629678967, .str [65, 83, 83, 69, 82, 84]), (247215860, .int 0), (4047714776048, .int 0), (3978959764335, .int 0), (487183448046186, .bool false), (57310699516129647, .none)], .list [], .list [], .list []]
noncomputable def restO1 : List MObj := [.inst 510 [(31354289525, .ref 3), (3534201911406, .str []), (29202365172, .ref 66), (29475337069, .int 0)], .inst 447 [(29475337069, .int (-1)), (29475008877, .str []), (31354237295, .ref 64), (31085656560, .ref 65), (31385728756, .int 0)], .dict [(.str [66, 79, 79, 76, 69, 65, 78], .ref 67), (.str [67, 72, 65, 82], .ref 68), (.str [66, 89, 84, 69], .ref 69), (.str [73, 78, 84, 69, 71, 69, 82], .ref 70), (.str [83, 69, 84], .ref 71), (.str [70, 65, 76, 83, 69], .ref 72), (.str [84, 82, 85, 69], .ref 73), (.str [65, 66, 83], .ref 77), (.str [79, 68, 68], .ref 78), (.str [76, 69, 78], .ref 79), (.str [76, 83, 76], .ref 80), (.str [65, 83, 82], .ref 81), (.str [82, 79, 82], .ref 82), (.str [79, 82, 68], .ref 83), (.str [67, 72, 82], .ref 84), (.str [73, 78, 67], .ref 85), (.str [68, 69, 67], .ref 86), (.str [73, 78, 67, 76], .ref 87), (.str [69, 88, 67, 76], .ref 88), (.str [78, 69, 87], .ref 89), (.str [65, 83, 83, 69, 82, 84], .ref 90)], .list [.ref 67, .ref 68, .ref 69, .ref 70, .ref 71, .ref 72, .ref 73, .ref 77, .ref 78, .ref 79, .ref 80, .ref 81, .ref 82, .ref 83, .ref 84, .ref 85, .ref 86, .ref 87, .ref 88, .ref 89, .ref 90], .list [.ref 63, .ref 95], .inst 390 [(215724399, .str [66, 79, 79, 76, 69, 65, 78]), (213644652, .str [116, 121, 112, 101]), (215776629, .ref 5), (27591751409, .int 0), (57310597235899622, .bool false), (69163125596271475, .bool false), (29475337069, .int 0), (3534201911406, .str []), (27629678967, .none), (247215860, .int 0), (4047714776048, .int 0), (3978959764335, .int 0), (487183448046186, .bool false), (57310699516129647, .none)], .inst 390 [(215724399, .str [67, 72, 65, 82]), (213644652, .str [116, 121, 112, 101]), (215776629, .ref 9), (27591751409, .int 0), (57310597235899622, .bool false), (69163125596271475, .bool false), (29475337069, .int 0), (3534201911406, .str []), (27629678967, .none), (247215860, .int 0), (4047714776048, .int 0), (3978959764335, .int 0), (487183448046186, .bool false), (57310699516129647, .none)], .inst 390 [(215724399, .str [66, 89, 84, 69]), (213644652, .str [116, 121, 112, 101]), (215776629, .ref 13), (27591751409, .int 0), (57310597235899622, .bool false), (69163125596271475, .bool false), (29475337069, .int 0), (3534201911406, .str []), (27629678967, .none), (247215860, .int 0), (4047714776048, .int 0), (3978959764335, .int 0), (487183448046186, .bool false), (57310699516129647, .none)], .inst 390 [(215724399, .str [73, 78, 84, 69, 71, 69, 82]), (213644652, .str [116, 121, 112, 101]), (215776629, .ref 17), (27591751409, .int 0), (57310597235899622, .bool false), (69163125596271475, .bool false), (29475337069, .int 0), (3534201911406, .str []), (27629678967, .none), (247215860, .int 0), (4047714776048, .int 0), (3978959764335, .int 0), (487183448046186, .bool false), (57310699516129647, .none)], .inst 390 [(215724399, .str [83, 69, 84]), (213644652, .str [116, 121, 112, 101]), (215776629, .ref 21), (27591751409, .int 0), (57310597235899622, .bool false), (69163125596271475, .bool false), (29475337069, .int 0), (3534201911406, .str []), (27629678967, .none), (247215860, .int 0), (4047714776048, .int 0), (3978959764335, .int 0), (487183448046186, .bool false), (57310699516129647, .none)], .inst 390 [(215724399, .str [70, 65, 76, 83, 69]), (213644652, .str [99, 111, 110, 115, 116]), (215776629, .ref 5), (27591751409, .int 0), (57310597235899622, .bool false), (69163125596271475, .bool false), (29475337069, .int 0), (3534201911406, .str []), (27629678967, .int 0), (247215860, .int 0), (4047714776048, .int 0), (3978959764335, .int 0), (487183448046186, .bool false), (57310699516129647, .none)], .inst 390 [(215724399, .str [84, 82, 85, 69]), (213644652, .str [99, 111, 110, 115, 116]), (215776629, .ref 5), (27591751409, .int 0), (57310597235899622, .bool false), (69163125596271475, .bool false), (29475337069, .int 0), (3534201911406, .str []), (27629678967, .int 1), (247215860, .int 0), (4047714776048, .int 0), (3978959764335, .int 0), (487183448046186, .bool false), (57310699516129647, .none)], .tup [.str [65, 66, 83], .str [79, 68, 68], .str [76, 69, 78], .str [76, 83, 76], .str [65, 83, 82], .str [82, 79, 82], .str [79, 82, 68], .str [67, 72, 82]], .tup [.str [73, 78, 67], .str [68, 69, 67], .str [73, 78, 67, 76], .str [69, 88, 67, 76], .str [78, 69, 87], .str [65, 83, 83, 69, 82, 84]], .tup [.str [65, 66, 83], .str [79, 68, 68], .str [76, 69, 78], .str [76, 83, 76], .str [65, 83, 82], .str [82, 79, 82], .str [79, 82, 68], .str [67, 72, 82], .str [73, 78, 67], .str [68, 69, 67], .str [73, 78, 67, 76], .str [69, 88, 67, 76], .str [78, 69, 87], .str [65, 83, 83, 69, 82, 84]], .inst 390 [(215724399, .str [65, 66, 83]), (213644652, .str [115, 116, 100]), (215776629, .ref 29), (27591751409, .int 0), (57310597235899622, .bool false), (69163125596271475, .bool false), (29475337069, .int 0), (3534201911406, .str []), (27629678967, .str [65, 66, 83]), (247215860, .int 0), (4047714776048, .int 0), (3978959764335, .int 0), (487183448046186, .bool false), (57310699516129647, .none)], .inst 390 [(215724399, .str [79, 68, 68]), (213644652, .str [115, 116, 100]), (215776629, .ref 29), (27591751409, .int 0), (57310597235899622, .bool false), (69163125596271475, .bool false), (29475337069, .int 0), (3534201911406, .str []), (27629678967, .str [79, 68, 68]), (247215860, .int 0), (4047714776048, .int 0), (3978959764335, .int 0), (487183448046186, .bool false), (57310699516129647, .none)], .inst 390 [(215724399, .str [76, 69, 78]), (213644652, .str [115, 116, 100]), (215776629, .ref 29), (27591751409, .int 0), (57310597235899622, .bool false), (69163125596271475, .bool false), (29475337069, .int 0), (3534201911406, .str []), (27629678967, .str [76, 69, 78]), (247215860, .int 0), (4047714776048, .int 0), (3978959764335, .int 0), (487183448046186, .bool false), (57310699516129647, .none)], .inst 390 [(215724399, .str [76, 83, 76]), (213644652, .str [115, 116, 100]), (215776629, .ref 29), (27591751409, .int 0), (57310597235899622, .bool false), (69163125596271475, .bool false), (29475337069, .int 0), (3534201911406, .str []), (27629678967, .str [76, 83, 76]), (247215860, .int 0), (4047714776048, .int 0), (3978959764335, .int 0), (487183448046186, .bool false), (57310699516129647, .none)], .inst 390 [(215724399, .str [65, 83, 82]), (213644652, .str [115, 116, 100]), (215776629, .ref 29), (27591751409, .int 0), (57310597235899622, .bool false), (69163125596271475, .bool false), (29475337069, .int 0), (3534201911406, .str []), (27629678967, .str [65, 83, 82]), (247215860, .int 0), (4047714776048, .int 0), (3978959764335, .int 0), (487183448046186, .bool false), (57310699516129647, .none)], .inst 390 [(215724399, .str [82, 79, 82]), (213644652, .str [115, 116, 100]), (215776629, .ref 29), (27591751409, .int 0), (57310597235899622, .bool false), (69163125596271475, .bool false), (29475337069, .int 0), (3534201911406, .str []), (27629678967, .str [82, 79, 82]), (247215860, .int 0), (4047714776048, .int 0), (3978959764335, .int 0), (487183448046186, .bool false), (57310699516129647, .none)], .inst 390 [(215724399, .str [79, 82, 68]), (213644652, .str [115, 116, 100]), (215776629, .ref 29), (27591751409, .int 0), (57310597235899622, .bool false), (69163125596271475, .bool false), (29475337069, .int 0), (3534201911406, .str []), (27629678967, .str [79, 82, 68]), (247215860, .int 0), (4047714776048, .int 0), (3978959764335, .int 0), (487183448046186, .bool false), (57310699516129647, .none)], .inst 390 [(215724399, .str [67, 72, 82]), (213644652, .str [115, 116, 100]), (215776629, .ref 29), (27591751409, .int 0), (57310597235899622, .bool false), (69163125596271475, .bool false), (29475337069, .int 0), (3534201911406, .str []), (27629678967, .str [67, 72, 82]), (247215860, .int 0), (4047714776048, .int 0), (3978959764335, .int 0), (487183448046186, .bool false), (57310699516129647, .none)], .inst 390 [(215724399, .str [73, 78, 67]), (213644652, .str [115, 116, 100]), (215776629, .ref 29), (27591751409, .int 0), (57310597235899622, .bool false), (69163125596271475, .bool false), (29475337069, .int 0), (3534201911406, .str []), (27629678967, .str [73, 78, 67]), (247215860, .int 0), (4047714776048, .int 0), (3978959764335, .int 0), (487183448046186, .bool false), (57310699516129647, .none)], .inst 390 [(215724399, .str [68, 69, 67]), (213644652, .str [115, 116, 100]), (215776629, .ref 29), (27591751409, .int 0), (57310597235899622, .bool false), (69163125596271475, .bool false), (29475337069, .int 0), (3534201911406, .str []), (27629678967, .str [68, 69, 67]), (247215860, .int 0), (4047714776048, .int 0), (3978959764335, .int 0), (487183448046186, .bool false), (57310699516129647, .none)], .inst 390 [(215724399, .str [73, 78, 67, 76]), (213644652, .str [115, 116, 100]), (215776629, .ref 29), (27591751409, .int 0), (57310597235899622, .bool false), (69163125596271475, .bool false), (29475337069, .int 0), (3534201911406, .str []), (27629678967, .str [73, 78, 67, 76]), (247215860, .int 0), (4047714776048, .int 0), (3978959764335, .int 0), (487183448046186, .bool false), (57310699516129647, .none)], .inst 390 [(215724399, .str [69, 88, 67, 76]), (213644652, .str [115, 116, 100]), (215776629, .ref 29), (27591751409, .int 0), (57310597235899622, .bool false), (69163125596271475, .bool false), (29475337069, .int 0), (3534201911406, .str []), (27629678967, .str [69, 88, 67, 76]), (247215860, .int 0), (4047714776048, .int 0), (3978959764335, .int 0), (487183448046186, .bool false), (57310699516129647, .none)], .inst 390 [(215724399, .str [78, 69, 87]), (213644652, .str [115, 116, 100]), (215776629, .ref 29), (27591751409, .int 0), (57310597235899622, .bool false), (69163125596271475, .bool false), (29475337069, .int 0), (3534201911406, .str []), (27629678967, .str [78, 69, 87]), (247215860, .int 0), (4047714776048, .int 0), (3978959764335, .int 0), (487183448046186, .bool false), (57310699516129647, .none)], .inst 390 [(215724399, .str [65, 83, 83, 69, 82, 84]), (213644652, .str [115, 116, 100]), (215776629, .ref 29), (27591751409, .int 0), (57310597235899622, .bool false), (69163125596271475, .bool false), (29475337069, .int 0), (3534201911406, .str []), (27629678967, .str [65, 83, 83, 69, 82, 84]), (247215860, .int 0), (4047714776048, .int 0), (3978959764335, .int 0), (487183448046186, .bool false), (57310699516129647, .none)], .list [], .list [], .list []]
noncomputable def restO2 : List MObj := [.inst 447 [(29475337069, .int 0), (29475008877, .str []), (31354237295, .ref 96), (31085656560, .ref 97), (31385728756, .int 0)], .dict [], .list []]
noncomputable def restE2 : List MObj := [.inst 447 [(29475337069, .int 0), (29475008877, .str []), (31354237295, .ref 96), (31085656560, .ref 97), (31385728756, .int 0)], .dict [(.str [80], .ref 98)], .list [.ref 98], .inst 390 [(215724399, .str [80]), (213644652, .str [116, 121, 112, 101]), (215776629, .ref 38), (27591751409, .int 0), (57310597235899622, .bool false), (69163125596271475, .bool false), (29475337069, .int 0), (3534201911406, .str []), (27629678967, .none), (247215860, .int 0), (4047714776048, .int 0), (3978959764335, .int 0), (487183448046186, .bool false), (57310699516129647, .none)]]

noncomputable def hpC (row : List MVal) (a : Int) (P C : List MVal) : MHeap := hpB row a P C ++ [.inst 179 [(245250163, .ref 57), (4013321402097, .ref 58)], .list [], .dict []]
noncomputable def rd0 : MObj := .inst 630 [(509310072828532, .ref 60), (31354289525, .ref 3), (4016836508134, .ref 56), (65191896583796586, .none), (4013348893300, .ref 62), (3534201911406, .str []), (31350077937, .ref 91), (513674835473267, .ref 92), (65750375224637543, .ref 93), (29475337069, .int 0), (247280495, .int 0), (31385776497, .int 0)]
noncomputable def hpR (row : List MVal) (a : Int) (P C : List MVal) (src : List Nat) : MHeap := hpC row a P C ++ (rd0 :: scO src 0 :: wordO :: restR)
noncomputable def hpS (row : List MVal) (a : Int) (P C : List MVal) (src : List Nat) (p : Nat) (k : List Nat) (q : Nat) : MHeap := (hpC row a P C ++ (rdO 94 0 :: scO src p :: wordO :: restR)) ++ [tokO k (.str []) q]
noncomputable def hpO (row : List MVal) (a : Int) (P C : List MVal) (src : List Nat) (p : Nat) (k : List Nat) (q : Nat) : MHeap := (hpC row a P C ++ (rdO 94 0 :: scO src p :: wordO :: restO1)) ++ (tokO k (.str []) q :: restO2)
noncomputable def hpE (row : List MVal) (a : Int) (P C : List MVal) (src : List Nat) (p : Nat) (k : List Nat) (q : Nat) : MHeap := (hpC row a P C ++ (rdO 94 0 :: scO src p :: wordO :: restO1)) ++ (tokO k (.str []) q :: restE2)

noncomputable def appS : MSs → MSs → MSs
  | .nil, b => b
  | .cons s r, b => .cons s (appS r b)
noncomputable def cutS : MSs → MSs
  | .nil => .nil
  | .cons s .nil => .nil
  | .cons s (.cons t r) => .cons s (cutS (.cons t r))
theorem exSs_app {T : Tab} {C : CallF} {W : Nat} : ∀ (x y : MSs) {ρ ρ' : Loc} {H H' : MHeap}, exSs T C W x ρ H = some (.next, ρ', H') → exSs T C W (appS x y) ρ H = exSs T C W y ρ' H'
  | .nil, y, ρ, ρ', H, H', h => by
    rw [exSs] at h
    cases h
    rfl
  | .cons s r, y, ρ, ρ', H, H', h => by
    rw [exSs] at h
    show exSs T C W (.cons s (appS r y)) ρ H = _
    rw [exSs]
    cases hs : exS T C W s ρ H with
    | none => rw [hs] at h; cases h
    | some o =>
      obtain ⟨f, ρ1, H1⟩ := o
      rw [hs] at h
      simp only [Option.bind_some] at h ⊢
      cases f with
      | next => exact exSs_app r y h
      | brk => cases h
      | cont => cases h
      | ret v => cases h

section
variable (row : List MVal) (a : Int) (P C : List MVal) (src : List Nat) (p : Nat) (k : List Nat) (q : Nat)
theorem errors_ : callV tb CC (.cls 179) [] (hpB row a P C) = some (.ref 56, hpC row a P C) := by kernel_rfl
theorem scope_open : callF tb 2003 20 472 [.ref 62, .str []] (hpS row a P C src p k q) = some (.ref 95, hpO row a P C src p k q) := by kernel_rfl
theorem scope_insert : callF tb 2003 20 500 [.ref 62, .str [80], .str [116, 121, 112, 101], .ref 38, .int 0] (hpO row a P C src p k q) = some (.ref 98, hpE row a P C src p k q) := by kernel_rfl
noncomputable def rhR : Loc := [(217805684, .ref 59), (3531779979380, .str src), (31354289525, .ref 3), (4016836508134, .ref 56), (65191896583796586, .none)]
theorem reader_pre : exSs tb (callF tb 2003 19) 2003 (cutS b550) (rhR src) (hpC row a P C ++ [.inst 630 []]) = some (.next, rhR src, hpR row a P C src) := by kernel_rfl
theorem b550_eq : b550 = appS (cutS b550) (.cons (.setA (.loc 217805684) 30012029045 (.meth (.attr (.loc 217805684) 509310072828532) 215691637 .nil)) .nil) := by kernel_rfl
theorem hpC_len : (hpC row a P C).length = 59 := by kernel_rfl
theorem hpR_len : (hpR row a P C src).length = 94 := by kernel_rfl
theorem reader_init (N : Nx src 0 k (.str []) q p) : callF tb 2003 20 550 [.ref 59, .str src, .ref 3, .ref 56, .none] (hpC row a P C ++ [.inst 630 []]) = some (.none, hpS row a P C src p k q) := by
  have ta : callF tb 2003 19 268 [.ref 60] (hpR row a P C src) = some (.ref (hpR row a P C src).length, (hpR row a P C src).set 60 (scO src p) ++ [tokO k (.str []) q]) := N 2001 15 (hpR row a P C src) rfl rfl
  rw [hpR_len] at ta
  have g1 : getA tb (.ref 59) 509310072828532 (hpR row a P C src) = some (.ref 60) := rfl
  have m1 : methOf tb (.ref 60) 215691637 (hpR row a P C src) = some (.fn 268 (.ref 60)) := rfl
  have st : setAt tb (.ref 59) 30012029045 (.ref 94) ((hpR row a P C src).set 60 (scO src p) ++ [tokO k (.str []) q]) = some (hpS row a P C src p k q) := by kernel_rfl
  refine callF_go (W := 2003) (d := 19) (ρ := rhR src) (o := .next) (ρ' := rhR src) rfl rfl ?_ rfl
  rw [b550_eq, exSs_app _ _ (reader_pre row a P C src)]
  have s1 : lk 217805684 (rhR src) = some (.ref 59) := rfl
  (have zz0 := s1; have zz1 := g1; have zz2 := m1; have zz3 := ta; have zz4 := st; (repeat' (first|with_reducible (first|assumption|exact xNil|apply xCons|apply nxN|exact nxR|exact nxB|exact nxC|apply eLoc|apply eAttr|apply eMeth|apply mcFn|exact eInt|exact eStr|exact esNil|apply esCons|apply eGlob|apply eCall|apply cvFn|apply xExpr|apply xRet|apply xSetL|apply xIte|apply xSetA|apply xSetI|apply xUnp|apply xAugA|exact xBrk|exact xCont|apply xWhl|apply lwStep|apply gtT|exact gtF|apply gwN|exact gwR|apply ifT|apply ifF|apply tAnd|apply tOr|apply tNot|exact alNil|apply alCons|exact ayNil|apply ayCons|apply tPlain|apply eCmp|apply eBin|apply eIdx|apply eSlc|apply eBi|exact eNone|exact eBool|apply eInT|apply eIsN|apply eEqNil|apply eNot|apply eIte|apply eList|apply eTup|apply eCel|exact eNeg|exact eDict0|apply eAnd|apply eOr|apply anOne|apply anTwo|apply orOne|apply orTwo|exact bAdd|exact bSub|apply cEqS|apply cNeS|apply cEqI|apply cNeI|apply cLt|apply cLe|apply cGt|apply cGe|apply cLtS|apply cLeS|apply cInS)|((with_reducible apply lkHit); exact Eq.refl true)|((with_reducible apply lkHere); exact Eq.refl true)|((with_reducible apply lkMiss); exact Eq.refl false)|((with_reducible apply lkNext); exact Eq.refl false)|with_reducible apply xForS|((with_reducible apply lfE); (with_reducible assumption))|((with_reducible apply lfN); (with_reducible assumption))|((with_reducible apply setAt_last) <;> exact Eq.refl true)|exact Eq.refl true|exact Eq.refl false|exact xNil|with_reducible exact nxR|(apply xCons)|(apply xSetL)|(apply xExpr)|(apply xIte)|(apply xRet)|(apply xSetA)|exact rfl)))
theorem reader_ (N : Nx src 0 k (.str []) q p) : callV tb CC (.cls 630) [.str src, .ref 3, .ref 56, .none] (hpC row a P C) = some (.ref 59, hpS row a P C src p k q) := by
  have e1 := reader_init row a P C src p k q N
  have e2 : CC 550 [.ref (hpC row a P C).length, .str src, .ref 3, .ref 56, .none] (hpC row a P C ++ [.inst 630 []]) = some (.none, hpS row a P C src p k q) := by rw [hpC_len]; exact e1
  have e3 := cvCls rfl e2
  rw [hpC_len] at e3
  exact e3
end


end
section
set_option maxRecDepth 10000

section
variable (row : List MVal) (a : Int) (P C : List MVal) (src : List Nat) (p : Nat) (k : List Nat) (q : Nat)
noncomputable def obV : MObj := obO [118] [118, 97, 114] (.ref 38) 0 [] .none 0
noncomputable def hpF : MHeap := hpE row a P C src p k q ++ [.list [], obV, nodeO [118, 97, 114] (.int 900) (.ref 38) 99 (.ref 100)]
theorem obj_v : callV tb CC (.cls 390) [.str [118], .str [118, 97, 114], .ref 38, .int 0] (hpE row a P C src p k q ++ [.list []]) = some (.ref 100, hpE row a P C src p k q ++ [.list []] ++ [obV]) := by kernel_rfl
theorem hpE_len : (hpE row a P C src p k q).length = 99 := by kernel_rfl
theorem hpE_len2 : (hpE row a P C src p k q ++ [MObj.list []] ++ [obV]).length = 101 := by kernel_rfl
theorem node_v : callV tb CC (.cls 39) [.str [118, 97, 114], .int 900, .ref 38, .ref 99, .ref 100] (hpE row a P C src p k q ++ [.list []] ++ [obV]) = some (.ref 101, hpF row a P C src p k q) := by
  have := callV_node (W := 2003) (d := 19) (H := hpE row a P C src p k q ++ [.list []] ++ [obV]) [118, 97, 114] (.int 900) (.ref 38) 99 (.ref 100)
  rw [hpE_len2] at this
  rw [show CC = callF tb 2003 (19 + 1) from rfl, this]
  simp only [hpF, List.append_assoc, List.cons_append, List.nil_append]
theorem inv_F (h : 61 < 94) : Inv src (hpF row a P C src p k q) 0 101 38 0 p 94 k q [(13043, .ref 59), (215578735, .ref 101), (1031924933504939097318, .fn 648)] := by
  have nd : (hpF row a P C src p k q)[101]? = some (nodeO [118, 97, 114] (.int 900) (.ref 38) 99 (.ref 100)) := by kernel_rfl
  exact {
    S := ⟨by kernel_rfl, by kernel_rfl, by kernel_rfl, by kernel_rfl, by decide⟩
    c := ⟨by kernel_rfl, by kernel_rfl, by kernel_rfl, by kernel_rfl, by kernel_rfl, by kernel_rfl, by kernel_rfl, by kernel_rfl, by kernel_rfl⟩
    c2 := ⟨by kernel_rfl, by kernel_rfl, by kernel_rfl, by kernel_rfl, by kernel_rfl, ⟨.int 11, .ref 4, .ref 5, .ref 9, .ref 13, .ref 21, .ref 25, .ref 29, by kernel_rfl⟩⟩
    er := ⟨by kernel_rfl, Nat.le_refl _, [], by kernel_rfl, rfl, Nat.le_refl _, fun _ => rfl⟩
    nd := ⟨_, _, _, _, nd, rfl⟩
    hi := by decide
    D := .base nd (by decide) (.inl rfl)
    hm := Nat.le_refl _
    hn := by decide
    R := ⟨rfl, rfl, rfl⟩ }
theorem hpF_55 : (hpF row a P C src p k q)[55]? = some (.list C) := by kernel_rfl
end

theorem idx_list {H : MHeap} {o : Nat} {xs : List MVal} {i : Nat} {v : MVal} (h : H[o]? = some (.list xs)) (hl : xs.length ≤ 9000) (hi : xs[i]? = some v) : index (.ref o) (.int i) H = some v := by
  have hlt : i < xs.length := by
    rcases Nat.lt_or_ge i xs.length with q | q
    · exact q
    · rw [List.getElem?_eq_none q] at hi; cases hi
  unfold index
  simp only [h]
  rw [if_pos (by rw [show szLine = 1048576 from by decide]; omega), place_ok hlt]
  exact hi
theorem lenL_ {H : MHeap} {o : Nat} {xs : List MVal} (h : H[o]? = some (.list xs)) (hl : xs.length ≤ 9000) : builtin .len [.ref o] H = some (.int xs.length) := by
  show (H[o]?).bind lenO = _
  rw [h]
  exact if_pos (by rw [show szLine = 1048576 from by decide]; omega)
theorem tup_eq {H : MHeap} {i j : Nat} {x y u v : MVal} {e f : Bool} (h1 : H[i]? = some (.tup [x, y])) (h2 : H[j]? = some (.tup [u, v])) (h3 : eqV x u = some e) (h4 : eqV y v = some f) : tupEq i j H = some (e && f) := by
  unfold tupEq
  exact bnd h1 (bnd h2 (bnd (x := tupO (.tup [x, y])) rfl (bnd (x := tupO (.tup [u, v])) rfl (bnd (x := two [x, y]) rfl (bnd (x := two [u, v]) rfl (bnd (x := eqV x u) h3 (mpd (x := eqV y v) h4)))))))

theorem cmp_ner (i j : Nat) (H : MHeap) : cmpop .ne (.ref i) (.ref j) H = (tupEq i j H).map (!·) := rfl
theorem te_ (H : MHeap) (x : List Nat) (A B : Int) (h : A = B) : cmpop .ne (.ref H.length) (.ref (H ++ [MObj.tup [.str x, .int A]]).length) (H ++ [MObj.tup [.str x, .int A]] ++ [MObj.tup [.str x, .int B]]) = some false := by
  subst h
  have h1 : (H ++ [MObj.tup [.str x, .int A]] ++ [MObj.tup [.str x, .int A]])[H.length]? = some (.tup [.str x, .int A]) := by
    rw [List.getElem?_append_left (by simp)]; exact get_last _ _
  have h2 := get_last (H ++ [MObj.tup [.str x, .int A]]) (MObj.tup [.str x, .int A])
  have h3 : eqV (.str x) (.str x) = some true := by show some (x == x) = _; simp
  have h4 : eqV (.int A) (.int A) = some true := by show some (A == A) = _; simp
  rw [cmp_ner, tup_eq h1 h2 h3 h4]
  rfl
theorem getA_app {T : Tab} {v u : MVal} {x : Nat} {H : MHeap} (h : getA T v x H = some u) (y : List MObj) : getA T v x (H ++ y) = some u := by
  cases v with
  | ref i =>
    unfold getA at h ⊢
    dsimp only at h ⊢
    cases hj : H[i]? with
    | none => rw [hj] at h; cases h
    | some o =>
      rw [hj] at h
      rw [List.getElem?_append_left (get_lt hj), hj]
      exact h
  | _ => cases h

section
variable {row : List MVal} {a : Int} {ks : List Nat} {ρ : Loc} {w : Nat} {its : List It}
theorem law_end (L : Lp ρ w (txt its) (fnl its true)) (hok : okI its true = true) (h130 : its.length ≤ 130) :
    ∃ ρ' H', exSs tb CC 2003 (.cons l19 (.cons l20 (.cons l21 (.cons l22 (.cons l23 (.cons l24 (.cons l25 (.cons l26 .nil)))))))) ρ (hpB row a (pt ks) (pt (cnt its true 0))) = some (.ret (.bool true), ρ', H') := by
  have ht := txt_le its
  have hc := cnt_le its true 0
  have hsl : (txt its ++ [32, 59]).length = (txt its).length + 2 := by simp
  have hl : (txt its ++ [32, 59]).length ≤ 90000 := by omega
  have hd : (txt its ++ [32, 59]).drop 0 = txt its ++ [32, 59] := rfl
  have N := nx_first hl hd
  have I := inv_F row a (pt ks) (pt (cnt its true 0)) (txt its ++ [32, 59]) (ftP its 0) (ftK its) (ftQ its 0) (by decide)
  obtain ⟨H', j, es, K, g1, g2⟩ := selectors_ hl (W := 2000) (d := 10) (by omega) hd hok I (by omega)
  have es' : CC 134 [.ref 59, .ref 101, .fn 648] (hpF row a (pt ks) (pt (cnt its true 0)) (txt its ++ [32, 59]) (ftP its 0) (ftK its) (ftQ its 0)) = some (.ref j, H') := es
  have ad : ∀ H, binop .add (.str (txt its)) (.str [32, 59]) H = some (.str (txt its ++ [32, 59]), H) := fun H => add_s' (by omega) (by decide)
  have er := errors_ row a (pt ks) (pt (cnt its true 0))
  have re := reader_ row a (pt ks) (pt (cnt its true 0)) (txt its ++ [32, 59]) _ _ _ N
  have sc1 : getA tb (.ref 59) 4013348893300 (hpS row a (pt ks) (pt (cnt its true 0)) (txt its ++ [32, 59]) (ftP its 0) (ftK its) (ftQ its 0)) = some (.ref 62) := by kernel_rfl
  have sc2 : getA tb (.ref 59) 4013348893300 (hpO row a (pt ks) (pt (cnt its true 0)) (txt its ++ [32, 59]) (ftP its 0) (ftK its) (ftQ its 0)) = some (.ref 62) := by kernel_rfl
  have mo : methOf tb (.ref 62) 234469616 (hpS row a (pt ks) (pt (cnt its true 0)) (txt its ++ [32, 59]) (ftP its 0) (ftK its) (ftQ its 0)) = some (.fn 472 (.ref 62)) := by kernel_rfl
  have mi : methOf tb (.ref 62) 4051175290858 (hpO row a (pt ks) (pt (cnt its true 0)) (txt its ++ [32, 59]) (ftP its 0) (ftK its) (ftQ its 0)) = some (.fn 500 (.ref 62)) := by kernel_rfl
  have so := scope_open row a (pt ks) (pt (cnt its true 0)) (txt its ++ [32, 59]) (ftP its 0) (ftK its) (ftQ its 0)
  have si := scope_insert row a (pt ks) (pt (cnt its true 0)) (txt its ++ [32, 59]) (ftP its 0) (ftK its) (ftQ its 0)
  have ov := obj_v row a (pt ks) (pt (cnt its true 0)) (txt its ++ [32, 59]) (ftP its 0) (ftK its) (ftQ its 0)
  have nv := node_v row a (pt ks) (pt (cnt its true 0)) (txt its ++ [32, 59]) (ftP its 0) (ftK its) (ftQ its 0)
  have hel := hpE_len row a (pt ks) (pt (cnt its true 0)) (txt its ++ [32, 59]) (ftP its 0) (ftK its) (ftQ its 0)
  have c55 := K.2 _ _ (hpF_55 row a (pt ks) (pt (cnt its true 0)) (txt its ++ [32, 59]) (ftP its 0) (ftK its) (ftQ its 0)) (by decide) (by decide) (by decide) (by decide)
  have cst := K.cst I.c
  have L1 := L.other 4016836508134 (.ref 56) rfl
  have L2 := L1.other 13043 (.ref 59) rfl
  have L3 := L2.other 215578735 (.ref j) rfl
  have r1 : lk 4016836508134 (put 4016836508134 (.ref 56) ρ) = some (.ref 56) := lkHit rfl
  have r2 : lk 4016836508134 (put 13043 (.ref 59) (put 4016836508134 (.ref 56) ρ)) = some (.ref 56) := lkMiss rfl r1
  have r3 : lk 13043 (put 13043 (.ref 59) (put 4016836508134 (.ref 56) ρ)) = some (.ref 59) := lkHit rfl
  have r4 : lk 4016836508134 (put 215578735 (.ref j) (put 13043 (.ref 59) (put 4016836508134 (.ref 56) ρ))) = some (.ref 56) := lkMiss rfl r2
  have r5 : lk 13043 (put 215578735 (.ref j) (put 13043 (.ref 59) (put 4016836508134 (.ref 56) ρ))) = some (.ref 59) := lkMiss rfl r3
  have r6 : lk 215578735 (put 215578735 (.ref j) (put 13043 (.ref 59) (put 4016836508134 (.ref 56) ρ))) = some (.ref j) := lkHit rfl
  have nv' : callV tb CC (.cls 39) [.str [118, 97, 114], .int 900, .ref 38, .ref (hpE row a (pt ks) (pt (cnt its true 0)) (txt its ++ [32, 59]) (ftP its 0) (ftK its) (ftQ its 0)).length, .ref 100] (hpE row a (pt ks) (pt (cnt its true 0)) (txt its ++ [32, 59]) (ftP its 0) (ftK its) (ftQ its 0) ++ [.list []] ++ [obV]) = some (.ref 101, hpF row a (pt ks) (pt (cnt its true 0)) (txt its ++ [32, 59]) (ftP its 0) (ftK its) (ftQ its 0)) := by rw [hel]; exact nv
  have e : ∀ (ss : MSs) (r : Out), exSs tb CC 2003 ss (put 215578735 (.ref j) (put 13043 (.ref 59) (put 4016836508134 (.ref 56) ρ))) H' = some r → exSs tb CC 2003 (.cons l19 (.cons l20 (.cons l21 (.cons l22 (.cons l23 ss))))) ρ (hpB row a (pt ks) (pt (cnt its true 0))) = some r := by
    intro ss r hr
    (have zz0 := er; have zz1 := L1.sa; have zz2 := ad (hpC row a (pt ks) (pt (cnt its true 0))); have zz3 := L1.ty; have zz4 := r1; have zz5 := re; have zz6 := r3; have zz7 := sc1; have zz8 := mo; have zz9 := so; have zz10 := sc2; have zz11 := mi; have zz12 := L2.po; have zz13 := si; have zz14 := ov; have zz15 := nv'; have zz16 := es'; have zz17 := hr; (repeat' (first|with_reducible (first|assumption|exact xNil|apply xCons|apply nxN|exact nxR|exact nxB|exact nxC|apply eLoc|apply eAttr|apply eMeth|apply mcFn|exact eInt|exact eStr|exact esNil|apply esCons|apply eGlob|apply eCall|apply cvFn|apply xExpr|apply xRet|apply xSetL|apply xIte|apply xSetA|apply xSetI|apply xUnp|apply xAugA|exact xBrk|exact xCont|apply xWhl|apply lwStep|apply gtT|exact gtF|apply gwN|exact gwR|apply ifT|apply ifF|apply tAnd|apply tOr|apply tNot|exact alNil|apply alCons|exact ayNil|apply ayCons|apply tPlain|apply eCmp|apply eBin|apply eIdx|apply eSlc|apply eBi|exact eNone|exact eBool|apply eInT|apply eIsN|apply eEqNil|apply eNot|apply eIte|apply eList|apply eTup|apply eCel|exact eNeg|exact eDict0|apply eAnd|apply eOr|apply anOne|apply anTwo|apply orOne|apply orTwo|exact bAdd|exact bSub|apply cEqS|apply cNeS|apply cEqI|apply cNeI|apply cLt|apply cLe|apply cGt|apply cGe|apply cLtS|apply cLeS|apply cInS)|((with_reducible apply lkHit); exact Eq.refl true)|((with_reducible apply lkHere); exact Eq.refl true)|((with_reducible apply lkMiss); exact Eq.refl false)|((with_reducible apply lkNext); exact Eq.refl false)|with_reducible apply xForS|((with_reducible apply lfE); (with_reducible assumption))|((with_reducible apply lfN); (with_reducible assumption))|((with_reducible apply setAt_last) <;> exact Eq.refl true)|exact Eq.refl true|exact Eq.refl false|exact xNil|with_reducible exact nxR|(apply xCons)|(apply xSetL)|(apply xExpr)|(apply xIte)|(apply xRet)|(apply xSetA)|exact rfl)))
  have ln := lenL_ c55 (by rw [pt_len]; omega)
  rw [pt_len] at ln
  have rw1 : getA tb (.ref 56) 245250163 H' = some (.ref 57) := getA_inst (c := 179) cst.c56 rfl rfl
  by_cases h120 : 120 < (cnt its true 0).length
  · obtain ⟨n', p', t', q', S, NN, r, xs, E, hN, hr⟩ := g2 (by omega)
    have d1 : decide ((120 : Int) < ((cnt its true 0).length : Int)) = true := decide_eq_true (by omega)
    have ix1 : index (.ref 57) (.int 0) H' = some (.ref r) := idx_list (i := 0) E.r (by have := E.lx; omega) rfl
    have ix2 : index (.ref 55) (.int 120) H' = some (.int ((cnt its true 0).getD (120 - 0) 0 : Nat)) := by
      refine idx_list (i := 120) c55 (by rw [pt_len]; omega) ?_
      rw [List.getD_eq_getElem?_getD]
      simp only [pt, List.getElem?_map, Nat.sub_zero]
      rw [List.getElem?_eq_getElem h120]
      rfl
    generalize (cnt its true 0).getD (120 - 0) 0 = KK at ix2 hr
    have S2 := S.app [MObj.tup [.int KK, .str [116, 111, 111, 95, 100, 101, 101, 112]]]
    have te : cmpop .eq (.ref r) (.ref H'.length) (H' ++ [MObj.tup [.int KK, .str [116, 111, 111, 95, 100, 101, 101, 112]]]) = some true := by
      have := tup_eq (H := H' ++ [MObj.tup [.int KK, .str [116, 111, 111, 95, 100, 101, 101, 112]]]) (i := r) (j := H'.length) (e := true) (f := true) (by rw [List.getElem?_append_left (get_lt hr)]; exact hr) (get_last _ _) (by show some (_ == _) = _; simp) rfl
      exact this
    have q1 : (true != false) = true := rfl
    have q2 : (MVal.ref j == MVal.none) = false := rfl
    have q3 : (([101, 111, 102] : List Nat) == [101, 111, 102]) = true := rfl
    refine ⟨(put 215578735 (.ref j) (put 13043 (.ref 59) (put 4016836508134 (.ref 56) ρ))), H' ++ [MObj.tup [.int KK, .str [116, 111, 111, 95, 100, 101, 101, 112]]], ?_⟩
    refine e _ _ ?_
    (have zz0 := L3.co; have zz1 := ln; have zz2 := d1; have zz3 := r4; have zz4 := rw1; have zz5 := E.r; have zz6 := q1; have zz7 := q2; have zz8 := q3; have zz9 := ix1; have zz10 := ix2; have zz11 := te; have zz12 := r5; have zz13 := r6; have zz14 := S2.token; have zz15 := S2.kind; (repeat' (first|with_reducible (first|assumption|exact xNil|apply xCons|apply nxN|exact nxR|exact nxB|exact nxC|apply eLoc|apply eAttr|apply eMeth|apply mcFn|exact eInt|exact eStr|exact esNil|apply esCons|apply eGlob|apply eCall|apply cvFn|apply xExpr|apply xRet|apply xSetL|apply xIte|apply xSetA|apply xSetI|apply xUnp|apply xAugA|exact xBrk|exact xCont|apply xWhl|apply lwStep|apply gtT|exact gtF|apply gwN|exact gwR|apply ifT|apply ifF|apply tAnd|apply tOr|apply tNot|exact alNil|apply alCons|exact ayNil|apply ayCons|apply tPlain|apply eCmp|apply eBin|apply eIdx|apply eSlc|apply eBi|exact eNone|exact eBool|apply eInT|apply eIsN|apply eEqNil|apply eNot|apply eIte|apply eList|apply eTup|apply eCel|exact eNeg|exact eDict0|apply eAnd|apply eOr|apply anOne|apply anTwo|apply orOne|apply orTwo|exact bAdd|exact bSub|apply cEqS|apply cNeS|apply cEqI|apply cNeI|apply cLt|apply cLe|apply cGt|apply cGe|apply cLtS|apply cLeS|apply cInS)|((with_reducible apply lkHit); exact Eq.refl true)|((with_reducible apply lkHere); exact Eq.refl true)|((with_reducible apply lkMiss); exact Eq.refl false)|((with_reducible apply lkNext); exact Eq.refl false)|with_reducible apply xForS|((with_reducible apply lfE); (with_reducible assumption))|((with_reducible apply lfN); (with_reducible assumption))|((with_reducible apply setAt_last) <;> exact Eq.refl true)|exact Eq.refl true|exact Eq.refl false|exact xNil|with_reducible exact nxR|(apply xCons)|(apply xSetL)|(apply xExpr)|(apply xIte)|(apply xRet)|(apply xSetA)|exact rfl)))
  · obtain ⟨⟨p', t', S⟩, E, hty⟩ := g1 (by omega)
    have d1 : decide ((120 : Int) < ((cnt its true 0).length : Int)) = false := decide_eq_false (by omega)
    have q1 : (true != true) = false := rfl
    have pe : (((0 + (cnt its true 0).length : Nat) : Int) == ((cnt its true 0).length : Int)) = true := by simp
    have ls : ∀ H, builtin .len [.str (txt its)] H = some (.int (txt its).length) := fun H => len_s (by omega)
    have S1 := S.app [MObj.tup [.str [59], .int ((0 + (txt its).length + 1 : Nat) : Int)]]
    have te : cmpop .ne (.ref H'.length) (.ref (H' ++ [MObj.tup [.str [59], .int ((0 + (txt its).length + 1 : Nat) : Int)]]).length) (H' ++ [MObj.tup [.str [59], .int ((0 + (txt its).length + 1 : Nat) : Int)]] ++ [MObj.tup [.str [59], .int (((txt its).length : Int) + 1)]]) = some false := te_ _ _ _ _ (by omega)
    have KF : Keep H' (H' ++ [MObj.tup [.str [59], .int ((0 + (txt its).length + 1 : Nat) : Int)]] ++ [MObj.tup [.str [59], .int (((txt its).length : Int) + 1)]]) := (Keep.app _ _).trans (Keep.app _ _)
    have cF := cst.keep KF
    have n33 := ty_number cF.c33
    have n38 := ty_number cF.c38
    have tyF : getA tb (.ref j) 215776629 (H' ++ [MObj.tup [.str [59], .int ((0 + (txt its).length + 1 : Nat) : Int)]] ++ [MObj.tup [.str [59], .int (((txt its).length : Int) + 1)]]) = some (.ref (if fnl its true then 38 else 33)) := getA_app (getA_app hty _) _
    refine ⟨(put 215578735 (.ref j) (put 13043 (.ref 59) (put 4016836508134 (.ref 56) ρ))), H' ++ [MObj.tup [.str [59], .int ((0 + (txt its).length + 1 : Nat) : Int)]] ++ [MObj.tup [.str [59], .int (((txt its).length : Int) + 1)]], ?_⟩
    refine e _ _ ?_
    have ip := L3.ip
    have m8 : ((8 : Int) == 8) = true := rfl
    have m9 : ((9 : Int) == 9) = true := rfl
    generalize fnl its true = fb at *
    cases fb with
    | true =>
      have tyF' := tyF
      rw [if_pos rfl] at tyF'
      (have zz0 := L3.co; have zz1 := ln; have zz2 := d1; have zz3 := r4; have zz4 := rw1; have zz5 := E.r; have zz6 := q1; have zz7 := r5; have zz8 := r6; have zz9 := S.parts; have zz10 := pe; have zz11 := S.token; have zz12 := S.kind; have zz13 := S.place; have zz14 := L3.sa; have zz15 := ls (H' ++ [MObj.tup [.str [59], .int ((0 + (txt its).length + 1 : Nat) : Int)]]); have zz16 := te; have zz17 := tyF'; have zz18 := n38; have zz19 := ip; have zz20 := L3.po; have zz21 := L3.re; have zz22 := m9; (repeat' (first|with_reducible (first|assumption|exact xNil|apply xCons|apply nxN|exact nxR|exact nxB|exact nxC|apply eLoc|apply eAttr|apply eMeth|apply mcFn|exact eInt|exact eStr|exact esNil|apply esCons|apply eGlob|apply eCall|apply cvFn|apply xExpr|apply xRet|apply xSetL|apply xIte|apply xSetA|apply xSetI|apply xUnp|apply xAugA|exact xBrk|exact xCont|apply xWhl|apply lwStep|apply gtT|exact gtF|apply gwN|exact gwR|apply ifT|apply ifF|apply tAnd|apply tOr|apply tNot|exact alNil|apply alCons|exact ayNil|apply ayCons|apply tPlain|apply eCmp|apply eBin|apply eIdx|apply eSlc|apply eBi|exact eNone|exact eBool|apply eInT|apply eIsN|apply eEqNil|apply eNot|apply eIte|apply eList|apply eTup|apply eCel|exact eNeg|exact eDict0|apply eAnd|apply eOr|apply anOne|apply anTwo|apply orOne|apply orTwo|exact bAdd|exact bSub|apply cEqS|apply cNeS|apply cEqI|apply cNeI|apply cLt|apply cLe|apply cGt|apply cGe|apply cLtS|apply cLeS|apply cInS)|((with_reducible apply lkHit); exact Eq.refl true)|((with_reducible apply lkHere); exact Eq.refl true)|((with_reducible apply lkMiss); exact Eq.refl false)|((with_reducible apply lkNext); exact Eq.refl false)|with_reducible apply xForS|((with_reducible apply lfE); (with_reducible assumption))|((with_reducible apply lfN); (with_reducible assumption))|((with_reducible apply setAt_last) <;> exact Eq.refl true)|exact Eq.refl true|exact Eq.refl false|exact xNil|with_reducible exact nxR|(apply xCons)|(apply xSetL)|(apply xExpr)|(apply xIte)|(apply xRet)|(apply xSetA)|exact rfl)))
    | false =>
      have tyF' := tyF
      rw [if_neg (by decide)] at tyF'
      (have zz0 := L3.co; have zz1 := ln; have zz2 := d1; have zz3 := r4; have zz4 := rw1; have zz5 := E.r; have zz6 := q1; have zz7 := r5; have zz8 := r6; have zz9 := S.parts; have zz10 := pe; have zz11 := S.token; have zz12 := S.kind; have zz13 := S.place; have zz14 := L3.sa; have zz15 := ls (H' ++ [MObj.tup [.str [59], .int ((0 + (txt its).length + 1 : Nat) : Int)]]); have zz16 := te; have zz17 := tyF'; have zz18 := n33; have zz19 := ip; have zz20 := L3.po; have zz21 := L3.re; have zz22 := m8; (repeat' (first|with_reducible (first|assumption|exact xNil|apply xCons|apply nxN|exact nxR|exact nxB|exact nxC|apply eLoc|apply eAttr|apply eMeth|apply mcFn|exact eInt|exact eStr|exact esNil|apply esCons|apply eGlob|apply eCall|apply cvFn|apply xExpr|apply xRet|apply xSetL|apply xIte|apply xSetA|apply xSetI|apply xUnp|apply xAugA|exact xBrk|exact xCont|apply xWhl|apply lwStep|apply gtT|exact gtF|apply gwN|exact gwR|apply ifT|apply ifF|apply tAnd|apply tOr|apply tNot|exact alNil|apply alCons|exact ayNil|apply ayCons|apply tPlain|apply eCmp|apply eBin|apply eIdx|apply eSlc|apply eBi|exact eNone|exact eBool|apply eInT|apply eIsN|apply eEqNil|apply eNot|apply eIte|apply eList|apply eTup|apply eCel|exact eNeg|exact eDict0|apply eAnd|apply eOr|apply anOne|apply anTwo|apply orOne|apply orTwo|exact bAdd|exact bSub|apply cEqS|apply cNeS|apply cEqI|apply cNeI|apply cLt|apply cLe|apply cGt|apply cGe|apply cLtS|apply cLeS|apply cInS)|((with_reducible apply lkHit); exact Eq.refl true)|((with_reducible apply lkHere); exact Eq.refl true)|((with_reducible apply lkMiss); exact Eq.refl false)|((with_reducible apply lkNext); exact Eq.refl false)|with_reducible apply xForS|((with_reducible apply lfE); (with_reducible assumption))|((with_reducible apply lfN); (with_reducible assumption))|((with_reducible apply setAt_last) <;> exact Eq.refl true)|exact Eq.refl true|exact Eq.refl false|exact xNil|with_reducible exact nxR|(apply xCons)|(apply xSetL)|(apply xExpr)|(apply xIte)|(apply xRet)|(apply xSetA)|exact rfl)))
end


end
section
set_option maxRecDepth 10000

noncomputable def pre2 : MSs := .cons l1 (.cons l2 (.cons l3 (.cons l4 (.cons l5 (.cons l6 (.cons l7 (.cons l8 (.cons l9 (.cons l10 (.cons l11 (.cons l12 (.cons l13 .nil))))))))))))
noncomputable def post : MSs := .cons l15 (.cons l16 (.cons l17 (.cons l18 (.cons l19 (.cons l20 (.cons l21 (.cons l22 (.cons l23 (.cons l24 (.cons l25 (.cons l26 .nil)))))))))))
theorem law_plain (row : List Int) (hr : row.length ≤ 40) : ∃ ρ1 H1 ρ2 H2 ρ3 H3,
    exSs tb CC 2003 pre2 rh0 [.cell (.ref 2), .list (row.map .int), .list [.ref 1, .int 0]] = some (.next, ρ1, H1) ∧
    exS tb CC 2003 l14 ρ1 H1 = some (.next, ρ2, H2) ∧
    exSs tb CC 2003 post ρ2 H2 = some (.ret (.bool true), ρ3, H3) := by
  obtain ⟨b, e1⟩ := near_ row hr
  obtain ⟨w, hw, e2⟩ := wanted_ row hr b
  obtain ⟨ks, k0, k4, kx, a, e3⟩ := pattern_ row hr b w
  obtain ⟨ρ, its, e4, hok, L, hl⟩ := build_ (row := row.map .int) (a := a) (w := w) (b := b) k0 k4 kx (.cons l19 (.cons l20 (.cons l21 (.cons l22 (.cons l23 (.cons l24 (.cons l25 (.cons l26 .nil))))))))
  obtain ⟨ρ', H', e5⟩ := law_end (row := row.map .int) (a := a) (ks := ks) L hok hl
  refine ⟨_, _, _, _, ρ', H', ?_, e3, ?_⟩
  · have : pre2 = appS pre1 (.cons l12 (.cons l13 .nil)) := rfl
    rw [this, exSs_app _ _ (pre1_ (row.map .int)), exSs, e1]
    simp only [Option.bind_some]
    rw [exSs, e2]
    rfl
  · exact e4.trans e5


end
end Mine
end
section
open PySem PySem.W PyProof.Rows PySem.Calls
set_option maxRecDepth 10000
namespace Mine

theorem bindE {α β : Type} {x : Option α} {f : α → Option β} {r : β} {G : Prop} (h : x.bind f = some r) (k : ∀ a, x = some a → f a = some r → G) : G := by
  cases x with
  | none => cases h
  | some a => exact k a rfl h
theorem mapE {α β : Type} {x : Option α} {f : α → β} {r : β} {G : Prop} (h : x.map f = some r) (k : ∀ a, x = some a → f a = r → G) : G := by
  cases x with
  | none => cases h
  | some a => exact k a rfl (Option.some.inj h)
theorem bindE2 {α α' β : Type} {x : Option (α × α')} {f : α × α' → Option β} {r : β} {G : Prop} (h : x.bind f = some r) (k : ∀ a b, x = some (a, b) → f (a, b) = some r → G) : G :=
  bindE h fun p q g => k p.1 p.2 q g
theorem mapE2 {α α' β : Type} {x : Option (α × α')} {f : α × α' → β} {r : β} {G : Prop} (h : x.map f = some r) (k : ∀ a b, x = some (a, b) → f (a, b) = r → G) : G :=
  mapE h fun p q g => k p.1 p.2 q g
theorem one_ok {α : Type} {l : List α} {a : α} (h : one l = some a) : l = [a] := by
  cases l with
  | nil => cases h
  | cons x r => cases r with
    | nil => cases h; rfl
    | cons y r => cases h
theorem intV_ok {v : MVal} {a : Int} (h : intV v = some a) : v = .int a := by
  cases v with
  | int b => cases h; rfl
  | _ => cases h
theorem strV_ok {v : MVal} {a : List Nat} (h : strV v = some a) : v = .str a := by
  cases v with
  | str b => cases h; rfl
  | _ => cases h
theorem refV_ok {v : MVal} {a : Nat} (h : refV v = some a) : v = .ref a := by
  cases v with
  | ref b => cases h; rfl
  | _ => cases h
theorem tupO_ok {v : MObj} {a : List MVal} (h : tupO v = some a) : v = .tup a := by
  cases v with
  | tup b => cases h; rfl
  | _ => cases h
theorem two_ok {α : Type} {l : List α} {a : α × α} (h : two l = some a) : l = [a.1, a.2] := by
  cases l with
  | nil => cases h
  | cons x r => cases r with
    | nil => cases h
    | cons y r => cases r with
      | nil => cases h; rfl
      | cons z r => cases h

structure Cell where
  a : Addr
  o : Obj
  sub : Option (Addr × Obj)

noncomputable def Cell.led (c : Cell) : List (Addr × Obj) := (c.a, c.o) :: c.sub.toList
noncomputable def led (cs : List Cell) : List (Addr × Obj) := cs.flatMap Cell.led
noncomputable abbrev ads (cs : List Cell) : List Addr := cs.map (·.a)

inductive VRel (ad : List Addr) : MVal → Value → Prop
  | none : VRel ad .none .none
  | bool (b : Bool) : VRel ad (.bool b) (.bool b)
  | int (i : Int) (t : Tok) : VRel ad (.int i) (.int i t)
  | str (l : List Nat) (t : Tok) : VRel ad (.str l) (.str ⟨l.toArray⟩ t)
  | ref {i : Nat} {a : Addr} : ad[i]? = some a → VRel ad (.ref i) (.ref a)
  | fn (a : Addr) : VRel ad (.fn a) (.ref a)
  | cls (a : Addr) : VRel ad (.cls a) (.ref a)

noncomputable def Pre (ad ad' : List Addr) : Prop := ∀ (i : Nat) (a : Addr), ad[i]? = some a → ad'[i]? = some a
theorem Pre.refl (ad : List Addr) : Pre ad ad := fun _ _ h => h
theorem Pre.trans {a b c : List Addr} (x : Pre a b) (y : Pre b c) : Pre a c := fun i a h => y i a (x i a h)
theorem Pre.app (a b : List Addr) : Pre a (a ++ b) := fun i x h => by
  have hi : i < a.length := by
    rcases Nat.lt_or_ge i a.length with q | q
    · exact q
    · rw [List.getElem?_eq_none q] at h; cases h
  rw [List.getElem?_append_left hi]; exact h
theorem VRel.mono {ad ad' : List Addr} {v : MVal} {r : Value} (p : Pre ad ad') (h : VRel ad v r) : VRel ad' v r := by
  cases h with
  | none => exact .none
  | bool b => exact .bool b
  | int i t => exact .int i t
  | str l t => exact .str l t
  | ref h => exact .ref (p _ _ h)
  | fn a => exact .fn a
  | cls a => exact .cls a
theorem VRel.handed {ad : List Addr} {v : MVal} {r : Value} (h : VRel ad v r) : handedIn r = true := by cases h <;> rfl

inductive VsRel (ad : List Addr) : List MVal → List Value → Prop
  | nil : VsRel ad [] []
  | cons {v r vs rs} : VRel ad v r → VsRel ad vs rs → VsRel ad (v :: vs) (r :: rs)
theorem VsRel.mono {ad ad' : List Addr} {vs : List MVal} {rs : List Value} (p : Pre ad ad') (h : VsRel ad vs rs) : VsRel ad' vs rs := by
  induction h with
  | nil => exact .nil
  | cons x _ ih => exact .cons (x.mono p) ih
theorem VsRel.length {ad : List Addr} {vs : List MVal} {rs : List Value} (h : VsRel ad vs rs) : rs.length = vs.length := by
  induction h with
  | nil => rfl
  | cons _ _ ih => simp [ih]
theorem VsRel.get {ad : List Addr} {vs : List MVal} {rs : List Value} (h : VsRel ad vs rs) : ∀ {i : Nat} {v : MVal}, vs[i]? = some v → ∃ r, rs[i]? = some r ∧ VRel ad v r := by
  induction h with
  | nil => intro i v e; simp at e
  | cons x _ ih =>
    intro i v e
    cases i with
    | zero => simp at e; subst e; exact ⟨_, rfl, x⟩
    | succ i => exact ih (by simpa using e)
theorem VsRel.append {ad : List Addr} {vs vs' : List MVal} {rs rs' : List Value} (h : VsRel ad vs rs) (h' : VsRel ad vs' rs') : VsRel ad (vs ++ vs') (rs ++ rs') := by
  induction h with
  | nil => exact h'
  | cons x _ ih => exact .cons x ih
theorem VsRel.set {ad : List Addr} {vs : List MVal} {rs : List Value} (h : VsRel ad vs rs) {v : MVal} {r : Value} (hv : VRel ad v r) : ∀ i : Nat, VsRel ad (vs.set i v) (rs.set i r) := by
  induction h with
  | nil => intro i; exact .nil
  | cons x y ih =>
    intro i
    cases i with
    | zero => exact .cons hv y
    | succ i => exact .cons x (ih i)
theorem VsRel.take {ad : List Addr} {vs : List MVal} {rs : List Value} (h : VsRel ad vs rs) : ∀ n : Nat, VsRel ad (vs.take n) (rs.take n) := by
  induction h with
  | nil => intro n; simp; exact .nil
  | cons x y ih =>
    intro n
    cases n with
    | zero => exact .nil
    | succ n => exact .cons x (ih n)
theorem VsRel.drop {ad : List Addr} {vs : List MVal} {rs : List Value} (h : VsRel ad vs rs) : ∀ n : Nat, VsRel ad (vs.drop n) (rs.drop n) := by
  induction h with
  | nil => intro n; simp; exact .nil
  | cons x y ih =>
    intro n
    cases n with
    | zero => exact .cons x y
    | succ n => exact ih n

-- names as numbers
theorem codeL_inj : ∀ {a b : List Nat}, okL a = true → okL b = true → codeL a = codeL b → a = b
  | [], [], _, _, _ => rfl
  | [], c :: r, _, _, h => by simp [codeL] at h
  | c :: r, [], _, _, h => by simp [codeL] at h
  | c :: r, d :: t, ha, hb, h => by
    simp only [okL, List.all_cons, Bool.and_eq_true] at ha hb
    have h1 : c < 127 := Nat.le_of_ble_eq_true ha.1
    have h2 : d < 127 := Nat.le_of_ble_eq_true hb.1
    simp only [codeL] at h
    have e1 : c = d := by omega
    have e2 : codeL r = codeL t := by omega
    rw [e1, codeL_inj (by exact ha.2) (by exact hb.2) e2]
theorem nm_inj {a b : Str} {n : Nat} (ha : nm a = some n) (hb : nm b = some n) : a = b := by
  unfold nm at ha hb
  split at ha
  · split at hb
    · rename_i h1 h2
      have := codeL_inj (Bool.and_eq_true _ _ |>.mp h1).1 (Bool.and_eq_true _ _ |>.mp h2).1 ((Option.some.inj ha).trans (Option.some.inj hb).symm)
      cases a; cases b; simp only [Str.mk.injEq]; exact Array.toList_inj.mp this
    · cases hb
  · cases ha

/-- the dict of an object -/
inductive FRel (ad : List Addr) : List DictEntry → List (Nat × MVal) → Prop
  | nil : FRel ad [] []
  | cons {h : Int} {x : Str} {t : Tok} {r : Value} {n : Nat} {v : MVal} {es fs} : nm x = some n → VRel ad v r → FRel ad es fs → FRel ad (⟨h, .str x t, r⟩ :: es) ((n, v) :: fs)
theorem FRel.mono {ad ad' : List Addr} {es fs} (p : Pre ad ad') (h : FRel ad es fs) : FRel ad' es fs := by
  induction h with
  | nil => exact .nil
  | cons a b _ ih => exact .cons a (b.mono p) ih

theorem FRel.fnd {ad : List Addr} {es fs} (h : FRel ad es fs) {x : Str} {n : Nat} (hx : nm x = some n) {v : MVal} (hv : lk n fs = some v) : ∃ r, getL x es = some (some r) ∧ VRel ad v r := by
  induction h with
  | nil => simp [lk] at hv
  | @cons h y t r m u es fs hy hr _ ih =>
    unfold getL
    rw [List.find?_cons]
    by_cases q : n = m
    · subst q
      have : y = x := nm_inj hy hx
      subst this
      simp only [lk, Nat.beq_refl, if_true, Option.some.injEq] at hv
      subst hv
      simp only [Value.isStr, beq_self_eq_true]
      exact ⟨r, rfl, hr⟩
    · have hne : (y == x) = false := by
        cases hq : y == x with
        | false => rfl
        | true => exact absurd (Option.some.inj (hx.symm.trans (beq_iff_eq.mp hq ▸ hy))) q
      have hb : Nat.beq n m = false := by
        cases hq : Nat.beq n m with
        | false => rfl
        | true => exact absurd (Nat.eq_of_beq_eq_true hq) q
      simp only [lk, hb, Bool.false_eq_true, if_false] at hv
      obtain ⟨r', h1, h2⟩ := ih hv
      refine ⟨r', ?_, h2⟩
      unfold getL at h1
      have e0 : Value.isStr (Value.str y t) x = false := hne
      simp only [e0, List.any_cons]
      revert h1
      cases List.find? (fun e => e.key.isStr x) es with
      | some e => intro h1; exact h1
      | none => intro h1; dsimp only at h1; split at h1 <;> cases h1
theorem FRel.miss {ad : List Addr} {es fs} (h : FRel ad es fs) {x : Str} {n : Nat} (hx : nm x = some n) (hv : lk n fs = none) : getL x es = some none := by
  have key : ∀ e ∈ es, e.key.isStr x = false ∧ e.refKey = false := by
    induction h with
    | nil => intro e he; cases he
    | @cons h y t r m u es fs hy hr _ ih =>
      have q : n ≠ m := by
        intro q; subst q; simp [lk] at hv
      have hb : Nat.beq n m = false := by
        cases hq : Nat.beq n m with
        | false => rfl
        | true => exact absurd (Nat.eq_of_beq_eq_true hq) q
      simp only [lk, hb, Bool.false_eq_true, if_false] at hv
      intro e he
      rcases List.mem_cons.mp he with rfl | he
      · refine ⟨?_, rfl⟩
        simp only [Value.isStr]
        cases hq : y == x with
        | false => rfl
        | true => exact absurd (Option.some.inj (hx.symm.trans (beq_iff_eq.mp hq ▸ hy))) q
      · exact ih hv e he
  unfold getL
  have h1 : es.find? (·.key.isStr x) = none := List.find?_eq_none.mpr fun e he => by simp [(key e he).1]
  have h2 : es.any (·.refKey) = false := List.any_eq_false.mpr fun e he => by simp [(key e he).2]
  rw [h1]; simp [h2]
theorem FRel.getL_isSome {ad : List Addr} {es fs} (h : FRel ad es fs) {x : Str} {n : Nat} (hx : nm x = some n) : (getL x es).isSome = true := by
  cases q : lk n fs with
  | none => rw [h.miss hx q]; rfl
  | some v => obtain ⟨r, e, _⟩ := h.fnd hx q; rw [e]; rfl
theorem FRel.put {ad : List Addr} {es fs} (h : FRel ad es fs) {x : Str} {n : Nat} (hx : nm x = some n) {v : MVal} {r : Value} (hv : VRel ad v r) (hh : Int) (t : Tok) :
    FRel ad (putL x hh (.str x t) r es) (Mine.put n v fs) := by
  induction h with
  | nil => exact .cons hx hv .nil
  | @cons h y t' r' m u es fs hy hr hrest ih =>
    unfold putL Mine.put
    by_cases q : n = m
    · subst q
      have : y = x := nm_inj hy hx
      subst this
      simp only [Value.isStr, beq_self_eq_true, if_true, Nat.beq_refl]
      exact .cons hy hv hrest
    · have hne : (y == x) = false := by
        cases hq : y == x with
        | false => rfl
        | true => exact absurd (Option.some.inj (hx.symm.trans (beq_iff_eq.mp hq ▸ hy))) q
      have hb : Nat.beq n m = false := by
        cases hq : Nat.beq n m with
        | false => rfl
        | true => exact absurd (Nat.eq_of_beq_eq_true hq) q
      simp only [Value.isStr, hne, hb, Bool.false_eq_true, if_false]
      exact .cons hy hr ih
theorem FRel.length {ad : List Addr} {es fs} (h : FRel ad es fs) : es.length = fs.length := by
  induction h with
  | nil => rfl
  | cons _ _ _ ih => simp [ih]
theorem put_length (n : Nat) (v : MVal) : ∀ fs : List (Nat × MVal), (put n v fs).length ≤ fs.length + 1
  | [] => by simp [put]
  | (m, u) :: fs => by
    unfold put
    split
    · simp
    · have := put_length n v fs; simp only [List.length_cons]; omega

noncomputable abbrev PW := Program × World
/-- a made dict -/
inductive KRel (P : PW) (ad : List Addr) : MVal → Int → Value → Prop
  | str (l : List Nat) (t : Tok) : KRel P ad (.str l) ((strKind P.1 P.2).hash ⟨l.toArray⟩) (.str ⟨l.toArray⟩ t)
  | int (i : Int) (t : Tok) : KRel P ad (.int i) ((intKind P.1 P.2).hash i) (.int i t)
  | tkey {i : Nat} {a : Addr} (x y : List Nat) : ad[i]? = some a → KRel P ad (.tkey i x y) ((tupleKind (strKind P.1 P.2)).hash [⟨x.toArray⟩, ⟨y.toArray⟩]) (.ref a)
theorem KRel.mono {P : PW} {ad ad' : List Addr} {k h v} (p : Pre ad ad') (x : KRel P ad k h v) : KRel P ad' k h v := by
  cases x with
  | str l t => exact .str l t
  | int i t => exact .int i t
  | tkey x y e => exact .tkey x y (p _ _ e)
inductive DRel (P : PW) (ad : List Addr) : List DictEntry → List (MVal × MVal) → Prop
  | nil : DRel P ad [] []
  | cons {h : Int} {k r : Value} {x v : MVal} {es ms} : KRel P ad x h k → VRel ad v r → DRel P ad es ms → DRel P ad (⟨h, k, r⟩ :: es) ((x, v) :: ms)
theorem DRel.mono {P : PW} {ad ad' : List Addr} {es ms} (p : Pre ad ad') (h : DRel P ad es ms) : DRel P ad' es ms := by
  induction h with
  | nil => exact .nil
  | cons a b _ ih => exact .cons (a.mono p) (b.mono p) ih

inductive CRel (P : PW) (ad : List Addr) : Cell → MObj → Prop
  | inst {a dx C : Addr} {es : List DictEntry} {n : Nat} {fs} : FRel ad es fs → CRel P ad ⟨a, instObj C dx, some (dx, dictOf es n)⟩ (.inst C fs)
  | list {a : Addr} {rs : List Value} {n : Nat} {xs} : VsRel ad xs rs → CRel P ad ⟨a, { cls := .type "list", data := .seq rs.toArray n }, none⟩ (.list xs)
  | tup {a : Addr} {o : Obj} {rs : List Value} {n : Nat} {xs} : o.cls = .type "tuple" → o.data = .seq rs.toArray n → VsRel ad xs rs → CRel P ad ⟨a, o, none⟩ (.tup xs)
  | dict {a : Addr} {o : Obj} {es : List DictEntry} {n : Nat} {ms} : o.ExactDict → o.data = .dict es.toArray n → DRel P ad es ms → (ms.map (·.1)).Nodup → (a == sysModules) = false → CRel P ad ⟨a, o, none⟩ (.dict ms)
  | cell {a : Addr} {o : Obj} {r : Value} {v : MVal} : o.data = .cell (some r) → VRel ad v r → CRel P ad ⟨a, o, none⟩ (.cell v)
  | cell0 {a : Addr} {o : Obj} : o.data = .cell none → CRel P ad ⟨a, o, none⟩ .cell0
theorem CRel.mono {P : PW} {ad ad' : List Addr} {c m} (p : Pre ad ad') (h : CRel P ad c m) : CRel P ad' c m := by
  cases h with
  | inst h => exact .inst (h.mono p)
  | list h => exact .list (h.mono p)
  | tup a b h => exact .tup a b (h.mono p)
  | dict a b h c d => exact .dict a b (h.mono p) c d
  | cell e h => exact .cell e (h.mono p)
  | cell0 e => exact .cell0 e

inductive CsRel (P : PW) (ad : List Addr) : List Cell → MHeap → Prop
  | nil : CsRel P ad [] []
  | cons {c m cs H} : CRel P ad c m → CsRel P ad cs H → CsRel P ad (c :: cs) (m :: H)
theorem CsRel.mono {P : PW} {ad ad' : List Addr} {cs H} (p : Pre ad ad') (h : CsRel P ad cs H) : CsRel P ad' cs H := by
  induction h with
  | nil => exact .nil
  | cons a _ ih => exact .cons (a.mono p) ih
theorem CsRel.length {P : PW} {ad : List Addr} {cs H} (h : CsRel P ad cs H) : cs.length = H.length := by
  induction h with
  | nil => rfl
  | cons _ _ ih => simp [ih]
theorem CsRel.get {P : PW} {ad : List Addr} {cs H} (h : CsRel P ad cs H) : ∀ {i : Nat} {m : MObj}, H[i]? = some m → ∃ c, cs[i]? = some c ∧ CRel P ad c m := by
  induction h with
  | nil => intro i m e; simp at e
  | cons x _ ih =>
    intro i m e
    cases i with
    | zero => simp at e; subst e; exact ⟨_, rfl, x⟩
    | succ i => exact ih (by simpa using e)
theorem CsRel.set {P : PW} {ad : List Addr} {cs H} (h : CsRel P ad cs H) {c m} (x : CRel P ad c m) : ∀ i : Nat, CsRel P ad (cs.set i c) (H.set i m) := by
  induction h with
  | nil => intro i; exact .nil
  | cons y z ih =>
    intro i
    cases i with
    | zero => exact .cons x z
    | succ i => exact .cons y (ih i)
theorem CsRel.snoc {P : PW} {ad : List Addr} {cs H} (h : CsRel P ad cs H) {c m} (x : CRel P ad c m) : CsRel P ad (cs ++ [c]) (H ++ [m]) := by
  induction h with
  | nil => exact .cons x .nil
  | cons y _ ih => exact .cons y ih

theorem led_app (a b : List Cell) : led (a ++ b) = led a ++ led b := List.flatMap_append
theorem led_cons (c : Cell) (b : List Cell) : led (c :: b) = c.led ++ led b := rfl
theorem mem_led {cs : List Cell} {i : Nat} {c : Cell} (h : cs[i]? = some c) : (c.a, c.o) ∈ led cs := List.mem_flatMap.mpr ⟨c, List.mem_of_getElem? h, .head _⟩
theorem mem_led_sub {cs : List Cell} {i : Nat} {c : Cell} {p : Addr × Obj} (h : cs[i]? = some c) (hs : c.sub = some p) : p ∈ led cs :=
  List.mem_flatMap.mpr ⟨c, List.mem_of_getElem? h, by unfold Cell.led; rw [hs]; exact .tail _ (.head _)⟩
theorem split_at {α : Type} {cs : List α} {i : Nat} {c : α} (h : cs[i]? = some c) : ∃ pre post, cs = pre ++ c :: post ∧ pre.length = i ∧ ∀ d, cs.set i d = pre ++ d :: post := by
  obtain ⟨hl, e⟩ := List.getElem?_eq_some_iff.mp h
  have e1 : cs = cs.take i ++ c :: cs.drop (i + 1) := by rw [← e, ← List.drop_eq_getElem_cons hl, List.take_append_drop]
  refine ⟨cs.take i, cs.drop (i + 1), e1, by rw [List.length_take]; omega, fun d => ?_⟩
  exact List.set_eq_take_append_cons_drop.trans (if_pos hl)
end Mine

end
section
open PySem PySem.W PyProof.Rows PySem.Calls
set_option maxRecDepth 10000
namespace Mine

/-- where a block of the text runs: the frame's Around, the env, what stood at the call -/
structure Cx where
  A : Around
  env : Env
  fenv : Env
  h₀ : Heap
  base : Heap
  A₀ : Around
  outer : List Env
  L : Addr
  fsc : Scope

noncomputable def isCell (k : Option NameKind) : Prop := k = some .cell ∨ k = some .free

noncomputable def LocOk (sc : Scope) (env : Env) (ρ : Loc) (ad : List Addr) (m : Str → Option Value) : Prop :=
  ∀ (x : Str) (n : Nat) (v : MVal), nm x = some n → lk n ρ = some v →
    (sc.names.lookup x = some .local → ∃ r, m x = some r ∧ VRel ad v r) ∧
    (isCell (sc.names.lookup x) → ∃ (i : Nat) (a : Addr), v = .ref i ∧ ad[i]? = some a ∧ env.cells.lookup x = some a)
theorem LocOk.mono {sc : Scope} {env : Env} {ρ : Loc} {ad ad' : List Addr} {m : Str → Option Value} (p : Pre ad ad') (h : LocOk sc env ρ ad m) : LocOk sc env ρ ad' m := by
  intro x n v hx hv
  obtain ⟨h1, h2⟩ := h x n v hx hv
  refine ⟨fun q => ?_, fun q => ?_⟩
  · obtain ⟨r, a, b⟩ := h1 q; exact ⟨r, a, b.mono p⟩
  · obtain ⟨i, a, e1, e2, e3⟩ := h2 q; exact ⟨i, a, e1, p _ _ e2, e3⟩

structure At (P : PW) (sc : Scope) (cx : Cx) (ρ : Loc) (H : MHeap) (cs : List Cell) (fz : List (Addr × Obj)) (h : Heap) : Prop where
  fr : ∃ m, Fr cx.h₀ cx.L h m ∧ LocOk cx.fsc cx.fenv ρ (ads cs) m
  nw : News cx.h₀ cx.L h (led cs ++ fz)
  nd : ((led cs ++ fz).map (·.1)).Nodup
  rel : CsRel P (ads cs) cs H

theorem keys_app (a b : List (Addr × Obj)) : (a ++ b).map (·.1) = a.map (·.1) ++ b.map (·.1) := List.map_append

section
variable {P : PW} {sc : Scope} {cx : Cx} {ρ : Loc} {H : MHeap} {cs : List Cell} {fz : List (Addr × Obj)} {h h' : Heap}

/-- a new object, made last -/
theorem At.snoc (T : At P sc cx ρ H cs fz h) {c : Cell} {m : MObj} (hf : ∃ m, Fr cx.h₀ cx.L h' m ∧ LocOk cx.fsc cx.fenv ρ (ads cs) m) (hn : News cx.h₀ cx.L h' (c.led ++ (led cs ++ fz)))
    (nd : (c.led.map (·.1)).Nodup) (new : ∀ p ∈ c.led, h.get? p.1 = none) (x : CRel P (ads (cs ++ [c])) c m) :
    At P sc cx ρ (H ++ [m]) (cs ++ [c]) fz h' ∧ Pre (ads cs) (ads (cs ++ [c])) := by
  have pre : Pre (ads cs) (ads (cs ++ [c])) := by unfold ads; rw [List.map_append]; exact Pre.app _ _
  have e : led (cs ++ [c]) ++ fz = led cs ++ (c.led ++ fz) := by rw [led_app, List.append_assoc]; congr 1; show led [c] ++ fz = _; unfold led; simp
  refine ⟨⟨?_, ?_, ?_, (T.rel.mono pre).snoc x⟩, pre⟩
  · obtain ⟨m, F, l⟩ := hf
    exact ⟨m, F, l.mono pre⟩
  · intro p hp
    rw [e] at hp
    refine hn p ?_
    rcases List.mem_append.mp hp with q | q
    · exact List.mem_append_right _ (List.mem_append_left _ q)
    · rcases List.mem_append.mp q with q | q
      · exact List.mem_append_left _ q
      · exact List.mem_append_right _ (List.mem_append_right _ q)
  · have perm : (led (cs ++ [c]) ++ fz).Perm (c.led ++ (led cs ++ fz)) := by
      rw [e, ← List.append_assoc, ← List.append_assoc]
      exact List.perm_append_comm.append_right fz
    rw [(perm.map _).nodup_iff, List.map_append]
    refine List.nodup_append.mpr ⟨nd, T.nd, ?_⟩
    intro a ha b hb q
    subst q
    obtain ⟨p, hp, rfl⟩ := List.mem_map.mp ha
    obtain ⟨q, hq, e2⟩ := List.mem_map.mp hb
    have h1 := new p hp
    have h2 := (T.nw q hq).1
    rw [e2, h1] at h2; cases h2

theorem nodup_mid {α : Type} {a c : List α} {x : α} (h : (a ++ x :: c).Nodup) : x ∉ a ∧ x ∉ c := by
  rw [List.nodup_append] at h
  obtain ⟨_, h2, h3⟩ := h
  exact ⟨fun q => h3 x q x (.head _) rfl, (List.nodup_cons.mp h2).1⟩

/-- an object of the ledger is turned -/
theorem At.change (T : At P sc cx ρ H cs fz h) {i : Nat} {c c' : Cell} {m : MObj} {a : Addr} {o o' : Obj} (hc : cs[i]? = some c) (ha : c'.a = c.a)
    (hs : Heap.SameBut a h h') (hg : h'.get? a = some o')
    (cut : ∃ pre post, c.led = pre ++ (a, o) :: post ∧ c'.led = pre ++ (a, o') :: post) (x : CRel P (ads cs) c' m) :
    At P sc cx ρ (H.set i m) (cs.set i c') fz h' ∧ ads (cs.set i c') = ads cs := by
  obtain ⟨pre, post, e1, e2, e3⟩ := split_at hc
  obtain ⟨p1, p2, q1, q2⟩ := cut
  have ea : ads (cs.set i c') = ads cs := by
    unfold ads
    rw [e3, e1, List.map_append, List.map_append, List.map_cons, List.map_cons, ha]
  have l1 : led cs ++ fz = (led pre ++ p1) ++ (a, o) :: (p2 ++ (led post ++ fz)) := by rw [e1, led_app, led_cons, q1]; simp
  have l2 : led (cs.set i c') ++ fz = (led pre ++ p1) ++ (a, o') :: (p2 ++ (led post ++ fz)) := by rw [e3, led_app, led_cons, q2]; simp
  have nd := T.nd
  rw [l1, List.map_append, List.map_cons] at nd
  obtain ⟨n1, n2⟩ := nodup_mid nd
  have hm : (a, o) ∈ led cs ++ fz := by rw [l1]; exact List.mem_append_right _ (.head _)
  have D := T.nw _ hm
  refine ⟨⟨?_, ?_, ?_, ?_⟩, ea⟩
  · obtain ⟨mm, F, l⟩ := T.fr
    refine ⟨mm, F.change hs D.2.1 D.2.2, ?_⟩
    rw [ea]; exact l
  · intro p hp
    rw [l2] at hp
    rcases List.mem_append.mp hp with q | q
    · have hne : p.1 ≠ a := fun z => n1 (List.mem_map.mpr ⟨p, q, z⟩)
      have y := T.nw p (by rw [l1]; exact List.mem_append_left _ q)
      exact ⟨(hs.2 _ hne).trans y.1, y.2⟩
    · rcases List.mem_cons.mp q with rfl | q
      · exact ⟨hg, D.2⟩
      · have hne : p.1 ≠ a := fun z => n2 (List.mem_map.mpr ⟨p, q, z⟩)
        have y := T.nw p (by rw [l1]; exact List.mem_append_right _ (.tail _ q))
        exact ⟨(hs.2 _ hne).trans y.1, y.2⟩
  · rw [l2, List.map_append, List.map_cons]; exact nd
  · rw [ea]; exact T.rel.set x i

/-- the frozen ones may be let go, or met again -/
theorem At.thaw {fz' : List (Addr × Obj)} (T : At P sc cx ρ H cs (fz' ++ fz) h) : At P sc cx ρ H cs fz h :=
  ⟨T.fr, fun p hp => T.nw p (by
      rcases List.mem_append.mp hp with q | q
      · exact List.mem_append_left _ q
      · exact List.mem_append_right _ (List.mem_append_right _ q)), by
    have := T.nd
    refine (List.Sublist.map _ ?_).nodup this
    exact List.Sublist.append_left (List.sublist_append_right _ _) _, T.rel⟩
/-- something new beside -/
theorem At.freeze (T : At P sc cx ρ H cs fz h) {p : Addr × Obj} (hf : ∃ m, Fr cx.h₀ cx.L h' m ∧ LocOk cx.fsc cx.fenv ρ (ads cs) m) (hn : News cx.h₀ cx.L h' (p :: (led cs ++ fz)))
    (new : h.get? p.1 = none) : At P sc cx ρ H cs (p :: fz) h' := by
  have perm : (led cs ++ p :: fz).Perm (p :: (led cs ++ fz)) := List.perm_middle
  refine ⟨hf, fun q hq => hn q (perm.mem_iff.mp hq), ?_, T.rel⟩
  · rw [(perm.map _).nodup_iff, List.map_cons, List.nodup_cons]
    refine ⟨fun q => ?_, T.nd⟩
    obtain ⟨q, hq, e⟩ := List.mem_map.mp q
    have := (T.nw q hq).1
    rw [e, new] at this; cases this
/-- another heap where all stands that stood -/
theorem At.keeps (T : At P sc cx ρ H cs fz h) (hf : ∃ m, Fr cx.h₀ cx.L h' m ∧ LocOk cx.fsc cx.fenv ρ (ads cs) m) (hn : News cx.h₀ cx.L h' (led cs ++ fz)) : At P sc cx ρ H cs fz h' := by
  exact ⟨hf, hn, T.nd, T.rel⟩

theorem At.get (T : At P sc cx ρ H cs fz h) {i : Nat} {m : MObj} (e : H[i]? = some m) : ∃ c, cs[i]? = some c ∧ CRel P (ads cs) c m ∧ h.get? c.a = some c.o ∧ (ads cs)[i]? = some c.a ∧ ∀ p, c.sub = some p → h.get? p.1 = some p.2 := by
  obtain ⟨c, hc, x⟩ := T.rel.get e
  refine ⟨c, hc, x, (T.nw _ (List.mem_append_left _ (mem_led hc))).1, by unfold ads; rw [List.getElem?_map, hc]; rfl, fun p hp => (T.nw _ (List.mem_append_left _ (mem_led_sub hc hp))).1⟩
/-- a reference of the heap's -/
theorem At.at (T : At P sc cx ρ H cs fz h) {i : Nat} {m : MObj} {r : Value} (e : H[i]? = some m) (v : VRel (ads cs) (.ref i) r) :
    ∃ c, cs[i]? = some c ∧ r = .ref c.a ∧ CRel P (ads cs) c m ∧ h.get? c.a = some c.o ∧ ∀ p, c.sub = some p → h.get? p.1 = some p.2 := by
  obtain ⟨c, hc, x, g, ha, gs⟩ := T.get e
  cases v with
  | ref q =>
    rw [ha] at q
    exact ⟨c, hc, by rw [Option.some.inj q], x, g, gs⟩
end
end Mine

end
section
open PySem PySem.W PyProof.Rows PySem.Calls
set_option maxRecDepth 10000
namespace Mine

structure ClsGood (K : Frag) (c f : Addr) : Prop where
  get : plainGet K c "" = true
  dict : hasDictIn K c = true
  makes : makesIn K c = true
  init : findIn K (.ref c) "__init__" = some (some (.ref f))
  fn : isFn K (.ref f) = true
  set : findIn K (.ref c) "__setattr__" = some (some (.builtin "object.__setattr__"))
  over : plainOver K c = true
  keep : keepIn K (.ref c) = true

/-- the table is what the text's top has made -/
structure KOk (K : Frag) (T : Tab) : Prop where
  cls : ∀ c f, T.init c = some f → ClsGood K c f
  fldC : ∀ c n, T.fld c n = true → ∃ f, T.init c = some f
  fld : ∀ c n x, T.fld c n = true → nm x = some n → findIn K (.ref c) x = some none ∧ takerIn K c x = some none
  methC : ∀ c n f, T.meth c n = some f → ∃ g, T.init c = some g
  meth : ∀ c n f x, T.meth c n = some f → nm x = some n → findIn K (.ref c) x = some (some (.ref f)) ∧ isFn K (.ref f) = true ∧ keepIn K (.ref f) = true
  glob : ∀ n v x, T.glob n = some v → nm x = some n → ∃ r, nsIn K mainGlobals x = some (some r) ∧ VRel [] v r
  bi : ∀ x, x ∈ ([Str.ofString "len", Str.ofString "abs", Str.ofString "max", Str.ofString "ord", Str.ofString "range", Str.ofString "reversed"] : List Str) → nsIn K mainGlobals x = some none

/-- what is known where a block runs; d calls may nest further -/
structure Ok (K : Frag) (p : Program) (loose : List Str) (mean : ExcName → Option Value) (mg mb : Str → Option Value) (sc : Scope) (cx : Cx) (d : Nat) : Prop where
  below : Below cx.A₀ cx.base cx.outer cx.h₀
  inK : K.In cx.h₀
  top : Top p loose mean mg mb cx.h₀
  frames : cx.A.frames = some (cx.fenv :: cx.outer)
  frame : cx.fenv.frame = some cx.L
  fkind : cx.fenv.scope.kind = .function
  kind : cx.env.scope.kind = .function
  globals : cx.env.globals = mainGlobals
  builtins : cx.env.builtins = builtinsNs
  handled : cx.A.handled = none
  depth : cx.A.depth + 8 * d ≤ 800
  units : cx.A.units + 16 * d ≤ 9000
  names : ∀ x k, sc.names.lookup x = some k → cx.env.scope.names.lookup x = some k
  loc : ∀ x, sc.names.lookup x = some .local → cx.env.locals = cx.L
  locF : ∀ x, sc.names.lookup x = some .local → cx.fsc.names.lookup x = some .local
  cell : ∀ x, isCell (sc.names.lookup x) → isCell (cx.fsc.names.lookup x) ∧ cx.env.cells.lookup x = cx.fenv.cells.lookup x

noncomputable def EV (P : PW) (sc : Scope) (cx : Cx) (ρ : Loc) (H : MHeap) {α : Type} (t : Sem α) (rel : List Addr → α → Prop) (H' : MHeap) : Prop :=
  ∀ (cs : List Cell) (fz : List (Addr × Obj)) (s : Shared) (Q : α → Shared → Prop), At P sc cx ρ H cs fz s.heap →
    (∀ cs' h' tk r, Pre (ads cs) (ads cs') → At P sc cx ρ H' cs' fz h' → rel (ads cs') r → Q r { s with heap := h', toks := tk }) →
    wpAny (model P.1 P.2) cx.A t Q (fun _ _ => False) s

theorem no_debug {x : Str} {n : Nat} (h : nm x = some n) : (x == ("__debug__" : Str)) = false := by
  cases q : x == ("__debug__" : Str) with
  | false => rfl
  | true =>
    exfalso
    rw [beq_iff_eq.mp q] at h
    have : nm ("__debug__" : Str) = none := by decide +kernel
    rw [this] at h; cases h
theorem no_classdict {x : Str} {n : Nat} (h : nm x = some n) : (x == ("__classdict__" : Str)) = false := by
  cases q : x == ("__classdict__" : Str) with
  | false => rfl
  | true =>
    exfalso
    rw [beq_iff_eq.mp q] at h
    have : nm ("__classdict__" : Str) = none := by decide +kernel
    rw [this] at h; cases h

section
variable {P : PW} {K : Frag} {T : Tab} {p : Program} {loose : List Str} {mean : ExcName → Option Value} {mg mb : Str → Option Value} {sc : Scope} {cx : Cx} {d : Nat} {ρ : Loc} {H : MHeap} {cs : List Cell} {fz : List (Addr × Obj)} {s : Shared} {A : Around} {E : Value → Shared → Prop}

theorem inst_at (S : At P sc cx ρ H cs fz s.heap) {i : Nat} {r : Value} {c : Addr} {fs : List (Nat × MVal)} (e : H[i]? = some (.inst c fs)) (v : VRel (ads cs) (.ref i) r) :
    ∃ a dx es n, cs[i]? = some ⟨a, instObj c dx, some (dx, dictOf es n)⟩ ∧ r = .ref a ∧ FRel (ads cs) es fs ∧ W.InstAt s.heap a (instObj c dx) c (some (dictOf es n)) := by
  obtain ⟨cl, hc, hr, x, g, gs⟩ := S.at e v
  cases x with
  | @inst a dx C es n fs h =>
    exact ⟨a, dx, es, n, hc, hr, h, ⟨g, rfl, rfl, gs _ rfl⟩⟩

theorem getA_ok (ko : KOk K T) (inK : K.In cx.h₀) (S : At P sc cx ρ H cs fz s.heap) {v u : MVal} {r : Value} (hr : VRel (ads cs) v r) {a : Nat} {name : Str} (hn : nm name = some a) (e : getA T v a H = some u) {ex : Bool}
    {Q : Value → Shared → Prop} (h : ∀ tk r', VRel (ads cs) u r' → Q r' { s with toks := tk }) : wpAny (model P.1 P.2) A (getAttr r name ex) Q E s := by
  unfold getA at e
  split at e
  · rename_i i
    split at e
    · rename_i c fs hi
      split at e
      · rename_i hf
        obtain ⟨ad, dx, es, n, hc, rfl, F, I⟩ := inst_at S hi hr
        obtain ⟨r', h1, h2⟩ := F.fnd hn e
        obtain ⟨m, Fr, _⟩ := S.fr
        obtain ⟨f, hf'⟩ := ko.fldC c a hf
        have G := ko.cls c f hf'
        exact get_own Fr inK I G.get G.dict (ko.fld c a name hf hn).1 rfl h1 h2.handed (h _ _ h2)
      · cases e
    · cases e
  · cases e

theorem upd_app {d : Addr} {o o' : Obj} {pre post : List (Addr × Obj)} (h1 : ∀ q ∈ pre, q.1 ≠ d) (h2 : ∀ q ∈ post, q.1 ≠ d) : Upd d o o' (pre ++ (d, o) :: post) (pre ++ (d, o') :: post) := by
  induction pre with
  | nil => exact .head h2
  | cons q pre ih => exact .tail (h1 q (.head _)) (ih fun x hx => h1 x (.tail _ hx))

theorem setAt_ok (ko : KOk K T) (inK : K.In cx.h₀) (S : At P sc cx ρ H cs fz s.heap) {ov v : MVal} {ro r : Value} (ho : VRel (ads cs) ov ro) (hv : VRel (ads cs) v r) {a : Nat} {name : Str} (hn : nm name = some a) {H' : MHeap}
    (e : setAt T ov a v H = some H')
    {Q : Unit → Shared → Prop} (h : ∀ cs' h' tk, ads cs' = ads cs → At P sc cx ρ H' cs' fz h' → Q () { s with heap := h', toks := tk }) : wpAny (model P.1 P.2) A (setAttr ro name r) Q E s := by
  unfold setAt at e
  split at e
  · rename_i i
    split at e
    · rename_i c fs hi
      split at e
      · rename_i hf
        cases e
        obtain ⟨hf, hl⟩ := (Bool.and_eq_true _ _).mp hf
        have hl' : fs.length < 40 := Nat.le_of_ble_eq_true hl
        obtain ⟨ad, dx, es, n, hc, rfl, F, I⟩ := inst_at S hi ho
        obtain ⟨m, Fr, _⟩ := S.fr
        obtain ⟨f, hf'⟩ := ko.fldC c a hf
        have G := ko.cls c f hf'
        have F' := F.put hn hv (PyData.keyHash P.2.params name) (s.toks + 1)
        obtain ⟨pre, post, e1, e2, e3⟩ := split_at hc
        have l1 : led cs ++ fz = (led pre ++ [(ad, instObj c dx)]) ++ (dx, dictOf es n) :: (led post ++ fz) := by rw [e1, led_app, led_cons]; simp [Cell.led]
        have nd := S.nd
        rw [l1, List.map_append, List.map_cons] at nd
        obtain ⟨n1, n2⟩ := nodup_mid nd
        have N := S.nw
        rw [l1] at N
        refine set_dict Fr inK N I rfl G.set G.over (ko.fld c a name hf hn).2 G.dict (F.getL_isSome hn) (es' := putL name (PyData.keyHash P.2.params name) (.str name (s.toks + 1)) r es) (n' := putN name es n) rfl
          (upd_app (fun q hq z => n1 (List.mem_map.mpr ⟨q, hq, z⟩)) fun q hq z => n2 (List.mem_map.mpr ⟨q, hq, z⟩)) ?_ fun h' Fr' N' => ?_
        · have := F'.length
          rw [this]
          have := put_length a v fs
          omega
        · have x : CRel P (ads cs) ⟨ad, instObj c dx, some (dx, dictOf (putL name (PyData.keyHash P.2.params name) (.str name (s.toks + 1)) r es) (putN name es n))⟩ (.inst c (put a v fs)) := .inst F'
          have ea : ads (cs.set i ⟨ad, instObj c dx, some (dx, dictOf (putL name (PyData.keyHash P.2.params name) (.str name (s.toks + 1)) r es) (putN name es n))⟩) = ads cs := by
            unfold ads
            rw [e3, e1, List.map_append, List.map_append, List.map_cons, List.map_cons]
          refine h _ h' _ ea ⟨?_, ?_, ?_, ?_⟩
          · obtain ⟨m, Fr₀, l⟩ := S.fr
            rename_i m0 _
            exact ⟨_, Fr', by rw [ea]; assumption⟩
          · have l2 : led (cs.set i ⟨ad, instObj c dx, some (dx, dictOf (putL name (PyData.keyHash P.2.params name) (.str name (s.toks + 1)) r es) (putN name es n))⟩) ++ fz =
                (led pre ++ [(ad, instObj c dx)]) ++ (dx, dictOf (putL name (PyData.keyHash P.2.params name) (.str name (s.toks + 1)) r es) (putN name es n)) :: (led post ++ fz) := by
              rw [e3, led_app, led_cons]; simp [Cell.led]
            rw [l2]; exact N'
          · have l2 : led (cs.set i ⟨ad, instObj c dx, some (dx, dictOf (putL name (PyData.keyHash P.2.params name) (.str name (s.toks + 1)) r es) (putN name es n))⟩) ++ fz =
                (led pre ++ [(ad, instObj c dx)]) ++ (dx, dictOf (putL name (PyData.keyHash P.2.params name) (.str name (s.toks + 1)) r es) (putN name es n)) :: (led post ++ fz) := by
              rw [e3, led_app, led_cons]; simp [Cell.led]
            rw [l2, List.map_append, List.map_cons]; exact nd
          · rw [ea]; exact S.rel.set x i
      · cases e
    · cases e
  · cases e
end
end Mine

end
section
open PySem PySem.W PyProof.Rows PySem.Calls
set_option maxRecDepth 10000
namespace Mine

theorem szLine_le : szLine ≤ sizeLine := by decide
theorem szLine_is : szLine = 1048576 := by decide
theorem sizeLine_16 : sizeLine = 16777216 := by decide

theorem ltL_iff : ∀ a b : List Nat, ltL a b = decide (a < b)
  | [], [] => by simp [ltL]
  | [], _ :: _ => by simp [ltL]
  | _ :: _, [] => by simp [ltL]
  | a :: r, b :: t => by
    have h1 : Nat.blt a b = decide (a < b) := by
      cases q : Nat.blt a b with
      | true => exact (decide_eq_true (Nat.le_of_ble_eq_true q)).symm
      | false =>
        refine (decide_eq_false fun z => ?_).symm
        have : Nat.blt a b = true := Nat.ble_eq_true_of_le z
        rw [q] at this; cases this
    have h2 : Nat.beq a b = decide (a = b) := by
      cases q : Nat.beq a b with
      | true => exact (decide_eq_true (Nat.eq_of_beq_eq_true q)).symm
      | false =>
        refine (decide_eq_false fun z => ?_).symm
        subst z; simp at q
    rw [ltL, h1, h2, ltL_iff r t]
    by_cases h : a < b
    · simp [h, List.cons_lt_cons_iff]
    · by_cases e : a = b
      · subst e; simp [List.cons_lt_cons_iff]
      · simp [h, e, List.cons_lt_cons_iff]

theorem str_beq (a b : List Nat) : (Str.mk a.toArray == Str.mk b.toArray) = (a == b) := by
  cases q : a == b with
  | true => rw [eq_of_beq q]; exact beq_self_eq_true _
  | false =>
    cases r : (Str.mk a.toArray == Str.mk b.toArray) with
    | false => rfl
    | true =>
      have := eq_of_beq r
      simp only [Str.mk.injEq] at this
      have e : a = b := by simpa using this
      rw [e] at q; simp at q

section
variable {P : PW} {K : Frag} {T : Tab} {sc : Scope} {cx : Cx} {d : Nat} {ρ : Loc} {H : MHeap} {cs : List Cell} {fz : List (Addr × Obj)} {s : Shared} {A : Around} {E : Value → Shared → Prop}

theorem truth_ok {v : MVal} {r : Value} {b : Bool} {ad : List Addr} (hr : VRel ad v r) (e : truth v = some b) {Q : Bool → Shared → Prop} (h : Q b s) : wpAny (model P.1 P.2) A (truthy r) Q E s := by
  unfold truth at e
  split at e
  · cases e; cases hr; exact wpAny_truthy_bool h
  · cases e

theorem tup_at (S : At P sc cx ρ H cs fz s.heap) {i : Nat} {r : Value} {xs : List MVal} (e : H[i]? = some (.tup xs)) (v : VRel (ads cs) (.ref i) r) :
    ∃ a rs, r = .ref a ∧ IsTup s.heap a rs.toArray ∧ VsRel (ads cs) xs rs := by
  obtain ⟨cl, hc, hr, x, g, _⟩ := S.at e v
  cases x with
  | tup h1 h2 h3 => exact ⟨_, _, hr, ⟨_, g, h1, _, h2⟩, h3⟩
theorem list_at (S : At P sc cx ρ H cs fz s.heap) {i : Nat} {r : Value} {xs : List MVal} (e : H[i]? = some (.list xs)) (v : VRel (ads cs) (.ref i) r) :
    ∃ a n rs, r = .ref a ∧ cs[i]? = some ⟨a, { cls := .type "list", data := .seq rs.toArray n }, none⟩ ∧ s.heap.IsList a rs.toArray ∧ VsRel (ads cs) xs rs := by
  obtain ⟨cl, hc, hr, x, g, _⟩ := S.at e v
  cases x with
  | list h3 => exact ⟨_, _, _, hr, hc, ⟨_, g, rfl, _, rfl⟩, h3⟩

theorem fresh_none (h : Heap) : h.get? h.objs.size = none := by
  cases q : h.get? h.objs.size with
  | none => rfl
  | some o => exact absurd (Heap.lt_size q) (Nat.lt_irrefl _)

/-- one object made, that lies last -/
theorem snoc_one (S : At P sc cx ρ H cs fz s.heap) {o : Obj} {m : MObj} (hf : o.isFreed = false) (x : ∀ ad, Pre (ads cs) ad → CRel P ad ⟨s.heap.objs.size, o, none⟩ m) :
    ∃ cs', Pre (ads cs) (ads cs') ∧ At P sc cx ρ (H ++ [m]) cs' fz (s.heap.push o) ∧ VRel (ads cs') (.ref H.length) (.ref s.heap.objs.size) := by
  obtain ⟨mm, F, l⟩ := S.fr
  have pre : Pre (ads cs) (ads (cs ++ [⟨s.heap.objs.size, o, none⟩])) := by unfold ads; rw [List.map_append]; exact Pre.app _ _
  obtain ⟨S', _⟩ := S.snoc (h' := s.heap.push o) (c := ⟨s.heap.objs.size, o, none⟩) (m := m) ⟨mm, F.push o, l⟩ (News.push F S.nw o hf) (by simp [Cell.led]) (by intro p hp; simp [Cell.led] at hp; rw [hp]; exact fresh_none _) (x _ pre)
  refine ⟨_, pre, S', .ref ?_⟩
  rw [← S.rel.length]
  simp

theorem snoc_list (S : At P sc cx ρ H cs fz s.heap) {vs : List MVal} {rs : List Value} (hv : VsRel (ads cs) vs rs) (hl : vs.length ≤ szLine) {Q : Value → Shared → Prop}
    (h : ∀ cs' h' tk r, Pre (ads cs) (ads cs') → At P sc cx ρ (H ++ [.list vs]) cs' fz h' → VRel (ads cs') (.ref H.length) r → Q r { s with heap := h', toks := tk }) :
    wpAny (model P.1 P.2) A (newList rs) Q E s := by
  obtain ⟨cs', p, S', v⟩ := snoc_one S (o := { cls := .type "list", data := .seq rs.toArray }) (m := .list vs) rfl fun ad p => .list (hv.mono p)
  exact wpAny_newObj_type (h _ _ _ _ p S' v) (by show rs.toArray.size ≤ sizeLine; rw [List.size_toArray, hv.length]; exact Nat.le_trans hl szLine_le)
theorem snoc_tup (S : At P sc cx ρ H cs fz s.heap) {vs : List MVal} {rs : List Value} (hv : VsRel (ads cs) vs rs) (hl : vs.length ≤ szLine) {Q : Value → Shared → Prop}
    (h : ∀ cs' h' tk r, Pre (ads cs) (ads cs') → At P sc cx ρ (H ++ [.tup vs]) cs' fz h' → VRel (ads cs') (.ref H.length) r → Q r { s with heap := h', toks := tk }) :
    wpAny (model P.1 P.2) A (newTuple rs) Q E s := by
  obtain ⟨cs', p, S', v⟩ := snoc_one S (o := { cls := .type "tuple", data := .seq rs.toArray }) (m := .tup vs) rfl fun ad p => .tup rfl rfl (hv.mono p)
  exact wpAny_newObj_type (h _ _ _ _ p S' v) (by show rs.toArray.size ≤ sizeLine; rw [List.size_toArray, hv.length]; exact Nat.le_trans hl szLine_le)
theorem snoc_dict (S : At P sc cx ρ H cs fz s.heap) (nl : cx.h₀.NoLimit) {Q : Value → Shared → Prop}
    (h : ∀ cs' h' tk r, Pre (ads cs) (ads cs') → At P sc cx ρ (H ++ [.dict []]) cs' fz h' → VRel (ads cs') (.ref H.length) r → Q r { s with heap := h', toks := tk }) :
    wpAny (model P.1 P.2) A newDict Q E s := by
  obtain ⟨cs', p, S', v⟩ := snoc_one S (o := { cls := .type "dict", data := .dict #[] }) (m := .dict []) rfl fun ad p => .dict ⟨rfl, rfl, rfl⟩ rfl .nil (by simp) (by obtain ⟨m, F, _⟩ := S.fr; exact F.notModules (modules_low nl))
  exact wpAny_newObj_type (h _ _ _ _ p S' v)

theorem place_seq {i : Int} {n j : Nat} (h : place i n = some j) : seqIndex? i n = some j ∧ j < n := by
  unfold place at h
  unfold seqIndex?
  split at h
  · rename_i h0
    split at h
    · rename_i h1
      cases h
      refine ⟨?_, h1⟩
      simp only [if_neg (show ¬ i < 0 by omega)]
      rw [if_pos (by simp; omega)]
    · cases h
  · rename_i h0
    split at h
    · rename_i h1
      cases h
      refine ⟨?_, by omega⟩
      simp only [if_pos (show i < 0 by omega)]
      rw [if_pos (by simp; omega)]
    · cases h
end
end Mine

end
section
open PySem PySem.W PyProof.Rows PySem.Calls
set_option maxRecDepth 10000
namespace Mine

section
variable {P : PW} {κ : Type} [DecidableEq κ]
/-- keys of one kind among the small values -/
structure Enc (P : PW) (κ : Type) [DecidableEq κ] where
  knd : PySem.KeyKind P.1 P.2 κ
  enc : κ → MVal
  inj : ∀ a b, enc a = enc b → a = b
  to : ∀ ad k h v, KRel P ad (enc k) h v → knd.is k v = true ∧ h = knd.hash k
  of : ∀ ad k v, knd.is k v = true → KRel P ad (enc k) (knd.hash k) v

noncomputable def encS (P : PW) : Enc P Str where
  knd := PySem.strKind P.1 P.2
  enc := fun s => .str s.cps.toList
  inj := fun a b h => by cases a; cases b; simp only [MVal.str.injEq, Array.toList_inj] at h; rw [h]
  to := fun ad k h v x => by
    generalize hq : MVal.str k.cps.toList = q at x
    cases x with
    | str l t =>
      cases k with
      | mk c =>
        simp only [MVal.str.injEq] at hq
        subst hq
        exact ⟨by simp [PySem.strKind, Value.isStrOf], by simp⟩
    | int => cases hq
    | tkey => cases hq
  of := fun ad k v h => by
    obtain ⟨t, rfl⟩ := Value.isStrOf_shape h
    cases k with
    | mk c => exact KRel.str (P := P) (ad := ad) c.toList t
noncomputable def encI (P : PW) : Enc P Int where
  knd := intKind P.1 P.2
  enc := fun i => .int i
  inj := fun a b h => by cases h; rfl
  to := fun ad k h v x => by
    generalize hq : MVal.int k = q at x
    cases x with
    | int i t => cases hq; exact ⟨by simp [intKind, Value.isInt], rfl⟩
    | str => cases hq
    | tkey => cases hq
  of := fun ad k v h => by
    obtain ⟨t, rfl⟩ := Value.isInt_shape h
    exact KRel.int k t

inductive KvRel (N : Enc P κ) (ad : List Addr) : List (MVal × MVal) → List (κ × Value) → Prop
  | nil : KvRel N ad [] []
  | cons {k v r ms kvs} : VRel ad v r → KvRel N ad ms kvs → KvRel N ad ((N.enc k, v) :: ms) ((k, r) :: kvs)

theorem KvRel.len {N : Enc P κ} {ad ms kvs} (h : KvRel N ad ms kvs) : kvs.length = ms.length := by
  induction h with
  | nil => rfl
  | cons _ _ ih => simp [ih]
theorem dict_pairs (N : Enc P κ) {ad : List Addr} {es ms} (h : DRel P ad es ms) (hk : ∀ p ∈ ms, ∃ k, p.1 = N.enc k) :
    ∃ kvs, Pairs N.knd es kvs ∧ (∀ e ∈ es, ∃ k, N.knd.is k e.key = true ∧ e.hash = N.knd.hash k) ∧ KvRel N ad ms kvs := by
  induction h with
  | nil => exact ⟨[], .nil, fun e he => (nomatch he), .nil⟩
  | @cons hh kk r x v es ms hk1 hv _ ih =>
    obtain ⟨kvs, h1, h2, h3⟩ := ih fun p hp => hk p (.tail _ hp)
    obtain ⟨k, e⟩ := hk _ (.head _)
    simp only at e
    subst e
    obtain ⟨i1, i2⟩ := N.to _ _ _ _ hk1
    refine ⟨(k, r) :: kvs, .cons i1 rfl h1, fun e he => ?_, .cons hv h3⟩
    rcases List.mem_cons.mp he with rfl | he
    · exact ⟨k, i1, i2⟩
    · exact h2 e he
theorem kv_keys (N : Enc P κ) {ad : List Addr} {ms kvs} (h : KvRel N ad ms kvs) (nd : (ms.map (·.1)).Nodup) : (kvs.map (·.1)).Nodup := by
  have e : ms.map (·.1) = (kvs.map (·.1)).map N.enc := by
    induction h with
    | nil => rfl
    | cons _ _ ih => simp only [List.map_cons, List.cons.injEq, true_and]; exact ih (by simpa using (List.nodup_cons.mp nd).2)
  rw [e] at nd
  exact (List.pairwise_map.mp nd).imp fun h e => h (congrArg _ e)
theorem kv_at (N : Enc P κ) {ad : List Addr} {ms kvs} (h : KvRel N ad ms kvs) (k : κ) :
    (∀ v, dlk (N.enc k) ms = some v → ∃ r, valueAt kvs k = some r ∧ VRel ad v r) ∧ (dlk (N.enc k) ms = none → valueAt kvs k = none) := by
  induction h with
  | nil => exact ⟨fun v e => by simp [dlk] at e, fun _ => rfl⟩
  | @cons k' v r ms kvs hv _ ih =>
    unfold valueAt at *
    rw [List.find?_cons]
    by_cases q : k = k'
    · subst q
      simp only [decide_true, dlk, if_true]
      exact ⟨fun u e => by cases e; exact ⟨r, rfl, hv⟩, fun e => by cases e⟩
    · have q1 : ¬ k' = k := fun z => q z.symm
      have q2 : ¬ N.enc k = N.enc k' := fun z => q (N.inj _ _ z)
      simp only [q1, decide_false, dlk, if_neg q2]
      exact ih
theorem kv_stored (N : Enc P κ) {ad : List Addr} {ms kvs} (h : KvRel N ad ms kvs) (nd : (kvs.map (·.1)).Nodup) (k : κ) {v : MVal} {r : Value} (hv : VRel ad v r) : KvRel N ad (dput (N.enc k) v ms) (stored kvs k r) := by
  induction h with
  | nil => exact .cons hv .nil
  | @cons k' u r' ms kvs hu hrest ih =>
    unfold stored at *
    have nd' := (List.nodup_cons.mp nd)
    by_cases q : k = k'
    · subst q
      have e : kvs.map (fun kv => if kv.1 = k then (kv.1, r) else kv) = kvs := map_store_of_not_mem kvs k r nd'.1
      simp only [List.any_cons, decide_true, Bool.true_or, if_true, List.map_cons, e, dput]
      exact .cons hv hrest
    · have q1 : ¬ k' = k := fun z => q z.symm
      have q2 : ¬ N.enc k = N.enc k' := fun z => q (N.inj _ _ z)
      have ih' := ih (by exact nd'.2)
      simp only [List.any_cons, q1, decide_false, Bool.false_or, dput, if_neg q2]
      split
      · rename_i hq
        rw [if_pos hq] at ih'
        simp only [List.map_cons, if_neg q1]
        exact .cons hu ih'
      · rename_i hq
        rw [if_neg hq] at ih'
        exact .cons hu ih'
theorem dict_of_pairs (N : Enc P κ) {ad : List Addr} {ms kvs es} (h : KvRel N ad ms kvs) (hp : Pairs N.knd es kvs) (hk : ∀ e ∈ es, ∃ k, N.knd.is k e.key = true ∧ e.hash = N.knd.hash k) : DRel P ad es ms := by
  induction h generalizing es with
  | nil => cases hp; exact .nil
  | @cons k v r ms kvs hv _ ih =>
    cases hp with
    | @cons e _ es _ h1 h2 h3 =>
      have hr := ih h3 fun e he => hk e (.tail _ he)
      obtain ⟨k', i1, i2⟩ := hk e (.head _)
      have : k' = k := N.knd.inj _ _ _ i1 h1
      subst this
      obtain ⟨hh, kk, vv⟩ := e
      simp only at h1 h2 i2
      subst h2 i2
      exact .cons (N.of _ _ _ h1) hv hr
end

section
variable {P : PW} {K : Frag} {T : Tab} {sc : Scope} {cx : Cx} {d : Nat} {ρ : Loc} {H : MHeap} {cs : List Cell} {fz : List (Addr × Obj)} {s : Shared} {A : Around} {E : Value → Shared → Prop}

theorem encS_of {v : MVal} {ms : List (MVal × MVal)} (h : okKey v ms = true) : (∃ l, v = .str l ∧ ∀ p ∈ ms, ∃ k, p.1 = (encS P).enc k) ∨ (∃ i, v = .int i ∧ ∀ p ∈ ms, ∃ k, p.1 = (encI P).enc k) := by
  unfold okKey at h
  split at h
  · rename_i l
    refine .inl ⟨l, rfl, fun p hp => ?_⟩
    have := List.all_eq_true.mp h p hp
    split at this
    · rename_i l' e; exact ⟨⟨l'.toArray⟩, by rw [e]; simp [encS]⟩
    · cases this
  · rename_i i
    refine .inr ⟨i, rfl, fun p hp => ?_⟩
    have := List.all_eq_true.mp h p hp
    split at this
    · rename_i l' e; exact ⟨l', by rw [e]; simp [encI]⟩
    · cases this
  · cases h

/-- a dict of the heap's, by keys of one kind -/
theorem dict_at {κ : Type} [DecidableEq κ] (N : Enc P κ) (S : At P sc cx ρ H cs fz s.heap) {i : Nat} {r : Value} {ms : List (MVal × MVal)} (e : H[i]? = some (.dict ms)) (v : VRel (ads cs) (.ref i) r) (hk : ∀ p ∈ ms, ∃ k, p.1 = N.enc k) :
    ∃ a o kvs, r = .ref a ∧ cs[i]? = some ⟨a, o, none⟩ ∧ s.heap.DictOf N.knd a kvs ∧ KvRel N (ads cs) ms kvs := by
  obtain ⟨cl, hc, hr, x, g, _⟩ := S.at e v
  cases x with
  | dict h1 h2 h3 h4 =>
    obtain ⟨kvs, p1, p2, p3⟩ := dict_pairs N h3 hk
    exact ⟨_, _, kvs, hr, hc, ⟨_, _, _, g, h1, h2, fun e he => p2 e (by simpa using he), by simpa using p1, kv_keys N p3 h4⟩, p3⟩

theorem in_dict (S : At P sc cx ρ H cs fz s.heap) {i : Nat} {r rk : Value} {k : MVal} {ms : List (MVal × MVal)} (e : H[i]? = some (.dict ms)) (v : VRel (ads cs) (.ref i) r) (hk : VRel (ads cs) k rk) (ok : okKey k ms = true)
    {Q : Value → Shared → Prop} (h : ∀ tk, Q (.bool (dlk k ms).isSome) { s with toks := tk }) : wpAny (model P.1 P.2) A (compareOp .In rk r) Q E s := by
  have low : ∀ {a o}, cs[i]? = some ⟨a, o, none⟩ → (a == sysModules) = false := by
    intro a o hc
    obtain ⟨c, hc', x⟩ := S.rel.get e
    rw [hc] at hc'; cases hc'
    cases x with
    | dict _ _ _ _ d => exact d
  rcases encS_of (P := P) ok with ⟨l, rfl, hk'⟩ | ⟨i', rfl, hk'⟩
  · obtain ⟨a, o, kvs, rfl, hc, D, R⟩ := dict_at (encS P) S e v hk'
    cases hk with
    | str _ t =>
      refine wpAny_in_of (knd := (encS P).knd) (k := ⟨l.toArray⟩) (by simp [encS, PySem.strKind, Value.isStrOf]) (low hc) D.mapOf ?_
      have q := kv_at (encS P) R ⟨l.toArray⟩
      have e1 : (encS P).enc ⟨l.toArray⟩ = .str l := by simp [encS]
      rw [e1] at q
      cases hd : dlk (.str l) ms with
      | none => rw [q.2 hd]; rw [hd] at h; exact h _
      | some v => obtain ⟨r, q1, _⟩ := q.1 v hd; rw [q1]; rw [hd] at h; exact h _
  · obtain ⟨a, o, kvs, rfl, hc, D, R⟩ := dict_at (encI P) S e v hk'
    cases hk with
    | int _ t =>
      refine wpAny_in_of (knd := (encI P).knd) (k := i') (by simp [encI, intKind, Value.isInt]) (low hc) D.mapOf ?_
      have q := kv_at (encI P) R i'
      have e1 : (encI P).enc i' = .int i' := rfl
      rw [e1] at q
      cases hd : dlk (.int i') ms with
      | none => rw [q.2 hd]; rw [hd] at h; exact h _
      | some v => obtain ⟨r, q1, _⟩ := q.1 v hd; rw [q1]; rw [hd] at h; exact h _

theorem slice_rfl {sc : Scope} {k : Nat} {i : Expr} {n : ME} (e : er sc k i = some n) (b : Bool) (o v : Value) (hb : b = false) : subscripted i b o v = operate [o, v] (getItem o v) := by
  subst hb
  cases k with
  | zero => cases e
  | succ k => cases i <;> first | rfl | (cases e)

theorem index_ok (S : At P sc cx ρ H cs fz s.heap) {v k u : MVal} {rv rk : Value} (hv : VRel (ads cs) v rv) (hk : VRel (ads cs) k rk) (e : index v k H = some u) {value slice : Expr}
    (hs : ∀ o w, subscripted slice false o w = operate [o, w] (getItem o w))
    {Q : Value → Shared → Prop} (h : ∀ tk r, VRel (ads cs) u r → Q r { s with toks := tk }) : wpAny (model P.1 P.2) A (subscriptTail value slice rv rk) Q E s := by
  unfold index at e
  split at e
  · rename_i o i
    cases hk with
    | int _ t =>
      split at e
      · rename_i xs ho
        split at e
        · rename_i hz
          obtain ⟨a, ob, rs, rfl, hc, hl, R⟩ := list_at S ho hv
          refine bindE e fun j hj hx => ?_
          obtain ⟨r, h1, h2⟩ := R.get hx
          obtain ⟨p1, p2⟩ := place_seq hj
          have hb : xs.length ≤ 1048576 := by rw [← szLine_is]; exact hz
          refine tail_any hl.typeIs slot_list_getitem.lookup ?_ (hs _ _)
          unfold place at hj
          split at hj
          · rename_i h0
            split at hj
            · rename_i h3
              cases hj
              exact wpAny_getItem_list hl h0 (by omega) (by simpa using h1) (h s.toks r h2)
            · cases hj
          · rename_i h0
            split at hj
            · rename_i h3
              rw [← R.length] at p1
              exact kde_getNeg hl (by omega) (by omega) p1 h1 (h s.toks r h2)
            · cases hj
        · cases e
      · rename_i xs ho
        split at e
        · rename_i hz
          obtain ⟨a, rs, rfl, hl, R⟩ := tup_at S ho hv
          refine bindE e fun j hj hx => ?_
          obtain ⟨r, h1, h2⟩ := R.get hx
          obtain ⟨p1, p2⟩ := place_seq hj
          have hb : xs.length ≤ 1048576 := by rw [← szLine_is]; exact hz
          have hi : -(2 ^ 63) ≤ i ∧ i < 2 ^ 63 := by
            unfold place at hj
            split at hj
            · split at hj
              · constructor <;> omega
              · cases hj
            · split at hj
              · constructor <;> omega
              · cases hj
          exact item_tupleT hl hi.1 hi.2 (by rw [R.length]; exact p1) h1 (h s.toks r h2) (hs _ _)
        · cases e
      · cases e
  · rename_i o l
    cases hk with
    | str _ t =>
      split at e
      · rename_i ms ho
        split at e
        · rename_i ok
          rcases encS_of (P := P) ok with ⟨l', q, hk'⟩ | ⟨i', q, hk'⟩
          · cases q
            obtain ⟨a, ob, kvs, rfl, hc, D, R⟩ := dict_at (encS P) S ho hv hk'
            have q := kv_at (encS P) R ⟨l.toArray⟩
            have e1 : (encS P).enc ⟨l.toArray⟩ = .str l := by simp [encS]
            rw [e1] at q
            obtain ⟨r, q1, q2⟩ := q.1 u e
            refine tail_any D.typeIs slot_dict_getitem.lookup ?_ (hs _ _)
            exact wpAny_getItem_of (knd := (encS P).knd) (k := ⟨l.toArray⟩) (by simp [encS, PySem.strKind, Value.isStrOf]) D.mapOf q1 (h _ r q2)
          · cases q
        · cases e
      · cases e
  · cases e
end
end Mine

end
section
open PySem PySem.W PyProof.Rows PySem.Calls
set_option maxRecDepth 10000
namespace Mine

section
variable {P : PW} {K : Frag} {T : Tab} {sc : Scope} {cx : Cx} {d : Nat} {ρ : Loc} {H : MHeap} {cs : List Cell} {fz : List (Addr × Obj)} {s : Shared} {A : Around} {E : Value → Shared → Prop}

/-- a one-object cell is turned -/
theorem change_one (S : At P sc cx ρ H cs fz s.heap) {i : Nat} {a : Addr} {o o' : Obj} {m : MObj} {h' : Heap} (hc : cs[i]? = some ⟨a, o, none⟩) (hs : Heap.SameBut a s.heap h') (hg : h'.get? a = some o') (x : CRel P (ads cs) ⟨a, o', none⟩ m) :
    ∃ cs', ads cs' = ads cs ∧ At P sc cx ρ (H.set i m) cs' fz h' := by
  obtain ⟨S', e⟩ := S.change (c' := ⟨a, o', none⟩) (m := m) hc rfl hs hg ⟨[], [], rfl, rfl⟩ x
  exact ⟨_, e, S'⟩

theorem dput_keys {k : MVal} {v : MVal} : ∀ {ms : List (MVal × MVal)} {x : MVal}, x ∈ (dput k v ms).map (·.1) → x = k ∨ x ∈ ms.map (·.1)
  | [], x, h => by simp [dput] at h; exact .inl h
  | (y, u) :: r, x, h => by
    unfold dput at h
    split at h
    · rename_i q
      simp only [List.map_cons, List.mem_cons] at h ⊢
      rcases h with h | h
      · exact .inr (.inl h)
      · exact .inr (.inr h)
    · simp only [List.map_cons, List.mem_cons] at h ⊢
      rcases h with h | h
      · exact .inr (.inl h)
      · exact (dput_keys h).imp id .inr
theorem dput_nodup {k v : MVal} : ∀ {ms : List (MVal × MVal)}, (ms.map (·.1)).Nodup → ((dput k v ms).map (·.1)).Nodup
  | [], _ => by simp [dput]
  | (y, u) :: r, h => by
    unfold dput
    simp only [List.map_cons, List.nodup_cons] at h
    split
    · simp only [List.map_cons, List.nodup_cons]; exact h
    · rename_i q
      simp only [List.map_cons, List.nodup_cons]
      refine ⟨fun z => ?_, dput_nodup h.2⟩
      rcases dput_keys z with e | e
      · exact q e.symm
      · exact h.1 e

theorem store_pairs {κ : Type} [DecidableEq κ] (N : Enc P κ) (S : At P sc cx ρ H cs fz s.heap) {i : Nat} {ro rk r : Value} {k : κ} {v : MVal} {ms : List (MVal × MVal)} (e : H[i]? = some (.dict ms)) (ho : VRel (ads cs) (.ref i) ro)
    (hkey : N.knd.is k rk = true) (hv : VRel (ads cs) v r) (hk : ∀ p ∈ ms, ∃ k, p.1 = N.enc k) (hl : ms.length < 1000)
    {Q : Unit → Shared → Prop} (h : ∀ cs' h' tk, ads cs' = ads cs → At P sc cx ρ (H.set i (.dict (dput (N.enc k) v ms))) cs' fz h' → Q () { s with heap := h', toks := tk }) :
    wpAny (model P.1 P.2) A (setItem ro rk r) Q E s := by
  obtain ⟨c, hc0, x0⟩ := S.rel.get e
  obtain ⟨a, o, kvs, rfl, hc, D, R⟩ := dict_at N S e ho hk
  rw [hc] at hc0; cases hc0
  cases x0 with
  | dict a1 a2 a3 a4 a5 =>
    refine wpAny_setItem_pairs (knd := N.knd) (k := k) hkey D (fun h' D' hs => ?_) (by rw [R.len, sizeLine_16]; omega)
    obtain ⟨o', es', ep', g', x1, x2, x3, x4, _⟩ := D'
    have R' := kv_stored N R (kv_keys N R a4) k hv
    have dr : DRel P (ads cs) es'.toList (dput (N.enc k) v ms) := dict_of_pairs N R' x4 fun e he => x3 e (by simpa using he)
    obtain ⟨cs', ea, S'⟩ := change_one S (m := .dict (dput (N.enc k) v ms)) hc hs g' (.dict (es := es'.toList) x1 (by rw [x2]) dr (dput_nodup a4) a5)
    exact h cs' h' _ ea S'

theorem nodup_snoc {α : Type} {l : List α} {a : α} (h : l.Nodup) (n : a ∉ l) : (l ++ [a]).Nodup := by
  rw [List.nodup_append]
  exact ⟨h, by simp, fun x hx y hy e => n (by simp at hy; rw [← hy, ← e]; exact hx)⟩

theorem tup_key (S : At P sc cx ρ H cs fz s.heap) {j : Nat} {a : Addr} {x y : List Nat} (e : H[j]? = some (.tup [.str x, .str y])) (ha : (ads cs)[j]? = some a) : IsTupleKey (PySem.strKind P.1 P.2) s.heap [⟨x.toArray⟩, ⟨y.toArray⟩] a := by
  obtain ⟨c, hc, cr, g, hca, _⟩ := S.get e
  rw [ha] at hca
  cases cr with
  | tup h1 h2 h3 =>
    cases h3 with
    | cons v1 h3 => cases h3 with
      | cons v2 h3 =>
        cases h3
        cases v1; cases v2
        refine ⟨_, _, _, by rw [Option.some.inj hca]; exact g, h1, h2, ?_⟩
        exact .cons (by simp [PySem.strKind, Value.isStrOf]) (.cons (by simp [PySem.strKind, Value.isStrOf]) .nil)

theorem tup_entries (S : At P sc cx ρ H cs fz s.heap) {x y : List Nat} {es ms} (D : DRel P (ads cs) es ms) (hk : tupKeys x y H ms = true) :
    ∃ xs : List (List Str × Addr × Value), es = xs.map (entryOfKey (tupleKind (PySem.strKind P.1 P.2))) ∧ (∀ z ∈ xs, IsTupleKey (PySem.strKind P.1 P.2) s.heap z.1 z.2.1) ∧ xs.length = ms.length ∧
      ([⟨x.toArray⟩, ⟨y.toArray⟩] : List Str) ∉ xs.map (·.1) ∧ xs.map (·.1) = (ms.map keyOf).map (fun q => [⟨q.1.toArray⟩, ⟨q.2.toArray⟩]) := by
  induction D with
  | nil => exact ⟨[], rfl, fun _ h => (nomatch h), rfl, by simp, rfl⟩
  | @cons h k r kx v es ms hkr hv _ ih =>
    have hk1 := List.all_eq_true.mp hk
    obtain ⟨xs, e1, e2, e3, e4, e5⟩ := ih (List.all_eq_true.mpr fun p hp => hk1 p (.tail _ hp))
    have q := hk1 _ (.head _)
    simp only at q
    cases hkr with
    | str => cases q
    | int => cases q
    | @tkey j a c d ha =>
      rw [Bool.and_eq_true] at q
      have hj : H[j]? = some (.tup [.str c, .str d]) := beq_iff_eq.mp q.1
      have ne : ([⟨x.toArray⟩, ⟨y.toArray⟩] : List Str) ≠ [⟨c.toArray⟩, ⟨d.toArray⟩] := by
        intro z
        simp only [List.cons.injEq, Str.mk.injEq, and_true] at z
        have z1 : x = c := by simpa using z.1
        have z2 : y = d := by simpa using z.2
        have := q.2
        rw [z1, z2] at this
        simp at this
      refine ⟨([⟨c.toArray⟩, ⟨d.toArray⟩], a, r) :: xs, ?_, ?_, by simp [e3], ?_, ?_⟩
      · rw [List.map_cons, ← e1]; rfl
      · intro z hz
        rcases List.mem_cons.mp hz with rfl | hz
        · exact tup_key S hj ha
        · exact e2 z hz
      · simp only [List.map_cons, List.mem_cons, not_or]
        exact ⟨ne, e4⟩
      · simp only [List.map_cons, keyOf, e5]

theorem DRel.append {ad : List Addr} {es es' ms ms'} (x : DRel P ad es ms) (y : DRel P ad es' ms') : DRel P ad (es ++ es') (ms ++ ms') := by
  induction x with
  | nil => exact y
  | cons p q _ ih => exact .cons p q ih
theorem store_tup (S : At P sc cx ρ H cs fz s.heap) (hu : A.units < 9800) {i j : Nat} {ro rk r : Value} {v : MVal} {ms : List (MVal × MVal)} {x y : List Nat} (e : H[i]? = some (.dict ms)) (ho : VRel (ads cs) (.ref i) ro)
    (ej : H[j]? = some (.tup [.str x, .str y])) (hk : VRel (ads cs) (.ref j) rk) (hv : VRel (ads cs) v r) (ht : tupKeys x y H ms = true) (hl : ms.length < 1000) (nd : (ms.map keyOf).Nodup)
    {Q : Unit → Shared → Prop} (h : ∀ cs' h' tk, ads cs' = ads cs → At P sc cx ρ (H.set i (.dict (ms ++ [(.tkey j x y, v)]))) cs' fz h' → Q () { s with heap := h', toks := tk }) :
    wpAny (model P.1 P.2) A (setItem ro rk r) Q E s := by
  obtain ⟨c, hc, rfl, x0, g, _⟩ := S.at e ho
  cases hk with
  | @ref _ a ha =>
  cases x0 with
  | @dict d o es n _ a1 a2 a3 a4 a5 =>
    obtain ⟨xs, e1, e2, e3, e4, e5⟩ := tup_entries S a3 ht
    have key := tup_key S ej ha
    have xn : (xs.map (·.1)).Nodup := by
      rw [e5]
      refine List.pairwise_map.mpr (nd.imp fun {p q} hne z => hne ?_)
      simp only [List.cons.injEq, Str.mk.injEq, and_true] at z
      have z1 : p.1 = q.1 := by simpa using z.1
      have z2 : p.2 = q.2 := by simpa using z.2
      exact Prod.ext z1 z2
    have D : s.heap.DictOfH (tupleKind (PySem.strKind P.1 P.2)) d xs := ⟨o, _, n, g, a1, a2, by simpa using e1, e2, xn⟩
    have at0 : atKey xs ([⟨x.toArray⟩, ⟨y.toArray⟩] : List Str) = none := by
      unfold atKey
      rw [List.find?_eq_none.mpr]
      · rfl
      · intro z hz q
        exact e4 (List.mem_map.mpr ⟨z, hz, of_decide_eq_true q⟩)
    refine wpAny_setItem_heap (knd := tupleKind (PySem.strKind P.1 P.2)) (by show A.in1.units < cLine; rw [units_in1]; have := cLine_is; omega) key D (fun h' D' hs => ?_) (by rw [e3, sizeLine_16]; omega)
    rw [storedH_new at0] at D'
    obtain ⟨o', es', ep', g', x1, x2, x3, _, _⟩ := D'
    have dr : DRel P (ads cs) es'.toList (ms ++ [(.tkey j x y, v)]) := by
      rw [x3, List.map_append, ← e1]
      have one : DRel P (ads cs) [entryOfKey (tupleKind (PySem.strKind P.1 P.2)) (([⟨x.toArray⟩, ⟨y.toArray⟩] : List Str), a, r)] [(.tkey j x y, v)] := .cons (.tkey x y ha) hv .nil
      exact a3.append one
    have kn : ((ms ++ [(MVal.tkey j x y, v)]).map (·.1)).Nodup := by
      rw [List.map_append]
      refine nodup_snoc a4 fun z => ?_
      obtain ⟨p, hp, q⟩ := List.mem_map.mp z
      have := List.all_eq_true.mp ht p hp
      rw [q] at this
      simp at this
    obtain ⟨cs', ea, S'⟩ := change_one S (m := .dict (ms ++ [(.tkey j x y, v)])) hc hs g' (.dict (es := es'.toList) x1 (by rw [x2]) dr kn a5)
    exact h cs' h' _ ea S'

theorem storeI_ok (S : At P sc cx ρ H cs fz s.heap) (hu : A.units < 9800) {o k v : MVal} {ro rk r : Value} (ho : VRel (ads cs) o ro) (hk : VRel (ads cs) k rk) (hv : VRel (ads cs) v r) {H' : MHeap} (e : storeI o k v H = some H')
    {Q : Unit → Shared → Prop} (h : ∀ cs' h' tk, ads cs' = ads cs → At P sc cx ρ H' cs' fz h' → Q () { s with heap := h', toks := tk }) :
    wpAny (model P.1 P.2) A (setItem ro rk r) Q E s := by
  unfold storeI at e
  split at e
  · rename_i o
    split at e
    · rename_i xs i hi
      split at e
      · rename_i hz
        cases e
        obtain ⟨a, ob, rs, rfl, hc, hl, R⟩ := list_at S hi ho
        cases hk with
        | int _ t =>
          have hb : xs.length ≤ 1048576 := by rw [← szLine_is]; exact hz.2.2
          have hlen := R.length
          have ho := (S.nw _ (List.mem_append_left _ (mem_led hc))).1
          refine ki_setAt ho hz.1 (by omega) (by rw [List.size_toArray, hlen]; omega) ?_
          have hg' : (s.heap.update a (Obj.mapSeq (·.setIfInBounds i.toNat r))).get? a = some { cls := .type "list", data := .seq (rs.set i.toNat r).toArray (if (rs.toArray.setIfInBounds i.toNat r).size == rs.toArray.size then ob else ob + 1) } := by
            rw [Heap.get?_update_self _ ho rfl, show (rs.set i.toNat r).toArray = rs.toArray.setIfInBounds i.toNat r by simp]
            rfl
          obtain ⟨cs', ea, S'⟩ := change_one S (m := .list (xs.set i.toNat v)) hc (Heap.SameBut.update ..) hg' (.list (R.set hv i.toNat))
          exact h cs' _ _ ea S'
      · cases e
    · rename_i es j hi
      split at e
      · rename_i x y hj
        split at e
        · rename_i hz
          cases e
          exact store_tup S hu hi ho hj hk hv hz.1 hz.2.1 hz.2.2 h
        · cases e
      · cases e
    · rename_i es hi hn
      split at e
      · rename_i hz
        cases e
        rcases encS_of (P := P) hz.1 with ⟨l, rfl, hk'⟩ | ⟨i', rfl, hk'⟩
        · cases hk with
          | str _ t =>
            refine store_pairs (encS P) S (k := ⟨l.toArray⟩) hi ho (by simp [encS, PySem.strKind, Value.isStrOf]) hv hk' hz.2 fun cs' h' tk ea S' => ?_
            have e1 : (encS P).enc ⟨l.toArray⟩ = .str l := by simp [encS]
            rw [e1] at S'
            exact h cs' h' tk ea S'
        · cases hk with
          | int _ t =>
            exact store_pairs (encI P) S (k := i') hi ho (by simp [encI, intKind, Value.isInt]) hv hk' hz.2 fun cs' h' tk ea S' => h cs' h' tk ea S'
      · cases e
    · cases e
  · cases e
end
end Mine

end
section
open PySem PySem.W PyProof.Rows PySem.Calls
set_option maxRecDepth 10000
namespace Mine

section
variable {P : PW} {K : Frag} {T : Tab} {sc : Scope} {cx : Cx} {d : Nat} {ρ : Loc} {H : MHeap} {cs : List Cell} {fz : List (Addr × Obj)} {s : Shared} {A : Around} {E : Value → Shared → Prop}

theorem no_pylong {a b : Int} (h0 : 0 < b) (h : b ≤ 2 ^ 200) : Builtin.divisionGoesByPylong a b = false := by
  unfold Builtin.divisionGoesByPylong
  have h1 : b.natAbs < 2 ^ 201 := by
    have : (2 : Int) ^ 200 = ((2 ^ 200 : Nat) : Int) := by norm_cast
    rw [this] at h
    have h2 : b.natAbs ≤ 2 ^ 200 := by omega
    exact Nat.lt_of_le_of_lt h2 (by decide)
  have h2 : b.natAbs.log2 < 201 := (Nat.log2_lt (by omega)).mpr h1
  simp only [Bool.and_eq_false_iff, decide_eq_false_iff_not]
  left
  split <;> omega

theorem lits {x : List Nat} : (⟨x.toArray⟩ : Str).length = x.length := by simp [Str.length]
theorem app_str (a b : List Nat) : (⟨a.toArray⟩ : Str) ++ (⟨b.toArray⟩ : Str) = ⟨(a ++ b).toArray⟩ := by
  show Str.append _ _ = _
  unfold Str.append
  simp

theorem add_inv {v u w : MVal} {H H' : MHeap} (e : binop .add v u H = some (w, H')) : (∃ a b, v = .int a ∧ u = .int b ∧ .int (a + b) = w ∧ H = H') ∨ (∃ a b, v = .str a ∧ u = .str b ∧ a.length + b.length ≤ szLine ∧ .str (a ++ b) = w ∧ H = H') ∨
    (∃ i j xs ys, v = .ref i ∧ u = .ref j ∧ H[i]? = some (.tup xs) ∧ H[j]? = some (.tup ys) ∧ (xs ≠ [] ∧ ys ≠ [] ∧ xs.length + ys.length ≤ szLine) ∧ .ref H.length = w ∧ H ++ [.tup (xs ++ ys)] = H') := by
  cases v with
  | int a =>
    refine mapE e fun b hb g => ?_
    have := intV_ok hb; subst this
    cases g
    exact .inl ⟨a, b, rfl, rfl, rfl, rfl⟩
  | str a =>
    refine bindE e fun b hb g => ?_
    have := strV_ok hb; subst this
    by_cases q : a.length + b.length ≤ szLine
    · rw [if_pos q] at g
      cases g
      exact .inr (.inl ⟨a, b, rfl, rfl, q, rfl, rfl⟩)
    · rw [if_neg q] at g; cases g
  | ref i =>
    refine bindE e fun j hb g => ?_
    refine bindE g fun x hx g2 => ?_
    refine bindE g2 fun y hy g3 => ?_
    refine bindE g3 fun xs hxs g4 => ?_
    refine bindE g4 fun ys hys g5 => ?_
    have := refV_ok hb; subst this
    have := tupO_ok hxs; subst this
    have := tupO_ok hys; subst this
    by_cases q : xs ≠ [] ∧ ys ≠ [] ∧ xs.length + ys.length ≤ szLine
    · rw [if_pos q] at g5
      cases g5
      exact .inr (.inr ⟨i, j, xs, ys, rfl, rfl, hx, hy, q, rfl, rfl⟩)
    · rw [if_neg q] at g5; cases g5
  | _ => cases e
theorem binop_ok (S : At P sc cx ρ H cs fz s.heap) {op : AOp} {v u w : MVal} {rv ru : Value} (hv : VRel (ads cs) v rv) (hu : VRel (ads cs) u ru) {H' : MHeap} (e : binop op v u H = some (w, H'))
    {o : Operator} (ho : erOp o = some op)
    {Q : Value → Shared → Prop} (h : ∀ cs' h' tk r, Pre (ads cs) (ads cs') → At P sc cx ρ H' cs' fz h' → VRel (ads cs') w r → Q r { s with heap := h', toks := tk }) : wpAny (model P.1 P.2) A (binaryOp o rv ru) Q E s := by
  have hS : ∀ tk r, H' = H → VRel (ads cs) w r → Q r { s with toks := tk } := fun tk r e1 hr => h cs s.heap tk r (Pre.refl _) (e1 ▸ S) hr
  cases o with
  | Add =>
    cases ho
    rcases add_inv e with ⟨a, b, rfl, rfl, rfl, rfl⟩ | ⟨a, b, rfl, rfl, hb, rfl, rfl⟩ | ⟨i, j, xs, ys, rfl, rfl, hi, hj, hz, rfl, rfl⟩
    · cases hv; cases hu; exact add_int (hS _ _ rfl (.int _ _))
    · cases hv; cases hu
      refine add_str (fun t' tk => ?_) (by rw [lits, lits]; exact Nat.le_trans hb szLine_le)
      rw [app_str]
      exact hS _ _ rfl (.str _ _)
    · obtain ⟨a, rs, rfl, ht, R⟩ := tup_at S hi hv
      obtain ⟨b, rs', rfl, ht', R'⟩ := tup_at S hj hu
      obtain ⟨m, F, l⟩ := S.fr
      obtain ⟨hx, hy, hl⟩ := hz
      refine add_tuples F S.nw ht ht' (fun q => ?_) (fun _ q => ?_) (fun _ _ h' F' N' => ?_) (by rw [R.length, R'.length]; exact Nat.le_trans hl szLine_le)
      · exact absurd (by have := R.length; rw [q] at this; exact List.length_eq_zero_iff.mp this.symm) hx
      · exact absurd (by have := R'.length; rw [q] at this; exact List.length_eq_zero_iff.mp this.symm) hy
      · have pre : Pre (ads cs) (ads (cs ++ [⟨s.heap.objs.size, { cls := .type "tuple", data := .seq (rs ++ rs').toArray }, none⟩])) := by unfold ads; rw [List.map_append]; exact Pre.app _ _
        obtain ⟨S', _⟩ := S.snoc (h' := h') (c := ⟨s.heap.objs.size, { cls := .type "tuple", data := .seq (rs ++ rs').toArray }, none⟩) (m := .tup (xs ++ ys)) ⟨m, F', l⟩ N' (by simp [Cell.led]) (by intro p hp; simp [Cell.led] at hp; rw [hp]; exact fresh_none _)
          (.tup rfl rfl ((R.append R').mono pre))
        refine h _ h' _ _ pre S' (.ref ?_)
        rw [← S.rel.length]
        simp
  | Sub =>
    cases ho
    refine bindE e fun a ha g => ?_
    refine mapE g fun b hb g2 => ?_
    have := intV_ok ha; subst this
    have := intV_ok hb; subst this
    cases g2; cases hv; cases hu
    exact PyProof.Rows.sub_int (hS _ _ rfl (.int _ _))
  | Mult =>
    cases ho
    refine bindE e fun a ha g => ?_
    refine bindE g fun b hb g2 => ?_
    have := intV_ok ha; subst this
    have := intV_ok hb; subst this
    by_cases hb : a.natAbs ≤ szLine ∧ b.natAbs ≤ szLine
    · rw [if_pos hb] at g2
      cases g2; cases hv; cases hu
      refine mul_int (hS _ _ rfl (.int _ _)) (.of_left (intBits_le_64 ?_ ?_)) <;> (have := szLine_is; omega)
    · rw [if_neg hb] at g2; cases g2
  | FloorDiv =>
    cases ho
    refine bindE e fun a ha g => ?_
    refine bindE g fun b hb g2 => ?_
    have := intV_ok ha; subst this
    have := intV_ok hb; subst this
    by_cases hb : 0 < b ∧ b ≤ 2 ^ 200
    · rw [if_pos hb] at g2
      cases g2; cases hv; cases hu
      exact floordiv_int (by omega) (hS _ _ rfl (.int _ _)) (.inl (no_pylong hb.1 hb.2))
    · rw [if_neg hb] at g2; cases g2
  | Mod =>
    cases ho
    refine bindE e fun a ha g => ?_
    refine bindE g fun b hb g2 => ?_
    have := intV_ok ha; subst this
    have := intV_ok hb; subst this
    by_cases hb : 0 < b
    · rw [if_pos hb] at g2
      cases g2; cases hv; cases hu
      exact mod_int' (by omega) (hS _ _ rfl (.int _ _))
    · rw [if_neg hb] at g2; cases g2
  | Pow =>
    cases ho
    refine bindE e fun a ha g => ?_
    refine bindE g fun b hb g2 => ?_
    have := intV_ok ha; subst this
    have := intV_ok hb; subst this
    by_cases hb : a = 7 ∧ 0 ≤ b ∧ b ≤ 64
    · rw [if_pos hb] at g2
      cases g2; cases hv; cases hu
      exact pow_int_small hb.2.1 (by omega) (by rw [hb.1]; decide) (hS _ _ rfl (.int _ _))
    · rw [if_neg hb] at g2; cases g2
  | _ => cases ho

theorem strs_are {ad : List Addr} {xs : List MVal} {rs : List Value} (R : VsRel ad xs rs) : ∀ {ls : List (List Nat)}, strsOf xs = some ls → StrsAre rs (ls.map fun l => ⟨l.toArray⟩) := by
  induction R with
  | nil => intro ls e; simp [strsOf] at e; subst e; exact .nil
  | @cons v r vs rs hv _ ih =>
    intro ls e
    cases v <;> simp [strsOf] at e
    obtain ⟨ls', e1, rfl⟩ := e
    cases hv
    exact .cons _ _ (ih e1)
theorem any_contains (a : List Nat) (ls : List (List Nat)) : ((ls.map fun l => (⟨l.toArray⟩ : Str)).any fun x => x == ⟨a.toArray⟩) = ls.contains a := by
  induction ls with
  | nil => rfl
  | cons b ls ih =>
    simp only [List.map_cons, List.any_cons, ih, List.contains_cons, str_beq]
    rw [show (b == a) = (a == b) from Bool.eq_iff_iff.mpr ⟨fun h => by rw [eq_of_beq h]; simp, fun h => by rw [eq_of_beq h]; simp⟩]
end
end Mine

end
section
open PySem PySem.W PyProof.Rows PySem.Calls
set_option maxRecDepth 10000
namespace Mine

section
variable {P : PW} {K : Frag} {T : Tab} {sc : Scope} {cx : Cx} {d : Nat} {ρ : Loc} {H : MHeap} {cs : List Cell} {fz : List (Addr × Obj)} {s : Shared} {A : Around} {E : Value → Shared → Prop}

theorem eqV_at {ad : List Addr} {a c : MVal} {ra rc : Value} (ha : VRel ad a ra) (hc : VRel ad c rc) {b : Bool} (e : eqV a c = some b) (A : Around) (s : Shared) : SeqAt.EqAt A s ra rc b := by
  cases ha with
  | int x t => cases hc with
    | int y u => cases e; exact SeqAt.EqAt.int_int _ _ _ _
    | _ => cases e
  | str x t => cases hc with
    | str y u =>
      cases e
      have := SeqAt.EqAt.str_str (A := A) (s := s) ⟨x.toArray⟩ t ⟨y.toArray⟩ u
      rw [str_beq] at this
      exact this
    | _ => cases e
  | _ => cases e

theorem tupEq_at (S : At P sc cx ρ H cs fz s.heap) {i j : Nat} {ri rj : Value} (hi : VRel (ads cs) (.ref i) ri) (hj : VRel (ads cs) (.ref j) rj) {b : Bool} (e : tupEq i j H = some b) :
    ∃ (x y : Addr) (its its2 : Array Value) (f : Nat → Bool), ri = .ref x ∧ rj = .ref y ∧ s.heap.IsTuple x its ∧ s.heap.IsTuple y its2 ∧ (∀ (A : Around) (k : Nat) (h1 : k < its.size) (h2 : k < its2.size), SeqAt.EqAt A s its[k] its2[k] (f k)) ∧
      ((List.range (min its.size its2.size)).all f && its.size == its2.size) = b := by
  refine bindE e fun x0 e1 g1 => ?_
  refine bindE g1 fun y0 e2 g2 => ?_
  refine bindE g2 fun xs e3 g3 => ?_
  refine bindE g3 fun ys e4 g4 => ?_
  refine bindE2 g4 fun a b' e5 g5 => ?_
  refine bindE2 g5 fun c' d' e6 g6 => ?_
  refine bindE g6 fun p hp g7 => ?_
  refine mapE g7 fun q hq g8 => ?_
  cases x0 with
  | tup xs0 => cases y0 with
    | tup ys0 =>
      cases e3
      cases e4
      have := two_ok e5; subst this
      have := two_ok e6; subst this
      subst g8
      obtain ⟨x, rs, rfl, ht, R⟩ := tup_at S e1 hi
      obtain ⟨y, rs', rfl, ht', R'⟩ := tup_at S e2 hj
      cases R with
      | @cons _ v1 _ _ a1 R => cases R with
        | @cons _ v2 _ _ a2 R => cases R with
          | nil => cases R' with
            | @cons _ w1 _ _ b1 R' => cases R' with
              | @cons _ w2 _ _ b2 R' => cases R' with
                | nil =>
                  refine ⟨x, y, _, _, fun k => if k = 0 then p else q, rfl, rfl, ht, ht', ?_, ?_⟩
                  · intro A k h1 h2
                    match k, h1, h2 with
                    | 0, _, _ => exact eqV_at a1 b1 hp A s
                    | 1, _, _ => exact eqV_at a2 b2 hq A s
                    | k + 2, h1, _ => exact absurd h1 (by simp)
                  · simp [List.range_succ]
    | _ => cases e4
  | _ => cases e3

theorem inRef_ok (S : At P sc cx ρ H cs fz s.heap) {v : MVal} {i : Nat} {rv ri : Value} (hv : VRel (ads cs) v rv) (hi : VRel (ads cs) (.ref i) ri) {b : Bool} (e : inRef v i H = some b)
    {Q : Value → Shared → Prop} (h : ∀ tk, Q (.bool b) { s with toks := tk }) : wpAny (model P.1 P.2) A (compareOp .In rv ri) Q E s := by
  refine bindE e fun x hx e => ?_
  cases x with
  | tup xs =>
    refine bindE e fun a ha e => ?_
    refine mapE e fun ls hl zq => ?_
    subst zq
    obtain ⟨x, rs, rfl, it, R⟩ := tup_at S hx hi
    cases hv with
    | str l t =>
      cases ha
      refine in_tuple_strs it (by simpa using strs_are R hl) ?_
      rw [any_contains]
      exact h s.toks
    | _ => cases ha
  | dict es =>
    have e : (if okKey v es then some (dlk v es).isSome else none) = some b := e
    cases ok : okKey v es with
    | true =>
      rw [ok] at e
      cases e
      exact in_dict S hx hi hv ok h
    | false => rw [ok] at e; cases e
  | _ => cases e

theorem notin_of_in {rv ri : Value} {Q : Value → Shared → Prop} {M : Model} (h : wpAny M A (compareOp .In rv ri) (fun v s' => ∃ b, v = .bool b ∧ Q (.bool (!b)) s') E s) : wpAny M A (compareOp .NotIn rv ri) Q E s := by
  have e1 : compareOp .In rv ri = (contains ri rv >>= fun b => pure (.bool b)) := rfl
  have e2 : compareOp .NotIn rv ri = (contains ri rv >>= fun b => pure (.bool (!b))) := rfl
  rw [e2]
  rw [e1] at h
  intro Γ p hΓ
  have h' := h Γ p hΓ
  rw [Sem.wp_bind'] at h' ⊢
  refine Sem.wp_mono M Γ _ (fun b p' s' hb => ?_) (fun _ _ _ h' => h') p s h'
  obtain ⟨c, e, q⟩ := hb
  cases e
  exact q

theorem eq_inv {v u : MVal} {H : MHeap} {t : Bool} (e : cmpop .eq v u H = some t) : (∃ a b, v = .int a ∧ u = .int b ∧ (a == b) = t) ∨ (∃ a b, v = .str a ∧ u = .str b ∧ (a == b) = t) ∨ (∃ i j, v = .ref i ∧ u = .ref j ∧ tupEq i j H = some t) := by
  cases v with
  | int a =>
    refine mapE e fun b hb zq => ?_
    subst zq
    have := intV_ok hb; subst this
    exact .inl ⟨a, b, rfl, rfl, rfl⟩
  | str a =>
    refine mapE e fun b hb zq => ?_
    subst zq
    have := strV_ok hb; subst this
    exact .inr (.inl ⟨a, b, rfl, rfl, rfl⟩)
  | ref a =>
    refine bindE e fun b hb e => ?_
    have := refV_ok hb; subst this
    exact .inr (.inr ⟨a, b, rfl, rfl, e⟩)
  | _ => cases e
theorem ne_inv {v u : MVal} {H : MHeap} {t : Bool} (e : cmpop .ne v u H = some t) : (∃ a b, v = .int a ∧ u = .int b ∧ (!(a == b)) = t) ∨ (∃ a b, v = .str a ∧ u = .str b ∧ (!(a == b)) = t) ∨ (∃ i j t', v = .ref i ∧ u = .ref j ∧ tupEq i j H = some t' ∧ (!t') = t) := by
  cases v with
  | int a =>
    refine mapE e fun b hb zq => ?_
    subst zq
    have := intV_ok hb; subst this
    exact .inl ⟨a, b, rfl, rfl, rfl⟩
  | str a =>
    refine mapE e fun b hb zq => ?_
    subst zq
    have := strV_ok hb; subst this
    exact .inr (.inl ⟨a, b, rfl, rfl, rfl⟩)
  | ref a =>
    refine bindE e fun b hb e => ?_
    have := refV_ok hb; subst this
    refine mapE e fun t' e1 e2 => ?_
    exact .inr (.inr ⟨a, b, t', rfl, rfl, e1, e2⟩)
  | _ => cases e
theorem lt_inv {v u : MVal} {H : MHeap} {t : Bool} (e : cmpop .lt v u H = some t) : (∃ a b, v = .int a ∧ u = .int b ∧ decide (a < b) = t) ∨ (∃ a b, v = .str a ∧ u = .str b ∧ ltL a b = t) := by
  cases v with
  | int a =>
    refine mapE e fun b hb zq => ?_
    subst zq
    have := intV_ok hb; subst this
    exact .inl ⟨a, b, rfl, rfl, rfl⟩
  | str a =>
    refine mapE e fun b hb zq => ?_
    subst zq
    have := strV_ok hb; subst this
    exact .inr ⟨a, b, rfl, rfl, rfl⟩
  | _ => cases e
theorem le_inv {v u : MVal} {H : MHeap} {t : Bool} (e : cmpop .le v u H = some t) : (∃ a b, v = .int a ∧ u = .int b ∧ decide (a ≤ b) = t) ∨ (∃ a b, v = .str a ∧ u = .str b ∧ (!(ltL b a)) = t) := by
  cases v with
  | int a =>
    refine mapE e fun b hb zq => ?_
    subst zq
    have := intV_ok hb; subst this
    exact .inl ⟨a, b, rfl, rfl, rfl⟩
  | str a =>
    refine mapE e fun b hb zq => ?_
    subst zq
    have := strV_ok hb; subst this
    exact .inr ⟨a, b, rfl, rfl, rfl⟩
  | _ => cases e
theorem in_inv {v u : MVal} {H : MHeap} {t : Bool} (e : cmpop .in_ v u H = some t) : (∃ c b, v = .str [c] ∧ u = .str b ∧ b.contains c = t) ∨ (∃ i, u = .ref i ∧ inRef v i H = some t) := by
  cases u with
  | str b =>
    refine bindE e fun l hl g => ?_
    refine mapE g fun c hc zq => ?_
    subst zq
    have := strV_ok hl; subst this
    have := one_ok hc; subst this
    exact .inl ⟨c, b, rfl, rfl, rfl⟩
  | ref i => exact .inr ⟨i, rfl, e⟩
  | _ => cases e
theorem cmpop_ok (S : At P sc cx ρ H cs fz s.heap) (hu : A.units < 9800) {op : COp} {v u : MVal} {rv ru : Value} (hv : VRel (ads cs) v rv) (hw : VRel (ads cs) u ru) {b : Bool} (e : cmpop op v u H = some b)
    {o : CmpOp} (ho : erCmp o = some op)
    {Q : Value → Shared → Prop} (h : ∀ tk, Q (.bool b) { s with toks := tk }) : wpAny (model P.1 P.2) A (compareOp o rv ru) Q E s := by
  have hu' : A.units < cLine := by have := cLine_is; omega
  cases o with
  | Eq =>
    cases ho
    rcases eq_inv e with ⟨a, c, rfl, rfl, rfl⟩ | ⟨a, c, rfl, rfl, rfl⟩ | ⟨a, c, rfl, rfl, e2⟩
    · cases hv; cases hw; exact eq_int (h s.toks)
    · cases hv; cases hw; refine eq_str ?_; rw [str_beq]; exact h s.toks
    · obtain ⟨x, y, its, its2, f, rfl, rfl, h1, h2, h3, rfl⟩ := tupEq_at S hv hw e2
      exact SeqAt.RcAt.tuples h1 h2 hu' (fun j a b => h3 _ j a b) _ _ E Q (h s.toks)
  | NotEq =>
    cases ho
    rcases ne_inv e with ⟨a, c, rfl, rfl, rfl⟩ | ⟨a, c, rfl, rfl, rfl⟩ | ⟨a, c, b', rfl, rfl, e2, rfl⟩
    · cases hv; cases hw; exact PyProof.Rows.ne_int (h s.toks)
    · cases hv; cases hw; refine ne_str ?_; show Q (.bool (!(_ == _))) s; rw [str_beq]; exact h s.toks
    · obtain ⟨x, y, its, its2, f, rfl, rfl, h1, h2, h3, rfl⟩ := tupEq_at S hv hw e2
      exact SeqAt.RcNeAt.tuples h1 h2 hu' (fun j a b => h3 _ j a b) _ _ E Q (h s.toks)
  | Lt =>
    cases ho
    rcases lt_inv e with ⟨a, c, rfl, rfl, rfl⟩ | ⟨a, c, rfl, rfl, rfl⟩
    · cases hv; cases hw; exact PyProof.Rows.lt_int (h s.toks)
    · cases hv; cases hw
      refine lt_str ?_
      have := h s.toks
      rw [ltL_iff] at this; exact this
  | LtE =>
    cases ho
    rcases le_inv e with ⟨a, c, rfl, rfl, rfl⟩ | ⟨a, c, rfl, rfl, rfl⟩
    · cases hv; cases hw; exact PyProof.Rows.le_int (h s.toks)
    · cases hv; cases hw
      refine PySem.P.le_str ?_
      have := h s.toks
      rw [ltL_iff] at this; exact this
  | Gt =>
    cases ho
    refine bindE e fun a ha g => ?_
    refine mapE g fun c hc zq => ?_
    subst zq
    have := intV_ok ha; subst this
    have := intV_ok hc; subst this
    cases hv; cases hw; exact PyProof.Rows.gt_int (h s.toks)
  | GtE =>
    cases ho
    refine bindE e fun a ha g => ?_
    refine mapE g fun c hc zq => ?_
    subst zq
    have := intV_ok ha; subst this
    have := intV_ok hc; subst this
    cases hv; cases hw; exact PyProof.Rows.ge_int (h s.toks)
  | In =>
    cases ho
    rcases in_inv e with ⟨c, b', rfl, rfl, rfl⟩ | ⟨i, rfl, e⟩
    · cases hv; cases hw
      refine in_str ?_
      rw [StrLaws.found_one]
      have e : decide (c ∈ (⟨b'.toArray⟩ : Str).cps.toList) = b'.contains c := by simp
      rw [e]; exact h s.toks
    · exact inRef_ok S hv hw e h
  | NotIn =>
    cases ho
    refine bindE e fun i hi g => ?_
    refine mapE g fun b' e' zq => ?_
    subst zq
    have := refV_ok hi; subst this
    exact notin_of_in (inRef_ok S hv hw e' fun tk => ⟨b', rfl, h tk⟩)
  | _ => cases ho

theorem eqNil_ok (S : At P sc cx ρ H cs fz s.heap) (hu : A.units < 9800) {i : Nat} {ri : Value} {xs : List MVal} (hx : H[i]? = some (.list xs)) (hi : VRel (ads cs) (.ref i) ri) (n : Bool) {b : Addr} (hb : s.heap.IsList b #[])
    {Q : Value → Shared → Prop} (h : ∀ tk, Q (.bool (n != xs.isEmpty)) { s with toks := tk }) : wpAny (model P.1 P.2) A (compareOp (if n then .NotEq else .Eq) ri (.ref b)) Q E s := by
  have hu' : A.units < cLine := by have := cLine_is; omega
  obtain ⟨a, o, rs, rfl, hc, hl, R⟩ := list_at S hx hi
  have hlen := R.length
  cases xs with
  | nil =>
    have e0 : rs = [] := List.length_eq_zero_iff.mp hlen
    subst e0
    cases n with
    | false => exact SeqAt.RcAt.lists (e := fun _ => true) hl hb (by simp) hu' (fun j h1 => by simp at h1) _ _ E Q (h s.toks)
    | true => exact SeqAt.RcNeAt.lists (e := fun _ => true) hl hb (by simp) hu' (fun j h1 => by simp at h1) _ _ E Q (h s.toks)
  | cons x xs =>
    have hne : (rs.toArray.size != (#[] : Array Value).size) = true := by simp; intro q; rw [q] at hlen; simp at hlen
    cases n with
    | false => exact SeqAt.RcAt.lists_lengths hl hb hne hu' _ _ E Q (h s.toks)
    | true => exact SeqAt.RcNeAt.lists_lengths hl hb hne hu' _ _ E Q (h s.toks)
end
end Mine

end
section
open PySem PySem.W PyProof.Rows PySem.Calls
set_option maxRecDepth 10000
namespace Mine

inductive FlRel (ad : List Addr) : MF → Flow → Prop
  | next : FlRel ad .next .next
  | brk : FlRel ad .brk .brk
  | cont : FlRel ad .cont .cont
  | ret {v : MVal} {r : Value} : VRel ad v r → FlRel ad (.ret v) (.ret r)

noncomputable def XV (P : PW) (sc : Scope) (cx : Cx) (ρ : Loc) (H : MHeap) (t : Sem Flow) (o : MF) (ρ' : Loc) (H' : MHeap) : Prop :=
  ∀ (cs : List Cell) (fz : List (Addr × Obj)) (s : Shared) (Q : Flow → Shared → Prop), At P sc cx ρ H cs fz s.heap →
    (∀ cs' h' tk f, Pre (ads cs) (ads cs') → At P sc cx ρ' H' cs' fz h' → FlRel (ads cs') o f → Q f { s with heap := h', toks := tk }) →
    wpAny (model P.1 P.2) cx.A t Q (fun _ _ => False) s

inductive NmRel : List Str → List Nat → Prop
  | nil : NmRel [] []
  | cons {x : Str} {n : Nat} {xs ns} : nm x = some n → NmRel xs ns → NmRel (x :: xs) (n :: ns)

/-- a def of the text's top, and what the table says of it -/
structure FnOk (K : Frag) (a : Addr) (I : FnI) : Prop where
  is : ∃ (qual name : Str) (params : Arguments) (body : List Stmt) (scope : Scope) (dV kV doc pm cdv ct oc : Value) (an od : Option Addr) (osl : Array (Option Value)) (ns : List Str) (dvals : List Value) (k : Nat),
    K.lookup a = some ⟨oc, od, .func (fnOf name qual params body scope dV kV doc pm an cdv ct), osl⟩ ∧ codeIn K cdv qual = true ∧
    scope.kind = .function ∧ scope.isCoroutine = false ∧ scope.isGenerator = false ∧ (∀ x ∈ scope.names, x.2 ≠ .cell) ∧
    NmRel ns I.params ∧ ns.Nodup ∧ (∀ x ∈ ns, scope.names.lookup x = some .local) ∧ VsRel [] I.dflts dvals ∧
    (∀ (s : Shared) (args : List Value), K.In s.heap → args.length ≤ ns.length → ns.length ≤ args.length + dvals.length →
      BindsTo s (fnOf name qual params body scope dV kV doc pm an cdv ct) ⟨args, []⟩ (ns.zip (args ++ dvals.drop (dvals.length - (ns.length - args.length))))) ∧
    k ≤ 1000 ∧ erSs scope k body = some I.body

/-- the Around at a call from a frame: the frame's own, or a class's maker's -/
structure Near (A' A : Around) : Prop where
  frames : A'.frames = A.frames
  handled : A'.handled = A.handled
  depth : A'.depth ≤ A.depth + 4
  units : A'.units ≤ A.units + 8

section
variable (P : PW) (K : Frag) (T : Tab) (W : Nat) (p : Program) (loose : List Str) (mean : ExcName → Option Value) (mg mb : Str → Option Value)

noncomputable def CallSnd (C : CallF) (d : Nat) : Prop :=
  ∀ (sc : Scope) (cx : Cx) (ρ : Loc) (A' : Around), Ok K p loose mean mg mb sc cx d → Near A' cx.A → ∀ (f : Nat) (args : List MVal) (H : MHeap) (v : MVal) (H' : MHeap), C f args H = some (v, H') →
    ∀ (cs : List Cell) (fz : List (Addr × Obj)) (s : Shared) (rargs : List Value) (R : Result → Shared → Prop), At P sc cx ρ H cs fz s.heap → VsRel (ads cs) args rargs →
      (∀ cs' h' tk r, Pre (ads cs) (ads cs') → At P sc cx ρ H' cs' fz h' → VRel (ads cs') v r → R (.ok (.ret r)) { s with heap := h', toks := tk }) →
      codeAny (model P.1 P.2) A' (.call (.ref f) ⟨rargs, []⟩) R s

noncomputable def ExSnd (C : CallF) (d : Nat) : Prop :=
  ∀ (sc : Scope) (cx : Cx) (ρ : Loc), Ok K p loose mean mg mb sc cx d → ∀ (k : Nat), k ≤ 1000 → ∀ (body : List Stmt) (mb' : MSs), erSs sc k body = some mb' → ∀ (H : MHeap) (o : MF) (ρ' : Loc) (H' : MHeap), exSs T C W mb' ρ H = some (o, ρ', H') →
    XV P sc cx ρ H (execs body cx.env) o ρ' H'
end

theorem zip_fst_sub {α β : Type} : ∀ (xs : List α) (ys : List β), List.Sublist ((xs.zip ys).map (·.1)) xs
  | [], _ => by simp
  | x :: xs, [] => by simp
  | x :: xs, y :: ys => by simp only [List.zip_cons_cons, List.map_cons]; exact (zip_fst_sub xs ys).cons₂ x
theorem lookup_rev {l : List (Str × Value)} (nd : (l.map (·.1)).Nodup) (x : Str) : l.reverse.lookup x = l.lookup x := by
  induction l with
  | nil => rfl
  | cons q l ih =>
    obtain ⟨y, v⟩ := q
    simp only [List.map_cons, List.nodup_cons] at nd
    rw [List.reverse_cons, List.lookup_append, ih nd.2, List.lookup_cons]
    cases e : x == y with
    | true =>
      have e' : x = y := beq_iff_eq.mp e
      subst e'
      have : l.lookup x = none := by
        rw [List.lookup_eq_none_iff]
        intro p hp
        simp only [bne_iff_ne, ne_eq]
        intro z
        exact nd.1 (List.mem_map.mpr ⟨p, hp, z.symm⟩)
      rw [this]
      simp [List.lookup_cons]
    | false =>
      simp [List.lookup_cons, e]

theorem zip_rel {ad : List Addr} {xs : List Str} {ns : List Nat} (N : NmRel xs ns) : ∀ {vs : List MVal} {rs : List Value}, VsRel ad vs rs → ∀ {x : Str} {n : Nat} {v : MVal}, nm x = some n → lk n (ns.zip vs) = some v → x ∈ xs ∧ ∃ r, (xs.zip rs).lookup x = some r ∧ VRel ad v r := by
  induction N with
  | nil => intro vs rs R x n v hx hv; simp [lk] at hv
  | @cons y m xs ns hy N ih =>
    intro vs rs R x n v hx hv
    cases R with
    | nil => simp [lk] at hv
    | @cons u r vs rs hu R =>
      simp only [List.zip_cons_cons, lk] at hv ⊢
      by_cases q : n = m
      · subst q
        have e : x = y := nm_inj hx hy
        subst e
        simp only [Nat.beq_refl, if_true, Option.some.injEq] at hv
        subst hv
        exact ⟨.head _, r, by simp [List.lookup_cons], hu⟩
      · have hb : Nat.beq n m = false := by
          cases hq : Nat.beq n m with
          | false => rfl
          | true => exact absurd (Nat.eq_of_beq_eq_true hq) q
        have hne : (x == y) = false := by
          cases hq : x == y with
          | false => rfl
          | true => exact absurd (Option.some.inj (hx.symm.trans (beq_iff_eq.mp hq ▸ hy))) q
        simp only [hb, Bool.false_eq_true, if_false] at hv
        obtain ⟨h1, r', h2, h3⟩ := ih R hx hv
        exact ⟨.tail _ h1, r', by rw [List.lookup_cons, hne]; exact h2, h3⟩

section
variable {P : PW} {K : Frag} {T : Tab} {W : Nat} {p : Program} {loose : List Str} {mean : ExcName → Option Value} {mg mb : Str → Option Value}

theorem NmRel.len {xs ns} (h : NmRel xs ns) : xs.length = ns.length := by
  induction h with
  | nil => rfl
  | cons _ _ ih => simp [ih]

theorem call_of_exec (fn : ∀ a I, T.fn a = some I → FnOk K a I) {d : Nat} (ih : ExSnd P K T W p loose mean mg mb (callF T W d) d) : CallSnd P K p loose mean mg mb (callF T W (d + 1)) (d + 1) := by
  intro sc cx ρ A' O Nr f args H v H' e cs fz s rargs R S hargs hR
  refine bindE e fun I hI e => ?_
  refine bindE e fun ρ₁ hρ e => ?_
  obtain ⟨⟨fl, ρ₂, H₁⟩, hb, ho⟩ := Option.bind_eq_some_iff.mp e
  obtain ⟨qual, name, params, body, scope, dV, kV, doc, pm, cdv, ct, oc, an, od, osl, ns, dvals, k, hl, hc, hk, hco, hgen, hcell, hnm, hnd, hloc, hd, hbind, hk1, her⟩ := (fn f I hI).is
  obtain ⟨m, F, lo⟩ := S.fr
  have hlen : rargs.length = args.length := hargs.length
  have hdl : dvals.length = I.dflts.length := hd.length
  have hns : ns.length = I.params.length := hnm.len
  unfold bindP at hρ
  by_cases hz : args.length ≤ I.params.length ∧ I.params.length ≤ args.length + I.dflts.length
  · rw [if_pos hz] at hρ
    have hρ' := Option.some.inj hρ
    subst hρ'
    have hvs : VsRel (ads cs) (args ++ I.dflts.drop (I.dflts.length - (I.params.length - args.length))) (rargs ++ dvals.drop (dvals.length - (ns.length - rargs.length))) := by
      rw [hlen, hdl, hns]
      exact hargs.append ((hd.mono (fun i a h => by simp at h)).drop _)
    have hbl : ((ns.zip (rargs ++ dvals.drop (dvals.length - (ns.length - rargs.length)))).map (·.1)).Nodup := by
      refine (List.Sublist.nodup ?_ hnd)
      exact zip_fst_sub _ _
    refine code_def O.below F O.inK S.nw O.top (by rw [Nr.frames]; exact O.frames) O.frame O.fkind hl hc (by have := Nr.depth; have := O.depth; show _ < 1000; omega) (hbind s rargs (O.inK.keeps F.keep) (by omega) (by omega)) ?_ ?_ hco hgen hk hcell
    · intro y hy
      exact hloc y.1 (List.of_mem_zip hy).1
    · intro g L' h₁ FG F' N' B' X' T'
      have cx' : Cx := ⟨A'.deeper (envOf qual scope L' f cdv), envOf qual scope L' f cdv, envOf qual scope L' f cdv, g, cx.base, A', cx.fenv :: cx.outer, L', scope⟩
      have O' : Ok K p loose mean mg mb scope ⟨A'.deeper (envOf qual scope L' f cdv), envOf qual scope L' f cdv, envOf qual scope L' f cdv, g, cx.base, A', cx.fenv :: cx.outer, L', scope⟩ d :=
        { below := B'
          inK := X'
          top := T'
          frames := by show A'.frames.map _ = _; rw [Nr.frames, O.frames]; rfl
          frame := rfl
          fkind := hk
          kind := hk
          globals := rfl
          builtins := rfl
          handled := by show A'.handled = none; rw [Nr.handled]; exact O.handled
          depth := by have h1 := Nr.depth; have h2 := O.depth; show (A'.deeper _).depth + 8 * d ≤ 800; rw [depth_deeper]; omega
          units := by have h1 := Nr.units; have h2 := O.units; show (A'.deeper _).units + 16 * d ≤ 9000; rw [units_deeper]; omega
          names := fun x k h => h
          loc := fun x _ => rfl
          locF := fun x h => h
          cell := fun x h => ⟨h, rfl⟩ }
      have S' : At P scope ⟨A'.deeper (envOf qual scope L' f cdv), envOf qual scope L' f cdv, envOf qual scope L' f cdv, g, cx.base, A', cx.fenv :: cx.outer, L', scope⟩ (I.params.zip (args ++ I.dflts.drop (I.dflts.length - (I.params.length - args.length)))) H cs fz h₁ := by
        refine ⟨⟨_, F', ?_⟩, N', S.nd, S.rel⟩
        intro x n v hx hv
        obtain ⟨h1, r, h2, h3⟩ := zip_rel hnm hvs hx hv
        refine ⟨fun _ => ⟨r, ?_, h3⟩, fun q => ?_⟩
        · show List.lookup x (List.reverse _) = some r
          rw [lookup_rev hbl]; exact h2
        · rw [hloc x h1] at q
          rcases q with q | q <;> cases q
      refine wpAny_mono (ih scope _ _ O' k hk1 body I.body her H fl ρ₂ H₁ hb cs fz { s with heap := h₁, toks := s.toks + (ns.zip (rargs ++ dvals.drop (dvals.length - (ns.length - rargs.length)))).length } (fun fl' s' => LeaveK cx.h₀ cx.L m g R (match fl' with | .ret v => v | _ => .none) s') S' ?_) (fun _ _ x => x) fun _ _ x => x.elim
      intro cs' h' tk f' pre S'' hf
      obtain ⟨m', F'', _⟩ := S''.fr
      have ho' : ∃ u, outV fl = some u ∧ (u, H₁) = (v, H') := by
        rw [Option.map_eq_some_iff] at ho; exact ho
      obtain ⟨u, hu, huv⟩ := ho'
      cases huv
      refine leaveK_ (m' := m') F'' S''.nw fun F₃ N₃ => ?_
      refine hR cs' h' tk _ pre ⟨⟨m, F₃, lo.mono pre⟩, N₃, S''.nd, S''.rel⟩ ?_
      cases hf with
      | next => simp [outV] at hu; subst hu; exact .none
      | brk => simp [outV] at hu
      | cont => simp [outV] at hu
      | ret hr => simp [outV] at hu; subst hu; exact hr
  · rw [if_neg hz] at hρ; cases hρ
end
end Mine

end
section
open PySem PySem.W PyProof.Rows PySem.Calls
set_option maxRecDepth 10000
namespace Mine

section
variable {sc : Scope}

theorem star_rfl {k : Nat} {e : Expr} {m : ME} (h : er sc k e = some m) (r : List Expr) (env : Env) : starEach (e :: r) env = (false, eval e env) :: starEach r env := by
  cases k with
  | zero => cases h
  | succ k => cases e <;> first | rfl | (cases h)
theorem not_set {k : Nat} {e : Expr} {m : ME} (h : er sc k e = some m) (op : CmpOp) : behindInMarks op e = false := by
  cases k with
  | zero => cases h
  | succ k => cases e <;> first | rfl | (cases h)
theorem not_comp {k : Nat} {e : Expr} {m : ME} (h : er sc k e = some m) (t : Option Expr) (n : Nat) (env : Env) : swapsWith e t n env = pure false := by
  cases k with
  | zero => cases h
  | succ k => cases e <;> first | rfl | (cases h)
theorem not_fold {k : Nat} {e : Expr} {m : ME} (h : er sc k e = some m) (env : Env) (x : Value) : foldedSetIterable e env x = pure x := by
  cases k with
  | zero => cases h
  | succ k => cases e <;> first | rfl | (cases h)
theorem ers_cons {k : Nat} {e : Expr} {r : List Expr} {ms : MEs} (h : ers sc k (e :: r) = some ms) : ∃ k' m ms', k = k' + 1 ∧ er sc k' e = some m ∧ ers sc k' r = some ms' ∧ ms = .cons m ms' := by
  cases k with
  | zero => cases h
  | succ k =>
    refine bindE h fun m h1 h => ?_
    refine mapE h fun n h2 zq => ?_
    subst zq
    exact ⟨k, m, n, rfl, h1, h2, rfl⟩
theorem ers_nil {k : Nat} {ms : MEs} (h : ers sc k [] = some ms) : ms = .nil := by
  cases k with
  | zero => cases h
  | succ k => cases h; rfl
theorem ers_plain : ∀ {es : List Expr} {k : Nat} {ms : MEs}, ers sc k es = some ms → ∀ (env : Env) (pos : Pos), (backTo pos (starEach es env)).any (·.1) = false
  | [], _, _, _, _, _ => rfl
  | e :: r, k, ms, h, env, pos => by
    obtain ⟨k', m, ms', rfl, h1, h2, rfl⟩ := ers_cons h
    rw [star_rfl h1]
    show (false || (backTo pos (starEach r env)).any (·.1)) = false
    rw [ers_plain h2]; rfl
theorem ers_all {es : List Expr} {k : Nat} {ms : MEs} (h : ers sc k es = some ms) (env : Env) (pos : Pos) : (backTo pos (starEach es env)).all (!·.1) = true := by
  have := ers_plain h env pos
  rw [List.all_eq_not_any_not]
  simp only [Bool.not_not]
  rw [this]; rfl
theorem not_super {e : Expr} (h : notSuper e = true) (a : Str) (env : Env) (whole : Sem Value) : attributeBase e a env whole = whole := by
  cases e with
  | Call f as ks q =>
    cases f with
    | Name x xp =>
      cases as with
      | nil =>
        cases ks with
        | nil => cases h
        | cons _ _ => rfl
      | cons _ _ => rfl
    | _ => rfl
  | _ => rfl
end

section
variable {P : PW} {K : Frag} {T : Tab} {W : Nat} {p : Program} {loose : List Str} {mean : ExcName → Option Value} {mg mb : Str → Option Value} {sc : Scope} {cx : Cx} {d : Nat} {ρ : Loc} {C : CallF}

noncomputable def SE (P : PW) (T : Tab) (C : CallF) (sc : Scope) (cx : Cx) (ρ : Loc) (k : Nat) : Prop := ∀ e m, er sc k e = some m → ∀ H v H', evE T C ρ m H = some (v, H') → EV P sc cx ρ H (eval e cx.env) (fun ad r => VRel ad v r) H'
noncomputable def ST (P : PW) (T : Tab) (C : CallF) (sc : Scope) (cx : Cx) (ρ : Loc) (k : Nat) : Prop := ∀ e m, er sc k e = some m → ∀ H b H', evT T C ρ m H = some (b, H') → EV P sc cx ρ H (isTrue e cx.env (eval e cx.env)) (fun _ r => r = b) H'
noncomputable def SL (P : PW) (T : Tab) (C : CallF) (sc : Scope) (cx : Cx) (ρ : Loc) (k : Nat) : Prop := ∀ es ms, ers sc k es = some ms → ∀ H vs H', evEs T C ρ ms H = some (vs, H') → ∀ pos, EV P sc cx ρ H (spliced (backTo pos (starEach es cx.env))) (fun ad rs => VsRel ad vs rs) H'
noncomputable def SAnd (P : PW) (T : Tab) (C : CallF) (sc : Scope) (cx : Cx) (ρ : Loc) (k : Nat) : Prop := ∀ es ms, ers sc k es = some ms → ∀ H v H', evAnd T C ρ ms H = some (v, H') → ∀ pos, EV P sc cx ρ H (eval (.BoolOp .And es pos) cx.env) (fun ad r => VRel ad v r) H'
noncomputable def SOr (P : PW) (T : Tab) (C : CallF) (sc : Scope) (cx : Cx) (ρ : Loc) (k : Nat) : Prop := ∀ es ms, ers sc k es = some ms → ∀ H v H', evOr T C ρ ms H = some (v, H') → ∀ pos, EV P sc cx ρ H (eval (.BoolOp .Or es pos) cx.env) (fun ad r => VRel ad v r) H'
noncomputable def SAll (P : PW) (T : Tab) (C : CallF) (sc : Scope) (cx : Cx) (ρ : Loc) (k : Nat) : Prop := ∀ es ms, ers sc k es = some ms → ∀ H b H', evAll T C ρ ms H = some (b, H') → ∀ pos whole, EV P sc cx ρ H (isTrue (.BoolOp .And es pos) cx.env whole) (fun _ r => r = b) H'
noncomputable def SAny (P : PW) (T : Tab) (C : CallF) (sc : Scope) (cx : Cx) (ρ : Loc) (k : Nat) : Prop := ∀ es ms, ers sc k es = some ms → ∀ H b H', evAny T C ρ ms H = some (b, H') → ∀ pos whole, EV P sc cx ρ H (isTrue (.BoolOp .Or es pos) cx.env whole) (fun _ r => r = b) H'
structure All (P : PW) (T : Tab) (C : CallF) (sc : Scope) (cx : Cx) (ρ : Loc) (k : Nat) : Prop where
  e : SE P T C sc cx ρ k
  t : ST P T C sc cx ρ k
  l : SL P T C sc cx ρ k
  a : SAnd P T C sc cx ρ k
  o : SOr P T C sc cx ρ k
  al : SAll P T C sc cx ρ k
  an : SAny P T C sc cx ρ k

theorem EV.pure_val {H : MHeap} {t : Sem Value} {v : MVal} (h : ∀ (s : Shared) (Q : Value → Shared → Prop), (∀ tk r, (∀ ad, VRel ad v r) → Q r { s with toks := tk }) → wpAny (model P.1 P.2) cx.A t Q (fun _ _ => False) s) :
    EV P sc cx ρ H t (fun ad r => VRel ad v r) H := fun cs fz s Q S hQ => h s Q fun tk r hr => hQ cs s.heap tk r (Pre.refl _) S (hr _)

theorem se_const {c : Const} {n : Nat} {pos : Pos} {m : ME} (he : erC c = some m) {H : MHeap} {v : MVal} {H' : MHeap} (hev : evE T C ρ m H = some (v, H')) : EV P sc cx ρ H (eval (.Constant c n pos) cx.env) (fun ad r => VRel ad v r) H' := by
  cases c <;> simp [erC] at he
  · subst he; simp [evE_none, evE_bool, evE_int, evE_str, evE_loc, evE_cel, evE_glob, evE_attr, evE_idx, evE_slc, evE_bin, evE_neg, evE_not, evE_and, evE_or, evE_cmp, evE_inT, evE_eqNil, evE_isN, evE_ite, evE_call, evE_bi, evE_meth, evE_list, evE_tup, evE_dict0] at hev; obtain ⟨rfl, rfl⟩ := hev
    exact .pure_val fun s Q h => Constant_none (h s.toks _ fun _ => .none)
  · subst he; simp [evE_none, evE_bool, evE_int, evE_str, evE_loc, evE_cel, evE_glob, evE_attr, evE_idx, evE_slc, evE_bin, evE_neg, evE_not, evE_and, evE_or, evE_cmp, evE_inT, evE_eqNil, evE_isN, evE_ite, evE_call, evE_bi, evE_meth, evE_list, evE_tup, evE_dict0] at hev; obtain ⟨rfl, rfl⟩ := hev
    exact .pure_val fun s Q h => Constant_bool (h s.toks _ fun _ => .bool _)
  · subst he; simp [evE_none, evE_bool, evE_int, evE_str, evE_loc, evE_cel, evE_glob, evE_attr, evE_idx, evE_slc, evE_bin, evE_neg, evE_not, evE_and, evE_or, evE_cmp, evE_inT, evE_eqNil, evE_isN, evE_ite, evE_call, evE_bi, evE_meth, evE_list, evE_tup, evE_dict0] at hev; obtain ⟨rfl, rfl⟩ := hev
    exact .pure_val fun s Q h => wpAny_Constant_int (h _ _ fun _ => .int _ _)
  · subst he; simp [evE_none, evE_bool, evE_int, evE_str, evE_loc, evE_cel, evE_glob, evE_attr, evE_idx, evE_slc, evE_bin, evE_neg, evE_not, evE_and, evE_or, evE_cmp, evE_inT, evE_eqNil, evE_isN, evE_ite, evE_call, evE_bi, evE_meth, evE_list, evE_tup, evE_dict0] at hev; obtain ⟨rfl, rfl⟩ := hev
    rename_i x
    exact .pure_val fun s Q h => Constant_str (h _ _ fun _ => by
      have := VRel.str (ad := ‹_›) x.cps.toList s.toks
      simpa using this)

theorem se_name (O : Ok K p loose mean mg mb sc cx d) (ko : KOk K T) {k : Nat} {x : Str} {pos : Pos} {m : ME} (he : er sc (k + 1) (.Name x pos) = some m) {H : MHeap} {v : MVal} {H' : MHeap} (hev : evE T C ρ m H = some (v, H')) : EV P sc cx ρ H (eval (.Name x pos) cx.env) (fun ad r => VRel ad v r) H' := by
  intro cs fz s Q S hQ
  obtain ⟨mm, F, lo⟩ := S.fr
  refine bindE he fun n hx he => ?_
  refine bindE he fun kd hk he => ?_
  have cell : ∀ n, nm x = some n → isCell (sc.names.lookup x) → m = .cel n → wpAny (model P.1 P.2) cx.A (eval (.Name x pos) cx.env) Q (fun _ _ => False) s := by
    intro n hx hk em
    subst em
    simp only [evE_none, evE_bool, evE_int, evE_str, evE_loc, evE_cel, evE_glob, evE_attr, evE_idx, evE_slc, evE_bin, evE_neg, evE_not, evE_and, evE_or, evE_cmp, evE_inT, evE_eqNil, evE_isN, evE_ite, evE_call, evE_bi, evE_meth, evE_list, evE_tup, evE_dict0] at hev
    split at hev
    · rename_i i hl
      split at hev
      · rename_i u hi
        cases hev
        obtain ⟨i', a, e1, e2, e3⟩ := (lo x n _ hx hl).2 (O.cell x hk).1
        have e4 := (O.cell x hk).2.trans e3
        cases e1
        obtain ⟨c, hc, cr, g, hca, _⟩ := S.get hi
        rw [e2] at hca
        have ha := Option.some.inj hca
        have go : ∀ r, s.heap.IsCell a (some r) → VRel (ads cs) v r → wpAny (model P.1 P.2) cx.A (eval (.Name x pos) cx.env) Q (fun _ _ => False) s := by
          intro r hc hr
          refine wpAny_Name ?_ (no_debug hx)
          rcases hk with q | q
          · exact wpAny_loadName_cell O.kind (O.names _ _ q) e4 hc (hQ cs s.heap s.toks r (Pre.refl _) S hr)
          · exact wpAny_loadName_free O.kind (O.names _ _ q) e4 hc (hQ cs s.heap s.toks r (Pre.refl _) S hr) (no_classdict hx)
        cases cr with
        | cell h1 h2 => exact go _ ⟨_, by rw [ha]; exact g, h1⟩ h2
      · cases hev
    · cases hev
  cases kd with
  | «local» =>
    cases he
    simp only [evE_none, evE_bool, evE_int, evE_str, evE_loc, evE_cel, evE_glob, evE_attr, evE_idx, evE_slc, evE_bin, evE_neg, evE_not, evE_and, evE_or, evE_cmp, evE_inT, evE_eqNil, evE_isN, evE_ite, evE_call, evE_bi, evE_meth, evE_list, evE_tup, evE_dict0, Option.map_eq_some_iff] at hev
    obtain ⟨u, hl, e⟩ := hev
    cases e
    obtain ⟨r, h1, h2⟩ := (lo x n _ hx hl).1 (O.locF x hk)
    have hL : cx.env.locals = cx.L := O.loc x hk
    exact wpAny_Name (wpAny_loadName_local O.kind (O.names _ _ hk) (by rw [hL]; exact F.ns) h1 (hQ cs s.heap s.toks r (Pre.refl _) S h2)) (no_debug hx)
  | cell => exact cell n hx (.inl hk) (Option.some.inj he).symm
  | free => exact cell n hx (.inr hk) (Option.some.inj he).symm
  | globalImplicit =>
    cases he
    simp only [evE_none, evE_bool, evE_int, evE_str, evE_loc, evE_cel, evE_glob, evE_attr, evE_idx, evE_slc, evE_bin, evE_neg, evE_not, evE_and, evE_or, evE_cmp, evE_inT, evE_eqNil, evE_isN, evE_ite, evE_call, evE_bi, evE_meth, evE_list, evE_tup, evE_dict0, Option.map_eq_some_iff] at hev
    obtain ⟨u, hl, e⟩ := hev
    cases e
    obtain ⟨r, h1, h2⟩ := ko.glob n _ x hl hx
    refine Name_function_global O.kind (O.names _ _ hk) (loadGlobal_global (mg := mg) (by rw [O.globals]; exact O.top.g.keeps F.keep) (mg_of O.inK O.top.g h1) (hQ cs s.heap s.toks r (Pre.refl _) S (h2.mono fun i a h => by simp at h))) (no_debug hx)
  | _ => cases he
end
end Mine

end
section
open PySem PySem.W PyProof.Rows PySem.Calls
set_option maxRecDepth 10000
namespace Mine

section
variable {P : PW} {K : Frag} {T : Tab} {W : Nat} {p : Program} {loose : List Str} {mean : ExcName → Option Value} {mg mb : Str → Option Value} {sc : Scope} {cx : Cx} {d : Nat} {ρ : Loc} {C : CallF}

theorem se_attr (O : Ok K p loose mean mg mb sc cx d) (ko : KOk K T) {k : Nat} (I : All P T C sc cx ρ k) {e : Expr} {a : Str} {pos : Pos} {m : ME} (he : er sc (k + 1) (.Attribute e a pos) = some m) {H : MHeap} {v : MVal} {H' : MHeap} (hev : evE T C ρ m H = some (v, H')) :
    EV P sc cx ρ H (eval (.Attribute e a pos) cx.env) (fun ad r => VRel ad v r) H' := by
  refine bindE he fun m' h1 he => ?_
  refine bindE he fun n h2 h4 => ?_
  by_cases h3 : notSuper e = true
  · rw [if_pos h3] at h4
    cases h4
    simp only [evE_none, evE_bool, evE_int, evE_str, evE_loc, evE_cel, evE_glob, evE_attr, evE_idx, evE_slc, evE_bin, evE_neg, evE_not, evE_and, evE_or, evE_cmp, evE_inT, evE_eqNil, evE_isN, evE_ite, evE_call, evE_bi, evE_meth, evE_list, evE_tup, evE_dict0, Option.bind_eq_some_iff, Option.map_eq_some_iff] at hev
    obtain ⟨⟨v1, H1⟩, e1, u, e2, e3⟩ := hev
    cases e3
    intro cs fz s Q S hQ
    refine Attribute_any_ (I.e _ _ h1 _ _ _ e1 cs fz s _ S fun cs1 h1' tk1 r1 p1 S1 hr1 => ?_) (by
      show (do let o ← attributeBase e a cx.env (eval e cx.env); standAt pos.atName; let r ← holding [o] (getAttr o a true); letTemporaryGo e o r; pure r) = _
      rw [not_super h3])
    exact getA_ok (s := { s with heap := h1', toks := tk1 }) ko O.inK S1 hr1 h2 e2 fun tk r' hr => hQ cs1 h1' tk r' p1 S1 hr
  · rw [if_neg h3] at h4; cases h4

theorem se_idx (O : Ok K p loose mean mg mb sc cx d) {k : Nat} (I : All P T C sc cx ρ k) {e i : Expr} {pos : Pos} {m1 m2 : ME} (h1 : er sc k e = some m1) (h2 : er sc k i = some m2) {H : MHeap} {v : MVal} {H' : MHeap} (hev : evE T C ρ (.idx m1 m2) H = some (v, H')) :
    EV P sc cx ρ H (eval (.Subscript e i pos) cx.env) (fun ad r => VRel ad v r) H' := by
  simp only [evE_none, evE_bool, evE_int, evE_str, evE_loc, evE_cel, evE_glob, evE_attr, evE_idx, evE_slc, evE_bin, evE_neg, evE_not, evE_and, evE_or, evE_cmp, evE_inT, evE_eqNil, evE_isN, evE_ite, evE_call, evE_bi, evE_meth, evE_list, evE_tup, evE_dict0, Option.bind_eq_some_iff, Option.map_eq_some_iff] at hev
  obtain ⟨⟨v1, H1⟩, e1, ⟨v2, H2⟩, e2, u, e3, e4⟩ := hev
  cases e4
  intro cs fz s Q S hQ
  refine Subscript_ (I.e _ _ h1 _ _ _ e1 cs fz s _ S fun cs1 h1' tk1 r1 p1 S1 hr1 => ?_)
  refine I.e _ _ h2 _ _ _ e2 cs1 fz { s with heap := h1', toks := tk1 } _ S1 fun cs2 h2' tk2 r2 p2 S2 hr2 => ?_
  exact index_ok (s := { s with heap := h2', toks := tk2 }) S2 (hr1.mono p2) hr2 e3 (fun o w => slice_rfl h2 false o w rfl) fun tk r hr => hQ cs2 h2' tk r (p1.trans p2) S2 hr

theorem clipN (a n : Nat) : max 0 (min (a : Int) (n : Int)) = ((min a n : Nat) : Int) := by omega
theorem slice_take (l : List Nat) {i j : Int} (hi : 0 ≤ i) (hj : 0 ≤ j) : Txt.slice ⟨l.toArray⟩ (some i) (some j) = ⟨((l.drop i.toNat).take (j.toNat - i.toNat)).toArray⟩ := by
  obtain ⟨a, rfl⟩ := Int.eq_ofNat_of_zero_le hi
  obtain ⟨b, rfl⟩ := Int.eq_ofNat_of_zero_le hj
  rw [Int.toNat_natCast, Int.toNat_natCast]
  have e : Builtin.Str.strSliceIndices (some (a : Int)) (some (b : Int)) 1 (⟨l.toArray⟩ : Str).length = (List.range (min b l.length - min a l.length)).map (fun x => min a l.length + x) := by
    have e0 : Builtin.Str.strSliceIndices (some (a : Int)) (some (b : Int)) 1 (⟨l.toArray⟩ : Str).length = sliceRange ((min a l.length : Nat) : Int) ((min b l.length : Nat) : Int) 1 := by
      unfold Builtin.Str.strSliceIndices
      simp only [show (1 : Int) > 0 by decide, if_true, if_neg (Int.not_lt.mpr hi), if_neg (Int.not_lt.mpr hj), lits]
      rw [clipN, clipN]
    rw [e0, sliceRange_one]
  have key : (l.drop (min a l.length)).take (min b l.length - min a l.length) = (l.drop a).take (b - a) := by
    by_cases h : a ≤ l.length
    · rw [Nat.min_eq_left h]
      by_cases h2 : b ≤ l.length
      · rw [Nat.min_eq_left h2]
      · have h3 := Nat.le_of_not_le h2
        rw [Nat.min_eq_right h3, List.take_of_length_le (by rw [List.length_drop]; exact Nat.le_refl _), List.take_of_length_le (by rw [List.length_drop]; exact Nat.sub_le_sub_right h3 _)]
    · have h3 := Nat.le_of_not_le h
      rw [Nat.min_eq_right h3, List.drop_of_length_le (Nat.le_refl l.length), List.drop_of_length_le h3, List.take_nil, List.take_nil]
  have pk := pick_run l.toArray (min a l.length) (min b l.length - min a l.length)
  rw [← key]
  unfold Txt.slice
  split
  · rename_i h
    have hlen : min b l.length - min a l.length = l.length := by
      rw [e] at h
      simp only [List.length_map, List.length_range, lits, beq_self_eq_true, Bool.true_and, beq_iff_eq] at h
      exact h
    have h0 : min a l.length = 0 := by omega
    rw [hlen, h0]
    simp
  · rw [e]
    show (⟨(List.filterMap (fun k => l.toArray[k]?) _).toArray⟩ : Str) = _
    rw [pk]

theorem push_at {s : Shared} {H : MHeap} {cs : List Cell} {fz : List (Addr × Obj)} (S : At P sc cx ρ H cs fz s.heap) (o : Obj) : At P sc cx ρ H cs fz (s.heap.push o) := by
  obtain ⟨m, F, l⟩ := S.fr
  exact S.keeps ⟨m, F.push o, l⟩ fun p hp => ⟨Heap.get?_push_of_some _ (S.nw p hp).1, (S.nw p hp).2⟩

theorem let_str (e : Expr) (x : Str) (t : Tok) (r : Value) : letTemporaryGo e (.str x t) r = pure () := by cases e <;> rfl
theorem se_slc (O : Ok K p loose mean mg mb sc cx d) {k : Nat} (I : All P T C sc cx ρ k) {e lo hi : Expr} {pos sp : Pos} {m1 m2 m3 : ME} (h1 : er sc k e = some m1) (h2 : er sc k lo = some m2) (h3 : er sc k hi = some m3) {H : MHeap} {v : MVal} {H' : MHeap}
    (hev : evE T C ρ (.slc m1 m2 m3) H = some (v, H')) :
    EV P sc cx ρ H (eval (.Subscript e (.Slice (some lo) (some hi) none sp) pos) cx.env) (fun ad r => VRel ad v r) H' := by
  simp only [evE_none, evE_bool, evE_int, evE_str, evE_loc, evE_cel, evE_glob, evE_attr, evE_idx, evE_slc, evE_bin, evE_neg, evE_not, evE_and, evE_or, evE_cmp, evE_inT, evE_eqNil, evE_isN, evE_ite, evE_call, evE_bi, evE_meth, evE_list, evE_tup, evE_dict0, Option.bind_eq_some_iff, Option.map_eq_some_iff] at hev
  obtain ⟨⟨v1, H1⟩, e1, ⟨v2, H2⟩, e2, ⟨v3, H3⟩, e3, u, e4, e5⟩ := hev
  cases e5
  intro cs fz s Q S hQ
  refine Subscript_ (I.e _ _ h1 _ _ _ e1 cs fz s _ S fun cs1 h1' tk1 r1 p1 S1 hr1 => ?_)
  refine wpAny_Slice ?_
  rw [evalPart_some, evalPart_some, evalPart_none]
  refine I.e _ _ h2 _ _ _ e2 cs1 fz { s with heap := h1', toks := tk1 } _ S1 fun cs2 h2' tk2 r2 p2 S2 hr2 => ?_
  refine I.e _ _ h3 _ _ _ e3 cs2 fz { s with heap := h2', toks := tk2 } _ S2 fun cs3 h3' tk3 r3 p3 S3 hr3 => ?_
  refine wpAny_pure ?_
  have q1 := hr1.mono (p2.trans p3)
  have q2 := hr2.mono p3
  unfold sliceS at e4
  dsimp only at e4
  split at e4
  · rename_i l a b
    split at e4
    · rename_i hz
      cases e4
      cases q1; cases q2; cases hr3
      obtain ⟨m, F, lo'⟩ := S3.fr
      refine slice_strN_ss (s := { s with heap := h3', toks := tk3 }) F S3.nw (fun h4 t4 k4 F4 N4 => ?_) rfl (fun r => let_str e _ _ r) (by rw [lits]; exact Nat.le_trans hz.2.2.2.2 szLine_le)
      rw [slice_take l hz.1 hz.2.1]
      exact hQ cs3 h4 k4 _ (p1.trans (p2.trans p3)) (S3.keeps ⟨m, F4, lo'⟩ N4) (.str _ _)
    · cases e4
  · cases e4

theorem slice_upto (rs : List Value) {j : Int} (hj : 0 ≤ j) : slicePick rs.toArray none (some j) none = (rs.take j.toNat).toArray := by
  obtain ⟨b, rfl⟩ := Int.eq_ofNat_of_zero_le hj
  rw [Int.toNat_natCast]
  have e : sliceBounds none (some (b : Int)) none rs.toArray.size = (((0 : Nat) : Int), ((min b rs.length : Nat) : Int), 1) := by
    simp only [sliceBounds, Option.getD_none, show (1 : Int) > 0 by decide, if_true, if_neg (Int.not_lt.mpr hj), List.size_toArray]
    rw [clipN]; rfl
  rw [kmk_pick_nat _ e]
  simp only [List.drop_zero, Nat.sub_zero]
  rw [kmk_take_min]

theorem se_bin (O : Ok K p loose mean mg mb sc cx d) {k : Nat} (I : All P T C sc cx ρ k) {a b : Expr} {op : Operator} {o : AOp} {pos : Pos} {m1 m2 : ME} (h1 : er sc k a = some m1) (ho : erOp op = some o) (h2 : er sc k b = some m2) {H : MHeap} {v : MVal} {H' : MHeap}
    (hev : evE T C ρ (.bin o m1 m2) H = some (v, H')) :
    EV P sc cx ρ H (eval (.BinOp a op b pos) cx.env) (fun ad r => VRel ad v r) H' := by
  simp only [evE_none, evE_bool, evE_int, evE_str, evE_loc, evE_cel, evE_glob, evE_attr, evE_idx, evE_slc, evE_bin, evE_neg, evE_not, evE_and, evE_or, evE_cmp, evE_inT, evE_eqNil, evE_isN, evE_ite, evE_call, evE_bi, evE_meth, evE_list, evE_tup, evE_dict0, Option.bind_eq_some_iff] at hev
  obtain ⟨⟨v1, H1⟩, e1, ⟨v2, H2⟩, e2, e3⟩ := hev
  intro cs fz s Q S hQ
  refine wpAny_BinOp (I.e _ _ h1 _ _ _ e1 cs fz s _ S fun cs1 h1' tk1 r1 p1 S1 hr1 => ?_)
  refine I.e _ _ h2 _ _ _ e2 cs1 fz { s with heap := h1', toks := tk1 } _ S1 fun cs2 h2' tk2 r2 p2 S2 hr2 => ?_
  exact binop_ok (s := { s with heap := h2', toks := tk2 }) S2 (hr1.mono p2) hr2 e3 ho fun cs' h' tk r pre S' hr => hQ cs' h' tk r (p1.trans (p2.trans pre)) S' hr

theorem se_not (O : Ok K p loose mean mg mb sc cx d) {k : Nat} (I : All P T C sc cx ρ k) {a : Expr} {pos : Pos} {m1 : ME} (h1 : er sc k a = some m1) {H : MHeap} {v : MVal} {H' : MHeap} (hev : evE T C ρ (.not m1) H = some (v, H')) :
    EV P sc cx ρ H (eval (.UnaryOp .Not a pos) cx.env) (fun ad r => VRel ad v r) H' := by
  simp only [evE_none, evE_bool, evE_int, evE_str, evE_loc, evE_cel, evE_glob, evE_attr, evE_idx, evE_slc, evE_bin, evE_neg, evE_not, evE_and, evE_or, evE_cmp, evE_inT, evE_eqNil, evE_isN, evE_ite, evE_call, evE_bi, evE_meth, evE_list, evE_tup, evE_dict0, Option.bind_eq_some_iff, Option.map_eq_some_iff] at hev
  obtain ⟨⟨v1, H1⟩, e1, b, e2, e3⟩ := hev
  cases e3
  intro cs fz s Q S hQ
  refine UnaryOp_ (I.e _ _ h1 _ _ _ e1 cs fz s _ S fun cs1 h1' tk1 r1 p1 S1 hr1 => ?_)
  refine not_of (truth_ok (s := { s with heap := h1', toks := tk1 }) hr1 e2 ?_)
  exact hQ cs1 h1' tk1 _ p1 S1 (.bool _)
theorem se_neg {i : Int} {n : Nat} {p1 pos : Pos} {H : MHeap} {v : MVal} {H' : MHeap} (hev : evE T C ρ (.neg i) H = some (v, H')) :
    EV P sc cx ρ H (eval (.UnaryOp .USub (.Constant (.int i) n p1) pos) cx.env) (fun ad r => VRel ad v r) H' := by
  simp only [evE_none, evE_bool, evE_int, evE_str, evE_loc, evE_cel, evE_glob, evE_attr, evE_idx, evE_slc, evE_bin, evE_neg, evE_not, evE_and, evE_or, evE_cmp, evE_inT, evE_eqNil, evE_isN, evE_ite, evE_call, evE_bi, evE_meth, evE_list, evE_tup, evE_dict0, Option.some.injEq, Prod.mk.injEq] at hev
  obtain ⟨rfl, rfl⟩ := hev
  exact .pure_val fun s Q h => UnaryOp_ (wpAny_Constant_int (neg_int (h _ _ fun _ => .int _ _)))

theorem se_cmp (O : Ok K p loose mean mg mb sc cx d) {k : Nat} (I : All P T C sc cx ρ k) {a b : Expr} {op : CmpOp} {o : COp} {pos : Pos} {m1 m2 : ME} (h1 : er sc k a = some m1) (ho : erCmp op = some o) (h2 : er sc k b = some m2) {H : MHeap} {v : MVal} {H' : MHeap}
    (hev : evE T C ρ (.cmp o m1 m2) H = some (v, H')) :
    EV P sc cx ρ H (eval (.Compare a [op] [b] pos) cx.env) (fun ad r => VRel ad v r) H' := by
  simp only [evE_none, evE_bool, evE_int, evE_str, evE_loc, evE_cel, evE_glob, evE_attr, evE_idx, evE_slc, evE_bin, evE_neg, evE_not, evE_and, evE_or, evE_cmp, evE_inT, evE_eqNil, evE_isN, evE_ite, evE_call, evE_bi, evE_meth, evE_list, evE_tup, evE_dict0, Option.bind_eq_some_iff, Option.map_eq_some_iff] at hev
  obtain ⟨⟨v1, H1⟩, e1, ⟨v2, H2⟩, e2, b', e3, e4⟩ := hev
  cases e4
  intro cs fz s Q S hQ
  refine wpAny_Compare1 (I.e _ _ h1 _ _ _ e1 cs fz s _ S fun cs1 h1' tk1 r1 p1 S1 hr1 => ?_) (not_set h2 op)
  refine I.e _ _ h2 _ _ _ e2 cs1 fz { s with heap := h1', toks := tk1 } _ S1 fun cs2 h2' tk2 r2 p2 S2 hr2 => ?_
  exact cmpop_ok (s := { s with heap := h2', toks := tk2 }) S2 (by have := O.units; omega) (hr1.mono p2) hr2 e3 ho fun tk => hQ cs2 h2' tk _ (p1.trans p2) S2 (.bool _)

theorem constOf_ok {e : Expr} {c : Const} (h : constOf e = some c) : ∃ n q, e = .Constant c n q := by
  cases e with
  | Constant c' n q => cases h; exact ⟨n, q, rfl⟩
  | _ => cases h
theorem strOf_ok {e : Expr} {x : Str} (h : strOf e = some x) : ∃ n q, e = .Constant (.str x) n q := by
  refine bindE h fun c h1 h2 => ?_
  cases c with
  | str y => cases h2; exact constOf_ok h1
  | _ => cases h2
theorem intOf_ok {e : Expr} {x : Int} (h : intOf e = some x) : ∃ n q, e = .Constant (.int x) n q := by
  refine bindE h fun c h1 h2 => ?_
  cases c with
  | int y => cases h2; exact constOf_ok h1
  | _ => cases h2
theorem noneOf_ok {e : Expr} {x : Unit} (h : noneOf e = some x) : ∃ n q, e = .Constant .none n q := by
  refine bindE h fun c h1 h2 => ?_
  cases c with
  | none => exact constOf_ok h1
  | _ => cases h2
theorem nameOf_ok {e : Expr} {x : Str} (h : nameOf e = some x) : ∃ q, e = .Name x q := by
  cases e with
  | Name y q => cases h; exact ⟨q, rfl⟩
  | _ => cases h
theorem attrOf_ok {e : Expr} {x : Expr × Str × Pos} (h : attrOf e = some x) : e = .Attribute x.1 x.2.1 x.2.2 := by
  cases e with
  | Attribute o a q => cases h; rfl
  | _ => cases h
theorem subOf_ok {e : Expr} {x : Expr × Expr} (h : subOf e = some x) : ∃ q, e = .Subscript x.1 x.2 q := by
  cases e with
  | Subscript o a q => cases h; exact ⟨q, rfl⟩
  | _ => cases h
theorem listOf_ok {e : Expr} {x : List Expr} (h : listOf0 e = some x) : ∃ q, e = .List x q := by
  cases e with
  | List o q => cases h; exact ⟨q, rfl⟩
  | _ => cases h
theorem tupOf_ok {e : Expr} {x : List Expr} (h : tupOf0 e = some x) : ∃ n q, e = .Tuple x n q := by
  cases e with
  | Tuple o n q => cases h; exact ⟨n, q, rfl⟩
  | _ => cases h
theorem sliceOf_ok {e : Expr} {x : Option Expr × Option Expr × Option Expr} (h : sliceOf e = some x) : ∃ q, e = .Slice x.1 x.2.1 x.2.2 q := by
  cases e with
  | Slice a b c q => cases h; exact ⟨q, rfl⟩
  | _ => cases h
theorem callOf_ok {e : Expr} {x : Expr × List Expr × List Keyword} (h : callOf e = some x) : ∃ q, e = .Call x.1 x.2.1 x.2.2 q := by
  cases e with
  | Call a b c q => cases h; exact ⟨q, rfl⟩
  | _ => cases h
theorem lit_items (env : Env) (pos : Pos) : ∀ (es : List Expr) (ls : List (List Nat)), strConsts es = some ls → ∀ (s : Shared) (Q : List Value → Shared → Prop),
    (∀ rs tk, StrsAre rs (ls.map fun l => ⟨l.toArray⟩) → Q rs { s with toks := tk }) → wpAny (model P.1 P.2) cx.A (spliced (backTo pos (starEach es env))) Q (fun _ _ => False) s
  | [], ls, h, s, Q, hQ => by
    cases h
    exact spliced_none (hQ [] s.toks .nil)
  | e :: r, ls, h, s, Q, hQ => by
    simp only [strConsts, Option.bind_eq_some_iff, Option.map_eq_some_iff] at h
    obtain ⟨x, hs, ls', h1, rfl⟩ := h
    obtain ⟨n, q, rfl⟩ := strOf_ok hs
    refine spliced_more (Constant_str ?_) rfl
    refine lit_items env pos r ls' h1 _ _ fun rs tk hr => ?_
    exact hQ _ tk (by simpa using StrsAre.cons x s.toks hr)

theorem strs_len {rs : List Value} {xs : List Str} (h : StrsAre rs xs) : rs.length = xs.length := by
  induction h with
  | nil => rfl
  | cons _ _ _ ih => simp [ih]
theorem se_inT (O : Ok K p loose mean mg mb sc cx d) {k : Nat} (I : All P T C sc cx ρ k) {a : Expr} {ts : List Expr} {n : Nat} {pos tp : Pos} {m1 : ME} {ls : List (List Nat)} (h1 : er sc k a = some m1) (h2 : strConsts ts = some ls) (hls : ls.length ≤ 100) {H : MHeap} {v : MVal} {H' : MHeap}
    (hev : evE T C ρ (.inT false m1 ls) H = some (v, H')) :
    EV P sc cx ρ H (eval (.Compare a [.In] [.Tuple ts n tp] pos) cx.env) (fun ad r => VRel ad v r) H' := by
  simp only [evE_none, evE_bool, evE_int, evE_str, evE_loc, evE_cel, evE_glob, evE_attr, evE_idx, evE_slc, evE_bin, evE_neg, evE_not, evE_and, evE_or, evE_cmp, evE_inT, evE_eqNil, evE_isN, evE_ite, evE_call, evE_bi, evE_meth, evE_list, evE_tup, evE_dict0, Option.bind_eq_some_iff] at hev
  obtain ⟨⟨v1, H1⟩, e1, e2⟩ := hev
  simp only at e2
  split at e2
  · rename_i l
    cases e2
    intro cs fz s Q S hQ
    refine wpAny_Compare1 (I.e _ _ h1 _ _ _ e1 cs fz s _ S fun cs1 h1' tk1 r1 p1 S1 hr1 => ?_) rfl
    refine Tuple_ (lit_items (P := P) (cx := cx) cx.env tp ts ls h2 _ _ fun rs tk hr => ?_)
    cases hr1 with
    | str _ t =>
    have hz : rs.length ≤ sizeLine := by
      rw [strs_len hr, List.length_map]
      exact Nat.le_trans hls (by decide)
    refine wpAny_newObj_type ?_ (by show rs.toArray.size ≤ sizeLine; rw [List.size_toArray]; exact hz)
    refine in_tuple_strs ⟨_, Heap.get?_push_size _ rfl, rfl, _, rfl⟩ (by simpa using hr) ?_
    rw [any_contains]
    have S2 := push_at (s := { s with heap := h1', toks := tk }) S1 { cls := .type "tuple", data := .seq rs.toArray }
    have e3 : (false != ls.contains l) = ls.contains l := by cases ls.contains l <;> rfl
    rw [e3] at hQ
    exact hQ cs1 _ _ _ p1 S2 (.bool _)
  · cases e2

theorem se_eqNil (O : Ok K p loose mean mg mb sc cx d) {k : Nat} (I : All P T C sc cx ρ k) {a : Expr} (n : Bool) {pos tp : Pos} {m1 : ME} (h1 : er sc k a = some m1) {H : MHeap} {v : MVal} {H' : MHeap}
    (hev : evE T C ρ (.eqNil n m1) H = some (v, H')) :
    EV P sc cx ρ H (eval (.Compare a [if n then .NotEq else .Eq] [.List [] tp] pos) cx.env) (fun ad r => VRel ad v r) H' := by
  simp only [evE_none, evE_bool, evE_int, evE_str, evE_loc, evE_cel, evE_glob, evE_attr, evE_idx, evE_slc, evE_bin, evE_neg, evE_not, evE_and, evE_or, evE_cmp, evE_inT, evE_eqNil, evE_isN, evE_ite, evE_call, evE_bi, evE_meth, evE_list, evE_tup, evE_dict0, Option.bind_eq_some_iff] at hev
  obtain ⟨⟨v1, H1⟩, e1, e2⟩ := hev
  simp only at e2
  split at e2
  · rename_i i
    split at e2
    · rename_i xs hi
      cases e2
      intro cs fz s Q S hQ
      refine wpAny_Compare1 (I.e _ _ h1 _ _ _ e1 cs fz s _ S fun cs1 h1' tk1 r1 p1 S1 hr1 => ?_) (by cases n <;> rfl)
      refine List_ (spliced_none ?_)
      refine wpAny_newObj_type ?_
      have S2 := push_at (s := { s with heap := h1', toks := tk1 }) S1 { cls := .type "list", data := .seq ([] : List Value).toArray }
      refine eqNil_ok (s := { s with heap := h1'.push { cls := .type "list", data := .seq ([] : List Value).toArray }, toks := tk1 }) S2 (by have := O.units; omega) hi hr1 n ⟨_, Heap.get?_push_size _ rfl, rfl, _, rfl⟩ fun tk => ?_
      exact hQ cs1 _ _ _ p1 S2 (.bool _)
    · cases e2
  · cases e2

theorem none_beq {ad : List Addr} {v : MVal} {r : Value} (h : VRel ad v r) : (r == Value.none) = (v == MVal.none) := by
  cases h <;> first | rfl | (simp)

theorem se_isN (O : Ok K p loose mean mg mb sc cx d) {k : Nat} (I : All P T C sc cx ρ k) {a : Expr} (n : Bool) {q : Nat} {pos tp : Pos} {m1 : ME} (h1 : er sc k a = some m1) {H : MHeap} {v : MVal} {H' : MHeap}
    (hev : evE T C ρ (.isN n m1) H = some (v, H')) :
    EV P sc cx ρ H (eval (.Compare a [if n then .IsNot else .Is] [.Constant .none q tp] pos) cx.env) (fun ad r => VRel ad v r) H' := by
  simp only [evE_none, evE_bool, evE_int, evE_str, evE_loc, evE_cel, evE_glob, evE_attr, evE_idx, evE_slc, evE_bin, evE_neg, evE_not, evE_and, evE_or, evE_cmp, evE_inT, evE_eqNil, evE_isN, evE_ite, evE_call, evE_bi, evE_meth, evE_list, evE_tup, evE_dict0, Option.map_eq_some_iff] at hev
  obtain ⟨⟨v1, H1⟩, e1, e2⟩ := hev
  cases e2
  intro cs fz s Q S hQ
  refine wpAny_Compare1 (I.e _ _ h1 _ _ _ e1 cs fz s _ S fun cs1 h1' tk1 r1 p1 S1 hr1 => ?_) (by cases n <;> rfl)
  refine Constant_none ?_
  have e := none_beq hr1
  cases n with
  | false =>
    refine is_none_gen ?_
    rw [e]
    have := hQ cs1 h1' tk1 _ p1 S1 (.bool _)
    simpa using this
  | true =>
    refine isnot_none_gen ?_
    rw [e]
    have := hQ cs1 h1' tk1 _ p1 S1 (.bool _)
    simpa using this

theorem se_ite (O : Ok K p loose mean mg mb sc cx d) {k : Nat} (I : All P T C sc cx ρ k) {c a b : Expr} {pos : Pos} {m1 m2 m3 : ME} (h1 : er sc k c = some m1) (h2 : er sc k a = some m2) (h3 : er sc k b = some m3) {H : MHeap} {v : MVal} {H' : MHeap}
    (hev : evE T C ρ (.ite m1 m2 m3) H = some (v, H')) :
    EV P sc cx ρ H (eval (.IfExp c a b pos) cx.env) (fun ad r => VRel ad v r) H' := by
  simp only [evE_none, evE_bool, evE_int, evE_str, evE_loc, evE_cel, evE_glob, evE_attr, evE_idx, evE_slc, evE_bin, evE_neg, evE_not, evE_and, evE_or, evE_cmp, evE_inT, evE_eqNil, evE_isN, evE_ite, evE_call, evE_bi, evE_meth, evE_list, evE_tup, evE_dict0, Option.bind_eq_some_iff] at hev
  obtain ⟨⟨t, H1⟩, e1, e2⟩ := hev
  intro cs fz s Q S hQ
  refine IfExp_ (I.t _ _ h1 _ _ _ e1 cs fz s _ S fun cs1 h1' tk1 r1 p1 S1 hr1 => ?_)
  subst hr1
  cases r1 with
  | true =>
    simp only [if_true] at e2 ⊢
    exact I.e _ _ h2 _ _ _ e2 cs1 fz { s with heap := h1', toks := tk1 } _ S1 fun cs' h' tk r pre S' hr => hQ cs' h' tk r (p1.trans pre) S' hr
  | false =>
    simp only [Bool.false_eq_true, if_false] at e2 ⊢
    exact I.e _ _ h3 _ _ _ e2 cs1 fz { s with heap := h1', toks := tk1 } _ S1 fun cs' h' tk r pre S' hr => hQ cs' h' tk r (p1.trans pre) S' hr
end
end Mine

end
section
open PySem PySem.W PyProof.Rows PySem.Calls
set_option maxRecDepth 10000
namespace Mine

section
variable {P : PW} {K : Frag} {T : Tab} {W : Nat} {p : Program} {loose : List Str} {mean : ExcName → Option Value} {mg mb : Str → Option Value} {sc : Scope} {cx : Cx} {d : Nat} {ρ : Loc} {C : CallF}

/-- the arguments of a call, behind a callee that is known -/
theorem callW (O : Ok K p loose mean mg mb sc cx d) {k : Nat} (L : SL P T C sc cx ρ k) {args : List Expr} {ms : MEs} (he : ers sc k args = some ms) {f : Value} {first : List Value} (hk : keepIn K f = true) {H H' : MHeap} {vs : List MVal} (hev : evEs T C ρ ms H = some (vs, H')) {pos : Pos}
    {cs : List Cell} {fz : List (Addr × Obj)} {s : Shared} {Q : Value → Shared → Prop} (S : At P sc cx ρ H cs fz s.heap)
    (h : ∀ cs' h' tk rs, Pre (ads cs) (ads cs') → At P sc cx ρ H' cs' fz h' → VsRel (ads cs') vs rs → wpAny (model P.1 P.2) cx.A (call f (first ++ rs)) Q (fun _ _ => False) { s with heap := h', toks := tk }) :
    wpAny (model P.1 P.2) cx.A (callWith pos f first (backTo pos (starEach args cx.env)) []) Q (fun _ _ => False) s := by
  obtain ⟨m, F, _⟩ := S.fr
  cases args with
  | nil =>
    have e := ers_nil he
    subst e
    simp only [evEs_nil, evEs_cons, Option.some.injEq, Prod.mk.injEq] at hev
    obtain ⟨rfl, rfl⟩ := hev
    exact callWith_K0 (O.inK.keeps F.keep) hk (h cs s.heap s.toks [] (Pre.refl _) S .nil)
  | cons e r =>
    obtain ⟨k', m1, ms', rfl, h1, h2, rfl⟩ := ers_cons he
    refine callWith_K O.inK hk ?_ (star_rfl h1 r cx.env) (ers_plain h2 cx.env pos)
    refine L _ _ he _ _ _ hev pos cs fz s _ S fun cs' h' tk rs pre S' hr => ?_
    obtain ⟨m', F', _⟩ := S'.fr
    exact ⟨O.inK.keeps F'.keep, h cs' h' tk rs pre S' hr⟩

theorem keep_fn (fn : ∀ a I, T.fn a = some I → FnOk K a I) {a : Addr} {I : FnI} (h : T.fn a = some I) : keepIn K (.ref a) = true := by
  obtain ⟨qual, name, params, body, scope, dV, kV, doc, pm, cdv, ct, oc, an, od, osl, ns, dvals, k, hl, _⟩ := (fn a I h).is
  unfold keepIn
  dsimp only
  rw [hl]

theorem near_self {A : Around} : Near A A := ⟨rfl, rfl, Nat.le_add_right _ _, Nat.le_add_right _ _⟩
theorem near_make {A : Around} {l : List Env} (h : A.frames = some l) (c : Addr) (vals : List Value) : Near (A.under (.builtin "type.__call__" ⟨.ref c :: vals, []⟩)) A := by
  refine ⟨?_, rfl, ?_, ?_⟩
  · exact rfl
  · rw [depth_under_make]; omega
  · rw [units_under_make]; omega

/-- a call of a value: a def, or a class -/
theorem callV_ok (O : Ok K p loose mean mg mb sc cx d) (ko : KOk K T) (CS : CallSnd P K p loose mean mg mb C d) {f : MVal} {rf : Value} {vs : List MVal} {v : MVal} {H H' : MHeap} (e : callV T C f vs H = some (v, H'))
    {cs : List Cell} {fz : List (Addr × Obj)} {s : Shared} {rs : List Value} {Q : Value → Shared → Prop} (S : At P sc cx ρ H cs fz s.heap) (hf : VRel (ads cs) f rf) (hr : VsRel (ads cs) vs rs)
    (h : ∀ cs' h' tk r, Pre (ads cs) (ads cs') → At P sc cx ρ H' cs' fz h' → VRel (ads cs') v r → Q r { s with heap := h', toks := tk }) :
    wpAny (model P.1 P.2) cx.A (call rf rs) Q (fun _ _ => False) s := by
  unfold callV at e
  split at e
  · rename_i a
    split at e
    · cases hf
      exact wpAny_call (CS sc cx ρ cx.A O near_self a vs H v H' e cs fz s rs _ S hr fun cs' h' tk r pre S' hv => h cs' h' tk r pre S' hv)
    · cases e
  · rename_i c
    split at e
    · rename_i fi hi
      split at e
      · rename_i H1 e1
        cases e
        cases hf
        obtain ⟨m, F, lo⟩ := S.fr
        have G := ko.cls c fi hi
        refine call_cls F O.inK S.nw G.makes G.init G.fn fun x dx h' F' N' h1 h2 => ?_
        have pre : Pre (ads cs) (ads (cs ++ [⟨x, instObj c dx, some (dx, dictOf [] 0)⟩])) := by unfold ads; rw [List.map_append]; exact Pre.app _ _
        have nx : ∀ q ∈ led cs ++ fz, q.1 < dx := h1
        have S1 : At P sc cx ρ (H ++ [.inst c []]) (cs ++ [⟨x, instObj c dx, some (dx, dictOf [] 0)⟩]) fz h' := by
          have e : led (cs ++ [⟨x, instObj c dx, some (dx, dictOf [] 0)⟩]) ++ fz = led cs ++ ([(x, instObj c dx), (dx, dictOf [] 0)] ++ fz) := by rw [led_app, List.append_assoc]; rfl
          have perm : (led (cs ++ [⟨x, instObj c dx, some (dx, dictOf [] 0)⟩]) ++ fz).Perm ((x, instObj c dx) :: (dx, dictOf [] 0) :: (led cs ++ fz)) := by
            rw [e, ← List.append_assoc]
            exact (List.perm_append_comm.append_right fz).trans (by rw [List.append_assoc]; exact List.Perm.refl _)
          refine ⟨⟨m, F', lo.mono pre⟩, fun q hq => N' q (perm.mem_iff.mp hq), ?_, (S.rel.mono pre).snoc (.inst .nil)⟩
          rw [(perm.map _).nodup_iff]
          simp only [List.map_cons, List.nodup_cons, List.mem_cons, not_or]
          refine ⟨⟨Nat.ne_of_gt h2, fun z => ?_⟩, fun z => ?_, S.nd⟩
          · obtain ⟨q, hq, e⟩ := List.mem_map.mp z
            have := nx q hq
            rw [e] at this
            exact absurd (Nat.lt_trans this h2) (Nat.lt_irrefl _)
          · obtain ⟨q, hq, e⟩ := List.mem_map.mp z
            have := nx q hq
            rw [e] at this
            exact absurd this (Nat.lt_irrefl _)
        have hx : VRel (ads (cs ++ [⟨x, instObj c dx, some (dx, dictOf [] 0)⟩])) (.ref H.length) (.ref x) := .ref (by rw [← S.rel.length]; simp)
        refine CS sc cx ρ _ O (near_make O.frames c rs) fi _ _ _ _ e1 (cs ++ [⟨x, instObj c dx, some (dx, dictOf [] 0)⟩]) fz { s with heap := h' } (.ref x :: rs) _ S1 (.cons hx (hr.mono pre)) fun cs' h2 tk r pre' S' hv => ?_
        cases hv
        exact ⟨rfl, h cs' h2 tk _ (pre.trans pre') S' (hx.mono pre')⟩
      · cases e
    · cases e
  · cases e

theorem se_call (O : Ok K p loose mean mg mb sc cx d) (ko : KOk K T) (fn : ∀ a I, T.fn a = some I → FnOk K a I) (CS : CallSnd P K p loose mean mg mb C d) {k : Nat} (I : All P T C sc cx ρ k) {x : Str} {xp : Pos} {args : List Expr} {pos : Pos} {m1 : ME} {ms : MEs} (h1 : er sc k (.Name x xp) = some m1) (h2 : ers sc k args = some ms)
    {H : MHeap} {v : MVal} {H' : MHeap} (hev : evE T C ρ (.call m1 ms) H = some (v, H')) :
    EV P sc cx ρ H (eval (.Call (.Name x xp) args [] pos) cx.env) (fun ad r => VRel ad v r) H' := by
  simp only [evE_none, evE_bool, evE_int, evE_str, evE_loc, evE_cel, evE_glob, evE_attr, evE_idx, evE_slc, evE_bin, evE_neg, evE_not, evE_and, evE_or, evE_cmp, evE_inT, evE_eqNil, evE_isN, evE_ite, evE_call, evE_bi, evE_meth, evE_list, evE_tup, evE_dict0, Option.bind_eq_some_iff] at hev
  obtain ⟨⟨v1, H1⟩, e1, ⟨vs, H2⟩, e2, e3⟩ := hev
  intro cs fz s Q S hQ
  refine Call_ (I.e _ _ h1 _ _ _ e1 cs fz s _ S fun cs1 h1' tk1 r1 p1 S1 hr1 => ?_)
  have hk : keepIn K r1 = true := by
    unfold callV at e3
    dsimp only at e3
    cases hr1 with
    | fn a =>
      dsimp only at e3
      cases hT : T.fn a with
      | none => rw [hT] at e3; cases e3
      | some I => exact keep_fn fn hT
    | cls c =>
      dsimp only at e3
      cases hT : T.init c with
      | none => rw [hT] at e3; cases e3
      | some f => exact (ko.cls c f hT).keep
    | _ => cases e3
  refine callW O I.l h2 (first := []) hk e2 (s := { s with heap := h1', toks := tk1 }) S1 fun cs2 h2' tk2 rs p2 S2 hr => ?_
  exact callV_ok O ko CS e3 (s := { s with heap := h2', toks := tk2 }) S2 (hr1.mono p2) hr fun cs' h' tk r pre S' hv => hQ cs' h' tk r (p1.trans (p2.trans pre)) S' hv

noncomputable def bfName : BF → String
  | .len => "len"
  | .abs => "abs"
  | .max => "max"
  | .ord => "ord"
theorem iteS {α : Type} {c : Prop} [Decidable c] {a b : α} (h : (if c then some a else none) = some b) : c ∧ a = b := by
  by_cases hc : c
  · rw [if_pos hc] at h; exact ⟨hc, Option.some.inj h⟩
  · rw [if_neg hc] at h; cases h
theorem rel_one {ad : List Addr} {v : MVal} {rs : List Value} (h : VsRel ad [v] rs) : ∃ r, rs = [r] ∧ VRel ad v r := by
  cases h with
  | cons a b => cases b; exact ⟨_, rfl, a⟩
theorem abs_nat (i : Int) : (if i < 0 then -i else i) = (i.natAbs : Int) := by split <;> omega
theorem builtin_ok (O : Ok K p loose mean mg mb sc cx d) {f : BF} {vs : List MVal} {v : MVal} {H : MHeap} (e : builtin f vs H = some v)
    {cs : List Cell} {fz : List (Addr × Obj)} {s : Shared} {rs : List Value} {Q : Value → Shared → Prop} (S : At P sc cx ρ H cs fz s.heap) (hr : VsRel (ads cs) vs rs) {id : String} (hid : id = bfName f)
    (h : ∀ h' tk r, At P sc cx ρ H cs fz h' → VRel (ads cs) v r → Q r { s with heap := h', toks := tk }) :
    wpAny (model P.1 P.2) cx.A (call (.builtin id) rs) Q (fun _ _ => False) s := by
  subst hid
  cases f with
  | len =>
    refine bindE e fun v0 hv e1 => ?_
    have := one_ok hv; subst this
    obtain ⟨r0, rfl, a⟩ := rel_one hr
    cases v0 with
    | str l =>
      obtain ⟨hz, rfl⟩ := iteS e1
      cases a
      refine SBL.len (by rw [lits]; have := szLine_is; omega) ?_
      rw [lits]
      exact h _ _ _ S (.int _ _)
    | ref i =>
      refine bindE e1 fun o hi e2 => ?_
      cases o with
      | list xs =>
        obtain ⟨hz, rfl⟩ := iteS e2
        obtain ⟨ad, n, rs, rfl, hc, hl, R⟩ := list_at S hi a
        refine len_list hl (by rw [List.size_toArray, R.length]; have := szLine_is; omega) ?_
        rw [List.size_toArray, R.length]
        exact h _ _ _ S (.int _ _)
      | _ => cases e2
    | _ => cases e1
  | abs =>
    refine bindE e fun v0 hv e1 => ?_
    refine mapE e1 fun i hi zq => ?_
    subst zq
    have := one_ok hv; subst this
    have := intV_ok hi; subst this
    obtain ⟨r0, rfl, a⟩ := rel_one hr
    cases a
    refine call_abs_int fun u tk => ?_
    rw [abs_nat]
    exact h _ _ _ S (.int _ _)
  | max =>
    refine bindE2 e fun v0 v1 hv e1 => ?_
    refine bindE e1 fun i hi e2 => ?_
    refine mapE e2 fun j hj zq => ?_
    subst zq
    have := two_ok hv; subst this
    have := intV_ok (v := v0) hi; subst this
    have := intV_ok (v := v1) hj; subst this
    cases hr with
    | cons a b =>
      obtain ⟨r0, rfl, c⟩ := rel_one b
      cases a; cases c
      obtain ⟨m, F, lo⟩ := S.fr
      refine max_two_N O.handled F S.nw fun h' tk F' N' => ?_
      exact h h' tk _ (S.keeps ⟨m, F', lo⟩ N') (.int _ _)
  | ord =>
    refine bindE e fun v0 hv e1 => ?_
    refine bindE e1 fun l hl e2 => ?_
    refine mapE e2 fun c hc zq => ?_
    subst zq
    have := one_ok hv; subst this
    have := strV_ok hl; subst this
    have := one_ok hc; subst this
    obtain ⟨r0, rfl, a⟩ := rel_one hr
    cases a
    refine ord_of_one (by rw [lits]; rfl) ?_
    exact h _ _ _ S (.int _ _)

theorem callWith_B {id : String} {e : Expr} {rest : List Expr} {pos : Pos} {env : Env} {M : Model} {A : Around} {E : Value → Shared → Prop} {s : Shared} {Q : Value → Shared → Prop} (h : wpAny M A (spliced (backTo pos (starEach (e :: rest) env))) (fun vs s₁ => wpAny M A (call (.builtin id) vs) Q E s₁) E s)
    (he : starEach (e :: rest) env = (false, eval e env) :: starEach rest env) (hplain : (backTo pos (starEach rest env)).any (·.1) = false) :
    wpAny M A (callWith pos (.builtin id) [] (backTo pos (starEach (e :: rest) env)) []) Q E s := by
  rw [he] at h ⊢
  refine callWith_of (P := fun _ => True) (by show ((false || (backTo pos (starEach rest env)).any (·.1)) || false) = false; rw [hplain]; rfl) (fun h _ => ⟨.machine, .inr (.inl rfl), Looks.of_pure rfl⟩) (evalArgs_plain ?_)
  exact wpAny_mono h (fun vs s' q => ⟨trivial, q⟩) fun _ _ x => x

theorem se_bi (O : Ok K p loose mean mg mb sc cx d) (ko : KOk K T) {k : Nat} (I : All P T C sc cx ρ k) {x : Str} {xp : Pos} {args : List Expr} {pos : Pos} {f : BF} {ms : MEs} (hx : sc.names.lookup x = some .globalImplicit) (hf : biOf x = some f) (h2 : ers sc k args = some ms)
    {H : MHeap} {v : MVal} {H' : MHeap} (hev : evE T C ρ (.bi f ms) H = some (v, H')) :
    EV P sc cx ρ H (eval (.Call (.Name x xp) args [] pos) cx.env) (fun ad r => VRel ad v r) H' := by
  simp only [evE_none, evE_bool, evE_int, evE_str, evE_loc, evE_cel, evE_glob, evE_attr, evE_idx, evE_slc, evE_bin, evE_neg, evE_not, evE_and, evE_or, evE_cmp, evE_inT, evE_eqNil, evE_isN, evE_ite, evE_call, evE_bi, evE_meth, evE_list, evE_tup, evE_dict0, Option.bind_eq_some_iff, Option.map_eq_some_iff] at hev
  obtain ⟨⟨vs, H1⟩, e1, u, e2, e3⟩ := hev
  cases e3
  intro cs fz s Q S hQ
  obtain ⟨m, F, lo⟩ := S.fr
  have key : ∃ id : String, x = Str.ofString id ∧ (id = bfName f) ∧ bootBuiltins x = some (.builtin id) ∧ x ≠ "__name__" ∧ (x == ("__debug__" : Str)) = false ∧ nsIn K mainGlobals x = some none := by
    unfold biOf at hf
    split at hf
    · rename_i q; cases hf; subst q; exact ⟨"len", rfl, rfl, by decide +kernel, by decide +kernel, by decide +kernel, ko.bi _ (by simp)⟩
    · split at hf
      · rename_i q; cases hf; subst q; exact ⟨"abs", rfl, rfl, by decide +kernel, by decide +kernel, by decide +kernel, ko.bi _ (by simp)⟩
      · split at hf
        · rename_i q; cases hf; subst q; exact ⟨"max", rfl, rfl, by decide +kernel, by decide +kernel, by decide +kernel, ko.bi _ (by simp)⟩
        · split at hf
          · rename_i q; cases hf; subst q; exact ⟨"ord", rfl, rfl, by decide +kernel, by decide +kernel, by decide +kernel, ko.bi _ (by simp)⟩
          · cases hf
  obtain ⟨id, hx1, hid, hb, hn, hd, hg⟩ := key
  refine Call_ ?_
  refine Name_function_global O.kind (O.names _ _ hx) (loadGlobal_builtin (mg := mg) (mb := mb) (v := .builtin id) (by rw [O.globals]; exact O.top.g.keeps F.keep) (mg_none_of O.inK O.top.g hg) (by rw [O.builtins]; exact O.top.b.keeps F.keep) ((O.top.builtins x hn).trans hb) ?_) hd
  cases args with
  | nil =>
    have e := ers_nil h2
    subst e
    simp only [evEs_nil, evEs_cons, Option.some.injEq, Prod.mk.injEq] at e1
    obtain ⟨rfl, rfl⟩ := e1
    cases f <;> cases e2
  | cons a r =>
    obtain ⟨k', m1, ms', rfl, h3, h4, rfl⟩ := ers_cons h2
    refine callWith_B ?_ (star_rfl h3 r cx.env) (ers_plain h4 cx.env pos)
    refine I.l _ _ h2 _ _ _ e1 pos cs fz s _ S fun cs1 h1' tk1 rs p1 S1 hr1 => ?_
    exact builtin_ok O e2 (s := { s with heap := h1', toks := tk1 }) S1 hr1 hid fun h' tk r S' hv => hQ cs1 h' tk r p1 S' hv
end
end Mine

end
section
open PySem PySem.W PyProof.Rows PySem.Calls
set_option maxRecDepth 10000
namespace Mine

section
variable {P : PW} {K : Frag} {T : Tab} {W : Nat} {p : Program} {loose : List Str} {mean : ExcName → Option Value} {mg mb : Str → Option Value} {sc : Scope} {cx : Cx} {d : Nat} {ρ : Loc} {C : CallF}

theorem meth_eq {o : Expr} {name : Str} {ap cp : Pos} {args : List Expr} {env : Env} (h1 : ∀ w, attributeBase o name env w = w) (h2 : methodCallForm args.length (backTo cp (starEach args env)) [] = true) (h3 : (ap.endLine == cp.line) = true) :
    eval (.Call (.Attribute o name ap) args [] cp) env = (do
      let ov ← eval o env
      standAt ap.atName
      let __x ← holding [ov] (getMethod ov name (do return (← importBound o env).getD true))
      match __x with | (f, first) => callWith cp f first (backTo cp (starEach args env)) []) := by
  show (do
    let ov ← attributeBase o name env (eval o env)
    standAt ap.atName
    methodCall o name ap cp env ov (args.length + 0) (backTo cp (starEach args env)) []) = _
  rw [h1]
  unfold methodCall calleeOf methodCallPos
  simp only [Nat.add_zero, h2, h3, if_true, Bool.not_true, Bool.false_or]
  rfl

theorem form_ok {es : List Expr} {k : Nat} {ms : MEs} (h : ers sc k es = some ms) (hl : es.length < 20) (env : Env) (pos : Pos) : methodCallForm es.length (backTo pos (starEach es env)) [] = true := by
  unfold methodCallForm
  rw [ers_all h]
  simp
  omega

theorem callWith_B1 {id : String} {self : Value} {e : Expr} {rest : List Expr} {pos : Pos} {env : Env} {M : Model} {A : Around} {E : Value → Shared → Prop} {s : Shared} {Q : Value → Shared → Prop} (h : wpAny M A (spliced (backTo pos (starEach (e :: rest) env))) (fun vs s₁ => wpAny M A (call (.builtin id) (self :: vs)) Q E s₁) E s)
    (he : starEach (e :: rest) env = (false, eval e env) :: starEach rest env) (hplain : (backTo pos (starEach rest env)).any (·.1) = false) :
    wpAny M A (callWith pos (.builtin id) [self] (backTo pos (starEach (e :: rest) env)) []) Q E s := by
  rw [he] at h ⊢
  refine callWith_of (P := fun _ => True) (by show ((false || (backTo pos (starEach rest env)).any (·.1)) || false) = false; rw [hplain]; rfl) (fun h _ => ⟨.machine, .inr (.inl rfl), Looks.of_pure rfl⟩) (evalArgs_plain ?_)
  exact wpAny_mono h (fun vs s' q => ⟨trivial, q⟩) fun _ _ x => x

theorem nm_append : nm ("append" : Str) = some n_append := by decide +kernel
theorem nm_find : nm ("find" : Str) = some n_find := by decide +kernel
theorem find_0 : Txt.find ⟨hexL.toArray⟩ ⟨[48].toArray⟩ = 0 := by decide +kernel
theorem find_1 : Txt.find ⟨hexL.toArray⟩ ⟨[49].toArray⟩ = 1 := by decide +kernel

theorem se_meth (O : Ok K p loose mean mg mb sc cx d) (ko : KOk K T) (CS : CallSnd P K p loose mean mg mb C d) {k : Nat} (I : All P T C sc cx ρ k) {o : Expr} {name : Str} {ap cp : Pos} {args : List Expr} {m1 : ME} {n : Nat} {ms : MEs}
    (h1 : er sc k o = some m1) (hn : nm name = some n) (h2 : ers sc k args = some ms) (h3 : (notSuper o && (ap.endLine == cp.line && Nat.blt args.length 20)) = true)
    {H : MHeap} {v : MVal} {H' : MHeap} (hev : evE T C ρ (.meth m1 n ms) H = some (v, H')) :
    EV P sc cx ρ H (eval (.Call (.Attribute o name ap) args [] cp) cx.env) (fun ad r => VRel ad v r) H' := by
  simp only [Bool.and_eq_true] at h3
  obtain ⟨h3, h4, h5⟩ := h3
  have hl : args.length < 20 := Nat.le_of_ble_eq_true h5
  simp only [evE_none, evE_bool, evE_int, evE_str, evE_loc, evE_cel, evE_glob, evE_attr, evE_idx, evE_slc, evE_bin, evE_neg, evE_not, evE_and, evE_or, evE_cmp, evE_inT, evE_eqNil, evE_isN, evE_ite, evE_call, evE_bi, evE_meth, evE_list, evE_tup, evE_dict0, Option.bind_eq_some_iff] at hev
  obtain ⟨⟨v1, H1⟩, e1, mm, e2, ⟨vs, H2⟩, e3, e4⟩ := hev
  intro cs fz s Q S hQ
  refine MethodCall_ ?_ (meth_eq (fun w => not_super h3 name cx.env w) (form_ok h2 hl cx.env cp) h4)
  refine I.e _ _ h1 _ _ _ e1 cs fz s _ S fun cs1 h1' tk1 r1 p1 S1 hr1 => ?_
  dsimp only at e2
  unfold methOf at e2
  split at e2
  · rename_i i
    split at e2
    · rename_i c fs hi
      split at e2
      · rename_i hlk
        refine mapE e2 fun f hf zq => ?_
        subst zq
        obtain ⟨a, dx, es, nn, hc, rfl, F, It⟩ := inst_at (s := { s with heap := h1', toks := tk1 }) S1 hi hr1
        obtain ⟨m, Fr, _⟩ := S1.fr
        obtain ⟨g, hg⟩ := ko.methC c n f hf
        obtain ⟨q1, q2, q3⟩ := ko.meth c n f name hf hn
        refine method_inst (s := { s with heap := h1', toks := tk1 }) Fr O.inK It (ko.cls c g hg).get q1 q2 (F.miss hn hlk) ?_
        refine callW O I.l h2 (first := [.ref a]) q3 e3 (s := { s with heap := h1', toks := tk1 }) S1 fun cs2 h2' tk2 rs p2 S2 hr => ?_
        refine wpAny_call (CS sc cx ρ cx.A O near_self f _ H2 v H' e4 cs2 fz { s with heap := h2', toks := tk2 } (.ref a :: rs) _ S2 (.cons (hr1.mono p2) hr) fun cs' h' tk r pre S' hv => ?_)
        exact hQ cs' h' tk r (p1.trans (p2.trans pre)) S' hv
      · cases e2
    · rename_i xs hi
      split at e2
      · rename_i hb
        cases e2
        have en : n = n_append := Nat.eq_of_beq_eq_true hb
        subst en
        have hname : name = ("append" : Str) := nm_inj hn nm_append
        subst hname
        obtain ⟨a, nn, rs0, rfl, hc, hl', R⟩ := list_at (s := { s with heap := h1', toks := tk1 }) S1 hi hr1
        refine getMethod_list_append (S1.nw _ (List.mem_append_left _ (mem_led hc))).1 rfl rfl ?_
        unfold methCall at e4
        dsimp only at e4
        split at e4
        · rename_i x ys ho
          split at e4
          · rename_i hz
            cases e4
            cases args with
            | nil =>
              have e := ers_nil h2
              subst e
              simp [evEs_nil, evEs_cons] at e3
            | cons b r =>
              obtain ⟨k', m1', ms', rfl, h6, h7, rfl⟩ := ers_cons h2
              refine callWith_B1 ?_ (star_rfl h6 r cx.env) (ers_plain h7 cx.env cp)
              refine I.l _ _ h2 _ _ _ e3 cp cs1 fz { s with heap := h1', toks := tk1 } _ S1 fun cs2 h2' tk2 rs p2 S2 hr => ?_
              cases hr with
              | @cons _ r2 _ _ hv hr =>
                cases hr
                obtain ⟨a', n', rs', e5, hc', hl2, R'⟩ := list_at (s := { s with heap := h2', toks := tk2 }) S2 ho (hr1.mono p2)
                cases e5
                have hp : Heap.PlainList h2' a rs'.toArray := ⟨n', (S2.nw _ (List.mem_append_left _ (mem_led hc'))).1⟩
                refine wpAny_list_append_plain (s := { s with heap := h2', toks := tk2 }) hp (fun h3 hp3 hs => ?_) (by rw [List.size_toArray, R'.length]; exact Nat.le_trans (Nat.le_of_lt hz) szLine_le)
                obtain ⟨n3, hg3⟩ := hp3
                rw [show (rs'.toArray.push r2) = (rs' ++ [r2]).toArray by simp] at hg3
                obtain ⟨cs', ea, S'⟩ := change_one (s := { s with heap := h2', toks := tk2 }) S2 (m := .list (ys ++ [x])) hc' hs hg3 (.list (R'.append (.cons hv .nil)))
                exact hQ cs' h3 tk2 _ (p1.trans (p2.trans (ea ▸ Pre.refl _))) S' .none
          · cases e4
        · cases e4
      · cases e2
    · cases e2
  · rename_i l
    split at e2
    · rename_i hb
      cases e2
      have en : n = n_find := Nat.eq_of_beq_eq_true hb
      subst en
      have hname : name = ("find" : Str) := nm_inj hn nm_find
      subst hname
      cases hr1 with
      | str _ t =>
        refine GM.find ?_
        unfold methCall at e4
        dsimp only at e4
        split at e4
        · rename_i c
          split at e4
          · rename_i hz
            cases e4
            cases args with
            | nil =>
              have e := ers_nil h2
              subst e
              simp [evEs_nil, evEs_cons] at e3
            | cons b r =>
              obtain ⟨k', m1', ms', rfl, h6, h7, rfl⟩ := ers_cons h2
              refine callWith_B1 ?_ (star_rfl h6 r cx.env) (ers_plain h7 cx.env cp)
              refine I.l _ _ h2 _ _ _ e3 cp cs1 fz { s with heap := h1', toks := tk1 } _ S1 fun cs2 h2' tk2 rs p2 S2 hr => ?_
              cases hr with
              | cons hv hr =>
                cases hr
                cases hv
                refine SC.find ?_
                obtain ⟨rfl, rfl | rfl⟩ := hz
                · rw [find_0]; exact hQ cs2 h2' _ _ (p1.trans p2) S2 (.int _ _)
                · rw [find_1]; exact hQ cs2 h2' _ _ (p1.trans p2) S2 (.int _ _)
          · cases e4
        · cases e4
    · cases e2
  · cases e2

theorem evEs_len : ∀ (ms : MEs) (H : MHeap) (vs : List MVal) (H' : MHeap) (k : Nat) (es : List Expr), ers sc k es = some ms → evEs T C ρ ms H = some (vs, H') → vs.length = es.length
  | .nil, H, vs, H', k, es, h, e => by
    cases es with
    | nil => simp [evEs_nil, evEs_cons] at e; simp [e.1.symm]
    | cons a r => obtain ⟨_, _, _, _, _, _, q⟩ := ers_cons h; cases q
  | .cons m ms, H, vs, H', k, es, h, e => by
    cases es with
    | nil => have := ers_nil h; cases this
    | cons a r =>
      obtain ⟨k', m', ms', rfl, h1, h2, q⟩ := ers_cons h
      cases q
      simp only [evEs_nil, evEs_cons, Option.bind_eq_some_iff, Option.map_eq_some_iff] at e
      obtain ⟨⟨v, H1⟩, _, ⟨vs', H2⟩, e2, e3⟩ := e
      cases e3
      simp [evEs_len ms _ _ _ _ _ h2 e2]

theorem ers_len : ∀ (es : List Expr) (k : Nat) (ms : MEs), ers sc k es = some ms → es.length ≤ k
  | [], _, _, _ => Nat.zero_le _
  | e :: r, k, ms, h => by
    obtain ⟨k', m', ms', rfl, h1, h2, q⟩ := ers_cons h
    have := ers_len r k' ms' h2
    simp only [List.length_cons]; omega

theorem se_list (O : Ok K p loose mean mg mb sc cx d) {k : Nat} (hk : k ≤ 1000) (I : All P T C sc cx ρ k) {es : List Expr} {pos : Pos} {ms : MEs} (h1 : ers sc k es = some ms) {H : MHeap} {v : MVal} {H' : MHeap} (hev : evE T C ρ (.list ms) H = some (v, H')) :
    EV P sc cx ρ H (eval (.List es pos) cx.env) (fun ad r => VRel ad v r) H' := by
  simp only [evE_none, evE_bool, evE_int, evE_str, evE_loc, evE_cel, evE_glob, evE_attr, evE_idx, evE_slc, evE_bin, evE_neg, evE_not, evE_and, evE_or, evE_cmp, evE_inT, evE_eqNil, evE_isN, evE_ite, evE_call, evE_bi, evE_meth, evE_list, evE_tup, evE_dict0, Option.map_eq_some_iff] at hev
  obtain ⟨⟨vs, H1⟩, e1, e2⟩ := hev
  cases e2
  intro cs fz s Q S hQ
  have hl := evEs_len ms _ _ _ _ _ h1 e1
  have hl2 := ers_len es k ms h1
  refine List_ (I.l _ _ h1 _ _ _ e1 pos cs fz s _ S fun cs1 h1' tk1 rs p1 S1 hr => ?_)
  exact snoc_list (s := { s with heap := h1', toks := tk1 }) S1 hr (by rw [szLine_is]; omega) fun cs' h' tk r pre S' hv => hQ cs' h' tk r (p1.trans pre) S' hv
theorem se_tup (O : Ok K p loose mean mg mb sc cx d) {k : Nat} (hk : k ≤ 1000) (I : All P T C sc cx ρ k) {es : List Expr} {q : Nat} {pos : Pos} {ms : MEs} (h1 : ers sc k es = some ms) {H : MHeap} {v : MVal} {H' : MHeap} (hev : evE T C ρ (.tup ms) H = some (v, H')) :
    EV P sc cx ρ H (eval (.Tuple es q pos) cx.env) (fun ad r => VRel ad v r) H' := by
  simp only [evE_none, evE_bool, evE_int, evE_str, evE_loc, evE_cel, evE_glob, evE_attr, evE_idx, evE_slc, evE_bin, evE_neg, evE_not, evE_and, evE_or, evE_cmp, evE_inT, evE_eqNil, evE_isN, evE_ite, evE_call, evE_bi, evE_meth, evE_list, evE_tup, evE_dict0, Option.map_eq_some_iff] at hev
  obtain ⟨⟨vs, H1⟩, e1, e2⟩ := hev
  cases e2
  intro cs fz s Q S hQ
  have hl := evEs_len ms _ _ _ _ _ h1 e1
  have hl2 := ers_len es k ms h1
  refine Tuple_ (I.l _ _ h1 _ _ _ e1 pos cs fz s _ S fun cs1 h1' tk1 rs p1 S1 hr => ?_)
  exact snoc_tup (s := { s with heap := h1', toks := tk1 }) S1 hr (by rw [szLine_is]; omega) fun cs' h' tk r pre S' hv => hQ cs' h' tk r (p1.trans pre) S' hv
theorem se_dict (O : Ok K p loose mean mg mb sc cx d) {pos : Pos} {H : MHeap} {v : MVal} {H' : MHeap} (hev : evE T C ρ .dict0 H = some (v, H')) :
    EV P sc cx ρ H (eval (.Dict [] [] pos) cx.env) (fun ad r => VRel ad v r) H' := by
  simp only [evE_none, evE_bool, evE_int, evE_str, evE_loc, evE_cel, evE_glob, evE_attr, evE_idx, evE_slc, evE_bin, evE_neg, evE_not, evE_and, evE_or, evE_cmp, evE_inT, evE_eqNil, evE_isN, evE_ite, evE_call, evE_bi, evE_meth, evE_list, evE_tup, evE_dict0, Option.some.injEq, Prod.mk.injEq] at hev
  obtain ⟨rfl, rfl⟩ := hev
  intro cs fz s Q S hQ
  rw [eval_Dict_empty]
  refine wpAny_bind (wpAny_standAt ?_)
  exact snoc_dict S O.top.nolimit fun cs' h' tk r pre S' hv => hQ cs' h' tk r pre S' hv
end
end Mine

end
section
open PySem PySem.W PyProof.Rows PySem.Calls
set_option maxRecDepth 10000
namespace Mine

section
variable {P : PW} {K : Frag} {T : Tab} {W : Nat} {p : Program} {loose : List Str} {mean : ExcName → Option Value} {mg mb : Str → Option Value} {sc : Scope} {cx : Cx} {d : Nat} {ρ : Loc} {C : CallF}

theorem cmp_test {M : Model} {A : Around} {E : Value → Shared → Prop} {s : Shared} {env : Env} {l r : Expr} {op : CmpOp} {pos : Pos} {whole : Sem Value} {Q : Bool → Shared → Prop}
    (h : wpAny M A (eval (.Compare l [op] [r] pos) env) (fun c s' => wpAny M A (truthy c) Q E s') E s) : wpAny M A (isTrue (.Compare l [op] [r] pos) env whole) Q E s := by
  have e : isTrue (.Compare l [op] [r] pos) env whole = (eval (.Compare l [op] [r] pos) env >>= fun c => holding [c] (truthy c)) := by
    show (eval l env >>= fun a => testChain pos a [op] (markedEach [op] [r] [eval r env])) = ((eval l env >>= fun a => compareChain pos a [op] (markedEach [op] [r] [eval r env])) >>= _)
    rw [bind_assoc]
    refine congrArg (eval l env >>= ·) (funext fun a => ?_)
    show (holding [a] (markedBehindIn op r (eval r env)) >>= fun rv => standAt pos >>= fun _ => operate [a, rv] (compareOp op a rv) >>= fun c => holding [c] (truthy c)) = ((holding [a] (markedBehindIn op r (eval r env)) >>= fun rv => standAt pos >>= fun _ => operate [a, rv] (compareOp op a rv)) >>= fun c => holding [c] (truthy c))
    rw [bind_assoc]
    refine congrArg (_ >>= ·) (funext fun rv => ?_)
    rw [bind_assoc]
  rw [e]
  exact wpAny_bind (wpAny_mono h (fun c s' q => wpAny_holding q) fun _ _ x => x)

/-- a test that is told by its value -/
theorem st_plain {e : Expr} {m : ME} {H : MHeap} {b : Bool} {H' : MHeap} (hev : (evE T C ρ m H).bind (fun (v, H1) => (truth v).map (·, H1)) = some (b, H')) (hE : ∀ v H1, evE T C ρ m H = some (v, H1) → EV P sc cx ρ H (eval e cx.env) (fun ad r => VRel ad v r) H1)
    (hp : ∀ (E : Value → Shared → Prop) (s : Shared) (Q : Bool → Shared → Prop), wpAny (model P.1 P.2) cx.A (eval e cx.env) (fun v s₁ => wpAny (model P.1 P.2) cx.A (truthy v) Q E s₁) E s → wpAny (model P.1 P.2) cx.A (isTrue e cx.env (eval e cx.env)) Q E s) :
    EV P sc cx ρ H (isTrue e cx.env (eval e cx.env)) (fun _ r => r = b) H' := by
  simp only [Option.bind_eq_some_iff, Option.map_eq_some_iff] at hev
  obtain ⟨⟨v, H1⟩, e1, b', e2, e3⟩ := hev
  cases e3
  intro cs fz s Q S hQ
  refine hp _ _ _ (hE v H1 e1 cs fz s _ S fun cs1 h1' tk1 r1 p1 S1 hr1 => ?_)
  exact truth_ok (s := { s with heap := h1', toks := tk1 }) hr1 e2 (hQ cs1 h1' tk1 b p1 S1 rfl)

theorem se_step (O : Ok K p loose mean mg mb sc cx d) (ko : KOk K T) (fn : ∀ a I, T.fn a = some I → FnOk K a I) (CS : CallSnd P K p loose mean mg mb C d) {k : Nat} (hk : k ≤ 1000) (I : All P T C sc cx ρ k) : SE P T C sc cx ρ (k + 1) := by
  intro e m he H v H' hev
  cases e with
  | Constant c n pos => exact se_const he hev
  | Name x pos => exact se_name O ko he hev
  | Attribute e a pos => exact se_attr O ko I he hev
  | Subscript e i pos =>
    refine bindE he fun m1 h1 he => ?_
    cases hs : sliceOf i with
    | none =>
      rw [hs] at he
      refine mapE he fun m2 h2 zq => ?_
      subst zq
      exact se_idx O I h1 h2 hev
    | some x =>
      rw [hs] at he
      obtain ⟨lo, hi, st⟩ := x
      obtain ⟨q, rfl⟩ := sliceOf_ok hs
      cases lo with
      | none => cases he
      | some lo => cases hi with
        | none => cases he
        | some hi => cases st with
          | some _ => cases he
          | none =>
            have he : ((er sc k lo).bind fun a => (er sc k hi).map fun b => ME.slc m1 a b) = some m := he
            refine bindE he fun m2 h2 he => ?_
            refine mapE he fun m3 h3 zq => ?_
            subst zq
            exact se_slc O I h1 h2 h3 hev
  | BinOp a op b pos =>
    refine bindE he fun m1 h1 he => ?_
    refine bindE he fun o ho he => ?_
    refine mapE he fun m2 h2 zq => ?_
    subst zq
    exact se_bin O I h1 ho h2 hev
  | UnaryOp op e pos =>
    cases op with
    | Not =>
      refine mapE he fun m1 h1 zq => ?_
      subst zq
      exact se_not O I h1 hev
    | USub =>
      refine mapE he fun i h1 zq => ?_
      subst zq
      obtain ⟨n, q, rfl⟩ := intOf_ok h1
      exact se_neg hev
    | _ => cases he
  | BoolOp op es pos =>
    refine mapE he fun ms h1 zq => ?_
    subst zq
    cases op with
    | And => exact I.a _ _ h1 _ _ _ hev pos
    | Or => exact I.o _ _ h1 _ _ _ hev pos
  | Compare l ops rs pos =>
    refine bindE he fun op ho he => ?_
    refine bindE he fun b hb he => ?_
    refine bindE he fun m1 h1 g => ?_
    have := one_ok ho; subst this
    have := one_ok hb; subst this
    cases hs : special op b with
    | none =>
      rw [hs] at g
      refine bindE g fun o ho g => ?_
      refine mapE g fun m2 h2 zq => ?_
      subst zq
      exact se_cmp O I h1 ho h2 hev
    | some sp =>
      rw [hs] at g
      cases g
      cases op with
      | Is =>
        refine mapE hs fun u h2 zq => ?_
        subst zq
        obtain ⟨n, q, rfl⟩ := noneOf_ok h2
        exact se_isN O I false h1 hev
      | IsNot =>
        refine mapE hs fun u h2 zq => ?_
        subst zq
        obtain ⟨n, q, rfl⟩ := noneOf_ok h2
        exact se_isN O I true h1 hev
      | In =>
        refine bindE hs fun es h2 hs => ?_
        refine bindE hs fun ls h3 hs3 => ?_
        obtain ⟨n, q, rfl⟩ := tupOf_ok h2
        by_cases hl : (Nat.ble ls.length 100 && Nat.blt 0 ls.length) = true
        · rw [if_pos hl] at hs3
          cases hs3
          exact se_inT O I h1 h3 (Nat.le_of_ble_eq_true (Bool.and_eq_true_iff.mp hl).1) hev
        · rw [if_neg hl] at hs3; cases hs3
      | Eq =>
        refine bindE hs fun es h2 hs => ?_
        obtain ⟨q, rfl⟩ := listOf_ok h2
        cases es with
        | nil => cases hs; exact se_eqNil O I false h1 hev
        | cons _ _ => cases hs
      | NotEq =>
        refine bindE hs fun es h2 hs => ?_
        obtain ⟨q, rfl⟩ := listOf_ok h2
        cases es with
        | nil => cases hs; exact se_eqNil O I true h1 hev
        | cons _ _ => cases hs
      | _ => cases hs
  | IfExp c a b pos =>
    refine bindE he fun m1 h1 he => ?_
    refine bindE he fun m2 h2 he => ?_
    refine mapE he fun m3 h3 zq => ?_
    subst zq
    exact se_ite O I h1 h2 h3 hev
  | Call f args kws pos =>
    cases kws with
    | cons _ _ => cases he
    | nil =>
      refine bindE he fun ms h2 he => ?_
      cases ha : attrOf f with
      | some x =>
        rw [ha] at he
        obtain ⟨o, name, ap⟩ := x
        have := attrOf_ok ha; subst this
        refine bindE he fun m1 h1 he => ?_
        refine bindE he fun n hn he => ?_
        by_cases h3 : (notSuper o && (ap.endLine == pos.line && Nat.blt args.length 20)) = true
        · simp only [h3, if_true] at he
          cases he
          exact se_meth O ko CS I h1 hn h2 h3 hev
        · simp only [h3, if_false] at he; cases he
      | none =>
        rw [ha] at he
        refine bindE he fun x hx he => ?_
        obtain ⟨q, rfl⟩ := nameOf_ok hx
        cases hb : biOf x with
        | some g =>
          rw [hb] at he
          refine bindE he fun kd hk he => ?_
          cases kd with
          | globalImplicit => cases he; exact se_bi O ko I hk hb h2 hev
          | _ => cases he
        | none =>
          rw [hb] at he
          refine mapE he fun m1 h1 zq => ?_
          subst zq
          exact se_call O ko fn CS I h1 h2 hev
  | List es pos =>
    refine mapE he fun ms h1 zq => ?_
    subst zq
    exact se_list O hk I h1 hev
  | Tuple es q pos =>
    refine mapE he fun ms h1 zq => ?_
    subst zq
    exact se_tup O hk I h1 hev
  | Dict ks vs pos =>
    cases ks with
    | cons _ _ => cases he
    | nil => cases vs with
      | cons _ _ => cases he
      | nil => cases he; exact se_dict O hev
  | _ => cases he
end
end Mine

end
section
open PySem PySem.W PyProof.Rows PySem.Calls
set_option maxRecDepth 10000
namespace Mine

theorem er_const {k : Nat} {c : Const} {n : Nat} {q : Pos} {m : ME} {sc : Scope} (he : er sc (k + 1) (.Constant c n q) = some m) : isPlainT m = true := by
  cases c <;> first | (cases he; rfl) | (cases he; done)

noncomputable def hp : Expr → Bool
  | .UnaryOp .Not _ _ => false
  | .BoolOp _ _ _ => false
  | .IfExp _ _ _ _ => false
  | _ => true
theorem er_pl {sc : Scope} {k : Nat} {e : Expr} {m : ME} (he : er sc (k + 1) e = some m) (h : hp e = true) : isPlainT m = true := by
  cases e with
  | Constant c n q => exact er_const he
  | Name x q =>
    refine bindE he fun n hx he => ?_
    refine bindE he fun kd hk he => ?_
    cases kd <;> first | (cases he; rfl) | (cases he; done)
  | Attribute o a q =>
    refine bindE he fun m1 h1 he => ?_
    refine bindE he fun n hn he => ?_
    by_cases h3 : notSuper o = true
    · rw [if_pos h3] at he; cases he; rfl
    · rw [if_neg h3] at he; cases he
  | Subscript o i q =>
    refine bindE he fun m1 h1 he => ?_
    cases hs : sliceOf i with
    | none =>
      rw [hs] at he
      refine mapE he fun m2 h2 zq => ?_
      subst zq
      rfl
    | some x =>
      rw [hs] at he
      obtain ⟨lo, hi, st⟩ := x
      cases lo with
      | none => cases he
      | some lo => cases hi with
        | none => cases he
        | some hi => cases st with
          | some _ => cases he
          | none =>
            have he : ((er sc k lo).bind fun a => (er sc k hi).map fun b => ME.slc m1 a b) = some m := he
            refine bindE he fun m2 h2 he => ?_
            refine mapE he fun m3 h3 zq => ?_
            subst zq
            rfl
  | BinOp a op c q =>
    refine bindE he fun m1 h1 he => ?_
    refine bindE he fun o ho he => ?_
    refine mapE he fun m2 h2 zq => ?_
    subst zq
    rfl
  | Compare l ops rs pos =>
    refine bindE he fun op ho he => ?_
    refine bindE he fun r hb he => ?_
    refine bindE he fun m1 h1 g => ?_
    have := one_ok ho; subst this
    have := one_ok hb; subst this
    cases hs : special op r with
    | none =>
      rw [hs] at g
      refine bindE g fun o ho g => ?_
      refine mapE g fun m2 h2 zq => ?_
      subst zq
      rfl
    | some sp =>
      rw [hs] at g
      cases g
      cases sp <;> rfl
  | Call f args kws pos =>
    cases kws with
    | cons _ _ => cases he
    | nil =>
      refine bindE he fun ms h2 he => ?_
      cases ha : attrOf f with
      | some x =>
        rw [ha] at he
        refine bindE he fun m1 h1 he => ?_
        refine bindE he fun n hn he => ?_
        split at he
        · cases he; rfl
        · cases he
      | none =>
        rw [ha] at he
        refine bindE he fun x hx he => ?_
        cases hb : biOf x with
        | some g =>
          rw [hb] at he
          refine bindE he fun kd hk he => ?_
          cases kd with
          | globalImplicit => cases he; rfl
          | _ => cases he
        | none =>
          rw [hb] at he
          refine mapE he fun m1 h1 zq => ?_
          subst zq
          rfl
  | List es pos =>
    refine mapE he fun ms h1 zq => ?_
    subst zq
    rfl
  | Tuple es q pos =>
    refine mapE he fun ms h1 zq => ?_
    subst zq
    rfl
  | UnaryOp op e pos =>
    cases op with
    | Not => cases h
    | USub =>
      refine mapE he fun m1 h1 zq => ?_
      subst zq
      rfl
    | _ => cases he
  | BoolOp op es pos => cases h
  | IfExp c a b pos => cases h
  | Dict ks vs pos =>
    cases ks with
    | cons _ _ => cases he
    | nil => cases vs with
      | cons _ _ => cases he
      | nil => cases he; rfl
  | _ => cases he

section
variable {P : PW} {K : Frag} {T : Tab} {W : Nat} {p : Program} {loose : List Str} {mean : ExcName → Option Value} {mg mb : Str → Option Value} {sc : Scope} {cx : Cx} {d : Nat} {ρ : Loc} {C : CallF}

theorem st_step (O : Ok K p loose mean mg mb sc cx d) {k : Nat} (I : All P T C sc cx ρ k) (hE : SE P T C sc cx ρ (k + 1)) : ST P T C sc cx ρ (k + 1) := by
  intro e m he H b H' hev
  have plain : ∀ (_ : isPlainT m = true) (_ : ∀ (E : Value → Shared → Prop) (s : Shared) (Q : Bool → Shared → Prop), wpAny (model P.1 P.2) cx.A (eval e cx.env) (fun v s₁ => wpAny (model P.1 P.2) cx.A (truthy v) Q E s₁) E s → wpAny (model P.1 P.2) cx.A (isTrue e cx.env (eval e cx.env)) Q E s),
      EV P sc cx ρ H (isTrue e cx.env (eval e cx.env)) (fun _ r => r = b) H' := by
    intro hh hp
    rw [evT_plain T C ρ H hh] at hev
    exact st_plain hev (fun v H1 e1 => hE _ _ he _ _ _ e1) hp
  cases e with
  | UnaryOp op e pos =>
    cases op with
    | Not =>
      refine mapE he fun m1 h1 zq => ?_
      subst zq
      simp only [evT_not, Option.map_eq_some_iff] at hev
      obtain ⟨⟨b1, H1⟩, e1, e2⟩ := hev
      cases e2
      intro cs fz s Q S hQ
      refine isTrue_not (I.t _ _ h1 _ _ _ e1 cs fz s _ S fun cs1 h1' tk1 r1 p1 S1 hr1 => ?_)
      subst hr1
      exact hQ cs1 h1' tk1 _ p1 S1 rfl
    | _ => exact plain (er_pl he rfl) fun E s Q h => isTrue_plain h rfl
  | BoolOp op es pos =>
    refine mapE he fun ms h1 zq => ?_
    subst zq
    cases op with
    | And => rw [show evT T C ρ (ME.and ms) H = evAll T C ρ ms H from evT_and T C ρ H ms] at hev; exact I.al _ _ h1 _ _ _ hev pos _
    | Or => rw [show evT T C ρ (ME.or ms) H = evAny T C ρ ms H from evT_or T C ρ H ms] at hev; exact I.an _ _ h1 _ _ _ hev pos _
  | IfExp c a b' pos =>
    refine bindE he fun m1 h1 he => ?_
    refine bindE he fun m2 h2 he => ?_
    refine mapE he fun m3 h3 zq => ?_
    subst zq
    simp only [evT_ite, Option.bind_eq_some_iff] at hev
    obtain ⟨⟨t, H1⟩, e1, e2⟩ := hev
    intro cs fz s Q S hQ
    refine isTrue_IfExp (I.t _ _ h1 _ _ _ e1 cs fz s _ S fun cs1 h1' tk1 r1 p1 S1 hr1 => ?_)
    subst hr1
    cases r1 with
    | true => exact I.t _ _ h2 _ _ _ e2 cs1 fz { s with heap := h1', toks := tk1 } _ S1 fun cs' h' tk r pre S' hr => hQ cs' h' tk r (p1.trans pre) S' hr
    | false => exact I.t _ _ h3 _ _ _ e2 cs1 fz { s with heap := h1', toks := tk1 } _ S1 fun cs' h' tk r pre S' hr => hQ cs' h' tk r (p1.trans pre) S' hr
  | Compare l ops rs pos =>
    refine bindE he fun op ho g => ?_
    refine bindE g fun r hb g => ?_
    have := one_ok ho; subst this
    have := one_ok hb; subst this
    exact plain (er_pl he rfl) fun E s Q h => cmp_test h
  | _ => exact plain (er_pl he rfl) fun E s Q h => isTrue_plain h rfl

theorem sl_step {k : Nat} (I : All P T C sc cx ρ k) : SL P T C sc cx ρ (k + 1) := by
  intro es ms he H vs H' hev pos
  cases es with
  | nil =>
    have e := ers_nil he
    subst e
    simp only [evEs_nil, evEs_cons, Option.some.injEq, Prod.mk.injEq] at hev
    obtain ⟨rfl, rfl⟩ := hev
    intro cs fz s Q S hQ
    exact spliced_none (hQ cs s.heap s.toks [] (Pre.refl _) S .nil)
  | cons e r =>
    obtain ⟨k', m1, ms', hk, h1, h2, rfl⟩ := ers_cons he
    cases hk
    simp only [evEs_nil, evEs_cons, Option.bind_eq_some_iff, Option.map_eq_some_iff] at hev
    obtain ⟨⟨v, H1⟩, e1, ⟨vs', H2⟩, e2, e3⟩ := hev
    cases e3
    intro cs fz s Q S hQ
    refine spliced_more (I.e _ _ h1 _ _ _ e1 cs fz s _ S fun cs1 h1' tk1 r1 p1 S1 hr1 => ?_) (star_rfl h1 r cx.env)
    refine I.l _ _ h2 _ _ _ e2 pos cs1 fz { s with heap := h1', toks := tk1 } _ S1 fun cs2 h2' tk2 rs p2 S2 hr => ?_
    exact hQ cs2 h2' tk2 _ (p1.trans p2) S2 (.cons (hr1.mono p2) hr)

theorem sand_step {k : Nat} (I : All P T C sc cx ρ k) : SAnd P T C sc cx ρ (k + 1) := by
  intro es ms he H v H' hev pos
  cases es with
  | nil => have e := ers_nil he; subst e; simp [evAnd_nil, evAnd_one, evAnd_two] at hev
  | cons e r =>
    obtain ⟨k', m1, ms', hk, h1, h2, rfl⟩ := ers_cons he
    cases hk
    cases r with
    | nil =>
      have e := ers_nil h2
      subst e
      simp only [evAnd_nil, evAnd_one, evAnd_two] at hev
      intro cs fz s Q S hQ
      exact BoolOp_one (I.e _ _ h1 _ _ _ hev cs fz s Q S hQ)
    | cons e' r' =>
      have q := h2
      obtain ⟨k2, m2, ms2, hk2, h3, h4, rfl⟩ := ers_cons h2
      simp only [evAnd_nil, evAnd_one, evAnd_two, Option.bind_eq_some_iff] at hev
      obtain ⟨⟨v1, H1⟩, e1, t, e2, e3⟩ := hev
      intro cs fz s Q S hQ
      refine BoolOp_and (I.e _ _ h1 _ _ _ e1 cs fz s _ S fun cs1 h1' tk1 r1 p1 S1 hr1 => ?_)
      refine truth_ok (s := { s with heap := h1', toks := tk1 }) hr1 e2 ?_
      cases t with
      | true =>
        simp only [if_true] at e3 ⊢
        exact I.a _ _ q _ _ _ e3 pos cs1 fz { s with heap := h1', toks := tk1 } _ S1 fun cs' h' tk r pre S' hr => hQ cs' h' tk r (p1.trans pre) S' hr
      | false =>
        simp only [Bool.false_eq_true, if_false] at e3 ⊢
        cases e3
        exact hQ cs1 h1' tk1 r1 p1 S1 hr1
theorem sor_step {k : Nat} (I : All P T C sc cx ρ k) : SOr P T C sc cx ρ (k + 1) := by
  intro es ms he H v H' hev pos
  cases es with
  | nil => have e := ers_nil he; subst e; simp [evOr_nil, evOr_one, evOr_two] at hev
  | cons e r =>
    obtain ⟨k', m1, ms', hk, h1, h2, rfl⟩ := ers_cons he
    cases hk
    cases r with
    | nil =>
      have e := ers_nil h2
      subst e
      simp only [evOr_nil, evOr_one, evOr_two] at hev
      intro cs fz s Q S hQ
      exact BoolOp_one (I.e _ _ h1 _ _ _ hev cs fz s Q S hQ)
    | cons e' r' =>
      have q := h2
      obtain ⟨k2, m2, ms2, hk2, h3, h4, rfl⟩ := ers_cons h2
      simp only [evOr_nil, evOr_one, evOr_two, Option.bind_eq_some_iff] at hev
      obtain ⟨⟨v1, H1⟩, e1, t, e2, e3⟩ := hev
      intro cs fz s Q S hQ
      refine BoolOp_or (I.e _ _ h1 _ _ _ e1 cs fz s _ S fun cs1 h1' tk1 r1 p1 S1 hr1 => ?_)
      refine truth_ok (s := { s with heap := h1', toks := tk1 }) hr1 e2 ?_
      cases t with
      | false =>
        simp only [Bool.false_eq_true, if_false] at e3 ⊢
        exact I.o _ _ q _ _ _ e3 pos cs1 fz { s with heap := h1', toks := tk1 } _ S1 fun cs' h' tk r pre S' hr => hQ cs' h' tk r (p1.trans pre) S' hr
      | true =>
        simp only [if_true] at e3 ⊢
        cases e3
        exact hQ cs1 h1' tk1 r1 p1 S1 hr1
theorem sall_step {k : Nat} (I : All P T C sc cx ρ k) : SAll P T C sc cx ρ (k + 1) := by
  intro es ms he H b H' hev pos whole
  cases es with
  | nil =>
    have e := ers_nil he; subst e
    simp only [evAll_nil, evAll_cons, Option.some.injEq, Prod.mk.injEq] at hev
    obtain ⟨rfl, rfl⟩ := hev
    intro cs fz s Q S hQ
    exact isTrue_and_nil (hQ cs s.heap s.toks _ (Pre.refl _) S rfl)
  | cons e r =>
    obtain ⟨k', m1, ms', hk, h1, h2, rfl⟩ := ers_cons he
    cases hk
    simp only [evAll_nil, evAll_cons, Option.bind_eq_some_iff] at hev
    obtain ⟨⟨t, H1⟩, e1, e2⟩ := hev
    intro cs fz s Q S hQ
    refine isTrue_and (I.t _ _ h1 _ _ _ e1 cs fz s _ S fun cs1 h1' tk1 r1 p1 S1 hr1 => ?_)
    subst hr1
    cases r1 with
    | true =>
      simp only [if_true] at e2 ⊢
      exact I.al _ _ h2 _ _ _ e2 pos whole cs1 fz { s with heap := h1', toks := tk1 } _ S1 fun cs' h' tk r pre S' hr => hQ cs' h' tk r (p1.trans pre) S' hr
    | false =>
      simp only [Bool.false_eq_true, if_false] at e2 ⊢
      cases e2
      exact hQ cs1 h1' tk1 _ p1 S1 rfl
theorem sany_step {k : Nat} (I : All P T C sc cx ρ k) : SAny P T C sc cx ρ (k + 1) := by
  intro es ms he H b H' hev pos whole
  cases es with
  | nil =>
    have e := ers_nil he; subst e
    simp only [evAny_nil, evAny_cons, Option.some.injEq, Prod.mk.injEq] at hev
    obtain ⟨rfl, rfl⟩ := hev
    intro cs fz s Q S hQ
    exact isTrue_or_nil (hQ cs s.heap s.toks _ (Pre.refl _) S rfl)
  | cons e r =>
    obtain ⟨k', m1, ms', hk, h1, h2, rfl⟩ := ers_cons he
    cases hk
    simp only [evAny_nil, evAny_cons, Option.bind_eq_some_iff] at hev
    obtain ⟨⟨t, H1⟩, e1, e2⟩ := hev
    intro cs fz s Q S hQ
    refine isTrue_or (I.t _ _ h1 _ _ _ e1 cs fz s _ S fun cs1 h1' tk1 r1 p1 S1 hr1 => ?_)
    subst hr1
    cases r1 with
    | false =>
      simp only [Bool.false_eq_true, if_false] at e2 ⊢
      exact I.an _ _ h2 _ _ _ e2 pos whole cs1 fz { s with heap := h1', toks := tk1 } _ S1 fun cs' h' tk r pre S' hr => hQ cs' h' tk r (p1.trans pre) S' hr
    | true =>
      simp only [if_true] at e2 ⊢
      cases e2
      exact hQ cs1 h1' tk1 _ p1 S1 rfl

theorem all_k (O : Ok K p loose mean mg mb sc cx d) (ko : KOk K T) (fn : ∀ a I, T.fn a = some I → FnOk K a I) (CS : CallSnd P K p loose mean mg mb C d) : ∀ k, k ≤ 1000 → All P T C sc cx ρ k := by
  intro k
  induction k with
  | zero =>
    intro _
    refine ⟨?_, ?_, ?_, ?_, ?_, ?_, ?_⟩
    · intro e m he; cases he
    · intro e m he; cases he
    · intro e m he; cases he
    · intro e m he; cases he
    · intro e m he; cases he
    · intro e m he; cases he
    · intro e m he; cases he
  | succ k ih =>
    intro hk
    have I : All P T C sc cx ρ k := ih (by omega)
    have hE := se_step O ko fn CS (by omega) I
    exact ⟨hE, st_step O I hE, sl_step I, sand_step I, sor_step I, sall_step I, sany_step I⟩
end
end Mine

end
section
open PySem PySem.W PyProof.Rows PySem.Calls
set_option maxRecDepth 10000
namespace Mine

section
variable {P : PW} {K : Frag} {T : Tab} {W : Nat} {p : Program} {loose : List Str} {mean : ExcName → Option Value} {mg mb : Str → Option Value} {sc : Scope} {cx : Cx} {d : Nat} {ρ : Loc} {C : CallF}

theorem lk_put (n m : Nat) (v : MVal) : ∀ ρ : Loc, lk n (put m v ρ) = if n = m then some v else lk n ρ
  | [] => by
    unfold put lk
    by_cases h : n = m
    · subst h; simp
    · have hb : Nat.beq n m = false := by
        cases hq : Nat.beq n m with
        | false => rfl
        | true => exact absurd (Nat.eq_of_beq_eq_true hq) h
      simp [hb, h, lk]
  | (y, u) :: r => by
    have ih := lk_put n m v r
    unfold put
    by_cases h : m = y
    · subst h
      simp only [Nat.beq_refl, if_true]
      by_cases q : n = m
      · subst q; simp [lk]
      · have hb : Nat.beq n m = false := by
          cases hq : Nat.beq n m with
          | false => rfl
          | true => exact absurd (Nat.eq_of_beq_eq_true hq) q
        simp [lk, hb, q]
    · have hb : Nat.beq m y = false := by
        cases hq : Nat.beq m y with
        | false => rfl
        | true => exact absurd (Nat.eq_of_beq_eq_true hq) h
      simp only [hb, Bool.false_eq_true, if_false]
      by_cases q : n = y
      · subst q
        have : ¬ n = m := fun z => h z.symm
        simp [lk, this]
      · have hb2 : Nat.beq n y = false := by
          cases hq : Nat.beq n y with
          | false => rfl
          | true => exact absurd (Nat.eq_of_beq_eq_true hq) q
        simp only [lk, hb2, Bool.false_eq_true, if_false]
        exact ih

theorem store_ok (O : Ok K p loose mean mg mb sc cx d) {x : Str} {n : Nat} (hx : sc.names.lookup x = some .local) (hn : nm x = some n) {ρ : Loc} {H : MHeap} {cs : List Cell} {fz : List (Addr × Obj)} {s : Shared} {v : MVal} {r : Value} {E : Value → Shared → Prop} (S : At P sc cx ρ H cs fz s.heap) (hr : VRel (ads cs) v r)
    {Q : Unit → Shared → Prop} (h : ∀ h' tk, At P sc cx (put n v ρ) H cs fz h' → Q () { s with heap := h', toks := tk }) : wpAny (model P.1 P.2) cx.A (storeName cx.env x r) Q E s := by
  obtain ⟨m, F, lo⟩ := S.fr
  have hL : cx.env.locals = cx.L := O.loc x hx
  refine wpAny_storeName_local (O.names _ _ hx) (by rw [hL]; exact F.ns) (fun h' hn' hs => ?_) (by rw [O.kind]; rfl)
  rw [hL] at hn' hs
  refine h h' _ ⟨⟨_, F.set hn' hs, ?_⟩, S.nw.set hs, S.nd, S.rel⟩
  intro y k u hy hu
  rw [lk_put] at hu
  by_cases q : k = n
  · subst q
    have e : y = x := nm_inj hy hn
    subst e
    simp only [if_true, Option.some.injEq] at hu
    subst hu
    refine ⟨fun _ => ⟨r, by simp, hr⟩, fun z => ?_⟩
    rw [O.locF _ hx] at z
    rcases z with z | z <;> cases z
  · rw [if_neg q] at hu
    obtain ⟨h1, h2⟩ := lo y k u hy hu
    refine ⟨fun z => ?_, h2⟩
    obtain ⟨r', a, b⟩ := h1 z
    refine ⟨r', ?_, b⟩
    have ne : ¬ y = x := fun z => by subst z; exact q (Option.some.inj (hy.symm.trans hn))
    simp only [ne, if_false]; exact a

theorem storeC_ok (O : Ok K p loose mean mg mb sc cx d) {x : Str} {n : Nat} (hx : sc.names.lookup x = some .cell) (hn : nm x = some n) {ρ : Loc} {H : MHeap} {i : Nat} {cs : List Cell} {fz : List (Addr × Obj)} {s : Shared} {v : MVal} {r : Value} {E : Value → Shared → Prop} (S : At P sc cx ρ H cs fz s.heap) (hr : VRel (ads cs) v r)
    (hl : lk n ρ = some (.ref i)) (hi : (∃ u, H[i]? = some (.cell u)) ∨ H[i]? = some .cell0)
    {Q : Unit → Shared → Prop} (h : ∀ cs' h' tk, ads cs' = ads cs → At P sc cx ρ (H.set i (.cell v)) cs' fz h' → Q () { s with heap := h', toks := tk }) : wpAny (model P.1 P.2) cx.A (storeName cx.env x r) Q E s := by
  obtain ⟨m, F, lo⟩ := S.fr
  obtain ⟨i', a, e1, e2, e3⟩ := (lo x n _ hn hl).2 (O.cell x (.inl hx)).1
  cases e1
  have key : ∃ c v₀, cs[i]? = some c ∧ c.sub = none ∧ c.a = a ∧ s.heap.IsCell a v₀ := by
    rcases hi with ⟨u, hi⟩ | hi
    · obtain ⟨c, hc, cr, g, hca, _⟩ := S.get hi
      rw [e2] at hca
      have ha := Option.some.inj hca
      cases cr with
      | cell h1 h2 => exact ⟨_, _, hc, rfl, ha.symm, ⟨_, by rw [ha]; exact g, h1⟩⟩
    · obtain ⟨c, hc, cr, g, hca, _⟩ := S.get hi
      rw [e2] at hca
      have ha := Option.some.inj hca
      cases cr with
      | cell0 h1 => exact ⟨_, _, hc, rfl, ha.symm, ⟨_, by rw [ha]; exact g, h1⟩⟩
  obtain ⟨c, v₀, hc, hsub, hca, hcell⟩ := key
  obtain ⟨ca, co, csub⟩ := c
  simp only at hsub hca
  subst hsub hca
  refine wpAny_storeName_cell O.kind (O.names _ _ hx) ((O.cell x (.inl hx)).2.trans e3) hcell fun h' hc' hs => ?_
  obtain ⟨o', g', d'⟩ := hc'
  obtain ⟨cs', ea, S'⟩ := change_one S (m := .cell v) hc hs g' (.cell d' hr)
  exact h cs' h' _ ea S'

noncomputable abbrev Body := Loc → MHeap → Option Out
noncomputable def BodySnd (P : PW) (sc : Scope) (cx : Cx) (t : Sem Flow) (f : Body) : Prop := ∀ ρ H o ρ' H', f ρ H = some (o, ρ', H') → XV P sc cx ρ H t o ρ' H'
noncomputable def TestSnd (P : PW) (sc : Scope) (cx : Cx) (t : Sem Bool) (f : Loc → MHeap → Option (Bool × MHeap)) : Prop := ∀ ρ H b H', f ρ H = some (b, H') → EV P sc cx ρ H t (fun _ r => r = b) H'

inductive WInv (P : PW) (sc : Scope) (cx : Cx) (cs : List Cell) (fz : List (Addr × Obj)) (s : Shared) (f : Nat → Loc → MHeap → Option Out) (r : Out) : Nat → Shared → Prop
  | mk (k : Nat) (ρi : Loc) (Hi : MHeap) (csi : List Cell) (h : Heap) (tk) (pi : Pre (ads cs) (ads csi)) (Si : At P sc cx ρi Hi csi fz h) (ei : f k ρi Hi = some r) : WInv P sc cx cs fz s f r k { s with heap := h, toks := tk }
theorem while_ok {test : Expr} {body : List Stmt} {pos : Pos} {tf : Loc → MHeap → Option (Bool × MHeap)} {bf : Body} (hT : TestSnd P sc cx (isTrue test cx.env (eval test cx.env)) tf) (hB : BodySnd P sc cx (execs body cx.env) bf)
    {w : Nat} {H : MHeap} {o : MF} {ρ' : Loc} {H' : MHeap} (e : loopW tf bf w ρ H = some (o, ρ', H')) : XV P sc cx ρ H (exec (.While test body [] pos) cx.env) o ρ' H' := by
  intro cs fz s Q S hQ
  refine wpAny_While (codeAny_whileLoop (WInv P sc cx cs fz s (loopW tf bf) (o, ρ', H')) ?_ w (.mk w ρ H cs s.heap s.toks (Pre.refl _) S e))
  rintro k s' ⟨ρi, Hi, csi, h, tk, pi, Si, ei⟩
  cases k with
  | zero => exact nomatch (show (none : Option Out) = some (o, ρ', H') from ei)
  | succ k =>
    refine bindE2 ei fun t H1 e1 e2 => ?_
    refine wpAny_mono (hT ρi Hi t H1 e1 csi fz { s with heap := h, toks := tk } _ Si fun cs1 h1 tk1 r1 p1 S1 hr1 => ?_) (fun _ _ x => x) fun _ _ x => x.elim
    subst hr1
    cases r1 with
    | false =>
      cases e2
      exact wpAny_execs_nil (hQ cs1 h1 tk1 .next (pi.trans p1) S1 .next)
    | true =>
      obtain ⟨⟨f, ρ2, H2⟩, e3, e4⟩ := Option.bind_eq_some_iff.mp e2
      refine wpAny_mono (hB ρi H1 f ρ2 H2 e3 cs1 fz { s with heap := h1, toks := tk1 } _ S1 fun cs2 h2 tk2 fl p2 S2 hf => ?_) (fun _ _ x => x) fun _ _ x => x.elim
      cases hf with
      | next => exact ⟨k, Nat.lt_succ_self k, .mk k ρ2 H2 cs2 h2 tk2 (pi.trans (p1.trans p2)) S2 e4⟩
      | cont => exact ⟨k, Nat.lt_succ_self k, .mk k ρ2 H2 cs2 h2 tk2 (pi.trans (p1.trans p2)) S2 e4⟩
      | brk =>
        cases e4
        exact hQ cs2 h2 tk2 .next (pi.trans (p1.trans p2)) S2 .next
      | ret hr =>
        cases e4
        exact hQ cs2 h2 tk2 _ (pi.trans (p1.trans p2)) S2 (.ret hr)

/-- what an iterator's object is after k items, and what it gives next -/
structure Iter (P : PW) (sc : Scope) (cx : Cx) (nxt : Nat → MHeap → Option (Option MVal)) (It : Nat → List Addr → Obj → Prop) : Prop where
  mono : ∀ {i ad ad' o}, It i ad o → Pre ad ad' → It i ad' o
  item : ∀ {i ρ H cs fz I o} {s : Shared} {v : MVal} {E : Value → Shared → Prop} {Q : Option Value → Shared → Prop}, At P sc cx ρ H cs ((I, o) :: fz) s.heap → It i (ads cs) o → nxt i H = some (some v) →
    (∀ h' tk o' r, At P sc cx ρ H cs ((I, o') :: fz) h' → It (i + 1) (ads cs) o' → VRel (ads cs) v r → Q (some r) { s with heap := h', toks := tk }) → wpAny (model P.1 P.2) cx.A (pyNext (.ref I)) Q E s
  done : ∀ {i ρ H cs fz I o} {s : Shared} {E : Value → Shared → Prop} {Q : Option Value → Shared → Prop}, At P sc cx ρ H cs ((I, o) :: fz) s.heap → It i (ads cs) o → nxt i H = some none →
    (∀ h' tk, At P sc cx ρ H cs fz h' → Q none { s with heap := h', toks := tk }) → wpAny (model P.1 P.2) cx.A (pyNext (.ref I)) Q E s

inductive FInv (P : PW) (sc : Scope) (cx : Cx) (cs : List Cell) (fz : List (Addr × Obj)) (s : Shared) (I : Addr) (It : Nat → List Addr → Obj → Prop) (f : Nat → Nat → Loc → MHeap → Option Out) (r : Out) : Nat → Shared → Prop
  | mk (k i : Nat) (ρi : Loc) (Hi : MHeap) (csi : List Cell) (h : Heap) (tk) (oi : Obj) (pi : Pre (ads cs) (ads csi)) (Si : At P sc cx ρi Hi csi ((I, oi) :: fz) h) (hi : It i (ads csi) oi) (ei : f k i ρi Hi = some r) : FInv P sc cx cs fz s I It f r k { s with heap := h, toks := tk }
theorem for_ok (O : Ok K p loose mean mg mb sc cx d) {x : Str} {n : Nat} (hx : sc.names.lookup x = some .local) (hn : nm x = some n) {px : Pos} {body : List Stmt} {bf : Body} (hB : BodySnd P sc cx (execs body cx.env) bf) {nxt : Nat → MHeap → Option (Option MVal)} {It : Nat → List Addr → Obj → Prop} (X : Iter P sc cx nxt It)
    {w : Nat} {H : MHeap} {o : MF} {ρ' : Loc} {H' : MHeap} (e : loopF nxt n bf w 0 ρ H = some (o, ρ', H')) {cs : List Cell} {fz : List (Addr × Obj)} {s : Shared} {I : Addr} {ob : Obj} (S : At P sc cx ρ H cs ((I, ob) :: fz) s.heap) (h0 : It 0 (ads cs) ob)
    {Q : Flow → Shared → Prop} (hQ : ∀ cs' h' tk f, Pre (ads cs) (ads cs') → At P sc cx ρ' H' cs' fz h' → FlRel (ads cs') o f → Q f { s with heap := h', toks := tk }) :
    codeAny (model P.1 P.2) cx.A (.forLoop (.Name x px) (.ref I) body [] cx.env) (fun r s' => match r with | .ok f => Q f s' | .error e => cameBackBy (model P.1 P.2) cx.A cx.env (fun _ _ => False) e s') s := by
  refine codeAny_forLoop (FInv P sc cx cs fz s I It (loopF nxt n bf) (o, ρ', H')) ?_ w (.mk w 0 ρ H cs s.heap s.toks ob (Pre.refl _) S h0 e) (fun _ => rfl)
  rintro k s' ⟨i, ρi, Hi, csi, h, tk, oi, pi, Si, hi, ei⟩
  cases k with
  | zero => exact nomatch (show (none : Option Out) = some (o, ρ', H') from ei)
  | succ k =>
    refine bindE ei fun r e1 e2 => ?_
    cases r with
    | none =>
      cases e2
      refine X.done (s := { s with heap := h, toks := tk }) Si hi e1 fun h1 tk1 S1 => ?_
      exact wpAny_execs_nil (hQ csi h1 tk1 .next pi S1 .next)
    | some v =>
      obtain ⟨⟨f, ρ2, H2⟩, e3, e4⟩ := Option.bind_eq_some_iff.mp e2
      refine X.item (s := { s with heap := h, toks := tk }) Si hi e1 fun h1 tk1 o1 r1 S1 hi1 hr1 => ?_
      refine wpAny_assign_Name (store_ok (s := { s with heap := h1, toks := tk1 }) O hx hn S1 hr1 fun h2 tk2 S2 => ?_)
      refine wpAny_mono (hB _ Hi f ρ2 H2 e3 csi ((I, o1) :: fz) { s with heap := h2, toks := tk2 } _ S2 fun cs3 h3 tk3 fl p3 S3 hf => ?_) (fun _ _ x => x) fun _ _ x => x.elim
      have thawed : At P sc cx ρ2 H2 cs3 fz h3 := At.thaw (fz' := [(I, o1)]) S3
      cases hf with
      | next => exact ⟨k, Nat.lt_succ_self k, .mk k (i + 1) ρ2 H2 cs3 h3 tk3 o1 (pi.trans p3) S3 (X.mono hi1 p3) e4⟩
      | cont => exact ⟨k, Nat.lt_succ_self k, .mk k (i + 1) ρ2 H2 cs3 h3 tk3 o1 (pi.trans p3) S3 (X.mono hi1 p3) e4⟩
      | brk =>
        cases e4
        exact hQ cs3 h3 tk3 .next (pi.trans p3) thawed .next
      | ret hr =>
        cases e4
        exact hQ cs3 h3 tk3 _ (pi.trans p3) thawed (.ret hr)
end
end Mine

end
section
open PySem PySem.W PyProof.Rows PySem.Calls
set_option maxRecDepth 10000
namespace Mine

section
variable {P : PW} {K : Frag} {T : Tab} {W : Nat} {p : Program} {loose : List Str} {mean : ExcName → Option Value} {mg mb : Str → Option Value} {sc : Scope} {cx : Cx} {d : Nat} {ρ : Loc} {C : CallF} {H : MHeap} {cs : List Cell} {fz : List (Addr × Obj)} {h h' : Heap} {I : Addr} {o o' : Obj}

theorem fz_head (S : At P sc cx ρ H cs ((I, o) :: fz) h) : h.get? I = some o ∧ I ≠ cx.L ∧ cx.h₀.get? I = none ∧ (∀ q ∈ led cs ++ fz, q.1 ≠ I) := by
  have N := S.nw (I, o) (List.mem_append_right _ (.head _))
  refine ⟨N.1, N.2.1, N.2.2, ?_⟩
  have perm : (led cs ++ (I, o) :: fz).Perm ((I, o) :: (led cs ++ fz)) := List.perm_middle
  have nd := S.nd
  rw [(perm.map _).nodup_iff, List.map_cons, List.nodup_cons] at nd
  intro q hq z
  exact nd.1 (List.mem_map.mpr ⟨q, hq, z⟩)

theorem At.iter (S : At P sc cx ρ H cs ((I, o) :: fz) h) (hs : Heap.SameBut I h h') (hg : h'.get? I = some o') : At P sc cx ρ H cs ((I, o') :: fz) h' := by
  obtain ⟨g, n1, n2, n3⟩ := fz_head S
  obtain ⟨m, F, l⟩ := S.fr
  have S0 : At P sc cx ρ H cs fz h := At.thaw (fz' := [(I, o)]) S
  refine ⟨⟨m, F.change hs n1 n2, l⟩, ?_, ?_, S.rel⟩
  · intro q hq
    rcases List.mem_append.mp hq with z | z
    · have y := S0.nw q (List.mem_append_left _ z)
      exact ⟨(hs.2 _ (n3 q (List.mem_append_left _ z))).trans y.1, y.2⟩
    · rcases List.mem_cons.mp z with rfl | z
      · exact ⟨hg, n1, n2⟩
      · have y := S0.nw q (List.mem_append_right _ z)
        exact ⟨(hs.2 _ (n3 q (List.mem_append_right _ z))).trans y.1, y.2⟩
  · have nd := S.nd
    simp only [List.map_append, List.map_cons] at nd ⊢
    exact nd

theorem At.done (S : At P sc cx ρ H cs ((I, o) :: fz) h) (he : Heap.ExtBut I h h') : At P sc cx ρ H cs fz h' := by
  obtain ⟨g, n1, n2, n3⟩ := fz_head S
  obtain ⟨m, F, l⟩ := S.fr
  have S0 : At P sc cx ρ H cs fz h := At.thaw (fz' := [(I, o)]) S
  refine ⟨⟨m, ?_, l⟩, ?_, S0.nd, S.rel⟩
  · obtain ⟨oL, a1, a2, hoL, a3⟩ := F.ns
    refine ⟨⟨oL, a1, a2, he _ _ n1.symm hoL, a3⟩, fun b x e => he b x ?_ (F.keep b x e), F.above⟩
    rintro rfl
    rw [n2] at e; cases e
  · intro q hq
    have y := S0.nw q hq
    exact ⟨he _ _ (n3 q hq) y.1, y.2⟩

noncomputable def itL (ty : String) (i : Nat) (k : Nat) (ad : List Addr) (o : Obj) : Prop := ∃ a, ad[i]? = some a ∧ o.cls = .type ty ∧ o.data = .fields #[.ref a, .int k 0]

theorem iter_list (hh : cx.A.handled = none) (i : Nat) : Iter P sc cx (nxtL i) (itL "list_iterator" i) where
  mono := fun ⟨a, h1, h2, h3⟩ p => ⟨a, p _ _ h1, h2, h3⟩
  item := by
    intro k ρ H cs fz I o s v E Q S ⟨a, h1, h2, h3⟩ e hQ
    unfold nxtL at e
    split at e
    · rename_i xs hx
      simp only [Option.some.injEq] at e
      obtain ⟨a', n, rs, e1, hc, hl, R⟩ := list_at S hx (.ref h1)
      cases e1
      obtain ⟨r, hr, hv⟩ := R.get e
      obtain ⟨g, n1, n2, n3⟩ := fz_head S
      refine wpAny_pyNext_list_item ⟨o, g, h2, h3⟩ hl (x := r) (by simpa using hr) fun h' hit hs => ?_
      obtain ⟨o', g', c', d'⟩ := hit
      exact hQ h' s.toks o' r (S.iter hs g') ⟨a, h1, c', d'⟩ hv
    · cases e
  done := by
    intro k ρ H cs fz I o s E Q S ⟨a, h1, h2, h3⟩ e hQ
    unfold nxtL at e
    split at e
    · rename_i xs hx
      simp only [Option.some.injEq] at e
      obtain ⟨a', n, rs, e1, hc, hl, R⟩ := list_at S hx (.ref h1)
      cases e1
      obtain ⟨g, n1, n2, n3⟩ := fz_head S
      refine wpAny_pyNext_list_end hh ⟨o, g, h2, h3⟩ hl (i := k) ?_ fun h' he => hQ h' s.toks (S.done he)
      simp only [List.getElem?_eq_none_iff, List.getElem?_toArray, R.length] at e ⊢
      exact e
    · cases e

theorem iter_tup (hh : cx.A.handled = none) (i : Nat) : Iter P sc cx (nxtT i) (itL "tuple_iterator" i) where
  mono := fun ⟨a, h1, h2, h3⟩ p => ⟨a, p _ _ h1, h2, h3⟩
  item := by
    intro k ρ H cs fz I o s v E Q S ⟨a, h1, h2, h3⟩ e hQ
    unfold nxtT at e
    split at e
    · rename_i xs hx
      simp only [Option.some.injEq] at e
      obtain ⟨a', rs, e1, hl, R⟩ := tup_at S hx (.ref h1)
      cases e1
      obtain ⟨r, hr, hv⟩ := R.get e
      obtain ⟨g, n1, n2, n3⟩ := fz_head S
      refine next_tuple_item ⟨o, g, h2, h3⟩ hl (x := r) (by simpa using hr) fun h' hit hs => ?_
      obtain ⟨o', g', c', d'⟩ := hit
      exact hQ h' s.toks o' r (S.iter hs g') ⟨a, h1, c', d'⟩ hv
    · cases e
  done := by
    intro k ρ H cs fz I o s E Q S ⟨a, h1, h2, h3⟩ e hQ
    unfold nxtT at e
    split at e
    · rename_i xs hx
      simp only [Option.some.injEq] at e
      obtain ⟨a', rs, e1, hl, R⟩ := tup_at S hx (.ref h1)
      cases e1
      obtain ⟨g, n1, n2, n3⟩ := fz_head S
      refine next_tuple_end hh ⟨o, g, h2, h3⟩ hl (i := k) ?_ fun h' he => hQ h' s.toks (S.done he)
      simp only [List.getElem?_eq_none_iff, List.getElem?_toArray, R.length] at e ⊢
      exact e
    · cases e

noncomputable def itR (n : Int) (k : Nat) (_ : List Addr) (o : Obj) : Prop := o = { cls := .type "range_iterator", dict := none, data := .fields #[rawInt k, rawInt ((if 0 < n then n else 0) - k), rawInt 1], slots := #[] }
theorem iter_range (hh : cx.A.handled = none) (n : Int) : Iter P sc cx (nxtR n) (itR n) where
  mono := fun h _ => h
  item := by
    intro k ρ H cs fz I o s v E Q S ho e hQ
    unfold itR at ho
    subst ho
    unfold nxtR at e
    split at e
    · rename_i hk
      cases e
      obtain ⟨g, n1, n2, n3⟩ := fz_head S
      refine wpAny_pyNext_range_item g (by rw [if_pos (by omega)]; omega) fun h' hit hs => ?_
      refine hQ h' _ _ _ (S.iter hs hit) ?_ (.int _ _)
      unfold itR
      have e1 : (k : Int) + 1 = ((k + 1 : Nat) : Int) := by omega
      have e2 : (if 0 < n then n else 0) - (k : Int) - 1 = (if 0 < n then n else 0) - ((k + 1 : Nat) : Int) := by omega
      rw [e1, e2]
    · cases e
  done := by
    intro k ρ H cs fz I o s E Q S ho e hQ
    unfold itR at ho
    subst ho
    unfold nxtR at e
    split at e
    · cases e
    · rename_i hk
      obtain ⟨g, n1, n2, n3⟩ := fz_head S
      refine wpAny_pyNext_range_end hh g (by split <;> omega) fun h' he => hQ h' s.toks (S.done he)

noncomputable def itS (ty : String) (l : List Nat) (k : Nat) (_ : List Addr) (o : Obj) : Prop := ∃ t, o.cls = .type ty ∧ o.data = .fields #[.str ⟨l.toArray⟩ t, .int k 0]
theorem iter_ascii (hh : cx.A.handled = none) (l : List Nat) : Iter P sc cx (nxtS l) (itS "str_ascii_iterator" l) where
  mono := fun h _ => h
  item := by
    intro k ρ H cs fz I o s v E Q S ⟨t, h2, h3⟩ e hQ
    unfold nxtS at e
    simp only [Option.some.injEq, Option.map_eq_some_iff] at e
    obtain ⟨c, hc, rfl⟩ := e
    obtain ⟨g, n1, n2, n3⟩ := fz_head S
    refine wpAny_pyNext_ascii_item ⟨o, g, h2, h3⟩ (c := c) (by simpa using hc) fun h' hit hs => ?_
    obtain ⟨o', g', c', d'⟩ := hit
    exact hQ h' _ o' _ (S.iter hs g') ⟨t, c', d'⟩ (.str [c] _)
  done := by
    intro k ρ H cs fz I o s E Q S ⟨t, h2, h3⟩ e hQ
    unfold nxtS at e
    simp only [Option.some.injEq, Option.map_eq_none_iff] at e
    obtain ⟨g, n1, n2, n3⟩ := fz_head S
    exact wpAny_pyNext_ascii_end hh ⟨o, g, h2, h3⟩ (by simpa using e) fun h' he => hQ h' s.toks (S.done he)
theorem iter_wide (hh : cx.A.handled = none) (l : List Nat) : Iter P sc cx (nxtS l) (itS "str_iterator" l) where
  mono := fun h _ => h
  item := by
    intro k ρ H cs fz I o s v E Q S ⟨t, h2, h3⟩ e hQ
    unfold nxtS at e
    simp only [Option.some.injEq, Option.map_eq_some_iff] at e
    obtain ⟨c, hc, rfl⟩ := e
    obtain ⟨g, n1, n2, n3⟩ := fz_head S
    refine wpAny_pyNext_wide_item ⟨o, g, h2, h3⟩ (c := c) (by simpa using hc) fun h' hit hs => ?_
    obtain ⟨o', g', c', d'⟩ := hit
    exact hQ h' _ o' _ (S.iter hs g') ⟨t, c', d'⟩ (.str [c] _)
  done := by
    intro k ρ H cs fz I o s E Q S ⟨t, h2, h3⟩ e hQ
    unfold nxtS at e
    simp only [Option.some.injEq, Option.map_eq_none_iff] at e
    obtain ⟨g, n1, n2, n3⟩ := fz_head S
    exact wpAny_pyNext_wide_end hh ⟨o, g, h2, h3⟩ (by simpa using e) fun h' he => hQ h' s.toks (S.done he)

noncomputable def itV (i n0 : Nat) (k : Nat) (ad : List Addr) (o : Obj) : Prop := ∃ a, ad[i]? = some a ∧ k ≤ n0 ∧ o.cls = .type "list_reverseiterator" ∧ o.data = .fields #[.ref a, rawInt ((n0 : Int) - 1 - (k : Int))]
theorem iter_rev (hh : cx.A.handled = none) (i n0 : Nat) : Iter P sc cx (nxtV i n0) (itV i n0) where
  mono := fun ⟨a, h1, h2⟩ p => ⟨a, p _ _ h1, h2⟩
  item := by
    intro k ρ H cs fz I o s v E Q S ⟨a, h1, h4, h2, h3⟩ e hQ
    unfold nxtV at e
    split at e
    · rename_i xs hx
      split at e
      · rename_i hn
        split at e
        · rename_i hk
          simp only [Option.some.injEq] at e
          obtain ⟨a', n, rs, e1, hc, hl, R⟩ := list_at S hx (.ref h1)
          cases e1
          obtain ⟨r, hr, hv⟩ := R.get e
          obtain ⟨g, n1, n2, n3⟩ := fz_head S
          have e0 : (n0 : Int) - 1 - (k : Int) = ((n0 - 1 - k : Nat) : Int) := by omega
          rw [e0] at h3
          refine wpAny_pyNext_rev_item ⟨o, g, h2, h3⟩ hl (x := r) (by simpa using hr) fun h' hit hs => ?_
          obtain ⟨o', g', c', d'⟩ := hit
          have e2 : ((n0 - 1 - k : Nat) : Int) - 1 = (n0 : Int) - 1 - ((k + 1 : Nat) : Int) := by omega
          rw [e2] at d'
          exact hQ h' s.toks o' r (S.iter hs g') ⟨a, h1, hk, c', d'⟩ hv
        · cases e
      · cases e
    · cases e
  done := by
    intro k ρ H cs fz I o s E Q S ⟨a, h1, h4, h2, h3⟩ e hQ
    unfold nxtV at e
    split at e
    · rename_i xs hx
      split at e
      · rename_i hn
        split at e
        · rename_i hk
          simp only [Option.some.injEq, List.getElem?_eq_none_iff] at e
          omega
        · rename_i hk
          obtain ⟨g, n1, n2, n3⟩ := fz_head S
          have e0 : (n0 : Int) - 1 - (k : Int) = -1 := by omega
          rw [e0] at h3
          exact wpAny_pyNext_rev_end hh ⟨o, g, h2, h3⟩ fun h' he => hQ h' s.toks (S.done he)
      · cases e
    · cases e
end
end Mine

end
section
open PySem PySem.W PyProof.Rows PySem.Calls
set_option maxRecDepth 10000
namespace Mine

section
variable {P : PW} {K : Frag} {T : Tab} {W : Nat} {p : Program} {loose : List Str} {mean : ExcName → Option Value} {mg mb : Str → Option Value} {sc : Scope} {cx : Cx} {d : Nat} {ρ : Loc} {C : CallF}

noncomputable abbrev SS1 (P : PW) (T : Tab) (C : CallF) (W : Nat) (sc : Scope) (cx : Cx) (k : Nat) : Prop := ∀ s m, erS sc k s = some m → ∀ ρ H o ρ' H', exS T C W m ρ H = some (o, ρ', H') → XV P sc cx ρ H (exec s cx.env) o ρ' H'
noncomputable abbrev SS2 (P : PW) (T : Tab) (C : CallF) (W : Nat) (sc : Scope) (cx : Cx) (k : Nat) : Prop := ∀ ss ms, erSs sc k ss = some ms → ∀ ρ H o ρ' H', exSs T C W ms ρ H = some (o, ρ', H') → XV P sc cx ρ H (execs ss cx.env) o ρ' H'

theorem not_inter (O : Ok K p loose mean mg mb sc cx d) : interactive cx.env = false := by
  unfold interactive; rw [O.kind]; rfl

theorem unpack_list {A : Around} {E : Value → Shared → Prop} {s : Shared} {l : Addr} {a b : Value} {Q : List Value → Shared → Prop} (hh : A.handled = none) (hl : s.heap.IsList l #[a, b])
    (hQ : ∀ h', (∀ x o, s.heap.get? x = some o → h'.get? x = some o) → Q [a, b] { s with heap := h' }) : wpAny (model P.1 P.2) A (unpackItems (.ref l) 2 none) Q E s := by
  have hlt : l ≠ s.heap.objs.size := by obtain ⟨o, ho, _⟩ := hl; exact Nat.ne_of_lt (Heap.lt_size ho)
  unfold unpackItems
  refine wpAny_bind ?_
  unfold notIterableAtAll
  refine wpAny_bind (wpAny_specialOf hl.typeIs slot_list_iter.lookup ?_)
  refine wpAny_pure ?_
  simp only [Bool.false_eq_true, if_false]
  refine wpAny_bind (wpAny_holding (wpAny_pyIter_list hl ?_))
  have hl1 : ({ s with heap := s.heap.push { cls := .type "list_iterator", data := .fields #[.ref l, .int 0 0] } } : Shared).heap.IsList l #[a, b] := by
    obtain ⟨o, ho, r⟩ := hl
    exact ⟨o, Heap.get?_push_of_some _ ho, r⟩
  refine wpAny_bind (wpAny_holding ?_)
  show wpAny _ _ (pyNext (.ref s.heap.objs.size) >>= _) _ _ _
  refine wpAny_bind (wpAny_pyNext_list_item (i := 0) ⟨_, Heap.get?_push_size _ rfl, rfl, rfl⟩ hl1 (x := a) rfl fun h1 it1 hs1 => ?_)
  have hl2 : h1.IsList l #[a, b] := hl1.extBut hs1.extBut hlt
  refine wpAny_bind (wpAny_holding ?_)
  show wpAny _ _ (pyNext (.ref s.heap.objs.size) >>= _) _ _ _
  refine wpAny_bind (wpAny_pyNext_list_item (i := 1) it1 hl2 (x := b) rfl fun h2 it2 hs2 => ?_)
  have hl3 : h2.IsList l #[a, b] := hl2.extBut hs2.extBut hlt
  refine wpAny_bind (wpAny_holding ?_)
  show wpAny _ _ (pure []) _ _ _
  refine wpAny_pure (wpAny_pure (wpAny_pure ?_))
  show wpAny _ _ (if 2 < 2 then _ else _) _ _ _
  rw [if_neg (by decide)]
  refine wpAny_bind (wpAny_holding (wpAny_pyNext_list_end hh it2 hl3 rfl fun h3 he3 => ?_))
  simp only [Option.isSome_none, Bool.false_eq_true, if_false]
  refine wpAny_pure (hQ h3 fun x o e => ?_)
  have hx : x ≠ s.heap.objs.size := Nat.ne_of_lt (Heap.lt_size e)
  exact he3 x o hx (hs2.extBut x o hx (hs1.extBut x o hx (Heap.get?_push_of_some _ e)))

theorem XV.of_ev {H H' : MHeap} {t : Sem Value} {v : MVal} {ρ' : Loc} {st : Sem Flow} {o : MF} (hE : EV P sc cx ρ H t (fun ad r => VRel ad v r) H')
    (h : ∀ (cs : List Cell) (fz : List (Addr × Obj)) (s : Shared) (Q : Flow → Shared → Prop),
      wpAny (model P.1 P.2) cx.A t (fun r s1 => ∃ cs1, Pre (ads cs) (ads cs1) ∧ (∃ h tk, s1 = { s with heap := h, toks := tk }) ∧ At P sc cx ρ H' cs1 fz s1.heap ∧ VRel (ads cs1) v r) (fun _ _ => False) s →
      (∀ cs' h' tk f, Pre (ads cs) (ads cs') → At P sc cx ρ' H' cs' fz h' → FlRel (ads cs') o f → Q f { s with heap := h', toks := tk }) → wpAny (model P.1 P.2) cx.A st Q (fun _ _ => False) s) : XV P sc cx ρ H st o ρ' H' := by
  intro cs fz s Q S hQ
  exact h cs fz s Q (hE cs fz s _ S fun cs' h' tk r p S' hr => ⟨cs', p, ⟨h', tk, rfl⟩, S', hr⟩) hQ

theorem s_expr (O : Ok K p loose mean mg mb sc cx d) {k : Nat} (I : All P T C sc cx ρ k) {e : Expr} {pos : Pos} {m : ME} (h1 : er sc k e = some m) {H : MHeap} {o : MF} {ρ' : Loc} {H' : MHeap} (ex : exS T C W (.expr m) ρ H = some (o, ρ', H')) :
    XV P sc cx ρ H (exec (.Expr e pos) cx.env) o ρ' H' := by
  refine mapE2 ex fun v H1 e1 e2 => ?_
  cases e2
  intro cs fz s Q S hQ
  refine wpAny_Expr_any (I.e _ _ h1 _ _ _ e1 cs fz s _ S fun cs1 h1' tk1 r1 p1 S1 hr1 => ?_) (not_inter O) (not_comp h1 _ _ _)
  exact hQ cs1 h1' tk1 _ p1 S1 .next
theorem s_ret {k : Nat} (I : All P T C sc cx ρ k) {e : Expr} {pos : Pos} {m : ME} (h1 : er sc k e = some m) {H : MHeap} {o : MF} {ρ' : Loc} {H' : MHeap} (ex : exS T C W (.ret m) ρ H = some (o, ρ', H')) :
    XV P sc cx ρ H (exec (.Return (some e) pos) cx.env) o ρ' H' := by
  refine mapE2 ex fun v H1 e1 e2 => ?_
  cases e2
  intro cs fz s Q S hQ
  refine wpAny_Return_some (I.e _ _ h1 _ _ _ e1 cs fz s _ S fun cs1 h1' tk1 r1 p1 S1 hr1 => ?_)
  exact hQ cs1 h1' tk1 _ p1 S1 (.ret hr1)
theorem s_ret0 {pos : Pos} {H : MHeap} {o : MF} {ρ' : Loc} {H' : MHeap} (ex : exS T C W (.ret .none) ρ H = some (o, ρ', H')) :
    XV P sc cx ρ H (exec (.Return none pos) cx.env) o ρ' H' := by
  have ex : some (MF.ret .none, ρ, H) = some (o, ρ', H') := ex
  simp only [Option.some.injEq, Prod.mk.injEq] at ex
  obtain ⟨rfl, rfl, rfl⟩ := ex
  intro cs fz s Q S hQ
  exact wpAny_Return_none (hQ cs s.heap s.toks _ (Pre.refl _) S (.ret .none))
theorem s_setL (O : Ok K p loose mean mg mb sc cx d) {k : Nat} (I : All P T C sc cx ρ k) {x : Str} {n : Nat} {xp : Pos} {e : Expr} {pos : Pos} {m : ME} (hx : sc.names.lookup x = some .local) (hn : nm x = some n) (h1 : er sc k e = some m) {H : MHeap} {o : MF} {ρ' : Loc} {H' : MHeap} (ex : exS T C W (.setL n m) ρ H = some (o, ρ', H')) :
    XV P sc cx ρ H (exec (.Assign [.Name x xp] e pos) cx.env) o ρ' H' := by
  refine mapE2 ex fun v H1 e1 e2 => ?_
  cases e2
  intro cs fz s Q S hQ
  refine wpAny_Assign_Name (I.e _ _ h1 _ _ _ e1 cs fz s _ S fun cs1 h1' tk1 r1 p1 S1 hr1 => ?_) (not_comp h1 _ _ _)
  exact store_ok (s := { s with heap := h1', toks := tk1 }) O hx hn S1 hr1 fun h2 tk2 S2 => hQ cs1 h2 tk2 _ p1 S2 .next
theorem s_setA (O : Ok K p loose mean mg mb sc cx d) (ko : KOk K T) {k : Nat} (I : All P T C sc cx ρ k) {oe : Expr} {a : Str} {n : Nat} {ap : Pos} {e : Expr} {pos : Pos} {mo m : ME} (h2 : er sc k oe = some mo) (hn : nm a = some n) (h1 : er sc k e = some m) {H : MHeap} {o : MF} {ρ' : Loc} {H' : MHeap} (ex : exS T C W (.setA mo n m) ρ H = some (o, ρ', H')) :
    XV P sc cx ρ H (exec (.Assign [.Attribute oe a ap] e pos) cx.env) o ρ' H' := by
  refine bindE2 ex fun v H1 e1 ex => ?_
  refine bindE2 ex fun ov H2 e2 ex => ?_
  refine mapE ex fun H3 e3 e4 => ?_
  cases e4
  intro cs fz s Q S hQ
  refine plainObj_wpAny_Assign_Attribute (I.e _ _ h1 _ _ _ e1 cs fz s _ S fun cs1 h1' tk1 r1 p1 S1 hr1 => ?_) (not_comp h1 _ _ _)
  refine I.e _ _ h2 _ _ _ e2 cs1 fz { s with heap := h1', toks := tk1 } _ S1 fun cs2 h2' tk2 r2 p2 S2 hr2 => ?_
  exact setAt_ok ko O.inK (s := { s with heap := h2', toks := tk2 }) S2 hr2 (hr1.mono p2) hn e3 fun cs3 h3 tk3 ea S3 => hQ cs3 h3 tk3 _ (p1.trans (p2.trans (ea ▸ Pre.refl _))) S3 .next
theorem units_ok (O : Ok K p loose mean mg mb sc cx d) : cx.A.units < 9800 := by have := O.units; omega
theorem s_setI (O : Ok K p loose mean mg mb sc cx d) {k : Nat} (I : All P T C sc cx ρ k) {oe ie : Expr} {ap : Pos} {e : Expr} {pos : Pos} {mo mi m : ME} (h2 : er sc k oe = some mo) (h3 : er sc k ie = some mi) (h1 : er sc k e = some m) {H : MHeap} {o : MF} {ρ' : Loc} {H' : MHeap} (ex : exS T C W (.setI mo mi m) ρ H = some (o, ρ', H')) :
    XV P sc cx ρ H (exec (.Assign [.Subscript oe ie ap] e pos) cx.env) o ρ' H' := by
  refine bindE2 ex fun v H1 e1 ex => ?_
  refine bindE2 ex fun ov H2 e2 ex => ?_
  refine bindE2 ex fun iv H3 e3 ex => ?_
  refine mapE ex fun H4 e4 e5 => ?_
  cases e5
  intro cs fz s Q S hQ
  refine wpAny_Assign_Subscript (I.e _ _ h1 _ _ _ e1 cs fz s _ S fun cs1 h1' tk1 r1 p1 S1 hr1 => ?_) (not_comp h1 _ _ _)
  refine I.e _ _ h2 _ _ _ e2 cs1 fz { s with heap := h1', toks := tk1 } _ S1 fun cs2 h2' tk2 r2 p2 S2 hr2 => ?_
  refine I.e _ _ h3 _ _ _ e3 cs2 fz { s with heap := h2', toks := tk2 } _ S2 fun cs3 h3' tk3 r3 p3 S3 hr3 => ?_
  exact storeI_ok (s := { s with heap := h3', toks := tk3 }) S3 (units_ok O) (hr2.mono p3) hr3 (hr1.mono (p2.trans p3)) e4 fun cs4 h4 tk4 ea S4 => hQ cs4 h4 tk4 _ (p1.trans (p2.trans (p3.trans (ea ▸ Pre.refl _)))) S4 .next
theorem s_augA (O : Ok K p loose mean mg mb sc cx d) (ko : KOk K T) {k : Nat} (I : All P T C sc cx ρ k) {oe : Expr} {a : Str} {n : Nat} {ap : Pos} {e : Expr} {pos : Pos} {mo m : ME} (h2 : er sc k oe = some mo) (hn : nm a = some n) (h1 : er sc k e = some m) {H : MHeap} {o : MF} {ρ' : Loc} {H' : MHeap} (ex : exS T C W (.augA mo n m) ρ H = some (o, ρ', H')) :
    XV P sc cx ρ H (exec (.AugAssign (.Attribute oe a ap) .Add e pos) cx.env) o ρ' H' := by
  refine bindE2 ex fun ov H1 e1 ex => ?_
  refine bindE ex fun old e2 ex => ?_
  refine bindE2 ex fun v H2 e3 e4 => ?_
  intro cs fz s Q S hQ
  refine wpAny_AugAssign_AttributeAny (I.e _ _ h2 _ _ _ e1 cs fz s _ S fun cs1 h1' tk1 r1 p1 S1 hr1 => ?_)
  refine getA_ok ko O.inK (s := { s with heap := h1', toks := tk1 }) S1 hr1 hn e2 fun tk2 r2 hr2 => ?_
  refine I.e _ _ h1 _ _ _ e3 cs1 fz { s with heap := h1', toks := tk2 } _ S1 fun cs2 h2' tk3 r3 p2 S2 hr3 => ?_
  dsimp only at e4
  split at e4
  · rename_i pp qq
    cases hr2 with
    | int _ t1 =>
      cases hr3 with
      | int _ t2 =>
        refine mapE e4 fun H3 e5 e6 => ?_
        cases e6
        refine PyProof.Rows.iadd_int ?_
        exact setAt_ok ko O.inK (s := { s with heap := h2', toks := tk3 + 1 }) S2 (hr1.mono p2) (.int _ _) hn e5 fun cs3 h3 tk3 ea S3 => hQ cs3 h3 tk3 _ (p1.trans (p2.trans (ea ▸ Pre.refl _))) S3 .next
  · cases e4
theorem s_unp (O : Ok K p loose mean mg mb sc cx d) {k : Nat} (I : All P T C sc cx ρ k) {x y z : Str} {n1 n2 : Nat} {xp yp zp tp : Pos} {q : Nat} {pos : Pos} {m : ME} (hx : sc.names.lookup x = some .local) (hn1 : nm x = some n1) (hy : sc.names.lookup y = some .local) (hn2 : nm y = some n2)
    (h1 : er sc k (.Name z zp) = some m) {H : MHeap} {o : MF} {ρ' : Loc} {H' : MHeap} (ex : exS T C W (.unp n1 n2 m) ρ H = some (o, ρ', H')) :
    XV P sc cx ρ H (exec (.Assign [.Tuple [.Name x xp, .Name y yp] q tp] (.Name z zp) pos) cx.env) o ρ' H' := by
  refine bindE2 ex fun v H1 e1 e2 => ?_
  intro cs fz s Q S hQ
  refine Assign_Tuple (I.e _ _ h1 _ _ _ e1 cs fz s _ S fun cs1 h1' tk1 r1 p1 S1 hr1 => ?_)
  dsimp only at e2
  split at e2
  · rename_i i
    split at e2
    · rename_i a b hi
      cases e2
      obtain ⟨l, n, rs, rfl, hc, hl, R⟩ := list_at (s := { s with heap := h1', toks := tk1 }) S1 hi hr1
      cases R with
      | @cons _ ra _ _ hva R =>
        cases R with
        | @cons _ rb _ _ hvb R =>
          cases R
          rw [assign_Tuple]
          refine wpAny_bind (wpAny_standAt ?_)
          show wpAny _ _ (unpack (.ref l) [(false, assign (.Name x xp) cx.env), (false, assign (.Name y yp) cx.env)]) _ _ _
          unfold unpack
          refine wpAny_bind (wpAny_holding (unpack_list (P := P) (s := { s with heap := h1', toks := tk1 }) O.handled hl fun h2 hk2 => ?_))
          have S2 : At P sc cx ρ H' cs1 fz h2 := by
            obtain ⟨mm, F, lo⟩ := S1.fr
            exact S1.keeps ⟨mm, F.keptAll hk2, lo⟩ (S1.nw.grown hk2)
          show wpAny _ _ (do holding [rb] (assign (.Name x xp) cx.env ra); assignInOrder [assign (.Name y yp) cx.env] [rb]) _ _ _
          refine wpAny_bind (wpAny_holding (wpAny_assign_Name (store_ok (s := { s with heap := h2, toks := tk1 }) O hx hn1 S2 hva fun h3 tk3 S3 => ?_)))
          show wpAny _ _ (do holding [] (assign (.Name y yp) cx.env rb); assignInOrder [] []) _ _ _
          refine wpAny_bind (wpAny_holding (wpAny_assign_Name (store_ok (s := { s with heap := h3, toks := tk3 }) O hy hn2 S3 hvb fun h4 tk4 S4 => ?_)))
          exact wpAny_pure (hQ cs1 h4 tk4 _ p1 S4 .next)
    · cases e2
  · cases e2
end
end Mine

end
section
open PySem PySem.W PyProof.Rows PySem.Calls
set_option maxRecDepth 10000
namespace Mine

section
variable {P : PW} {K : Frag} {T : Tab} {W : Nat} {p : Program} {loose : List Str} {mean : ExcName → Option Value} {mg mb : Str → Option Value} {sc : Scope} {cx : Cx} {d : Nat} {ρ : Loc} {C : CallF}

/-- an iterator made -/
theorem iter_new {H : MHeap} {cs : List Cell} {fz : List (Addr × Obj)} {s : Shared} (S : At P sc cx ρ H cs fz s.heap) (o : Obj) (hf : o.isFreed = false) : At P sc cx ρ H cs ((s.heap.objs.size, o) :: fz) (s.heap.push o) := by
  obtain ⟨m, F, l⟩ := S.fr
  exact S.freeze ⟨m, F.push o, l⟩ (News.push F S.nw o hf) (fresh_none _)

theorem callType (O : Ok K p loose mean mg mb sc cx d) (ko : KOk K T) {k : Nat} (I : All P T C sc cx ρ k) {f : Str} {ty : String} {fp : Pos} {e : Expr} {pos : Pos} {m : ME}
    (hx : sc.names.lookup f = some .globalImplicit) (hb : bootBuiltins f = some (.type ty)) (hn : f ≠ "__name__") (hd : (f == ("__debug__" : Str)) = false) (hg : nsIn K mainGlobals f = some none)
    (h2 : er sc k e = some m) {H : MHeap} {v : MVal} {H' : MHeap} (hev : evE T C ρ m H = some (v, H')) {cs : List Cell} {fz : List (Addr × Obj)} {s : Shared} {Q : Value → Shared → Prop} (S : At P sc cx ρ H cs fz s.heap)
    (h : ∀ cs' h' tk r, Pre (ads cs) (ads cs') → At P sc cx ρ H' cs' fz h' → VRel (ads cs') v r → wpAny (model P.1 P.2) cx.A (call (.type ty) [r]) Q (fun _ _ => False) { s with heap := h', toks := tk }) :
    wpAny (model P.1 P.2) cx.A (eval (.Call (.Name f fp) [e] [] pos) cx.env) Q (fun _ _ => False) s := by
  obtain ⟨mm, F, lo⟩ := S.fr
  refine Call_ ?_
  refine Name_function_global O.kind (O.names _ _ hx) (loadGlobal_builtin (mg := mg) (mb := mb) (v := .type ty) (by rw [O.globals]; exact O.top.g.keeps F.keep) (mg_none_of O.inK O.top.g hg) (by rw [O.builtins]; exact O.top.b.keeps F.keep) ((O.top.builtins f hn).trans hb) ?_) hd
  refine PyProof.Rows.callWith_type1 ?_ (star_rfl h2 [] cx.env) rfl
  refine spliced_more (I.e _ _ h2 _ _ _ hev cs fz s _ S fun cs1 h1' tk1 r1 p1 S1 hr1 => ?_) (star_rfl h2 [] cx.env)
  exact spliced_none (h cs1 h1' tk1 r1 p1 S1 hr1)

theorem s_forR (O : Ok K p loose mean mg mb sc cx d) (ko : KOk K T) {k : Nat} (I : All P T C sc cx ρ k) {x : Str} {n : Nat} {xp fp cp pos : Pos} {e : Expr} {body : List Stmt} {m : ME} {b : MSs} (hx : sc.names.lookup x = some .local) (hn : nm x = some n)
    (hf : sc.names.lookup ("range" : Str) = some .globalImplicit) (h2 : er sc k e = some m) (hB : BodySnd P sc cx (execs body cx.env) (fun ρ H => exSs T C W b ρ H)) {H : MHeap} {o : MF} {ρ' : Loc} {H' : MHeap} (ex : exS T C W (.forR n m b) ρ H = some (o, ρ', H')) :
    XV P sc cx ρ H (exec (.For (.Name x xp) (.Call (.Name "range" fp) [e] [] cp) body [] pos) cx.env) o ρ' H' := by
  refine bindE2 ex fun v H1 e1 e2 => ?_
  intro cs fz s Q S hQ
  refine wpAny_For ?_
  refine callType O ko I hf (ty := "range") (by decide +kernel) (by decide +kernel) (by decide +kernel) (ko.bi _ (by simp)) h2 e1 S fun cs1 h1 tk1 r1 p1 S1 hr1 => ?_
  dsimp only at e2
  split at e2
  · rename_i nn
    split at e2
    · rename_i hz
      cases hr1 with
      | int _ t =>
        refine call_range_1 ?_
        have S2 := push_at (s := { s with heap := h1, toks := tk1 }) S1 { cls := .type "range", data := .fields #[.int 0 tk1, .int nn t, .int 1 (tk1 + 1)] }
        refine wpAny_pyIter_range (IsRange.new h1 0 nn 1 tk1 t (tk1 + 1)) (small_one (by omega) (by omega) (by omega) (by have := szLine_is; omega)) ?_
        have S3 := iter_new (s := { s with heap := h1.push { cls := .type "range", data := .fields #[.int 0 tk1, .int nn t, .int 1 (tk1 + 1)] }, toks := tk1 + 1 + 1 }) S2 { cls := .type "range_iterator", data := .fields #[rawInt 0, rawInt (Builtin.Range.rangeSize 0 nn 1), rawInt 1] } rfl
        refine for_ok O hx hn hB (iter_range O.handled nn) e2 (s := { s with heap := (h1.push { cls := .type "range", data := .fields #[.int 0 tk1, .int nn t, .int 1 (tk1 + 1)] }).push { cls := .type "range_iterator", data := .fields #[rawInt 0, rawInt (Builtin.Range.rangeSize 0 nn 1), rawInt 1] }, toks := tk1 + 1 + 1 }) S3 ?_ fun cs' h' tk f pre S' hf => hQ cs' h' tk f (p1.trans pre) S' hf
        unfold itR
        rw [rangeSize_one]
        simp
    · cases e2
  · cases e2

theorem s_forV (O : Ok K p loose mean mg mb sc cx d) (ko : KOk K T) {k : Nat} (I : All P T C sc cx ρ k) {x : Str} {n : Nat} {xp fp cp pos : Pos} {e : Expr} {body : List Stmt} {m : ME} {b : MSs} (hx : sc.names.lookup x = some .local) (hn : nm x = some n)
    (hf : sc.names.lookup ("reversed" : Str) = some .globalImplicit) (h2 : er sc k e = some m) (hB : BodySnd P sc cx (execs body cx.env) (fun ρ H => exSs T C W b ρ H)) {H : MHeap} {o : MF} {ρ' : Loc} {H' : MHeap} (ex : exS T C W (.forV n m b) ρ H = some (o, ρ', H')) :
    XV P sc cx ρ H (exec (.For (.Name x xp) (.Call (.Name "reversed" fp) [e] [] cp) body [] pos) cx.env) o ρ' H' := by
  refine bindE2 ex fun v H1 e1 e2 => ?_
  intro cs fz s Q S hQ
  refine wpAny_For ?_
  refine callType O ko I hf (ty := "reversed") (by decide +kernel) (by decide +kernel) (by decide +kernel) (ko.bi _ (by simp)) h2 e1 S fun cs1 h1 tk1 r1 p1 S1 hr1 => ?_
  dsimp only at e2
  split at e2
  · rename_i i
    split at e2
    · rename_i xs hi
      obtain ⟨l, nn, rs, rfl, hc, hl, R⟩ := list_at (s := { s with heap := h1, toks := tk1 }) S1 hi hr1
      refine call_reversed_list hl ?_
      have S3 := iter_new (s := { s with heap := h1, toks := tk1 }) S1 (revObj l ((rs.toArray.size : Int) - 1)) rfl
      refine wpAny_pyIter_revIter (l := l) (i := (rs.toArray.size : Int) - 1) ⟨_, Heap.get?_push_size _ rfl, rfl, rfl⟩ ?_
      refine for_ok O hx hn hB (iter_rev O.handled i xs.length) e2 (s := { s with heap := h1.push (revObj l ((rs.toArray.size : Int) - 1)), toks := tk1 }) S3 ?_ fun cs' h' tk f pre S' hf => hQ cs' h' tk f (p1.trans pre) S' hf
      cases hr1 with
      | ref ha =>
        refine ⟨l, ha, Nat.zero_le _, rfl, ?_⟩
        unfold revObj
        rw [List.size_toArray, R.length]
        simp
    · cases e2
  · cases e2

theorem s_forI (O : Ok K p loose mean mg mb sc cx d) (ko : KOk K T) {k : Nat} (I : All P T C sc cx ρ k) {x : Str} {n : Nat} {xp pos : Pos} {e : Expr} {body : List Stmt} {m : ME} {b : MSs} (hx : sc.names.lookup x = some .local) (hn : nm x = some n)
    (h2 : er sc k e = some m) (hB : BodySnd P sc cx (execs body cx.env) (fun ρ H => exSs T C W b ρ H)) {H : MHeap} {o : MF} {ρ' : Loc} {H' : MHeap} (ex : exS T C W (.forI n m b) ρ H = some (o, ρ', H')) :
    XV P sc cx ρ H (exec (.For (.Name x xp) e body [] pos) cx.env) o ρ' H' := by
  refine bindE2 ex fun v H1 e1 e2 => ?_
  intro cs fz s Q S hQ
  refine wpAny_For (I.e _ _ h2 _ _ _ e1 cs fz s _ S fun cs1 h1 tk1 r1 p1 S1 hr1 => ?_) (not_fold h2 _)
  dsimp only at e2
  split at e2
  · rename_i i
    split at e2
    · rename_i xs hi
      obtain ⟨l, nn, rs, rfl, hc, hl, R⟩ := list_at (s := { s with heap := h1, toks := tk1 }) S1 hi hr1
      refine wpAny_pyIter_list hl ?_
      have S3 := iter_new (s := { s with heap := h1, toks := tk1 }) S1 { cls := .type "list_iterator", data := .fields #[.ref l, .int 0 0] } rfl
      refine for_ok O hx hn hB (iter_list O.handled i) e2 (s := { s with heap := h1.push { cls := .type "list_iterator", data := .fields #[.ref l, .int 0 0] }, toks := tk1 }) S3 ?_ fun cs' h' tk f pre S' hf => hQ cs' h' tk f (p1.trans pre) S' hf
      cases hr1 with
      | ref ha => exact ⟨l, ha, rfl, rfl⟩
    · rename_i xs hi
      obtain ⟨l, rs, rfl, hl, R⟩ := tup_at (s := { s with heap := h1, toks := tk1 }) S1 hi hr1
      refine iter_tuple hl ?_
      have S3 := iter_new (s := { s with heap := h1, toks := tk1 }) S1 { cls := .type "tuple_iterator", data := .fields #[.ref l, .int 0 0] } rfl
      refine for_ok O hx hn hB (iter_tup O.handled i) e2 (s := { s with heap := h1.push { cls := .type "tuple_iterator", data := .fields #[.ref l, .int 0 0] }, toks := tk1 }) S3 ?_ fun cs' h' tk f pre S' hf => hQ cs' h' tk f (p1.trans pre) S' hf
      cases hr1 with
      | ref ha => exact ⟨l, ha, rfl, rfl⟩
    · cases e2
  · rename_i l
    cases hr1 with
    | str _ t =>
      cases ha : (Str.mk l.toArray).cps.all (· < 128)
      · refine wpAny_pyIter_wide ha ?_
        have S3 := iter_new (s := { s with heap := h1, toks := tk1 }) S1 { cls := .type "str_iterator", data := .fields #[.str ⟨l.toArray⟩ t, .int 0 0] } rfl
        exact for_ok O hx hn hB (iter_wide O.handled l) e2 (s := { s with heap := h1.push { cls := .type "str_iterator", data := .fields #[.str ⟨l.toArray⟩ t, .int 0 0] }, toks := tk1 }) S3 ⟨t, rfl, rfl⟩ fun cs' h' tk f pre S' hf => hQ cs' h' tk f (p1.trans pre) S' hf
      · refine wpAny_pyIter_ascii ha ?_
        have S3 := iter_new (s := { s with heap := h1, toks := tk1 }) S1 { cls := .type "str_ascii_iterator", data := .fields #[.str ⟨l.toArray⟩ t, .int 0 0] } rfl
        exact for_ok O hx hn hB (iter_ascii O.handled l) e2 (s := { s with heap := h1.push { cls := .type "str_ascii_iterator", data := .fields #[.str ⟨l.toArray⟩ t, .int 0 0] }, toks := tk1 }) S3 ⟨t, rfl, rfl⟩ fun cs' h' tk f pre S' hf => hQ cs' h' tk f (p1.trans pre) S' hf
  · cases e2
end
end Mine

end
section
open PySem PySem.W PyProof.Rows PySem.Calls
set_option maxRecDepth 10000
namespace Mine

section
variable {P : PW} {K : Frag} {T : Tab} {W : Nat} {p : Program} {loose : List Str} {mean : ExcName → Option Value} {mg mb : Str → Option Value} {sc : Scope} {cx : Cx} {d : Nat} {C : CallF}

theorem isLoc_ok {sc : Scope} {x : Str} {n : Nat} (h : isLoc sc x = some n) : sc.names.lookup x = some .local ∧ nm x = some n := by
  refine bindE h fun kd h1 h2 => ?_
  cases kd with
  | «local» => exact ⟨h1, h2⟩
  | _ => cases h2

theorem ss1_step (O : Ok K p loose mean mg mb sc cx d) (ko : KOk K T) (fn : ∀ a I, T.fn a = some I → FnOk K a I) (CS : CallSnd P K p loose mean mg mb C d) {k : Nat} (hk : k ≤ 1000) (J : SS2 P T C W sc cx k) : SS1 P T C W sc cx (k + 1) := by
  intro s m he ρ H o ρ' H' ex
  have I : All P T C sc cx ρ k := all_k O ko fn CS k hk
  cases s with
  | Expr e pos =>
    refine mapE he fun m1 h1 zq => ?_
    subst zq
    exact s_expr O I h1 ex
  | Return e pos =>
    cases e with
    | some e =>
      refine mapE he fun m1 h1 zq => ?_
      subst zq
      exact s_ret I h1 ex
    | none =>
      cases he
      exact s_ret0 ex
  | Assign ts e pos =>
    refine bindE he fun t ht g => ?_
    have := one_ok ht; subst this
    cases hn : nameOf t with
    | some x =>
      rw [hn] at g
      obtain ⟨q, rfl⟩ := nameOf_ok hn
      refine bindE g fun n h1 g => ?_
      refine mapE g fun m1 h3 zq => ?_
      subst zq
      exact s_setL O I (isLoc_ok h1).1 (isLoc_ok h1).2 h3 ex
    | none =>
      rw [hn] at g
      cases ha : attrOf t with
      | some x =>
        rw [ha] at g
        obtain ⟨o, a, q⟩ := x
        have := attrOf_ok ha; subst this
        refine bindE g fun m1 h1 g => ?_
        refine bindE g fun n h2 g => ?_
        refine mapE g fun v h3 zq => ?_
        subst zq
        exact s_setA O ko I h1 h2 h3 ex
      | none =>
        rw [ha] at g
        cases hs : subOf t with
        | some x =>
          rw [hs] at g
          obtain ⟨o, i⟩ := x
          obtain ⟨q, rfl⟩ := subOf_ok hs
          refine bindE g fun m1 h1 g => ?_
          refine bindE g fun n h2 g => ?_
          refine mapE g fun v h3 zq => ?_
          subst zq
          exact s_setI O I h1 h2 h3 ex
        | none =>
          rw [hs] at g
          refine bindE g fun xs h1 g1 => ?_
          refine bindE2 g1 fun a b h2 g2 => ?_
          refine bindE g2 fun x h3 g3 => ?_
          refine bindE g3 fun y h4 g4 => ?_
          refine bindE g4 fun m1 h5 g5 => ?_
          refine bindE g5 fun n1 h6 g6 => ?_
          refine bindE g6 fun z h7 g7 => ?_
          refine mapE g7 fun v h8 zq => ?_
          subst zq
          obtain ⟨tn, tq, rfl⟩ := tupOf_ok h1
          have := two_ok h2; subst this
          obtain ⟨xq, rfl⟩ := nameOf_ok h3
          obtain ⟨yq, rfl⟩ := nameOf_ok h4
          obtain ⟨zq, rfl⟩ := nameOf_ok h7
          exact s_unp O I (isLoc_ok h5).1 (isLoc_ok h5).2 (isLoc_ok h6).1 (isLoc_ok h6).2 h8 ex
  | AugAssign t op e pos =>
    cases op with
    | Add =>
      obtain ⟨⟨o, a, q⟩, ha, g1⟩ := Option.bind_eq_some_iff.mp he
      refine bindE g1 fun m1 h1 g2 => ?_
      refine bindE g2 fun n h2 g3 => ?_
      refine mapE g3 fun v h3 zq => ?_
      subst zq
      have := attrOf_ok ha; subst this
      exact s_augA O ko I h1 h2 h3 ex
    | _ => cases he
  | If c a b pos =>
    refine bindE he fun m1 h1 he => ?_
    refine bindE he fun m2 h2 he => ?_
    refine mapE he fun m3 h3 zq => ?_
    subst zq
    refine bindE2 (show (evT T C ρ m1 H).bind _ = _ from ex) fun t H1 e1 e2 => ?_
    intro cs fz s Q S hQ
    refine wpAny_If (I.t _ _ h1 _ _ _ e1 cs fz s _ S fun cs1 h1' tk1 r1 p1 S1 hr1 => ?_)
    subst hr1
    cases r1 with
    | true => exact J _ _ h2 _ _ _ _ _ e2 cs1 fz { s with heap := h1', toks := tk1 } _ S1 fun cs' h' tk r pre S' hr => hQ cs' h' tk r (p1.trans pre) S' hr
    | false => exact J _ _ h3 _ _ _ _ _ e2 cs1 fz { s with heap := h1', toks := tk1 } _ S1 fun cs' h' tk r pre S' hr => hQ cs' h' tk r (p1.trans pre) S' hr
  | While c b els pos =>
    cases els with
    | cons _ _ => cases he
    | nil =>
      refine bindE he fun m1 h1 he => ?_
      refine mapE he fun m2 h2 zq => ?_
      subst zq
      exact while_ok (tf := fun ρ H => evT T C ρ _ H) (bf := fun ρ H => exSs T C W _ ρ H) (fun ρ1 H1 b H2 e => (all_k O ko fn CS k hk).t _ _ h1 _ _ _ e) (fun ρ1 H1 o1 ρ2 H2 e => J _ _ h2 _ _ _ _ _ e) ex
  | For t it b els pos =>
    cases els with
    | cons _ _ => cases he
    | nil =>
      refine bindE he fun x hx he => ?_
      obtain ⟨q, rfl⟩ := nameOf_ok hx
      refine bindE he fun n h1 he => ?_
      refine bindE he fun m h2 he => ?_
      have hB : BodySnd P sc cx (execs b cx.env) (fun ρ H => exSs T C W _ ρ H) := fun ρ1 H1 o1 ρ2 H2 e => J _ _ h2 _ _ _ _ _ e
      cases hc : callOf it with
      | none =>
        rw [hc] at he
        refine mapE he fun m1 h3 zq => ?_
        subst zq
        exact s_forI O ko I (isLoc_ok h1).1 (isLoc_ok h1).2 h3 hB ex
      | some z =>
        rw [hc] at he
        obtain ⟨f, es, ks⟩ := z
        obtain ⟨cq, rfl⟩ := callOf_ok hc
        cases ks with
        | cons _ _ => cases he
        | nil =>
          have he : ((one es).bind fun e => (nameOf f).bind fun f => (sc.names.lookup f).bind fun kd => if isG kd then (er sc k e).bind fun v => if f = "range" then some (MS.forR n v m) else if f = "reversed" then some (.forV n v m) else none else none) = some _ := he
          refine bindE he fun e h3 g1 => ?_
          refine bindE g1 fun g h4 g2 => ?_
          refine bindE g2 fun kd h5 g3 => ?_
          have := one_ok h3; subst this
          obtain ⟨gq, rfl⟩ := nameOf_ok h4
          cases kd with
          | globalImplicit =>
            have he : ((er sc k e).bind fun v => if g = "range" then some (MS.forR n v m) else if g = "reversed" then some (.forV n v m) else none) = some _ := g3
            refine bindE he fun v h6 g4 => ?_
            by_cases hf : g = "range"
            · rw [if_pos hf] at g4
              subst hf
              cases g4
              exact s_forR O ko I (isLoc_ok h1).1 (isLoc_ok h1).2 h5 h6 hB ex
            · rw [if_neg hf] at g4
              by_cases hf : g = "reversed"
              · rw [if_pos hf] at g4
                subst hf
                cases g4
                exact s_forV O ko I (isLoc_ok h1).1 (isLoc_ok h1).2 h5 h6 hB ex
              · rw [if_neg hf] at g4; cases g4
          | _ => cases g3
  | Break pos =>
    cases he
    cases ex
    intro cs fz s Q S hQ
    exact wpAny_Break (hQ cs s.heap s.toks _ (Pre.refl _) S .brk)
  | Continue pos =>
    cases he
    cases ex
    intro cs fz s Q S hQ
    exact wpAny_Continue (hQ cs s.heap s.toks _ (Pre.refl _) S .cont)
  | _ => cases he

theorem ss2_step {k : Nat} (I : SS1 P T C W sc cx k) (J : SS2 P T C W sc cx k) : SS2 P T C W sc cx (k + 1) := by
  intro ss ms he ρ H o ρ' H' ex
  cases ss with
  | nil =>
    cases he
    cases ex
    intro cs fz s Q S hQ
    exact wpAny_execs_nil (hQ cs s.heap s.toks _ (Pre.refl _) S .next)
  | cons st r =>
    have he : ((erS sc k st).bind fun m => (erSs sc k r).map fun n => MSs.cons m n) = some ms := he
    refine bindE he fun m1 h1 he => ?_
    refine mapE he fun m2 h2 zq => ?_
    subst zq
    obtain ⟨⟨f, ρ1, H1⟩, e1, e2⟩ := Option.bind_eq_some_iff.mp (show (exS T C W m1 ρ H).bind _ = _ from ex)
    intro cs fz s Q S hQ
    refine wpAny_execs_cons (I _ _ h1 _ _ _ _ _ e1 cs fz s _ S fun cs1 h1' tk1 fl p1 S1 hf => ?_)
    cases hf with
    | next => exact J _ _ h2 _ _ _ _ _ e2 cs1 fz { s with heap := h1', toks := tk1 } _ S1 fun cs' h' tk r pre S' hr => hQ cs' h' tk r (p1.trans pre) S' hr
    | brk =>
      cases e2
      exact hQ cs1 h1' tk1 _ p1 S1 .brk
    | cont =>
      cases e2
      exact hQ cs1 h1' tk1 _ p1 S1 .cont
    | ret hr =>
      cases e2
      exact hQ cs1 h1' tk1 _ p1 S1 (.ret hr)

theorem ss_all (O : Ok K p loose mean mg mb sc cx d) (ko : KOk K T) (fn : ∀ a I, T.fn a = some I → FnOk K a I) (CS : CallSnd P K p loose mean mg mb C d) : ∀ k, k ≤ 1000 → SS1 P T C W sc cx k ∧ SS2 P T C W sc cx k := by
  intro k
  induction k with
  | zero => intro _; exact ⟨fun s m he => (by cases he), fun s m he => (by cases he)⟩
  | succ k ih =>
    intro hk
    obtain ⟨I, J⟩ := ih (by omega)
    exact ⟨ss1_step O ko fn CS (by omega) J, ss2_step I J⟩

theorem exec_of_call (ko : KOk K T) (fn : ∀ a I, T.fn a = some I → FnOk K a I) (CS : CallSnd P K p loose mean mg mb C d) : ExSnd P K T W p loose mean mg mb C d := by
  intro sc cx ρ O k hk body mb' he H o ρ' H' ex
  exact (ss_all O ko fn CS k hk).2 _ _ he _ _ _ _ _ ex

theorem snd_all (ko : KOk K T) (fn : ∀ a I, T.fn a = some I → FnOk K a I) : ∀ d, CallSnd P K p loose mean mg mb (callF T W d) d := by
  intro d
  induction d with
  | zero => intro sc cx ρ A' O Nr f args H v H' e; simp [callF] at e
  | succ d ih => exact call_of_exec fn (exec_of_call ko fn ih)
end
end Mine

end
section
open PySem PySem.W PyProof.Rows PySem.Calls
set_option maxRecDepth 10000
namespace Mine

noncomputable def fdAt (K : Frag) (a : Addr) : FuncData := match K.lookup a with
  | some ⟨_, _, .func fd, _⟩ => fd
  | _ => default
noncomputable def bodyOf (fd : FuncData) : List Stmt := match fd.body with
  | .stmts b => b
  | _ => []
noncomputable def shapeOk (K : Frag) (a : Addr) : Bool := match K.lookup a with
  | some ⟨_, _, .func fd, _⟩ => (match fd.body with | .stmts _ => true | _ => false) && (Nat.beq fd.globals mainGlobals && (Nat.beq fd.builtins builtinsNs && (fd.closure.isEmpty && (codeIn K fd.code fd.qualname && ((match fd.scope.kind with | .function => true | _ => false) && (!fd.scope.isCoroutine && (!fd.scope.isGenerator && fd.scope.names.all (fun p => match p.2 with | .cell => false | _ => true))))))))
  | _ => false

noncomputable def isLk (r : Option NameKind) : Bool := match r with | some .local => true | _ => false
theorem isLk_eq {r : Option NameKind} (h : isLk r = true) : r = some .local := by
  unfold isLk at h; split at h
  · rfl
  · cases h
noncomputable def BindP (K : Frag) (a : Addr) (ns : List Str) (dvals : List Value) (s : Shared) (args : List Value) : Prop := BindsTo s (fdAt K a) ⟨args, []⟩ (ns.zip (args ++ dvals.drop (dvals.length - (ns.length - args.length))))
theorem FnOk.of {K : Frag} {a : Addr} {ps : List Nat} {ds : List MVal} {mbody : MSs} (ns : List Str) (dvals : List Value) (k : Nat) (h0 : shapeOk K a = true)
    (h5 : NmRel ns ps) (h6 : ns.Nodup) (h7 : ns.all (fun x => isLk ((fdAt K a).scope.names.lookup x)) = true) (h8 : VsRel [] ds dvals)
    (h9 : ∀ (s : Shared) (args : List Value), K.In s.heap → args.length ≤ ns.length → ns.length ≤ args.length + dvals.length → BindP K a ns dvals s args)
    (h10 : k ≤ 1000) (h11 : erSs (fdAt K a).scope k (bodyOf (fdAt K a)) = some mbody) : FnOk K a ⟨ps, ds, mbody⟩ := by
  have h7 : ∀ x ∈ ns, (fdAt K a).scope.names.lookup x = some .local := fun x hx => isLk_eq (List.all_eq_true.mp h7 x hx)
  unfold BindP at h9
  unfold shapeOk at h0
  unfold fdAt at h7 h9 h11
  split at h0
  · rename_i oc od fd osl hl
    simp only [hl] at h7 h9 h11
    obtain ⟨name, qual, params, body, scope, globals, closure, dV, kV, doc, pm, an, cdv, ct, bi⟩ := fd
    simp only [Bool.and_eq_true, Bool.not_eq_true', List.isEmpty_iff] at h0
    obtain ⟨q1, q2, q3, q4, q5, q6, q7, q8, q9⟩ := h0
    cases body with
    | stmts b =>
      have e1 := Nat.eq_of_beq_eq_true q2
      have e2 := Nat.eq_of_beq_eq_true q3
      subst e1 e2 q4
      refine ⟨⟨qual, name, params, b, scope, dV, kV, doc, pm, cdv, ct, oc, an, od, osl, ns, dvals, k, hl, q5, ?_, q7, q8, ?_, h5, h6, h7, h8, h9, h10, h11⟩⟩
      · revert q6; cases scope.kind <;> simp
      · intro x hx
        have := List.all_eq_true.mp q9 x hx
        intro z
        rw [z] at this
        cases this
    | expr b => cases q1
  · cases h0

theorem binds_lit {K : Frag} {s : Shared} {a : Addr} {args : Args} {binds : List (Str × Value)} {oc : Value} {od : Option Addr} {fd : FuncData} {osl : Array (Option Value)} (h : K.lookup a = some ⟨oc, od, .func fd, osl⟩) (b : BindsTo s fd args binds) : BindsTo s (fdAt K a) args binds := by
  unfold fdAt; rw [h]; exact b

theorem ar0 {P : List Value → Prop} (h : P []) : ∀ args : List Value, args.length ≤ 0 → 0 ≤ args.length + 0 → P args
  | [], _, _ => h
  | _ :: _, q, _ => absurd q (by simp)
theorem ar1 {P : List Value → Prop} (h : ∀ a, P [a]) : ∀ args : List Value, args.length ≤ 1 → 1 ≤ args.length + 0 → P args
  | [a], _, _ => h a
  | [], _, q => absurd q (by simp)
  | _ :: _ :: _, q, _ => absurd q (by simp)
theorem ar2 {P : List Value → Prop} (h : ∀ a b, P [a, b]) : ∀ args : List Value, args.length ≤ 2 → 2 ≤ args.length + 0 → P args
  | [a, b], _, _ => h a b
  | [_], _, q => absurd q (by simp)
  | [], _, q => absurd q (by simp)
  | _ :: _ :: _ :: _, q, _ => absurd q (by simp)
theorem ar3 {P : List Value → Prop} (h : ∀ a b c, P [a, b, c]) : ∀ args : List Value, args.length ≤ 3 → 3 ≤ args.length + 0 → P args
  | [a, b, c], _, _ => h a b c
  | [_, _], _, q => absurd q (by simp)
  | [_], _, q => absurd q (by simp)
  | [], _, q => absurd q (by simp)
  | _ :: _ :: _ :: _ :: _, q, _ => absurd q (by simp)
theorem ar4 {P : List Value → Prop} (h : ∀ a b c d, P [a, b, c, d]) : ∀ args : List Value, args.length ≤ 4 → 4 ≤ args.length + 0 → P args
  | [a, b, c, d], _, _ => h a b c d
  | [_, _, _], _, q => absurd q (by simp)
  | [_, _], _, q => absurd q (by simp)
  | [_], _, q => absurd q (by simp)
  | [], _, q => absurd q (by simp)
  | _ :: _ :: _ :: _ :: _ :: _, q, _ => absurd q (by simp)
theorem ar5 {P : List Value → Prop} (h : ∀ a b c d e, P [a, b, c, d, e]) : ∀ args : List Value, args.length ≤ 5 → 5 ≤ args.length + 0 → P args
  | [a, b, c, d, e], _, _ => h a b c d e
  | [_, _, _, _], _, q => absurd q (by simp)
  | [_, _, _], _, q => absurd q (by simp)
  | [_, _], _, q => absurd q (by simp)
  | [_], _, q => absurd q (by simp)
  | [], _, q => absurd q (by simp)
  | _ :: _ :: _ :: _ :: _ :: _ :: _, q, _ => absurd q (by simp)
-- with defaults
theorem ar21 {P : List Value → Prop} (h : ∀ a b, P [a, b]) (h' : ∀ a, P [a]) : ∀ args : List Value, args.length ≤ 2 → 2 ≤ args.length + 1 → P args
  | [a, b], _, _ => h a b
  | [a], _, q => h' a
  | [], _, q => absurd q (by simp)
  | _ :: _ :: _ :: _, q, _ => absurd q (by simp)
theorem ar61 {P : List Value → Prop} (h : ∀ a b c d e f, P [a, b, c, d, e, f]) (h' : ∀ a b c d e, P [a, b, c, d, e]) : ∀ args : List Value, args.length ≤ 6 → 6 ≤ args.length + 1 → P args
  | [a, b, c, d, e, f], _, _ => h a b c d e f
  | [a, b, c, d, e], _, _ => h' a b c d e
  | [_, _, _, _], _, q => absurd q (by simp)
  | [_, _, _], _, q => absurd q (by simp)
  | [_, _], _, q => absurd q (by simp)
  | [_], _, q => absurd q (by simp)
  | [], _, q => absurd q (by simp)
  | _ :: _ :: _ :: _ :: _ :: _ :: _ :: _, q, _ => absurd q (by simp)
theorem ar51 {P : List Value → Prop} (h : ∀ a b c d e, P [a, b, c, d, e]) (h' : ∀ a b c d, P [a, b, c, d]) : ∀ args : List Value, args.length ≤ 5 → 5 ≤ args.length + 1 → P args
  | [a, b, c, d, e], _, _ => h a b c d e
  | [a, b, c, d], _, _ => h' a b c d
  | [_, _, _], _, q => absurd q (by simp)
  | [_, _], _, q => absurd q (by simp)
  | [_], _, q => absurd q (by simp)
  | [], _, q => absurd q (by simp)
  | _ :: _ :: _ :: _ :: _ :: _ :: _, q, _ => absurd q (by simp)
theorem ar52 {P : List Value → Prop} (h : ∀ a b c d e, P [a, b, c, d, e]) (h' : ∀ a b c d, P [a, b, c, d]) (h'' : ∀ a b c, P [a, b, c]) : ∀ args : List Value, args.length ≤ 5 → 5 ≤ args.length + 2 → P args
  | [a, b, c, d, e], _, _ => h a b c d e
  | [a, b, c, d], _, _ => h' a b c d
  | [a, b, c], _, _ => h'' a b c
  | [_, _], _, q => absurd q (by simp)
  | [_], _, q => absurd q (by simp)
  | [], _, q => absurd q (by simp)
  | _ :: _ :: _ :: _ :: _ :: _ :: _, q, _ => absurd q (by simp)

noncomputable def isNN (r : Option (Option Value)) : Bool := match r with | some none => true | _ => false
theorem isNN_eq {r : Option (Option Value)} (h : isNN r = true) : r = some none := by
  unfold isNN at h; split at h
  · rfl
  · cases h
noncomputable def isRf (f : Nat) (r : Option (Option Value)) : Bool := match r with | some (some (.ref g)) => Nat.beq f g | _ => false
theorem isRf_eq {f : Nat} {r : Option (Option Value)} (h : isRf f r = true) : r = some (some (.ref f)) := by
  unfold isRf at h; split at h
  · rw [Nat.eq_of_beq_eq_true h]
  · cases h
noncomputable def nmIs (x : Str) (n : Nat) : Bool := match nm x with | some m => Nat.beq m n | none => false
theorem nmIs_eq {x : Str} {n : Nat} (h : nmIs x n = true) : nm x = some n := by
  unfold nmIs at h; split at h
  · rename_i q; rw [q, Nat.eq_of_beq_eq_true h]
  · cases h
noncomputable def refIs (a : Nat) : Value → Bool
  | .ref b => Nat.beq a b
  | _ => false
theorem refIs_eq {a : Nat} {v : Value} (h : refIs a v = true) : v = .ref a := by
  cases v with
  | ref b => exact congrArg _ (Nat.eq_of_beq_eq_true h).symm
  | _ => cases h
noncomputable def intIs (a : Int) : Value → Bool
  | .int b _ => decide (a = b)
  | _ => false
noncomputable def glOne (r : Value) : MVal → Bool
  | .fn a => refIs a r
  | .cls a => refIs a r
  | .int i => intIs i r
  | _ => false
noncomputable def glIs (v : MVal) : Option (Option Value) → Bool
  | some (some r) => glOne r v
  | _ => false
theorem glIs_eq {v : MVal} {r : Option (Option Value)} (h : glIs v r = true) : ∃ u, r = some (some u) ∧ VRel [] v u := by
  rcases r with _ | _ | r
  · cases h
  · cases h
  · refine ⟨r, rfl, ?_⟩
    cases v with
    | fn a => rw [refIs_eq (a := a) h]; exact .fn _
    | cls a => rw [refIs_eq (a := a) h]; exact .cls _
    | int i =>
      cases r with
      | int j t => rw [show i = j from of_decide_eq_true h]; exact .int _ _
      | _ => cases h
    | _ => cases h

noncomputable def chkFld (K : Frag) (l : TabL) : Bool := l.fldT.all fun (c, n, x) => nmIs x n && (isNN (findIn K (.ref c) x) && (isNN (takerIn K c x) && (lkA c l.initT).isSome))
noncomputable def chkMeth (K : Frag) (l : TabL) : Bool := l.methT.all fun (c, n, f, x) => nmIs x n && (isRf f (findIn K (.ref c) x) && (isFn K (.ref f) && (keepIn K (.ref f) && (lkA c l.initT).isSome)))
noncomputable def chkGlob (K : Frag) (l : TabL) : Bool := l.globT.all fun (n, v, x) => nmIs x n && glIs v (nsIn K mainGlobals x)

theorem kOk_of {K : Frag} {l : TabL} (cls : ∀ c f, (c, f) ∈ l.initT → ClsGood K c f) (h1 : chkFld K l = true) (h2 : chkMeth K l = true) (h3 : chkGlob K l = true)
    (bi : ∀ x, x ∈ ([Str.ofString "len", Str.ofString "abs", Str.ofString "max", Str.ofString "ord", Str.ofString "range", Str.ofString "reversed"] : List Str) → nsIn K mainGlobals x = some none) : KOk K l.tab where
  cls := fun c f h => cls c f (lkA_mem h)
  fldC := fun c n h => by
    obtain ⟨x, hm⟩ := lkF_mem h
    have := List.all_eq_true.mp h1 _ hm
    simp only [Bool.and_eq_true] at this
    exact Option.isSome_iff_exists.mp this.2.2.2
  fld := fun c n x h hx => by
    obtain ⟨y, hm⟩ := lkF_mem h
    have := List.all_eq_true.mp h1 _ hm
    simp only [Bool.and_eq_true] at this
    have e := nm_inj hx (nmIs_eq this.1)
    subst e
    exact ⟨isNN_eq this.2.1, isNN_eq this.2.2.1⟩
  methC := fun c n f h => by
    obtain ⟨x, hm⟩ := lkM_mem h
    have := List.all_eq_true.mp h2 _ hm
    simp only [Bool.and_eq_true] at this
    exact Option.isSome_iff_exists.mp this.2.2.2.2
  meth := fun c n f x h hx => by
    obtain ⟨y, hm⟩ := lkM_mem h
    have := List.all_eq_true.mp h2 _ hm
    simp only [Bool.and_eq_true] at this
    have e := nm_inj hx (nmIs_eq this.1)
    subst e
    exact ⟨isRf_eq this.2.1, this.2.2.1, this.2.2.2.1⟩
  glob := fun n v x h hx => by
    obtain ⟨y, hm⟩ := lkG_mem h
    have := List.all_eq_true.mp h3 _ hm
    simp only [Bool.and_eq_true] at this
    have e := nm_inj hx (nmIs_eq this.1)
    subst e
    exact glIs_eq this.2
  bi := bi
end Mine

end
section
open PySem PySem.W PyProof.Rows PySem.Calls
set_option maxRecDepth 10000
namespace Mine

section
variable {P : PW} {K : Frag} {T : Tab} {W : Nat} {p : Program} {loose : List Str} {mean : ExcName → Option Value} {mg mb : Str → Option Value} {sc : Scope} {cx : Cx} {d : Nat} {ρ : Loc} {C : CallF} {H : MHeap} {cs : List Cell} {fz fz' : List (Addr × Obj)} {h h' : Heap}

theorem At.perm (q : fz.Perm fz') (S : At P sc cx ρ H cs fz h) : At P sc cx ρ H cs fz' h := by
  have q' : (led cs ++ fz).Perm (led cs ++ fz') := List.Perm.append_left _ q
  refine ⟨S.fr, fun x hx => S.nw x (q'.mem_iff.mpr hx), ?_, S.rel⟩
  exact (q'.map _).nodup_iff.mp S.nd

theorem At.adopt {a : Addr} {o : Obj} {m : MObj} (S : At P sc cx ρ H cs ((a, o) :: fz) h) (x : CRel P (ads (cs ++ [⟨a, o, none⟩])) ⟨a, o, none⟩ m) : At P sc cx ρ (H ++ [m]) (cs ++ [⟨a, o, none⟩]) fz h ∧ Pre (ads cs) (ads (cs ++ [⟨a, o, none⟩])) := by
  have pre : Pre (ads cs) (ads (cs ++ [⟨a, o, none⟩])) := by unfold ads; rw [List.map_append]; exact Pre.app _ _
  have e : led (cs ++ [⟨a, o, none⟩]) ++ fz = led cs ++ (a, o) :: fz := by rw [led_app, List.append_assoc]; rfl
  refine ⟨⟨?_, ?_, ?_, (S.rel.mono pre).snoc x⟩, pre⟩
  · obtain ⟨m, F, l⟩ := S.fr
    exact ⟨m, F, l.mono pre⟩
  · rw [e]; exact S.nw
  · rw [e]; exact S.nd

theorem ns_of {a : Addr} {o : Obj} {m : Str → Option Value} (n : h.Ns a m) (g : h.get? a = some o) (g' : h'.get? a = some o) : h'.Ns a m := by
  obtain ⟨o', es, ep, ho, r⟩ := n
  rw [g] at ho
  cases ho
  exact ⟨o, es, ep, g', r⟩

inductive CInv (P : PW) (sc : Scope) (cx : Cx) (ρ : Loc) (cs1 : List Cell) (fz : List (Addr × Obj)) (s : Shared) (Ia Da Ca : Addr) (nn : Int) (f : Nat → Nat → MHeap → Option (List MVal × MHeap)) (HA : MHeap) (vsA : List MVal) : Nat → Shared → Prop
  | mk (w i : Nat) (H2 : MHeap) (cs2 : List Cell) (h : Heap) (tk) (oI oC : Obj) (mC) (vd vr : List MVal) (ys : List Value) (q) (pi : Pre (ads cs1) (ads cs2)) (Si : At P sc cx ρ H2 cs2 ((Ia, oI) :: (Da, { cls := .type "list", data := .seq ys.toArray q }) :: (Ca, oC) :: fz) h) (hi : itR nn i (ads cs2) oI)
    (R : VsRel (ads cs2) vd ys) (hns : h.Ns Ca mC) (hw : i + w = nn.toNat) (ec : f w i H2 = some (vr, HA)) (ev : vsA = vd ++ vr) (hli : vd.length = i) : CInv P sc cx ρ cs1 fz s Ia Da Ca nn f HA vsA (w + 1) { s with heap := h, toks := tk }
theorem s_comp (O : Ok K p loose mean mg mb sc cx d) (ko : KOk K T) (fn : ∀ a I, T.fn a = some I → FnOk K a I) (CS : CallSnd P K p loose mean mg mb C d) {k : Nat} (hk : k ≤ 1000)
    {x y : Str} {nx ny : Nat} {px py fp cp pos spos : Pos} {e elt : Expr} {scope sc' : Scope} {cl : List (Str × Addr)} {m melt : ME}
    (hsw : swapsWith (.ListComp elt [⟨.Name x px, .Call (.Name "range" fp) [e] [] cp, [], 0⟩] scope pos) (some (.Name y py)) spos.line cx.env = pure true)
    (hclos : closureFor scope cx.env = pure cl) (hcell : ∀ z ∈ scope.names, z.2 ≠ .cell) (hkind : scope.kind = .function)
    (hnames : ∀ z ∈ scope.names, z.2 = .local → scope.names.lookup z.1 = some .local) (hx : scope.names.lookup x = some .local)
    (hy : sc.names.lookup y = some .local) (hny : nm y = some ny) (hf : sc.names.lookup ("range" : Str) = some .globalImplicit)
    (h2 : er sc k e = some m) (h3 : er sc' k elt = some melt) (hloc : ∀ z, sc'.names.lookup z ≠ some .local)
    (hsub : ∀ z kd, sc'.names.lookup z = some kd → (relabel scope cx.env).names.lookup z = some kd)
    (hcl : ∀ z, isCell (sc'.names.lookup z) → isCell (sc.names.lookup z) ∧ cl.lookup z = cx.env.cells.lookup z)
    {o : MF} {ρ' : Loc} {H' : MHeap} (ex : exS T C W (.comp ny nx m melt) ρ H = some (o, ρ', H')) :
    XV P sc cx ρ H (exec (.Assign [.Name y py] (.ListComp elt [⟨.Name x px, .Call (.Name "range" fp) [e] [] cp, [], 0⟩] scope pos) spos) cx.env) o ρ' H' := by
  refine bindE2 ex fun v H1 e1 e2 => ?_
  dsimp only at e2
  split at e2
  · rename_i nn
    split at e2
    · rename_i hz
      refine mapE2 e2 fun vsA HA e3 e4 => ?_
      cases e4
      intro cs fz s Q S hQ
      rw [exec_Assign_Name_used _ _ _ _ hsw]
      refine wpAny_bind (wpAny_standAt (wpAny_bind ?_))
      show wpAny _ cx.A (do let _ ← comprehension (.ListComp elt [⟨.Name x px, .Call (.Name "range" fp) [e] [] cp, [], 0⟩] scope pos) scope cx.env _ (newList []) false (eval (.Call (.Name "range" fp) [e] [] cp) cx.env) (some (assign (.Name y py) cx.env))) _ _ s
      refine wpAny_bind (wpAny_mono (wpAny_comprehension_free (use := some (assign (.Name y py) cx.env)) (Q := fun _ s' => Q .next s') rfl (fun _ => rfl) hclos hkind hnames ?_) (fun _ s' hq => wpAny_pure (wpAny_pure hq)) fun _ _ e => e)
      refine callType O ko (all_k O ko fn CS k hk) hf (ty := "range") (by decide +kernel) (by decide +kernel) (by decide +kernel) (ko.bi _ (by simp)) h2 e1 S fun cs1 h1 tk1 r1 p1 S1 hr1 => ?_
      cases hr1 with
      | int _ t =>
        refine call_range_1 ?_
        have S2 := push_at (s := { s with heap := h1, toks := tk1 }) S1 { cls := .type "range", data := .fields #[.int 0 tk1, .int nn t, .int 1 (tk1 + 1)] }
        refine wpAny_pyIter_range (IsRange.new h1 0 nn 1 tk1 t (tk1 + 1)) (small_one (by omega) (by omega) (by omega) (by have := szLine_is; omega)) ?_
        have S3 := iter_new (s := { s with heap := h1.push { cls := .type "range", data := .fields #[.int 0 tk1, .int nn t, .int 1 (tk1 + 1)] }, toks := tk1 + 1 + 1 }) S2 { cls := .type "range_iterator", data := .fields #[rawInt 0, rawInt (Builtin.Range.rangeSize 0 nn 1), rawInt 1] } rfl
        dsimp only at S3 ⊢
        generalize hX : (h1.push { cls := .type "range", data := .fields #[.int 0 tk1, .int nn t, .int 1 (tk1 + 1)] }) = hA at S3 ⊢
        generalize hI : hA.objs.size = Ia at S3 ⊢
        generalize hB : hA.push { cls := .type "range_iterator", data := .fields #[rawInt 0, rawInt (Builtin.Range.rangeSize 0 nn 1), rawInt 1] } = hb at S3 ⊢
        refine wpAny_newObj_type (wpAny_newFunctionEnv hcell (by intro y hy; simp at hy) (fun h₁ hns₁ hsb₁ => ?_) hkind) (hd := by size_fits)
        have S4 := iter_new (s := { s with heap := hb, toks := tk1 + 1 + 1 }) S3 { cls := .type "list", data := .seq ([] : List Value).toArray } rfl
        dsimp only at S4 hns₁ hsb₁ ⊢
        generalize hD : hb.objs.size = Da at S4 hns₁ hsb₁ ⊢
        generalize hE : hb.push { cls := .type "list", data := .seq ([] : List Value).toArray } = hc at S4 hns₁ hsb₁ ⊢
        have S5 := iter_new (s := { s with heap := hc, toks := tk1 + 1 + 1 }) S4 { cls := .type (if (some cx.env).isSome then "dict" else "frame"), data := .dict #[] } rfl
        dsimp only at S5
        generalize hG : hc.objs.size = Ca at S5 hns₁ hsb₁ ⊢
        obtain ⟨oC, esC, epC, gC, rC⟩ := id hns₁
        have S6 := S5.iter hsb₁ gC
        have S7 : At P sc cx ρ H1 cs1 ((Ia, { cls := .type "range_iterator", data := .fields #[rawInt 0, rawInt (Builtin.Range.rangeSize 0 nn 1), rawInt 1] }) :: (Da, { cls := .type "list", data := .seq ([] : List Value).toArray }) :: (Ca, oC) :: fz) h₁ := by
          refine S6.perm ?_
          refine List.Perm.trans (List.Perm.swap _ _ _) ?_
          refine List.Perm.trans (List.Perm.cons _ (List.Perm.swap _ _ _)) ?_
          exact List.Perm.swap _ _ _
        clear S6 S5 S4 S3 S2
        have O' : Ok K p loose mean mg mb sc' { cx with env := compEnvC scope cl Ca cx.env } d :=
          { O with
            kind := hkind
            globals := O.globals
            builtins := O.builtins
            names := hsub
            loc := fun z hz => absurd hz (hloc z)
            locF := fun z hz => absurd hz (hloc z)
            cell := fun z hz => ⟨(O.cell z (hcl z hz).1).1, (hcl z hz).2.trans (O.cell z (hcl z hz).1).2⟩ }
        have loop : ∀ s₃ : Shared, s₃ = { s with heap := h₁, toks := tk1 + 1 + 1 + ([] : List (Str × Value)).length } →
            codeAny (model P.1 P.2) cx.A (.compLoop (.ListComp elt [⟨.Name x px, .Call (.Name "range" fp) [e] [] cp, [], 0⟩] scope pos) 0 (.ref Ia) (.ref Da) (compEnvC scope cl Ca cx.env))
              (compPost (model P.1 P.2) cx.A (fun _ _ => False) (some (assign (.Name y py) cx.env)) (fun _ s' => Q .next s') (.ref Da) Ca) s₃ := by
          rintro s₃ rfl
          refine codeAny_compLoop_list (CInv P sc cx ρ cs1 fz s Ia Da Ca nn (compL (fun ρ H => evE T C ρ melt H) nx ρ) HA vsA) ?_ (nn.toNat + 1)
            (.mk nn.toNat 0 H1 cs1 h₁ _ _ oC _ [] vsA [] _ (Pre.refl _) S7 ?_ .nil hns₁ (by omega) e3 rfl rfl)
          · rintro n s' ⟨w, i, H2, cs2, h, tk, oI, oC, mC, vd, vr, ys, q, pi, Si, hi, R, hns, hw, ec, ev, hli⟩
            have dn : i ≤ szLine := by
              have : (nn.toNat : Int) = nn := Int.toNat_of_nonneg hz.1
              have := hz.2
              omega
            cases w with
            | zero =>
              obtain ⟨rfl, rfl⟩ := Prod.mk.inj (Option.some.inj ec)
              refine (iter_range (P := P) (sc := sc) O.handled nn).done (s := { s with heap := h, toks := tk }) Si hi (by unfold nxtR; rw [if_neg (by omega)]) fun h4 tk4 S8 => ?_
              have gC4 : h4.get? Ca = some oC := (S8.nw (Ca, oC) (List.mem_append_right _ (.tail _ (.head _)))).1
              have gC0 : h.get? Ca = some oC := (Si.nw (Ca, oC) (List.mem_append_right _ (.tail _ (.tail _ (.head _))))).1
              have hns4 := ns_of hns gC0 gC4
              have pre9 : Pre (ads cs2) (ads (cs2 ++ [⟨Da, { cls := .type "list", data := .seq ys.toArray q }, none⟩])) := by unfold ads; rw [List.map_append]; exact Pre.app _ _
              obtain ⟨S9, _⟩ := S8.adopt (m := .list vd) (.list (R.mono pre9))
              have hv9 : VRel (ads (cs2 ++ [⟨Da, { cls := .type "list", data := .seq ys.toArray q }, none⟩])) (.ref H2.length) (.ref Da) := by
                refine .ref ?_
                rw [← Si.rel.length]
                simp
              show wpAny _ cx.A (assign (.Name y py) cx.env (.ref Da)) _ _ _
              refine wpAny_assign_Name (store_ok (s := { s with heap := h4, toks := tk4 }) O hy hny S9 hv9 fun h5 tk5 S10 => ?_)
              obtain ⟨g5, n1, n2, n3⟩ := fz_head S10
              refine ⟨mC, ns_of hns4 gC4 g5, fun h6 hs6 => ?_⟩
              have S11 := S10.done hs6.extBut
              rw [List.append_nil] at ev
              subst ev
              exact hQ _ h6 tk5 .next (p1.trans (pi.trans pre9)) S11 .next
            | succ w =>
              refine bindE2 ec fun v1 H3 ee ec => ?_
              refine mapE2 ec fun vs' H4 er' ef => ?_
              cases ef
              refine (iter_range (P := P) (sc := sc) O.handled nn).item (s := { s with heap := h, toks := tk }) (v := .int i) Si hi (by unfold nxtR; rw [if_pos (by omega)]) fun h4 tk4 oI' r4 S8 hi8 hr8 => ?_
              have gC4 : h4.get? Ca = some oC := (S8.nw (Ca, oC) (List.mem_append_right _ (.tail _ (.tail _ (.head _))))).1
              have gC0 : h.get? Ca = some oC := (Si.nw (Ca, oC) (List.mem_append_right _ (.tail _ (.tail _ (.head _))))).1
              have hns4 := ns_of hns gC0 gC4
              refine wpAny_assign_Name (wpAny_storeName_local (env := compEnvC scope cl Ca cx.env) (s := { s with heap := h4, toks := tk4 }) (lookup_relabel_local hx) hns4 (fun h5 hns5 hs5 => ?_) (by simp [compEnvC, relabel, hkind]))
              obtain ⟨oC5, esC5, epC5, gC5, rC5⟩ := id hns5
              have S9 : At P sc cx ρ H2 cs2 ((Ia, oI') :: (Da, { cls := .type "list", data := .seq ys.toArray q }) :: (Ca, oC5) :: fz) h5 := by
                have a1 : At P sc cx ρ H2 cs2 ((Ca, oC) :: (Ia, oI') :: (Da, { cls := .type "list", data := .seq ys.toArray q }) :: fz) h4 :=
                  S8.perm ((List.Perm.cons _ (List.Perm.swap _ _ _)).trans (List.Perm.swap _ _ _))
                exact (a1.iter hs5 gC5).perm ((List.Perm.swap _ _ _).trans (List.Perm.cons _ (List.Perm.swap _ _ _)))
              have S9' : At P sc' { cx with env := compEnvC scope cl Ca cx.env } ρ H2 cs2 ((Ia, oI') :: (Da, { cls := .type "list", data := .seq ys.toArray q }) :: (Ca, oC5) :: fz) h5 := ⟨S9.fr, S9.nw, S9.nd, S9.rel⟩
              refine wpAny_mono ((all_k O' ko fn CS k hk).e _ _ h3 _ _ _ ee cs2 _ { s with heap := h5, toks := tk4 + 1 } _ S9' fun cs3 h6 tk6 r6 p6 S10 hr6 => ?_) (fun _ _ x => x) fun _ _ x => x.elim
              have S10' : At P sc cx ρ H3 cs3 ((Ia, oI') :: (Da, { cls := .type "list", data := .seq ys.toArray q }) :: (Ca, oC5) :: fz) h6 := ⟨S10.fr, S10.nw, S10.nd, S10.rel⟩
              have gD6 : h6.get? Da = some { cls := .type "list", data := .seq ys.toArray q } := (S10'.nw (Da, _) (List.mem_append_right _ (.tail _ (.head _)))).1
              refine wpAny_list_append_plain (s := { s with heap := h6, toks := tk6 }) ⟨q, gD6⟩ (fun h7 hl7 hs7 => ?_) (by rw [List.size_toArray, R.length, hli]; exact Nat.le_trans dn szLine_le)
              obtain ⟨q7, g7⟩ := hl7
              rw [show (ys.toArray.push r6) = (ys ++ [r6]).toArray by simp] at g7
              have S11 : At P sc cx ρ H3 cs3 ((Ia, oI') :: (Da, { cls := .type "list", data := .seq (ys ++ [r6]).toArray q7 }) :: (Ca, oC5) :: fz) h7 := by
                have a1 : At P sc cx ρ H3 cs3 ((Da, { cls := .type "list", data := .seq ys.toArray q }) :: (Ia, oI') :: (Ca, oC5) :: fz) h6 := S10'.perm (List.Perm.swap _ _ _)
                exact (a1.iter hs7 g7).perm (List.Perm.swap _ _ _)
              have gC6 : h6.get? Ca = some oC5 := (S10'.nw (Ca, _) (List.mem_append_right _ (.tail _ (.tail _ (.head _))))).1
              have gC7 : h7.get? Ca = some oC5 := (S11.nw (Ca, _) (List.mem_append_right _ (.tail _ (.tail _ (.head _))))).1
              exact ⟨w + 1, Nat.lt_succ_self _, .mk w (i + 1) H3 cs3 h7 tk6 oI' oC5 _ (vd ++ [v1]) vs' (ys ++ [r6]) q7 (pi.trans p6) S11 hi8 ((R.mono p6).append (.cons hr6 .nil)) (ns_of hns5 gC5 gC7) (by omega) er' (by rw [ev, List.append_assoc]; rfl) (by rw [List.length_append, hli]; rfl)⟩
          · unfold itR
            rw [rangeSize_one]
            simp
        have itg : ({ s with heap := h₁, toks := tk1 + 1 + 1 + ([] : List (Str × Value)).length } : Shared).heap.get? Ia = some { cls := .type "range_iterator", data := .fields #[rawInt 0, rawInt (Builtin.Range.rangeSize 0 nn 1), rawInt 1] } := (S7.nw _ (List.mem_append_right _ (.head _))).1
        exact codeAny_compStart_list (loop _ rfl) (wpAny_pyIter_rangeiter itg (loop _ rfl))
    · cases e2
  · cases e2
end
end Mine

end
section
open PySem PySem.W PyProof.Rows PySem.Calls
set_option maxRecDepth 10000
namespace Mine

section
variable {P : PW} {K : Frag} {T : Tab} {W : Nat} {p : Program} {loose : List Str} {mean : ExcName → Option Value} {mg mb : Str → Option Value} {sc : Scope} {cx : Cx} {d : Nat} {ρ : Loc} {C : CallF}

theorem At.sub {ρ' : Loc} {H : MHeap} {cs : List Cell} {fz : List (Addr × Obj)} {h : Heap} (q : ∀ n v, lk n ρ' = some v → lk n ρ = some v) (S : At P sc cx ρ H cs fz h) : At P sc cx ρ' H cs fz h := by
  obtain ⟨m, F, lo⟩ := S.fr
  exact ⟨⟨m, F, fun x n v hx hv => lo x n v hx (q n v hv)⟩, S.nw, S.nd, S.rel⟩

theorem xv_cons {ρ1 ρ2 : Loc} {H H1 H2 : MHeap} {st : Stmt} {rest : List Stmt} {o : MF} (a : XV P sc cx ρ H (exec st cx.env) .next ρ1 H1) (b : XV P sc cx ρ1 H1 (execs rest cx.env) o ρ2 H2) : XV P sc cx ρ H (execs (st :: rest) cx.env) o ρ2 H2 := by
  intro cs fz s Q S hQ
  refine wpAny_execs_cons (a cs fz s _ S fun cs1 h1 tk1 fl p1 S1 hf => ?_)
  cases hf
  exact b cs1 fz { s with heap := h1, toks := tk1 } _ S1 fun cs' h' tk r pre S' hr => hQ cs' h' tk r (p1.trans pre) S' hr

theorem xv_app (I : ∀ k, k ≤ 1000 → SS1 P T C W sc cx k) : ∀ (ss : List Stmt) (k : Nat) (ms : MSs), k ≤ 1000 → erSs sc k ss = some ms → ∀ (ρ : Loc) (H : MHeap) (ρ' : Loc) (H' : MHeap), exSs T C W ms ρ H = some (.next, ρ', H') →
    ∀ (rest : List Stmt) (o : MF) (ρ2 : Loc) (H2 : MHeap), XV P sc cx ρ' H' (execs rest cx.env) o ρ2 H2 → XV P sc cx ρ H (execs (ss ++ rest) cx.env) o ρ2 H2
  | [], k, ms, hk, he, ρ, H, ρ', H', ex, rest, o, ρ2, H2, b => by
    cases k with
    | zero => cases he
    | succ k =>
      cases he
      cases ex
      exact b
  | s :: r, k, ms, hk, he, ρ, H, ρ', H', ex, rest, o, ρ2, H2, b => by
    cases k with
    | zero => cases he
    | succ k =>
      have he : ((erS sc k s).bind fun m => (erSs sc k r).map fun n => MSs.cons m n) = some ms := he
      refine bindE he fun m h1 g1 => ?_
      refine mapE g1 fun ms' h2 g2 => ?_
      cases g2
      obtain ⟨⟨f, ρ1, H1⟩, e1, e2⟩ := Option.bind_eq_some_iff.mp (show (exS T C W m ρ H).bind _ = _ from ex)
      cases f with
      | next => exact xv_cons (I k (by omega) _ _ h1 _ _ _ _ _ e1) (xv_app I r k ms' (by omega) h2 _ _ _ _ e2 rest o ρ2 H2 b)
      | brk => cases e2
      | cont => cases e2
      | ret v => cases e2

theorem se_script (O : Ok K p loose mean mg mb sc cx d) (ko : KOk K T) {x : Str} {n : Nat} {xp sp pos pc : Pos} {q : Nat} {wl : Addr} {vs : List Value} {xs : List MVal} (hx : sc.names.lookup x = some .local) (hn : nm x = some n) (hlk : lk n ρ = some (.fn wl))
    (hl : cx.h₀.IsList wl vs.toArray) (hv : ∀ ad, VsRel ad xs vs) (hlen : xs.length ≤ szLine) {H : MHeap} :
    EV P sc cx ρ H (eval (.Subscript (.Name x xp) (.Slice none (some (.Constant (.int 40) q pc)) none sp) pos) cx.env) (fun ad r => VRel ad (.ref H.length) r) (H ++ [.list (xs.take 40)]) := by
  intro cs fz s Q S hQ
  have he : er sc (0 + 1) (.Name x xp) = some (.loc n) := by
    show (nm x).bind _ = _
    rw [hn]
    show (sc.names.lookup x).bind _ = _
    rw [hx]; rfl
  have hev : evE T (fun _ _ _ => none) ρ (.loc n) H = some (.fn wl, H) := by rw [evE_loc, hlk]; rfl
  refine Subscript_ (se_name (C := fun _ _ _ => none) O ko he hev cs fz s _ S fun cs1 h1' tk1 r1 p1 S1 hr1 => ?_)
  cases hr1
  refine wpAny_Slice ?_
  rw [evalPart_none, evalPart_some]
  refine wpAny_pure ?_
  refine wpAny_Constant_int ?_
  refine wpAny_pure ?_
  obtain ⟨m, F, lo'⟩ := S1.fr
  have hl' : h1'.IsList wl vs.toArray := by
    obtain ⟨o, ho, r⟩ := hl
    exact ⟨o, F.keep _ _ ho, r⟩
  have R := hv (ads cs1)
  refine slice_list (s := { s with heap := h1', toks := tk1 + 1 }) F S1.nw hl' .none (.int _ _) (fun h4 F4 N4 => ?_) rfl (fun r => rfl) (by rw [List.size_toArray, R.length]; exact Nat.le_trans hlen szLine_le)
  rw [slice_upto vs (by decide)] at N4
  have pre : Pre (ads cs1) (ads (cs1 ++ [⟨h1'.objs.size + 1, { cls := .type "list", data := .seq (vs.take (40 : Int).toNat).toArray }, none⟩])) := by unfold ads; rw [List.map_append]; exact Pre.app _ _
  have new : h1'.get? (h1'.objs.size + 1) = none := by
    cases q : h1'.get? (h1'.objs.size + 1) with
    | none => rfl
    | some o => exact absurd (Heap.lt_size q) (Nat.not_lt.mpr (Nat.le_succ _))
  obtain ⟨S', _⟩ := S1.snoc (h' := h4) (c := ⟨h1'.objs.size + 1, { cls := .type "list", data := .seq (vs.take (40 : Int).toNat).toArray }, none⟩) (m := .list (xs.take 40)) ⟨m, F4, lo'⟩ N4 (by simp [Cell.led]) (by intro p hp; simp [Cell.led] at hp; rw [hp]; exact new)
    (.list ((R.take 40).mono pre))
  refine hQ _ h4 _ _ (p1.trans pre) S' (.ref ?_)
  rw [← S1.rel.length]
  simp

theorem s_first (O : Ok K p loose mean mg mb sc cx d) (ko : KOk K T) {x y : Str} {n ny : Nat} {xp yp sp pos pc pc2 pl ps : Pos} {q q2 : Nat} {wl : Addr} {vs : List Value} {xs : List MVal} (hx : sc.names.lookup x = some .local) (hn : nm x = some n)
    (hy : sc.names.lookup y = some .cell) (hny : nm y = some ny) (hne : ny ≠ n)
    (hl : cx.h₀.IsList wl vs.toArray) (hv : ∀ ad, VsRel ad xs vs) (hlen : xs.length ≤ szLine) :
    XV P sc cx [(n, .fn wl), (ny, .ref 0)] [.cell0] (exec (.Assign [.Name y yp] (.List [.Subscript (.Name x xp) (.Slice none (some (.Constant (.int 40) q pc)) none sp) pos, .Constant (.int 0) q2 pc2] pl) ps) cx.env) .next [(ny, .ref 0)] [.cell (.ref 2), .list (xs.take 40), .list [.ref 1, .int 0]] := by
  intro cs fz s Q S hQ
  have l1 : lk n [(n, MVal.fn wl), (ny, .ref 0)] = some (.fn wl) := by simp [lk]
  have l2 : lk ny [(n, MVal.fn wl), (ny, .ref 0)] = some (.ref 0) := by
    have : Nat.beq ny n = false := by
      cases hq : Nat.beq ny n with
      | false => rfl
      | true => exact absurd (Nat.eq_of_beq_eq_true hq) hne
    simp [lk, this]
  refine wpAny_Assign_Name (List_ (spliced_more (se_script O ko hx hn l1 hl hv hlen cs fz s _ S fun cs1 h1 tk1 r1 p1 S1 hr1 => ?_) rfl)) rfl
  refine spliced_more (wpAny_Constant_int (spliced_none ?_)) rfl
  refine snoc_list (s := { s with heap := h1, toks := tk1 + 1 }) S1 (.cons hr1 (.cons (.int 0 tk1) .nil)) (by decide) fun cs2 h2 tk2 r2 p2 S2 hr2 => ?_
  refine storeC_ok (s := { s with heap := h2, toks := tk2 }) O hy hny S2 hr2 l2 (.inr rfl) fun cs3 h3 tk3 ea S3 => ?_
  refine hQ cs3 h3 tk3 _ (p1.trans (p2.trans (ea ▸ Pre.refl _))) (S3.sub ?_) .next
  intro m v hm
  simp only [lk] at hm ⊢
  split at hm
  · rename_i e
    have e' := Nat.eq_of_beq_eq_true e
    have : Nat.beq m n = false := by
      cases hq : Nat.beq m n with
      | false => rfl
      | true => exact absurd (e'.symm.trans (Nat.eq_of_beq_eq_true hq)) hne
    simp [this, e, hm]
  · cases hm
end
end Mine

end
section
open PySem PySem.W PyProof.Rows PySem.Calls
set_option maxRecDepth 10000
namespace Mine

noncomputable abbrev nState : Str := Str.ofString "state"
noncomputable abbrev nScript : Str := Str.ofString "script"
noncomputable abbrev nPattern : Str := Str.ofString "pattern"
noncomputable abbrev nStep : Str := Str.ofString "step"
noncomputable abbrev nRange : Str := Str.ofString "range"
theorem nm_state : nm nState = some 27627404020 := by kernel_rfl
theorem nm_script : nm nScript = some 4050646790772 := by kernel_rfl
theorem nm_pattern : nm nPattern = some 492162160357745 := by kernel_rfl

noncomputable def CompShape (sc : Scope) (s : Stmt) : Prop := ∃ (px py fp cp pos spos : Pos) (e elt : Expr) (scope sc' : Scope),
  s = .Assign [.Name nPattern py] (.ListComp elt [⟨.Name nStep px, .Call (.Name nRange fp) [e] [] cp, [], 0⟩] scope pos) spos ∧
  (∀ q L fa cd, swapsWith (.ListComp elt [⟨.Name nStep px, .Call (.Name nRange fp) [e] [] cp, [], 0⟩] scope pos) (some (.Name nPattern py)) spos.line (envOfC q sc L fa cd) = pure true) ∧
  (∀ q L fa cd, closureFor scope (envOfC q sc L fa cd) = pure [(nState, L + 1)]) ∧
  (∀ z ∈ scope.names, z.2 ≠ .cell) ∧ scope.kind = .function ∧ (∀ z ∈ scope.names, z.2 = .local → scope.names.lookup z.1 = some .local) ∧ scope.names.lookup nStep = some .local ∧
  sc.names.lookup nPattern = some .local ∧ sc.names.lookup nRange = some .globalImplicit ∧
  er sc 60 e = some (.bin .add (.int 1) takeE) ∧ er sc' 60 elt = some takeE ∧ (∀ z, sc'.names.lookup z ≠ some .local) ∧
  (∀ q L fa cd z kd, sc'.names.lookup z = some kd → (relabel scope (envOfC q sc L fa cd)).names.lookup z = some kd) ∧
  (∀ z, isCell (sc'.names.lookup z) → z = nState)

structure LawShape (sc : Scope) (body : List Stmt) : Prop where
  kind : sc.kind = .function
  cells : ∀ L, cellsFrom (L + 1) sc.names [] = [(nState, L + 1)]
  script : sc.names.lookup nScript = some .local
  state : sc.names.lookup nState = some .cell
  h0 : ∃ (xp yp sp pos pc pc2 pl ps : Pos) (q q2 : Nat), body[0]? = some (.Assign [.Name nState yp] (.List [.Subscript (.Name nScript xp) (.Slice none (some (.Constant (.int 40) q pc)) none sp) pos, .Constant (.int 0) q2 pc2] pl) ps)
  h1 : erSs sc 60 ((body.drop 1).take 13) = some pre2
  h14 : ∃ s, body[14]? = some s ∧ CompShape sc s
  h2 : erSs sc 60 (body.drop 15) = some post

theorem split_body {body : List Stmt} {a b : Stmt} (h0 : body[0]? = some a) (h14 : body[14]? = some b) : body = a :: ((body.drop 1).take 13 ++ (b :: body.drop 15)) := by
  cases body with
  | nil => cases h0
  | cons x r =>
    simp only [List.getElem?_cons_zero, Option.some.injEq] at h0
    subst h0
    have h13 : r[13]? = some b := h14
    have hl : 13 < r.length := by
      rcases Nat.lt_or_ge 13 r.length with q | q
      · exact q
      · rw [List.getElem?_eq_none q] at h13; cases h13
    have e : r[13] = b := by
      rw [List.getElem?_eq_getElem hl] at h13
      exact Option.some.inj h13
    show x :: r = x :: (r.take 13 ++ (b :: r.drop 14))
    rw [← e, ← List.drop_eq_getElem_cons hl, List.take_append_drop]

theorem ints_rel {vs : List Value} {ns : List Int} (h : IntsAre vs ns) (ad : List Addr) : VsRel ad (ns.map .int) vs := by
  induction h with
  | nil => exact .nil
  | cons n t _ ih => exact .cons (.int n t) ih

section
variable {P : PW} {K : Frag} {p : Program} {loose : List Str} {mean : ExcName → Option Value} {mg mb : Str → Option Value} {sc : Scope} {cx : Cx}

theorem law_xv (O : Ok K p loose mean mg mb sc cx 20) (ko : KOk K tb) (fn : ∀ a I, tb.fn a = some I → FnOk K a I) {q : Str} {fa : Addr} {cd : Value} (henv : cx.env = envOfC q sc cx.L fa cd) {body : List Stmt} (S : LawShape sc body)
    {wl : Addr} {vs : List Value} {ns : List Int} (hl : cx.h₀.IsList wl vs.toArray) (hi : IntsAre vs ns) (hlen : ns.length ≤ 1000) :
    ∃ ρ' H', XV P sc cx [(4050646790772, .fn wl), (27627404020, .ref 0)] [.cell0] (execs body cx.env) (.ret (.bool true)) ρ' H' := by
  have CS : CallSnd P K p loose mean mg mb CC 20 := snd_all ko fn 20
  have I : ∀ k, k ≤ 1000 → SS1 P tb CC 2003 sc cx k := fun k hk => (ss_all O ko fn CS k hk).1
  have J : ∀ k, k ≤ 1000 → SS2 P tb CC 2003 sc cx k := fun k hk => (ss_all O ko fn CS k hk).2
  obtain ⟨ρ1, H1, ρ2, H2, ρ3, H3, e1, e2, e3⟩ := law_plain (ns.take 40) (by rw [List.length_take]; omega)
  obtain ⟨xp, yp, sp, pos, pc, pc2, pl, ps, n1, n2, h0⟩ := S.h0
  obtain ⟨s14, h14, px, py, fp, cp, pos', spos, e, elt, scope, sc', rfl, c1, c2, c3, c4, c5, c6, c7, c8, c9, c10, c11, c12, c13⟩ := S.h14
  refine ⟨ρ3, H3, ?_⟩
  rw [split_body h0 h14]
  have a0 := s_first (P := P) O ko (xp := xp) (yp := yp) (sp := sp) (pos := pos) (pc := pc) (pc2 := pc2) (pl := pl) (ps := ps) (q := n1) (q2 := n2) S.script nm_script S.state nm_state (by decide) hl (xs := ns.map .int) (fun ad => ints_rel hi ad) (by rw [List.length_map, show szLine = 1048576 from by decide]; omega)
  rw [← List.map_take] at a0
  refine xv_cons a0 ?_
  refine xv_app I _ 60 _ (by decide) S.h1 _ _ _ _ e1 _ _ _ _ ?_
  refine xv_cons ?_ (J 60 (by decide) _ _ S.h2 _ _ _ _ _ e3)
  have el : l14 = .comp 492162160357745 238664436 (.bin .add (.int 1) takeE) takeE := rfl
  rw [el] at e2
  refine s_comp (nx := 238664436) O ko fn CS (k := 60) (by decide) (sc' := sc') (cl := [(nState, cx.L + 1)]) ?_ ?_ c3 c4 c5 c6 c7 nm_pattern c8 c9 c10 c11 ?_ ?_ e2
  · rw [henv]; exact c1 _ _ _ _
  · rw [henv]; exact c2 _ _ _ _
  · intro z kd hz
    rw [henv]; exact c12 _ _ _ _ z kd hz
  · intro z hz
    have hzz := c13 z hz
    subst hzz
    refine ⟨.inl S.state, ?_⟩
    rw [henv]
    show _ = (cellsFrom (cx.L + 1) sc.names []).lookup nState
    rw [S.cells]
end
end Mine

end
section
open PySem PySem.W PyProof.Rows PySem.Calls
set_option maxRecDepth 10000
namespace Mine

theorem law_go {K : Frag} (ko : KOk K tb) (fn : ∀ a I, tb.fn a = some I → FnOk K a I) {prog : Program} {w : World} {p : Program} {loose : List Str} {mean : ExcName → Option Value} {mg mb : Str → Option Value}
    {s₁ : Shared} {q : Str} {sc : Scope} {body : List Stmt} {fa : Addr} {cd : Value} {h₁ : Heap} {tk : Nat} {m : Str → Option Value} {o : Obj} {wl : Addr} {vs : List Value} {ns : List Int}
    (B : Below callerA s₁.heap [] s₁.heap) (KX : K.In s₁.heap) (Tp : Top p loose mean mg mb s₁.heap)
    (F : Fr s₁.heap s₁.heap.objs.size h₁ m) (N : News s₁.heap s₁.heap.objs.size h₁ [(s₁.heap.objs.size + 1, o)]) (ho : o.data = .cell none)
    (hm : m nScript = some (.ref wl)) (hl : s₁.heap.IsList wl vs.toArray) (hi : IntsAre vs ns) (hlen : ns.length ≤ 1000) (S : LawShape sc body)
    {Q : Flow → Shared → Prop} {E : Value → Shared → Prop} {dr : _} {os : _} {gens : _}
    (hQ : ∀ (h' : Heap) (tk' : Nat), (∀ b o, s₁.heap.get? b = some o → h'.get? b = some o) → Q (.ret (.bool true)) { heap := h', gens := gens, drawn := dr, toks := tk', os := os }) :
    wpAny (model prog w) (callerA.deeper (envOfC q sc s₁.heap.objs.size fa cd)) (execs body (envOfC q sc s₁.heap.objs.size fa cd)) Q E { heap := h₁, gens := gens, drawn := dr, toks := tk, os := os } := by
  have O : Ok K p loose mean mg mb sc ⟨callerA.deeper (envOfC q sc s₁.heap.objs.size fa cd), envOfC q sc s₁.heap.objs.size fa cd, envOfC q sc s₁.heap.objs.size fa cd, s₁.heap, s₁.heap, callerA, [], s₁.heap.objs.size, sc⟩ 20 :=
    { below := B
      inK := KX
      top := Tp
      frames := rfl
      frame := rfl
      fkind := S.kind
      kind := S.kind
      globals := rfl
      builtins := rfl
      handled := rfl
      depth := by show callerA.depth + 1 + 8 * 20 ≤ 800; decide
      units := by show callerA.units + 3 + 16 * 20 ≤ 9000; decide
      names := fun x k h => h
      loc := fun x h => rfl
      locF := fun x h => h
      cell := fun x h => ⟨h, rfl⟩ }
  obtain ⟨ρ', H', X⟩ := law_xv (P := (prog, w)) O ko fn rfl S hl hi hlen
  have hcl : (envOfC q sc s₁.heap.objs.size fa cd).cells.lookup nState = some (s₁.heap.objs.size + 1) := by
    show (cellsFrom (s₁.heap.objs.size + 1) sc.names []).lookup nState = _
    rw [S.cells]
    simp
  refine wpAny_mono (X [⟨s₁.heap.objs.size + 1, o, none⟩] [] { heap := h₁, gens := gens, drawn := dr, toks := tk, os := os } (fun f s' => Q f s') ?_ ?_) (fun _ _ h => h) fun _ _ h => h.elim
  · refine ⟨⟨m, F, ?_⟩, N, by simp [led, Cell.led], .cons (.cell0 ho) .nil⟩
    intro x n v hx hv
    simp only [lk] at hv
    split at hv
    · rename_i e
      have e' := Nat.eq_of_beq_eq_true e
      subst e'
      have := nm_inj hx nm_script
      subst this
      cases hv
      refine ⟨fun _ => ⟨_, hm, .fn _⟩, fun hk => ?_⟩
      have hk' : isCell (sc.names.lookup nScript) := hk
      rw [S.script] at hk'
      rcases hk' with h | h <;> cases h
    · split at hv
      · rename_i e
        have e' := Nat.eq_of_beq_eq_true e
        subst e'
        have := nm_inj hx nm_state
        subst this
        cases hv
        refine ⟨fun hk => ?_, fun _ => ⟨0, s₁.heap.objs.size + 1, rfl, rfl, hcl⟩⟩
        have hk' : sc.names.lookup nState = some .local := hk
        rw [S.state] at hk'
        cases hk'
      · cases hv
  · intro cs' h' tk' f pre S' hf
    cases hf with
    | ret hr =>
      cases hr
      obtain ⟨m', F', _⟩ := S'.fr
      exact hQ h' tk' F'.keep

inductive AllP {α : Type} (P : α → Prop) : List α → Prop
  | nil : AllP P []
  | cons {a : α} {l : List α} : P a → AllP P l → AllP P (a :: l)
theorem AllP.mem {α : Type} {P : α → Prop} {l : List α} (h : AllP P l) {a : α} (m : a ∈ l) : P a := by
  induction h with
  | nil => cases m
  | cons p _ ih =>
    rcases List.mem_cons.mp m with rfl | m
    · exact p
    · exact ih m
theorem law_go_ {K : Frag} {prog : Program} {w : World} {p : Program} {loose : List Str} {mean : ExcName → Option Value} {mg mb : Str → Option Value}
    {s₁ : Shared} {q : Str} {sc : Scope} {body : List Stmt} {fa : Addr} {cd : Value} {h₁ : Heap} {tk : Nat} {m : Str → Option Value} {o : Obj} {wl : Addr} {vs : List Value} {ns : List Int}
    (B : Below callerA s₁.heap [] s₁.heap) (KX : K.In s₁.heap) (Tp : Top p loose mean mg mb s₁.heap)
    (F : Fr s₁.heap s₁.heap.objs.size h₁ m) (N : News s₁.heap s₁.heap.objs.size h₁ [(s₁.heap.objs.size + 1, o)]) (ho : o.data = .cell none)
    (hm : m nScript = some (.ref wl)) (hl : s₁.heap.IsList wl vs.toArray) (hi : IntsAre vs ns) (hlen : ns.length ≤ 1000) (S : LawShape sc body)
    {Q : Flow → Shared → Prop} {E : Value → Shared → Prop} {dr : _} {os : _} {gens : _}
    (hQ : ∀ (h' : Heap) (tk' : Nat), (∀ b o, s₁.heap.get? b = some o → h'.get? b = some o) → Q (.ret (.bool true)) { heap := h', gens := gens, drawn := dr, toks := tk', os := os })
    (c1 : chkFld K tabL = true) (c2 : chkMeth K tabL = true) (c3 : chkGlob K tabL = true)
    (bi : AllP (fun x => nsIn K mainGlobals x = some none) ([Str.ofString "len", Str.ofString "abs", Str.ofString "max", Str.ofString "ord", Str.ofString "range", Str.ofString "reversed"] : List Str))
    (cl : AllP (fun x => ClsGood K x.1 x.2) initT) (fn : AllP (fun x => FnOk K x.1 x.2) fnT) :
    wpAny (model prog w) (callerA.deeper (envOfC q sc s₁.heap.objs.size fa cd)) (execs body (envOfC q sc s₁.heap.objs.size fa cd)) Q E { heap := h₁, gens := gens, drawn := dr, toks := tk, os := os } :=
  law_go (kOk_of (l := tabL) (fun c f h => cl.mem h) c1 c2 c3 (fun x h => bi.mem h)) (fun a I h => fn.mem (a := (a, I)) (lkA_mem h)) B KX Tp F N ho hm hl hi hlen S hQ
end Mine

end
section
-- where a constant of this name stands already, the head lays no twin of the text's term: the proof stays small
namespace Mine.hx
noncomputable def tw9203262823472262808 : Nat := 0
noncomputable def tw15222671194020912597 : Nat := 0
noncomputable def tw11153406825157011147 : Nat := 0
noncomputable def tw15695149568941424871 : Nat := 0
noncomputable def tw16328980522917596230 : Nat := 0
noncomputable def tw3696960078455213082 : Nat := 0
noncomputable def tw1326067736672580545 : Nat := 0
noncomputable def tw8294567603793468075 : Nat := 0
noncomputable def tw1550649239420292291 : Nat := 0
noncomputable def tw14829580396654412330 : Nat := 0
noncomputable def tw2492048929613541025 : Nat := 0
noncomputable def tw16058991070295768540 : Nat := 0
noncomputable def tw512089013297016134 : Nat := 0
noncomputable def tw7522427195449491447 : Nat := 0
noncomputable def tw2358503780328766540 : Nat := 0
noncomputable def tw11516083673652718094 : Nat := 0
noncomputable def tw2933574226750363228 : Nat := 0
noncomputable def tw4439321647937447777 : Nat := 0
noncomputable def tw3105936464211144054 : Nat := 0
noncomputable def tw8153351105357841641 : Nat := 0
noncomputable def tw5060404574720663952 : Nat := 0
noncomputable def tw10483263613327836230 : Nat := 0
noncomputable def tw2791140169897763788 : Nat := 0
noncomputable def tw12203261482158421150 : Nat := 0
noncomputable def tw13051606616835114215 : Nat := 0
noncomputable def tw8492490618434649289 : Nat := 0
noncomputable def tw14728151803300476778 : Nat := 0
noncomputable def tw18119002219515010161 : Nat := 0
noncomputable def tw10089113472772384774 : Nat := 0
noncomputable def tw6150637109426312374 : Nat := 0
noncomputable def tw9161127719534841658 : Nat := 0
noncomputable def tw12866121850660868255 : Nat := 0
noncomputable def tw12244323609287083244 : Nat := 0
noncomputable def tw663216957817655072 : Nat := 0
noncomputable def tw14292547228490471781 : Nat := 0
noncomputable def tw3127049559752940807 : Nat := 0
noncomputable def tw14938798612039523107 : Nat := 0
noncomputable def tw10595839521171088435 : Nat := 0
noncomputable def tw1210530748395591148 : Nat := 0
noncomputable def tw288411641489606368 : Nat := 0
noncomputable def tw2559257357635606366 : Nat := 0
noncomputable def tw313783033510757027 : Nat := 0
noncomputable def tw11413205744277866631 : Nat := 0
noncomputable def tw7876969669924440321 : Nat := 0
noncomputable def tw2927320300579833983 : Nat := 0
noncomputable def tw9434324248436539629 : Nat := 0
noncomputable def tw14264558840923773697 : Nat := 0
noncomputable def tw16600827452279821873 : Nat := 0
noncomputable def tw17940026834042610067 : Nat := 0
noncomputable def tw13574767429253134702 : Nat := 0
noncomputable def tw10116244012155279326 : Nat := 0
noncomputable def tw15513907674853377026 : Nat := 0
noncomputable def tw8435280521333064917 : Nat := 0
noncomputable def tw634369046800973281 : Nat := 0
noncomputable def tw9733707994341241046 : Nat := 0
noncomputable def tw2063962012853046974 : Nat := 0
noncomputable def tw8526741685566437804 : Nat := 0
noncomputable def tw10027257451656575460 : Nat := 0
noncomputable def tw2530950033039335674 : Nat := 0
noncomputable def tw6661460279421622568 : Nat := 0
noncomputable def tw7864485984771250624 : Nat := 0
noncomputable def tw7152445122136408137 : Nat := 0
noncomputable def tw11074221192868344092 : Nat := 0
noncomputable def tw1628044414854275119 : Nat := 0
noncomputable def tw7891766511613034010 : Nat := 0
noncomputable def tw17957411485211015398 : Nat := 0
noncomputable def tw12886684066980348408 : Nat := 0
noncomputable def tw8069092538493481521 : Nat := 0
noncomputable def tw4277992108151645805 : Nat := 0
noncomputable def tw13764951562285276426 : Nat := 0
noncomputable def tw11605663943579434254 : Nat := 0
noncomputable def tw17478428059220288493 : Nat := 0
noncomputable def tw4408647214706580624 : Nat := 0
noncomputable def tw4400082454429041863 : Nat := 0
noncomputable def tw2194386836789649628 : Nat := 0
noncomputable def tw8135493339603401687 : Nat := 0
noncomputable def tw13251139996166171883 : Nat := 0
noncomputable def tw7445733027249461639 : Nat := 0
noncomputable def tw4081245987573513101 : Nat := 0
noncomputable def tw1352479365382649514 : Nat := 0
noncomputable def tw13360980773314081272 : Nat := 0
noncomputable def tw8174265049933217202 : Nat := 0
noncomputable def tw17365841796568000854 : Nat := 0
noncomputable def tw13047111702688295373 : Nat := 0
noncomputable def tw6814150269638858196 : Nat := 0
noncomputable def tw558561146864003076 : Nat := 0
noncomputable def tw2618490190428073017 : Nat := 0
noncomputable def tw9313591890549905059 : Nat := 0
noncomputable def tw5834209850536974553 : Nat := 0
noncomputable def tw13959426194186691099 : Nat := 0
noncomputable def tw15288804291069992006 : Nat := 0
noncomputable def tw16889384090722931010 : Nat := 0
noncomputable def tw12531592957024129060 : Nat := 0
noncomputable def tw8626315453904953860 : Nat := 0
noncomputable def tw15396066670179936615 : Nat := 0
noncomputable def tw8089808293607095345 : Nat := 0
noncomputable def tw6768751125542400157 : Nat := 0
noncomputable def tw5132135861922131789 : Nat := 0
noncomputable def tw8013753438709209555 : Nat := 0
noncomputable def tw4567310155831165015 : Nat := 0
noncomputable def tw2786521351924353169 : Nat := 0
noncomputable def tw8866640492970853812 : Nat := 0
noncomputable def tw14640549305066258129 : Nat := 0
noncomputable def tw3646117782734044179 : Nat := 0
noncomputable def tw3767164605852734177 : Nat := 0
noncomputable def tw4518221268279412019 : Nat := 0
noncomputable def tw14885436537357200447 : Nat := 0
noncomputable def tw4327957577253540203 : Nat := 0
noncomputable def tw8680568747675894556 : Nat := 0
noncomputable def tw4870609095116367995 : Nat := 0
noncomputable def tw358558379371031262 : Nat := 0
noncomputable def tw13173629366862862663 : Nat := 0
noncomputable def tw4205994103841450751 : Nat := 0
noncomputable def tw11442105100669052236 : Nat := 0
noncomputable def tw2598453218603719200 : Nat := 0
noncomputable def tw1206601256437087541 : Nat := 0
noncomputable def tw11578488819760341122 : Nat := 0
noncomputable def tw2951018021206863066 : Nat := 0
noncomputable def tw17224703828522220382 : Nat := 0
noncomputable def tw10321924814751884951 : Nat := 0
noncomputable def tw10143001506211119355 : Nat := 0
noncomputable def tw14302440575911937650 : Nat := 0
noncomputable def tw15369465458315143963 : Nat := 0
noncomputable def tw4149262921692028645 : Nat := 0
noncomputable def tw13121428878594284678 : Nat := 0
noncomputable def tw3986090183591653432 : Nat := 0
noncomputable def tw3089318795281737075 : Nat := 0
noncomputable def tw16071171328324753980 : Nat := 0
noncomputable def tw1837536587343590555 : Nat := 0
noncomputable def tw13348707166376220045 : Nat := 0
noncomputable def tw2287549446805351391 : Nat := 0
noncomputable def tw10413734220558041264 : Nat := 0
noncomputable def tw9504622745713830366 : Nat := 0
noncomputable def tw3874887093996765642 : Nat := 0
noncomputable def tw6246129161080926832 : Nat := 0
noncomputable def tw11906715856835866592 : Nat := 0
noncomputable def tw12770057050171300576 : Nat := 0
noncomputable def tw4027200573524075328 : Nat := 0
noncomputable def tw9876543146211162787 : Nat := 0
noncomputable def tw16166368621782959301 : Nat := 0
noncomputable def tw1343601587134825943 : Nat := 0
noncomputable def tw11542809368468670571 : Nat := 0
noncomputable def tw990764820897086996 : Nat := 0
noncomputable def tw9691422183254027723 : Nat := 0
noncomputable def tw1283418492878313000 : Nat := 0
noncomputable def tw11153277219916700167 : Nat := 0
noncomputable def tw13970432741380693950 : Nat := 0
noncomputable def tw2690994299918733986 : Nat := 0
noncomputable def tw3035972135482712479 : Nat := 0
noncomputable def tw9592554324860578136 : Nat := 0
noncomputable def tw1057738602403264429 : Nat := 0
noncomputable def tw17034685950025090854 : Nat := 0
noncomputable def tw584368869492153410 : Nat := 0
noncomputable def tw8210334511716523686 : Nat := 0
noncomputable def tw3809554658679441229 : Nat := 0
noncomputable def tw8652588082031224057 : Nat := 0
noncomputable def tw14377449150090406625 : Nat := 0
noncomputable def tw17453721029707611201 : Nat := 0
noncomputable def tw4283430462085702152 : Nat := 0
noncomputable def tw1709533345360563255 : Nat := 0
noncomputable def tw15857467098338783936 : Nat := 0
noncomputable def tw15890461587552314789 : Nat := 0
noncomputable def tw9661119599188179355 : Nat := 0
noncomputable def tw616740878971486716 : Nat := 0
noncomputable def tw17454577913403430252 : Nat := 0
noncomputable def tw3864814513713628098 : Nat := 0
noncomputable def tw8462949007004437653 : Nat := 0
noncomputable def tw13726367727983386747 : Nat := 0
noncomputable def tw14044817671008982184 : Nat := 0
noncomputable def tw9071423850677124175 : Nat := 0
noncomputable def tw9300793153402489460 : Nat := 0
noncomputable def tw13100434611214814302 : Nat := 0
noncomputable def tw10742297795112918153 : Nat := 0
noncomputable def tw11803736057804005719 : Nat := 0
noncomputable def tw6272355060770995885 : Nat := 0
noncomputable def tw16670953707802882552 : Nat := 0
noncomputable def tw18163383231904437410 : Nat := 0
noncomputable def tw17080153362635259050 : Nat := 0
noncomputable def tw15504135724995973040 : Nat := 0
noncomputable def tw576899675763343441 : Nat := 0
noncomputable def tw11910161050144801243 : Nat := 0
noncomputable def tw9229111910879503682 : Nat := 0
noncomputable def tw14780050976537163602 : Nat := 0
noncomputable def tw5458019789550090450 : Nat := 0
noncomputable def tw3064612590093021604 : Nat := 0
noncomputable def tw6897596897191844616 : Nat := 0
noncomputable def tw6119721936978453658 : Nat := 0
noncomputable def tw856499453091330405 : Nat := 0
noncomputable def tw15882349035831147880 : Nat := 0
noncomputable def tw15387523616183901717 : Nat := 0
noncomputable def tw11501113234145657499 : Nat := 0
noncomputable def tw14629616601678125156 : Nat := 0
noncomputable def tw2822385975729611342 : Nat := 0
noncomputable def tw1011593914326734453 : Nat := 0
noncomputable def tw16509932877354490577 : Nat := 0
noncomputable def tw8009842355212673226 : Nat := 0
noncomputable def tw1890682559011639224 : Nat := 0
noncomputable def tw440200682837978379 : Nat := 0
noncomputable def tw9819894657917094784 : Nat := 0
noncomputable def tw15964317271155168136 : Nat := 0
noncomputable def tw15142553430523701620 : Nat := 0
noncomputable def tw7738528606467845978 : Nat := 0
noncomputable def tw11031246882950601735 : Nat := 0
noncomputable def tw3376783596681068269 : Nat := 0
noncomputable def tw15215796203213042296 : Nat := 0
noncomputable def tw4149058065308597245 : Nat := 0
noncomputable def tw2246114198807911332 : Nat := 0
noncomputable def tw12112647759870957014 : Nat := 0
noncomputable def tw14013666240027854082 : Nat := 0
noncomputable def tw10807983823035302247 : Nat := 0
noncomputable def tw8072070048918887560 : Nat := 0
noncomputable def tw4736886695178322556 : Nat := 0
noncomputable def tw13307316372228832604 : Nat := 0
noncomputable def tw2896438728730547279 : Nat := 0
noncomputable def tw3461369719786860586 : Nat := 0
noncomputable def tw12377959399836290067 : Nat := 0
noncomputable def tw9166759312617231822 : Nat := 0
noncomputable def tw8177863064353930860 : Nat := 0
noncomputable def tw15880504448479711350 : Nat := 0
noncomputable def tw2446823157787375605 : Nat := 0
noncomputable def tw17809212181156274236 : Nat := 0
noncomputable def tw122895109851674273 : Nat := 0
noncomputable def tw16174250225865239651 : Nat := 0
noncomputable def tw13835724759982542066 : Nat := 0
noncomputable def tw3643914471317708621 : Nat := 0
noncomputable def tw2428139205326471388 : Nat := 0
noncomputable def tw6061844814560656316 : Nat := 0
noncomputable def tw1247705991542527101 : Nat := 0
noncomputable def tw16403607636861804150 : Nat := 0
noncomputable def tw4331322168288796995 : Nat := 0
noncomputable def tw2313343453469587 : Nat := 0
noncomputable def tw13458227961471406816 : Nat := 0
noncomputable def tw2923197144701775926 : Nat := 0
noncomputable def tw932451246233767929 : Nat := 0
noncomputable def tw2024369426084107867 : Nat := 0
noncomputable def tw7211530611663871398 : Nat := 0
noncomputable def tw3275178236903027326 : Nat := 0
noncomputable def tw16268382344902531218 : Nat := 0
noncomputable def tw11213325380585884853 : Nat := 0
noncomputable def tw8063799498105216150 : Nat := 0
noncomputable def tw75286811257347183 : Nat := 0
noncomputable def tw15607260501993015751 : Nat := 0
noncomputable def tw14897263000708364615 : Nat := 0
noncomputable def tw17039554997033918745 : Nat := 0
noncomputable def tw16940700322699712139 : Nat := 0
noncomputable def tw17935817764870156833 : Nat := 0
noncomputable def tw3497297687653118206 : Nat := 0
noncomputable def tw11874976274172590891 : Nat := 0
noncomputable def tw4003515419551643288 : Nat := 0
noncomputable def tw6515252487656556794 : Nat := 0
noncomputable def tw13242615118203220063 : Nat := 0
noncomputable def tw2101144305115712416 : Nat := 0
noncomputable def tw6700631356736508036 : Nat := 0
noncomputable def tw10684428786698263374 : Nat := 0
noncomputable def tw1472627028676479429 : Nat := 0
noncomputable def tw8059141126832881916 : Nat := 0
noncomputable def tw764732042479237497 : Nat := 0
noncomputable def tw8812941233019382706 : Nat := 0
noncomputable def tw6716190173229412497 : Nat := 0
noncomputable def tw6649000586521064083 : Nat := 0
noncomputable def tw11068126759796092325 : Nat := 0
noncomputable def tw2497926436135343631 : Nat := 0
noncomputable def tw12870832547070010083 : Nat := 0
noncomputable def tw17589684436434577441 : Nat := 0
noncomputable def tw5074251886428752240 : Nat := 0
noncomputable def tw5679554732396833469 : Nat := 0
noncomputable def tw17882310838744935415 : Nat := 0
noncomputable def tw4232555702244796835 : Nat := 0
noncomputable def tw145932963246128051 : Nat := 0
noncomputable def tw540753489051694059 : Nat := 0
noncomputable def tw14537370466570294729 : Nat := 0
noncomputable def tw14992983214800064602 : Nat := 0
noncomputable def tw4796570027205292698 : Nat := 0
noncomputable def tw3264777137382535416 : Nat := 0
noncomputable def tw6810358813687007468 : Nat := 0
noncomputable def tw9440667166201527827 : Nat := 0
noncomputable def tw12934927632614500181 : Nat := 0
noncomputable def tw4311935586957980807 : Nat := 0
noncomputable def tw11106989734380656732 : Nat := 0
noncomputable def tw1680849517792564725 : Nat := 0
noncomputable def tw12047900415351236395 : Nat := 0
noncomputable def tw4852414063411868548 : Nat := 0
noncomputable def tw16439351170449580089 : Nat := 0
noncomputable def tw13593828154612893309 : Nat := 0
noncomputable def tw16294087361379835962 : Nat := 0
noncomputable def tw9061105588629884809 : Nat := 0
noncomputable def tw8918006350611020791 : Nat := 0
noncomputable def tw10385972291305524515 : Nat := 0
noncomputable def tw17832744011254776289 : Nat := 0
noncomputable def tw17281397238847051628 : Nat := 0
noncomputable def tw15414558616249902002 : Nat := 0
noncomputable def tw14525749084875191736 : Nat := 0
noncomputable def tw919350103801827390 : Nat := 0
noncomputable def tw7118774718363930462 : Nat := 0
noncomputable def tw10636867075115427920 : Nat := 0
noncomputable def tw17557955846509285157 : Nat := 0
noncomputable def tw1510941156237703019 : Nat := 0
noncomputable def tw4082656235138070203 : Nat := 0
noncomputable def tw16220354117797179089 : Nat := 0
noncomputable def tw17469929296604087836 : Nat := 0
noncomputable def tw15003182733627720372 : Nat := 0
noncomputable def tw7611442656274437139 : Nat := 0
noncomputable def tw8719310546069769394 : Nat := 0
noncomputable def tw9580440979016352591 : Nat := 0
noncomputable def tw15343754591034969740 : Nat := 0
noncomputable def tw13418063953174990607 : Nat := 0
noncomputable def tw4790614838382506437 : Nat := 0
noncomputable def tw16447564128994577934 : Nat := 0
noncomputable def tw4835485041952420608 : Nat := 0
noncomputable def tw10918413460159112602 : Nat := 0
noncomputable def tw1273976805293772973 : Nat := 0
noncomputable def tw16842200711778894795 : Nat := 0
noncomputable def tw2580623763806008135 : Nat := 0
noncomputable def tw14288243738381440493 : Nat := 0
noncomputable def tw1542206093075745799 : Nat := 0
noncomputable def tw8958890896562605561 : Nat := 0
noncomputable def tw8725880175513150802 : Nat := 0
noncomputable def tw5987738072841988675 : Nat := 0
noncomputable def tw8791178820788453978 : Nat := 0
noncomputable def tw9464382187203803050 : Nat := 0
noncomputable def tw14364110991727458282 : Nat := 0
noncomputable def tw4216420034110358939 : Nat := 0
noncomputable def tw12821517133369311258 : Nat := 0
noncomputable def tw811370354263480444 : Nat := 0
noncomputable def tw15637220148305887217 : Nat := 0
noncomputable def tw2533170188022924913 : Nat := 0
noncomputable def tw6905475023927656221 : Nat := 0
noncomputable def tw5044532516427930034 : Nat := 0
noncomputable def tw6346493079076818392 : Nat := 0
noncomputable def tw5254291218172806239 : Nat := 0
noncomputable def tw14737546165473383909 : Nat := 0
noncomputable def tw17890773333300578521 : Nat := 0
noncomputable def tw1633863039109725667 : Nat := 0
noncomputable def tw13971606217225975180 : Nat := 0
noncomputable def tw13588689596132362657 : Nat := 0
noncomputable def tw10516643663288343842 : Nat := 0
noncomputable def tw5286479519828484009 : Nat := 0
noncomputable def tw4354437142168371049 : Nat := 0
noncomputable def tw5033423968699698886 : Nat := 0
noncomputable def tw15847444086296491327 : Nat := 0
noncomputable def tw4181972808089653594 : Nat := 0
noncomputable def tw12677999345953698985 : Nat := 0
noncomputable def tw4466506141736074018 : Nat := 0
noncomputable def tw3770322921552031231 : Nat := 0
noncomputable def tw7135545248255827829 : Nat := 0
noncomputable def tw551878033868750631 : Nat := 0
noncomputable def tw3296267005824016447 : Nat := 0
noncomputable def tw12030256587067620103 : Nat := 0
noncomputable def tw11648549221805079087 : Nat := 0
noncomputable def tw4269251904459062986 : Nat := 0
noncomputable def tw5841609243541674958 : Nat := 0
noncomputable def tw5546299256372968745 : Nat := 0
noncomputable def tw18246513400157920875 : Nat := 0
noncomputable def tw3313114576310721804 : Nat := 0
noncomputable def tw2404633205489611897 : Nat := 0
noncomputable def tw11511833604947660874 : Nat := 0
noncomputable def tw8916866690797206258 : Nat := 0
noncomputable def tw1359767371040273477 : Nat := 0
noncomputable def tw9728688711462037987 : Nat := 0
noncomputable def tw5003379905787062580 : Nat := 0
noncomputable def tw18021650032858729757 : Nat := 0
noncomputable def tw3228090532262280768 : Nat := 0
noncomputable def tw1415654423932628287 : Nat := 0
noncomputable def tw16123065961656689723 : Nat := 0
noncomputable def tw13339376231836091768 : Nat := 0
noncomputable def tw6094537120995972945 : Nat := 0
noncomputable def tw17573937718456619690 : Nat := 0
noncomputable def tw3151352308241419672 : Nat := 0
noncomputable def tw15266863206226067889 : Nat := 0
noncomputable def tw9538226051533269152 : Nat := 0
noncomputable def tw3287984282217807052 : Nat := 0
noncomputable def tw13887421244684101553 : Nat := 0
noncomputable def tw11529457255951468018 : Nat := 0
noncomputable def tw7448076970475776704 : Nat := 0
noncomputable def tw14648767878841662682 : Nat := 0
noncomputable def tw2345487744653432563 : Nat := 0
noncomputable def tw6417813865559958743 : Nat := 0
noncomputable def tw11583711831427307319 : Nat := 0
noncomputable def tw8146969407493219791 : Nat := 0
noncomputable def tw14618633012687346700 : Nat := 0
noncomputable def tw16168019790947101984 : Nat := 0
noncomputable def tw17158850808337323685 : Nat := 0
noncomputable def tw11186278346458651885 : Nat := 0
noncomputable def tw9838419238923530799 : Nat := 0
noncomputable def tw15871474243252748558 : Nat := 0
noncomputable def tw4774948093478016081 : Nat := 0
noncomputable def tw7271874215164270623 : Nat := 0
noncomputable def tw4356472642329609974 : Nat := 0
noncomputable def tw3476191433996461152 : Nat := 0
noncomputable def tw11868710178002341650 : Nat := 0
noncomputable def tw2848357750357388338 : Nat := 0
noncomputable def tw3055073173289775447 : Nat := 0
noncomputable def tw13957897452677230658 : Nat := 0
noncomputable def tw16896803200496902077 : Nat := 0
noncomputable def tw15377445910829238176 : Nat := 0
noncomputable def tw8339939058450410749 : Nat := 0
noncomputable def tw8644560031705490810 : Nat := 0
noncomputable def tw8280520150143245440 : Nat := 0
noncomputable def tw12867322890000570906 : Nat := 0
noncomputable def tw13167229442138870257 : Nat := 0
noncomputable def tw3950329949160742250 : Nat := 0
noncomputable def tw6030892366491303188 : Nat := 0
noncomputable def tw8683918616840425538 : Nat := 0
noncomputable def tw12840931332580689146 : Nat := 0
noncomputable def tw12316986716782704333 : Nat := 0
noncomputable def tw13632848519707291393 : Nat := 0
noncomputable def tw11255313108558152148 : Nat := 0
noncomputable def tw15088266657895807461 : Nat := 0
noncomputable def tw16653890388018469145 : Nat := 0
noncomputable def tw7105652820812284432 : Nat := 0
noncomputable def tw10877914472530759936 : Nat := 0
noncomputable def tw10259550172225532679 : Nat := 0
noncomputable def tw14349752981382075830 : Nat := 0
noncomputable def tw16175857573809386902 : Nat := 0
noncomputable def tw209585131044431783 : Nat := 0
noncomputable def tw17393156024033759196 : Nat := 0
noncomputable def tw13071191126500404010 : Nat := 0
noncomputable def tw17093792507239897499 : Nat := 0
noncomputable def tw11305424722482197239 : Nat := 0
noncomputable def tw2745991006798580251 : Nat := 0
noncomputable def tw8383832312975943185 : Nat := 0
noncomputable def tw16179723595558240676 : Nat := 0
noncomputable def tw13817252110603802430 : Nat := 0
noncomputable def tw12460776751494502404 : Nat := 0
noncomputable def tw14958249954385249000 : Nat := 0
noncomputable def tw7196959931366684185 : Nat := 0
noncomputable def tw17871362266857658384 : Nat := 0
noncomputable def tw15822566648252787351 : Nat := 0
noncomputable def tw5675339146475604060 : Nat := 0
noncomputable def tw12247584602314355929 : Nat := 0
noncomputable def tw12476055800596261357 : Nat := 0
noncomputable def tw15416837940088587490 : Nat := 0
noncomputable def tw2077690074044854482 : Nat := 0
noncomputable def tw162848155603439990 : Nat := 0
noncomputable def tw18112682675998309622 : Nat := 0
noncomputable def tw12545834286116690562 : Nat := 0
noncomputable def tw1122348294875185760 : Nat := 0
noncomputable def tw9115037031211061566 : Nat := 0
noncomputable def tw5644764048023550207 : Nat := 0
noncomputable def tw12998825465883093567 : Nat := 0
noncomputable def tw10973832126581270915 : Nat := 0
noncomputable def tw14150925457611720700 : Nat := 0
noncomputable def tw17708868029167115550 : Nat := 0
noncomputable def tw15359127643436590004 : Nat := 0
noncomputable def tw3952756967378608505 : Nat := 0
noncomputable def tw9463795675075205437 : Nat := 0
noncomputable def tw16810214309375985759 : Nat := 0
noncomputable def tw6893509615905794137 : Nat := 0
noncomputable def tw9950984906565380895 : Nat := 0
noncomputable def tw16038111126348386163 : Nat := 0
noncomputable def tw8078265402885471976 : Nat := 0
noncomputable def tw8800404311707590821 : Nat := 0
noncomputable def tw9160301636639237467 : Nat := 0
noncomputable def tw663058311725963850 : Nat := 0
noncomputable def tw4601627501900363749 : Nat := 0
noncomputable def tw7494296812056875437 : Nat := 0
noncomputable def tw13343930504226383752 : Nat := 0
noncomputable def tw9960968122618143832 : Nat := 0
noncomputable def tw15719070241404046249 : Nat := 0
noncomputable def tw13733715944362664559 : Nat := 0
noncomputable def tw7462397087798485187 : Nat := 0
noncomputable def tw11133863230559657982 : Nat := 0
noncomputable def tw4091792125141806092 : Nat := 0
noncomputable def tw6948474134290792126 : Nat := 0
noncomputable def tw2884559834261289398 : Nat := 0
noncomputable def tw5345257021437362142 : Nat := 0
noncomputable def tw6645837424847773088 : Nat := 0
noncomputable def tw3114154055382352079 : Nat := 0
noncomputable def tw10147221347258369205 : Nat := 0
noncomputable def tw3854214851370498889 : Nat := 0
noncomputable def tw18288557733248936724 : Nat := 0
noncomputable def tw7010757331310601657 : Nat := 0
noncomputable def tw1658197193684275316 : Nat := 0
noncomputable def tw12122080299700438669 : Nat := 0
noncomputable def tw5151445886737355997 : Nat := 0
noncomputable def tw11388261020817367519 : Nat := 0
noncomputable def tw173491282623094914 : Nat := 0
noncomputable def tw1879972785478743596 : Nat := 0
noncomputable def tw6539906834269234583 : Nat := 0
noncomputable def tw8606624086045412448 : Nat := 0
noncomputable def tw10378792918218926003 : Nat := 0
noncomputable def tw3840107357115572158 : Nat := 0
noncomputable def tw15687806069674188760 : Nat := 0
noncomputable def tw15097703535185493621 : Nat := 0
noncomputable def tw3076748443876652520 : Nat := 0
noncomputable def tw11279161967884546433 : Nat := 0
noncomputable def tw10939141181510983603 : Nat := 0
noncomputable def tw12958973201736663512 : Nat := 0
noncomputable def tw2146883442004570292 : Nat := 0
noncomputable def tw7086268270985402415 : Nat := 0
noncomputable def tw11113180872011636366 : Nat := 0
noncomputable def tw14344502140286423506 : Nat := 0
noncomputable def tw3778313439561597904 : Nat := 0
noncomputable def tw13055703173919293919 : Nat := 0
noncomputable def tw16752690449648851378 : Nat := 0
noncomputable def tw12780837026708964458 : Nat := 0
noncomputable def tw7492030116529166354 : Nat := 0
noncomputable def tw16562810249119712046 : Nat := 0
noncomputable def tw9957188378976831251 : Nat := 0
noncomputable def tw12294144641388205969 : Nat := 0
noncomputable def tw9131330143639204769 : Nat := 0
noncomputable def tw12389214559413477026 : Nat := 0
noncomputable def tw9876159777357936899 : Nat := 0
noncomputable def tw3146596328094197638 : Nat := 0
noncomputable def tw18025658111944671314 : Nat := 0
noncomputable def tw4546395012647954685 : Nat := 0
noncomputable def tw11950744475718057257 : Nat := 0
noncomputable def tw538932451362224505 : Nat := 0
noncomputable def tw7411675879612560423 : Nat := 0
noncomputable def tw13994185481600150508 : Nat := 0
noncomputable def tw13328876942023701386 : Nat := 0
noncomputable def tw308946251185042162 : Nat := 0
noncomputable def tw933441318110467940 : Nat := 0
noncomputable def tw16297621413855188116 : Nat := 0
noncomputable def tw10471693372546886218 : Nat := 0
noncomputable def tw1016313470199982537 : Nat := 0
noncomputable def tw4786497654422877938 : Nat := 0
noncomputable def tw6938760501003799309 : Nat := 0
noncomputable def tw11150338070433746062 : Nat := 0
noncomputable def tw14581080383437586561 : Nat := 0
noncomputable def tw13118943305402699759 : Nat := 0
noncomputable def tw10239007394552878174 : Nat := 0
noncomputable def tw3011061140052219710 : Nat := 0
noncomputable def tw15466940415637129421 : Nat := 0
noncomputable def tw1347916733764399252 : Nat := 0
noncomputable def tw14364079368883715770 : Nat := 0
noncomputable def tw14095971397211782968 : Nat := 0
noncomputable def tw7789537453598603269 : Nat := 0
noncomputable def tw8313235512025127698 : Nat := 0
noncomputable def tw1541562364700265154 : Nat := 0
noncomputable def tw15088012910613175391 : Nat := 0
noncomputable def tw14264482880347793263 : Nat := 0
noncomputable def tw4328668841899091544 : Nat := 0
noncomputable def tw18318817810866021139 : Nat := 0
noncomputable def tw4464470257532119317 : Nat := 0
noncomputable def tw17529849222839375082 : Nat := 0
noncomputable def tw380438602855622199 : Nat := 0
noncomputable def tw2056866998167769742 : Nat := 0
noncomputable def tw4039083011212233968 : Nat := 0
noncomputable def tw6103871502414683963 : Nat := 0
noncomputable def tw13742351995774673705 : Nat := 0
noncomputable def tw64630411898889128 : Nat := 0
noncomputable def tw16422446190411312259 : Nat := 0
noncomputable def tw4175529333879961053 : Nat := 0
noncomputable def tw16929762562273154506 : Nat := 0
noncomputable def tw13904747866207299807 : Nat := 0
noncomputable def tw8374021121780711109 : Nat := 0
noncomputable def tw9279888435216144913 : Nat := 0
noncomputable def tw2822907071458423533 : Nat := 0
noncomputable def tw7117039502732272165 : Nat := 0
noncomputable def tw18286160104727862462 : Nat := 0
noncomputable def tw17971117906851217387 : Nat := 0
noncomputable def tw17493533222571850228 : Nat := 0
noncomputable def tw10596243801935397713 : Nat := 0
noncomputable def tw7160642757287845954 : Nat := 0
noncomputable def tw15287070642824720929 : Nat := 0
noncomputable def tw2899951234114317963 : Nat := 0
noncomputable def tw1089165632158530400 : Nat := 0
noncomputable def tw4820356001183778062 : Nat := 0
noncomputable def tw5859954059831970930 : Nat := 0
noncomputable def tw4957977497641929111 : Nat := 0
noncomputable def tw5745465540762440112 : Nat := 0
noncomputable def tw7992169660659198757 : Nat := 0
noncomputable def tw15515426146827161799 : Nat := 0
noncomputable def tw16344473531126340893 : Nat := 0
noncomputable def tw4928779516658127728 : Nat := 0
noncomputable def tw3597224387928761530 : Nat := 0
noncomputable def tw9818837363699442920 : Nat := 0
noncomputable def tw14919038862432082165 : Nat := 0
noncomputable def tw14138387163557110853 : Nat := 0
noncomputable def tw2911593502983421243 : Nat := 0
noncomputable def tw14221590416393904004 : Nat := 0
noncomputable def tw3245460484126576377 : Nat := 0
noncomputable def tw13273623471580055978 : Nat := 0
noncomputable def tw6815985589519525316 : Nat := 0
noncomputable def tw1742656451142089649 : Nat := 0
noncomputable def tw17601551063327761115 : Nat := 0
noncomputable def tw6912957689366828898 : Nat := 0
noncomputable def tw292709383975957704 : Nat := 0
noncomputable def tw10864032600957282309 : Nat := 0
noncomputable def tw4443683451718327492 : Nat := 0
noncomputable def tw12938584960106786947 : Nat := 0
noncomputable def tw17001873279354605088 : Nat := 0
noncomputable def tw767136082746918875 : Nat := 0
noncomputable def tw568883250039891352 : Nat := 0
noncomputable def tw12991532671812350252 : Nat := 0
noncomputable def tw7291546937901893924 : Nat := 0
noncomputable def tw7720140264552646002 : Nat := 0
noncomputable def tw4178432983367478423 : Nat := 0
noncomputable def tw12544056204730560957 : Nat := 0
noncomputable def tw6386498509896015619 : Nat := 0
noncomputable def tw15102594672415386349 : Nat := 0
noncomputable def tw16043647936977262334 : Nat := 0
noncomputable def tw10307356883056191786 : Nat := 0
noncomputable def tw11576060578404032109 : Nat := 0
noncomputable def tw12392353606877693820 : Nat := 0
noncomputable def tw17967490135107311282 : Nat := 0
noncomputable def tw10606685759059100015 : Nat := 0
noncomputable def tw8360991337320666301 : Nat := 0
noncomputable def tw5602258624995510178 : Nat := 0
noncomputable def tw18215676871104998399 : Nat := 0
noncomputable def tw18141915107381044649 : Nat := 0
noncomputable def tw1362163949497883158 : Nat := 0
noncomputable def tw14311561367197305191 : Nat := 0
noncomputable def tw4925180145992722077 : Nat := 0
noncomputable def tw2221040566805357410 : Nat := 0
noncomputable def tw1358250369764232750 : Nat := 0
noncomputable def tw4621005963601903657 : Nat := 0
noncomputable def tw2171623322903362057 : Nat := 0
noncomputable def tw6987332734749810786 : Nat := 0
noncomputable def tw7257752904359908486 : Nat := 0
noncomputable def tw8257418829022891257 : Nat := 0
noncomputable def tw7168309623211571701 : Nat := 0
noncomputable def tw2400788085593661931 : Nat := 0
noncomputable def tw6382291294955211999 : Nat := 0
noncomputable def tw16514233136784977297 : Nat := 0
noncomputable def tw2702912257362749870 : Nat := 0
noncomputable def tw1927792282007945085 : Nat := 0
noncomputable def tw8313530265402521625 : Nat := 0
noncomputable def tw14195857516506188752 : Nat := 0
noncomputable def tw3363799594497527996 : Nat := 0
noncomputable def tw3221206007101484751 : Nat := 0
noncomputable def tw16831101020866358490 : Nat := 0
noncomputable def tw3005603348570663604 : Nat := 0
noncomputable def tw14817645703785147396 : Nat := 0
noncomputable def tw9986171129721700794 : Nat := 0
noncomputable def tw9425653185733914764 : Nat := 0
noncomputable def tw4709067958626073384 : Nat := 0
noncomputable def tw5797834762334671391 : Nat := 0
noncomputable def tw17122103796602941201 : Nat := 0
noncomputable def tw15656486127985483219 : Nat := 0
noncomputable def tw9376648975381460483 : Nat := 0
noncomputable def tw11398092985049769381 : Nat := 0
noncomputable def tw13418900697369464106 : Nat := 0
noncomputable def tw9067985455519472299 : Nat := 0
noncomputable def tw6234722803267601620 : Nat := 0
noncomputable def tw5548490626718368004 : Nat := 0
noncomputable def tw5302141714640544522 : Nat := 0
noncomputable def tw6661065052353065320 : Nat := 0
noncomputable def tw5258523180806066235 : Nat := 0
noncomputable def tw10665394928749936821 : Nat := 0
noncomputable def tw11180674998892410296 : Nat := 0
noncomputable def tw1930959741480660892 : Nat := 0
noncomputable def tw11652467807154655573 : Nat := 0
noncomputable def tw5229663503899665235 : Nat := 0
noncomputable def tw6836243782229160083 : Nat := 0
noncomputable def tw16053221933270867258 : Nat := 0
noncomputable def tw1765193833724418456 : Nat := 0
noncomputable def tw1514262835583746478 : Nat := 0
noncomputable def tw13001090167431948686 : Nat := 0
noncomputable def tw12064557612275603510 : Nat := 0
noncomputable def tw2434324634612665561 : Nat := 0
noncomputable def tw12876500496384970917 : Nat := 0
noncomputable def tw15784146693891255721 : Nat := 0
noncomputable def tw9728156084186220081 : Nat := 0
noncomputable def tw10610913765530660747 : Nat := 0
noncomputable def tw8373975629259593368 : Nat := 0
noncomputable def tw3247834149452360602 : Nat := 0
noncomputable def tw15725253850911379854 : Nat := 0
noncomputable def tw10403954177801633367 : Nat := 0
noncomputable def tw7778518709807883925 : Nat := 0
noncomputable def tw3722370046394560457 : Nat := 0
noncomputable def tw15192764956840726322 : Nat := 0
noncomputable def tw12087079219971932454 : Nat := 0
noncomputable def tw12764173250460046966 : Nat := 0
noncomputable def tw3457709029089074591 : Nat := 0
noncomputable def tw15031465929163138751 : Nat := 0
noncomputable def tw3278543650648579469 : Nat := 0
noncomputable def tw6225824510542169761 : Nat := 0
noncomputable def tw6472239261815649849 : Nat := 0
noncomputable def tw13721988295695080152 : Nat := 0
noncomputable def tw1937750371327377422 : Nat := 0
noncomputable def tw3423346011291521542 : Nat := 0
noncomputable def tw16503919762052067167 : Nat := 0
noncomputable def tw5973647403945334939 : Nat := 0
noncomputable def tw45817232647829279 : Nat := 0
noncomputable def tw2049375122918656981 : Nat := 0
noncomputable def tw15587764676737728853 : Nat := 0
end Mine.hx
open PySem PySem.W PyProof.Rows PySem.Calls Mine
set_option maxRecDepth 100000
set_option maxHeartbeats 8000000
set_option Elab.async true in
theorem Mine.hx : PySem.Challenge.rw_rr0073_01.Holds := by
  (w_on; o_law; k_head; (case hw => w_witness2))
  k_go0
  rename_i w s₀ s₁ mg mb G Y fa o pm doc ho hg KX X V GL T B TE TW z1 z2 M z3 z4 hcd ns hs hlay hL1 hr1 hl2 z5 z6 wl vs z7 hL ra w1 r0 hI hr hc1 hc2 K0 hD h₁ tk F co right N0 X0
  refine Mine.law_go_ K0 KX T F N0 right ?_ hL hI (by omega) ?_ ?_ (by kernel_rfl) (by kernel_rfl) (by kernel_rfl) ?_ ?_ ?_
  · kernel_rfl
  · refine ⟨by kernel_rfl, fun L => by kernel_rfl, by kernel_rfl, by kernel_rfl, ⟨_, _, _, _, _, _, _, _, _, _, rfl⟩, by kernel_rfl, ?_, by kernel_rfl⟩
    refine ⟨_, rfl, _, _, _, _, _, _, _, _, _, { kind := .function, names := [(Str.ofString "_law_take", .globalImplicit), (Str.ofString "state", .cell)], isGenerator := false, isCoroutine := false }, rfl, ?_, ?_, ?_, ?_, ?_, ?_, ?_, ?_, ?_, ?_, ?_, ?_, ?_⟩
    · intro q L fa cd; kernel_rfl
    · intro q L fa cd; kernel_rfl
    · decide +kernel
    · kernel_rfl
    · decide +kernel
    · kernel_rfl
    · kernel_rfl
    · kernel_rfl
    · kernel_rfl
    · kernel_rfl
    · intro z h
      have := mem_of_lookup h
      rcases List.mem_cons.mp this with e | this
      · cases e
      · rcases List.mem_cons.mp this with e | this
        · cases e
        · cases this
    · intro q L fa cd z kd h
      have := mem_of_lookup h
      rcases List.mem_cons.mp this with e | this
      · cases e; kernel_rfl
      · rcases List.mem_cons.mp this with e | this
        · cases e; kernel_rfl
        · cases this
    · intro z h
      rcases h with h | h
      · have := mem_of_lookup h
        rcases List.mem_cons.mp this with e | this
        · cases e
        · rcases List.mem_cons.mp this with e | this
          · cases e; rfl
          · cases this
      · have := mem_of_lookup h
        rcases List.mem_cons.mp this with e | this
        · cases e
        · rcases List.mem_cons.mp this with e | this
          · cases e
          · cases this
  · intro h' tk' hk
    refine ⟨.inl ⟨.bool true, .bool true, [], rfl, fun cls => ?_, .bool _, ?_, fun _ => ⟨List.nodup_nil, fun a ha => nomatch ha⟩⟩, hk, rfl, hg⟩
    · kernel_rfl
    · kernel_rfl
  · exact .cons (by kernel_rfl) (.cons (by kernel_rfl) (.cons (by kernel_rfl) (.cons (by kernel_rfl) (.cons (by kernel_rfl) (.cons (by kernel_rfl) .nil)))))
  · unfold initT
    refine .cons ⟨by kernel_rfl, by kernel_rfl, by kernel_rfl, by kernel_rfl, by kernel_rfl, by kernel_rfl, by kernel_rfl, by kernel_rfl⟩ ?_
    refine .cons ⟨by kernel_rfl, by kernel_rfl, by kernel_rfl, by kernel_rfl, by kernel_rfl, by kernel_rfl, by kernel_rfl, by kernel_rfl⟩ ?_
    refine .cons ⟨by kernel_rfl, by kernel_rfl, by kernel_rfl, by kernel_rfl, by kernel_rfl, by kernel_rfl, by kernel_rfl, by kernel_rfl⟩ ?_
    refine .cons ⟨by kernel_rfl, by kernel_rfl, by kernel_rfl, by kernel_rfl, by kernel_rfl, by kernel_rfl, by kernel_rfl, by kernel_rfl⟩ ?_
    refine .cons ⟨by kernel_rfl, by kernel_rfl, by kernel_rfl, by kernel_rfl, by kernel_rfl, by kernel_rfl, by kernel_rfl, by kernel_rfl⟩ ?_
    refine .cons ⟨by kernel_rfl, by kernel_rfl, by kernel_rfl, by kernel_rfl, by kernel_rfl, by kernel_rfl, by kernel_rfl, by kernel_rfl⟩ ?_
    refine .cons ⟨by kernel_rfl, by kernel_rfl, by kernel_rfl, by kernel_rfl, by kernel_rfl, by kernel_rfl, by kernel_rfl, by kernel_rfl⟩ ?_
    refine .cons ⟨by kernel_rfl, by kernel_rfl, by kernel_rfl, by kernel_rfl, by kernel_rfl, by kernel_rfl, by kernel_rfl, by kernel_rfl⟩ ?_
    refine .cons ⟨by kernel_rfl, by kernel_rfl, by kernel_rfl, by kernel_rfl, by kernel_rfl, by kernel_rfl, by kernel_rfl, by kernel_rfl⟩ ?_
    refine .cons ⟨by kernel_rfl, by kernel_rfl, by kernel_rfl, by kernel_rfl, by kernel_rfl, by kernel_rfl, by kernel_rfl, by kernel_rfl⟩ ?_
    exact .nil
  · unfold fnT
    refine .cons (FnOk.of ["self", "op", "place", "type_of", "kids", "value"] [.none] 60 (by kernel_rfl) (.cons (nmIs_eq (by kernel_rfl)) (.cons (nmIs_eq (by kernel_rfl)) (.cons (nmIs_eq (by kernel_rfl)) (.cons (nmIs_eq (by kernel_rfl)) (.cons (nmIs_eq (by kernel_rfl)) (.cons (nmIs_eq (by kernel_rfl)) (.nil))))))) (by decide +kernel) (by kernel_rfl) (.cons .none (.nil)) (fun s args X => ar61 (fun a b c d e f => (by unfold BindP; refine' binds_lit ?h ?_; (case h => exact rfl); exact binds_K X rfl rfl rfl rfl rfl)) (fun a b c d e => (by unfold BindP; refine' binds_lit ?h ?_; (case h => exact rfl); exact binds_K X rfl rfl rfl rfl rfl)) args) (by decide) (by kernel_rfl)) ?_
    refine .cons (FnOk.of ["node"] [] 60 (by kernel_rfl) (.cons (nmIs_eq (by kernel_rfl)) (.nil)) (by decide +kernel) (by kernel_rfl) (.nil) (fun s args X => ar1 (fun a => BindsTo.of_eq (by kernel_rfl)) args) (by decide) (by kernel_rfl)) ?_
    refine .cons (FnOk.of ["a", "b"] [] 60 (by kernel_rfl) (.cons (nmIs_eq (by kernel_rfl)) (.cons (nmIs_eq (by kernel_rfl)) (.nil))) (by decide +kernel) (by kernel_rfl) (.nil) (fun s args X => ar2 (fun a b => BindsTo.of_eq (by kernel_rfl)) args) (by decide) (by kernel_rfl)) ?_
    refine .cons (FnOk.of ["t"] [] 60 (by kernel_rfl) (.cons (nmIs_eq (by kernel_rfl)) (.nil)) (by decide +kernel) (by kernel_rfl) (.nil) (fun s args X => ar1 (fun a => BindsTo.of_eq (by kernel_rfl)) args) (by decide) (by kernel_rfl)) ?_
    refine .cons (FnOk.of ["t"] [] 60 (by kernel_rfl) (.cons (nmIs_eq (by kernel_rfl)) (.nil)) (by decide +kernel) (by kernel_rfl) (.nil) (fun s args X => ar1 (fun a => BindsTo.of_eq (by kernel_rfl)) args) (by decide) (by kernel_rfl)) ?_
    refine .cons (FnOk.of ["a", "b"] [] 60 (by kernel_rfl) (.cons (nmIs_eq (by kernel_rfl)) (.cons (nmIs_eq (by kernel_rfl)) (.nil))) (by decide +kernel) (by kernel_rfl) (.nil) (fun s args X => ar2 (fun a b => BindsTo.of_eq (by kernel_rfl)) args) (by decide) (by kernel_rfl)) ?_
    refine .cons (FnOk.of ["types", "errors", "node", "index", "place"] [] 60 (by kernel_rfl) (.cons (nmIs_eq (by kernel_rfl)) (.cons (nmIs_eq (by kernel_rfl)) (.cons (nmIs_eq (by kernel_rfl)) (.cons (nmIs_eq (by kernel_rfl)) (.cons (nmIs_eq (by kernel_rfl)) (.nil)))))) (by decide +kernel) (by kernel_rfl) (.nil) (fun s args X => ar5 (fun a b c d e => BindsTo.of_eq (by kernel_rfl)) args) (by decide) (by kernel_rfl)) ?_
    refine .cons (FnOk.of ["record", "name"] [] 60 (by kernel_rfl) (.cons (nmIs_eq (by kernel_rfl)) (.cons (nmIs_eq (by kernel_rfl)) (.nil))) (by decide +kernel) (by kernel_rfl) (.nil) (fun s args X => ar2 (fun a b => BindsTo.of_eq (by kernel_rfl)) args) (by decide) (by kernel_rfl)) ?_
    refine .cons (FnOk.of ["types", "errors", "node", "name", "place"] [] 60 (by kernel_rfl) (.cons (nmIs_eq (by kernel_rfl)) (.cons (nmIs_eq (by kernel_rfl)) (.cons (nmIs_eq (by kernel_rfl)) (.cons (nmIs_eq (by kernel_rfl)) (.cons (nmIs_eq (by kernel_rfl)) (.nil)))))) (by decide +kernel) (by kernel_rfl) (.nil) (fun s args X => ar5 (fun a b c d e => BindsTo.of_eq (by kernel_rfl)) args) (by decide) (by kernel_rfl)) ?_
    refine .cons (FnOk.of ["types", "errors", "node", "place"] [] 60 (by kernel_rfl) (.cons (nmIs_eq (by kernel_rfl)) (.cons (nmIs_eq (by kernel_rfl)) (.cons (nmIs_eq (by kernel_rfl)) (.cons (nmIs_eq (by kernel_rfl)) (.nil))))) (by decide +kernel) (by kernel_rfl) (.nil) (fun s args X => ar4 (fun a b c d => BindsTo.of_eq (by kernel_rfl)) args) (by decide) (by kernel_rfl)) ?_
    refine .cons (FnOk.of ["node", "t"] [] 60 (by kernel_rfl) (.cons (nmIs_eq (by kernel_rfl)) (.cons (nmIs_eq (by kernel_rfl)) (.nil))) (by decide +kernel) (by kernel_rfl) (.nil) (fun s args X => ar2 (fun a b => BindsTo.of_eq (by kernel_rfl)) args) (by decide) (by kernel_rfl)) ?_
    refine .cons (FnOk.of ["types", "errors", "node", "t", "place"] [] 60 (by kernel_rfl) (.cons (nmIs_eq (by kernel_rfl)) (.cons (nmIs_eq (by kernel_rfl)) (.cons (nmIs_eq (by kernel_rfl)) (.cons (nmIs_eq (by kernel_rfl)) (.cons (nmIs_eq (by kernel_rfl)) (.nil)))))) (by decide +kernel) (by kernel_rfl) (.nil) (fun s args X => ar5 (fun a b c d e => BindsTo.of_eq (by kernel_rfl)) args) (by decide) (by kernel_rfl)) ?_
    refine .cons (FnOk.of ["rd"] [] 60 (by kernel_rfl) (.cons (nmIs_eq (by kernel_rfl)) (.nil)) (by decide +kernel) (by kernel_rfl) (.nil) (fun s args X => ar1 (fun a => BindsTo.of_eq (by kernel_rfl)) args) (by decide) (by kernel_rfl)) ?_
    refine .cons (FnOk.of ["rd", "node", "expression"] [] 60 (by kernel_rfl) (.cons (nmIs_eq (by kernel_rfl)) (.cons (nmIs_eq (by kernel_rfl)) (.cons (nmIs_eq (by kernel_rfl)) (.nil)))) (by decide +kernel) (by kernel_rfl) (.nil) (fun s args X => ar3 (fun a b c => BindsTo.of_eq (by kernel_rfl)) args) (by decide) (by kernel_rfl)) ?_
    refine .cons (FnOk.of ["rd", "node", "place"] [] 60 (by kernel_rfl) (.cons (nmIs_eq (by kernel_rfl)) (.cons (nmIs_eq (by kernel_rfl)) (.cons (nmIs_eq (by kernel_rfl)) (.nil)))) (by decide +kernel) (by kernel_rfl) (.nil) (fun s args X => ar3 (fun a b c => BindsTo.of_eq (by kernel_rfl)) args) (by decide) (by kernel_rfl)) ?_
    refine .cons (FnOk.of ["self"] [] 60 (by kernel_rfl) (.cons (nmIs_eq (by kernel_rfl)) (.nil)) (by decide +kernel) (by kernel_rfl) (.nil) (fun s args X => ar1 (fun a => BindsTo.of_eq (by kernel_rfl)) args) (by decide) (by kernel_rfl)) ?_
    refine .cons (FnOk.of ["self", "place", "code"] [] 60 (by kernel_rfl) (.cons (nmIs_eq (by kernel_rfl)) (.cons (nmIs_eq (by kernel_rfl)) (.cons (nmIs_eq (by kernel_rfl)) (.nil)))) (by decide +kernel) (by kernel_rfl) (.nil) (fun s args X => ar3 (fun a b c => BindsTo.of_eq (by kernel_rfl)) args) (by decide) (by kernel_rfl)) ?_
    refine .cons (FnOk.of ["self", "kind", "value", "place"] [] 60 (by kernel_rfl) (.cons (nmIs_eq (by kernel_rfl)) (.cons (nmIs_eq (by kernel_rfl)) (.cons (nmIs_eq (by kernel_rfl)) (.cons (nmIs_eq (by kernel_rfl)) (.nil))))) (by decide +kernel) (by kernel_rfl) (.nil) (fun s args X => ar4 (fun a b c d => BindsTo.of_eq (by kernel_rfl)) args) (by decide) (by kernel_rfl)) ?_
    refine .cons (FnOk.of [] [] 60 (by kernel_rfl) (.nil) (by decide +kernel) (by kernel_rfl) (.nil) (fun s args X => ar0 (BindsTo.of_eq (by kernel_rfl)) args) (by decide) (by kernel_rfl)) ?_
    refine .cons (FnOk.of ["char"] [] 60 (by kernel_rfl) (.cons (nmIs_eq (by kernel_rfl)) (.nil)) (by decide +kernel) (by kernel_rfl) (.nil) (fun s args X => ar1 (fun a => BindsTo.of_eq (by kernel_rfl)) args) (by decide) (by kernel_rfl)) ?_
    refine .cons (FnOk.of ["char"] [] 60 (by kernel_rfl) (.cons (nmIs_eq (by kernel_rfl)) (.nil)) (by decide +kernel) (by kernel_rfl) (.nil) (fun s args X => ar1 (fun a => BindsTo.of_eq (by kernel_rfl)) args) (by decide) (by kernel_rfl)) ?_
    refine .cons (FnOk.of ["char"] [] 60 (by kernel_rfl) (.cons (nmIs_eq (by kernel_rfl)) (.nil)) (by decide +kernel) (by kernel_rfl) (.nil) (fun s args X => ar1 (fun a => BindsTo.of_eq (by kernel_rfl)) args) (by decide) (by kernel_rfl)) ?_
    refine .cons (FnOk.of ["digits", "base", "most"] [] 60 (by kernel_rfl) (.cons (nmIs_eq (by kernel_rfl)) (.cons (nmIs_eq (by kernel_rfl)) (.cons (nmIs_eq (by kernel_rfl)) (.nil)))) (by decide +kernel) (by kernel_rfl) (.nil) (fun s args X => ar3 (fun a b c => BindsTo.of_eq (by kernel_rfl)) args) (by decide) (by kernel_rfl)) ?_
    refine .cons (FnOk.of ["self", "source", "errors"] [] 60 (by kernel_rfl) (.cons (nmIs_eq (by kernel_rfl)) (.cons (nmIs_eq (by kernel_rfl)) (.cons (nmIs_eq (by kernel_rfl)) (.nil)))) (by decide +kernel) (by kernel_rfl) (.nil) (fun s args X => ar3 (fun a b c => BindsTo.of_eq (by kernel_rfl)) args) (by decide) (by kernel_rfl)) ?_
    refine .cons (FnOk.of ["self", "ahead"] [(.int 0 530)] 60 (by kernel_rfl) (.cons (nmIs_eq (by kernel_rfl)) (.cons (nmIs_eq (by kernel_rfl)) (.nil))) (by decide +kernel) (by kernel_rfl) (.cons (.int 0 _) (.nil)) (fun s args X => ar21 (fun a b => (by unfold BindP; refine' binds_lit ?h ?_; (case h => exact rfl); exact binds_K X rfl rfl rfl rfl rfl)) (fun a => (by unfold BindP; refine' binds_lit ?h ?_; (case h => exact rfl); exact binds_K X rfl rfl rfl rfl rfl)) args) (by decide) (by kernel_rfl)) ?_
    refine .cons (FnOk.of ["self"] [] 60 (by kernel_rfl) (.cons (nmIs_eq (by kernel_rfl)) (.nil)) (by decide +kernel) (by kernel_rfl) (.nil) (fun s args X => ar1 (fun a => BindsTo.of_eq (by kernel_rfl)) args) (by decide) (by kernel_rfl)) ?_
    refine .cons (FnOk.of ["self"] [] 60 (by kernel_rfl) (.cons (nmIs_eq (by kernel_rfl)) (.nil)) (by decide +kernel) (by kernel_rfl) (.nil) (fun s args X => ar1 (fun a => BindsTo.of_eq (by kernel_rfl)) args) (by decide) (by kernel_rfl)) ?_
    refine .cons (FnOk.of ["self", "begun"] [] 60 (by kernel_rfl) (.cons (nmIs_eq (by kernel_rfl)) (.cons (nmIs_eq (by kernel_rfl)) (.nil))) (by decide +kernel) (by kernel_rfl) (.nil) (fun s args X => ar2 (fun a b => BindsTo.of_eq (by kernel_rfl)) args) (by decide) (by kernel_rfl)) ?_
    refine .cons (FnOk.of ["self", "begun"] [] 60 (by kernel_rfl) (.cons (nmIs_eq (by kernel_rfl)) (.cons (nmIs_eq (by kernel_rfl)) (.nil))) (by decide +kernel) (by kernel_rfl) (.nil) (fun s args X => ar2 (fun a b => BindsTo.of_eq (by kernel_rfl)) args) (by decide) (by kernel_rfl)) ?_
    refine .cons (FnOk.of ["self", "begun", "value", "most"] [] 60 (by kernel_rfl) (.cons (nmIs_eq (by kernel_rfl)) (.cons (nmIs_eq (by kernel_rfl)) (.cons (nmIs_eq (by kernel_rfl)) (.cons (nmIs_eq (by kernel_rfl)) (.nil))))) (by decide +kernel) (by kernel_rfl) (.nil) (fun s args X => ar4 (fun a b c d => BindsTo.of_eq (by kernel_rfl)) args) (by decide) (by kernel_rfl)) ?_
    refine .cons (FnOk.of ["self"] [] 60 (by kernel_rfl) (.cons (nmIs_eq (by kernel_rfl)) (.nil)) (by decide +kernel) (by kernel_rfl) (.nil) (fun s args X => ar1 (fun a => BindsTo.of_eq (by kernel_rfl)) args) (by decide) (by kernel_rfl)) ?_
    refine .cons (FnOk.of ["self", "number", "form", "size"] [] 60 (by kernel_rfl) (.cons (nmIs_eq (by kernel_rfl)) (.cons (nmIs_eq (by kernel_rfl)) (.cons (nmIs_eq (by kernel_rfl)) (.cons (nmIs_eq (by kernel_rfl)) (.nil))))) (by decide +kernel) (by kernel_rfl) (.nil) (fun s args X => ar4 (fun a b c d => BindsTo.of_eq (by kernel_rfl)) args) (by decide) (by kernel_rfl)) ?_
    refine .cons (FnOk.of ["self", "name", "kind", "type_of", "place"] [] 60 (by kernel_rfl) (.cons (nmIs_eq (by kernel_rfl)) (.cons (nmIs_eq (by kernel_rfl)) (.cons (nmIs_eq (by kernel_rfl)) (.cons (nmIs_eq (by kernel_rfl)) (.cons (nmIs_eq (by kernel_rfl)) (.nil)))))) (by decide +kernel) (by kernel_rfl) (.nil) (fun s args X => ar5 (fun a b c d e => BindsTo.of_eq (by kernel_rfl)) args) (by decide) (by kernel_rfl)) ?_
    refine .cons (FnOk.of ["self"] [] 60 (by kernel_rfl) (.cons (nmIs_eq (by kernel_rfl)) (.nil)) (by decide +kernel) (by kernel_rfl) (.nil) (fun s args X => ar1 (fun a => BindsTo.of_eq (by kernel_rfl)) args) (by decide) (by kernel_rfl)) ?_
    refine .cons (FnOk.of ["self", "form", "size", "module", "label"] [(.str "" 773), (.str "" 774)] 60 (by kernel_rfl) (.cons (nmIs_eq (by kernel_rfl)) (.cons (nmIs_eq (by kernel_rfl)) (.cons (nmIs_eq (by kernel_rfl)) (.cons (nmIs_eq (by kernel_rfl)) (.cons (nmIs_eq (by kernel_rfl)) (.nil)))))) (by decide +kernel) (by kernel_rfl) (.cons (.str [] _) (.cons (.str [] _) (.nil))) (fun s args X => ar52 (fun a b c d e => (by unfold BindP; refine' binds_lit ?h ?_; (case h => exact rfl); exact binds_K X rfl rfl rfl rfl rfl)) (fun a b c d => (by unfold BindP; refine' binds_lit ?h ?_; (case h => exact rfl); exact binds_K X rfl rfl rfl rfl rfl)) (fun a b c => (by unfold BindP; refine' binds_lit ?h ?_; (case h => exact rfl); exact binds_K X rfl rfl rfl rfl rfl)) args) (by decide) (by kernel_rfl)) ?_
    refine .cons (FnOk.of ["self", "level", "label"] [] 60 (by kernel_rfl) (.cons (nmIs_eq (by kernel_rfl)) (.cons (nmIs_eq (by kernel_rfl)) (.cons (nmIs_eq (by kernel_rfl)) (.nil)))) (by decide +kernel) (by kernel_rfl) (.nil) (fun s args X => ar3 (fun a b c => BindsTo.of_eq (by kernel_rfl)) args) (by decide) (by kernel_rfl)) ?_
    refine .cons (FnOk.of ["self", "types", "module"] [] 60 (by kernel_rfl) (.cons (nmIs_eq (by kernel_rfl)) (.cons (nmIs_eq (by kernel_rfl)) (.cons (nmIs_eq (by kernel_rfl)) (.nil)))) (by decide +kernel) (by kernel_rfl) (.nil) (fun s args X => ar3 (fun a b c => BindsTo.of_eq (by kernel_rfl)) args) (by decide) (by kernel_rfl)) ?_
    refine .cons (FnOk.of ["self", "label"] [] 60 (by kernel_rfl) (.cons (nmIs_eq (by kernel_rfl)) (.cons (nmIs_eq (by kernel_rfl)) (.nil))) (by decide +kernel) (by kernel_rfl) (.nil) (fun s args X => ar2 (fun a b => BindsTo.of_eq (by kernel_rfl)) args) (by decide) (by kernel_rfl)) ?_
    refine .cons (FnOk.of ["self", "obj"] [] 60 (by kernel_rfl) (.cons (nmIs_eq (by kernel_rfl)) (.cons (nmIs_eq (by kernel_rfl)) (.nil))) (by decide +kernel) (by kernel_rfl) (.nil) (fun s args X => ar2 (fun a b => BindsTo.of_eq (by kernel_rfl)) args) (by decide) (by kernel_rfl)) ?_
    refine .cons (FnOk.of ["self", "name", "kind", "t", "place"] [] 60 (by kernel_rfl) (.cons (nmIs_eq (by kernel_rfl)) (.cons (nmIs_eq (by kernel_rfl)) (.cons (nmIs_eq (by kernel_rfl)) (.cons (nmIs_eq (by kernel_rfl)) (.cons (nmIs_eq (by kernel_rfl)) (.nil)))))) (by decide +kernel) (by kernel_rfl) (.nil) (fun s args X => ar5 (fun a b c d e => BindsTo.of_eq (by kernel_rfl)) args) (by decide) (by kernel_rfl)) ?_
    refine .cons (FnOk.of ["self", "name"] [] 60 (by kernel_rfl) (.cons (nmIs_eq (by kernel_rfl)) (.cons (nmIs_eq (by kernel_rfl)) (.nil))) (by decide +kernel) (by kernel_rfl) (.nil) (fun s args X => ar2 (fun a b => BindsTo.of_eq (by kernel_rfl)) args) (by decide) (by kernel_rfl)) ?_
    refine .cons (FnOk.of [] [] 60 (by kernel_rfl) (.nil) (by decide +kernel) (by kernel_rfl) (.nil) (fun s args X => ar0 (BindsTo.of_eq (by kernel_rfl)) args) (by decide) (by kernel_rfl)) ?_
    refine .cons (FnOk.of [] [] 60 (by kernel_rfl) (.nil) (by decide +kernel) (by kernel_rfl) (.nil) (fun s args X => ar0 (BindsTo.of_eq (by kernel_rfl)) args) (by decide) (by kernel_rfl)) ?_
    refine .cons (FnOk.of ["scopes"] [] 60 (by kernel_rfl) (.cons (nmIs_eq (by kernel_rfl)) (.nil)) (by decide +kernel) (by kernel_rfl) (.nil) (fun s args X => ar1 (fun a => BindsTo.of_eq (by kernel_rfl)) args) (by decide) (by kernel_rfl)) ?_
    refine .cons (FnOk.of ["self", "source", "types", "errors", "importer"] [.none] 60 (by kernel_rfl) (.cons (nmIs_eq (by kernel_rfl)) (.cons (nmIs_eq (by kernel_rfl)) (.cons (nmIs_eq (by kernel_rfl)) (.cons (nmIs_eq (by kernel_rfl)) (.cons (nmIs_eq (by kernel_rfl)) (.nil)))))) (by decide +kernel) (by kernel_rfl) (.cons .none (.nil)) (fun s args X => ar51 (fun a b c d e => (by unfold BindP; refine' binds_lit ?h ?_; (case h => exact rfl); exact binds_K X rfl rfl rfl rfl rfl)) (fun a b c d => (by unfold BindP; refine' binds_lit ?h ?_; (case h => exact rfl); exact binds_K X rfl rfl rfl rfl rfl)) args) (by decide) (by kernel_rfl)) ?_
    refine .cons (FnOk.of ["self"] [] 60 (by kernel_rfl) (.cons (nmIs_eq (by kernel_rfl)) (.nil)) (by decide +kernel) (by kernel_rfl) (.nil) (fun s args X => ar1 (fun a => BindsTo.of_eq (by kernel_rfl)) args) (by decide) (by kernel_rfl)) ?_
    refine .cons (FnOk.of ["self", "kind"] [] 60 (by kernel_rfl) (.cons (nmIs_eq (by kernel_rfl)) (.cons (nmIs_eq (by kernel_rfl)) (.nil))) (by decide +kernel) (by kernel_rfl) (.nil) (fun s args X => ar2 (fun a b => BindsTo.of_eq (by kernel_rfl)) args) (by decide) (by kernel_rfl)) ?_
    refine .cons (FnOk.of ["self", "kind"] [] 60 (by kernel_rfl) (.cons (nmIs_eq (by kernel_rfl)) (.cons (nmIs_eq (by kernel_rfl)) (.nil))) (by decide +kernel) (by kernel_rfl) (.nil) (fun s args X => ar2 (fun a b => BindsTo.of_eq (by kernel_rfl)) args) (by decide) (by kernel_rfl)) ?_
    refine .cons (FnOk.of ["self", "kind"] [] 60 (by kernel_rfl) (.cons (nmIs_eq (by kernel_rfl)) (.cons (nmIs_eq (by kernel_rfl)) (.nil))) (by decide +kernel) (by kernel_rfl) (.nil) (fun s args X => ar2 (fun a b => BindsTo.of_eq (by kernel_rfl)) args) (by decide) (by kernel_rfl)) ?_
    refine .cons (FnOk.of ["self", "code"] [] 60 (by kernel_rfl) (.cons (nmIs_eq (by kernel_rfl)) (.cons (nmIs_eq (by kernel_rfl)) (.nil))) (by decide +kernel) (by kernel_rfl) (.nil) (fun s args X => ar2 (fun a b => BindsTo.of_eq (by kernel_rfl)) args) (by decide) (by kernel_rfl)) ?_
    refine .cons (FnOk.of ["self"] [] 60 (by kernel_rfl) (.cons (nmIs_eq (by kernel_rfl)) (.nil)) (by decide +kernel) (by kernel_rfl) (.nil) (fun s args X => ar1 (fun a => BindsTo.of_eq (by kernel_rfl)) args) (by decide) (by kernel_rfl)) ?_
    refine .cons (FnOk.of ["self"] [] 60 (by kernel_rfl) (.cons (nmIs_eq (by kernel_rfl)) (.nil)) (by decide +kernel) (by kernel_rfl) (.nil) (fun s args X => ar1 (fun a => BindsTo.of_eq (by kernel_rfl)) args) (by decide) (by kernel_rfl)) ?_
    refine .cons (FnOk.of ["self"] [] 60 (by kernel_rfl) (.cons (nmIs_eq (by kernel_rfl)) (.nil)) (by decide +kernel) (by kernel_rfl) (.nil) (fun s args X => ar1 (fun a => BindsTo.of_eq (by kernel_rfl)) args) (by decide) (by kernel_rfl)) ?_
    refine .cons (FnOk.of ["self", "kinds"] [] 60 (by kernel_rfl) (.cons (nmIs_eq (by kernel_rfl)) (.cons (nmIs_eq (by kernel_rfl)) (.nil))) (by decide +kernel) (by kernel_rfl) (.nil) (fun s args X => ar2 (fun a b => BindsTo.of_eq (by kernel_rfl)) args) (by decide) (by kernel_rfl)) ?_
    refine .cons (FnOk.of ["state", "most"] [] 60 (by kernel_rfl) (.cons (nmIs_eq (by kernel_rfl)) (.cons (nmIs_eq (by kernel_rfl)) (.nil))) (by decide +kernel) (by kernel_rfl) (.nil) (fun s args X => ar2 (fun a b => BindsTo.of_eq (by kernel_rfl)) args) (by decide) (by kernel_rfl)) ?_
    refine .cons (FnOk.of ["rd"] [] 60 (by kernel_rfl) (.cons (nmIs_eq (by kernel_rfl)) (.nil)) (by decide +kernel) (by kernel_rfl) (.nil) (fun s args X => ar1 (fun a => BindsTo.of_eq (by kernel_rfl)) args) (by decide) (by kernel_rfl)) ?_
    exact .nil

theorem PySem.Challenge.cw_rr0073_01_holds : PySem.Challenge.rw_rr0073_01.Holds := by
  exact Mine.hx

end
