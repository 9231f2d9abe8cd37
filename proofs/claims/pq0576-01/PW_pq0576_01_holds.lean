import PyProof.Rows.All
import Wide.All
import OpenK.AllK
import Wide.FinOn
import PySem.Challenge.RW_pq0576_01
set_option Elab.async false
section
set_option autoImplicit false
namespace Mine
open PySem

/-! ## The small interpreter: values, objects, terms -/

set_option genSizeOf false in
inductive BI where
  | len | range | abs | list | tuple | sorted | isinst
  deriving DecidableEq

set_option genSizeOf false in
inductive AV where
  | none | bool (b : Bool) | int (i : Int) | str (k : Nat) | tup (xs : List AV)
  | ref (n : Nat) | fn (k : Nat) | cls (k : Nat) | bi (b : BI) | rng (a b c : Int) | fl (xs : List Int)

set_option genSizeOf false in
inductive Atom where
  | i (n : Int) | s (k : Nat)
  deriving DecidableEq

set_option genSizeOf false in
inductive AO where
  | list (xs : List AV)
  | dE
  | dA (kvs : List (Atom × AV))
  | dT (kvs : List (List Atom × AV))
  | inst (c : Nat) (fs : List (Nat × AV))

set_option genSizeOf false in
inductive ME where
  | bad
  | cst (c : AV)
  | loc (i : Nat)
  | bop (isAnd : Bool) (es : List ME)
  | bin (op : Operator) (l r : ME)
  | neg (e : ME)
  | not (e : ME)
  | ite (t b o : ME)
  | dic (ks vs : List ME)
  | lst (es : List ME)
  | tup (es : List ME)
  | comp (nl : Nat) (elt : ME) (tgt : List Nat) (one : Bool) (it : ME) (ifs : List ME)
  | cmp (op : CmpOp) (l r : ME)
  | mcall (o : ME) (name : Nat) (args : List ME)
  | call (f : ME) (args : List ME)
  | attr (o : ME) (a : Nat)
  | sub (o i : ME)
  | slice (o : ME) (l u : Option ME)

set_option genSizeOf false in
inductive MT where
  | bad
  | loc (i : Nat)
  | tup (is : List Nat)
  | attr (o : ME) (a : Nat)
  | sub (o i : ME)

set_option genSizeOf false in
inductive MS where
  | bad
  | expr (e : ME)
  | ret (e : Option ME)
  | ifs (t : ME) (b o : List MS)
  | whil (t : ME) (b : List MS)
  | for (tgt : MT) (it : ME) (b : List MS)
  | pass
  | brk
  | asg (t : MT) (e : ME)

/-! ## The tables of names -/

noncomputable def strTab : List String := ["", "$", "'", "$end", "error", "$undefined", "$accept", "a", "b", "s", "t", "row"]
noncomputable def sid (x : Str) : Nat := (strTab.map Str.ofString).idxOf x
noncomputable def sOf (k : Nat) : Str := ((strTab.map Str.ofString)[k]?).getD (Str.ofString "?")

noncomputable def attrTab : List String := ["number", "left", "right", "level_of", "action", "line", "before",
  "names", "terminal_count", "rules", "levels", "expect", "start", "by_left", "offsets", "owners", "item_count",
  "symbol_count", "is_terminal", "rules_of", "item", "rule_of", "dot_of", "after",
  "kernel", "symbol", "items", "moves", "reductions", "goto",
  "grammar", "firsts", "wanted", "added", "close", "states", "closer", "numbers", "number_of", "expand", "built",
  "symbols", "rests", "automaton", "nullables", "opened", "suffix",
  "append", "extend", "index", "get", "setdefault"]
noncomputable def aid (x : Str) : Nat := (attrTab.map Str.ofString).idxOf x
noncomputable def aOf (k : Nat) : Str := ((attrTab.map Str.ofString)[k]?).getD (Str.ofString "?")

/-- the defs, in an order of our own: (class, name) -/
noncomputable def fnTab : List (String × String) := [
  ("", "bits"), ("Rule", "__init__"), ("Grammar", "__init__"), ("Grammar", "symbol_count"), ("Grammar", "is_terminal"), ("Grammar", "number"), ("Grammar", "rules_of"),
  ("Grammar", "item"), ("Grammar", "rule_of"), ("Grammar", "dot_of"), ("Grammar", "after"), ("", "last_terminal"), ("", "plain_grammar"), ("", "spread"), ("", "nullable"),
  ("", "first_of"), ("", "first_masks"), ("", "transitive"), ("LrState", "__init__"), ("Closer", "__init__"), ("Closer", "wanted"), ("Closer", "added"), ("Closer", "close"),
  ("", "advanced"), ("", "kernels_behind"), ("", "complete_rules"), ("Automaton", "__init__"), ("Builder", "__init__"), ("Builder", "number_of"), ("Builder", "expand"), ("Builder", "built"),
  ("", "build"), ("Path", "__init__"), ("Finder", "__init__"), ("Finder", "opened"), ("Finder", "suffix"),
  ("", "_law_pen"), ("", "_law_draw"), ("", "_law_right"), ("", "_law_pairs"), ("", "_law_empty"), ("", "_law_ends"), ("", "_law_derives"), ("", "_law_heads"), ("", "_law_suffix_fits"), ("", "law")]
noncomputable def fid (c n : String) : Nat := fnTab.idxOf (c, n)
noncomputable def clsTab : List String := ["Rule", "Grammar", "LrState", "Closer", "Automaton", "Builder", "Path", "Finder"]

noncomputable def globTab : List (String × AV) :=
  (fnTab.filterMap fun p => if p.1 = "" then some (p.2, AV.fn (fid p.1 p.2)) else none) ++
  (clsTab.map fun c => (c, AV.cls (clsTab.idxOf c))) ++
  [("END", .int 0), ("NONE", .int (-1)), ("OWN_TERMINALS", .tup [.str 3, .str 4, .str 5]),
   ("len", .bi .len), ("range", .bi .range), ("abs", .bi .abs), ("list", .bi .list), ("tuple", .bi .tuple), ("sorted", .bi .sorted), ("isinstance", .bi .isinst)]
noncomputable def globOf (x : Str) : Option AV := ((globTab.find? fun p => Str.ofString p.1 == x)).map (·.2)

/-! ## From the text's terms to the small terms -/

abbrev Sc := Str → Option NameKind

noncomputable def isVar (k : Option NameKind) : Bool := match k with | some .local | some .cell | some .free => true | _ => false
noncomputable def ownVar (k : NameKind) : Bool := match k with | .local | .cell => true | _ => false
noncomputable def slotsOf (names : List (Str × NameKind)) : List Str := (names.filter fun p => ownVar p.2).map (·.1)
/-- the slots of a comprehension's block: its own locals -/
noncomputable def compSlots (names : List (Str × NameKind)) : List Str := (names.filter fun p => p.2 == .local).map (·.1)

noncomputable def nameOk (x : Str) : Bool := !(x == ("__debug__" : Str)) && !(x == ("__classdict__" : Str))
noncomputable def compName (k : Sc) (sl : List Str) (x : Str) : ME :=
  if !nameOk x then .bad else match isVar (k x) with
  | true => if sl.idxOf x < sl.length then .loc (sl.idxOf x) else .bad
  | false => match k x with
    | some .globalImplicit => (match globOf x with | some v => .cst v | none => .bad)
    | _ => .bad

noncomputable def compConst : Const → ME
  | .none => .cst .none
  | .bool b => .cst (.bool b)
  | .int i => .cst (.int i)
  | .str s => if sid s < strTab.length then .cst (.str (sid s)) else .bad
  | _ => .bad

noncomputable def compTgt (k : Sc) (sl : List Str) : Expr → Option Nat
  | .Name x _ => if (isVar (k x) && ownVar ((k x).getD .free)) && decide (sl.idxOf x < sl.length) then some (sl.idxOf x) else none
  | _ => none
noncomputable def compTgts (k : Sc) (sl : List Str) : List Expr → Option (List Nat)
  | [] => some []
  | e :: r => match compTgt k sl e, compTgts k sl r with
    | some i, some is => some (i :: is)
    | _, _ => none

/-- a comprehension's or a loop's target: one name, or a pair of names -/
noncomputable def compTarget (k : Sc) (sl : List Str) : Expr → Option (List Nat × Bool)
  | .Tuple es _ _ => (compTgts k sl es).map (·, false)
  | e => (compTgt k sl e).map ([·], true)

noncomputable def attrIs (a : Str) : Option Nat := if aid a < attrTab.length then some (aid a) else none
noncomputable def bareCall : Expr → Bool
  | .Call (.Name _ _) [] [] _ => true
  | _ => false

noncomputable section
def isStarE (e : Expr) : Bool := match e with | .Starred _ _ => true | _ => false
def anyStar : List Expr → Bool
  | [] => false
  | e :: r => isStarE e || anyStar r
def noE (b : Bool) (e : ME) : ME := match b with | true => .bad | false => e
def mkDic (b : Bool) (ks : Option (List ME)) (vs : List ME) : ME := match b with
  | true => (match ks with | some ks => .dic ks vs | none => .bad)
  | false => .bad
def mkAttr (b : Bool) (a : Option Nat) (o : ME) : ME := match b with
  | true => .bad
  | false => (match a with | some i => .attr o i | none => .bad)
def mkMc (b : Bool) (a : Option Nat) (o : ME) (args : List ME) : ME := match b with
  | true => .bad
  | false => (match a with | some i => .mcall o i args | none => .bad)
def mkComp (b : Bool) (t : Option (List Nat × Bool)) (nl : Nat) (elt it : ME) (ifs : List ME) : ME := match b with
  | true => (match t with | some p => .comp nl elt p.1 p.2 it ifs | none => .bad)
  | false => .bad
def genOk (k : Sc) (sl : List Str) (scope : Scope) : Bool := decide (scope.names.map (·.1)).Nodup && scope.kind == .function && (scope.names.all fun p => p.2 != .cell) && (scope.names.all fun p => p.2 != .free || ((k p.1 == some .cell || k p.1 == some .free) && decide (sl.idxOf p.1 < sl.length)))
end
mutual
noncomputable def compE (k : Sc) (sl : List Str) : Expr → ME
  | .Constant c _ _ => compConst c
  | .Name x _ => compName k sl x
  | .BoolOp .And es _ => .bop true (compEs k sl es)
  | .BoolOp .Or es _ => .bop false (compEs k sl es)
  | .BinOp l op r _ => .bin op (compE k sl l) (compE k sl r)
  | .UnaryOp .USub e _ => .neg (compE k sl e)
  | .UnaryOp .Not e _ => .not (compE k sl e)
  | .IfExp t b o _ => .ite (compE k sl t) (compE k sl b) (compE k sl o)
  | .Dict ks vs _ => mkDic (decide (ks.length = vs.length ∧ ks.length ≤ 15)) (compOs k sl ks) (compEs k sl vs)
  | .List es _ => .lst (compEs k sl es)
  | .Tuple es _ _ => .tup (compEs k sl es)
  | .ListComp elt gens scope _ => compGen k sl (fun k' sl' => compE k' sl' elt) gens scope
  | .Compare l [op] [r] _ => noE (behindInMarks op r) (.cmp op (compE k sl l) (compE k sl r))
  | .Call (.Attribute o a ap) args [] p => mkMc (bareCall o || !(ap.endLine == p.line) || !decide (args.length < 20) || anyStar args) (attrIs a) (compE k sl o) (compEs k sl args)
  | .Call f args [] _ => noE (anyStar args) (.call (compE k sl f) (compEs k sl args))
  | .Attribute o a _ => mkAttr (bareCall o) (attrIs a) (compE k sl o)
  | .Subscript o (.Slice l u st _) _ => noE st.isSome (.slice (compE k sl o) (compOpt k sl l) (compOpt k sl u))
  | .Subscript o i _ => .sub (compE k sl o) (compE k sl i)
  | _ => .bad
noncomputable def compEs (k : Sc) (sl : List Str) : List Expr → List ME
  | [] => []
  | e :: r => compE k sl e :: compEs k sl r
noncomputable def compOpt (k : Sc) (sl : List Str) : Option Expr → Option ME
  | none => none
  | some e => some (compE k sl e)
noncomputable def compOs (k : Sc) (sl : List Str) : List (Option Expr) → Option (List ME)
  | [] => some []
  | some e :: r => (compOs k sl r).map (compE k sl e :: ·)
  | none :: _ => none
noncomputable def compGen (k : Sc) (sl : List Str) (elt : Sc → List Str → ME) : List Comprehension → Scope → ME
  | [⟨tgt, iter, ifs, 0⟩], scope =>
    mkComp (genOk k sl scope) (compTarget (fun x => scope.names.lookup x) (compSlots scope.names ++ sl) tgt) (compSlots scope.names).length (elt (fun x => scope.names.lookup x) (compSlots scope.names ++ sl)) (compE k sl iter) (compEs (fun x => scope.names.lookup x) (compSlots scope.names ++ sl) ifs)
  | _, _ => .bad
end

noncomputable section
def locT (a : Option Nat) : MT := match a with | some i => .loc i | none => .bad
def tupT (a : Option (List Nat)) : MT := match a with | some i => .tup i | none => .bad
def attrT (b : Bool) (a : Option Nat) (o : ME) : MT := match b with
  | true => .bad
  | false => (match a with | some i => .attr o i | none => .bad)
def oneT (ts : List Nat) : MT := match ts with | i :: r => (match r with | [] => .loc i | _ :: _ => .bad) | [] => .bad
def tgtT (t : Option (List Nat × Bool)) : MT := match t with
  | some p => (match p.2 with | true => oneT p.1 | false => .tup p.1)
  | none => .bad
def isBadT (t : MT) : Bool := match t with | .bad => true | _ => false
def noS (b : Bool) (s : MS) : MS := match b with | true => .bad | false => s
end
noncomputable def compT (k : Sc) (sl : List Str) : Expr → MT
  | .Name x p => locT (compTgt k sl (.Name x p))
  | .Tuple es _ _ => tupT (compTgts k sl es)
  | .Attribute o a _ => attrT (bareCall o) (attrIs a) (compE k sl o)
  | .Subscript _ (.Slice _ _ _ _) _ => .bad
  | .Subscript o i _ => .sub (compE k sl o) (compE k sl i)
  | _ => .bad

noncomputable def isTupleE : Expr → Bool
  | .Tuple _ _ _ => true
  | _ => false
noncomputable def isListCompE : Expr → Bool
  | .ListComp _ _ _ _ => true
  | _ => false

mutual
noncomputable def compS (k : Sc) (sl : List Str) : Stmt → MS
  | .Expr e _ => noS (isListCompE e) (.expr (compE k sl e))
  | .Return (some e) _ => .ret (some (compE k sl e))
  | .Return none _ => .ret none
  | .If t b o _ => .ifs (compE k sl t) (compSs k sl b) (compSs k sl o)
  | .While t b [] _ => .whil (compE k sl t) (compSs k sl b)
  | .For tgt it b [] _ => .for (tgtT (compTarget k sl tgt)) (compE k sl it) (compSs k sl b)
  | .Pass _ => .pass
  | .Break _ => .brk
  | .Assign [t] e _ => noS ((isTupleE t && isTupleE e) || isBadT (compT k sl t)) (.asg (compT k sl t) (compE k sl e))
  | _ => .bad
noncomputable def compSs (k : Sc) (sl : List Str) : List Stmt → List MS
  | [] => []
  | s :: r => compS k sl s :: compSs k sl r
end

/-! ## The defs of the text -/

set_option genSizeOf false in
structure Fn where
  np : Nat
  dflts : List AV
  nslots : Nat
  body : List MS

noncomputable def litAV : Expr → AV
  | .Constant .none _ _ => .none
  | .Constant (.int i) _ _ => .int i
  | .UnaryOp .USub (.Constant (.int i) _ _) _ => .int (-i)
  | _ => .none

noncomputable def defIn (name : String) (body : List Stmt) : Option (Arguments × List Stmt × Scope) :=
  body.findSome? fun s => match s with
    | .FunctionDef n a b _ _ _ sc _ _ _ => if n == Str.ofString name then some (a, b, sc) else none
    | _ => none
noncomputable def clsIn (name : String) (body : List Stmt) : Option (List Stmt) :=
  body.findSome? fun s => match s with
    | .ClassDef n _ _ b _ _ _ _ _ _ _ => if n == Str.ofString name then some b else none
    | _ => none
noncomputable def defOf (p : Program) (c n : String) : Option (Arguments × List Stmt × Scope) :=
  if c = "" then defIn n p.main.body else (clsIn c p.main.body).bind (defIn n)

noncomputable def fnOfDef (d : Arguments × List Stmt × Scope) : Fn :=
  { np := d.1.args.length, dflts := d.1.defaults.map litAV, nslots := (slotsOf d.2.2.names).length,
    body := compSs (fun x => d.2.2.names.lookup x) (slotsOf d.2.2.names) d.2.1 }

noncomputable def theFn (k : Nat) : Option Fn := (fnTab[k]?).bind fun p => (defOf PySem.Challenge.pw_pq0576_01 p.1 p.2).map fnOfDef

end Mine
end
section
set_option autoImplicit false
namespace Mine
open PySem

abbrev AH := List AO
abbrev Ro := List (Option AV)

set_option genSizeOf false in
inductive Fl where
  | next | brk | ret (v : AV)
set_option genSizeOf false in
/-- what a loop goes over -/
inductive It where
  | lst (n : Nat) | tup (xs : List AV) | rng (a b c : Int) | dct (n : Nat)

theorem lid_ex : ∃ n : Nat, n = 1000000 := ⟨_, rfl⟩
/-- the lid on lengths and counts: a number that the kernel does not unfold -/
noncomputable def lid : Nat := lid_ex.choose
theorem lid_eq : lid = 1000000 := lid_ex.choose_spec
noncomputable section
def getR (ρ : Ro) (i : Nat) : Option AV := (ρ[i]?).join
def setR (ρ : Ro) (i : Nat) (v : AV) : Option Ro := if i < ρ.length then some (ρ.set i (some v)) else none

def toAtom (v : AV) : Option Atom := match v with
  | .int i => some (.i i)
  | .str k => some (.s k)
  | _ => none
def ofAtom (a : Atom) : AV := match a with
  | .i n => .int n
  | .s k => .str k
def optC {α : Type} (a : Option α) (l : Option (List α)) : Option (List α) := match a with
  | some a => (match l with | some l => some (a :: l) | none => none)
  | none => none
def toAtoms : List AV → Option (List Atom)
  | [] => some []
  | x :: r => optC (toAtom x) (toAtoms r)
def intOf (v : AV) : Option Int := match v with | .int i => some i | _ => none
def allInts : List AV → Option (List Int)
  | [] => some []
  | x :: r => optC (intOf x) (allInts r)
def insI (x : Int) : List Int → List Int
  | [] => [x]
  | y :: r => if x ≤ y then x :: y :: r else y :: insI x r
def sortI : List Int → List Int
  | [] => []
  | x :: r => insI x (sortI r)
def rngSize (a b c : Int) : Nat := if c = 1 then (b - a).toNat else (a - b).toNat
def rngOk (a b c : Int) : Bool := decide (-lid < a ∧ a < lid ∧ -lid < b ∧ b < lid ∧ (c = 1 ∨ c = -1))
def rngItems (a c : Int) : Nat → List Int
  | 0 => []
  | n + 1 => a :: rngItems (a + c) c n
def putKV {κ : Type} [DecidableEq κ] (kvs : List (κ × AV)) (k : κ) (v : AV) : List (κ × AV) :=
  match kvs with
  | [] => [(k, v)]
  | p :: r => if p.1 = k then (k, v) :: r else p :: putKV r k v
def cutL {α : Type} (xs : List α) (l u : Option Int) : List α :=
  ((match u with | none => xs | some k => xs.take k.toNat)).drop (match l with | none => 0 | some k => k.toNat)

/-! ## Heads -/
def okW {α : Type} (o : Option α) (K : α → Prop) : Prop := match o with | some a => K a | none => False
structure Gd (c K : Prop) : Prop where mk :: (g : c) (k : K)
inductive Lk (H : AH) (n : Nat) (K : AO → Prop) : Prop
  | mk {o : AO} (h : H[n]? = some o) (k : K o) : Lk H n K
def br (b : Bool) (X Y : Prop) : Prop := match b with | true => X | false => Y
def cdW (b : Bool) (K : Prop) : Prop := match b with | true => K | false => False

def intW (v : AV) (K : Int → Prop) : Prop := match v with | .int i => K i | _ => False
def natI (i : Int) (K : Nat → Prop) : Prop := match i with | .ofNat n => K n | .negSucc _ => False
def natW (v : AV) (K : Nat → Prop) : Prop := match v with | .int i => natI i K | _ => False
def tupW (v : AV) (K : List AV → Prop) : Prop := match v with | .tup xs => K xs | _ => False
def refW (v : AV) (K : Nat → Prop) : Prop := match v with | .ref n => K n | _ => False
def boolW (v : AV) (K : Bool → Prop) : Prop := match v with | .bool b => K b | _ => False
def noneW (v : AV) (K : Prop) : Prop := match v with | .none => K | _ => False
def lstW (o : AO) (K : List AV → Prop) : Prop := match o with | .list xs => K xs | _ => False
def oneW (xs : List AV) (K : AV → Prop) : Prop := match xs with | x :: r => (match r with | [] => K x | _ :: _ => False) | [] => False
def twoW (xs : List AV) (K : AV → AV → Prop) : Prop := match xs with | x :: r => oneW r (K x) | [] => False

/-- what dicts say of a key -/
def lookKey (o : AO) (k : AV) (K : Option AV → Prop) : Prop := match o with
  | .dE => (match k with | .tup xs => okW (toAtoms xs) fun _ => K none | k => okW (toAtom k) fun _ => K none)
  | .dA kvs => okW (toAtom k) fun a => K (kvs.lookup a)
  | .dT kvs => tupW k fun xs => okW (toAtoms xs) fun a => K (kvs.lookup a)
  | _ => False
/-- a dict takes a key -/
def putKey (o : AO) (k v : AV) (K : AO → Prop) : Prop := match o with
  | .dE => (match k with | .tup xs => okW (toAtoms xs) fun a => K (.dT [(a, v)]) | k => okW (toAtom k) fun a => K (.dA [(a, v)]))
  | .dA kvs => Gd (kvs.length ≤ lid) (okW (toAtom k) fun a => K (.dA (putKV kvs a v)))
  | .dT kvs => Gd (kvs.length ≤ lid) (tupW k fun xs => okW (toAtoms xs) fun a => K (.dT (putKV kvs a v)))
  | _ => False

/-! ## Operators -/
section
variable (H : AH) (K : AH → AV → Prop)
def newL (xs : List AV) : Prop := K (H ++ [.list xs]) (.ref H.length)
def addO (m : Nat) (o : AO) : Prop := lstW o fun xs => Lk H m fun o' => lstW o' fun ys => Gd (xs.length + ys.length ≤ lid) (newL H K (xs ++ ys))
def addW (a b : AV) : Prop := match a with
  | .int x => intW b fun y => K H (.int (x + y))
  | .tup xs => tupW b fun ys => Gd (xs.length + ys.length ≤ lid) (K H (.tup (xs ++ ys)))
  | .ref n => refW b fun m => Lk H n (addO H K m)
  | _ => False
def mulO (k : Nat) (o : AO) : Prop := lstW o fun xs => oneW xs fun x => Gd (k ≤ lid) (newL H K (List.replicate k x))
def mulW (a b : AV) : Prop := match a with
  | .int x => intW b fun y => Gd (x.natAbs < 2 ^ 60 ∨ y.natAbs < 2 ^ 60) (K H (.int (x * y)))
  | .ref n => natW b fun k => Lk H n (mulO H K k)
  | _ => False
def binW (op : Operator) (a b : AV) : Prop := match op with
  | .Add => addW H K a b
  | .Sub => intW a fun x => intW b fun y => K H (.int (x - y))
  | .Mult => mulW H K a b
  | .FloorDiv => intW a fun x => intW b fun y => Gd (0 < y ∧ y < 1000000) (K H (.int (x / y)))
  | .Mod => intW a fun x => intW b fun y => Gd (0 < y ∧ y < 1000000) (K H (.int (x % y)))
  | .BitAnd => natW a fun x => natW b fun y => K H (.int ((x &&& y : Nat) : Int))
  | .BitOr => natW a fun x => natW b fun y => K H (.int ((x ||| y : Nat) : Int))
  | .LShift => natW a fun x => natW b fun y => Gd (x < 2 ^ 60 ∧ y < 1000) (K H (.int ((x * 2 ^ y : Nat) : Int)))
  | .RShift => natW a fun x => natW b fun y => K H (.int ((x >>> y : Nat) : Int))
  | _ => False
end

/-! ## Comparisons -/
section
variable (H : AH) (K : Bool → Prop)
def atomsEq (xs ys : List AV) : Prop := okW (toAtoms xs) fun a => okW (toAtoms ys) fun b => K (decide (a = b))
def eqW (a b : AV) : Prop := match a with
  | .int x => intW b fun y => K (decide (x = y))
  | .str x => (match b with | .str y => K (decide (x = y)) | _ => False)
  | .tup xs => tupW b fun ys => atomsEq K xs ys
  | .ref n => refW b fun m => Lk H n fun o => lstW o fun xs => Lk H m fun o' => lstW o' fun ys => atomsEq K xs ys
  | _ => False
def inAtoms (x : AV) (ys : List AV) : Prop := okW (toAtom x) fun a => okW (toAtoms ys) fun bs => K (bs.contains a)
def inO (x : AV) (o : AO) : Prop := match o with
  | .list ys => inAtoms K x ys
  | o => lookKey o x fun r => K r.isSome
def inW (x c : AV) : Prop := match c with
  | .tup ys => inAtoms K x ys
  | .ref n => Lk H n (inO K x)
  | _ => False
def isNone (a : AV) : Prop := match a with
  | .none => K true
  | .tup _ | .int _ | .str _ | .bool _ => K false
  | _ => False
end
def negB (K : Bool → Prop) (c : Bool) : Prop := K (!c)
def cmpW (op : CmpOp) (a b : AV) (H : AH) (K : Bool → Prop) : Prop := match op with
  | .Eq => eqW H K a b
  | .NotEq => eqW H (negB K) a b
  | .Lt => intW a fun x => intW b fun y => K (decide (x < y))
  | .Gt => intW a fun x => intW b fun y => K (decide (y < x))
  | .GtE => intW a fun x => intW b fun y => K (decide (y ≤ x))
  | .Is => noneW b (isNone K a)
  | .IsNot => noneW b (isNone (negB K) a)
  | .In => inW H K a b
  | .NotIn => inW H (negB K) a b
  | _ => False

/-! ## Subscripts, attributes -/
def atL (i : AV) (K : AV → Prop) (xs : List AV) : Prop := natW i fun k => okW (xs[k]?) K
def getO (i : AV) (K : AV → Prop) (o : AO) : Prop := match o with
  | .list xs => atL i K xs
  | o => lookKey o i fun r => okW r K
def getW (o i : AV) (H : AH) (K : AV → Prop) : Prop := match o with
  | .tup xs => atL i K xs
  | .ref n => Lk H n (getO i K)
  | _ => False
def setO (i v : AV) (K : AO → Prop) (o : AO) : Prop := match o with
  | .list xs => natW i fun k => Gd (k < xs.length) (K (.list (xs.set k v)))
  | o => putKey o i v K
def putH (H : AH) (n : Nat) (K : AH → Prop) (o : AO) : Prop := K (H.set n o)
def setW (o i v : AV) (H : AH) (K : AH → Prop) : Prop := refW o fun n => Lk H n (setO i v (putH H n K))
def bndW (x : Option AV) (K : Option Int → Prop) : Prop := match x with
  | none => K none
  | some v => natW v fun k => Gd (k < lid) (K (some (k : Int)))
def sliO (l u : Option Int) (H : AH) (K : AH → AV → Prop) (o : AO) : Prop := lstW o fun xs => newL H K (cutL xs l u)
def sliW (o : AV) (l u : Option AV) (H : AH) (K : AH → AV → Prop) : Prop := match o with
  | .tup xs => (match l with
    | some l => (match u with
      | none => natW l fun k => Gd (1 ≤ k ∧ k ≤ xs.length) (K H (.tup (xs.drop k)))
      | some _ => False)
    | none => False)
  | .ref n => bndW l fun l => bndW u fun u => Lk H n (sliO l u H K)
  | .fl xs => bndW l fun l => bndW u fun u => Gd (xs.length ≤ lid) (newL H K ((cutL xs l u).map .int))
  | .str k => (match l with
    | some _ => False
    | none => bndW u fun u => cdW (decide (u = some 1)) (Gd (k = 9 ∨ k = 10) (K H (.str k))))
  | _ => False

def fieldsOf (c : Nat) : List Nat :=
  match c with
  | 0 => [0, 1, 2, 3, 4, 5, 6]
  | 1 => [7, 8, 9, 10, 11, 12, 13, 14, 15, 16]
  | 2 => [0, 24, 25, 26, 27, 28]
  | 3 => [30, 31]
  | 4 => [30, 35]
  | 5 => [30, 36, 35, 37]
  | 6 => [41, 42]
  | 7 => [43, 30, 44, 31]
  | _ => []
/-- the def of a class's method -/
def methTab (c : Nat) : List (Nat × Nat) := match c with
  | 1 => [(17, 3), (18, 4), (0, 5), (19, 6), (20, 7), (21, 8), (22, 9), (23, 10)]
  | 3 => [(32, 20), (33, 21), (34, 22)]
  | 5 => [(38, 28), (39, 29), (40, 30)]
  | 7 => [(45, 34), (46, 35)]
  | _ => []
def methFn (c a : Nat) : Option Nat := (methTab c).lookup a
def initFn (c : Nat) : Option Nat := [1, 2, 18, 19, 26, 27, 32, 33][c]?
def attrO (a : Nat) (K : AV → Prop) (o : AO) : Prop := match o with
  | .inst c fs => cdW ((fieldsOf c).contains a) (okW (fs.lookup a) K)
  | _ => False
def setAttrO (a : Nat) (v : AV) (K : AO → Prop) (o : AO) : Prop := match o with
  | .inst c fs => cdW ((fieldsOf c).contains a) (cdW (decide (fs.length < 40)) (K (.inst c (putKV fs a v))))
  | _ => False
def setAttrW (o : AV) (a : Nat) (v : AV) (H : AH) (K : AH → Prop) : Prop := refW o fun n => Lk H n (setAttrO a v (putH H n K))

/-! ## Built-ins -/
section
variable (H : AH) (K : AH → AV → Prop)
def lenO (o : AO) : Prop := lstW o fun xs => K H (.int xs.length)
def sortL (xs : List AV) : Prop := okW (allInts xs) fun is => Gd (is.length < 64) (newL H K ((sortI is).map .int))
def sortO (o : AO) : Prop := match o with
  | .list xs => sortL H K xs
  | .dA kvs => sortL H K (kvs.map fun p => ofAtom p.1)
  | .dE => sortL H K []
  | _ => False
def bi1 (b : BI) (a : AV) : Prop := match b with
  | .len => (match a with | .ref n => Lk H n (lenO H K) | .tup xs => K H (.int xs.length) | _ => False)
  | .range => natW a fun k => Gd (k < lid) (K H (.rng 0 k 1))
  | .abs => intW a fun x => K H (.int (if x < 0 then -x else x))
  | .list => (match a with
    | .ref n => Lk H n fun o => lstW o (newL H K)
    | .tup xs => newL H K xs
    | .rng a b c => Gd (rngSize a b c ≤ lid) (newL H K ((rngItems a c (rngSize a b c)).map .int))
    | _ => False)
  | .tuple => (match a with | .ref n => Lk H n fun o => lstW o fun xs => K H (.tup xs) | .tup xs => K H (.tup xs) | _ => False)
  | .sorted => (match a with | .ref n => Lk H n (sortO H K) | .tup xs => sortL H K xs | _ => False)
  | .isinst => False
def bi2 (b : BI) (a c : AV) : Prop := match b with
  | .range => natW a fun x => natW c fun y => Gd (x < lid ∧ y < lid) (K H (.rng x y 1))
  | .isinst => tupW a fun _ => (match c with | .bi .tuple => K H (.bool true) | _ => False)
  | _ => False
def bi3 (b : BI) (a c d : AV) : Prop := match b with
  | .range => intW a fun x => intW c fun y => intW d fun z => Gd (-lid < x ∧ x < lid ∧ -lid < y ∧ y < lid ∧ z = -1) (K H (.rng x y z))
  | _ => False
def biW (b : BI) (args : List AV) : Prop := match args with
  | [] => False
  | a :: r => (match r with
    | [] => bi1 H K b a
    | c :: r => (match r with
      | [] => bi2 H K b a c
      | d :: r => (match r with
        | [] => bi3 H K b a c d
        | _ :: _ => False)))
def extO (n m : Nat) (xs : List AV) (o : AO) : Prop := lstW o fun ys => Gd (xs.length + ys.length ≤ lid ∧ n ≠ m) (K (H.set n (.list (xs ++ ys))) .none)
def idxL (xs : List AV) (x : AV) : Prop := okW (toAtom x) fun a => okW (toAtoms xs) fun bs => Gd (bs.idxOf a < bs.length) (K H (.int (bs.idxOf a)))
def appL (n : Nat) (x : AV) (xs : List AV) : Prop := Gd (xs.length < lid) (K (H.set n (.list (xs ++ [x]))) .none)
def lmO (name n : Nat) (x : AV) (xs : List AV) : Prop := match name with
  | 47 => appL H K n x xs
  | 48 => refW x fun m => Lk H m (extO H K n m xs)
  | 49 => idxL H K xs x
  | _ => False
def sdO (n : Nat) (o : AO) (k d : AV) (r : Option AV) : Prop := match r with
  | some v => K H v
  | none => putKey o k d fun o' => K (H.set n o') d
def dmO (name n : Nat) (k d : AV) (o : AO) : Prop := match name with
  | 50 => lookKey o k fun r => K H (r.getD d)
  | 51 => tupW k fun _ => lookKey o k (sdO H K n o k d)
  | _ => False
/-- a built-in method of the object at n -/
def omO (name n : Nat) (vs : List AV) (o : AO) : Prop := match o with
  | .list xs => oneW vs fun x => lmO H K name n x xs
  | .inst _ _ => False
  | o => twoW vs fun k d => dmO H K name n k d o
end
def iterO (n : Nat) (K : It → Prop) (o : AO) : Prop := match o with
  | .list _ => K (.lst n)
  | .dE | .dA _ => K (.dct n)
  | _ => False
def iterW (v : AV) (H : AH) (K : It → Prop) : Prop := match v with
  | .tup xs => K (.tup xs)
  | .rng a b c => K (.rng a b c)
  | .ref n => Lk H n (iterO n K)
  | _ => False
inductive Src (H : AH) : It → List AV → Prop
  | tup {xs : List AV} : Src H (.tup xs) xs
  | rng {a b c : Int} : Src H (.rng a b c) ((rngItems a c (rngSize a b c)).map .int)
  | lst {n : Nat} {xs : List AV} (h : H[n]? = some (.list xs)) : Src H (.lst n) xs
  | dE {n : Nat} (h : H[n]? = some .dE) : Src H (.dct n) []
  | dA {n : Nat} {kvs : List (Atom × AV)} (h : H[n]? = some (.dA kvs)) : Src H (.dct n) (kvs.map fun p => ofAtom p.1)

def callable (v : AV) : Bool := match v with
  | .fn _ | .cls _ | .bi _ => true
  | _ => false
/-! ## The machine -/
set_option genSizeOf false in
structure MI where
  ev : ME → Ro → AH → (AH → AV → Prop) → Prop
  tst : ME → Ro → AH → (AH → Bool → Prop) → Prop
  blk : List MS → Ro → AH → (Fl → Ro → AH → Prop) → Prop
  call : AV → List AV → AH → (AH → AV → Prop) → Prop

structure Cw (W : MI) (f : AV) (vs : List AV) (H : AH) (K : AH → AV → Prop) : Prop where mk :: (k : W.call f vs H K)
def callG (W : MI) (f : AV) (vs : List AV) (H : AH) (K : AH → AV → Prop) : Prop := match f with
  | .bi b => W.call (.bi b) vs H K
  | f => Cw W f vs H K
theorem callG.el {W : MI} {f : AV} {vs : List AV} {H : AH} {K : AH → AV → Prop} (h : callG W f vs H K) : W.call f vs H K := by
  cases f with
  | bi b => exact h
  | _ => exact h.k

def setTs : List Nat → List AV → Ro → Option Ro
  | [], [], ρ => some ρ
  | i :: is, v :: vs, ρ => (setR ρ i v).bind (setTs is vs)
  | _, _, _ => none
def bindT (ts : List Nat) (one : Bool) (v : AV) (ρ : Ro) : Option Ro :=
  match one with
  | true => setTs ts [v] ρ
  | false => (match v with
    | .tup xs => setTs ts xs ρ
    | _ => none)
def tgtA (t : MT) (v : AV) (ρ : Ro) : Option Ro := match t with
  | .loc i => bindT [i] true v ρ
  | .tup is => bindT is false v ρ
  | _ => none

/-- a state of a loop -/
inductive AtI {σ : Type} (r : σ → Ro) (I : σ → AH → Prop) : Ro → AH → Prop
  | mk {s : σ} {H : AH} (h : I s H) : AtI r I (r s) H
inductive LtI {σ : Type} (r : σ → Ro) (I : Nat → σ → AH → Prop) (k : Nat) : Ro → AH → Prop
  | mk {k' : Nat} {s : σ} {H : AH} (hk : k' < k) (h : I k' s H) : LtI r I k (r s) H
def aftK (X : Ro → AH → Prop) (Q : Fl → Ro → AH → Prop) (f : Fl) (ρ : Ro) (H : AH) : Prop := match f with
  | .next => X ρ H
  | .brk => Q .next ρ H
  | .ret v => Q (.ret v) ρ H
def seqK {α : Type} (f : (AH → α → Prop) → AH → Prop) (k : AV → AH → α → Prop) (H : AH) (a : AV) : Prop := f (k a) H
def consK (K : AH → List AV → Prop) (v : AV) (H : AH) (vs : List AV) : Prop := K H (v :: vs)
def andK (isAnd : Bool) (f : (AH → Bool → Prop) → AH → Prop) (K : AH → Bool → Prop) (H : AH) (b : Bool) : Prop := match isAnd with
  | true => br b (f K H) (K H false)
  | false => br b (K H true) (f K H)
def orV (isAnd : Bool) (f : (AH → AV → Prop) → AH → Prop) (K : AH → AV → Prop) (H : AH) (v : AV) : Prop := boolW v fun b => match isAnd with
  | true => br b (f K H) (K H (.bool false))
  | false => br b (K H (.bool true)) (f K H)

section
variable (W : MI)
def bodK (b : List MS) (X : Ro → AH → Prop) (Q : Fl → Ro → AH → Prop) (H : AH) (ρ : Ro) : Prop := W.blk b ρ H (aftK X Q)
inductive ForW (t : MT) (b : List MS) (Q : Fl → Ro → AH → Prop) (it : It) : Ro → AH → Prop
  | mk {xs : List AV} {σ : Type} (r : σ → Ro) (I : Nat → σ → AH → Prop) (hJ : ∀ i s H, I i s H → Src H it xs)
      (step : ∀ i x s H, xs[i]? = some x → I i s H → okW (tgtA t x (r s)) (bodK W b (AtI r (I (i + 1))) Q H))
      (hend : ∀ s H, I xs.length s H → Q .next (r s) H) {s : σ} {H : AH} (h0 : I 0 s H) : ForW t b Q it (r s) H
def whK (b : List MS) (X : Ro → AH → Prop) (Q : Fl → Ro → AH → Prop) (ρ : Ro) (H : AH) (c : Bool) : Prop := br c (W.blk b ρ H (aftK X Q)) (Q .next ρ H)
inductive WhW (t : ME) (b : List MS) (Q : Fl → Ro → AH → Prop) : Ro → AH → Prop
  | mk {σ : Type} (r : σ → Ro) (I : Nat → σ → AH → Prop) (step : ∀ k s H, I k s H → W.tst t (r s) H (whK W b (LtI r I k) Q (r s))) {k : Nat} {s : σ} {H : AH} (h0 : I k s H) : WhW t b Q (r s) H

def evsF (ρ : Ro) : List ME → (AH → List AV → Prop) → AH → Prop
  | [], K, H => K H []
  | e :: r, K, H => W.ev e ρ H (seqK (evsF ρ r) (consK K))
def tssF (isAnd : Bool) (ρ : Ro) : List ME → (AH → Bool → Prop) → AH → Prop
  | [], K, H => K H isAnd
  | e :: r, K, H => W.tst e ρ H (andK isAnd (tssF isAnd ρ r) K)
def bosF (isAnd : Bool) (ρ : Ro) : List ME → (AH → AV → Prop) → AH → Prop
  | [], _, _ => False
  | e :: r, K, H => (match r with | [] => W.ev e ρ H K | _ :: _ => W.ev e ρ H (orV isAnd (bosF isAnd ρ r) K))
def prK (K : AH → List AV × List AV → Prop) (a b : AV) (H : AH) (p : List AV × List AV) : Prop := K H (a :: p.1, b :: p.2)
def prV (f : (AH → List AV × List AV → Prop) → AH → Prop) (K : AH → List AV × List AV → Prop) (a : AV) (H : AH) (b : AV) : Prop := f (prK K a b) H
def prE (v : ME) (ρ : Ro) (f : (AH → List AV × List AV → Prop) → AH → Prop) (K : AH → List AV × List AV → Prop) (H : AH) (a : AV) : Prop := W.ev v ρ H (prV f K a)
def prsF (ρ : Ro) : List ME → List ME → (AH → List AV × List AV → Prop) → AH → Prop
  | [], vs, K, H => (match vs with | [] => K H ([], []) | _ :: _ => False)
  | k :: ks, vs, K, H => (match vs with | [] => False | v :: vs => W.ev k ρ H (prE W v ρ (prsF ρ ks vs) K))
def putAll : List AV → List AV → AO → (AO → Prop) → Prop
  | [], vs, o, K => (match vs with | [] => K o | _ :: _ => False)
  | k :: ks, vs, o, K => (match vs with | [] => False | v :: vs => putKey o k v fun o' => putAll ks vs o' K)
def dicK (K : AH → AV → Prop) (H : AH) (p : List AV × List AV) : Prop := putAll p.1 p.2 .dE fun o => K (H ++ [o]) (.ref H.length)

def binK2 (op : Operator) (K : AH → AV → Prop) (a : AV) (H : AH) (b : AV) : Prop := binW H K op a b
def binK (op : Operator) (r : ME) (ρ : Ro) (K : AH → AV → Prop) (H : AH) (a : AV) : Prop := W.ev r ρ H (binK2 op K a)
def negK (K : AH → AV → Prop) (H : AH) (v : AV) : Prop := intW v fun i => K H (.int (-i))
def iteK (b o : ME) (ρ : Ro) (K : AH → AV → Prop) (H : AH) (c : Bool) : Prop := br c (W.ev b ρ H K) (W.ev o ρ H K)
def lstK (K : AH → AV → Prop) (H : AH) (vs : List AV) : Prop := cdW (decide (vs.length < 20)) (newL H K vs)
def tupK (K : AH → AV → Prop) (H : AH) (vs : List AV) : Prop := cdW (decide (vs.length < 20)) (K H (.tup vs))
def boolK (K : AH → AV → Prop) (H : AH) (b : Bool) : Prop := K H (.bool b)
def cmpK2 (op : CmpOp) (K : AH → Bool → Prop) (a : AV) (H : AH) (b : AV) : Prop := cmpW op a b H (K H)
def cmpK (op : CmpOp) (r : ME) (ρ : Ro) (K : AH → Bool → Prop) (H : AH) (a : AV) : Prop := W.ev r ρ H (cmpK2 op K a)
def attrK (a : Nat) (K : AH → AV → Prop) (H : AH) (v : AV) : Prop := refW v fun n => Lk H n (attrO a (K H))
def subK2 (K : AH → AV → Prop) (o : AV) (H : AH) (i : AV) : Prop := getW o i H (K H)
def subK (i : ME) (ρ : Ro) (K : AH → AV → Prop) (H : AH) (o : AV) : Prop := W.ev i ρ H (subK2 K o)
def optF (e : Option ME) (ρ : Ro) (H : AH) (K : AH → Option AV → Prop) : Prop := match e with
  | none => K H none
  | some e => W.ev e ρ H fun H v => K H (some v)
def sliK (l u : Option ME) (ρ : Ro) (K : AH → AV → Prop) (H : AH) (o : AV) : Prop := optF W l ρ H fun H l => optF W u ρ H fun H u => sliW o l u H K
def callK2 (f : AV) (K : AH → AV → Prop) (H : AH) (vs : List AV) : Prop := callG W f vs H K
def callK (args : List ME) (ρ : Ro) (K : AH → AV → Prop) (H : AH) (f : AV) : Prop := cdW (callable f) (evsF W ρ args (callK2 W f K) H)
def mcF (k n : Nat) (K : AH → AV → Prop) (H : AH) (vs : List AV) : Prop := Cw W (.fn k) (.ref n :: vs) H K
def mcI (args : List ME) (n : Nat) (ρ : Ro) (K : AH → AV → Prop) (H : AH) (k : Nat) : Prop := evsF W ρ args (mcF W k n K) H
def mcB (name n : Nat) (K : AH → AV → Prop) (H : AH) (vs : List AV) : Prop := Lk H n (omO H K name n vs)
def mcO (name : Nat) (args : List ME) (ρ : Ro) (K : AH → AV → Prop) (H : AH) (n : Nat) (o : AO) : Prop := match o with
  | .inst c fs => cdW (fs.lookup name).isNone (okW (methFn c name) (mcI W args n ρ K H))
  | .list _ => cdW (decide (name = 47 ∨ name = 48 ∨ name = 49)) (evsF W ρ args (mcB name n K) H)
  | _ => cdW (decide (name = 50 ∨ name = 51)) (evsF W ρ args (mcB name n K) H)
def mcK (name : Nat) (args : List ME) (ρ : Ro) (K : AH → AV → Prop) (H : AH) (v : AV) : Prop := refW v fun n => Lk H n (mcO W name args ρ K H n)

def cpA (acc : Nat) (X : AH → Prop) (H : AH) (v : AV) : Prop := Lk H acc fun o => lstW o (appL H (fun H _ => X H) acc v)
def cpT (elt : ME) (acc : Nat) (X : Ro → AH → Prop) (ρ : Ro) (H : AH) (b : Bool) : Prop := br b (W.ev elt ρ H (cpA acc (X ρ))) (X ρ H)
def cpB (elt : ME) (ifs : List ME) (acc : Nat) (X : Ro → AH → Prop) (H : AH) (ρ : Ro) : Prop := tssF W true ρ ifs (cpT W elt acc X ρ) H
inductive CpW (elt : ME) (ts : List Nat) (one : Bool) (ifs : List ME) (acc : Nat) (K : AH → AV → Prop) (it : It) : Ro → AH → Prop
  | mk {xs : List AV} {σ : Type} (r : σ → Ro) (I : Nat → σ → AH → Prop) (hJ : ∀ i s H, I i s H → Src H it xs)
      (step : ∀ i x s H, xs[i]? = some x → I i s H → okW (bindT ts one x (r s)) (cpB W elt ifs acc (AtI r (I (i + 1))) H))
      (hend : ∀ s H, I xs.length s H → K H (.ref acc)) {s : σ} {H : AH} (h0 : I 0 s H) : CpW elt ts one ifs acc K it (r s) H
def cpI (nl : Nat) (elt : ME) (ts : List Nat) (one : Bool) (ifs : List ME) (ρ : Ro) (K : AH → AV → Prop) (H : AH) (it : It) : Prop := CpW W elt ts one ifs H.length K it (List.replicate nl none ++ ρ) (H ++ [.list []])
def cpK (nl : Nat) (elt : ME) (ts : List Nat) (one : Bool) (ifs : List ME) (ρ : Ro) (K : AH → AV → Prop) (H : AH) (v : AV) : Prop := iterW v H (cpI W nl elt ts one ifs ρ K H)

def evF (e : ME) (ρ : Ro) (H : AH) (K : AH → AV → Prop) : Prop := match e with
  | .bad => False
  | .cst c => K H c
  | .loc i => okW (getR ρ i) (K H)
  | .bop a es => bosF W a ρ es K H
  | .bin op l r => W.ev l ρ H (binK W op r ρ K)
  | .neg x => W.ev x ρ H (negK K)
  | .not _ => False
  | .ite t b o => W.tst t ρ H (iteK W b o ρ K)
  | .dic ks vs => prsF W ρ ks vs (dicK K) H
  | .lst es => evsF W ρ es (lstK K) H
  | .tup es => evsF W ρ es (tupK K) H
  | .comp nl elt ts one it ifs => W.ev it ρ H (cpK W nl elt ts one ifs ρ K)
  | .cmp op l r => W.ev l ρ H (cmpK W op r ρ (boolK K))
  | .mcall o name args => W.ev o ρ H (mcK W name args ρ K)
  | .call f args => W.ev f ρ H (callK W args ρ K)
  | .attr o a => W.ev o ρ H (attrK a K)
  | .sub o i => W.ev o ρ H (subK W i ρ K)
  | .slice o l u => W.ev o ρ H (sliK W l u ρ K)

def notK (K : AH → Bool → Prop) (H : AH) (b : Bool) : Prop := K H (!b)
def tboolK (K : AH → Bool → Prop) (H : AH) (v : AV) : Prop := boolW v (K H)
def tsF (e : ME) (ρ : Ro) (H : AH) (K : AH → Bool → Prop) : Prop := match e with
  | .not x => W.tst x ρ H (notK K)
  | .bop a es => tssF W a ρ es K H
  | .ite _ _ _ => False
  | .cmp op l r => W.ev l ρ H (cmpK W op r ρ K)
  | e => evF W e ρ H (tboolK K)

def plainV (v : AV) (K : Prop) : Prop := match v with
  | .none | .bool _ | .int _ | .str _ => K
  | _ => False
def exprK (ρ : Ro) (Q : Fl → Ro → AH → Prop) (H : AH) (v : AV) : Prop := plainV v (Q .next ρ H)
def retK (ρ : Ro) (Q : Fl → Ro → AH → Prop) (H : AH) (v : AV) : Prop := Q (.ret v) ρ H
def ifK (b o : List MS) (ρ : Ro) (Q : Fl → Ro → AH → Prop) (H : AH) (c : Bool) : Prop := br c (W.blk b ρ H Q) (W.blk o ρ H Q)
def forI (t : MT) (b : List MS) (ρ : Ro) (Q : Fl → Ro → AH → Prop) (H : AH) (it : It) : Prop := ForW W t b Q it ρ H
def forK (t : MT) (b : List MS) (ρ : Ro) (Q : Fl → Ro → AH → Prop) (H : AH) (v : AV) : Prop := iterW v H (forI W t b ρ Q H)
def nxtR (Q : Fl → Ro → AH → Prop) (H : AH) (ρ : Ro) : Prop := Q .next ρ H
def nxtH (Q : Fl → Ro → AH → Prop) (ρ : Ro) (H : AH) : Prop := Q .next ρ H
def asgA (a : Nat) (v : AV) (K : AH → Prop) (H : AH) (o : AV) : Prop := setAttrW o a v H K
def asgS2 (v : AV) (K : AH → Prop) (o : AV) (H : AH) (i : AV) : Prop := setW o i v H K
def asgS (i : ME) (ρ : Ro) (v : AV) (K : AH → Prop) (H : AH) (o : AV) : Prop := W.ev i ρ H (asgS2 v K o)
def asgK (t : MT) (ρ : Ro) (Q : Fl → Ro → AH → Prop) (H : AH) (v : AV) : Prop := match t with
  | .loc i => okW (setR ρ i v) (nxtR Q H)
  | .tup is => okW (bindT is false v ρ) (nxtR Q H)
  | .attr o a => W.ev o ρ H (asgA a v (nxtH Q ρ))
  | .sub o i => W.ev o ρ H (asgS W i ρ v (nxtH Q ρ))
  | .bad => False
def stF (s : MS) (ρ : Ro) (H : AH) (Q : Fl → Ro → AH → Prop) : Prop := match s with
  | .bad => False
  | .expr e => W.ev e ρ H (exprK ρ Q)
  | .ret e => (match e with
    | none => Q (.ret .none) ρ H
    | some e => W.ev e ρ H (retK ρ Q))
  | .ifs t b o => W.tst t ρ H (ifK W b o ρ Q)
  | .whil t b => WhW W t b Q ρ H
  | .for t i b => W.ev i ρ H (forK W t b ρ Q)
  | .pass => Q .next ρ H
  | .brk => Q .brk ρ H
  | .asg t e => evF W e ρ H (asgK W t ρ Q)
def thenK (X : Ro → AH → Prop) (Q : Fl → Ro → AH → Prop) (f : Fl) (ρ : Ro) (H : AH) : Prop := match f with
  | .next => X ρ H
  | .brk => Q .brk ρ H
  | .ret v => Q (.ret v) ρ H
def blF (Q : Fl → Ro → AH → Prop) : List MS → Ro → AH → Prop
  | [], ρ, H => Q .next ρ H
  | s :: r, ρ, H => stF W s ρ H (thenK (blF Q r) Q)

/-- the arguments and, behind them, the defaults that are asked -/
def argsOf (f : Fn) (args : List AV) : Option (List AV) :=
  if args.length ≤ f.np ∧ f.np ≤ args.length + f.dflts.length ∧ f.np ≤ f.nslots ∧ f.dflts.length ≤ f.np then some (args ++ f.dflts.drop (f.dflts.length - (f.np - args.length))) else none
def startR (f : Fn) (vs : List AV) : Ro := vs.map some ++ List.replicate (f.nslots - vs.length) none
def outK (K : AH → AV → Prop) (f : Fl) (_ : Ro) (H : AH) : Prop := match f with
  | .ret v => K H v
  | .next => K H .none
  | .brk => False
def fnB (f : Fn) (H : AH) (K : AH → AV → Prop) (vs : List AV) : Prop := W.blk f.body (startR f vs) H (outK K)
def fnK (args : List AV) (H : AH) (K : AH → AV → Prop) (f : Fn) : Prop := okW (argsOf f args) (fnB W f H K)
def noneK (n : Nat) (K : AH → AV → Prop) (H : AH) (v : AV) : Prop := noneW v (K H (.ref n))
def clF (F : Nat → Option Fn) (f : AV) (args : List AV) (H : AH) (K : AH → AV → Prop) : Prop := match f with
  | .fn k => okW (F k) (fnK W args H K)
  | .cls c => okW (initFn c) fun k => Cw W (.fn k) (.ref H.length :: args) (H ++ [.inst c []]) (noneK H.length K)
  | .bi b => biW H K b args
  | _ => False
end
def blG (W : MI) (b : List MS) (ρ : Ro) (H : AH) (Q : Fl → Ro → AH → Prop) : Prop := blF W Q b ρ H
def mi (F : Nat → Option Fn) : Nat → MI
  | 0 => ⟨fun _ _ _ _ => False, fun _ _ _ _ => False, fun _ _ _ _ => False, fun _ _ _ _ => False⟩
  | n + 1 => ⟨evF (mi F n), tsF (mi F n), blG (mi F n), clF (mi F n) F⟩
end

section
variable {α : Type} {o : Option α} {a : α} {K : α → Prop} {c X Y : Prop} {b : Bool}
theorem okW.mk (h : o = some a) (k : K a) : okW o K := by subst h; exact k
theorem okW.ite [Decidable c] (h : c) (k : okW o K) : okW (if c then o else none) K := by rw [if_pos h]; exact k
theorem br.dec [Decidable c] (x : c → X) (y : ¬ c → Y) : br (decide c) X Y := by
  by_cases h : c
  · rw [decide_eq_true h]; exact x h
  · rw [decide_eq_false h]; exact y h
theorem br.pos [Decidable c] (h : c) (x : X) : br (decide c) X Y := by rw [decide_eq_true h]; exact x
theorem br.neg [Decidable c] (h : ¬ c) (y : Y) : br (decide c) X Y := by rw [decide_eq_false h]; exact y
theorem br.not (h : br b Y X) : br (!b) X Y := by cases b <;> exact h
theorem br.any (x : b = true → X) (y : b = false → Y) : br b X Y := by
  cases b with
  | true => exact x rfl
  | false => exact y rfl
end
end Mine
end
section
set_option autoImplicit false
set_option Elab.async false
set_option maxRecDepth 10000
namespace Mine.C
open PySem
noncomputable def b0 : List MS := [.asg (.loc 1) (.lst []), .asg (.loc 2) (.cst (.int 0)), .asg (.loc 3) (.loc 0), .whil (.cmp (.Gt) (.loc 3) (.cst (.int 0))) [.ifs (.cmp (.Eq) (.bin (.BitAnd) (.loc 3) (.cst (.int 1))) (.cst (.int 1))) [.expr (.mcall (.loc 1) 47 [.loc 2])] [], .asg (.loc 3) (.bin (.RShift) (.loc 3) (.cst (.int 1))), .asg (.loc 2) (.bin (.Add) (.loc 2) (.cst (.int 1)))], .ret (some (.loc 1))]
theorem theFn_0 : theFn 0 = some ⟨1, [], 4, b0⟩ := by kernel_rfl
noncomputable def b1 : List MS := [.asg (.attr (.loc 0) 0) (.loc 1), .asg (.attr (.loc 0) 1) (.loc 2), .asg (.attr (.loc 0) 2) (.loc 3), .asg (.attr (.loc 0) 3) (.loc 4), .asg (.attr (.loc 0) 4) (.loc 5), .asg (.attr (.loc 0) 5) (.loc 6), .asg (.attr (.loc 0) 6) (.loc 7)]
theorem theFn_1 : theFn 1 = some ⟨8, [.int (-1), .none, .int 0, .int 0], 8, b1⟩ := by kernel_rfl
noncomputable def b2 : List MS := [.asg (.attr (.loc 0) 7) (.loc 1), .asg (.attr (.loc 0) 8) (.loc 2), .asg (.attr (.loc 0) 9) (.loc 3), .asg (.attr (.loc 0) 10) (.loc 4), .asg (.attr (.loc 0) 11) (.loc 5), .asg (.attr (.loc 0) 12) (.loc 6), .asg (.attr (.loc 0) 13) (.comp 2 (.lst []) [1] true (.attr (.loc 0) 7) []), .asg (.attr (.loc 0) 14) (.lst []), .asg (.attr (.loc 0) 15) (.lst []), .for (.loc 7) (.attr (.loc 0) 9) [.expr (.mcall (.sub (.attr (.loc 0) 13) (.attr (.loc 7) 1)) 47 [.attr (.loc 7) 0]), .expr (.mcall (.attr (.loc 0) 14) 47 [.call (.cst (.bi (.len))) [.attr (.loc 0) 15]]), .expr (.mcall (.attr (.loc 0) 15) 48 [.bin (.Mult) (.lst [.attr (.loc 7) 0]) (.bin (.Add) (.call (.cst (.bi (.len))) [.attr (.loc 7) 2]) (.cst (.int 1)))])], .asg (.attr (.loc 0) 16) (.call (.cst (.bi (.len))) [.attr (.loc 0) 15])]
theorem theFn_2 : theFn 2 = some ⟨7, [], 8, b2⟩ := by kernel_rfl
noncomputable def b3 : List MS := [.ret (some (.call (.cst (.bi (.len))) [.attr (.loc 0) 7]))]
theorem theFn_3 : theFn 3 = some ⟨1, [], 1, b3⟩ := by kernel_rfl
noncomputable def b4 : List MS := [.ret (some (.cmp (.Lt) (.loc 1) (.attr (.loc 0) 8)))]
theorem theFn_4 : theFn 4 = some ⟨2, [], 2, b4⟩ := by kernel_rfl
noncomputable def b5 : List MS := [.ret (some (.ite (.cmp (.In) (.loc 1) (.attr (.loc 0) 7)) (.mcall (.attr (.loc 0) 7) 49 [.loc 1]) (.neg (.cst (.int 1)))))]
theorem theFn_5 : theFn 5 = some ⟨2, [], 2, b5⟩ := by kernel_rfl
noncomputable def b6 : List MS := [.ret (some (.call (.cst (.bi (.list))) [.sub (.attr (.loc 0) 13) (.loc 1)]))]
theorem theFn_6 : theFn 6 = some ⟨2, [], 2, b6⟩ := by kernel_rfl
noncomputable def b7 : List MS := [.ret (some (.bin (.Add) (.sub (.attr (.loc 0) 14) (.loc 1)) (.loc 2)))]
theorem theFn_7 : theFn 7 = some ⟨3, [], 3, b7⟩ := by kernel_rfl
noncomputable def b8 : List MS := [.ret (some (.sub (.attr (.loc 0) 15) (.loc 1)))]
theorem theFn_8 : theFn 8 = some ⟨2, [], 2, b8⟩ := by kernel_rfl
noncomputable def b9 : List MS := [.ret (some (.bin (.Sub) (.loc 1) (.sub (.attr (.loc 0) 14) (.sub (.attr (.loc 0) 15) (.loc 1)))))]
theorem theFn_9 : theFn 9 = some ⟨2, [], 2, b9⟩ := by kernel_rfl
noncomputable def b10 : List MS := [.asg (.loc 2) (.attr (.sub (.attr (.loc 0) 9) (.sub (.attr (.loc 0) 15) (.loc 1))) 2), .asg (.loc 3) (.bin (.Sub) (.loc 1) (.sub (.attr (.loc 0) 14) (.sub (.attr (.loc 0) 15) (.loc 1)))), .ret (some (.ite (.cmp (.Lt) (.loc 3) (.call (.cst (.bi (.len))) [.loc 2])) (.sub (.loc 2) (.loc 3)) (.neg (.cst (.int 1)))))]
theorem theFn_10 : theFn 10 = some ⟨2, [], 4, b10⟩ := by kernel_rfl
noncomputable def b11 : List MS := [.asg (.loc 2) (.neg (.cst (.int 1))), .for (.loc 3) (.loc 0) [.ifs (.cmp (.Lt) (.loc 3) (.loc 1)) [.asg (.loc 2) (.loc 3)] []], .ret (some (.loc 2))]
theorem theFn_11 : theFn 11 = some ⟨2, [], 4, b11⟩ := by kernel_rfl
noncomputable def b12 : List MS := [.asg (.loc 2) (.lst []), .for (.tup [3, 4]) (.loc 0) [.ifs (.bop false [.cmp (.Eq) (.loc 3) (.cst (.str 4)), .cmp (.In) (.slice (.loc 3) none (some (.cst (.int 1)))) (.tup [.cst (.str 0), .cst (.str 1), .cst (.str 2)])]) [.bad] [], .ifs (.cmp (.NotIn) (.loc 3) (.loc 2)) [.expr (.mcall (.loc 2) 47 [.loc 3])] []], .asg (.loc 5) (.ite (.bop false [.cmp (.IsNot) (.loc 1) (.cst (.none)), .cmp (.Eq) (.loc 2) (.lst [])]) (.loc 1) (.sub (.loc 2) (.cst (.int 0)))), .ifs (.cmp (.NotIn) (.loc 5) (.loc 2)) [.bad] [], .asg (.loc 6) (.call (.cst (.bi (.list))) [.cst (.tup [.str 3, .str 4, .str 5])]), .for (.tup [3, 4]) (.loc 0) [.for (.loc 7) (.loc 4) [.ifs (.bop true [.cmp (.NotIn) (.loc 7) (.loc 2), .cmp (.NotIn) (.loc 7) (.loc 6)]) [.expr (.mcall (.loc 6) 47 [.loc 7])] []]], .asg (.loc 8) (.call (.cst (.bi (.len))) [.loc 6]), .asg (.loc 6) (.bin (.Add) (.bin (.Add) (.loc 6) (.lst [.cst (.str 6)])) (.loc 2)), .asg (.loc 9) (.lst [.call (.cst (.cls 0)) [.cst (.int 0), .loc 8, .tup [.mcall (.loc 6) 49 [.loc 5], .cst (.int 0)], .cst (.int 0)]]), .for (.tup [3, 4]) (.loc 0) [.asg (.loc 10) (.call (.cst (.bi (.tuple))) [.comp 2 (.mcall (.loc 8) 49 [.loc 1]) [1] true (.loc 4) []]), .expr (.mcall (.loc 9) 47 [.call (.cst (.cls 0)) [.call (.cst (.bi (.len))) [.loc 9], .mcall (.loc 6) 49 [.loc 3], .loc 10, .call (.cst (.fn 11)) [.loc 10, .loc 8]]])], .ret (some (.call (.cst (.cls 1)) [.loc 6, .loc 8, .loc 9, .dic [] [], .cst (.none), .mcall (.loc 6) 49 [.loc 5]]))]
theorem theFn_12 : theFn 12 = some ⟨2, [.none], 11, b12⟩ := by kernel_rfl
noncomputable def b13 : List MS := [.asg (.loc 2) (.call (.cst (.bi (.list))) [.loc 1]), .asg (.loc 3) (.lst []), .asg (.loc 5) (.comp 2 (.lst []) [1] true (.loc 2) []), .asg (.loc 6) (.lst []), .for (.loc 7) (.attr (.loc 0) 9) [.asg (.loc 8) (.cst (.int 0)), .for (.loc 4) (.attr (.loc 7) 2) [.ifs (.not (.sub (.loc 2) (.loc 4))) [.asg (.loc 8) (.bin (.Add) (.loc 8) (.cst (.int 1))), .expr (.mcall (.sub (.loc 5) (.loc 4)) 47 [.attr (.loc 7) 0])] []], .expr (.mcall (.loc 3) 47 [.loc 8])], .for (.loc 7) (.attr (.loc 0) 9) [.ifs (.bop true [.cmp (.Eq) (.sub (.loc 3) (.attr (.loc 7) 0)) (.cst (.int 0)), .not (.sub (.loc 2) (.attr (.loc 7) 1))]) [.asg (.sub (.loc 2) (.attr (.loc 7) 1)) (.cst (.bool true)), .expr (.mcall (.loc 6) 47 [.attr (.loc 7) 1])] []], .asg (.loc 9) (.cst (.int 0)), .whil (.cmp (.Lt) (.loc 9) (.call (.cst (.bi (.len))) [.loc 6])) [.for (.loc 10) (.sub (.loc 5) (.sub (.loc 6) (.loc 9))) [.asg (.sub (.loc 3) (.loc 10)) (.bin (.Sub) (.sub (.loc 3) (.loc 10)) (.cst (.int 1))), .asg (.loc 11) (.attr (.sub (.attr (.loc 0) 9) (.loc 10)) 1), .ifs (.bop true [.cmp (.Eq) (.sub (.loc 3) (.loc 10)) (.cst (.int 0)), .not (.sub (.loc 2) (.loc 11))]) [.asg (.sub (.loc 2) (.loc 11)) (.cst (.bool true)), .expr (.mcall (.loc 6) 47 [.loc 11])] []], .asg (.loc 9) (.bin (.Add) (.loc 9) (.cst (.int 1)))], .ret (some (.loc 2))]
theorem theFn_13 : theFn 13 = some ⟨2, [], 12, b13⟩ := by kernel_rfl
noncomputable def b14 : List MS := [.ret (some (.call (.cst (.fn 13)) [.loc 0, .bin (.Mult) (.lst [.cst (.bool false)]) (.mcall (.loc 0) 17 [])]))]
theorem theFn_14 : theFn 14 = some ⟨1, [], 1, b14⟩ := by kernel_rfl
noncomputable def b15 : List MS := [.asg (.loc 3) (.cst (.int 0)), .for (.loc 4) (.loc 0) [.asg (.loc 3) (.bin (.BitOr) (.loc 3) (.sub (.loc 2) (.loc 4))), .ifs (.not (.sub (.loc 1) (.loc 4))) [.ret (some (.tup [.loc 3, .cst (.bool false)]))] []], .ret (some (.tup [.loc 3, .cst (.bool true)]))]
theorem theFn_15 : theFn 15 = some ⟨3, [], 5, b15⟩ := by kernel_rfl
noncomputable def b16 : List MS := [.asg (.loc 1) (.call (.cst (.fn 14)) [.loc 0]), .asg (.loc 2) (.lst []), .for (.loc 3) (.call (.cst (.bi (.range))) [.mcall (.loc 0) 17 []]) [.expr (.mcall (.loc 2) 47 [.ite (.mcall (.loc 0) 18 [.loc 3]) (.bin (.LShift) (.cst (.int 1)) (.loc 3)) (.cst (.int 0))])], .asg (.loc 4) (.cst (.bool true)), .whil (.loc 4) [.asg (.loc 4) (.cst (.bool false)), .for (.loc 5) (.attr (.loc 0) 9) [.asg (.loc 6) (.bin (.BitOr) (.sub (.loc 2) (.attr (.loc 5) 1)) (.sub (.call (.cst (.fn 15)) [.attr (.loc 5) 2, .loc 1, .loc 2]) (.cst (.int 0)))), .ifs (.cmp (.NotEq) (.loc 6) (.sub (.loc 2) (.attr (.loc 5) 1))) [.asg (.sub (.loc 2) (.attr (.loc 5) 1)) (.loc 6), .asg (.loc 4) (.cst (.bool true))] []]], .ret (some (.loc 2))]
theorem theFn_16 : theFn 16 = some ⟨1, [], 7, b16⟩ := by kernel_rfl
noncomputable def b17 : List MS := [.asg (.loc 1) (.call (.cst (.bi (.list))) [.loc 0]), .for (.loc 2) (.call (.cst (.bi (.range))) [.call (.cst (.bi (.len))) [.loc 1]]) [.for (.loc 3) (.call (.cst (.bi (.range))) [.call (.cst (.bi (.len))) [.loc 1]]) [.ifs (.cmp (.Eq) (.bin (.BitAnd) (.bin (.RShift) (.sub (.loc 1) (.loc 3)) (.loc 2)) (.cst (.int 1))) (.cst (.int 1))) [.asg (.sub (.loc 1) (.loc 3)) (.bin (.BitOr) (.sub (.loc 1) (.loc 3)) (.sub (.loc 1) (.loc 2)))] []]], .ret (some (.loc 1))]
theorem theFn_17 : theFn 17 = some ⟨1, [], 4, b17⟩ := by kernel_rfl
noncomputable def b18 : List MS := [.asg (.attr (.loc 0) 0) (.loc 1), .asg (.attr (.loc 0) 24) (.loc 2), .asg (.attr (.loc 0) 25) (.loc 3), .asg (.attr (.loc 0) 26) (.lst []), .asg (.attr (.loc 0) 27) (.dic [] []), .asg (.attr (.loc 0) 28) (.lst [])]
theorem theFn_18 : theFn 18 = some ⟨4, [], 4, b18⟩ := by kernel_rfl
noncomputable def b19 : List MS := [.asg (.attr (.loc 0) 30) (.loc 1), .asg (.loc 2) (.bin (.Mult) (.lst [.cst (.int 0)]) (.mcall (.loc 1) 17 [])), .for (.loc 3) (.attr (.loc 1) 9) [.ifs (.cmp (.Gt) (.call (.cst (.bi (.len))) [.attr (.loc 3) 2]) (.cst (.int 0))) [.asg (.sub (.loc 2) (.attr (.loc 3) 1)) (.bin (.BitOr) (.sub (.loc 2) (.attr (.loc 3) 1)) (.bin (.LShift) (.cst (.int 1)) (.sub (.attr (.loc 3) 2) (.cst (.int 0)))))] []], .asg (.attr (.loc 0) 31) (.call (.cst (.fn 17)) [.loc 2])]
theorem theFn_19 : theFn 19 = some ⟨2, [], 4, b19⟩ := by kernel_rfl
noncomputable def b20 : List MS := [.asg (.loc 2) (.cst (.int 0)), .for (.loc 3) (.loc 1) [.asg (.loc 4) (.mcall (.attr (.loc 0) 30) 23 [.loc 3]), .ifs (.cmp (.GtE) (.loc 4) (.cst (.int 0))) [.asg (.loc 2) (.bin (.BitOr) (.bin (.BitOr) (.loc 2) (.bin (.LShift) (.cst (.int 1)) (.loc 4))) (.sub (.attr (.loc 0) 31) (.loc 4)))] []], .ret (some (.loc 2))]
theorem theFn_20 : theFn 20 = some ⟨2, [], 5, b20⟩ := by kernel_rfl
noncomputable def b21 : List MS := [.asg (.loc 2) (.lst []), .for (.loc 3) (.call (.cst (.fn 0)) [.mcall (.loc 0) 32 [.loc 1]]) [.for (.loc 4) (.mcall (.attr (.loc 0) 30) 19 [.loc 3]) [.asg (.loc 5) (.mcall (.attr (.loc 0) 30) 20 [.loc 4, .cst (.int 0)]), .ifs (.cmp (.NotIn) (.loc 5) (.loc 1)) [.expr (.mcall (.loc 2) 47 [.loc 5])] []]], .ret (some (.call (.cst (.bi (.sorted))) [.loc 2]))]
theorem theFn_21 : theFn 21 = some ⟨2, [], 6, b21⟩ := by kernel_rfl
noncomputable def b22 : List MS := [.ret (some (.bin (.Add) (.call (.cst (.bi (.sorted))) [.loc 1]) (.mcall (.loc 0) 33 [.loc 1])))]
theorem theFn_22 : theFn 22 = some ⟨2, [], 2, b22⟩ := by kernel_rfl
noncomputable def b23 : List MS := [.ret (some (.mcall (.loc 0) 20 [.mcall (.loc 0) 21 [.loc 1], .bin (.Add) (.mcall (.loc 0) 22 [.loc 1]) (.cst (.int 1))]))]
theorem theFn_23 : theFn 23 = some ⟨2, [], 2, b23⟩ := by kernel_rfl
noncomputable def b24 : List MS := [.asg (.loc 2) (.dic [] []), .for (.loc 3) (.loc 1) [.asg (.loc 4) (.mcall (.loc 0) 23 [.loc 3]), .ifs (.cmp (.GtE) (.loc 4) (.cst (.int 0))) [.ifs (.cmp (.NotIn) (.loc 4) (.loc 2)) [.asg (.sub (.loc 2) (.loc 4)) (.lst [])] [], .expr (.mcall (.sub (.loc 2) (.loc 4)) 47 [.call (.cst (.fn 23)) [.loc 0, .loc 3]])] []], .asg (.loc 5) (.dic [] []), .for (.loc 4) (.call (.cst (.bi (.sorted))) [.loc 2]) [.asg (.sub (.loc 5) (.loc 4)) (.call (.cst (.bi (.tuple))) [.call (.cst (.bi (.sorted))) [.sub (.loc 2) (.loc 4)]])], .ret (some (.loc 5))]
theorem theFn_24 : theFn 24 = some ⟨2, [], 6, b24⟩ := by kernel_rfl
noncomputable def b25 : List MS := [.asg (.loc 2) (.lst []), .for (.loc 3) (.loc 1) [.ifs (.bop true [.cmp (.Lt) (.mcall (.loc 0) 23 [.loc 3]) (.cst (.int 0)), .cmp (.NotEq) (.mcall (.loc 0) 21 [.loc 3]) (.cst (.int 0))]) [.expr (.mcall (.loc 2) 47 [.mcall (.loc 0) 21 [.loc 3]])] []], .ret (some (.call (.cst (.bi (.sorted))) [.loc 2]))]
theorem theFn_25 : theFn 25 = some ⟨2, [], 4, b25⟩ := by kernel_rfl
noncomputable def b26 : List MS := [.asg (.attr (.loc 0) 30) (.loc 1), .asg (.attr (.loc 0) 35) (.loc 2)]
theorem theFn_26 : theFn 26 = some ⟨3, [], 3, b26⟩ := by kernel_rfl
noncomputable def b27 : List MS := [.asg (.attr (.loc 0) 30) (.loc 1), .asg (.attr (.loc 0) 36) (.call (.cst (.cls 3)) [.loc 1]), .asg (.attr (.loc 0) 35) (.lst []), .asg (.attr (.loc 0) 37) (.dic [] [])]
theorem theFn_27 : theFn 27 = some ⟨2, [], 2, b27⟩ := by kernel_rfl
noncomputable def b28 : List MS := [.ifs (.cmp (.NotIn) (.loc 1) (.attr (.loc 0) 37)) [.asg (.sub (.attr (.loc 0) 37) (.loc 1)) (.call (.cst (.bi (.len))) [.attr (.loc 0) 35]), .expr (.mcall (.attr (.loc 0) 35) 47 [.call (.cst (.cls 2)) [.call (.cst (.bi (.len))) [.attr (.loc 0) 35], .loc 1, .loc 2]])] [], .ret (some (.sub (.attr (.loc 0) 37) (.loc 1)))]
theorem theFn_28 : theFn 28 = some ⟨3, [], 3, b28⟩ := by kernel_rfl
noncomputable def b29 : List MS := [.asg (.attr (.loc 1) 26) (.mcall (.attr (.loc 0) 36) 34 [.attr (.loc 1) 24]), .asg (.attr (.loc 1) 28) (.call (.cst (.fn 25)) [.attr (.loc 0) 30, .attr (.loc 1) 26]), .asg (.loc 2) (.call (.cst (.fn 24)) [.attr (.loc 0) 30, .attr (.loc 1) 26]), .for (.loc 3) (.loc 2) [.asg (.sub (.attr (.loc 1) 27) (.loc 3)) (.mcall (.loc 0) 38 [.sub (.loc 2) (.loc 3), .loc 3])]]
theorem theFn_29 : theFn 29 = some ⟨2, [], 4, b29⟩ := by kernel_rfl
noncomputable def b30 : List MS := [.expr (.mcall (.loc 0) 38 [.tup [.mcall (.attr (.loc 0) 30) 20 [.cst (.int 0), .cst (.int 0)]], .cst (.int (-1))]), .asg (.loc 1) (.cst (.int 0)), .whil (.cmp (.Lt) (.loc 1) (.call (.cst (.bi (.len))) [.attr (.loc 0) 35])) [.expr (.mcall (.loc 0) 39 [.sub (.attr (.loc 0) 35) (.loc 1)]), .asg (.loc 1) (.bin (.Add) (.loc 1) (.cst (.int 1)))], .ret (some (.call (.cst (.cls 4)) [.attr (.loc 0) 30, .attr (.loc 0) 35]))]
theorem theFn_30 : theFn 30 = some ⟨1, [], 2, b30⟩ := by kernel_rfl
noncomputable def b31 : List MS := [.ret (some (.mcall (.call (.cst (.cls 5)) [.loc 0]) 40 []))]
theorem theFn_31 : theFn 31 = some ⟨1, [], 1, b31⟩ := by kernel_rfl
noncomputable def b32 : List MS := [.asg (.attr (.loc 0) 41) (.loc 1), .asg (.attr (.loc 0) 42) (.loc 2)]
theorem theFn_32 : theFn 32 = some ⟨3, [], 3, b32⟩ := by kernel_rfl
noncomputable def b33 : List MS := [.asg (.attr (.loc 0) 43) (.loc 1), .asg (.attr (.loc 0) 30) (.attr (.loc 1) 30), .asg (.attr (.loc 0) 44) (.call (.cst (.fn 14)) [.attr (.loc 0) 30]), .asg (.attr (.loc 0) 31) (.call (.cst (.fn 16)) [.attr (.loc 0) 30])]
theorem theFn_33 : theFn 33 = some ⟨2, [], 2, b33⟩ := by kernel_rfl
noncomputable def b34 : List MS := [.asg (.loc 3) (.dic [.loc 1] [.cst (.none)]), .asg (.loc 4) (.lst [.loc 1]), .asg (.loc 5) (.cst (.int 0)), .whil (.bop true [.cmp (.NotIn) (.loc 2) (.loc 3), .cmp (.Lt) (.loc 5) (.call (.cst (.bi (.len))) [.loc 4])]) [.asg (.loc 6) (.sub (.loc 4) (.loc 5)), .asg (.loc 5) (.bin (.Add) (.loc 5) (.cst (.int 1))), .for (.loc 7) (.mcall (.attr (.loc 0) 30) 19 [.loc 6]) [.asg (.loc 8) (.attr (.sub (.attr (.attr (.loc 0) 30) 9) (.loc 7)) 2), .for (.loc 9) (.call (.cst (.bi (.range))) [.call (.cst (.bi (.len))) [.loc 8]]) [.asg (.loc 10) (.sub (.loc 8) (.loc 9)), .ifs (.bop true [.cmp (.Eq) (.bin (.BitAnd) (.bin (.RShift) (.sub (.attr (.loc 0) 31) (.loc 10)) (.loc 2)) (.cst (.int 1))) (.cst (.int 1)), .cmp (.NotIn) (.loc 10) (.loc 3)]) [.asg (.sub (.loc 3) (.loc 10)) (.tup [.loc 6, .call (.cst (.bi (.tuple))) [.slice (.loc 8) (some (.bin (.Add) (.loc 9) (.cst (.int 1)))) none]]), .expr (.mcall (.loc 4) 47 [.loc 10])] [], .ifs (.not (.sub (.attr (.loc 0) 44) (.loc 10))) [.brk] []]]], .asg (.loc 11) (.tup []), .asg (.loc 6) (.loc 2), .whil (.cmp (.IsNot) (.sub (.loc 3) (.loc 6)) (.cst (.none))) [.asg (.tup [6, 12]) (.sub (.loc 3) (.loc 6)), .asg (.loc 11) (.bin (.Add) (.loc 11) (.loc 12))], .ret (some (.loc 11))]
theorem theFn_34 : theFn 34 = some ⟨3, [], 13, b34⟩ := by kernel_rfl
noncomputable def b35 : List MS := [.asg (.loc 4) (.attr (.loc 0) 30), .asg (.loc 5) (.call (.cst (.bi (.tuple))) [.slice (.attr (.sub (.attr (.loc 4) 9) (.mcall (.loc 4) 21 [.loc 1])) 2) (some (.mcall (.loc 4) 22 [.loc 1])) none]), .for (.loc 6) (.attr (.loc 2) 42) [.asg (.loc 5) (.bin (.Add) (.loc 5) (.loc 6))], .asg (.loc 7) (.cst (.int 0)), .whil (.cmp (.Eq) (.bin (.BitAnd) (.bin (.RShift) (.sub (.attr (.loc 0) 31) (.sub (.loc 5) (.loc 7))) (.loc 3)) (.cst (.int 1))) (.cst (.int 0))) [.asg (.loc 7) (.bin (.Add) (.loc 7) (.cst (.int 1)))], .ret (some (.bin (.Add) (.mcall (.loc 0) 45 [.sub (.loc 5) (.loc 7), .loc 3]) (.slice (.loc 5) (some (.bin (.Add) (.loc 7) (.cst (.int 1)))) none)))]
theorem theFn_35 : theFn 35 = some ⟨4, [], 8, b35⟩ := by kernel_rfl
noncomputable def b36 : List MS := [.asg (.loc 1) (.cst (.int 0)), .for (.loc 2) (.slice (.loc 0) none (some (.cst (.int 24)))) [.asg (.loc 1) (.bin (.Add) (.bin (.Add) (.bin (.Add) (.bin (.Mult) (.loc 1) (.cst (.int 1000003))) (.bin (.Mult) (.cst (.int 2)) (.call (.cst (.bi (.abs))) [.loc 2]))) (.ite (.cmp (.Lt) (.loc 2) (.cst (.int 0))) (.cst (.int 1)) (.cst (.int 0)))) (.cst (.int 1)))], .ret (some (.lst [.loc 1, .cst (.int 0)]))]
theorem theFn_36 : theFn 36 = some ⟨1, [], 3, b36⟩ := by kernel_rfl
noncomputable def b37 : List MS := [.asg (.sub (.loc 0) (.cst (.int 1))) (.bin (.Add) (.sub (.loc 0) (.cst (.int 1))) (.cst (.int 1))), .ifs (.cmp (.Gt) (.sub (.loc 0) (.cst (.int 0))) (.cst (.int 0))) [.asg (.loc 2) (.bin (.Mod) (.sub (.loc 0) (.cst (.int 0))) (.loc 1)), .asg (.sub (.loc 0) (.cst (.int 0))) (.bin (.FloorDiv) (.sub (.loc 0) (.cst (.int 0))) (.loc 1)), .ret (some (.loc 2))] [], .ret (some (.bin (.Mod) (.bin (.Add) (.bin (.Mult) (.sub (.loc 0) (.cst (.int 1))) (.sub (.loc 0) (.cst (.int 1)))) (.cst (.int 1))) (.loc 1)))]
theorem theFn_37 : theFn 37 = some ⟨2, [], 3, b37⟩ := by kernel_rfl
noncomputable def b38 : List MS := [.ret (some (.comp 2 (.sub (.tup [.cst (.str 7), .cst (.str 8), .cst (.str 9), .cst (.str 10), .cst (.str 9), .cst (.str 10)]) (.call (.cst (.fn 37)) [.loc 2, .cst (.int 6)])) [1] true (.call (.cst (.bi (.range))) [.loc 1]) []))]
theorem theFn_38 : theFn 38 = some ⟨2, [], 2, b38⟩ := by kernel_rfl
noncomputable def b39 : List MS := [.asg (.loc 1) (.call (.cst (.fn 37)) [.loc 0, .cst (.int 2)]), .asg (.loc 2) (.lst [.tup [.cst (.str 9), .call (.cst (.fn 38)) [.loc 0, .bin (.Add) (.cst (.int 1)) (.call (.cst (.fn 37)) [.loc 0, .cst (.int 3)])]]]), .expr (.mcall (.loc 2) 47 [.tup [.cst (.str 9), .lst [.sub (.tup [.cst (.str 7), .cst (.str 8)]) (.call (.cst (.fn 37)) [.loc 0, .cst (.int 2)])]]]), .expr (.mcall (.loc 2) 47 [.tup [.cst (.str 10), .sub (.lst [.lst [], .lst [.cst (.str 7)]]) (.call (.cst (.fn 37)) [.loc 0, .cst (.int 2)])]]), .for (.loc 3) (.call (.cst (.bi (.range))) [.loc 1]) [.asg (.loc 4) (.sub (.tup [.cst (.str 9), .cst (.str 10)]) (.call (.cst (.fn 37)) [.loc 0, .cst (.int 2)])), .expr (.mcall (.loc 2) 47 [.tup [.loc 4, .call (.cst (.fn 38)) [.loc 0, .call (.cst (.fn 37)) [.loc 0, .cst (.int 4)]]]])], .ret (some (.loc 2))]
theorem theFn_39 : theFn 39 = some ⟨1, [], 5, b39⟩ := by kernel_rfl
noncomputable def b40 : List MS := [.asg (.loc 1) (.lst []), .for (.loc 2) (.call (.cst (.bi (.range))) [.cst (.int 3)]) [.for (.tup [3, 4]) (.loc 0) [.ifs (.bop true [.cmp (.NotIn) (.loc 3) (.loc 1), .cmp (.Eq) (.comp 2 (.loc 1) [1] true (.loc 4) [.cmp (.NotIn) (.loc 1) (.loc 3)]) (.lst [])]) [.expr (.mcall (.loc 1) 47 [.loc 3])] []]], .ret (some (.loc 1))]
theorem theFn_40 : theFn 40 = some ⟨1, [], 5, b40⟩ := by kernel_rfl
noncomputable def b41 : List MS := [.asg (.loc 2) (.dic [] []), .for (.loc 3) (.call (.cst (.bi (.range))) [.call (.cst (.bi (.len))) [.loc 1], .neg (.cst (.int 1)), .neg (.cst (.int 1))]) [.asg (.loc 4) (.cst (.bool true)), .whil (.loc 4) [.asg (.loc 4) (.cst (.bool false)), .for (.tup [5, 6]) (.loc 0) [.asg (.loc 7) (.lst [.loc 3]), .for (.loc 8) (.loc 6) [.asg (.loc 9) (.lst []), .for (.loc 10) (.loc 7) [.asg (.loc 11) (.call (.cst (.bi (.list))) [.mcall (.loc 2) 50 [.tup [.loc 8, .loc 10], .lst []]]), .ifs (.bop true [.cmp (.Lt) (.loc 10) (.call (.cst (.bi (.len))) [.loc 1]), .cmp (.Eq) (.sub (.loc 1) (.loc 10)) (.loc 8)]) [.expr (.mcall (.loc 11) 47 [.bin (.Add) (.loc 10) (.cst (.int 1))])] [], .expr (.mcall (.loc 9) 48 [.comp 2 (.loc 1) [1] true (.loc 11) [.cmp (.NotIn) (.loc 1) (.loc 11)]])], .asg (.loc 7) (.loc 9)], .asg (.loc 13) (.mcall (.loc 2) 51 [.tup [.loc 5, .loc 3], .lst []]), .for (.loc 12) (.loc 7) [.ifs (.cmp (.NotIn) (.loc 12) (.loc 13)) [.expr (.mcall (.loc 13) 47 [.loc 12]), .asg (.loc 4) (.cst (.bool true))] []]]]], .ret (some (.loc 2))]
theorem theFn_41 : theFn 41 = some ⟨2, [], 14, b41⟩ := by kernel_rfl
noncomputable def b42 : List MS := [.ifs (.cmp (.Eq) (.loc 2) (.lst [.loc 1])) [.ret (some (.cst (.bool true)))] [], .ret (some (.cmp (.In) (.call (.cst (.bi (.len))) [.loc 2]) (.sub (.call (.cst (.fn 41)) [.loc 0, .loc 2]) (.tup [.loc 1, .cst (.int 0)]))))]
theorem theFn_42 : theFn 42 = some ⟨3, [], 3, b42⟩ := by kernel_rfl
noncomputable def b43 : List MS := [.asg (.loc 2) (.dic [.cst (.str 6), .cst (.str 9), .cst (.str 10)] [.lst [], .lst [], .lst []]), .for (.loc 3) (.call (.cst (.bi (.range))) [.cst (.int 6)]) [.for (.tup [4, 5]) (.loc 0) [.for (.loc 6) (.loc 5) [.for (.loc 7) (.mcall (.loc 2) 50 [.loc 6, .lst [.loc 6]]) [.ifs (.cmp (.NotIn) (.loc 7) (.sub (.loc 2) (.loc 4))) [.expr (.mcall (.sub (.loc 2) (.loc 4)) 47 [.loc 7])] []], .ifs (.cmp (.NotIn) (.loc 6) (.loc 1)) [.brk] []]]], .ret (some (.loc 2))]
theorem theFn_43 : theFn 43 = some ⟨2, [], 8, b43⟩ := by kernel_rfl
noncomputable def b44 : List MS := [.asg (.loc 5) (.attr (.loc 0) 30), .asg (.loc 6) (.lst [.call (.cst (.bi (.tuple))) [.slice (.loc 2) (some (.sub (.loc 3) (.cst (.int 0)))) (some (.sub (.loc 3) (.cst (.int 1))))], .call (.cst (.bi (.tuple))) [.slice (.loc 2) (some (.sub (.loc 3) (.cst (.int 1)))) none]]), .asg (.loc 7) (.mcall (.loc 5) 20 [.cst (.int 1), .call (.cst (.bi (.len))) [.attr (.sub (.attr (.loc 5) 9) (.cst (.int 1))) 2]]), .asg (.loc 8) (.call (.cst (.cls 6)) [.tup [], .bin (.Add) (.lst [.call (.cst (.bi (.tuple))) [.slice (.loc 2) none (some (.sub (.loc 3) (.cst (.int 0))))]]) (.loc 6)]), .asg (.loc 9) (.mcall (.loc 0) 46 [.loc 7, .loc 8, .loc 4]), .asg (.loc 10) (.bin (.Add) (.loc 1) (.lst [.tup [.cst (.str 11), .comp 2 (.sub (.attr (.loc 7) 7) (.loc 1)) [1] true (.loc 2) []]])), .asg (.loc 11) (.bin (.Add) (.lst [.sub (.attr (.loc 5) 7) (.loc 4)]) (.comp 2 (.sub (.attr (.loc 7) 7) (.loc 1)) [1] true (.loc 9) [])), .ret (some (.bop true [.call (.cst (.bi (.isinst))) [.loc 9, .cst (.bi (.tuple))], .call (.cst (.fn 42)) [.loc 10, .cst (.str 11), .loc 11]]))]
theorem theFn_44 : theFn 44 = some ⟨5, [], 12, b44⟩ := by kernel_rfl
noncomputable def b45 : List MS := [.asg (.loc 1) (.call (.cst (.fn 36)) [.loc 0]), .asg (.loc 2) (.call (.cst (.fn 39)) [.loc 1]), .asg (.loc 3) (.bin (.Add) (.lst [.tup [.cst (.str 6), .lst [.cst (.str 9), .cst (.str 3)]]]) (.loc 2)), .asg (.loc 5) (.call (.cst (.fn 12)) [.comp 3 (.tup [.loc 1, .call (.cst (.bi (.list))) [.loc 2]]) [1, 2] false (.loc 2) []]), .asg (.loc 6) (.call (.cst (.cls 7)) [.call (.cst (.fn 31)) [.loc 5]]), .asg (.loc 7) (.call (.cst (.fn 40)) [.loc 2]), .asg (.loc 8) (.call (.cst (.fn 43)) [.loc 3, .loc 7]), .for (.loc 4) (.tup [.cst (.str 9), .cst (.str 10)]) [.for (.loc 9) (.sub (.loc 8) (.loc 4)) [.asg (.loc 10) (.mcall (.loc 6) 45 [.mcall (.loc 5) 0 [.loc 4], .mcall (.loc 5) 0 [.loc 9]]), .ifs (.not (.call (.cst (.fn 42)) [.loc 3, .loc 4, .bin (.Add) (.lst [.loc 9]) (.comp 2 (.sub (.attr (.loc 7) 7) (.loc 1)) [1] true (.loc 10) [])])) [.ret (some (.cst (.bool false)))] []]], .asg (.loc 12) (.call (.cst (.bi (.list))) [.call (.cst (.bi (.range))) [.cst (.int 3), .attr (.loc 5) 8]]), .ifs (.cmp (.NotEq) (.comp 2 (.loc 1) [1] true (.loc 12) [.cmp (.NotEq) (.mcall (.loc 8) 45 [.loc 1, .loc 1]) (.tup [])]) (.lst [])) [.ret (some (.cst (.bool false)))] [], .asg (.loc 13) (.bin (.Add) (.loc 12) (.lst [.mcall (.loc 5) 0 [.cst (.str 9)], .mcall (.loc 5) 0 [.cst (.str 10)]])), .asg (.loc 10) (.comp 2 (.sub (.loc 15) (.call (.cst (.fn 37)) [.loc 3, .call (.cst (.bi (.len))) [.loc 15]])) [1] true (.call (.cst (.bi (.range))) [.bin (.Add) (.cst (.int 1)) (.call (.cst (.fn 37)) [.loc 1, .cst (.int 4)])]) []), .asg (.loc 14) (.call (.cst (.bi (.sorted))) [.lst [.call (.cst (.fn 37)) [.loc 1, .bin (.Add) (.call (.cst (.bi (.len))) [.loc 10]) (.cst (.int 1))], .call (.cst (.fn 37)) [.loc 1, .bin (.Add) (.call (.cst (.bi (.len))) [.loc 10]) (.cst (.int 1))]]]), .asg (.loc 15) (.lst []), .for (.loc 11) (.loc 10) [.expr (.mcall (.loc 15) 48 [.mcall (.loc 8) 50 [.sub (.attr (.loc 5) 7) (.loc 11), .lst [.sub (.attr (.loc 5) 7) (.loc 11)]]]), .ifs (.cmp (.NotIn) (.sub (.attr (.loc 5) 7) (.loc 11)) (.loc 7)) [.brk] []], .for (.loc 16) (.loc 12) [.ifs (.bop true [.cmp (.In) (.sub (.attr (.loc 5) 7) (.loc 16)) (.loc 15), .not (.call (.cst (.fn 44)) [.loc 6, .loc 3, .loc 10, .loc 14, .loc 16])]) [.ret (some (.cst (.bool false)))] []], .ret (some (.cst (.bool true)))]
theorem theFn_45 : theFn 45 = some ⟨1, [], 17, b45⟩ := by kernel_rfl

end Mine.C
end
section
set_option autoImplicit false
set_option Elab.async false
set_option maxRecDepth 10000
namespace Mine.C
open PySem

abbrev intsL (xs : List Nat) : List AV := xs.map fun (i : Nat) => .int i
abbrev strsL (xs : List Nat) : List AV := xs.map .str
abbrev refsL (xs : List Nat) : List AV := xs.map .ref

/-! ## Heaps that keep what they had -/
/-- all old objects stand as they stood -/
structure Ext (H H' : AH) : Prop where
  len : H.length ≤ H'.length
  old : ∀ i, i < H.length → H'[i]? = H[i]?
/-- all old objects, except the pen (which is number 1) -/
structure ExtP (H H' : AH) : Prop where
  len : H.length ≤ H'.length
  old : ∀ i, i < H.length → i ≠ 1 → H'[i]? = H[i]?
section
variable {H H' H'' : AH} {o o' : AO} {r i : Nat}
theorem Ext.refl : Ext H H := ⟨Nat.le_refl _, fun _ _ => rfl⟩
theorem Ext.trans (a : Ext H H') (b : Ext H' H'') : Ext H H'' := ⟨Nat.le_trans a.len b.len, fun i h => (b.old i (Nat.lt_of_lt_of_le h a.len)).trans (a.old i h)⟩
theorem Ext.app {X : AH} : Ext H (H ++ X) := ⟨by simp, fun i h => List.getElem?_append_left h⟩
theorem Ext.new (a : Ext H H') : Ext H (H' ++ [o]) := a.trans .app
theorem Ext.set (a : Ext H H') (h : H.length ≤ r) : Ext H (H'.set r o) := ⟨by simpa using a.len, fun i hi => by rw [List.getElem?_set_ne (by lia)]; exact a.old i hi⟩
theorem lt_of_get {α : Type} {l : List α} {o : α} {i : Nat} (h : l[i]? = some o) : i < l.length := (List.getElem?_eq_some_iff.mp h).1
theorem Ext.get (a : Ext H H') (h : H[i]? = some o) : H'[i]? = some o := (a.old i (lt_of_get h)).trans h
theorem Ext.toP (a : Ext H H') : ExtP H H' := ⟨a.len, fun i h _ => a.old i h⟩
theorem ExtP.refl : ExtP H H := Ext.refl.toP
theorem ExtP.trans (a : ExtP H H') (b : ExtP H' H'') : ExtP H H'' := ⟨Nat.le_trans a.len b.len, fun i h e => (b.old i (Nat.lt_of_lt_of_le h a.len) e).trans (a.old i h e)⟩
theorem ExtP.get (a : ExtP H H') (h : H[i]? = some o) (e : i ≠ 1) : H'[i]? = some o := (a.old i (lt_of_get h) e).trans h
theorem ExtP.set1 : ExtP H (H.set 1 o) := ⟨by simp, fun i _ e => List.getElem?_set_ne (fun e' => e e'.symm)⟩
theorem ExtP.new (a : ExtP H H') : ExtP H (H' ++ [o]) := a.trans Ext.app.toP
theorem ExtP.set (a : ExtP H H') (h : H.length ≤ r) : ExtP H (H'.set r o) := ⟨by simpa using a.len, fun i hi e => by rw [List.getElem?_set_ne (by lia)]; exact a.old i hi e⟩
theorem get_new (h : H[i]? = some o) : (H ++ [o'])[i]? = some o := Ext.app.get h
theorem get_set (h : H[i]? = some o) (e : r ≠ i) : (H.set r o')[i]? = some o := by rw [List.getElem?_set_ne e]; exact h
theorem get_set_self {o₀ : AO} (h : H[i]? = some o₀) : (H.set i o)[i]? = some o := by rw [List.getElem?_set_self (lt_of_get h)]
theorem look_new : (H ++ [o])[H.length]? = some o := by simp
theorem set_new : (H ++ [o]).set H.length o' = H ++ [o'] := by simp
theorem look_newE (h : i = H.length) : (H ++ [o])[i]? = some o := by subst h; simp
theorem len_new : (H ++ [o]).length = H.length + 1 := by simp
end
section
variable {α : Type} {l m : List α} {x y : α} {i j : Nat}
theorem get_ex (h : i < l.length) : ∃ x, l[i]? = some x := ⟨l[i], List.getElem?_eq_getElem h⟩
theorem get_new' (h : l[i]? = some x) : (l ++ m)[i]? = some x := by rw [List.getElem?_append_left (lt_of_get h)]; exact h
theorem take_succ_get (h : l[i]? = some x) : l.take (i + 1) = l.take i ++ [x] := by rw [List.take_add_one, h]; rfl
theorem take_all (h : l.length ≤ i) : l.take i = l := List.take_of_length_le h
theorem nodup_get (h : l.Nodup) (hi : l[i]? = some x) (hj : l[j]? = some x) : i = j := by
  obtain ⟨h1, e1⟩ := List.getElem?_eq_some_iff.mp hi
  obtain ⟨h2, e2⟩ := List.getElem?_eq_some_iff.mp hj
  have := List.pairwise_iff_getElem.mp h
  rcases Nat.lt_trichotomy i j with g | g | g
  · exact absurd (e1.trans e2.symm) (this i j h1 h2 g)
  · exact g
  · exact absurd (e2.trans e1.symm) (this j i h2 h1 g)
theorem nodup_len [DecidableEq α] : ∀ {l m : List α}, l.Nodup → (∀ x ∈ l, x ∈ m) → l.length ≤ m.length
  | [], _, _, _ => Nat.zero_le _
  | a :: l, m, h, hs => by
    have ha := hs a List.mem_cons_self
    have hn := List.nodup_cons.mp h
    have := nodup_len (l := l) (m := m.erase a) hn.2 fun x hx => (List.mem_erase_of_ne (fun e : x = a => hn.1 (by rw [← e]; exact hx))).mpr (hs x (List.mem_cons_of_mem _ hx))
    rw [List.length_erase_of_mem ha] at this
    have := List.length_pos_of_mem ha
    simp only [List.length_cons]
    lia
theorem nodup_lt_len {l : List Nat} {n : Nat} (h : l.Nodup) (hs : ∀ x ∈ l, x < n) : l.length ≤ n := by
  have := nodup_len (m := List.range n) h fun x hx => List.mem_range.mpr (hs x hx)
  simpa using this
theorem nodup_snoc (h : l.Nodup) (hx : x ∉ l) : (l ++ [x]).Nodup := List.nodup_append.mpr ⟨h, List.pairwise_singleton .., fun a ha b hb e => hx (by rw [List.mem_singleton.mp hb] at e; exact e ▸ ha)⟩
theorem get_map {β : Type} {f : α → β} (h : l[i]? = some x) : (l.map f)[i]? = some (f x) := by rw [List.getElem?_map, h]; rfl
@[elab_as_elim] theorem map_get {β : Type} {f : α → β} {b : β} {P : β → Prop} (h : (l.map f)[i]? = some b) (k : ∀ x, l[i]? = some x → P (f x)) : P b := by
  rw [List.getElem?_map] at h
  obtain ⟨x, hx, rfl⟩ := Option.map_eq_some_iff.mp h
  exact k x hx
theorem mem_of (h : l[i]? = some x) : x ∈ l := List.mem_of_getElem? h
end
section
variable {xs ys : List Nat} {i x : Nat}
theorem ints_at (h : xs[i]? = some x) : (intsL xs)[i]? = some (.int x) := get_map h
theorem strs_at (h : xs[i]? = some x) : (strsL xs)[i]? = some (.str x) := get_map h
theorem refs_at (h : xs[i]? = some x) : (refsL xs)[i]? = some (.ref x) := get_map h
theorem ints_len : (intsL xs).length = xs.length := List.length_map ..
theorem ints_app : intsL xs ++ intsL ys = intsL (xs ++ ys) := (List.map_append ..).symm
theorem strs_app : strsL xs ++ strsL ys = strsL (xs ++ ys) := (List.map_append ..).symm
theorem refs_app : refsL xs ++ refsL ys = refsL (xs ++ ys) := (List.map_append ..).symm
end
theorem lidL {n : Nat} (h : n ≤ 60) : n < lid := by rw [lid_eq]; lia
theorem lidE {n : Nat} (h : n ≤ 60) : n ≤ lid := Nat.le_of_lt (lidL h)

def atomI (i : Nat) : Atom := .i i
theorem toAtoms_ints (xs : List Nat) : toAtoms (intsL xs) = some (xs.map atomI) := by
  induction xs with
  | nil => rfl
  | cons x r ih => show optC _ (toAtoms (intsL r)) = _; rw [ih]; rfl
theorem toAtoms_strs (xs : List Nat) : toAtoms (strsL xs) = some (xs.map Atom.s) := by
  induction xs with
  | nil => rfl
  | cons x r ih => show optC _ (toAtoms (strsL r)) = _; rw [ih]; rfl
theorem contains_inj {α β : Type} [DecidableEq α] [DecidableEq β] {f : α → β} (hf : ∀ x y, f x = f y → x = y) {xs : List α} {x : α} : (xs.map f).contains (f x) = decide (x ∈ xs) := by
  simp only [List.contains_eq_mem, List.mem_map]
  rw [decide_eq_decide]
  exact ⟨fun ⟨y, h, e⟩ => hf y x e ▸ h, fun h => ⟨x, h, rfl⟩⟩
theorem idxOf_inj {α β : Type} [DecidableEq α] [DecidableEq β] {f : α → β} (hf : ∀ x y, f x = f y → x = y) {xs : List α} {x : α} : (xs.map f).idxOf (f x) = xs.idxOf x := by
  induction xs with
  | nil => rfl
  | cons y r ih =>
    simp only [List.map_cons, List.idxOf_cons, ih]
    by_cases h : y = x
    · subst h; simp
    · have h1 : (f y == f x) = false := beq_eq_false_iff_ne.mpr fun e => h (hf _ _ e)
      have h2 : (y == x) = false := beq_eq_false_iff_ne.mpr h
      rw [h1, h2]
theorem atomS_inj (x y : Nat) (h : Atom.s x = Atom.s y) : x = y := by cases h; rfl
theorem atomI_inj (x y : Nat) (h : atomI x = atomI y) : x = y := by injection h; lia

section
variable {F : Nat → Option Fn} {n : Nat} {H : AH} {K : AH → AV → Prop} {B : Bool → Prop} {xs ys : List Nat} {x : Nat}
theorem fnM {k : Nat} {f : Fn} {args : List AV} (h : F k = some f) (hb : okW (argsOf f args) (fnB (mi F n) f H K)) : Cw (mi F (n + 1)) (.fn k) args H K := ⟨by
  show okW (F k) _; rw [h]; exact hb⟩
theorem in_strs (k : B (decide (x ∈ xs))) : inAtoms B (.str x) (strsL xs) := by
  show okW (toAtoms _) _; rw [toAtoms_strs]; show B _; rw [contains_inj atomS_inj]; exact k
theorem in_ints (k : B (decide (x ∈ xs))) : inAtoms B (.int x) (intsL xs) := by
  show okW (toAtoms _) _; rw [toAtoms_ints]; show B ((xs.map atomI).contains (atomI x)); rw [contains_inj atomI_inj]; exact k
theorem eq_strs (k : B (decide (xs = ys))) : atomsEq B (strsL xs) (strsL ys) := by
  show okW (toAtoms _) _; rw [toAtoms_strs]; show okW (toAtoms _) _; rw [toAtoms_strs]
  show B (decide (xs.map Atom.s = ys.map Atom.s))
  rwa [decide_eq_decide.mpr ⟨fun h => List.map_inj_right (fun x y => atomS_inj x y) |>.mp h, fun h => h ▸ rfl⟩]
theorem idx_strs (h : x ∈ xs) (k : K H (.int (xs.idxOf x))) : idxL H K (strsL xs) (.str x) := by
  show okW (toAtoms _) _; rw [toAtoms_strs]
  show Gd ((xs.map Atom.s).idxOf (Atom.s x) < (xs.map Atom.s).length) (K H (.int ((xs.map Atom.s).idxOf (Atom.s x) : Nat)))
  rw [idxOf_inj atomS_inj, List.length_map]
  exact ⟨List.idxOf_lt_length_iff.mpr h, k⟩
/-- a loop over the numbers up to m -/
theorem Src.up {m : Nat} : Src H (.rng 0 m 1) (intsL (List.range m)) := by
  have e : ∀ (m : Nat) (a : Nat), (rngItems a 1 m).map AV.int = (List.range m).map fun (i : Nat) => AV.int ((a + i : Nat) : Int) := by
    intro m
    induction m with
    | zero => intro a; rfl
    | succ m ih =>
      intro a
      rw [List.range_succ_eq_map]
      show AV.int a :: (rngItems ((a : Int) + 1) 1 m).map AV.int = _
      rw [show ((a : Int) + 1) = ((a + 1 : Nat) : Int) from rfl, ih (a + 1), List.map_cons, List.map_map]
      congr 1
      refine List.map_congr_left fun i _ => ?_
      show AV.int ((a + 1 + i : Nat) : Int) = AV.int ((a + (i + 1) : Nat) : Int)
      rw [Nat.add_right_comm, Nat.add_assoc]
  have h := e m 0
  have hs : rngSize 0 m 1 = m := by show (if (1 : Int) = 1 then ((m : Int) - 0).toNat else _) = m; rw [if_pos rfl]; lia
  have h2 : (rngItems 0 1 (rngSize 0 m 1)).map AV.int = intsL (List.range m) := by
    rw [hs]; refine h.trans (List.map_congr_left fun i _ => ?_); rw [Nat.zero_add]
  rw [← h2]; exact .rng
theorem range_at {m i x : Nat} (h : (List.range m)[i]? = some x) : x = i ∧ i < m := by
  have := lt_of_get h
  rw [List.length_range] at this
  rw [List.getElem?_range this] at h
  exact ⟨(Option.some.inj h).symm, this⟩
end
end Mine.C
end
section
set_option autoImplicit false
set_option Elab.async false
set_option maxRecDepth 10000
namespace Mine.C
open PySem

/-! ## The grammar as it lies in the heap -/
set_option genSizeOf false in
structure GA where
  (g nm rl bl ofs ow : Nat)
  (rr br : List Nat)
  (lv u v : AV)
set_option genSizeOf false in
structure GD where
  names : List Nat
  tc : Nat
  R : List (Nat × List Nat)
  offs : List Nat
  own : List Nat
noncomputable section
def gramO (a : GA) (d : GD) : AO := .inst 1 [(7, .ref a.nm), (8, .int d.tc), (9, .ref a.rl), (10, a.lv), (11, a.u), (12, a.v), (13, .ref a.bl), (14, .ref a.ofs), (15, .ref a.ow), (16, .int d.own.length)]
def ruleO (k : Nat) (p : Nat × List Nat) (w : List (Nat × AV)) : AO := .inst 0 ((0, .int k) :: (1, .int p.1) :: (2, .tup (intsL p.2)) :: w)
def byL (R : List (Nat × List Nat)) (x : Nat) : List Nat := (List.range R.length).filter fun k => decide ((R[k]?).map (·.1) = some x)
end
/-- an object that is not the pen -/
def At (H : AH) (i : Nat) (o : AO) : Prop := H[i]? = some o ∧ i ≠ 1
theorem At.ext {H H' : AH} {i : Nat} {o : AO} (h : At H i o) (e : Ext H H') : At H' i o := ⟨e.get h.1, h.2⟩
theorem At.extP {H H' : AH} {i : Nat} {o : AO} (h : At H i o) (e : ExtP H H') : At H' i o := ⟨e.get h.1 h.2, h.2⟩
inductive RuleAt (H : AH) (rr : List Nat) (k : Nat) (p : Nat × List Nat) : Prop
  | mk {r : Nat} {w : List (Nat × AV)} (h1 : rr[k]? = some r) (h2 : At H r (ruleO k p w))
inductive ByAt (H : AH) (br : List Nat) (x : Nat) (l : List Nat) : Prop
  | mk {r : Nat} (h1 : br[x]? = some r) (h2 : At H r (.list (intsL l)))
structure GramAt (H : AH) (a : GA) (d : GD) : Prop where
  g : At H a.g (gramO a d)
  nm : At H a.nm (.list (strsL d.names))
  rl : At H a.rl (.list (refsL a.rr))
  rn : a.rr.length = d.R.length
  rule : ∀ k p, d.R[k]? = some p → RuleAt H a.rr k p
  bl : At H a.bl (.list (refsL a.br))
  bn : a.br.length = d.names.length
  byl : ∀ x, x < d.names.length → ByAt H a.br x (byL d.R x)
  ofs : At H a.ofs (.list (intsL d.offs))
  ow : At H a.ow (.list (intsL d.own))
theorem GramAt.extP {H H' : AH} {a : GA} {d : GD} (h : GramAt H a d) (e : ExtP H H') : GramAt H' a d :=
  ⟨h.g.extP e, h.nm.extP e, h.rl.extP e, h.rn, fun k p hp => let ⟨h1, h2⟩ := h.rule k p hp; ⟨h1, h2.extP e⟩, h.bl.extP e, h.bn, fun x hx => let ⟨h1, h2⟩ := h.byl x hx; ⟨h1, h2.extP e⟩, h.ofs.extP e, h.ow.extP e⟩
theorem GramAt.ext {H H' : AH} {a : GA} {d : GD} (h : GramAt H a d) (e : Ext H H') : GramAt H' a d := h.extP e.toP
/-- a place of an item: k its rule, o where the rule's items begin, p the rule -/
structure ItemAt (d : GD) (i k o : Nat) (p : Nat × List Nat) : Prop where
  ow : d.own[i]? = some k
  of : d.offs[k]? = some o
  r : d.R[k]? = some p
  lo : o ≤ i
  hi : i ≤ o + p.2.length
/-- what the reckoning needs of the grammar's numbers -/
structure GOk (d : GD) : Prop where
  n8 : d.names.length ≤ 8
  tcn : d.tc < d.names.length
  m5 : d.R.length ≤ 5
  left : ∀ p ∈ d.R, d.tc ≤ p.1 ∧ p.1 < d.names.length
  rlen : ∀ p ∈ d.R, p.2.length ≤ 3
  rsym : ∀ p ∈ d.R, ∀ x ∈ p.2, x < d.names.length
  on : d.offs.length = d.R.length
  o1 : ∀ (k : Nat) (p : Nat × List Nat) (o : Nat), d.R[k]? = some p → d.offs[k]? = some o → ∀ e, e ≤ p.2.length → d.own[o + e]? = some k
  o2 : ∀ (i k : Nat), d.own[i]? = some k → ∃ (o : Nat) (p : Nat × List Nat), ItemAt d i k o p
  o19 : d.own.length ≤ 19
noncomputable def afterV (p : Nat × List Nat) (e : Nat) : AV := match p.2[e]? with | some x => .int x | none => .int (-1)

section
variable {H : AH} {K : AH → AV → Prop} {X Y : Prop} {x y : Nat}
theorem subN (h : y ≤ x) (k : K H (.int (x - y : Nat))) : binW H K .Sub (.int x) (.int y) := by
  rw [Int.ofNat_sub h] at k; exact k
theorem br.ltN (p : x < y → X) (q : ¬ x < y → Y) : br (decide ((x : Int) < (y : Int))) X Y := br.dec (fun h => p (Int.ofNat_lt.mp h)) fun h => q fun h' => h (Int.ofNat_lt.mpr h')
theorem br.ltL {xs : List Nat} (p : x < xs.length → X) (q : ¬ x < xs.length → Y) : br (decide ((x : Int) < ((intsL xs).length : Nat))) X Y := br.ltN (fun h => p (ints_len ▸ h)) fun h => q (ints_len ▸ h)
end
section
variable {H : AH} {a : GA} {d : GD} {n : Nat} {K : AH → AV → Prop}
theorem count_ok (hg : GramAt H a d) (q : K H (.int d.names.length)) : Cw (mi theFn (n + 10)) (.fn 3) [.ref a.g] H K :=
  fnM theFn_3 (Lk.mk hg.g.1 (Lk.mk hg.nm.1 (by
    show K H (.int (strsL d.names).length)
    rw [List.length_map]; exact q)))
theorem isTerm_ok (hg : GramAt H a d) {x : Nat} (q : K H (.bool (decide ((x : Int) < d.tc)))) : Cw (mi theFn (n + 10)) (.fn 4) [.ref a.g, .int x] H K :=
  fnM theFn_4 (Lk.mk hg.g.1 q)
theorem number_ok (hg : GramAt H a d) {x : Nat} (hx : x ∈ d.names) (q : K H (.int (d.names.idxOf x))) : Cw (mi theFn (n + 10)) (.fn 5) [.ref a.g, .str x] H K :=
  fnM theFn_5 (Lk.mk hg.g.1 (Lk.mk hg.nm.1 (in_strs (br.pos hx (Lk.mk hg.g.1 (Lk.mk hg.nm.1 (Lk.mk hg.nm.1 (idx_strs hx q))))))))
theorem rulesOf_ok (hg : GramAt H a d) {x : Nat} (hx : x < d.names.length) (q : K (H ++ [.list (intsL (byL d.R x))]) (.ref H.length)) : Cw (mi theFn (n + 10)) (.fn 6) [.ref a.g, .int x] H K :=
  let ⟨h1, h2⟩ := hg.byl x hx
  fnM theFn_6 (Lk.mk hg.g.1 (Lk.mk hg.bl.1 (okW.mk (refs_at h1) (Lk.mk h2.1 q))))
theorem item_ok (hg : GramAt H a d) {k e o : Nat} (ho : d.offs[k]? = some o) (q : K H (.int (o + e : Nat))) : Cw (mi theFn (n + 10)) (.fn 7) [.ref a.g, .int k, .int e] H K :=
  fnM theFn_7 (Lk.mk hg.g.1 (Lk.mk hg.ofs.1 (okW.mk (ints_at ho) q)))
theorem ruleOf_ok (hg : GramAt H a d) {i k : Nat} (ho : d.own[i]? = some k) (q : K H (.int k)) : Cw (mi theFn (n + 10)) (.fn 8) [.ref a.g, .int i] H K :=
  fnM theFn_8 (Lk.mk hg.g.1 (Lk.mk hg.ow.1 (okW.mk (ints_at ho) q)))
theorem dotOf_ok (hg : GramAt H a d) {i k o : Nat} {p : Nat × List Nat} (h : ItemAt d i k o p) (q : K H (.int (i - o : Nat))) : Cw (mi theFn (n + 10)) (.fn 9) [.ref a.g, .int i] H K :=
  fnM theFn_9 (Lk.mk hg.g.1 (Lk.mk hg.g.1 (Lk.mk hg.ow.1 (okW.mk (ints_at h.ow) (Lk.mk hg.ofs.1 (okW.mk (ints_at h.of) (by
    rw [Int.ofNat_sub h.lo] at q; exact q)))))))
theorem after_ok (hg : GramAt H a d) {i k o : Nat} {p : Nat × List Nat} (h : ItemAt d i k o p) (q : K H (afterV p (i - o))) : Cw (mi theFn (n + 10)) (.fn 10) [.ref a.g, .int i] H K := by
  obtain ⟨h1, h2⟩ := hg.rule k p h.r
  have w1 := ints_at h.ow
  have w2 := ints_at h.of
  have w3 := refs_at h1
  have h2 := h2.1
  refine fnM theFn_10 <| Lk.mk hg.g.1 <| Lk.mk hg.g.1 <| Lk.mk hg.ow.1 <| okW.mk w1 <| Lk.mk hg.rl.1 <| okW.mk w3 <| Lk.mk h2 <| Lk.mk hg.g.1 <| Lk.mk hg.g.1 <| Lk.mk hg.ow.1 <| okW.mk w1 <| Lk.mk hg.ofs.1 <| okW.mk w2 <| subN h.lo (br.ltL (fun hlt => ?_) fun hge => ?_)
  · obtain ⟨x, hx⟩ := get_ex hlt
    have e : afterV p (i - o) = .int x := by unfold afterV; rw [hx]
    rw [e] at q
    exact okW.mk (ints_at hx) q
  · have e : afterV p (i - o) = .int (-1) := by unfold afterV; rw [List.getElem?_eq_none (Nat.le_of_not_lt hge)]
    rw [e] at q
    exact q
end
end Mine.C
end
section
set_option autoImplicit false
set_option Elab.async false
set_option maxRecDepth 10000
namespace Mine.C
open PySem

section
variable {H : AH} {K : AH → AV → Prop} {c a : Nat} {fs : List (Nat × AV)} {v : AV} {G : AH → Prop} {n : Nat}
/-- a store in the newest object -/
theorem saNew (h1 : (fieldsOf c).contains a = true) (h2 : decide (fs.length < 40) = true) (k : G (H ++ [.inst c (putKV fs a v)])) : setAttrW (.ref H.length) a v (H ++ [.inst c fs]) G := by
  refine Lk.mk look_new ?_
  show cdW ((fieldsOf c).contains a) _
  rw [h1]
  show cdW (decide (fs.length < 40)) _
  rw [h2]
  show G ((H ++ [_]).set H.length _)
  rw [set_new]; exact k
theorem clsM {F : Nat → Option Fn} {c k : Nat} {args : List AV} (h : initFn c = some k) (hb : Cw (mi F n) (.fn k) (.ref H.length :: args) (H ++ [.inst c []]) (noneK H.length K)) : Cw (mi F (n + 1)) (.cls c) args H K := ⟨okW.mk h hb⟩
theorem newRule {k l : Nat} {r : List Nat} {z : Int} (q : K (H ++ [ruleO k (l, r) [(3, .int z), (4, .none), (5, .int 0), (6, .int 0)]]) (.ref H.length)) :
    Cw (mi theFn (n + 20)) (.cls 0) [.int k, .int l, .tup (intsL r), .int z] H K :=
  clsM rfl <| fnM theFn_1 (saNew rfl rfl (saNew rfl rfl (saNew rfl rfl (saNew rfl rfl (saNew rfl rfl (saNew rfl rfl (saNew rfl rfl q)))))))

/-- a list of empty lists -/
inductive LiI (H : AH) (i : Nat) (H' : AH) : Prop
  | mk {rs : List Nat} (e : Ext H H') (g : H'[H.length]? = some (.list (refsL rs))) (n : rs.length = i) (d : rs.Nodup) (m : ∀ r ∈ rs, H.length < r ∧ H'[r]? = some (.list []))
theorem comp_lists {it : It} {xs : List AV} (hs : ∀ H', Ext H H' → Src H' it xs) {ρ : Ro} (hw : xs.length ≤ 60)
    (k : ∀ H', LiI H xs.length H' → K H' (.ref H.length)) : CpW (mi theFn (n + 1)) (.lst []) [1] true [] H.length K it (none :: none :: ρ) (H ++ [.list []]) := by
  refine CpW.mk (σ := Option AV) (fun u => none :: u :: ρ) (fun i _ H' => LiI H i H') (fun i _ H' h => let ⟨e, _, _, _, _⟩ := h; hs H' e) (fun i x u H' hx h => ?_) (fun _ H' h => k H' h) (s := none) ⟨.app, look_new, rfl, .nil, fun _ q => nomatch q⟩
  obtain ⟨e, g, n, d, m⟩ := h
  have hl := lt_of_get g
  have hi := lt_of_get hx
  refine okW.mk (a := none :: some x :: ρ) rfl (Lk.mk (get_new g) ⟨?_, AtI.mk (r := fun u => none :: u :: ρ) (s := some x) ⟨e.new.set (Nat.le_refl _), get_set_self (get_new g) |>.trans ?_, ?_, nodup_snoc d fun q => Nat.lt_irrefl _ (lt_of_get (m _ q).2), fun r hr => ?_⟩⟩)
  · rw [List.length_map, n]; exact lidL (Nat.le_trans (Nat.le_of_lt hi) hw)
  · exact congrArg _ (congrArg _ (refs_app (ys := [_])))
  · rw [List.length_append, n]; rfl
  · rcases List.mem_append.mp hr with hr | hr
    · exact ⟨(m r hr).1, get_set (get_new (m r hr).2) (Nat.ne_of_lt (m r hr).1)⟩
    · have hr := List.mem_singleton.mp hr
      exact ⟨hr ▸ hl, get_set (hr ▸ look_new) (Nat.ne_of_lt (hr ▸ hl))⟩
end
end Mine.C
end
section
set_option autoImplicit false
set_option Elab.async false
set_option maxRecDepth 10000
namespace Mine.C
open PySem

noncomputable section
def byLi (R : List (Nat × List Nat)) (i x : Nat) : List Nat := (List.range i).filter fun k => decide ((R[k]?).map (·.1) = some x)
def lenSum (R : List (Nat × List Nat)) (i : Nat) : Nat := ((R.take i).map fun p => p.2.length + 1).sum
end
theorem byLi_pos {R : List (Nat × List Nat)} {i : Nat} {p : Nat × List Nat} (h : R[i]? = some p) : byLi R (i + 1) p.1 = byLi R i p.1 ++ [i] := by
  unfold byLi
  rw [List.range_succ, List.filter_append, List.filter_cons_of_pos (by rw [h]; exact decide_eq_true rfl)]; rfl
theorem byLi_neg {R : List (Nat × List Nat)} {i x : Nat} {p : Nat × List Nat} (h : R[i]? = some p) (e : p.1 ≠ x) : byLi R (i + 1) x = byLi R i x := by
  unfold byLi
  rw [List.range_succ, List.filter_append, List.filter_cons_of_neg (by rw [h]; exact fun q => e (Option.some.inj (of_decide_eq_true q)))]
  exact List.append_nil _
theorem byLi_len {R : List (Nat × List Nat)} {i x : Nat} : (byLi R i x).length ≤ i := Nat.le_trans (List.length_filter_le _ _) (Nat.le_of_eq List.length_range)
theorem lenSum_succ {R : List (Nat × List Nat)} {i : Nat} {p : Nat × List Nat} (h : R[i]? = some p) : lenSum R (i + 1) = lenSum R i + (p.2.length + 1) := by
  unfold lenSum
  rw [take_succ_get h, List.map_append, List.sum_append]
  rfl
theorem lenSum_le {R : List (Nat × List Nat)} (h : ∀ p ∈ R, p.2.length ≤ 3) : ∀ i, lenSum R i ≤ 4 * i
  | 0 => Nat.le_refl _
  | i + 1 => by
    have ih := lenSum_le h i
    cases hp : R[i]? with
    | none =>
      have hl := List.getElem?_eq_none_iff.mp hp
      have : lenSum R (i + 1) = lenSum R i := by
        unfold lenSum; rw [take_all hl, take_all (Nat.le_succ_of_le hl)]
      lia
    | some p =>
      rw [lenSum_succ hp]
      have := h p (mem_of hp)
      lia
theorem lenSum_mono {R : List (Nat × List Nat)} {i : Nat} {p : Nat × List Nat} (h : ∀ p ∈ R, p.2.length ≤ 3) (m5 : R.length ≤ 5) (hp : R[i]? = some p) : lenSum R i + (p.2.length + 1) ≤ 60 := by
  have := lenSum_le h i
  have := h p (mem_of hp)
  have := lt_of_get hp
  lia

/-- where the parts of the new grammar lie -/
structure GiF (H : AH) (g bl o w : Nat) (br : List Nat) : Prop where
  fw : o < w
  fg : H.length ≤ g
  fb : g < bl
  fo : bl < o
  fr : ∀ r ∈ br, bl < r ∧ r < o
  nd : br.Nodup
inductive GiI (H : AH) (g bl o w : Nat) (br : List Nat) (R : List (Nat × List Nat)) (ob : AO) (i : Nat) (H' : AH) : Prop
  | mk {offs own : List Nat} (e : Ext H H') (hg : H'[g]? = some ob) (hb : H'[bl]? = some (.list (refsL br))) (hx : ∀ (x r : Nat), br[x]? = some r → H'[r]? = some (.list (intsL (byLi R i x))))
    (ho : H'[o]? = some (.list (intsL offs))) (hw : H'[w]? = some (.list (intsL own))) (hn : offs.length = i) (hl : own.length = lenSum R i)
    (o1 : ∀ (k : Nat) (p : Nat × List Nat) (o : Nat), R[k]? = some p → offs[k]? = some o → ∀ e, e ≤ p.2.length → own[o + e]? = some k)
    (o2 : ∀ (i k : Nat), own[i]? = some k → ∃ (o : Nat) (p : Nat × List Nat), offs[k]? = some o ∧ R[k]? = some p ∧ o ≤ i ∧ i ≤ o + p.2.length)
theorem GiI.step {H H' : AH} {g bl o w b i : Nat} {br : List Nat} {R : List (Nat × List Nat)} {ob : AO} {p : Nat × List Nat} {A B : AO} (f : GiF H g bl o w br) (hi : R[i]? = some p) (hb' : br[p.1]? = some b) {offs own : List Nat}
    (e : Ext H H') (hg : H'[g]? = some ob) (hb : H'[bl]? = some (.list (refsL br))) (hx : ∀ (x r : Nat), br[x]? = some r → H'[r]? = some (.list (intsL (byLi R i x))))
    (ho : H'[o]? = some (.list (intsL offs))) (hw : H'[w]? = some (.list (intsL own))) (hn : offs.length = i) (hl : own.length = lenSum R i)
    (o1 : ∀ (k : Nat) (p : Nat × List Nat) (o : Nat), R[k]? = some p → offs[k]? = some o → ∀ e, e ≤ p.2.length → own[o + e]? = some k)
    (o2 : ∀ (i k : Nat), own[i]? = some k → ∃ (o : Nat) (p : Nat × List Nat), offs[k]? = some o ∧ R[k]? = some p ∧ o ≤ i ∧ i ≤ o + p.2.length) :
    GiI H g bl o w br R ob (i + 1) (((((H'.set b (.list (intsL (byLi R i p.1) ++ [.int i]))).set o (.list (intsL offs ++ [.int own.length]))) ++ [A]) ++ [B]).set w (.list (intsL own ++ List.replicate (p.2.length + 1) (.int i)))) := by
  have hbm := f.fr b (mem_of hb')
  have hgb := Nat.lt_trans f.fb hbm.1
  have hgo := Nat.lt_trans f.fb f.fo
  have keep : ∀ {j : Nat} {x : AO}, H'[j]? = some x → b ≠ j → o ≠ j → w ≠ j → (((((H'.set b (.list (intsL (byLi R i p.1) ++ [.int i]))).set o (.list (intsL offs ++ [.int own.length]))) ++ [A]) ++ [B]).set w (.list (intsL own ++ List.replicate (p.2.length + 1) (.int i))))[j]? = some x :=
    fun h n1 n2 n3 => get_set (get_new (get_new (get_set (get_set h n1) n2))) n3
  have hHo : H.length ≤ o := Nat.le_trans f.fg (Nat.le_of_lt hgo)
  refine GiI.mk (offs := offs ++ [own.length]) (own := own ++ List.replicate (p.2.length + 1) i) ((((e.set (Nat.le_trans f.fg (Nat.le_of_lt hgb))).set hHo).new.new).set (Nat.le_trans hHo (Nat.le_of_lt f.fw))) (keep hg (Nat.ne_of_gt hgb) (Nat.ne_of_gt hgo) (Nat.ne_of_gt (Nat.lt_trans hgo f.fw)))
    (keep hb (Nat.ne_of_gt hbm.1) (Nat.ne_of_gt f.fo) (Nat.ne_of_gt (Nat.lt_trans f.fo f.fw))) (fun x r hr => ?_) (get_set (get_new (get_new (get_set_self (get_set ho (Nat.ne_of_lt hbm.2))) )) (Nat.ne_of_gt f.fw) |>.trans ?_)
    (get_set_self (get_new (get_new (get_set (get_set hw (Nat.ne_of_lt (Nat.lt_trans hbm.2 f.fw))) (Nat.ne_of_lt f.fw)))) |>.trans ?_) ?_ ?_ (fun k' p' o' hk ho' e' he => ?_) fun i' k' hi' => ?_
  · by_cases q : p.1 = x
    · subst q
      have : b = r := Option.some.inj (hb'.symm.trans hr)
      subst this
      rw [byLi_pos hi, ← ints_app]
      exact get_set (get_new (get_new (get_set (get_set_self (hx _ _ hb')) (Nat.ne_of_gt hbm.2)))) (Nat.ne_of_gt (Nat.lt_trans hbm.2 f.fw))
    · have hrm := f.fr r (mem_of hr)
      rw [byLi_neg hi q]
      exact keep (hx x r hr) (fun z => q (nodup_get f.nd hb' (z ▸ hr))) (Nat.ne_of_gt hrm.2) (Nat.ne_of_gt (Nat.lt_trans hrm.2 f.fw))
  · exact congrArg _ (congrArg _ (ints_app (ys := [_])))
  · rw [← ints_app]; exact congrArg _ (congrArg _ (congrArg _ (List.map_replicate (f := fun (i : Nat) => AV.int i)).symm))
  · rw [List.length_append, hn]; rfl
  · rw [List.length_append, List.length_replicate, hl, lenSum_succ hi]
  · by_cases q : k' < offs.length
    · exact get_new' (o1 k' p' o' hk (List.getElem?_append_left q ▸ ho') e' he)
    · have hk2 := lt_of_get ho'
      rw [List.length_append] at hk2
      have : k' = offs.length := Nat.le_antisymm (Nat.le_of_lt_succ hk2) (Nat.le_of_not_lt q)
      subst this
      rw [hn, hi] at hk
      cases hk
      rw [List.getElem?_append_right (Nat.le_refl _), Nat.sub_self] at ho'
      cases ho'
      rw [List.getElem?_append_right (Nat.le_add_right _ _), Nat.add_sub_cancel_left, List.getElem?_replicate, if_pos (Nat.lt_succ_of_le he), hn]
  · by_cases q : i' < own.length
    · rw [List.getElem?_append_left q] at hi'
      obtain ⟨o', p', h1, h2, h3, h4⟩ := o2 i' k' hi'
      exact ⟨o', p', get_new' h1, h2, h3, h4⟩
    · have q := Nat.le_of_not_lt q
      rw [List.getElem?_append_right q, List.getElem?_replicate] at hi'
      by_cases q2 : i' - own.length < p.2.length + 1
      · rw [if_pos q2] at hi'
        cases hi'
        exact ⟨own.length, p, by rw [List.getElem?_append_right (Nat.le_of_eq hn), hn, Nat.sub_self]; rfl, hi, q, by lia⟩
      · rw [if_neg q2] at hi'; cases hi'

section
variable {H : AH} {K : AH → AV → Prop} {n : Nat}
/-- what a store in an object leaves, m objects being new -/
structure SaF (H : AH) (n : Nat) (o : AO) (m : Nat) (H' : AH) : Prop where
  len : H'.length = H.length + m
  at_ : H'[n]? = some o
  old : ∀ (i : Nat) (x : AO), n ≠ i → H[i]? = some x → H'[i]? = some x
  ext : ∀ H0 : AH, Ext H0 H → H0.length ≤ n → Ext H0 H'
theorem saAt {H : AH} {c a n : Nat} {fs : List (Nat × AV)} {v : AV} {G : AH → Prop} (h : H[n]? = some (.inst c fs)) (h1 : (fieldsOf c).contains a = true) (h2 : decide (fs.length < 40) = true) (k : G (H.set n (.inst c (putKV fs a v)))) : setAttrW (.ref n) a v H G := by
  refine Lk.mk h ?_
  show cdW ((fieldsOf c).contains a) _
  rw [h1]
  show cdW (decide (fs.length < 40)) _
  rw [h2]
  exact k
theorem saV {H : AH} {c a n : Nat} {fs : List (Nat × AV)} {v : AV} {G : AH → Prop} (h : H[n]? = some (.inst c fs)) (h1 : (fieldsOf c).contains a = true) (h2 : decide (fs.length < 40) = true) (k : ∀ H', SaF H n (.inst c (putKV fs a v)) 0 H' → G H') : setAttrW (.ref n) a v H G :=
  saAt h h1 h2 (k _ ⟨List.length_set, get_set_self h, fun _ _ q e => get_set e q, fun _ e q => e.set q⟩)
/-- an empty list, stored in an object -/
theorem saL {H : AH} {c a n : Nat} {fs : List (Nat × AV)} {G : AH → Prop} (h : H[n]? = some (.inst c fs)) (h1 : (fieldsOf c).contains a = true) (h2 : decide (fs.length < 40) = true) (k : ∀ H', SaF H n (.inst c (putKV fs a (.ref H.length))) 1 H' → H'[H.length]? = some (.list []) → G H') : setAttrW (.ref n) a (.ref H.length) (H ++ [.list []]) G :=
  saAt (get_new h) h1 h2 (k _ ⟨by rw [List.length_set, len_new], get_set_self (get_new h), fun _ _ q e => get_set (get_new e) q, fun _ e q => e.new.set q⟩ (get_set look_new (Nat.ne_of_lt (lt_of_get h))))
theorem gramInit_ok {nm rl tc st : Nat} {names rr : List Nat} {R : List (Nat × List Nat)} {lv : AV}
    (h2 : 2 ≤ H.length) (hnm : At H nm (.list (strsL names))) (hrl : At H rl (.list (refsL rr))) (hrn : rr.length = R.length) (hru : ∀ k p, R[k]? = some p → RuleAt H rr k p)
    (n8 : names.length ≤ 8) (tcn : tc < names.length) (m5 : R.length ≤ 5) (hleft : ∀ p ∈ R, tc ≤ p.1 ∧ p.1 < names.length) (rlen : ∀ p ∈ R, p.2.length ≤ 3) (rsym : ∀ p ∈ R, ∀ x ∈ p.2, x < names.length) (o19 : lenSum R R.length ≤ 19)
    (q : ∀ H' a d, Ext H H' → d.names = names → d.tc = tc → d.R = R → GramAt H' a d → GOk d → K H' (.ref a.g)) :
    Cw (mi theFn (n + 40)) (.cls 1) [.ref nm, .int tc, .ref rl, lv, .none, .int st] H K := by
  have hnm1 := hnm.1
  refine clsM rfl <| fnM theFn_2 (saNew rfl rfl (saNew rfl rfl (saNew rfl rfl (saNew rfl rfl (saNew rfl rfl (saNew rfl rfl ?_))))))
  refine Lk.mk look_new (Lk.mk (get_new hnm1) ?_)
  refine comp_lists (it := .lst nm) (fun H' e => .lst ((Ext.app.trans e).get hnm1)) (by rw [List.length_map]; exact Nat.le_trans n8 (by decide)) fun H₁ h₁ => ?_
  obtain ⟨e₁, hbl, hbn, hnd, hbr⟩ := h₁
  rename_i br
  rw [List.length_map] at hbn
  have e₂ : Ext H H₁ := Ext.app.trans e₁
  have hg₁ : H₁[H.length]? = some (.inst 1 [(7, .ref nm), (8, .int tc), (9, .ref rl), (10, lv), (11, .none), (12, .int st)]) := e₁.get look_new
  rw [len_new] at hbl hbr ⊢
  have l2 : H.length + 1 < H₁.length := lt_of_get hbl
  refine saV hg₁ rfl rfl fun H₂ s₂ => saL s₂.at_ rfl rfl fun H₃ s₃ n₃ => saL s₃.at_ rfl rfl fun H₄ s₄ n₄ => ?_
  have hg₄ : H₄[H.length]? = some (.inst 1 [(7, .ref nm), (8, .int tc), (9, .ref rl), (10, lv), (11, .none), (12, .int st), (13, .ref (H.length + 1)), (14, .ref H₂.length), (15, .ref H₃.length)]) := s₄.at_
  have hle : H.length ≤ H.length := Nat.le_refl _
  have e₄ : Ext H H₄ := s₄.ext H (s₃.ext H (s₂.ext H e₂ hle) hle) hle
  have keep : ∀ (i : Nat) (x : AO), H.length ≠ i → H₁[i]? = some x → H₄[i]? = some x := fun i x q h => s₄.old i x q (s₃.old i x q (s₂.old i x q h))
  have l₂ : H₂.length = H₁.length := s₂.len
  have l₃ : H₃.length = H₂.length + 1 := s₃.len
  have f : GiF H H.length (H.length + 1) H₂.length H₃.length br := ⟨l₃ ▸ Nat.lt_succ_self _, hle, Nat.lt_succ_self _, l₂ ▸ l2, fun r hr => ⟨(hbr r hr).1, l₂ ▸ lt_of_get (hbr r hr).2⟩, hnd⟩
  refine Lk.mk hg₄ (Lk.mk (e₄.get hrl.1) ?_)
  refine ForW.mk (xs := refsL rr) (σ := Option AV) (fun u => [some (.ref H.length), some (.ref nm), some (.int tc), some (.ref rl), some lv, some .none, some (.int st), u]) (fun i _ H' => GiI H H.length (H.length + 1) H₂.length H₃.length br R (.inst 1 [(7, .ref nm), (8, .int tc), (9, .ref rl), (10, lv), (11, .none), (12, .int st), (13, .ref (H.length + 1)), (14, .ref H₂.length), (15, .ref H₃.length)]) i H')
    (fun i _ H' h => ?_) (fun i x u H' hx h => ?_) (fun u H' h => ?_) (s := none) ?_
  · obtain ⟨e, _, _, _, _, _, _, _, _, _⟩ := h
    exact .lst (e.get hrl.1)
  · obtain ⟨p, hp⟩ := get_ex (l := R) (i := i) (by rw [← hrn, ← List.length_map (as := rr)]; exact lt_of_get hx)
    obtain ⟨hr1, hr2⟩ := hru i p hp
    cases (refs_at hr1).symm.trans hx
    have hpm := mem_of hp
    obtain ⟨b, hb⟩ := get_ex (l := br) (i := p.1) (by rw [hbn]; exact (hleft p hpm).2)
    obtain ⟨e, hg, hbl', hx', ho, hw, hn, hl, o1, o2⟩ := h
    rename_i offs own
    have hbm := f.fr b (mem_of hb)
    have hi := lt_of_get hp
    have hL := lenSum_mono rlen m5 hp
    have hxb := hx' _ _ hb
    have nr := Nat.lt_of_lt_of_le (lt_of_get hr2.1) f.fg
    have hr2 := e.get hr2.1
    have nb := Nat.ne_of_gt (Nat.lt_trans f.fb hbm.1)
    have no := Nat.ne_of_gt (Nat.lt_trans f.fb f.fo)
    have now := Nat.ne_of_lt f.fw
    have nbo := Nat.ne_of_lt hbm.2
    have nbw := Nat.ne_of_lt (Nat.lt_trans hbm.2 f.fw)
    have nrb := Nat.ne_of_gt (Nat.lt_trans nr (Nat.lt_trans f.fb hbm.1))
    have nro := Nat.ne_of_gt (Nat.lt_trans nr (Nat.lt_trans f.fb f.fo))
    have h60 : i ≤ 60 := Nat.le_trans (Nat.le_of_lt (Nat.lt_of_lt_of_le hi m5)) (by decide)
    have h4 := refs_at hb
    refine okW.mk rfl ?_
    repeat first | refine Lk.mk (by assumption) ?_ | refine okW.mk (by assumption) ?_
    refine ⟨by rw [ints_len]; exact Nat.lt_of_le_of_lt byLi_len (lidL h60), ?_⟩
    refine Lk.mk (get_set hg nb) (Lk.mk (get_set ho nbo) (Lk.mk (get_set hg nb) (Lk.mk (get_set hw nbw) (Lk.mk (get_set ho nbo) ⟨by rw [ints_len, hn]; exact lidL h60, ?_⟩))))
    refine Lk.mk (get_set (get_set hg nb) no) (Lk.mk (get_set (get_set hw nbw) now) (Lk.mk (get_set (get_set hr2 nrb) nro) (Lk.mk (get_new (get_set (get_set hr2 nrb) nro)) (Lk.mk look_new ⟨?_, Lk.mk (get_new (get_new (get_set (get_set hw nbw) now))) (Lk.mk look_new ⟨⟨?_, ?_⟩, AtI.mk (r := fun u => [some (.ref H.length), some (.ref nm), some (.int tc), some (.ref rl), some lv, some .none, some (.int st), u]) ?_⟩)⟩))))
    · rw [ints_len]; exact lidE (Nat.le_trans (Nat.le_add_left _ _) hL)
    · rw [ints_len, List.length_replicate, ints_len, hl]; exact lidE hL
    · rw [len_new, List.length_set, List.length_set]
      exact Nat.ne_of_lt (Nat.lt_succ_of_lt (lt_of_get hw))
    · have z := GiI.step (A := .list [.int i]) (B := .list (List.replicate (p.2.length + 1) (.int i))) f hp hb e hg hbl' hx' ho hw hn hl o1 o2
      rw [← ints_len (xs := own), ← ints_len (xs := p.2)] at z
      exact z
  · obtain ⟨e, hg, hbl', hx', ho, hw, hn, hl, o1, o2⟩ := h
    rename_i offs own
    have hll : (refsL rr).length = R.length := (List.length_map ..).trans hrn
    rw [hll] at hx' hn hl
    refine Lk.mk hg (Lk.mk hw (saV hg rfl rfl fun H₅ s₅ => ?_))
    have e₅ := s₅.ext H e hle
    have nlt : ∀ {j : Nat}, H.length < j → j ≠ 1 := fun h => Nat.ne_of_gt (Nat.lt_of_lt_of_le h2 (Nat.le_of_lt h))
    have nb := Nat.ne_of_lt f.fb
    have go := Nat.lt_trans f.fb f.fo
    have gw := Nat.lt_trans go f.fw
    refine q H₅ ⟨H.length, nm, rl, H.length + 1, H₂.length, H₃.length, rr, br, lv, .none, .int st⟩ ⟨names, tc, R, offs, own⟩ e₅ rfl rfl rfl ?_ ⟨n8, tcn, m5, hleft, rlen, rsym, hn, o1, fun i k h => ?_, hl ▸ o19⟩
    · have hg5 := s₅.at_
      rw [ints_len] at hg5
      exact ⟨⟨hg5, Nat.ne_of_gt h2⟩, hnm.ext e₅, hrl.ext e₅, hrn, fun k p hk => let ⟨a, b⟩ := hru k p hk; ⟨a, b.ext e₅⟩, ⟨s₅.old _ _ nb hbl', nlt f.fb⟩, hbn, fun x hx =>
        let ⟨r, hr⟩ := get_ex (l := br) (i := x) (by rw [hbn]; exact hx); ⟨hr, s₅.old _ _ (Nat.ne_of_lt (Nat.lt_trans f.fb (f.fr r (mem_of hr)).1)) (hx' x r hr), nlt (Nat.lt_trans f.fb (f.fr r (mem_of hr)).1)⟩,
        ⟨s₅.old _ _ (Nat.ne_of_lt go) ho, nlt go⟩, ⟨s₅.old _ _ (Nat.ne_of_lt gw) hw, nlt gw⟩⟩
    · obtain ⟨o, p, h1, h2, h3, h4⟩ := o2 i k h
      exact ⟨o, p, h, h1, h2, h3, h4⟩
  · exact GiI.mk (offs := []) (own := []) e₄ hg₄ (keep _ _ (Nat.ne_of_lt (Nat.lt_succ_self _)) hbl) (fun x r hr => keep _ _ (Nat.ne_of_lt (Nat.lt_trans (Nat.lt_succ_self _) (hbr r (mem_of hr)).1)) (hbr r (mem_of hr)).2)
      (s₄.old _ _ (l₂ ▸ Nat.ne_of_lt (Nat.lt_of_succ_lt l2)) n₃) n₄ rfl rfl (fun _ _ _ _ q => by rw [List.getElem?_nil] at q; cases q) (fun _ _ q => by rw [List.getElem?_nil] at q; cases q)
end
end Mine.C
end
section
set_option autoImplicit false
set_option Elab.async false
set_option maxRecDepth 10000
namespace Mine.C
open PySem

abbrev oS (k : Nat) : Option AV := some (.str k)
abbrev oI (i : Int) : Option AV := some (.int i)
abbrev oT (xs : List AV) : Option AV := some (.tup xs)
abbrev oR (n : Nat) : Option AV := some (.ref n)
section
variable {H : AH} {K : AH → AV → Prop} {n : Nat}
theorem lastTerm_ok {xs : List Nat} {t : Nat} (q : ∀ z : Int, K H (.int z)) : Cw (mi theFn (n + 20)) (.fn 11) [.tup (intsL xs), .int t] H K := by
  refine fnM theFn_11 (ForW.mk (σ := Int × Option AV) (fun s => [some (.tup (intsL xs)), some (.int t), some (.int s.1), s.2]) (fun _ _ H' => H' = H) (fun _ _ _ _ => .tup) (fun i x s H' hx h => ?_) (fun s H' h => by rw [h]; exact q s.1) (s := (-1, none)) rfl)
  refine map_get hx fun x _ => ?_
  refine okW.mk rfl (br.dec (fun _ => ?_) fun _ => ?_)
  · exact AtI.mk (σ := Int × Option AV) (s := (x, some (.int x))) h
  · exact AtI.mk (σ := Int × Option AV) (s := (s.1, some (.int x))) h

/-- a comprehension over a list that changes nothing else: what each element gives -/
theorem comp_map {W : MI} {it : It} {xs : List AV} {elt : ME} {ρ : Ro} (f : AV → AV) (hs : ∀ ys, Src (H ++ [.list ys]) it xs) (hw : xs.length ≤ 60)
    (he : ∀ x, x ∈ xs → ∀ ys (F : AH → AV → Prop), F (H ++ [.list ys]) (f x) → W.ev elt (none :: some x :: ρ) (H ++ [.list ys]) F)
    (k : K (H ++ [.list (xs.map f)]) (.ref H.length)) : CpW W elt [1] true [] H.length K it (none :: none :: ρ) (H ++ [.list []]) := by
  refine CpW.mk (σ := Option AV) (fun u => none :: u :: ρ) (fun i _ H' => H' = H ++ [.list ((xs.take i).map f)]) (fun i _ H' h => h ▸ hs _) (fun i x u H' hx h => ?_) (fun _ H' h => ?_) (s := none) rfl
  · subst h
    refine okW.mk (a := none :: some x :: ρ) rfl (he x (mem_of hx) _ _ (Lk.mk look_new ⟨?_, AtI.mk (r := fun u => none :: u :: ρ) (s := some x) ?_⟩))
    · rw [List.length_map, List.length_take]
      exact lidL (Nat.le_trans (Nat.min_le_right _ _) hw)
    · rw [set_new, take_succ_get hx, List.map_append]; rfl
  · subst h
    rw [take_all (Nat.le_refl _)]; exact k
end
end Mine.C
end
section
set_option autoImplicit false
set_option Elab.async false
set_option maxRecDepth 10000
namespace Mine.C
open PySem

/-! ## plain_grammar -/
inductive PairAt (H : AH) (prs : List AV) (k : Nat) (p : Nat × List Nat) : Prop
  | mk {r : Nat} (h1 : prs[k]? = some (.tup [.str p.1, .ref r])) (h2 : At H r (.list (strsL p.2)))
/-- a list of pairs (left, [names]) as it lies in the heap -/
structure PairsL (H : AH) (prs : List AV) (pairs : List (Nat × List Nat)) : Prop where
  len : prs.length = pairs.length
  at_ : ∀ (k : Nat) (p : Nat × List Nat), pairs[k]? = some p → PairAt H prs k p
theorem PairsL.extP {H H' : AH} {prs : List AV} {pairs : List (Nat × List Nat)} (h : PairsL H prs pairs) (e : ExtP H H') : PairsL H' prs pairs :=
  ⟨h.len, fun k p hp => let ⟨h1, h2⟩ := h.at_ k p hp; ⟨h1, h2.extP e⟩⟩
@[elab_as_elim] theorem PairsL.el {H : AH} {prs : List AV} {pairs : List (Nat × List Nat)} {k : Nat} {x : AV} {P : AV → Prop} (hx : prs[k]? = some x) (h : PairsL H prs pairs) (q : ∀ p r, pairs[k]? = some p → At H r (.list (strsL p.2)) → P (.tup [.str p.1, .ref r])) : P x := by
  obtain ⟨p, hp⟩ := get_ex (l := pairs) (i := k) (h.len ▸ lt_of_get hx)
  obtain ⟨h1, h2⟩ := h.at_ k p hp
  cases hx.symm.trans h1
  exact q p _ hp h2
noncomputable section
def addNew (acc : List Nat) (x : Nat) : List Nat := if x ∈ acc then acc else acc ++ [x]
def leftsI (pairs : List (Nat × List Nat)) (i : Nat) : List Nat := ((pairs.take i).map (·.1)).foldl addNew []
def leftsOf (pairs : List (Nat × List Nat)) : List Nat := (pairs.map (·.1)).foldl addNew []
def idxV (M : List Nat) (v : AV) : AV := match v with
  | .str y => .int (M.idxOf y)
  | _ => .none
/-- the names of the grammar -/
def namesOf (ts : List Nat) : List Nat := [3, 4, 5] ++ ts ++ [6, 9, 10]
def RC (pairs : List (Nat × List Nat)) : List (Nat × List Nat) := (6, [9, 3]) :: pairs
def RN (names : List Nat) (pairs : List (Nat × List Nat)) : List (Nat × List Nat) := (RC pairs).map fun p => (names.idxOf p.1, p.2.map names.idxOf)
end
theorem foldl_take {α β : Type} {f : β → α → β} {z : β} {l : List α} {i : Nat} {x : α} (h : l[i]? = some x) : (l.take (i + 1)).foldl f z = f ((l.take i).foldl f z) x := by
  rw [take_succ_get h, List.foldl_append]; rfl
theorem leftsI_pos {pairs : List (Nat × List Nat)} {i : Nat} {p : Nat × List Nat} (h : pairs[i]? = some p) (m : p.1 ∈ leftsI pairs i) : leftsI pairs (i + 1) = leftsI pairs i := by
  unfold leftsI; rw [List.map_take, List.map_take, foldl_take (get_map h), ← List.map_take]; exact if_pos m
theorem leftsI_neg {pairs : List (Nat × List Nat)} {i : Nat} {p : Nat × List Nat} (h : pairs[i]? = some p) (m : p.1 ∉ leftsI pairs i) : leftsI pairs (i + 1) = leftsI pairs i ++ [p.1] := by
  unfold leftsI; rw [List.map_take, List.map_take, foldl_take (get_map h), ← List.map_take]; exact if_neg m
theorem leftsI_le {pairs : List (Nat × List Nat)} : ∀ i, (leftsI pairs i).length ≤ i
  | 0 => Nat.le_refl _
  | i + 1 => by
    have ih := leftsI_le (pairs := pairs) i
    cases hp : pairs[i]? with
    | none =>
      have hl := List.getElem?_eq_none_iff.mp hp
      have : leftsI pairs (i + 1) = leftsI pairs i := by unfold leftsI; rw [take_all hl, take_all (Nat.le_succ_of_le hl)]
      rw [this]; exact Nat.le_succ_of_le ih
    | some p =>
      by_cases m : p.1 ∈ leftsI pairs i
      · rw [leftsI_pos hp m]; exact Nat.le_succ_of_le ih
      · rw [leftsI_neg hp m, List.length_append]; exact Nat.succ_le_succ ih
theorem idxV_map {M xs : List Nat} : (strsL xs).map (idxV M) = intsL (xs.map M.idxOf) := by
  show (xs.map AV.str).map (idxV M) = (xs.map M.idxOf).map (fun (i : Nat) => AV.int i)
  rw [List.map_map, List.map_map]; rfl
structure PairsOk (pairs : List (Nat × List Nat)) : Prop where
  n4 : pairs.length ≤ 4
  n1 : 2 ≤ pairs.length
  lefts : leftsOf pairs = [9, 10]
  left : ∀ p ∈ pairs, p.1 = 9 ∨ p.1 = 10
  len : ∀ p ∈ pairs, p.2.length ≤ 3
  sym : ∀ p ∈ pairs, ∀ x ∈ p.2, x = 7 ∨ x = 8 ∨ x = 9 ∨ x = 10
section
variable {k : Nat}
theorem ne4 (h : k = 9 ∨ k = 10) : k ≠ 4 := by
  rcases h with rfl | rfl <;> decide
theorem in_marks (h : k = 9 ∨ k = 10) : [Atom.s 0, .s 1, .s 2].contains (.s k) = false := by
  rcases h with rfl | rfl <;> decide
theorem br.fls {b : Bool} {X Y : Prop} (h : b = false) (y : Y) : br b X Y := by subst h; exact y
end
/-- the terminals met so far -/
structure TsOk (pairs : List (Nat × List Nat)) (i : Nat) (ts : List Nat) : Prop where
  nd : ts.Nodup
  m : ∀ x ∈ ts, x = 7 ∨ x = 8
  all : ∀ p ∈ pairs.take i, ∀ x ∈ p.2, x ∈ ts ∨ x = 9 ∨ x = 10
theorem TsOk.le {pairs : List (Nat × List Nat)} {i : Nat} {ts : List Nat} (h : TsOk pairs i ts) : ts.length ≤ 2 :=
  nodup_len (m := [7, 8]) h.nd fun x hx => by
    rcases h.m x hx with rfl | rfl
    · exact .head _
    · exact .tail _ (.head _)
inductive T1 (H : AH) (pairs : List (Nat × List Nat)) (i : Nat) (H' : AH) : Prop
  | mk (e : Ext H H') (g : H'[H.length]? = some (.list (strsL (leftsI pairs i))))
inductive T2 (H : AH) (A T : Nat) (pairs : List (Nat × List Nat)) (i : Nat) (H' : AH) : Prop
  | mk {ts : List Nat} (e : Ext H H') (ga : H'[A]? = some (.list (strsL [9, 10]))) (gt : H'[T]? = some (.list (strsL ([3, 4, 5] ++ ts)))) (ok : TsOk pairs i ts)
inductive T3 (H : AH) (A T : Nat) (pairs : List (Nat × List Nat)) (i : Nat) (xs : List Nat) (j : Nat) (H' : AH) : Prop
  | mk {ts : List Nat} (e : Ext H H') (ga : H'[A]? = some (.list (strsL [9, 10]))) (gt : H'[T]? = some (.list (strsL ([3, 4, 5] ++ ts)))) (ok : TsOk pairs i ts) (al : ∀ x ∈ xs.take j, x ∈ ts ∨ x = 9 ∨ x = 10)
theorem mem_snoc {α : Type} {l : List α} {x y : α} {P : Prop} (h : y ∈ l ++ [x]) (a : y ∈ l → P) (b : y = x → P) : P :=
  (List.mem_append.mp h).elim a fun h => b (List.mem_singleton.mp h)

theorem TsOk.el {pairs : List (Nat × List Nat)} {i : Nat} {ts : List Nat} (h : TsOk pairs i ts) : ts = [] ∨ ts = [7] ∨ ts = [8] ∨ ts = [7, 8] ∨ ts = [8, 7] := by
  obtain ⟨nd, m, _⟩ := h
  cases ts with
  | nil => exact .inl rfl
  | cons a r =>
    cases r with
    | nil => rcases m a (.head _) with rfl | rfl
             · exact .inr (.inl rfl)
             · exact .inr (.inr (.inl rfl))
    | cons b r =>
      have hn : a ≠ b := fun e => (List.nodup_cons.mp nd).1 (e ▸ .head _)
      cases r with
      | nil =>
        rcases m a (.head _) with rfl | rfl <;> rcases m b (.tail _ (.head _)) with rfl | rfl
        · exact absurd rfl hn
        · exact .inr (.inr (.inr (.inl rfl)))
        · exact .inr (.inr (.inr (.inr rfl)))
        · exact absurd rfl hn
      | cons c r =>
        have h2 := nodup_len (m := [7, 8]) nd fun x hx => by
          rcases m x hx with rfl | rfl
          · exact .head _
          · exact .tail _ (.head _)
        exact absurd h2 (Nat.not_le_of_gt (Nat.succ_le_succ (Nat.succ_le_succ (Nat.succ_le_succ (Nat.zero_le _)))))
structure NmF (ts M : List Nat) : Prop where
  i3 : M.idxOf 3 = 0
  i6 : M.idxOf 6 = 3 + ts.length
  i9 : M.idxOf 9 = 4 + ts.length
  i10 : M.idxOf 10 = 5 + ts.length
  len : M.length = 6 + ts.length
  l2 : ts.length ≤ 2
  mem : ∀ x, x ∈ ts ∨ x = 9 ∨ x = 10 ∨ x = 3 ∨ x = 6 → x ∈ M
theorem TsOk.nm {pairs : List (Nat × List Nat)} {i : Nat} {ts : List Nat} (h : TsOk pairs i ts) : NmF ts (namesOf ts) := by
  have hm : ∀ x, x ∈ ts ∨ x = 9 ∨ x = 10 ∨ x = 3 ∨ x = 6 → x ∈ namesOf ts := fun x hx => by
    unfold namesOf
    rcases hx with h | rfl | rfl | rfl | rfl
    · exact List.mem_append_left _ (List.mem_append_right _ h)
    · exact List.mem_append_right _ (.tail _ (.head _))
    · exact List.mem_append_right _ (.tail _ (.tail _ (.head _)))
    · exact .head _
    · exact List.mem_append_right _ (.head _)
  rcases h.el with rfl | rfl | rfl | rfl | rfl <;> exact ⟨rfl, rfl, rfl, rfl, rfl, by decide, hm⟩
/-- a rule that the loop has made -/
inductive RuA (H' : AH) (z rl : Nat) (rr : List Nat) (k : Nat) (p : Nat × List Nat) : Prop
  | mk {r : Nat} {w : List (Nat × AV)} (h1 : rr[k]? = some r) (h2 : H'[r]? = some (ruleO k p w)) (h3 : z ≤ r) (h4 : rl ≠ r)
inductive T4 (H : AH) (rl : Nat) (R : List (Nat × List Nat)) (i : Nat) (H' : AH) : Prop
  | mk {rr : List Nat} (e : Ext H H') (g : H'[rl]? = some (.list (refsL rr))) (n : rr.length = i + 1) (ru : ∀ (k : Nat) (p : Nat × List Nat), k ≤ i → R[k]? = some p → RuA H' H.length rl rr k p)
theorem RN_0 {M : List Nat} {pairs : List (Nat × List Nat)} : (RN M pairs)[0]? = some (M.idxOf 6, [M.idxOf 9, M.idxOf 3]) := rfl
theorem RN_s {M : List Nat} {pairs : List (Nat × List Nat)} {k : Nat} {p : Nat × List Nat} (h : pairs[k]? = some p) : (RN M pairs)[k + 1]? = some (M.idxOf p.1, p.2.map M.idxOf) := get_map (f := fun p : Nat × List Nat => (M.idxOf p.1, p.2.map M.idxOf)) h
theorem RN_len {M : List Nat} {pairs : List (Nat × List Nat)} : (RN M pairs).length = pairs.length + 1 := List.length_map ..
section
variable {H : AH} {K : AH → AV → Prop} {n : Nat}
theorem plain_rest {pl A nm l : Nat} {ts : List Nat} {u v w : Option AV} {prs : List AV} {pairs : List (Nat × List Nat)} (h2 : 2 ≤ H.length) (hM : At H nm (.list (strsL (namesOf ts)))) (hl : l = 3 + ts.length) (hpl : H[pl]? = some (.list prs)) (hp : PairsL H prs pairs) (hok : PairsOk pairs) (ok : TsOk pairs pairs.length ts)
    (q : ∀ H' a d, Ext H H' → d.names = namesOf ts → d.tc = l → d.R = RN d.names pairs → GramAt H' a d → GOk d → K H' (.ref a.g)) :
    blF (mi theFn (n + 58)) (outK K) (b12.drop 8) [some (.ref pl), some .none, some (.ref A), u, v, some (.str 9), some (.ref nm), w, some (.int l), none, none] H := by
  obtain ⟨i3, i6, i9, i10, hlen, l2, mem⟩ := ok.nm
  have hM1 := hM.1
  have m9 := mem 9 (.inr (.inl rfl))
  refine Lk.mk hM1 (Lk.mk hM1 (idx_strs m9 (newRule (r := [(namesOf ts).idxOf 9, 0]) ?_)))
  refine Lk.mk (get_new (get_new hpl)) ?_
  refine ForW.mk (xs := prs) (σ := Option AV × Option AV × Option AV × Option AV) (fun s => [some (.ref pl), some .none, some (.ref A), s.1, s.2.1, some (.str 9), some (.ref nm), s.2.2.1, some (.int l), some (.ref (H ++ [ruleO 0 (l, [(namesOf ts).idxOf 9, 0]) [(3, .int 0), (4, .none), (5, .int 0), (6, .int 0)]]).length), s.2.2.2])
    (fun i _ H' => T4 H (H ++ [ruleO 0 (l, [(namesOf ts).idxOf 9, 0]) [(3, .int 0), (4, .none), (5, .int 0), (6, .int 0)]]).length (RN (namesOf ts) pairs) i H') (fun i _ H' ⟨e, _, _, _⟩ => .lst (e.get hpl)) (fun i x s H' hx (.mk (rr := rr) e g hn ru) => ?_) (fun s H' (.mk (rr := rr) e g hn ru) => ?_) (s := (u, v, w, none))
    (T4.mk (rr := [H.length]) Ext.refl.new.new look_new rfl fun k p hk hp => ?_)
  · refine PairsL.el hx hp fun p r hpi hr => ?_
    have hr1 := e.get hr.1
    have hM' := e.get hM1
    have hpm := mem_of hpi
    have hsy : ∀ x ∈ p.2, x ∈ namesOf ts := fun x hx => mem x ((ok.all p (by rw [take_all (Nat.le_refl _)]; exact hpm) x hx).imp_right fun h => h.imp_right .inl)
    have hpl2 := hok.len p hpm
    refine okW.mk rfl (Lk.mk hr1 (comp_map (it := .lst r) (xs := strsL p.2) (idxV (namesOf ts)) (fun ys => .lst (get_new hr1)) (by rw [List.length_map]; exact Nat.le_trans hpl2 (by decide)) (fun x hx ys F hF => ?_) ?_))
    · obtain ⟨y, hy, rfl⟩ := List.mem_map.mp hx
      exact Lk.mk (get_new hM') (Lk.mk (get_new hM') (idx_strs (hsy y hy) hF))
    · rw [idxV_map]
      have hpM : p.1 ∈ namesOf ts := mem p.1 ((hok.left p hpm).elim (fun h => .inr (.inl h)) fun h => .inr (.inr (.inl h)))
      refine Lk.mk look_new (Lk.mk (get_new g) (Lk.mk (get_new g) (Lk.mk (get_new hM') (Lk.mk (get_new hM') (idx_strs hpM (lastTerm_ok fun z => newRule ?_))))))
      refine Lk.mk (get_new (get_new g)) (Gd.mk ?_ (AtI.mk (s := (oS p.1, oR r, s.2.2.1, oT (intsL (p.2.map (namesOf ts).idxOf)))) (T4.mk (rr := rr ++ [(H' ++ [AO.list (intsL (p.2.map (namesOf ts).idxOf))]).length]) (e.new.new.set ?_) (get_set_self (get_new (get_new g)) |>.trans ?_) ?_ fun k p' hk hp' => ?_)))
      · rw [List.length_map, hn]; exact lidL (Nat.le_trans (Nat.succ_le_succ (Nat.le_of_lt (lt_of_get hpi))) (Nat.le_trans (Nat.succ_le_succ hok.n4) (by decide)))
      · rw [len_new]; exact Nat.le_succ _
      · exact congrArg _ (congrArg _ (refs_app (ys := [_])))
      · rw [List.length_append, hn]; rfl
      · have hlt := lt_of_get g
        have hH := e.len
        by_cases hk1 : k ≤ i
        · obtain ⟨h1, h2, h3, h4⟩ := ru k p' hk1 hp'
          exact ⟨get_new' h1, get_set (get_new (get_new h2)) h4, h3, h4⟩
        · have hk1 : k = i + 1 := Nat.le_antisymm hk (Nat.succ_le_of_lt (Nat.lt_of_not_le hk1))
          subst hk1
          cases (RN_s hpi).symm.trans hp'
          have hrl : (refsL rr).length = i + 1 := (List.length_map ..).trans hn
          have hne : (H ++ [ruleO 0 (l, [(namesOf ts).idxOf 9, 0]) [(3, .int 0), (4, .none), (5, .int 0), (6, .int 0)]]).length ≠ (H' ++ [AO.list (intsL (p.2.map (namesOf ts).idxOf))]).length := by rw [len_new (H := H')]; exact Nat.ne_of_lt (Nat.lt_succ_of_lt hlt)
          refine ⟨?_, get_set (by rw [hrl]; exact look_new) hne, ?_, hne⟩
          · rw [List.getElem?_append_right (Nat.le_of_eq hn), hn, Nat.sub_self]; rfl
          · rw [len_new]; exact Nat.le_succ_of_le hH
  · have hk := Nat.le_zero.mp hk
    subst hk
    cases RN_0.symm.trans hp
    have e6 : (namesOf ts).idxOf 6 = l := by rw [i6, hl]
    rw [e6, i3]
    exact ⟨rfl, get_new look_new, Nat.le_refl _, by rw [len_new]; exact Nat.succ_ne_self _⟩
  · have hM' := e.get hM1
    have hN : prs.length = pairs.length := hp.len
    rw [hN] at hn ru
    have hn4 := hok.n4
    have hmem : ∀ p ∈ RC pairs, (p.1 = 6 ∨ p.1 = 9 ∨ p.1 = 10) ∧ p.2.length ≤ 3 ∧ ∀ x ∈ p.2, x ∈ namesOf ts := fun p hp => by
      rcases List.mem_cons.mp hp with rfl | hpm
      · refine ⟨.inl rfl, by decide, fun x hx => mem x ?_⟩
        rcases List.mem_cons.mp hx with rfl | hx
        · exact .inr (.inl rfl)
        · exact .inr (.inr (.inr (.inl (List.mem_singleton.mp hx))))
      · exact ⟨.inr (hok.left p hpm), hok.len p hpm, fun x hx => mem x ((ok.all p (by rw [take_all (Nat.le_refl _)]; exact hpm) x hx).imp_right fun h => h.imp_right .inl)⟩
    have hR : ∀ p ∈ RN (namesOf ts) pairs, (l ≤ p.1 ∧ p.1 < (namesOf ts).length) ∧ p.2.length ≤ 3 ∧ ∀ x ∈ p.2, x < (namesOf ts).length := fun p hp => by
      obtain ⟨q, hq, rfl⟩ := List.mem_map.mp hp
      obtain ⟨a, b, c⟩ := hmem q hq
      refine ⟨?_, by rw [List.length_map]; exact b, fun x hx => ?_⟩
      · rw [hlen, hl]
        rcases a with a | a | a <;> rw [a]
        · rw [i6]; lia
        · rw [i9]; lia
        · rw [i10]; lia
      · obtain ⟨y, hy, rfl⟩ := List.mem_map.mp hx
        exact List.idxOf_lt_length_iff.mpr (c y hy)
    refine Lk.mk (get_new hM') (Lk.mk (get_new hM') (idx_strs m9 ?_))
    refine gramInit_ok (names := namesOf ts) (R := RN (namesOf ts) pairs) (rr := rr) (by rw [len_new]; exact Nat.le_succ_of_le (Nat.le_trans h2 e.len)) ⟨get_new hM', hM.2⟩ ⟨get_new g, by rw [len_new]; exact Nat.ne_of_gt (Nat.succ_lt_succ (Nat.lt_of_lt_of_le Nat.zero_lt_two h2))⟩ (hn.trans RN_len.symm) (fun k p hk => ?_) (by rw [hlen]; lia) (by rw [hlen]; lia) (by rw [RN_len]; lia)
      (fun p hp => (hR p hp).1) (fun p hp => (hR p hp).2.1) (fun p hp => (hR p hp).2.2) ?_ fun H'' a d e' h1 h3 h4 hg hgo => q H'' a d (e.trans (Ext.app.trans e')) h1 h3 (h1.symm ▸ h4) hg hgo
    · obtain ⟨a, b, c, _⟩ := ru k p (Nat.le_of_lt_succ (Nat.lt_of_lt_of_eq (lt_of_get hk) RN_len)) hk
      exact ⟨a, get_new b, Nat.ne_of_gt (Nat.le_trans h2 c)⟩
    · rw [RN_len]
      have e1 : lenSum (RN (namesOf ts) pairs) (pairs.length + 1) = 3 + lenSum (pairs.map fun p => ((namesOf ts).idxOf p.1, p.2.map (namesOf ts).idxOf)) pairs.length := by
        unfold lenSum RN RC
        rw [List.map_cons, List.take_succ_cons, List.map_cons, List.sum_cons]
        rfl
      have h1 := lenSum_le (R := pairs.map fun p => ((namesOf ts).idxOf p.1, p.2.map (namesOf ts).idxOf)) (fun p hp => (hR p (List.mem_cons_of_mem _ hp)).2.1) pairs.length
      rw [e1]; lia
end
section
variable {H : AH} {K : AH → AV → Prop} {n : Nat}
theorem plain_ok {pl : Nat} {prs : List AV} {pairs : List (Nat × List Nat)} (h2 : 2 ≤ H.length) (hpl : At H pl (.list prs)) (hp : PairsL H prs pairs) (hok : PairsOk pairs)
    (q : ∀ H' a d ts, Ext H H' → d.names = namesOf ts → TsOk pairs pairs.length ts → d.tc = 3 + ts.length → d.R = RN d.names pairs → GramAt H' a d → GOk d → K H' (.ref a.g)) :
    Cw (mi theFn (n + 60)) (.fn 12) [.ref pl] H K := by
  refine fnM theFn_12 ?_
  refine Lk.mk (get_new hpl.1) (ForW.mk (xs := prs) (σ := Option AV × Option AV) (fun s => [some (.ref pl), some .none, some (.ref H.length), s.1, s.2, none, none, none, none, none, none]) (fun i _ H' => T1 H pairs i H') (fun i _ H' ⟨e, _⟩ => .lst (e.get hpl.1)) (fun i x s H' hx ⟨e, g⟩ => ?_) (fun s H' ⟨e, g⟩ => ?_) (s := (none, none)) ⟨.app, look_new⟩)
  · refine PairsL.el hx hp fun p r hpi hr => ?_
    refine okW.mk rfl (br.neg (ne4 (hok.left p (mem_of hpi))) (Gd.mk (lidL (by decide)) (Gd.mk (hok.left p (mem_of hpi)) (br.fls (in_marks (hok.left p (mem_of hpi))) (Lk.mk g (in_strs (br.not (br.dec (fun m => ?_) fun m => ?_))))))))
    · exact AtI.mk (s := (oS p.1, oR r)) (T1.mk e (by rw [leftsI_pos hpi m]; exact g))
    · refine Lk.mk g (Lk.mk g (Gd.mk ?_ (AtI.mk (s := (oS p.1, oR r)) (T1.mk (e.set (Nat.le_refl _)) ?_))))
      · rw [List.length_map]; exact lidL (Nat.le_trans (leftsI_le i) (Nat.le_trans (Nat.le_of_lt (lt_of_get hpi)) (Nat.le_trans hok.n4 (by decide))))
      · rw [leftsI_neg hpi m, ← strs_app]; exact get_set_self g
  have g : H'[H.length]? = some (.list (strsL [9, 10])) := by
    have e : leftsI pairs prs.length = [9, 10] := by unfold leftsI; rw [hp.len, take_all (Nat.le_refl _)]; exact hok.lefts
    rw [e] at g; exact g
  have e0 := e
  refine Lk.mk (get_new g) (Lk.mk look_new (Lk.mk (get_new g) (okW.mk rfl (Lk.mk (get_new g) ?_))))
  refine Lk.mk (get_new (get_new (e.get hpl.1))) ?_
  refine ForW.mk (xs := prs) (σ := Option AV × Option AV × Option AV) (fun s => [some (.ref pl), some .none, some (.ref H.length), s.1, s.2.1, some (.str 9), some (.ref (H' ++ [AO.list []]).length), s.2.2, none, none, none]) (fun i _ H'' => T2 H H.length (H' ++ [AO.list []]).length pairs i H'') (fun i _ H'' ⟨e, _, _, _⟩ => .lst (e.get hpl.1))
    (fun i x s H'' hx ⟨e, ga, gt, ok⟩ => ?_) (fun s H'' ⟨e, ga, gt, ok⟩ => ?_) (s := (s.1, s.2, none)) (T2.mk (ts := []) e.new.new (get_new (get_new g)) look_new ⟨.nil, (fun _ h => nomatch h), (fun _ h => nomatch h)⟩)
  · refine PairsL.el hx hp fun p r hpi hr => ?_
    refine okW.mk rfl (Lk.mk (e.get hr.1) ?_)
    refine ForW.mk (xs := strsL p.2) (σ := Option AV) (fun u => [some (.ref pl), some .none, some (.ref H.length), some (.str p.1), some (.ref r), some (.str 9), some (.ref (H' ++ [AO.list []]).length), u, none, none, none]) (fun j _ H'' => T3 H H.length (H' ++ [AO.list []]).length pairs i p.2 j H'') (fun i _ H'' ⟨e, _, _, _, _⟩ => .lst (e.get hr.1))
      (fun j y u H'' hy ⟨e, ga, gt, ok, al⟩ => ?_) (fun u H'' ⟨e, ga, gt, ok, al⟩ => ?_) (s := s.2.2) (T3.mk e ga gt ok fun _ h => nomatch h)
    · refine map_get hy fun y hy => ?_
      refine okW.mk rfl (Lk.mk ga (in_strs (xs := [9, 10]) (br.not (br.dec (fun m => ?_) fun m => ?_))))
      · refine AtI.mk (s := oS y) (T3.mk e ga gt ok fun x hx => ?_)
        rw [take_succ_get hy] at hx
        exact mem_snoc hx (al x) fun h => .inr (h ▸ (List.mem_cons.mp m).imp_right fun m => List.mem_singleton.mp m)
      · have y78 : y = 7 ∨ y = 8 := by
          rcases hok.sym p (mem_of hpi) y (mem_of hy) with h | h | h | h
          · exact .inl h
          · exact .inr h
          · exact absurd (h ▸ .head _) m
          · exact absurd (h ▸ .tail _ (.head _)) m
        refine Lk.mk gt (in_strs (br.not (br.dec (fun m2 => ?_) fun m2 => ?_)))
        · refine AtI.mk (s := oS y) (T3.mk e ga gt ok fun x hx => ?_)
          rw [take_succ_get hy] at hx
          refine mem_snoc hx (al x) fun h => .inl (h ▸ ?_)
          rcases List.mem_append.mp m2 with m2 | m2
          · rcases y78 with rfl | rfl <;> exact absurd m2 (by decide)
          · exact m2
        · refine Lk.mk gt <| Lk.mk gt (Gd.mk ?_ (AtI.mk (s := oS y) (T3.mk (ts := _ ++ [y]) (e.set (by rw [len_new]; exact Nat.le_succ_of_le e0.len)) (get_set ga ?_) ?_ ⟨nodup_snoc ok.nd fun h => m2 (List.mem_append_right _ h), fun x hx => ?_, fun p hp x hx => ?_⟩ fun x hx => ?_)))
          · rw [strsL, List.length_map, List.length_append]
            exact lidL (Nat.le_trans (Nat.add_le_add_left ok.le 3) (by decide))
          · rw [len_new]; exact Nat.ne_of_gt (Nat.lt_of_lt_of_le (lt_of_get g) (Nat.le_succ _))
          · exact (get_set_self gt).trans (congrArg _ (congrArg _ (by rw [← List.append_assoc]; exact strs_app (ys := [y]))))
          · exact mem_snoc hx (ok.m x) fun h => h ▸ y78
          · exact (ok.all p hp x hx).imp_left fun h => List.mem_append_left _ h
          · rw [take_succ_get hy] at hx
            exact mem_snoc hx (fun h => (al x h).imp_left fun h => List.mem_append_left _ h) fun h => .inl (List.mem_append_right _ (h ▸ .head _))
    · refine AtI.mk (s := (oS p.1, oR r, u)) (T2.mk e ga gt ⟨ok.nd, ok.m, fun p' hp' x hx => ?_⟩)
      rw [take_succ_get hpi] at hp'
      rw [List.length_map, take_all (Nat.le_refl _)] at al
      exact mem_snoc hp' (fun h => ok.all p' h x hx) fun h => al x (h ▸ hx)
  · rw [hp.len] at ok
    have hA : H.length < H'.length := lt_of_get g
    refine Lk.mk gt (Lk.mk (get_new gt) (Lk.mk look_new (Gd.mk ?_ (Lk.mk look_new (Lk.mk (get_new (get_new ga)) (Gd.mk ?_ ?_))))))
    · exact lidE (Nat.le_trans (Nat.add_le_add_right (by rw [strsL, List.length_map, List.length_append]; exact Nat.add_le_add_left ok.le 3) _) (by decide))
    · exact lidE (Nat.le_trans (Nat.add_le_add_right (by rw [List.length_append, strsL, List.length_map, List.length_append]; exact Nat.add_le_add_right (Nat.add_le_add_left ok.le 3) _) _) (by decide))
    · refine plain_rest (u := s.1) (v := s.2.1) (w := s.2.2) (n := n) (l := (strsL ([3, 4, 5] ++ _)).length) (ts := _) (Nat.le_trans h2 e.new.new.new.len) ⟨look_new.trans ?_, ?_⟩ ?_ (e.new.new.new.get hpl.1) (hp.extP e.new.new.new.toP) hok ok fun H3 a d e3 h3 h4 h5 hg hgo => q H3 a d _ (e.new.new.new.trans e3) h3 ok (h4.trans ?_) h5 hg hgo
      · rw [List.append_assoc]; exact congrArg _ (congrArg _ (strs_app (ys := [6, 9, 10])))
      · rw [len_new, len_new]; exact Nat.ne_of_gt (Nat.succ_lt_succ (Nat.succ_pos _))
      · rw [strsL, List.length_map, List.length_append]; rfl
      · rw [strsL, List.length_map, List.length_append]; rfl
end
end Mine.C
end
section
set_option autoImplicit false
set_option Elab.async false
set_option maxRecDepth 10000
namespace Mine.C
open PySem

/-! ## Derivations -/
/-- a row derives a row -/
inductive Der (R : List (Nat × List Nat)) : List Nat → List Nat → Prop
  | nil : Der R [] []
  | keep {x : Nat} {xs ws : List Nat} : Der R xs ws → Der R (x :: xs) (x :: ws)
  | rule {x : Nat} {r xs u ws : List Nat} : (x, r) ∈ R → Der R r u → Der R xs ws → Der R (x :: xs) (u ++ ws)
section
variable {R : List (Nat × List Nat)} {a b u v : List Nat} {x : Nat}
theorem Der.refl : ∀ (a : List Nat), Der R a a
  | [] => .nil
  | _ :: r => .keep (Der.refl r)
theorem Der.append (h : Der R a u) (g : Der R b v) : Der R (a ++ b) (u ++ v) := by
  induction h with
  | nil => exact g
  | keep _ ih => exact .keep ih
  | rule hm h1 _ _ ih => rw [List.cons_append, List.append_assoc]; exact .rule hm h1 ih
theorem Der.one {r : List Nat} (hm : (x, r) ∈ R) (h : Der R r u) : Der R [x] u := by
  have := Der.rule hm h (Der.nil (R := R))
  rwa [List.append_nil] at this
theorem Der.null {N : Nat → Prop} (hN : ∀ z, N z → Der R [z] []) : ∀ {l : List Nat}, (∀ z ∈ l, N z) → Der R l []
  | [], _ => .nil
  | z :: l, h => Der.append (a := [z]) (u := []) (hN z (h z List.mem_cons_self)) (Der.null hN fun y hy => h y (List.mem_cons_of_mem _ hy))
theorem Der.mapR {f : Nat → Nat} {R' : List (Nat × List Nat)} (hR : ∀ p ∈ R, (f p.1, p.2.map f) ∈ R') (h : Der R a u) : Der R' (a.map f) (u.map f) := by
  induction h with
  | nil => exact .nil
  | keep _ ih => exact .keep ih
  | rule hm _ _ ih1 ih2 => rw [List.map_append, List.map_cons]; exact .rule (hR _ hm) ih1 ih2
end
/-- a word of x may begin with t, the nullable symbols given -/
inductive FirstR (R : List (Nat × List Nat)) (N : Nat → Prop) : Nat → Nat → Prop
  | refl (t : Nat) : FirstR R N t t
  | step {x y t : Nat} {pre post : List Nat} : (x, pre ++ y :: post) ∈ R → (∀ z ∈ pre, N z) → FirstR R N y t → FirstR R N x t

/-! ## spread, nullable -/
abbrev boolsL (xs : List Bool) : List AV := xs.map .bool
noncomputable section
def rt (R : List (Nat × List Nat)) (k : Nat) : List Nat := ((R[k]?).map (·.2)).getD []
/-- how many names of r are not in P -/
def cnt (r P : List Nat) : Nat := r.countP fun y => decide (y ∉ P)
end
theorem cnt_snoc {P : List Nat} {q : Nat} (hq : q ∉ P) : ∀ {r : List Nat}, cnt r (P ++ [q]) + r.count q = cnt r P
  | [] => rfl
  | y :: r => by
    have ih := cnt_snoc hq (r := r)
    unfold cnt at ih ⊢
    rw [List.count_cons, List.countP_cons, List.countP_cons]
    by_cases h : y = q
    · subst h
      rw [if_neg (fun e => absurd (List.mem_append_right _ (.head _)) (of_decide_eq_true e)), if_pos (beq_self_eq_true y), if_pos (decide_eq_true hq)]
      lia
    · rw [if_neg (fun e => h (eq_of_beq e))]
      by_cases hP : y ∈ P
      · rw [if_neg (fun e => absurd (List.mem_append_left _ hP) (of_decide_eq_true e)), if_neg (fun e => absurd hP (of_decide_eq_true e))]; exact ih
      · rw [if_pos (decide_eq_true (show y ∉ P ++ [q] from fun e => mem_snoc e hP h)), if_pos (decide_eq_true hP)]; lia
theorem cnt_zero {r P : List Nat} : cnt r P = 0 ↔ ∀ y ∈ r, y ∈ P := by
  unfold cnt
  rw [List.countP_eq_zero]
  exact forall_congr' fun y => forall_congr' fun _ => by rw [decide_eq_true_eq, Classical.not_not]
theorem cnt_nil {r : List Nat} : cnt r [] = r.length := List.countP_eq_length.mpr fun _ _ => decide_eq_true List.not_mem_nil

/-- what nullable gives -/
structure NulOk (d : GD) (N : List Bool) : Prop where
  len : N.length = d.names.length
  closed : ∀ p ∈ d.R, (∀ y ∈ p.2, N[y]? = some true) → N[p.1]? = some true
  sound : ∀ x, N[x]? = some true → Der d.R [x] []

set_option genSizeOf false in
set_option genInjectivity false in
/-- where the lists of spread lie -/
structure SpP where
  (fo la us qu : Nat)
  ur : List Nat
structure SpB (H₀ : AH) (P : SpP) : Prop where
  b1 : H₀.length ≤ P.fo
  b2 : H₀.length ≤ P.la
  b4 : H₀.length ≤ P.qu
  b5 : ∀ r ∈ P.ur, H₀.length ≤ r
  n1 : P.fo ≠ P.la
  n2 : P.fo ≠ P.us
  n3 : P.fo ≠ P.qu
  n4 : P.la ≠ P.us
  n5 : P.la ≠ P.qu
  n6 : P.us ≠ P.qu
  m1 : ∀ r ∈ P.ur, r ≠ P.fo
  m2 : ∀ r ∈ P.ur, r ≠ P.la
  m3 : ∀ r ∈ P.ur, r ≠ P.us
  m4 : ∀ r ∈ P.ur, r ≠ P.qu
  nd : P.ur.Nodup
structure SpAt (H₀ H : AH) (P : SpP) (F : List Bool) (L : List Nat) (U : List (List Nat)) (W : List Nat) : Prop where
  ext : Ext H₀ H
  f : H[P.fo]? = some (.list (boolsL F))
  l : H[P.la]? = some (.list (intsL L))
  u : H[P.us]? = some (.list (refsL P.ur))
  q : H[P.qu]? = some (.list (intsL W))
  ul : U.length = P.ur.length
  uu : ∀ (x r : Nat) (l : List Nat), P.ur[x]? = some r → U[x]? = some l → H[r]? = some (.list (intsL l))
section
variable {H₀ H : AH} {P : SpP} {F F' : List Bool} {L L' : List Nat} {U : List (List Nat)} {W W' : List Nat}
theorem SpAt.setF (h : SpAt H₀ H P F L U W) (b : SpB H₀ P) : SpAt H₀ (H.set P.fo (.list (boolsL F'))) P F' L U W :=
  ⟨h.ext.set b.b1, get_set_self h.f, get_set h.l b.n1, get_set h.u b.n2, get_set h.q b.n3, h.ul, fun x r l h1 h2 => get_set (h.uu x r l h1 h2) (b.m1 r (mem_of h1)).symm⟩
theorem SpAt.setL (h : SpAt H₀ H P F L U W) (b : SpB H₀ P) : SpAt H₀ (H.set P.la (.list (intsL L'))) P F L' U W :=
  ⟨h.ext.set b.b2, get_set h.f b.n1.symm, get_set_self h.l, get_set h.u b.n4, get_set h.q b.n5, h.ul, fun x r l h1 h2 => get_set (h.uu x r l h1 h2) (b.m2 r (mem_of h1)).symm⟩
theorem SpAt.setQ (h : SpAt H₀ H P F L U W) (b : SpB H₀ P) : SpAt H₀ (H.set P.qu (.list (intsL W'))) P F L U W' :=
  ⟨h.ext.set b.b4, get_set h.f b.n3.symm, get_set h.l b.n5.symm, get_set h.u b.n6.symm, get_set_self h.q, h.ul, fun x r l h1 h2 => get_set (h.uu x r l h1 h2) (b.m4 r (mem_of h1)).symm⟩
theorem SpAt.setU (h : SpAt H₀ H P F L U W) (b : SpB H₀ P) {x r : Nat} {l' : List Nat} (hx : P.ur[x]? = some r) : SpAt H₀ (H.set r (.list (intsL l'))) P F L (U.set x l') W :=
  have hm := mem_of hx
  ⟨h.ext.set (b.b5 r hm), get_set h.f (b.m1 r hm), get_set h.l (b.m2 r hm), get_set h.u (b.m3 r hm), get_set h.q (b.m4 r hm), List.length_set.trans h.ul, fun y r' l h1 h2 => by
    have hxl : x < U.length := h.ul ▸ lt_of_get hx
    by_cases hy : x = y
    · subst hy
      cases hx.symm.trans h1
      cases (List.getElem?_set_self hxl).symm.trans h2
      exact get_set_self (h.uu x r _ hx (List.getElem?_eq_getElem hxl))
    · rw [List.getElem?_set_ne hy] at h2
      exact get_set (h.uu y r' l h1 h2) fun e' => hy (nodup_get b.nd hx (e' ▸ h1))⟩
end
/-- what is found so far -/
structure Fnd (d : GD) (F : List Bool) (W : List Nat) : Prop where
  len : F.length = d.names.length
  nd : W.Nodup
  lt : ∀ x ∈ W, x < d.names.length
  f : ∀ x, x < d.names.length → F[x]? = some (decide (x ∈ W))
  sound : ∀ x ∈ W, Der d.R [x] []
theorem Fnd.add {d : GD} {F : List Bool} {W : List Nat} (h : Fnd d F W) {x : Nat} (hx : x ∉ W) (hl : x < d.names.length) (hd : Der d.R [x] []) : Fnd d (F.set x true) (W ++ [x]) := by
  refine ⟨List.length_set.trans h.len, nodup_snoc h.nd hx, fun y hy => mem_snoc hy (h.lt y) fun e => e ▸ hl, fun y hy => ?_, fun y hy => mem_snoc hy (h.sound y) fun e => e ▸ hd⟩
  by_cases e : x = y
  · subst e; rw [List.getElem?_set_self (h.len ▸ hl), decide_eq_true (List.mem_append_right _ (.head _))]
  · rw [List.getElem?_set_ne e, h.f y hy]
    exact congrArg some (decide_eq_decide.mpr ⟨List.mem_append_left _, fun m => mem_snoc m id fun e' => absurd e'.symm e⟩)
@[elab_as_elim] theorem GramAt.ruleEl {H : AH} {a : GA} {d : GD} {i : Nat} {x : AV} {P : AV → Prop} (hx : (refsL a.rr)[i]? = some x) (hg : GramAt H a d) (k : ∀ p r w, d.R[i]? = some p → a.rr[i]? = some r → At H r (ruleO i p w) → P (.ref r)) : P x := by
  have hl := lt_of_get hx
  rw [List.length_map, hg.rn] at hl
  obtain ⟨p, hp⟩ := get_ex hl
  obtain ⟨h1, h2⟩ := hg.rule i p hp
  cases (refs_at h1).symm.trans hx
  exact k p _ _ hp h1 h2
theorem rt_at {R : List (Nat × List Nat)} {i : Nat} {p : Nat × List Nat} (h : R[i]? = some p) : rt R i = p.2 := by unfold rt; rw [h]; rfl
theorem rt_none {R : List (Nat × List Nat)} {i : Nat} (h : R.length ≤ i) : rt R i = [] := by unfold rt; rw [List.getElem?_eq_none h]; rfl
theorem rt_succ {R : List (Nat × List Nat)} {i k : Nat} {p : Nat × List Nat} (h : R[i]? = some p) (hk : k ≠ i) : rt (R.take (i + 1)) k = rt (R.take i) k := by
  rw [take_succ_get h]
  have hl : (R.take i).length = i := List.length_take_of_le (Nat.le_of_lt (lt_of_get h))
  unfold rt
  rcases Nat.lt_or_gt_of_ne hk with hk | hk
  · rw [List.getElem?_append_left (hl.symm ▸ hk)]
  · rw [List.getElem?_eq_none (by rw [List.length_append, hl]; exact hk), List.getElem?_eq_none (by rw [hl]; exact Nat.le_of_lt hk)]
theorem rt_new {R : List (Nat × List Nat)} {i : Nat} {p : Nat × List Nat} (h : R[i]? = some p) : rt (R.take (i + 1)) i = p.2 := rt_at (by rw [List.getElem?_take, if_pos (Nat.lt_succ_self i), h])
theorem rt_self {R : List (Nat × List Nat)} {i : Nat} : rt (R.take i) i = [] := rt_none (List.length_take_le _ _)
theorem bools_set {F : List Bool} {x : Nat} {b : Bool} : (boolsL F).set x (.bool b) = boolsL (F.set x b) := List.map_set.symm
theorem ints_set {L : List Nat} {x y : Nat} : (intsL L).set x (.int y) = intsL (L.set x y) := List.map_set.symm
theorem bools_at {F : List Bool} {x : Nat} {b : Bool} (h : F[x]? = some b) : (boolsL F)[x]? = some (.bool b) := get_map h
noncomputable section
def rS (a : GA) (kn : Nat) (P : SpP) (s4 s7 s8 s9 s10 s11 : Option AV) : Ro := [oR a.g, oR kn, oR P.fo, oR P.la, s4, oR P.us, oR P.qu, s7, s8, s9, s10, s11]
end

section
variable {H₀ : AH} {a : GA} {d : GD} {n kn : Nat} {P : SpP} {F₀ : List Bool} {K : AH → AV → Prop}
structure S1 (H₀ : AH) (d : GD) (P : SpP) (F₀ : List Bool) (i : Nat) (U : List (List Nat)) (H : AH) : Prop where
  sp : SpAt H₀ H P F₀ ((d.R.take i).map (·.2.length)) U []
  cn : ∀ (x k : Nat) (l : List Nat), U[x]? = some l → l.count k = (rt (d.R.take i) k).count x ∧ l.length ≤ 4 * i
structure S1b (H₀ : AH) (d : GD) (P : SpP) (F₀ : List Bool) (i : Nat) (p : Nat × List Nat) (j : Nat) (U : List (List Nat)) (m : Nat) (H : AH) : Prop where
  sp : SpAt H₀ H P F₀ ((d.R.take i).map (·.2.length)) U []
  hm : m = j
  cn : ∀ (x k : Nat) (l : List Nat), U[x]? = some l → l.count k = (rt (d.R.take i) k).count x + (if k = i then (p.2.take j).count x else 0) ∧ l.length ≤ 4 * i + j
theorem spread_1 (hg : GramAt H₀ a d) (hd : GOk d) (b : SpB H₀ P) (hun : P.ur.length = d.names.length) (hF : ∀ x, x < d.names.length → F₀[x]? = some false)
    {H : AH} {U : List (List Nat)} (h0 : S1 H₀ d P F₀ 0 U H) {s4 s7 s8 : Option AV} {Q : Fl → Ro → AH → Prop}
    (k : ∀ s4 s7 s8 U H', S1 H₀ d P F₀ d.R.length U H' → blF (mi theFn (n + 10)) Q (b13.drop 5) (rS a kn P s4 s7 s8 none none none) H') :
    blF (mi theFn (n + 10)) Q (b13.drop 4) (rS a kn P s4 s7 s8 none none none) H := by
  have hg2 := hg.ext h0.sp.ext
  refine Lk.mk hg2.g.1 (Lk.mk hg2.rl.1 ?_)
  refine ForW.mk (xs := refsL a.rr) (σ := List (List Nat) × Option AV × Option AV × Option AV) (fun s => rS a kn P s.2.1 s.2.2.1 s.2.2.2 none none none) (fun i s H => S1 H₀ d P F₀ i s.1 H) (fun i s H h => .lst ((hg.ext h.sp.ext).rl.1)) (fun i x s H hx h => ?_) (fun s H h => k _ _ _ s.1 H ?_) (s := (U, s4, s7, s8)) h0
  · refine GramAt.ruleEl hx hg fun p r w hp hr1 hr2 => ?_
    have hpm := mem_of hp
    have hr3 := (hr2.ext h.sp.ext).1
    have hi := lt_of_get hp
    refine okW.mk rfl (Lk.mk hr3 ?_)
    refine ForW.mk (xs := intsL p.2) (σ := List (List Nat) × Option AV × Nat) (fun t => rS a kn P t.2.1 (oR r) (oI t.2.2) none none none) (fun j t H => S1b H₀ d P F₀ i p j t.1 t.2.2 H) (fun _ _ _ _ => .tup) (fun j y t H hy h => ?_) (fun t H h => ?_) (s := (s.1, s.2.1, 0)) ⟨h.sp, rfl, fun x k l hl => ⟨?_, (h.cn x k l hl).2⟩⟩
    · refine map_get hy fun y hy => ?_
      have hyn := hd.rsym p hpm y (mem_of hy)
      obtain ⟨ru, hu1⟩ := get_ex (l := P.ur) (hun ▸ hyn)
      obtain ⟨l, hu2⟩ := get_ex (l := t.1) (h.sp.ul ▸ lt_of_get hu1)
      have hcl := (h.cn y 0 l hu2).2
      have hj := Nat.le_of_lt (Nat.lt_of_lt_of_le (lt_of_get hy) (hd.rlen p hpm))
      have h3 := h.sp.uu y ru l hu1 hu2
      have h4 := (hr2.ext h.sp.ext).1
      have hm := h.hm
      refine okW.mk rfl <| Lk.mk h.sp.f <| okW.mk (bools_at (hF y hyn)) <| Lk.mk h.sp.u <| okW.mk (refs_at hu1) <| Lk.mk h3 <| Lk.mk h4 <| Lk.mk h3 <| Gd.mk ?_ <| AtI.mk (s := (t.1.set y (l ++ [i]), oI y, t.2.2 + 1)) <| S1b.mk ?_ (congrArg Nat.succ hm) fun x k l' hl => ?_
      · rw [ints_len]; exact lidL (by have := hd.m5; lia)
      · have z := h.sp.setU (l' := l ++ [i]) b hu1
        rw [← ints_app] at z; exact z
      · rw [take_succ_get hy, List.count_append]
        by_cases hxy : y = x
        · subst hxy
          cases (List.getElem?_set_self (lt_of_get hu2)).symm.trans hl
          rw [List.count_append, (h.cn y k l hu2).1, List.length_append]
          refine ⟨?_, Nat.succ_le_succ hcl⟩
          by_cases hki : k = i
          · subst hki; rw [if_pos rfl, if_pos rfl, List.count_singleton_self, List.count_singleton_self]; exact Nat.add_assoc ..
          · rw [if_neg hki, if_neg hki, List.count_eq_zero_of_not_mem (l := [i]) fun e => hki (List.mem_singleton.mp e)]
        · rw [List.getElem?_set_ne hxy] at hl
          rw [(h.cn x k l' hl).1, List.count_eq_zero_of_not_mem (l := [y]) fun e => hxy (List.mem_singleton.mp e).symm]
          exact ⟨rfl, Nat.le_succ_of_le (h.cn x k l' hl).2⟩
    · have hlen : ((d.R.take i).map (·.2.length)).length = i := (List.length_map ..).trans (List.length_take_of_le (Nat.le_of_lt hi))
      refine Lk.mk h.sp.l <| Lk.mk h.sp.l <| Gd.mk ?_ <| AtI.mk (s := (t.1, t.2.1, oR r, oI t.2.2)) <| S1.mk ?_ fun x k l hl => ?_
      · rw [ints_len, hlen]; exact lidL (Nat.le_trans (Nat.le_of_lt hi) (Nat.le_trans hd.m5 (by decide)))
      · rw [take_succ_get hp, List.map_append]
        have z := h.sp.setL (L' := (d.R.take i).map (·.2.length) ++ [p.2.length]) b
        rw [← ints_app] at z
        have hm := h.hm
        rw [ints_len] at hm
        rw [hm]; exact z
      · rw [(h.cn x k l hl).1]
        have hc := (h.cn x k l hl).2
        have hp3 := hd.rlen p hpm
        rw [ints_len] at hc
        refine ⟨?_, by lia⟩
        by_cases hki : k = i
        · subst hki; rw [rt_self, if_pos rfl, rt_new hp, ints_len, take_all (Nat.le_refl _)]; exact Nat.zero_add _
        · rw [if_neg hki, rt_succ hp hki]; rfl
    · rw [(h.cn x k l hl).1]; exact (by split <;> rfl)
  · rw [List.length_map, hg.rn] at h; exact h
end
end Mine.C
end
section
set_option autoImplicit false
set_option Elab.async false
set_option maxRecDepth 10000
namespace Mine.C
open PySem

section
variable {H₀ : AH} {a : GA} {d : GD} {n kn : Nat} {P : SpP} {L₀ : List Nat} {U : List (List Nat)} {K : AH → AV → Prop}
theorem dec1 {F : Nat → Option Fn} {H : AH} {v : Nat} {ρ : Ro} (k : K H (.int v)) : binK (mi F (n + 1)) .Sub (.cst (.int 1)) ρ K H (.int (v + 1 : Nat)) := by
  show K H (.int (((v + 1 : Nat) : Int) - 1))
  rw [show ((v + 1 : Nat) : Int) - 1 = v from Int.add_sub_cancel (v : Int) 1]; exact k
structure S2 (H₀ : AH) (d : GD) (P : SpP) (L : List Nat) (U : List (List Nat)) (i : Nat) (F : List Bool) (W : List Nat) (H : AH) : Prop where
  sp : SpAt H₀ H P F L U W
  fn : Fnd d F W
  nl : ∀ p ∈ d.R.take i, p.2 = [] → p.1 ∈ W
theorem nl_succ {R : List (Nat × List Nat)} {i : Nat} {p : Nat × List Nat} {W W' : List Nat} (h : R[i]? = some p) (a : ∀ p ∈ R.take i, p.2 = [] → p.1 ∈ W) (s : ∀ x ∈ W, x ∈ W') (b : p.2 = [] → p.1 ∈ W') : ∀ p ∈ R.take (i + 1), p.2 = [] → p.1 ∈ W' := fun q hq hq2 => by
  rw [take_succ_get h] at hq
  exact mem_snoc hq (fun g => s _ (a q g hq2)) fun g => g ▸ b (g ▸ hq2)
theorem Fnd.le {d : GD} {F : List Bool} {W : List Nat} (fn : Fnd d F W) (hd : GOk d) : W.length ≤ 8 := Nat.le_trans (nodup_lt_len fn.nd fn.lt) hd.n8
theorem spread_2 (hg : GramAt H₀ a d) (hd : GOk d) (b : SpB H₀ P) {F₀ : List Bool} (fn₀ : Fnd d F₀ [])
    {H : AH} (sp : SpAt H₀ H P F₀ (d.R.map (·.2.length)) U []) {s4 s7 s8 : Option AV} {Q : Fl → Ro → AH → Prop}
    (k : ∀ s7 F W H', S2 H₀ d P (d.R.map (·.2.length)) U d.R.length F W H' → blF (mi theFn (n + 10)) Q (b13.drop 6) (rS a kn P s4 s7 s8 none none none) H') :
    blF (mi theFn (n + 10)) Q (b13.drop 5) (rS a kn P s4 s7 s8 none none none) H := by
  have hg2 := hg.ext sp.ext
  refine Lk.mk hg2.g.1 <| Lk.mk hg2.rl.1 ?_
  refine ForW.mk (xs := refsL a.rr) (σ := List Bool × List Nat × Option AV) (fun s => rS a kn P s4 s.2.2 s8 none none none) (fun i s H => S2 H₀ d P (d.R.map (·.2.length)) U i s.1 s.2.1 H) (fun i s H h => .lst ((hg.ext h.sp.ext).rl.1)) (fun i x s H hx h => ?_) (fun s H h => k _ s.1 s.2.1 H ?_) (s := (F₀, [], s7)) ⟨sp, fn₀, fun _ h => nomatch h⟩
  · refine GramAt.ruleEl hx hg fun p r w hp hr1 hr2 => ?_
    have hpm := mem_of hp
    have hr3 := (hr2.ext h.sp.ext).1
    have hlt := (hd.left p hpm).2
    refine okW.mk rfl <| Lk.mk hr3 <| Lk.mk h.sp.l <| okW.mk (ints_at (get_map hp)) <| br.dec (fun h0 => ?_) fun h0 => AtI.mk (s := (s.1, s.2.1, oR r)) ⟨h.sp, h.fn, nl_succ hp h.nl (fun _ h => h) fun e => absurd (by rw [e]; rfl) h0⟩
    have h0 : p.2 = [] := List.eq_nil_of_length_eq_zero (Int.ofNat.inj h0)
    refine Lk.mk hr3 <| Lk.mk h.sp.f <| okW.mk (bools_at (h.fn.f _ hlt)) <| br.not <| br.dec (fun c => AtI.mk (s := (s.1, s.2.1, oR r)) ⟨h.sp, h.fn, nl_succ hp h.nl (fun _ h => h) fun _ => c⟩) fun c => ?_
    have z := h.sp.setF (F' := s.1.set p.1 true) b
    rw [← bools_set] at z
    have hr4 := (hr2.ext z.ext).1
    refine Lk.mk hr3 <| Lk.mk h.sp.f <| Gd.mk ?_ <| Lk.mk z.q <| Lk.mk hr4 <| Lk.mk z.q <| Gd.mk ?_ <| AtI.mk (s := (s.1.set p.1 true, s.2.1 ++ [p.1], oR r)) <| S2.mk ?_ (h.fn.add c hlt (Der.one (r := []) (h0 ▸ hpm) .nil)) (nl_succ hp h.nl (fun _ h => List.mem_append_left _ h) fun _ => List.mem_append_right _ (.head _))
    · rw [List.length_map, h.fn.len]; exact hlt
    · rw [ints_len]; exact lidL (Nat.le_trans (h.fn.le hd) (by decide))
    · have z2 := z.setQ (W' := s.2.1 ++ [p.1]) b
      rw [← ints_app] at z2; exact z2
  · rw [List.length_map, hg.rn] at h; exact h

/-- the main loop's state -/
structure S3 (H₀ : AH) (d : GD) (P : SpP) (U : List (List Nat)) (m t : Nat) (F : List Bool) (L W : List Nat) (H : AH) : Prop where
  sp : SpAt H₀ H P F L U W
  fn : Fnd d F W
  le : t ≤ W.length
  ll : L.length = d.R.length
  lv : ∀ (k : Nat) (p : Nat × List Nat), d.R[k]? = some p → L[k]? = some (cnt p.2 (W.take t))
  cl : ∀ p ∈ d.R, cnt p.2 (W.take t) = 0 → p.1 ∈ W
  hm : m + t = d.names.length
/-- the inner loop's: X what is new, l the uses of the name q -/
structure S3b (H₀ : AH) (d : GD) (P : SpP) (U : List (List Nat)) (t : Nat) (W l : List Nat) (j : Nat) (F : List Bool) (L X : List Nat) (H : AH) : Prop where
  sp : SpAt H₀ H P F L U (W ++ X)
  fn : Fnd d F (W ++ X)
  ll : L.length = d.R.length
  lv : ∀ (k : Nat) (p : Nat × List Nat), d.R[k]? = some p → ∃ v, L[k]? = some v ∧ v + (l.take j).count k = cnt p.2 (W.take t)
  cl : ∀ (k : Nat) (p : Nat × List Nat), d.R[k]? = some p → L[k]? = some 0 → p.1 ∈ W ++ X
theorem lv_succ {d : GD} {L l W : List Nat} {t j y v : Nat} (hll : L.length = d.R.length) (hy : l[j]? = some y) (lv : ∀ (k : Nat) (p : Nat × List Nat), d.R[k]? = some p → ∃ v, L[k]? = some v ∧ v + (l.take j).count k = cnt p.2 (W.take t)) {p : Nat × List Nat} (hp : d.R[y]? = some p) (hv : L[y]? = some (v + 1)) :
    ∀ (k : Nat) (p : Nat × List Nat), d.R[k]? = some p → ∃ u, (L.set y v)[k]? = some u ∧ u + (l.take (j + 1)).count k = cnt p.2 (W.take t) := fun k p' hk => by
  obtain ⟨u, h1, h2⟩ := lv k p' hk
  rw [take_succ_get hy, List.count_append]
  by_cases e : y = k
  · subst e
    cases hv.symm.trans h1
    refine ⟨v, List.getElem?_set_self (hll ▸ lt_of_get hp), ?_⟩
    rw [List.count_singleton_self]; lia
  · exact ⟨u, by rw [List.getElem?_set_ne e]; exact h1, by rw [List.count_eq_zero_of_not_mem (l := [y]) fun m => e (List.mem_singleton.mp m).symm]; exact h2⟩
theorem cl_succ {d : GD} {L A B : List Nat} {y v : Nat} (hll : L.length = d.R.length) (cl : ∀ (k : Nat) (p : Nat × List Nat), d.R[k]? = some p → L[k]? = some 0 → p.1 ∈ A) {p : Nat × List Nat} (hp : d.R[y]? = some p) (s : ∀ x ∈ A, x ∈ B) (h0 : v = 0 → p.1 ∈ B) :
    ∀ (k : Nat) (p : Nat × List Nat), d.R[k]? = some p → (L.set y v)[k]? = some 0 → p.1 ∈ B := fun k p' hk hz => by
  by_cases e : y = k
  · subst e
    cases hp.symm.trans hk
    exact h0 (Option.some.inj ((List.getElem?_set_self (hll ▸ lt_of_get hp)).symm.trans hz))
  · rw [List.getElem?_set_ne e] at hz
    exact s _ (cl k p' hk hz)
theorem spread_3 (hg : GramAt H₀ a d) (hd : GOk d) (b : SpB H₀ P) (hun : P.ur.length = d.names.length) (hU : ∀ (x k : Nat) (l : List Nat), U[x]? = some l → l.count k = (rt d.R k).count x)
    {F₀ : List Bool} {W₀ : List Nat} {H : AH} (h : S2 H₀ d P (d.R.map (·.2.length)) U d.R.length F₀ W₀ H) {s4 s7 s8 : Option AV}
    (k : ∀ H' N, Ext H₀ H' → NulOk d N → H'[P.fo]? = some (.list (boolsL N)) → K H' (.ref P.fo)) :
    blF (mi theFn (n + 10)) (outK K) (b13.drop 6) (rS a kn P s4 s7 s8 none none none) H := by
  refine WhW.mk (σ := List Bool × List Nat × List Nat × Nat × Option AV × Option AV) (fun s => rS a kn P s4 s7 s8 (oI s.2.2.2.1) s.2.2.2.2.1 s.2.2.2.2.2) (fun m s H => S3 H₀ d P U m s.2.2.2.1 s.1 s.2.1 s.2.2.1 H) (fun m s H h => ?_) (k := d.names.length) (s := (F₀, d.R.map (·.2.length), W₀, 0, none, none))
    ⟨h.sp, h.fn, Nat.zero_le _, List.length_map .., fun k p hp => by rw [get_map hp, List.take_zero, cnt_nil], fun p hp h0 => h.nl p (by rw [take_all (Nat.le_refl _)]; exact hp) (by rw [List.take_zero, cnt_nil] at h0; exact List.eq_nil_of_length_eq_zero h0), rfl⟩
  refine Lk.mk h.sp.q <| br.ltL (fun hlt => ?_) fun hge => ?_
  · obtain ⟨q, hq⟩ := get_ex hlt
    have hqn := h.fn.lt q (mem_of hq)
    obtain ⟨ru, hu1⟩ := get_ex (l := P.ur) (hun ▸ hqn)
    obtain ⟨l, hu2⟩ := get_ex (l := U) (h.sp.ul ▸ lt_of_get hu1)
    have hqP : q ∉ s.2.2.1.take s.2.2.2.1 := fun hm => by
      obtain ⟨i, hi⟩ := List.mem_iff_getElem?.mp hm
      have h1 := lt_of_get hi
      rw [List.length_take] at h1
      have h2 := Nat.lt_of_lt_of_le h1 (Nat.min_le_left _ _)
      rw [List.getElem?_take, if_pos h2] at hi
      exact Nat.ne_of_lt h2 (nodup_get h.fn.nd hi hq)
    have hPq := take_succ_get hq
    have hcs : ∀ r, cnt r (s.2.2.1.take (s.2.2.2.1 + 1)) + r.count q = cnt r (s.2.2.1.take s.2.2.2.1) := fun r => by rw [hPq]; exact cnt_snoc hqP
    refine Lk.mk h.sp.q <| okW.mk (ints_at hq) <| Lk.mk h.sp.u <| okW.mk (refs_at hu1) <| Lk.mk (h.sp.uu q ru l hu1 hu2) ?_
    refine ForW.mk (xs := intsL l) (σ := List Bool × List Nat × List Nat × Option AV × Option AV) (fun u => rS a kn P s4 s7 s8 (oI s.2.2.2.1) u.2.2.2.1 u.2.2.2.2) (fun j u H => S3b H₀ d P U s.2.2.2.1 s.2.2.1 l j u.1 u.2.1 u.2.2.1 H) (fun j u H g => .lst (g.sp.uu q ru l hu1 hu2)) (fun j y u H hy g => ?_) (fun u H g => ?_)
      (s := (s.1, s.2.1, [], s.2.2.2.2.1, s.2.2.2.2.2)) ⟨(List.append_nil s.2.2.1).symm ▸ h.sp, (List.append_nil s.2.2.1).symm ▸ h.fn, h.ll, fun k p hp => ⟨_, h.lv k p hp, rfl⟩, fun k p hp h0 => by
        rw [h.lv k p hp] at h0
        exact List.mem_append_left _ (h.cl p (mem_of hp) (Option.some.inj h0))⟩
    · refine map_get hy fun y hy => ?_
      have hc1 : (l.take (j + 1)).count y = (l.take j).count y + 1 := by rw [take_succ_get hy, List.count_append, List.count_singleton_self]
      have hc2 : (l.take (j + 1)).count y ≤ l.count y := (List.take_sublist _ _).count_le _
      have hc3 := hU q y l hu2
      have hyR : y < d.R.length := Nat.lt_of_not_le fun e => by
        rw [rt_none e, List.count_nil] at hc3; lia
      obtain ⟨p, hp⟩ := get_ex hyR
      have hpm := mem_of hp
      obtain ⟨v, hv, hvc⟩ := g.lv y p hp
      have hcs := hcs p.2
      rw [rt_at hp] at hc3
      obtain ⟨v, rfl⟩ : ∃ v', v = v' + 1 := ⟨v - 1, by lia⟩
      obtain ⟨hr1, hr2⟩ := hg.rule y p hp
      have hlt' := (hd.left p hpm).2
      have z := g.sp.setL (L' := u.2.1.set y v) b
      rw [← ints_set] at z
      have hgz := hg.ext z.ext
      have hvv : (intsL u.2.1).set y (.int v) = intsL (u.2.1.set y v) := ints_set
      have hz : (intsL (u.2.1.set y v))[y]? = some (.int v) := ints_at (List.getElem?_set_self (g.ll.symm ▸ hyR))
      have lv' := lv_succ g.ll hy g.lv hp hv
      refine okW.mk rfl <| Lk.mk g.sp.l <| okW.mk (ints_at hv) <| dec1 <| Lk.mk g.sp.l <| Gd.mk (by rw [ints_len, g.ll]; exact hyR) <| Lk.mk hgz.g.1 <| Lk.mk hgz.rl.1 <| okW.mk (refs_at hr1) <| Lk.mk (hr2.ext z.ext).1 <| Lk.mk z.l <| okW.mk hz <| br.dec (fun h0 => ?_) fun h0 => ?_
      · have h0 : v = 0 := Int.ofNat.inj h0
        refine Lk.mk z.f <| okW.mk (bools_at (g.fn.f _ hlt')) <| br.not <| br.dec (fun c => ?_) fun c => ?_
        · rw [hvv] at z ⊢
          exact AtI.mk (s := (u.1, u.2.1.set y v, u.2.2.1, oI y, oI p.1)) ⟨z, g.fn, List.length_set.trans g.ll, lv', cl_succ g.ll g.cl hp (fun _ h => h) fun _ => c⟩
        · have hzz : ∀ z ∈ p.2, z ∈ s.2.2.1 ++ u.2.2.1 := fun z hz => List.mem_append_left _ (List.mem_of_mem_take (cnt_zero.mp (show cnt p.2 (s.2.2.1.take (s.2.2.2.1 + 1)) = 0 by lia) z hz))
          have hder : Der d.R [p.1] [] := Der.one (r := p.2) hpm (Der.null (N := fun z => z ∈ s.2.2.1 ++ u.2.2.1) g.fn.sound hzz)
          have fn' := g.fn.add c hlt' hder
          have z2 := z.setF (F' := u.1.set p.1 true) b
          rw [hvv] at z2
          have z3 := z2.setQ (W' := s.2.2.1 ++ u.2.2.1 ++ [p.1]) b
          rw [← bools_set] at z2
          rw [← bools_set, ← ints_app] at z3
          rw [hvv] at z ⊢
          refine Lk.mk z.f <| Gd.mk (by rw [List.length_map, g.fn.len]; exact hlt') <| Lk.mk z2.q <| Lk.mk z2.q <| Gd.mk (by rw [ints_len]; exact lidL (Nat.le_trans (g.fn.le hd) (by decide))) <| AtI.mk (s := (u.1.set p.1 true, u.2.1.set y v, u.2.2.1 ++ [p.1], oI y, oI p.1)) ?_
          rw [List.append_assoc] at fn' z3
          exact ⟨z3, fn', List.length_set.trans g.ll, lv', cl_succ g.ll g.cl hp (fun x hx => by rw [← List.append_assoc]; exact List.mem_append_left _ hx) fun _ => by rw [← List.append_assoc]; exact List.mem_append_right _ (.head _)⟩
      · rw [hvv] at z ⊢
        exact AtI.mk (s := (u.1, u.2.1.set y v, u.2.2.1, oI y, oI p.1)) ⟨z, g.fn, List.length_set.trans g.ll, lv', cl_succ g.ll g.cl hp (fun _ h => h) fun e => absurd (congrArg Int.ofNat e) h0⟩
    · have hle := h.le
      have hm := h.hm
      have hlm : s.2.2.1.length ≤ d.names.length := nodup_lt_len h.fn.nd h.fn.lt
      have htk : (s.2.2.1 ++ u.2.2.1).take (s.2.2.2.1 + 1) = s.2.2.1.take (s.2.2.2.1 + 1) := List.take_append_of_le_length hlt
      have lv' : ∀ (k : Nat) (p : Nat × List Nat), d.R[k]? = some p → u.2.1[k]? = some (cnt p.2 (s.2.2.1.take (s.2.2.2.1 + 1))) := fun k p hp => by
        obtain ⟨v, g1, g2⟩ := g.lv k p hp
        rw [ints_len, List.take_length, hU q k l hu2, rt_at hp] at g2
        rw [g1]; exact congrArg some (Nat.add_right_cancel (g2.trans (hcs p.2).symm))
      refine LtI.mk (k' := m - 1) (s := (u.1, u.2.1, s.2.2.1 ++ u.2.2.1, s.2.2.2.1 + 1, u.2.2.2.1, u.2.2.2.2)) (by lia) ⟨g.sp, g.fn, by rw [List.length_append]; exact Nat.le_trans hlt (Nat.le_add_right _ _), g.ll, fun k p hp => htk ▸ lv' k p hp, fun p hp h0 => ?_, by lia⟩
      rw [htk] at h0
      obtain ⟨k, hk⟩ := List.mem_iff_getElem?.mp hp
      exact g.cl k p hk (by rw [lv' k p hk, h0])
  · have hat : s.2.2.1.take s.2.2.2.1 = s.2.2.1 := take_all (Nat.le_of_not_lt hge)
    refine k H s.1 h.sp.ext ⟨h.fn.len, fun p hp hy => ?_, fun x hx => ?_⟩ h.sp.f
    · rw [h.fn.f _ (hd.left p hp).2]
      refine congrArg some (decide_eq_true (h.cl p hp (cnt_zero.mpr fun y hym => ?_)))
      have h2 := hy y hym
      rw [h.fn.f y (hd.rsym p hp y hym)] at h2
      rw [hat]; exact of_decide_eq_true (Option.some.inj h2)
    · have hxl := lt_of_get hx
      rw [h.fn.len] at hxl
      rw [h.fn.f x hxl] at hx
      exact h.fn.sound x (of_decide_eq_true (Option.some.inj hx))
end
end Mine.C
end
section
set_option autoImplicit false
set_option Elab.async false
set_option maxRecDepth 10000
namespace Mine.C
open PySem

section
variable {H : AH} {a : GA} {d : GD} {n kn : Nat} {K : AH → AV → Prop}
theorem spread_ok (hg : GramAt H a d) (hd : GOk d) (hk : H[kn]? = some (.list (boolsL (List.replicate d.names.length false))))
    (k : ∀ H' N, Ext H H' → NulOk d N → H'[H.length]? = some (.list (boolsL N)) → K H' (.ref H.length)) :
    Cw (mi theFn (n + 60)) (.fn 13) [.ref a.g, .ref kn] H K := by
  refine fnM theFn_13 <| Lk.mk hk <| Lk.mk (get_new look_new) ?_
  refine comp_lists (it := .lst H.length) (xs := boolsL (List.replicate d.names.length false)) (fun H' e => .lst (e.get (get_new look_new))) (by rw [List.length_map, List.length_replicate]; exact Nat.le_trans hd.n8 (by decide)) fun H₁ h₁ => ?_
  obtain ⟨e₁, hus, hun, hnd, hur⟩ := h₁
  rename_i ur
  rw [List.length_map, List.length_replicate] at hun
  rw [len_new] at hus hur ⊢
  rw [len_new] at hus hur ⊢
  have hfo := e₁.get (get_new look_new)
  have hla := e₁.get look_new
  rw [len_new] at hla
  have hls := lt_of_get hus
  have l0 : H.length < H.length + 1 := Nat.lt_succ_self _
  have l1 : H.length + 1 < H.length + 1 + 1 := Nat.lt_succ_self _
  have hF0 : ∀ x, x < d.names.length → (List.replicate d.names.length false)[x]? = some false := fun x hx => by rw [List.getElem?_replicate, if_pos hx]
  have b : SpB H ⟨H.length, H.length + 1, H.length + 1 + 1, H₁.length, ur⟩ := ⟨Nat.le_refl _, Nat.le_succ _, Nat.le_of_lt (Nat.lt_trans l0 (Nat.lt_trans l1 hls)), fun r hr => Nat.le_of_lt (Nat.lt_trans l0 (Nat.lt_trans l1 (hur r hr).1)),
    Nat.ne_of_lt l0, Nat.ne_of_lt (Nat.lt_trans l0 l1), Nat.ne_of_lt (Nat.lt_trans l0 (Nat.lt_trans l1 hls)), Nat.ne_of_lt l1, Nat.ne_of_lt (Nat.lt_trans l1 hls), Nat.ne_of_lt hls,
    fun r hr => Nat.ne_of_gt (Nat.lt_trans l0 (Nat.lt_trans l1 (hur r hr).1)), fun r hr => Nat.ne_of_gt (Nat.lt_trans l1 (hur r hr).1), fun r hr => Nat.ne_of_gt (hur r hr).1, fun r hr => Nat.ne_of_lt (lt_of_get (hur r hr).2), hnd⟩
  have sp : SpAt H (H₁ ++ [.list []]) ⟨H.length, H.length + 1, H.length + 1 + 1, H₁.length, ur⟩ (List.replicate d.names.length false) [] (List.replicate ur.length []) [] :=
    ⟨(Ext.refl.new.new.trans e₁).new, get_new hfo, get_new hla, get_new hus, look_new, List.length_replicate, fun x r l h1 h2 => by
      rw [List.getElem?_replicate, if_pos (lt_of_get h1)] at h2
      cases h2
      exact get_new (hur r (mem_of h1)).2⟩
  rw [len_new]
  refine okW.mk rfl <| okW.mk rfl <| okW.mk rfl ?_
  show blF (mi theFn (n + 58)) (outK K) _ _ _
  refine spread_1 (n := n + 48) (P := ⟨H.length, H.length + 1, H.length + 1 + 1, H₁.length, ur⟩) (F₀ := List.replicate d.names.length false) (U := List.replicate ur.length []) (s4 := none) (s7 := none) (s8 := none) hg hd b hun hF0 ⟨sp, fun x k l hx => ?_⟩ fun s4 s7 s8 U H₂ h₂ => ?_
  · have hl : l = [] := by
      rw [List.getElem?_replicate] at hx
      split at hx
      · exact (Option.some.inj hx).symm
      · cases hx
    rw [hl, List.take_zero]; exact ⟨rfl, Nat.le_refl _⟩
  have sp2 := h₂.sp
  have cn2 := h₂.cn
  rw [take_all (Nat.le_refl _)] at sp2 cn2
  exact spread_2 (n := n + 48) hg hd b (F₀ := List.replicate d.names.length false) ⟨List.length_replicate, .nil, (fun _ h => nomatch h), fun x hx => by rw [hF0 x hx]; rfl, fun _ h => nomatch h⟩ sp2 fun s7 F W H₃ h₃ => spread_3 (n := n + 48) hg hd b hun (fun x k l h => (cn2 x k l h).1) h₃ k
theorem nullable_ok (hg : GramAt H a d) (hd : GOk d) (k : ∀ r H' N, Ext H H' → H.length ≤ r → NulOk d N → H'[r]? = some (.list (boolsL N)) → K H' (.ref r)) :
    Cw (mi theFn (n + 80)) (.fn 14) [.ref a.g] H K := by
  refine fnM theFn_14 <| Lk.mk (hg.ext .app).g.1 <| count_ok (hg.ext .app) <| Lk.mk look_new <| Gd.mk (lidE (Nat.le_trans hd.n8 (by decide))) ?_
  refine spread_ok (hg.ext (Ext.refl.new.new)) hd (look_new.trans (congrArg _ (congrArg _ List.map_replicate.symm))) fun H' N e hN hf => k _ H' N (Ext.refl.new.new.trans e) ?_ hN hf
  rw [len_new, len_new]; exact Nat.le_succ_of_le (Nat.le_succ _)
end
end Mine.C
end
section
set_option autoImplicit false
set_option Elab.async false
set_option maxRecDepth 10000
namespace Mine.C
open PySem

abbrev NulP (N : List Bool) (z : Nat) : Prop := N[z]? = some true
/-- t comes of a row's beginning -/
inductive Brings (N : List Bool) (F xs : List Nat) (t : Nat) : Prop
  | mk {pre : List Nat} {y : Nat} {post : List Nat} {f : Nat} (e : xs = pre ++ y :: post) (n : ∀ z ∈ pre, NulP N z) (g : F[y]? = some f) (b : f.testBit t = true)
/-- what first_of gives of a row -/
noncomputable def FoOk (N : List Bool) (F xs : List Nat) (m : Nat) : Prop := ∀ t, m.testBit t = true ↔ Brings N F xs t
theorem bit_or {m f t : Nat} : (m ||| f).testBit t = true ↔ (m.testBit t = true ∨ f.testBit t = true) := by rw [Nat.testBit_or, Bool.or_eq_true]
theorem foOk_snoc {N : List Bool} {F xs : List Nat} {m y f : Nat} (h : FoOk N F xs m) (hz : ∀ z ∈ xs, NulP N z) (hf : F[y]? = some f) : FoOk N F (xs ++ [y]) (m ||| f) := fun t => by
  rw [bit_or, h t]
  constructor
  · rintro (⟨e, n, g, b⟩ | b)
    · exact ⟨by rw [e, List.append_assoc]; rfl, n, g, b⟩
    · exact ⟨rfl, hz, hf, b⟩
  · rintro ⟨e, n, g, b⟩
    rename_i pre z post f'
    rcases List.eq_nil_or_concat post with rfl | ⟨post', w, rfl⟩
    · have h5 := List.append_inj' e rfl
      cases h5.2
      cases hf.symm.trans g
      exact .inr b
    · rw [List.concat_eq_append] at e
      have h5 := List.append_inj' (e.trans (List.append_assoc pre (z :: post') [w]).symm) rfl
      exact .inl ⟨h5.1, n, g, b⟩
theorem foOk_cut {N : List Bool} {F xs : List Nat} {m y i : Nat} (h : FoOk N F (xs.take (i + 1)) m) (hy : xs[i]? = some y) (hc : N[y]? = some false) : FoOk N F xs m := fun t => by
  rw [h t]
  constructor
  · rintro ⟨e, n, g, b⟩
    rename_i pre z post f'
    refine Brings.mk (post := post ++ xs.drop (i + 1)) ((List.take_append_drop (i + 1) xs).symm.trans ?_) n g b
    rw [e, List.append_assoc]; rfl
  · rintro ⟨e, n, g, b⟩
    rename_i pre z post f'
    have hp : pre.length ≤ i := by
      rcases Nat.lt_or_ge i pre.length with hlt | hge
      · rw [e, List.getElem?_append_left hlt] at hy
        exact absurd (hc.symm.trans (n y (mem_of hy))) (by decide)
      · exact hge
    refine Brings.mk (post := post.take (i - pre.length)) ?_ n g b
    rw [e, List.take_append, take_all (Nat.le_succ_of_le hp), Nat.succ_sub hp, List.take_succ_cons]
structure FoI (H : AH) (N : List Bool) (F xs : List Nat) (i m : Nat) (H' : AH) : Prop where
  e : H' = H
  ok : FoOk N F (xs.take i) m
  z : ∀ z ∈ xs.take i, NulP N z
section
variable {H : AH} {n : Nat} {K : AH → AV → Prop}
theorem firstOf_ok {nr fr : Nat} {N : List Bool} {F xs : List Nat} (hN : H[nr]? = some (.list (boolsL N))) (hF : H[fr]? = some (.list (intsL F))) (hxN : ∀ x ∈ xs, x < N.length) (hxF : F.length = N.length)
    (k : ∀ (m : Nat) (b : Bool), FoOk N F xs m → K H (.tup [.int m, .bool b])) : Cw (mi theFn (n + 20)) (.fn 15) [.tup (intsL xs), .ref nr, .ref fr] H K := by
  refine fnM theFn_15 <| ForW.mk (σ := Nat × Option AV) (fun s => [some (.tup (intsL xs)), some (.ref nr), some (.ref fr), oI s.1, s.2]) (fun i s H' => FoI H N F xs i s.1 H') (fun _ _ _ _ => .tup) (fun i x s H' hx h => ?_) (fun s H' h => ?_) (s := (0, none)) ⟨rfl, fun t => ⟨fun h => absurd h (by rw [Nat.zero_testBit]; decide), fun ⟨e, _, _, _⟩ => by cases List.append_eq_nil_iff.mp e.symm with | intro _ h => exact nomatch h⟩, fun _ h => nomatch h⟩
  · have e := h.e
    subst e
    refine map_get hx fun y hy => ?_
    have hyN := hxN y (mem_of hy)
    obtain ⟨f, hf⟩ := get_ex (l := F) (hxF ▸ hyN)
    obtain ⟨c, hc⟩ := get_ex hyN
    have ok := foOk_snoc h.ok h.z hf
    rw [← take_succ_get hy] at ok
    refine okW.mk rfl <| Lk.mk hF <| okW.mk (ints_at hf) <| Lk.mk hN <| okW.mk (bools_at hc) ?_
    cases c with
    | true => exact AtI.mk (s := (s.1 ||| f, oI y)) ⟨rfl, ok, fun z hz => mem_snoc (take_succ_get hy ▸ hz) (h.z z) fun e => e ▸ hc⟩
    | false => exact k _ _ (foOk_cut ok hy hc)
  · have e := h.e
    subst e
    have ok := h.ok
    rw [List.length_map, take_all (Nat.le_refl _)] at ok
    exact k _ _ ok
end
/-- masks that hold nothing false -/
structure MasksOk (d : GD) (N : List Bool) (F : List Nat) : Prop where
  len : F.length = d.names.length
  sound : ∀ (x f t : Nat), F[x]? = some f → f.testBit t = true → t < d.tc ∧ FirstR d.R (NulP N) x t
  own : ∀ x, x < d.tc → ∃ f, F[x]? = some f ∧ f.testBit x = true
/-- nothing more comes of a rule -/
noncomputable def Shut (N : List Bool) (F : List Nat) (p : Nat × List Nat) : Prop := ∀ t, Brings N F p.2 t → ∃ g, F[p.1]? = some g ∧ g.testBit t = true
/-- what first_masks gives -/
structure FirstsOk (d : GD) (N : List Bool) (F : List Nat) : Prop extends MasksOk d N F where
  full : ∀ x t, t < d.tc → FirstR d.R (NulP N) x t → ∃ f, F[x]? = some f ∧ f.testBit t = true
theorem MasksOk.b {d : GD} (hd : GOk d) {N : List Bool} {F : List Nat} (h : MasksOk d N F) {x f : Nat} (hx : F[x]? = some f) : f ≤ 255 := by
  refine Nat.le_of_lt_succ (Nat.lt_pow_two_of_testBit (n := 8) f fun i hi => ?_)
  have h8 := hd.n8
  have ht := hd.tcn
  cases hb : f.testBit i with
  | false => rfl
  | true => have := (h.sound x f i hx hb).1; lia
theorem MasksOk.full {d : GD} {N : List Bool} {F : List Nat} (h : MasksOk d N F) (hs : ∀ p ∈ d.R, Shut N F p) : FirstsOk d N F := by
  refine ⟨h, fun x t ht hf => ?_⟩
  induction hf with
  | refl t => exact h.own t ht
  | step hm hp _ ih =>
    obtain ⟨f, h1, h2⟩ := ih ht
    exact hs _ hm _ ⟨rfl, hp, h1, h2⟩
theorem sum_le_mul {b : Nat} : ∀ {l : List Nat}, (∀ x ∈ l, x ≤ b) → l.sum ≤ l.length * b
  | [], _ => Nat.zero_le _
  | x :: r, h => by
    have h2 := sum_le_mul fun y hy => h y (List.mem_cons_of_mem _ hy)
    rw [List.sum_cons, List.length_cons, Nat.succ_mul, Nat.add_comm]
    exact Nat.add_le_add h2 (h x (.head _))
theorem sum_set {y : Nat} : ∀ {l : List Nat} {i x : Nat}, l[i]? = some x → (l.set i y).sum + x = l.sum + y
  | [], _, _, h => by rw [List.getElem?_nil] at h; cases h
  | z :: r, 0, x, h => by cases h; rw [List.set_cons_zero, List.sum_cons, List.sum_cons]; lia
  | z :: r, i + 1, x, h => by
    have := sum_set (y := y) (l := r) (i := i) (x := x) h
    rw [List.set_cons_succ, List.sum_cons, List.sum_cons]; lia
theorem MasksOk.sum_le {d : GD} (hd : GOk d) {N : List Bool} {F : List Nat} (h : MasksOk d N F) : F.sum ≤ 2040 := by
  have h1 := sum_le_mul (l := F) (b := 255) fun x hx => let ⟨i, hi⟩ := List.mem_iff_getElem?.mp hx; h.b hd hi
  have h2 := h.len
  have h8 := hd.n8
  exact Nat.le_trans h1 (Nat.mul_le_mul_right 255 (h2 ▸ h8))
theorem MasksOk.add {d : GD} {N : List Bool} {F : List Nat} {p : Nat × List Nat} {f m : Nat} (hF : MasksOk d N F) (hpm : p ∈ d.R) (hf : F[p.1]? = some f) (hm : FoOk N F p.2 m) : MasksOk d N (F.set p.1 (f ||| m)) := by
  have hl := lt_of_get hf
  refine ⟨List.length_set.trans hF.len, fun x g t hx hb => ?_, fun x hx => ?_⟩
  · by_cases hxp : p.1 = x
    · subst hxp
      cases (List.getElem?_set_self hl).symm.trans hx
      rcases bit_or.mp hb with b | b
      · exact hF.sound _ f t hf b
      · obtain ⟨e, n, g', b'⟩ := (hm t).mp b
        have h3 := hF.sound _ _ t g' b'
        exact ⟨h3.1, .step (by rw [← e]; exact hpm) n h3.2⟩
    · rw [List.getElem?_set_ne hxp] at hx
      exact hF.sound x g t hx hb
  · by_cases hxp : p.1 = x
    · subst hxp
      obtain ⟨g, g1, g2⟩ := hF.own _ hx
      cases hf.symm.trans g1
      exact ⟨f ||| m, List.getElem?_set_self hl, bit_or.mpr (.inl g2)⟩
    · rw [List.getElem?_set_ne hxp]
      exact hF.own x hx
theorem MasksOk.base {d : GD} (hd : GOk d) (N : List Bool) : MasksOk d N ((List.range d.names.length).map fun x => if x < d.tc then 2 ^ x else 0) := by
  refine ⟨by rw [List.length_map, List.length_range], fun x f t hx hb => ?_, fun x hx => ⟨2 ^ x, ?_, Nat.testBit_two_pow_self⟩⟩
  · have hl := lt_of_get hx
    rw [List.length_map, List.length_range] at hl
    rw [List.getElem?_map, List.getElem?_range hl] at hx
    have hx : (if x < d.tc then 2 ^ x else 0) = f := Option.some.inj hx
    by_cases hc : x < d.tc
    · rw [if_pos hc] at hx
      rw [← hx, Nat.testBit_two_pow] at hb
      cases of_decide_eq_true hb
      exact ⟨hc, .refl _⟩
    · rw [if_neg hc] at hx
      rw [← hx, Nat.zero_testBit] at hb; cases hb
  · rw [List.getElem?_map, List.getElem?_range (Nat.lt_trans hx hd.tcn)]
    exact congrArg some (if_pos hx)

structure FmW (H : AH) (d : GD) (N : List Bool) (m : Nat) (F : List Nat) (b : Bool) (H' : AH) : Prop where
  e : H' = H ++ [.list (intsL F)]
  ok : MasksOk d N F
  sh : b = false → ∀ p ∈ d.R, Shut N F p
  hm : m = 2040 - F.sum + (if b = true then 1 else 0)
structure FmL (H : AH) (d : GD) (N : List Bool) (F₀ : List Nat) (i : Nat) (F : List Nat) (b : Bool) (H' : AH) : Prop where
  e : H' = H ++ [.list (intsL F)]
  ok : MasksOk d N F
  gt : b = true → F₀.sum < F.sum
  eq : b = false → F = F₀
  sh : b = false → ∀ p ∈ d.R.take i, Shut N F p
abbrev oB (b : Bool) : Option AV := some (.bool b)
section
variable {H : AH} {a : GA} {d : GD} {n : Nat} {K : AH → AV → Prop}
noncomputable def rM (a : GA) (nr fr : Nat) (u3 u4 u5 u6 : Option AV) : Ro := [oR a.g, oR nr, oR fr, u3, u4, u5, u6]
theorem firstMasks_ok (hg : GramAt H a d) (hd : GOk d) (k : ∀ r H' N F, Ext H H' → H.length ≤ r → NulOk d N → FirstsOk d N F → H'[r]? = some (.list (intsL F)) → K H' (.ref r)) :
    Cw (mi theFn (n + 90)) (.fn 16) [.ref a.g] H K := by
  refine fnM theFn_16 <| nullable_ok hg hd fun nr H₁ N e₁ hnr hN hfN => ?_
  have hg1 := hg.ext e₁
  refine Lk.mk (hg1.ext .app).g.1 <| count_ok (hg1.ext .app) <| Gd.mk (lidL (Nat.le_trans hd.n8 (by decide))) ?_
  refine ForW.mk (xs := intsL (List.range d.names.length)) (σ := Option AV) (fun u => rM a nr H₁.length u none none none) (fun i _ H' => H' = H₁ ++ [.list (intsL ((List.range i).map fun x => if x < d.tc then 2 ^ x else 0))]) (fun _ _ _ _ => Src.up) (fun i x s H' hx h => ?_) (fun s H' h => ?_) (s := none) rfl
  · subst h
    refine map_get hx fun x hx => ?_
    obtain ⟨rfl, hi⟩ := range_at hx
    have hl : ((List.range x).map fun x => if x < d.tc then 2 ^ x else 0).length ≤ 60 := by rw [List.length_map, List.length_range]; exact Nat.le_trans (Nat.le_of_lt hi) (Nat.le_trans hd.n8 (by decide))
    refine okW.mk rfl <| Lk.mk look_new <| Lk.mk (hg1.ext .app).g.1 <| isTerm_ok (hg1.ext .app) <| br.ltN (fun hc => ?_) fun hc => ?_
    · refine Gd.mk ⟨by decide, Nat.lt_trans hi (Nat.lt_of_le_of_lt hd.n8 (by decide))⟩ <| Lk.mk look_new <| Gd.mk (by rw [ints_len]; exact lidL hl) <| AtI.mk (s := oI x) ?_
      rw [set_new, Nat.one_mul, List.range_succ, List.map_append, ← ints_app]
      exact congrArg (fun z => H₁ ++ [AO.list (_ ++ [AV.int (z : Nat)])]) (if_pos hc).symm
    · refine Lk.mk look_new <| Gd.mk (by rw [ints_len]; exact lidL hl) <| AtI.mk (s := oI x) ?_
      rw [set_new, List.range_succ, List.map_append, ← ints_app]
      exact congrArg (fun z => H₁ ++ [AO.list (_ ++ [AV.int (z : Nat)])]) (if_neg hc).symm
  · subst h
    rw [List.length_map, List.length_range]
    refine WhW.mk (σ := List Nat × Bool × Option AV × Option AV) (fun t => rM a nr H₁.length s (oB t.2.1) t.2.2.1 t.2.2.2) (fun m t H' => FmW H₁ d N m t.1 t.2.1 H') (fun m t H' h => ?_) (k := 2040 - _ + 1) (s := (_, true, none, none)) ⟨rfl, .base hd N, (fun h => nomatch h), rfl⟩
    have he := h.e
    subst he
    have hF := h.ok
    have hmm := h.hm
    refine br.any (fun hb => ?_) fun hb => ?_
    · have hg2 := hg1.ext (.app (X := [.list (intsL t.1)]))
      refine Lk.mk hg2.g.1 <| Lk.mk hg2.rl.1 ?_
      refine ForW.mk (xs := refsL a.rr) (σ := List Nat × Bool × Option AV × Option AV) (fun u => rM a nr H₁.length s (oB u.2.1) u.2.2.1 u.2.2.2) (fun i u H' => FmL H₁ d N t.1 i u.1 u.2.1 H') (fun i u H' h => .lst (h.e ▸ (hg1.ext .app).rl.1)) (fun i x u H' hx h => ?_) (fun u H' h => ?_) (s := (t.1, false, t.2.2.1, t.2.2.2)) ⟨rfl, hF, (fun h => nomatch h), fun _ => rfl, fun _ _ h => nomatch h⟩
      · have he := h.e
        subst he
        have hg3 := hg1.ext (.app (X := [.list (intsL u.1)]))
        refine GramAt.ruleEl hx hg3 fun p r w hp hr1 hr2 => ?_
        have hpm := mem_of hp
        have hr2 := hr2.1
        obtain ⟨f, hf⟩ := get_ex (l := u.1) (i := p.1) (by rw [h.ok.len]; exact (hd.left p hpm).2)
        refine okW.mk rfl <| Lk.mk hr2 <| Lk.mk look_new <| okW.mk (ints_at hf) <| Lk.mk hr2 <| firstOf_ok (get_new hfN) look_new (fun x hx => by rw [hN.len]; exact hd.rsym p hpm x hx) (by rw [h.ok.len, hN.len]) fun m' bb hm' => ?_
        refine Lk.mk hr2 <| Lk.mk look_new <| okW.mk (ints_at hf) <| br.not <| br.dec (fun c => ?_) fun c => ?_
        · have c : f ||| m' = f := Int.ofNat.inj c
          refine AtI.mk (s := (u.1, u.2.1, oR r, oI (f ||| m' : Nat))) ⟨rfl, h.ok, h.gt, h.eq, fun hb q hq => ?_⟩
          rw [take_succ_get hp] at hq
          refine mem_snoc hq (h.sh hb q) fun e => e ▸ fun t' bt => ⟨f, hf, ?_⟩
          rw [← c]; exact bit_or.mpr (.inr ((hm' t').mpr bt))
        · have c : f ||| m' ≠ f := fun e => c (congrArg Int.ofNat e)
          have hs := sum_set (y := f ||| m') hf
          have hle : f ≤ f ||| m' := Nat.left_le_or
          refine Lk.mk hr2 <| Lk.mk look_new <| Gd.mk (by rw [ints_len]; exact lt_of_get hf) <| AtI.mk (s := (u.1.set p.1 (f ||| m'), true, oR r, oI (f ||| m' : Nat))) ⟨?_, h.ok.add hpm hf hm', fun _ => ?_, (fun h => nomatch h), fun h => nomatch h⟩
          · rw [set_new, ints_set]
          · have hlt : u.1.sum < (u.1.set p.1 (f ||| m')).sum := by lia
            cases hub : u.2.1 with
            | true => exact Nat.lt_trans (h.gt hub) hlt
            | false => rw [← h.eq hub]; exact hlt
      · have hsm := h.ok.sum_le hd
        have sh := h.sh
        rw [List.length_map, hg.rn, take_all (Nat.le_refl _)] at sh
        have hgt := h.gt
        rw [hb] at hmm
        cases hub : u.2.1 with
        | true =>
          refine LtI.mk (k' := 2040 - u.1.sum + 1) (s := (u.1, true, u.2.2.1, u.2.2.2)) ?_ ?_
          · have := hgt hub; rw [if_pos rfl] at hmm; lia
          exact ⟨h.e, h.ok, (fun h => nomatch h), rfl⟩
        | false =>
          refine LtI.mk (k' := 2040 - u.1.sum) (s := (u.1, false, u.2.2.1, u.2.2.2)) ?_ ?_
          · rw [h.eq hub, hmm, if_pos rfl]; exact Nat.lt_succ_self _
          exact ⟨h.e, h.ok, fun _ => sh hub, rfl⟩
    · exact k _ _ N t.1 e₁.new e₁.len hN (hF.full (h.sh hb)) look_new
end
end Mine.C
end
section
set_option autoImplicit false
set_option Elab.async false
set_option maxRecDepth 10000
namespace Mine.C
open PySem

structure BtI (H : AH) (b k x a : Nat) (xs : List Nat) (H' : AH) : Prop where
  e : H' = H ++ [.list (intsL xs)]
  fx : x < 2 ^ k
  fa : a + k = b
  fn : xs.length ≤ a
  pw : xs.Pairwise (· < ·)
  lt : ∀ y ∈ xs, y < a
section
variable {H : AH} {n : Nat} {K : AH → AV → Prop}
theorem bits_ok {m b : Nat} (hm : m < 2 ^ b) (hb : b ≤ 60) (k : ∀ xs : List Nat, xs.Pairwise (· < ·) → (∀ x ∈ xs, x < b) → K (H ++ [.list (intsL xs)]) (.ref H.length)) : Cw (mi theFn (n + 10)) (.fn 0) [.int m] H K := by
  refine fnM theFn_0 <| WhW.mk (σ := Nat × Nat × List Nat) (fun s => [oI m, oR H.length, oI s.2.1, oI s.1]) (fun k s H' => BtI H b k s.1 s.2.1 s.2.2 H') (fun k' s H' h => ?_) (k := b) (s := (m, 0, [])) ⟨rfl, hm, Nat.zero_add b, Nat.le_refl _, .nil, fun _ h => nomatch h⟩
  have he := h.e
  subst he
  have ha := h.fa
  refine br.dec (fun hx => ?_) fun _ => k _ h.pw fun y hy => Nat.lt_of_lt_of_le (h.lt y hy) (ha ▸ Nat.le_add_right _ _)
  cases k' with
  | zero => exact absurd (Int.ofNat_lt.mp hx) (Nat.not_lt_of_le (Nat.le_of_lt_succ h.fx))
  | succ k' =>
    have hx2 : s.1 >>> 1 < 2 ^ k' := Nat.div_lt_of_lt_mul (by have := h.fx; rw [Nat.pow_succ, Nat.mul_comm] at this; exact this)
    refine br.dec (fun _ => ?_) fun _ => ?_
    · refine Lk.mk look_new <| Lk.mk look_new <| Gd.mk (by rw [ints_len]; exact lidL (Nat.le_trans h.fn (Nat.le_trans (ha ▸ Nat.le_add_right _ _) hb))) <| LtI.mk (k' := k') (s := (s.1 >>> 1, s.2.1 + 1, s.2.2 ++ [s.2.1])) (Nat.lt_succ_self _) ⟨?_, hx2, by lia, ?_, ?_, fun y hy => mem_snoc hy (fun h' => Nat.lt_succ_of_lt (h.lt y h')) fun e => e ▸ Nat.lt_succ_self _⟩
      · rw [set_new, ← ints_app]; rfl
      · rw [List.length_append]; exact Nat.succ_le_succ h.fn
      · exact List.pairwise_append.mpr ⟨h.pw, List.pairwise_singleton .., fun y hy z hz => List.mem_singleton.mp hz ▸ h.lt y hy⟩
    · exact LtI.mk (k' := k') (s := (s.1 >>> 1, s.2.1 + 1, s.2.2)) (Nat.lt_succ_self _) ⟨rfl, hx2, by lia, Nat.le_succ_of_le h.fn, h.pw, fun y hy => Nat.lt_succ_of_lt (h.lt y hy)⟩

/-- rows of bits below b -/
structure TrI (H : AH) (b m : Nat) (ys : List Nat) (H' : AH) : Prop where
  e : H' = H ++ [.list (intsL ys)]
  n : ys.length = m
  b : ∀ x ∈ ys, x < 2 ^ b
theorem TrI.set {b m j f : Nat} {ys : List Nat} {H' : AH} (h : TrI H b m ys H') (hf : f < 2 ^ b) : TrI H b m (ys.set j f) (H'.set H.length (.list ((intsL ys).set j (.int f)))) :=
  ⟨by rw [h.e, set_new, ints_set], List.length_set.trans h.n, fun x hx => (List.mem_or_eq_of_mem_set hx).elim (h.b x) fun e => e ▸ hf⟩
theorem TrI.at {b m : Nat} {ys : List Nat} {H' : AH} (h : TrI H b m ys H') : H'[H.length]? = some (.list (intsL ys)) := h.e ▸ look_new
theorem transitive_ok {rr b : Nat} {xs : List Nat} (hr : H[rr]? = some (.list (intsL xs))) (hl : xs.length ≤ 8) (hx : ∀ x ∈ xs, x < 2 ^ b)
    (k : ∀ H' ys, TrI H b xs.length ys H' → K H' (.ref H.length)) : Cw (mi theFn (n + 20)) (.fn 17) [.ref rr] H K := by
  have h60 : ∀ {m : Nat}, m = xs.length → m < lid := fun e => lidL (e ▸ Nat.le_trans hl (by decide))
  refine fnM theFn_17 <| Lk.mk hr <| Lk.mk look_new <| Gd.mk (h60 ints_len) ?_
  refine ForW.mk (xs := intsL (List.range (intsL xs).length)) (σ := List Nat × Option AV × Option AV) (fun s => [oR rr, oR H.length, s.2.1, s.2.2]) (fun _ s H' => TrI H b xs.length s.1 H') (fun _ _ _ _ => Src.up) (fun i x s H' hi h => ?_) (fun s H' h => k H' _ h) (s := (xs, none, none)) ⟨rfl, rfl, hx⟩
  refine map_get hi fun x hi => ?_
  obtain ⟨rfl, hi⟩ := range_at hi
  rw [ints_len] at hi
  have h0 := h
  refine okW.mk rfl <| Lk.mk h.at <| Gd.mk (h60 (ints_len.trans h.n)) ?_
  refine ForW.mk (xs := intsL (List.range (intsL s.1).length)) (σ := List Nat × Option AV) (fun t => [oR rr, oR H.length, oI x, t.2]) (fun _ t H' => TrI H b xs.length t.1 H') (fun _ _ _ _ => Src.up) (fun j y t H' hj h => ?_) (fun t H' h => ?_) (s := (s.1, s.2.2)) h
  · refine map_get hj fun y hj => ?_
    obtain ⟨rfl, hj⟩ := range_at hj
    rw [ints_len, h0.n] at hj
    obtain ⟨f, hf⟩ := get_ex (l := t.1) (i := y) (h.n.symm ▸ hj)
    obtain ⟨g, hg⟩ := get_ex (l := t.1) (i := x) (h.n.symm ▸ hi)
    refine okW.mk rfl <| Lk.mk h.at <| okW.mk (ints_at hf) <| br.dec (fun _ => ?_) fun _ => AtI.mk (s := (t.1, oI y)) h
    exact Lk.mk h.at <| okW.mk (ints_at hf) <| Lk.mk h.at <| okW.mk (ints_at hg) <| Lk.mk h.at <| Gd.mk (by rw [ints_len, h.n]; exact hj) <| AtI.mk (s := (t.1.set y (f ||| g), oI y)) (TrI.set h (Nat.or_lt_two_pow (h.b f (mem_of hf)) (h.b g (mem_of hg))))
  · exact AtI.mk (s := (t.1, oI x, t.2)) h
end
structure CloserAt (H : AH) (c : Nat) (a : GA) (d : GD) (f : Nat) (xs : List Nat) : Prop where
  c : At H c (.inst 3 [(30, .ref a.g), (31, .ref f)])
  f : At H f (.list (intsL xs))
  len : xs.length = d.names.length
  b : ∀ x ∈ xs, x < 2 ^ d.names.length
theorem CloserAt.ext {H H' : AH} {c f : Nat} {a : GA} {d : GD} {xs : List Nat} (h : CloserAt H c a d f xs) (e : Ext H H') : CloserAt H' c a d f xs := ⟨h.c.ext e, h.f.ext e, h.len, h.b⟩
theorem shl_lt {y b : Nat} (h : y < b) : 1 * 2 ^ y < 2 ^ b := by rw [Nat.one_mul]; exact Nat.pow_lt_pow_right (by decide) h
section
variable {H : AH} {a : GA} {d : GD} {n : Nat} {K : AH → AV → Prop}
theorem closerInit_ok (hg : GramAt H a d) (hd : GOk d) (h2 : 2 ≤ H.length) (k : ∀ H' f xs, Ext H H' → CloserAt H' H.length a d f xs → K H' (.ref H.length)) : Cw (mi theFn (n + 40)) (.cls 3) [.ref a.g] H K := by
  have h8 := hd.n8
  refine clsM rfl <| fnM theFn_19 <| saNew rfl rfl ?_
  have hgI := hg.ext (Ext.refl.new (o := .inst 3 [(30, .ref a.g)]))
  refine Lk.mk (hgI.ext .app).g.1 <| count_ok (hgI.ext .app) <| Lk.mk look_new <| Gd.mk (lidE (Nat.le_trans h8 (by decide))) ?_
  have hg1 := hgI.ext (Ext.app (X := [AO.list [.int 0]]))
  have hg2 : ∀ {ys}, GramAt (H ++ [AO.inst 3 [(30, .ref a.g)]] ++ [AO.list [.int 0]] ++ [AO.list (intsL ys)]) a d := hg1.ext .app
  refine Lk.mk (hg1.ext .app).g.1 <| Lk.mk (hg1.ext .app).rl.1 ?_
  refine ForW.mk (xs := refsL a.rr) (σ := List Nat × Option AV) (fun s => [oR H.length, oR a.g, oR (H ++ [AO.inst 3 [(30, .ref a.g)]] ++ [AO.list [.int 0]]).length, s.2]) (fun _ s H' => TrI (H ++ [AO.inst 3 [(30, .ref a.g)]] ++ [AO.list [.int 0]]) d.names.length d.names.length s.1 H')
    (fun _ s H' h => .lst (by rw [h.e]; exact hg2.rl.1)) (fun i x s H' hx h => ?_) (fun s H' h => ?_) (s := (List.replicate d.names.length 0, none)) ⟨congrArg (fun z => _ ++ [AO.list z]) (show List.replicate d.names.length (AV.int 0) = intsL (List.replicate d.names.length 0) from by rw [intsL, List.map_replicate]; rfl), List.length_replicate, fun x hx => (List.mem_replicate.mp hx).2 ▸ Nat.two_pow_pos _⟩
  · have hg3 : GramAt H' a d := h.e ▸ hg2
    refine GramAt.ruleEl hx hg3 fun p r w hp hr1 hr2 => ?_
    have hr2 := hr2.1
    have hpm := mem_of hp
    refine okW.mk rfl <| Lk.mk hr2 <| br.dec (fun h0 => ?_) fun _ => AtI.mk (s := (s.1, oR r)) h
    obtain ⟨y, hy⟩ := get_ex (l := p.2) (i := 0) (ints_len ▸ Int.ofNat_lt.mp h0)
    obtain ⟨f, hf⟩ := get_ex (l := s.1) (i := p.1) (h.n.symm ▸ (hd.left p hpm).2)
    have hyn := hd.rsym p hpm y (mem_of hy)
    exact Lk.mk hr2 <| Lk.mk h.at <| okW.mk (ints_at hf) <| Lk.mk hr2 <| okW.mk (ints_at hy) <| Gd.mk ⟨by decide, Nat.lt_trans hyn (Nat.lt_of_le_of_lt h8 (by decide))⟩ <| Lk.mk hr2 <| Lk.mk h.at <| Gd.mk (by rw [ints_len]; exact lt_of_get hf) <| AtI.mk (s := (s.1.set p.1 (f ||| 1 * 2 ^ y), oR r)) (TrI.set h (Nat.or_lt_two_pow (h.b f (mem_of hf)) (shl_lt hyn)))
  · have hI : H'[H.length]? = some (.inst 3 [(30, .ref a.g)]) := by rw [h.e]; exact get_new (get_new look_new)
    have e1 : Ext H H' := by rw [h.e]; exact Ext.refl.new.new.new
    have hlt := lt_of_get hI
    refine transitive_ok h.at (h.n ▸ h8) h.b fun H₂ ys h₂ => ?_
    have e2 : Ext H' H₂ := by rw [h₂.e]; exact Ext.app
    refine saV (e2.get hI) rfl rfl fun H₃ s₃ => k H₃ H'.length ys (s₃.ext H (e1.trans e2) (Nat.le_refl _)) ⟨⟨s₃.at_, Nat.ne_of_gt h2⟩, ⟨s₃.old _ _ (Nat.ne_of_lt hlt) h₂.at, Nat.ne_of_gt (Nat.lt_of_le_of_lt (Nat.le_trans (by decide) h2) hlt)⟩, h₂.n.trans h.n, h₂.b⟩
end
end Mine.C
end
section
set_option autoImplicit false
set_option Elab.async false
set_option maxRecDepth 10000
namespace Mine.C
open PySem

theorem lt_new {H : AH} {o : AO} : H.length < (H ++ [o]).length := by rw [len_new]; exact Nat.lt_succ_self _
/-! ## Sorting -/
noncomputable section
def insN (x : Nat) : List Nat → List Nat
  | [] => [x]
  | y :: r => if x ≤ y then x :: y :: r else y :: insN x r
def sortN : List Nat → List Nat
  | [] => []
  | x :: r => insN x (sortN r)
end
abbrev castL (r : List Nat) : List Int := r.map fun (i : Nat) => (i : Int)
theorem insI_nat (x : Nat) : ∀ r : List Nat, insI (x : Int) (castL r) = castL (insN x r)
  | [] => rfl
  | y :: r => by
    show (if (x : Int) ≤ (y : Int) then (x : Int) :: (y : Int) :: castL r else (y : Int) :: insI (x : Int) (castL r)) = castL (if x ≤ y then x :: y :: r else y :: insN x r)
    by_cases h : x ≤ y
    · rw [if_pos h, if_pos (Int.ofNat_le.mpr h)]; rfl
    · rw [if_neg h, if_neg (fun e => h (Int.ofNat_le.mp e)), insI_nat x r]; rfl
theorem sortI_nat : ∀ r : List Nat, sortI (castL r) = castL (sortN r)
  | [] => rfl
  | y :: r => by
    show insI y (sortI (castL r)) = _
    rw [sortI_nat r, insI_nat]; rfl
theorem allInts_nat : ∀ r : List Nat, allInts (intsL r) = some (castL r)
  | [] => rfl
  | y :: r => by
    show optC (some (y : Int)) (allInts (intsL r)) = _
    rw [allInts_nat r]; rfl
section
variable {H : AH} {K : AH → AV → Prop}
theorem sort_ints {r : List Nat} (h : r.length < 64) (k : K (H ++ [.list (intsL (sortN r))]) (.ref H.length)) : sortL H K (intsL r) := by
  refine okW.mk (allInts_nat r) ⟨by rw [List.length_map]; exact h, ?_⟩
  rw [sortI_nat, List.map_map]; exact k
end
theorem insN_perm (x : Nat) : ∀ r : List Nat, (insN x r).Perm (x :: r)
  | [] => .refl _
  | y :: r => by
    show (if x ≤ y then x :: y :: r else y :: insN x r).Perm _
    by_cases h : x ≤ y
    · rw [if_pos h]
    · rw [if_neg h]; exact ((insN_perm x r).cons y).trans (.swap x y r)
theorem sortN_perm : ∀ r : List Nat, (sortN r).Perm r
  | [] => .refl _
  | y :: r => (insN_perm y _).trans ((sortN_perm r).cons y)
theorem insN_sorted (x : Nat) : ∀ {r : List Nat}, r.Pairwise (· ≤ ·) → (insN x r).Pairwise (· ≤ ·)
  | [], _ => List.pairwise_singleton ..
  | y :: r, h => by
    obtain ⟨h1, h2⟩ := List.pairwise_cons.mp h
    show (if x ≤ y then x :: y :: r else y :: insN x r).Pairwise _
    by_cases hxy : x ≤ y
    · rw [if_pos hxy]
      exact List.pairwise_cons.mpr ⟨fun z hz => (List.mem_cons.mp hz).elim (fun e => e ▸ hxy) fun hz => Nat.le_trans hxy (h1 z hz), h⟩
    · rw [if_neg hxy]
      exact List.pairwise_cons.mpr ⟨fun z hz => (List.mem_cons.mp ((insN_perm x r).mem_iff.mp hz)).elim (fun e => e ▸ Nat.le_of_not_le hxy) (h1 z), insN_sorted x h2⟩
theorem sortN_sorted : ∀ r : List Nat, (sortN r).Pairwise (· ≤ ·)
  | [] => .nil
  | y :: r => insN_sorted y (sortN_sorted r)
theorem sortN_lt {r : List Nat} (h : r.Nodup) : (sortN r).Pairwise (· < ·) :=
  List.Pairwise.imp (fun ⟨a, b⟩ => Nat.lt_of_le_of_ne a b) ((sortN_sorted r).and ((sortN_perm r).nodup_iff.mpr h))
theorem lt_nodup {r : List Nat} (h : r.Pairwise (· < ·)) : r.Nodup := h.imp fun h => Nat.ne_of_lt h

theorem GOk.item {d : GD} (hd : GOk d) {i : Nat} (hi : i < d.own.length) : ∃ (k o : Nat) (p : Nat × List Nat), ItemAt d i k o p := ⟨_, hd.o2 i _ (List.getElem?_eq_getElem hi)⟩
theorem afterV_some {p : Nat × List Nat} {e x : Nat} (h : p.2[e]? = some x) : afterV p e = .int x := by unfold afterV; rw [h]
theorem afterV_none {p : Nat × List Nat} {e : Nat} (h : p.2[e]? = none) : afterV p e = .int (-1) := by unfold afterV; rw [h]
section
variable {H : AH} {a : GA} {d : GD} {n : Nat} {K : AH → AV → Prop}
theorem after_some (hg : GramAt H a d) {i k o x : Nat} {p : Nat × List Nat} (h : ItemAt d i k o p) (hx : p.2[i - o]? = some x) (q : K H (.int x)) : Cw (mi theFn (n + 10)) (.fn 10) [.ref a.g, .int i] H K := after_ok hg h (by rw [afterV_some hx]; exact q)
theorem after_none (hg : GramAt H a d) {i k o : Nat} {p : Nat × List Nat} (h : ItemAt d i k o p) (hx : p.2[i - o]? = none) (q : K H (.int (-1))) : Cw (mi theFn (n + 10)) (.fn 10) [.ref a.g, .int i] H K := after_ok hg h (by rw [afterV_none hx]; exact q)
structure WaI (H : AH) (b m : Nat) (H' : AH) : Prop where
  e : H' = H
  b : m < 2 ^ b
theorem wanted_ok (hg : GramAt H a d) (hd : GOk d) {c f : Nat} {xs ks : List Nat} (hc : CloserAt H c a d f xs) (hk : ∀ x ∈ ks, x < d.own.length) (k : ∀ m : Nat, m < 2 ^ d.names.length → K H (.int m)) : Cw (mi theFn (n + 20)) (.fn 20) [.ref c, .tup (intsL ks)] H K := by
  refine fnM theFn_20 <| ForW.mk (σ := Nat × Option AV × Option AV) (fun s => [oR c, oT (intsL ks), oI s.1, s.2.1, s.2.2]) (fun _ s H' => WaI H d.names.length s.1 H') (fun _ _ _ _ => .tup) (fun i x s H' hx h => ?_) (fun s H' h => h.e ▸ k _ h.b) (s := (0, none, none)) ⟨rfl, Nat.two_pow_pos _⟩
  have he := h.e
  subst he
  refine map_get hx fun y hy => ?_
  obtain ⟨k', o, p, it⟩ := hd.item (hk y (mem_of hy))
  refine okW.mk rfl <| Lk.mk hc.c.1 <| Lk.mk hg.g.1 ?_
  cases hz : p.2[y - o]? with
  | none => exact after_none hg it hz <| AtI.mk (s := (s.1, oI y, oI (-1))) h
  | some z =>
    have hzn := hd.rsym p (mem_of it.r) z (mem_of hz)
    obtain ⟨g, hg'⟩ := get_ex (l := xs) (hc.len.symm ▸ hzn)
    exact after_some hg it hz <| Gd.mk ⟨by decide, Nat.lt_trans hzn (Nat.lt_of_le_of_lt hd.n8 (by decide))⟩ <| Lk.mk hc.c.1 <| Lk.mk hc.f.1 <| okW.mk (ints_at hg') <| AtI.mk (s := (s.1 ||| 1 * 2 ^ z ||| g, oI y, oI z)) ⟨rfl, Nat.or_lt_two_pow (Nat.or_lt_two_pow h.b (shl_lt hzn)) (hc.b g (mem_of hg'))⟩
theorem byL_get {R : List (Nat × List Nat)} {x j k : Nat} (h : (byL R x)[j]? = some k) : ∃ p, R[k]? = some p ∧ p.1 = x := by
  obtain ⟨h1, h2⟩ := List.mem_filter.mp (mem_of h)
  obtain ⟨p, hp, e⟩ := Option.map_eq_some_iff.mp (of_decide_eq_true h2)
  exact ⟨p, hp, e⟩
theorem byL_nodup {R : List (Nat × List Nat)} {x : Nat} : (byL R x).Nodup := List.Nodup.sublist List.filter_sublist List.nodup_range
theorem not_take {xs : List Nat} (hn : xs.Nodup) {i x : Nat} (hx : xs[i]? = some x) : x ∉ xs.take i := fun h => by
  obtain ⟨j, hj⟩ := List.mem_iff_getElem?.mp h
  have h1 := lt_of_get hj
  rw [List.length_take] at h1
  have h2 := Nat.lt_of_lt_of_le h1 (Nat.min_le_left _ _)
  rw [List.getElem?_take, if_pos h2] at hj
  exact Nat.ne_of_lt h2 (nodup_get hn hj hx)
theorem take_sub {α : Type} {xs : List α} {i : Nat} {x z : α} (hx : xs[i]? = some x) : z ∈ xs.take (i + 1) ↔ z ∈ xs.take i ∨ z = x := by
  rw [take_succ_get hx, List.mem_append, List.mem_singleton]
/-- what the items found so far are of: C says of a rule that it was met -/
structure AdZ (d : GD) (ks zs : List Nat) (C : Nat × List Nat → Nat → Prop) : Prop where
  nd : zs.Nodup
  m : ∀ z ∈ zs, z ∉ ks ∧ ∃ k p, d.own[z]? = some k ∧ d.R[k]? = some p ∧ C p k
theorem AdZ.lt {ks zs : List Nat} {C : Nat × List Nat → Nat → Prop} (h : AdZ d ks zs C) : ∀ z ∈ zs, z ∉ ks ∧ z < d.own.length := fun z hz => let ⟨a, _, _, g, _⟩ := h.m z hz; ⟨a, lt_of_get g⟩
theorem AdZ.le {ks zs : List Nat} {C : Nat × List Nat → Nat → Prop} (h : AdZ d ks zs C) (hd : GOk d) : zs.length ≤ 19 := Nat.le_trans (nodup_lt_len h.nd fun z hz => (h.lt z hz).2) hd.o19
theorem AdZ.imp {ks zs : List Nat} {C D : Nat × List Nat → Nat → Prop} (h : AdZ d ks zs C) (i : ∀ p k, C p k → D p k) : AdZ d ks zs D := ⟨h.nd, fun z hz => let ⟨a, k, p, b, c, e⟩ := h.m z hz; ⟨a, k, p, b, c, i p k e⟩⟩
structure AdI (H H₁ : AH) (d : GD) (ks bs zs : List Nat) (C : Nat × List Nat → Nat → Prop) (H' : AH) : Prop where
  e : Ext H H'
  lt : H₁.length < H'.length
  b : H'[H₁.length]? = some (.list (intsL bs))
  g : H'[H.length]? = some (.list (intsL zs))
  z : AdZ d ks zs C
theorem AdI.imp {H₁ H' : AH} {ks bs zs : List Nat} {C D : Nat × List Nat → Nat → Prop} (h : AdI H H₁ d ks bs zs C H') (i : ∀ p k, C p k → D p k) : AdI H H₁ d ks bs zs D H' := ⟨h.e, h.lt, h.b, h.g, h.z.imp i⟩
structure AdJ (H H₁ H₂ : AH) (d : GD) (ks bs zs : List Nat) (i x j : Nat) (H' : AH) : Prop extends AdI H H₁ d ks bs zs (fun p k => p.1 ∈ bs.take i ∨ (p.1 = x ∧ k ∈ (byL d.R x).take j)) H' where
  l : H'[H₂.length]? = some (.list (intsL (byL d.R x)))
theorem added_ok (hg : GramAt H a d) (hd : GOk d) {c f : Nat} {xs ks : List Nat} (hc : CloserAt H c a d f xs) (hk : ∀ x ∈ ks, x < d.own.length)
    (k : ∀ (H' : AH) (r : Nat) (zs : List Nat), Ext H H' → H.length ≤ r → H'[r]? = some (.list (intsL zs)) → zs.Nodup → (∀ z ∈ zs, z ∉ ks ∧ z < d.own.length) → K H' (.ref r)) : Cw (mi theFn (n + 40)) (.fn 21) [.ref c, .tup (intsL ks)] H K := by
  have e₁ : Ext H (H ++ [.list []]) := .app
  have hc1 := hc.ext e₁
  refine fnM theFn_21 <| Lk.mk hc1.c.1 <| wanted_ok (hg.ext e₁) hd hc1 hk fun m hm => bits_ok hm (Nat.le_trans hd.n8 (by decide)) fun bs hb1 hb2 => Lk.mk look_new ?_
  have hbn := lt_nodup hb1
  refine ForW.mk (xs := intsL bs) (σ := List Nat × Option AV × Option AV × Option AV) (fun s => [oR c, oT (intsL ks), oR H.length, s.2.1, s.2.2.1, s.2.2.2]) (fun i s H' => AdI H (H ++ [.list []]) d ks bs s.1 (fun p _ => p.1 ∈ bs.take i) H') (fun i s H' h => .lst h.b) (fun i x s H' hx h => ?_) (fun s H' h => ?_) (s := ([], none, none, none))
    ⟨e₁.new, lt_new, look_new, get_new look_new, .nil, fun _ h => nomatch h⟩
  · refine map_get hx fun x hx => ?_
    have hg' := hg.ext h.e
    refine okW.mk rfl <| Lk.mk (hc.ext h.e).c.1 <| Lk.mk hg'.g.1 <| rulesOf_ok hg' (hb2 x (mem_of hx)) <| Lk.mk look_new ?_
    have n2 : H.length ≠ H'.length := Nat.ne_of_lt (lt_of_get h.g)
    have n1 : H.length ≠ (H ++ [AO.list []]).length := by rw [len_new]; exact Nat.ne_of_lt (Nat.lt_succ_self _)
    refine ForW.mk (xs := intsL (byL d.R x)) (σ := List Nat × Option AV × Option AV) (fun t => [oR c, oT (intsL ks), oR H.length, oI x, t.2.1, t.2.2]) (fun j t H₂ => AdJ H (H ++ [.list []]) H' d ks bs t.1 i x j H₂) (fun j t H₂ h => .lst h.l) (fun j y t H₂ hy h => ?_) (fun t H₂ h => ?_) (s := (s.1, s.2.2.1, s.2.2.2))
      ⟨⟨h.e.new, Nat.lt_trans h.lt lt_new, get_new h.b, get_new h.g, h.z.imp fun p k => .inl⟩, look_new⟩
    · refine map_get hy fun y hy => ?_
      obtain ⟨p, hp, hp1⟩ := byL_get hy
      obtain ⟨o, ho⟩ := get_ex (l := d.offs) (hd.on.symm ▸ lt_of_get hp)
      have hg' := hg.ext h.e
      have hown := hd.o1 y p o hp ho 0 (Nat.zero_le _)
      have grow := h.z.imp (D := fun p k => p.1 ∈ bs.take i ∨ (p.1 = x ∧ k ∈ (byL d.R x).take (j + 1))) fun p k q => q.imp_right fun q => ⟨q.1, (take_sub hy).mpr (.inl q.2)⟩
      refine okW.mk rfl <| Lk.mk (hc.ext h.e).c.1 <| Lk.mk hg'.g.1 <| item_ok (e := 0) hg' ho <| in_ints <| br.not <| br.dec (fun hok => ?_) fun hok => ?_
      · exact AtI.mk (s := (t.1, oI y, oI o)) ⟨⟨h.e, h.lt, h.b, h.g, grow⟩, h.l⟩
      · refine Lk.mk h.g <| Lk.mk h.g <| Gd.mk (by rw [ints_len]; exact lidL (Nat.le_trans (h.z.le hd) (by decide))) <| AtI.mk (s := (t.1 ++ [o], oI y, oI o)) ⟨⟨h.e.set (Nat.le_refl _), by rw [List.length_set]; exact h.lt, get_set h.b n1, (get_set_self h.g).trans (congrArg _ (congrArg _ (ints_app (ys := [_])))), ⟨nodup_snoc h.z.nd fun hz => ?_, fun z hz => mem_snoc hz (grow.m z) fun e => ?_⟩⟩, get_set h.l n2⟩
        · obtain ⟨-, k, q, g2, g3, g4⟩ := h.z.m o hz
          cases hown.symm.trans g2
          cases hp.symm.trans g3
          rcases g4 with g4 | ⟨-, g4⟩
          · exact not_take hbn hx (hp1 ▸ g4)
          · exact not_take byL_nodup hy g4
        · exact e ▸ ⟨hok, y, p, hown, hp, .inr ⟨hp1, (take_sub hy).mpr (.inr rfl)⟩⟩
    · exact AtI.mk (s := (t.1, oI x, t.2.1, t.2.2)) (h.toAdI.imp fun p k q => (take_sub hx).mpr (q.imp_right And.left))
  · have hp := sortN_perm s.1
    exact Lk.mk h.g <| sort_ints (Nat.lt_of_le_of_lt (h.z.le hd) (by decide)) <| k _ _ (sortN s.1) h.e.new h.e.len look_new (hp.nodup_iff.mpr h.z.nd) fun z hz => h.z.lt z (hp.mem_iff.mp hz)
theorem close_ok (hg : GramAt H a d) (hd : GOk d) {c f : Nat} {xs ks : List Nat} (hc : CloserAt H c a d f xs) (hk : ∀ x ∈ ks, x < d.own.length) (hn : ks.Nodup)
    (k : ∀ (H' : AH) (r : Nat) (zs : List Nat), Ext H H' → H.length ≤ r → H'[r]? = some (.list (intsL zs)) → zs.Nodup → (∀ z ∈ zs, z < d.own.length) → K H' (.ref r)) : Cw (mi theFn (n + 60)) (.fn 22) [.ref c, .tup (intsL ks)] H K := by
  have hl : ks.length ≤ 19 := Nat.le_trans (nodup_lt_len hn hk) hd.o19
  have hp := sortN_perm ks
  refine fnM theFn_22 <| sort_ints (Nat.lt_of_le_of_lt hl (by decide)) <| Lk.mk (get_new hc.c.1) <| added_ok (hg.ext .app) hd (hc.ext .app) hk fun H' r zs e hr hz hzn hz2 => ?_
  have hzl : zs.length ≤ 19 := Nat.le_trans (nodup_lt_len hzn fun z hz => (hz2 z hz).2) hd.o19
  refine Lk.mk (e.get look_new) <| Lk.mk hz <| Gd.mk (by rw [ints_len, ints_len, hp.length_eq]; exact lidE (Nat.le_trans (Nat.add_le_add hl hzl) (by decide))) <| k _ H'.length (sortN ks ++ zs) ((Ext.app.trans e).new) (Ext.app.trans e).len (by rw [← ints_app]; exact look_new) (List.nodup_append.mpr ⟨hp.nodup_iff.mpr hn, hzn, fun z hz w hw e => (hz2 w hw).1 (e ▸ hp.mem_iff.mp hz)⟩) fun z hz => ?_
  exact (List.mem_append.mp hz).elim (fun g => hk z (hp.mem_iff.mp g)) fun g => (hz2 z g).2
theorem advanced_ok (hg : GramAt H a d) {i k o : Nat} {p : Nat × List Nat} (h : ItemAt d i k o p) (q : K H (.int (i + 1 : Nat))) : Cw (mi theFn (n + 20)) (.fn 23) [.ref a.g, .int i] H K := by
  refine fnM theFn_23 <| Lk.mk hg.g.1 <| Lk.mk hg.g.1 <| ruleOf_ok hg h.ow <| Lk.mk hg.g.1 <| dotOf_ok hg h <| item_ok (e := i - o + 1) hg h.of ?_
  have e : o + (i - o + 1) = i + 1 := congrArg Nat.succ (Nat.add_sub_of_le h.lo)
  rw [e]; exact q
structure CrI (H : AH) (i : Nat) (ws : List Nat) (H' : AH) : Prop where
  e : H' = H ++ [.list (intsL ws)]
  n : ws.length ≤ i
theorem completeRules_ok (hg : GramAt H a d) (hd : GOk d) {r : Nat} {zs : List Nat} (hr : H[r]? = some (.list (intsL zs))) (hzn : zs.Nodup) (hz2 : ∀ z ∈ zs, z < d.own.length)
    (k : ∀ (H' : AH) (q : Nat), Ext H H' → K H' (.ref q)) : Cw (mi theFn (n + 40)) (.fn 25) [.ref a.g, .ref r] H K := by
  have hzl : zs.length ≤ 19 := Nat.le_trans (nodup_lt_len hzn hz2) hd.o19
  refine fnM theFn_25 <| Lk.mk (get_new hr) ?_
  refine ForW.mk (xs := intsL zs) (σ := List Nat × Option AV) (fun s => [oR a.g, oR r, oR H.length, s.2]) (fun i s H' => CrI H i s.1 H') (fun i s H' h => .lst (h.e ▸ get_new hr)) (fun i x s H' hx h => ?_) (fun s H' h => ?_) (s := ([], none)) ⟨rfl, Nat.le_refl _⟩
  · have he := h.e
    subst he
    refine map_get hx fun y hy => ?_
    obtain ⟨k', o, p, it⟩ := hd.item (hz2 y (mem_of hy))
    have hg' := hg.ext (Ext.app (X := [.list (intsL s.1)]))
    have stay : CrI H (i + 1) s.1 (H ++ [.list (intsL s.1)]) := ⟨rfl, Nat.le_succ_of_le h.n⟩
    refine okW.mk rfl <| Lk.mk hg'.g.1 ?_
    cases hz : p.2[y - o]? with
    | some z => exact after_some hg' it hz <| AtI.mk (s := (s.1, oI y)) stay
    | none =>
      refine after_none hg' it hz <| Lk.mk hg'.g.1 <| ruleOf_ok hg' it.ow <| br.not <| br.dec (fun _ => AtI.mk (s := (s.1, oI y)) stay) fun _ => ?_
      refine Lk.mk look_new <| Lk.mk hg'.g.1 <| ruleOf_ok hg' it.ow <| Lk.mk look_new <| Gd.mk ?_ <| AtI.mk (s := (s.1 ++ [k'], oI y)) ⟨by rw [set_new, ← ints_app]; rfl, by rw [List.length_append]; exact Nat.succ_le_succ h.n⟩
      rw [ints_len]; exact lidL (Nat.le_trans h.n (Nat.le_trans (Nat.le_of_lt (lt_of_get hy)) (Nat.le_trans hzl (by decide))))
  · have he := h.e
    subst he
    have hn := h.n
    rw [ints_len] at hn
    exact Lk.mk look_new <| sort_ints (Nat.lt_of_le_of_lt hn (Nat.lt_of_le_of_lt hzl (by decide))) <| k _ _ Ext.app.new
end
end Mine.C
end
section
set_option autoImplicit false
set_option Elab.async false
set_option maxRecDepth 10000
namespace Mine.C
open PySem

/-! ## Association lists -/
section
variable {κ β γ : Type} [DecidableEq κ] {M : List (κ × β)} {k j : κ} {v : β}
noncomputable def putP (M : List (κ × β)) (k : κ) (v : β) : List (κ × β) := match M with
  | [] => [(k, v)]
  | p :: r => if p.1 = k then (k, v) :: r else p :: putP r k v
/-- lookup, by the one test of equality -/
noncomputable def lk (M : List (κ × β)) (k : κ) : Option β := match M with
  | [] => none
  | p :: r => if p.1 = k then some p.2 else lk r k
theorem lk_eq [b : BEq κ] [LawfulBEq κ] : ∀ {M : List (κ × β)}, @List.lookup κ β b k M = lk M k
  | [] => rfl
  | p :: r => by
    show (match k == p.1 with | true => some p.2 | false => r.lookup k) = if p.1 = k then some p.2 else lk r k
    by_cases h : p.1 = k
    · rw [if_pos h, beq_iff_eq.mpr h.symm]
    · rw [if_neg h, beq_eq_false_iff_ne.mpr (fun e => h e.symm)]; exact lk_eq
theorem putP_map (g : β → γ) : ∀ {M : List (κ × β)}, putP (M.map fun p => (p.1, g p.2)) k (g v) = (putP M k v).map fun p => (p.1, g p.2)
  | [] => rfl
  | p :: r => by
    show (if p.1 = k then (k, g v) :: _ else (p.1, g p.2) :: putP (r.map _) k (g v)) = (if p.1 = k then (k, v) :: r else p :: putP r k v).map _
    by_cases h : p.1 = k
    · rw [if_pos h, if_pos h]; rfl
    · rw [if_neg h, if_neg h, putP_map g]; rfl
theorem putP_key {κ' : Type} [DecidableEq κ'] {f : κ → κ'} (hf : ∀ x y, f x = f y → x = y) : ∀ {M : List (κ × β)}, putP (M.map fun p => (f p.1, p.2)) (f k) v = (putP M k v).map fun p => (f p.1, p.2)
  | [] => rfl
  | p :: r => by
    show (if f p.1 = f k then (f k, v) :: _ else (f p.1, p.2) :: putP (r.map _) (f k) v) = (if p.1 = k then (k, v) :: r else p :: putP r k v).map _
    by_cases h : p.1 = k
    · rw [if_pos h, if_pos (congrArg f h)]; rfl
    · rw [if_neg h, if_neg (fun e => h (hf _ _ e)), putP_key hf]; rfl
theorem lk_key {κ' : Type} [DecidableEq κ'] {f : κ → κ'} (hf : ∀ x y, f x = f y → x = y) : ∀ {M : List (κ × β)}, lk (M.map fun p => (f p.1, p.2)) (f k) = lk M k
  | [] => rfl
  | p :: r => by
    show (if f p.1 = f k then some p.2 else lk (r.map _) (f k)) = if p.1 = k then some p.2 else lk r k
    by_cases h : p.1 = k
    · rw [if_pos h, if_pos (congrArg f h)]
    · rw [if_neg h, if_neg (fun e => h (hf _ _ e)), lk_key hf]
theorem lk_map (g : β → γ) : ∀ {M : List (κ × β)}, lk (M.map fun p => (p.1, g p.2)) k = (lk M k).map g
  | [] => rfl
  | p :: r => by
    show (if p.1 = k then some (g p.2) else lk (r.map _) k) = (if p.1 = k then some p.2 else lk r k).map g
    by_cases h : p.1 = k
    · rw [if_pos h, if_pos h]; rfl
    · rw [if_neg h, if_neg h, lk_map g]
theorem putKV_P {w : AV} : ∀ {M : List (κ × AV)}, putKV M k w = putP M k w
  | [] => rfl
  | p :: r => congrArg (fun z => if p.1 = k then (k, w) :: r else p :: z) putKV_P
theorem putP_ne : putP M k v ≠ [] := by
  cases M with
  | nil => exact nofun
  | cons p r =>
    show (if p.1 = k then (k, v) :: r else p :: putP r k v) ≠ []
    by_cases h : p.1 = k
    · rw [if_pos h]; exact nofun
    · rw [if_neg h]; exact nofun
theorem putP_new : ∀ {M : List (κ × β)}, lk M k = none → putP M k v = M ++ [(k, v)]
  | [], _ => rfl
  | p :: r, h => by
    have h : (if p.1 = k then some p.2 else lk r k) = none := h
    show (if p.1 = k then (k, v) :: r else p :: putP r k v) = _
    by_cases e : p.1 = k
    · rw [if_pos e] at h; cases h
    · rw [if_neg e] at h ⊢; rw [putP_new h]; rfl
theorem putP_mem : ∀ {M : List (κ × β)} {p : κ × β}, p ∈ putP M k v → p ∈ M ∨ p = (k, v)
  | [], _, h => .inr (List.mem_singleton.mp h)
  | q :: r, p, h => by
    have h : p ∈ (if q.1 = k then (k, v) :: r else q :: putP r k v) := h
    by_cases e : q.1 = k
    · rw [if_pos e] at h
      exact (List.mem_cons.mp h).elim .inr fun h => .inl (.tail _ h)
    · rw [if_neg e] at h
      exact (List.mem_cons.mp h).elim (fun h => .inl (h ▸ .head _)) fun h => (putP_mem h).imp_left (.tail _)
theorem putP_len : ∀ {M : List (κ × β)}, (putP M k v).length ≤ M.length + 1
  | [] => Nat.le_refl _
  | q :: r => by
    show (if q.1 = k then (k, v) :: r else q :: putP r k v).length ≤ _
    by_cases e : q.1 = k
    · rw [if_pos e]; exact Nat.le_succ _
    · rw [if_neg e]; exact Nat.succ_le_succ putP_len
theorem putP_lk : ∀ {M : List (κ × β)}, lk (putP M k v) j = if j = k then some v else lk M j
  | [] => by
    show (if k = j then some v else none) = _
    by_cases h : j = k
    · rw [if_pos h, if_pos h.symm]
    · rw [if_neg h, if_neg fun e => h e.symm]; rfl
  | q :: r => by
    show lk (if q.1 = k then (k, v) :: r else q :: putP r k v) j = if j = k then some v else if q.1 = j then some q.2 else lk r j
    by_cases e : q.1 = k
    · rw [if_pos e]
      show (if k = j then some v else lk r j) = _
      by_cases h : j = k
      · rw [if_pos h, if_pos h.symm]
      · rw [if_neg h, if_neg (fun e => h e.symm), if_neg (fun g => h (g.symm.trans e))]
    · rw [if_neg e]
      show (if q.1 = j then some q.2 else lk (putP r k v) j) = _
      rw [putP_lk]
      by_cases h : j = k
      · rw [if_pos h, if_pos h, if_neg fun g => e (g.trans h)]
      · rw [if_neg h, if_neg h]
theorem lk_mem : ∀ {M : List (κ × β)}, lk M k = some v → (k, v) ∈ M
  | [], h => nomatch h
  | q :: r, h => by
    have h : (if q.1 = k then some q.2 else lk r k) = some v := h
    by_cases e : q.1 = k
    · rw [if_pos e] at h; cases h; rw [← e]; exact .head _
    · rw [if_neg e] at h; exact .tail _ (lk_mem h)
theorem lk_not : ∀ {M : List (κ × β)}, lk M k = none → ∀ p ∈ M, p.1 ≠ k
  | [], _, _, h => nomatch h
  | q :: r, h, p, hp => by
    have h : (if q.1 = k then some q.2 else lk r k) = none := h
    by_cases e : q.1 = k
    · rw [if_pos e] at h; cases h
    · rw [if_neg e] at h
      exact (List.mem_cons.mp hp).elim (fun g => g ▸ e) (lk_not h p)
theorem lk_of {p : κ × β} (h : p ∈ M) : ∃ v, lk M p.1 = some v := by
  cases e : lk M p.1 with
  | none => exact absurd rfl (lk_not e p h)
  | some v => exact ⟨v, rfl⟩
end

/-! ## Dicts with atoms, and with tuples, as keys -/
section
variable {κ : Type} [DecidableEq κ] {H : AH} {K : AH → AV → Prop} {n : Nat} {F : AV → Prop} {B : Bool → Prop} {G : AO → Prop} {w : AV}
noncomputable def dicG (f : κ → Atom) (M : List (κ × AV)) : AO := match M with
  | [] => .dE
  | p :: r => .dA ((f p.1, p.2) :: r.map fun p => (f p.1, p.2))
noncomputable def dicT (f : κ → List Atom) (M : List (κ × AV)) : AO := match M with
  | [] => .dE
  | p :: r => .dT ((f p.1, p.2) :: r.map fun p => (f p.1, p.2))
section
variable {f : κ → Atom} (hf : ∀ x y, f x = f y → x = y) {x : AV} {k : κ} (hx : toAtom x = some (f k)) {M : List (κ × AV)}
include hf hx
theorem lookG {F : Option AV → Prop} (q : F (lk M k)) : lookKey (dicG f M) x F := by
  cases M with
  | nil =>
    cases x with
    | int i => exact q
    | str i => exact q
    | _ => exact absurd hx (show (none : Option Atom) ≠ _ from nofun)
  | cons p r =>
    refine okW.mk hx ?_
    have e : ((f p.1, p.2) :: r.map fun p => (f p.1, p.2)).lookup (f k) = lk (p :: r) k := lk_eq.trans (lk_key (M := p :: r) hf)
    rw [e]; exact q
theorem inG (q : B (lk M k).isSome) : inO B x (dicG f M) := by
  have := lookG hf hx (M := M) (F := fun r => B r.isSome) q
  cases M <;> exact this
theorem getG {v : AV} (h : lk M k = some v) (q : F v) : getO x F (dicG f M) := by
  have := lookG hf hx (M := M) (F := fun r => okW r F) (okW.mk h q)
  cases M <;> exact this
theorem putG (hl : M.length ≤ lid) (q : G (dicG f (putP M k w))) : putKey (dicG f M) x w G := by
  cases M with
  | nil =>
    cases x with
    | int i =>
      show G (.dA [(Atom.i i, w)])
      rw [show Atom.i i = f k from Option.some.inj hx]; exact q
    | str i =>
      show G (.dA [(Atom.s i, w)])
      rw [show Atom.s i = f k from Option.some.inj hx]; exact q
    | _ => exact absurd hx (show (none : Option Atom) ≠ _ from nofun)
  | cons p r =>
    refine ⟨Nat.le_trans (Nat.le_of_eq (List.length_map (fun p : κ × AV => (f p.1, p.2)) (as := p :: r))) hl, okW.mk hx ?_⟩
    have e : putKV ((p :: r).map fun p => (f p.1, p.2)) (f k) w = (putP (p :: r) k w).map fun p => (f p.1, p.2) := putKV_P.trans (putP_key hf)
    have ne := putP_ne (M := p :: r) (k := k) (v := w)
    show G (.dA (putKV ((p :: r).map fun p => (f p.1, p.2)) (f k) w))
    rw [e]
    cases hp : putP (p :: r) k w with
    | nil => exact absurd hp ne
    | cons a b => rw [hp] at q; exact q
theorem setG (hl : M.length ≤ lid) (q : G (dicG f (putP M k w))) : setO x w G (dicG f M) := by
  have := putG hf hx hl q
  cases M <;> exact this
end
section
variable {f : κ → List Atom} (hf : ∀ x y, f x = f y → x = y) {x : List AV} {k : κ} (hx : toAtoms x = some (f k)) {M : List (κ × AV)}
include hf hx
theorem lookT {F : Option AV → Prop} (q : F (lk M k)) : lookKey (dicT f M) (.tup x) F := by
  cases M with
  | nil => exact okW.mk hx q
  | cons p r =>
    refine okW.mk hx ?_
    have e : ((f p.1, p.2) :: r.map fun p => (f p.1, p.2)).lookup (f k) = lk (p :: r) k := lk_eq.trans (lk_key (M := p :: r) hf)
    rw [e]; exact q
theorem inT (q : B (lk M k).isSome) : inO B (.tup x) (dicT f M) := by
  have := lookT hf hx (M := M) (F := fun r => B r.isSome) q
  cases M <;> exact this
theorem getT {v : AV} (h : lk M k = some v) (q : F v) : getO (.tup x) F (dicT f M) := by
  have := lookT hf hx (M := M) (F := fun r => okW r F) (okW.mk h q)
  cases M <;> exact this
theorem putT (hl : M.length ≤ lid) (q : G (dicT f (putP M k w))) : putKey (dicT f M) (.tup x) w G := by
  cases M with
  | nil => exact okW.mk hx q
  | cons p r =>
    refine ⟨Nat.le_trans (Nat.le_of_eq (List.length_map (fun p : κ × AV => (f p.1, p.2)) (as := p :: r))) hl, okW.mk hx ?_⟩
    have e : putKV ((p :: r).map fun p => (f p.1, p.2)) (f k) w = (putP (p :: r) k w).map fun p => (f p.1, p.2) := putKV_P.trans (putP_key hf)
    have ne := putP_ne (M := p :: r) (k := k) (v := w)
    show G (.dT (putKV ((p :: r).map fun p => (f p.1, p.2)) (f k) w))
    rw [e]
    cases hp : putP (p :: r) k w with
    | nil => exact absurd hp ne
    | cons a b => rw [hp] at q; exact q
theorem setT (hl : M.length ≤ lid) (q : G (dicT f (putP M k w))) : setO (.tup x) w G (dicT f M) := by
  have := putT hf hx hl q
  cases M <;> exact this
/-- get and setdefault -/
theorem dget (q : K H ((lk M k).getD w)) : omO H K 50 n [.tup x, w] (dicT f M) := by
  have := lookT hf hx (M := M) (F := fun r => K H (r.getD w)) q
  cases M <;> exact this
theorem dsetd (hl : M.length ≤ lid) (q1 : ∀ v, lk M k = some v → K H v) (q2 : lk M k = none → K (H.set n (dicT f (putP M k w))) w) : omO H K 51 n [.tup x, w] (dicT f M) := by
  have : lookKey (dicT f M) (.tup x) (sdO H K n (dicT f M) (.tup x) w) := lookT hf hx (by
    cases h : lk M k with
    | some v => exact q1 v h
    | none => exact putT (G := fun o' => K (H.set n o') w) hf hx hl (q2 h))
  cases M <;> exact this
end
omit [DecidableEq κ] in
theorem iterG {f : κ → Atom} {M : List (κ × AV)} {F : It → Prop} (q : F (.dct n)) : iterO n F (dicG f M) := by cases M <;> exact q
omit [DecidableEq κ] in
theorem Src.dic {f : κ → Atom} {M : List (κ × AV)} (h : H[n]? = some (dicG f M)) : Src H (.dct n) (M.map fun p => ofAtom (f p.1)) := by
  cases M with
  | nil => exact .dE h
  | cons p r =>
    have e : (((p :: r).map fun p => (f p.1, p.2)).map fun p => ofAtom p.1) = (p :: r).map fun p => ofAtom (f p.1) := List.map_map
    rw [← e]; exact Src.dA h
end
noncomputable abbrev dicI (M : List (Nat × AV)) : AO := dicG atomI M
noncomputable abbrev dicS (M : List (Nat × AV)) : AO := dicG Atom.s M
theorem sort_dic {H : AH} {K : AH → AV → Prop} {M : List (Nat × AV)} (h : M.length < 64) (k : K (H ++ [.list (intsL (sortN (M.map (·.1))))]) (.ref H.length)) : sortO H K (dicI M) := by
  have : sortL H K (intsL (M.map (·.1))) := sort_ints (Nat.lt_of_le_of_lt (Nat.le_of_eq (List.length_map ..)) h) k
  rw [intsL, List.map_map] at this
  cases M with
  | nil => exact this
  | cons p r =>
    show sortL H K (((p :: r).map fun p => (atomI p.1, p.2)).map fun p => ofAtom p.1)
    rw [List.map_map]; exact this
theorem ints_inj (x y : List Nat) (h : x.map atomI = y.map atomI) : x = y := (List.map_inj_right (f := atomI) fun x y => atomI_inj x y).mp h
noncomputable abbrev dicL (M : List (List Nat × AV)) : AO := dicT (fun K => K.map atomI) M
end Mine.C
end
section
set_option autoImplicit false
set_option Elab.async false
set_option maxRecDepth 10000
namespace Mine.C
open PySem

noncomputable abbrev refM {κ : Type} (D : List (κ × Nat)) : List (κ × AV) := D.map fun p => (p.1, AV.ref p.2)
noncomputable abbrev tupM {κ : Type} (W : List (κ × List Nat)) : List (κ × AV) := W.map fun p => (p.1, AV.tup (intsL p.2))
theorem refM_lk {κ : Type} [DecidableEq κ] {D : List (κ × Nat)} {k : κ} {q : Nat} (h : lk D k = some q) : lk (refM D) k = some (.ref q) := (lk_map AV.ref).trans (congrArg (Option.map AV.ref) h)
theorem tupM_lk {κ : Type} [DecidableEq κ] {D : List (κ × List Nat)} {k : κ} {q : List Nat} (h : lk D k = some q) : lk (tupM D) k = some (.tup (intsL q)) := (lk_map fun l => AV.tup (intsL l)).trans (congrArg (Option.map fun l => AV.tup (intsL l)) h)
theorem refM_put {κ : Type} [DecidableEq κ] {D : List (κ × Nat)} {k : κ} {q : Nat} : putP (refM D) k (.ref q) = refM (putP D k q) := putP_map AV.ref
theorem tupM_put {κ : Type} [DecidableEq κ] {D : List (κ × List Nat)} {k : κ} {q : List Nat} : putP (tupM D) k (.tup (intsL q)) = tupM (putP D k q) := putP_map fun l => AV.tup (intsL l)

/-- a list that the first dict holds -/
inductive FdV (d : GD) (zs : List Nat) (H' : AH) (i r : Nat) : Prop
  | mk {l : List Nat} (g : H'[r]? = some (.list (intsL l))) (nd : l.Nodup) (m : ∀ z ∈ l, z < d.own.length ∧ ∃ y ∈ zs.take i, z = y + 1)
/-- the first dict of kernels_behind -/
structure FD (d : GD) (zs : List Nat) (H H' : AH) (i : Nat) (D : List (Nat × Nat)) : Prop where
  ext : Ext H H'
  dic : H'[H.length]? = some (dicI (refM D))
  ki : (D.map (·.1)).Nodup
  vi : (D.map (·.2)).Nodup
  lt : ∀ p ∈ D, p.1 < d.names.length
  gt : ∀ p ∈ D, H.length < p.2
  val : ∀ p ∈ D, FdV d zs H' i p.2
section
variable {d : GD} {zs : List Nat} {H H' : AH} {i x y r : Nat} {D : List (Nat × Nat)}
theorem FD.len (h : FD d zs H H' i D) (hd : GOk d) : D.length ≤ 8 := by
  have h1 := nodup_lt_len h.ki (n := d.names.length) fun x hx => by
    obtain ⟨p, hp, rfl⟩ := List.mem_map.mp hx
    exact h.lt p hp
  rw [List.length_map] at h1
  exact Nat.le_trans h1 hd.n8
theorem FD.step (h : FD d zs H H' i D) : FD d zs H H' (i + 1) D :=
  ⟨h.ext, h.dic, h.ki, h.vi, h.lt, h.gt, fun p hp => let ⟨g, nd, m⟩ := h.val p hp; ⟨g, nd, fun z hz => ⟨(m z hz).1, let ⟨y, hy, e⟩ := (m z hz).2; ⟨y, List.take_subset_take_left _ (Nat.le_succ i) hy, e⟩⟩⟩⟩
/-- a new key -/
theorem FD.key (h : FD d zs H H' i D) (hx : x < d.names.length) (hn : lk D x = none) : FD d zs H ((H' ++ [AO.list []]).set H.length (dicI (putP (refM D) x (.ref H'.length)))) i (D ++ [(x, H'.length)]) := by
  have hl := lt_of_get h.dic
  refine ⟨h.ext.new.set (Nat.le_refl _), (get_set_self (get_new h.dic)).trans (by rw [refM_put, putP_new hn]), ?_, ?_, fun p hp => mem_snoc hp (h.lt p) fun e => e ▸ hx, fun p hp => mem_snoc hp (h.gt p) fun e => e ▸ hl, fun p hp => mem_snoc hp (fun g => ?_) fun e => ?_⟩
  · rw [List.map_append]
    exact nodup_snoc h.ki fun m => let ⟨p, hp, e⟩ := List.mem_map.mp m; lk_not hn p hp e
  · rw [List.map_append]
    exact nodup_snoc h.vi fun m => let ⟨p, hp, e⟩ := List.mem_map.mp m; let ⟨g, _, _⟩ := h.val p hp; Nat.ne_of_lt (lt_of_get g) e
  · obtain ⟨g', nd, m⟩ := h.val p g
    exact ⟨get_set (get_new g') (Nat.ne_of_lt (h.gt p g)), nd, m⟩
  · rw [e]
    exact FdV.mk (l := []) (get_set look_new (Nat.ne_of_lt hl)) .nil fun _ h => nomatch h
theorem ints_eq {l l' : List Nat} (e : some (AO.list (intsL l)) = some (AO.list (intsL l'))) : l = l' := by
  have h4 : intsL l = intsL l' := by injection e with e; injection e
  exact (List.map_inj_right (f := fun (i : Nat) => AV.int i) fun x y e => by injection e with e; exact Int.ofNat.inj e).mp h4
/-- one more item -/
theorem FD.add (h : FD d zs H H' i D) (hm : (x, r) ∈ D) {l : List Nat} (hl : H'[r]? = some (.list (intsL l))) (hy : zs[i]? = some y) (hzn : zs.Nodup) (hlt : y + 1 < d.own.length) : FD d zs H (H'.set r (.list (intsL l ++ [.int (y + 1 : Nat)]))) (i + 1) D := by
  have hgt := h.gt _ hm
  refine ⟨h.ext.set (Nat.le_of_lt hgt), get_set h.dic (Nat.ne_of_gt hgt), h.ki, h.vi, h.lt, h.gt, fun p hp => ?_⟩
  by_cases hpr : p.2 = r
  · obtain ⟨g, nd, m⟩ := h.val p hp
    rw [hpr] at g
    cases ints_eq (hl.symm.trans g)
    rw [hpr]
    refine FdV.mk (l := l ++ [y + 1]) (by rw [← ints_app]; exact get_set_self hl) (nodup_snoc nd fun ha => ?_) fun z hz => mem_snoc hz (fun g => ?_) fun e => e ▸ ⟨hlt, y, (take_sub hy).mpr (.inr rfl), rfl⟩
    · obtain ⟨-, w, hw, e⟩ := m _ ha
      cases Nat.succ.inj e
      exact not_take hzn hy hw
    · obtain ⟨g1, w, hw, e⟩ := m z g
      exact ⟨g1, w, (take_sub hy).mpr (.inl hw), e⟩
  · obtain ⟨g, nd, m⟩ := h.step.val p hp
    exact ⟨get_set g fun e => hpr e.symm, nd, m⟩
end
/-- the second dict -/
structure SD (d : GD) (H H' : AH) (ks : List Nat) (i : Nat) (W : List (Nat × List Nat)) : Prop where
  e : Ext H H'
  k : H'[H.length + 1]? = some (.list (intsL ks))
  w : H'[H.length]? = some (dicI (tupM W))
  n : W.length ≤ i
  m : ∀ p ∈ W, p.2.Pairwise (· < ·) ∧ ∀ z ∈ p.2, z < d.own.length
section
variable {H : AH} {a : GA} {d : GD} {n : Nat} {K : AH → AV → Prop}
theorem next_item {i k o x : Nat} {p : Nat × List Nat} (hd : GOk d) (it : ItemAt d i k o p) (hx : p.2[i - o]? = some x) : i + 1 < d.own.length := by
  have := hd.o1 k p o it.r it.of (i - o + 1) (lt_of_get hx)
  rw [show o + (i - o + 1) = i + 1 from congrArg Nat.succ (Nat.add_sub_of_le it.lo)] at this
  exact lt_of_get this
theorem atomI_of {x : Nat} : toAtom (.int x) = some (atomI x) := rfl
theorem kernelsBehind_ok (hg : GramAt H a d) (hd : GOk d) {r : Nat} {zs : List Nat} (hr : H[r]? = some (.list (intsL zs))) (hzn : zs.Nodup) (hz2 : ∀ z ∈ zs, z < d.own.length)
    (k : ∀ (H' : AH) (q : Nat) (W : List (Nat × List Nat)), Ext H H' → H.length ≤ q → H'[q]? = some (dicI (tupM W)) → W.length ≤ 8 → (∀ p ∈ W, p.2.Pairwise (· < ·) ∧ ∀ z ∈ p.2, z < d.own.length) → K H' (.ref q)) : Cw (mi theFn (n + 60)) (.fn 24) [.ref a.g, .ref r] H K := by
  have hzl : zs.length ≤ 19 := Nat.le_trans (nodup_lt_len hzn hz2) hd.o19
  refine fnM theFn_24 <| Lk.mk (get_new hr) ?_
  refine ForW.mk (xs := intsL zs) (σ := List (Nat × Nat) × Option AV × Option AV) (fun s => [oR a.g, oR r, oR H.length, s.2.1, s.2.2, none]) (fun i s H' => FD d zs H H' i s.1) (fun i s H' h => .lst (h.ext.get hr)) (fun i x s H' hx h => ?_) (fun s H₂ h => ?_) (s := ([], none, none)) ⟨.app, look_new, .nil, .nil, (fun _ h => nomatch h), (fun _ h => nomatch h), fun _ h => nomatch h⟩
  · refine map_get hx fun y hy => ?_
    obtain ⟨k', o, p, it⟩ := hd.item (hz2 y (mem_of hy))
    have hg' := hg.ext h.ext
    refine okW.mk rfl <| Lk.mk hg'.g.1 ?_
    cases hz : p.2[y - o]? with
    | none => exact after_none hg' it hz <| AtI.mk (s := (s.1, oI y, oI (-1))) h.step
    | some x =>
      have hxn := hd.rsym p (mem_of it.r) x (mem_of hz)
      have hlt := next_item hd it hz
      have go : ∀ {H₃ : AH} {D : List (Nat × Nat)} {q : Nat}, FD d zs H H₃ i D → lk D x = some q → ∀ {Q : Fl → Ro → AH → Prop}, (∀ H', FD d zs H H' (i + 1) D → Q .next [oR a.g, oR r, oR H.length, oI y, oI x, none] H') → blF (mi theFn (n + 56)) Q [.expr (.mcall (.sub (.loc 2) (.loc 4)) 47 [.call (.cst (.fn 23)) [.loc 0, .loc 3]])] [oR a.g, oR r, oR H.length, oI y, oI x, none] H₃ := fun hD hq Q kq => by
        obtain ⟨g, nd, m⟩ := hD.val _ (lk_mem hq)
        have hll := nodup_lt_len nd fun z hz => (m z hz).1
        exact Lk.mk hD.dic <| getG atomI_inj atomI_of (refM_lk hq) <| Lk.mk g <| advanced_ok (hg.ext hD.ext) it <| Lk.mk g <| Gd.mk (by rw [ints_len]; exact lidL (Nat.le_trans hll (Nat.le_trans hd.o19 (by decide)))) <| kq _ (hD.add (lk_mem hq) g hy hzn hlt)
      refine after_some hg' it hz <| Lk.mk h.dic <| inG atomI_inj atomI_of ?_
      rw [show (lk (refM s.1) x).isSome = (lk s.1 x).isSome by rw [show lk (refM s.1) x = _ from lk_map AV.ref]; cases lk s.1 x <;> rfl]
      cases hq : lk s.1 x with
      | some q => exact go h hq fun H' hD => AtI.mk (s := (s.1, oI y, oI x)) hD
      | none =>
        refine Lk.mk (get_new h.dic) <| setG atomI_inj atomI_of (by rw [List.length_map]; exact lidE (Nat.le_trans (h.len hd) (by decide))) <| go (h.key hxn hq) (q := H'.length) ?_ fun H' hD => AtI.mk (s := (s.1 ++ [(x, _)], oI y, oI x)) hD
        rw [← putP_new hq, putP_lk, if_pos rfl]
  · rw [ints_len] at h
    have hDl := h.len hd
    have hp := sortN_perm (s.1.map (·.1))
    have hkl : (sortN (s.1.map (·.1))).length ≤ 8 := by rw [hp.length_eq, List.length_map]; exact hDl
    refine Lk.mk (get_new h.dic) <| sort_dic (by rw [List.length_map]; exact Nat.lt_of_le_of_lt hDl (by decide)) <| Lk.mk look_new ?_
    have hks : (refM s.1).map (·.1) = s.1.map (·.1) := List.map_map
    rw [hks, len_new]
    refine ForW.mk (xs := intsL (sortN (s.1.map (·.1)))) (σ := List (Nat × List Nat) × Option AV) (fun t => [oR a.g, oR r, oR H.length, s.2.1, t.2, oR H₂.length]) (fun i t H' => SD d H₂ H' (sortN (s.1.map (·.1))) i t.1) (fun i t H' g => .lst g.k) (fun i x t H' hx g => ?_) (fun t H' g => ?_) (s := ([], s.2.2)) ⟨Ext.refl.new.new, look_newE len_new.symm, get_new look_new, Nat.zero_le _, fun _ h => nomatch h⟩
    · refine map_get hx fun x hx => ?_
      obtain ⟨pq, hpq, rfl⟩ := List.mem_map.mp (hp.mem_iff.mp (mem_of hx))
      obtain ⟨q, hq⟩ := lk_of hpq
      obtain ⟨gl, nd, m⟩ := h.val _ (lk_mem hq)
      rename_i l
      have hll := Nat.le_trans (nodup_lt_len nd fun z hz => (m z hz).1) hd.o19
      have hpl := sortN_perm l
      have hil : i ≤ 8 := Nat.le_trans (Nat.le_of_lt (lt_of_get hx)) hkl
      refine okW.mk rfl <| Lk.mk (g.e.get h.dic) <| getG atomI_inj atomI_of (refM_lk hq) <| Lk.mk (g.e.get gl) <| sort_ints (Nat.lt_of_le_of_lt hll (by decide)) <| Lk.mk look_new <| Lk.mk (get_new g.w) <| setG atomI_inj atomI_of (by rw [List.length_map]; exact lidE (Nat.le_trans g.n (Nat.le_trans hil (by decide)))) <| AtI.mk (s := (putP t.1 pq.1 (sortN l), oI pq.1)) ?_
      refine ⟨g.e.new.set (Nat.le_refl _), get_set (get_new g.k) (Nat.ne_of_lt (Nat.lt_succ_self _)), (get_set_self (get_new g.w)).trans (by rw [tupM_put]), Nat.le_trans putP_len (Nat.succ_le_succ g.n), fun p hp => ?_⟩
      rcases putP_mem hp with hp | rfl
      · exact g.m p hp
      · exact ⟨sortN_lt nd, fun z hz => (m z (hpl.mem_iff.mp hz)).1⟩
    · exact k H' _ t.1 (h.ext.trans g.e) h.ext.len g.w (Nat.le_trans g.n (by rw [ints_len]; exact hkl)) g.m
end
end Mine.C
end
section
set_option autoImplicit false
set_option Elab.async false
set_option maxRecDepth 10000
namespace Mine.C
open PySem

/-! ## Counting strictly rising lists -/
theorem rising_eq : ∀ {l m : List Nat}, l.Pairwise (· < ·) → m.Pairwise (· < ·) → (∀ x, x ∈ l ↔ x ∈ m) → l = m
  | [], [], _, _, _ => rfl
  | [], y :: m, _, _, h => absurd ((h y).mpr (.head _)) List.not_mem_nil
  | x :: l, [], _, _, h => absurd ((h x).mp (.head _)) List.not_mem_nil
  | x :: l, y :: m, h1, h2, h => by
    obtain ⟨a1, a2⟩ := List.pairwise_cons.mp h1
    obtain ⟨b1, b2⟩ := List.pairwise_cons.mp h2
    have hxy : x = y := by
      rcases List.mem_cons.mp ((h x).mp (.head _)) with e | e
      · exact e
      · rcases List.mem_cons.mp ((h y).mpr (.head _)) with e' | e'
        · exact e'.symm
        · exact absurd (Nat.lt_trans (b1 x e) (a1 y e')) (Nat.lt_irrefl _)
    subst hxy
    refine congrArg _ (rising_eq a2 b2 fun z => ⟨fun hz => ?_, fun hz => ?_⟩)
    · exact (List.mem_cons.mp ((h z).mp (.tail _ hz))).elim (fun e => absurd (a1 z hz) (e ▸ Nat.lt_irrefl _)) id
    · exact (List.mem_cons.mp ((h z).mpr (.tail _ hz))).elim (fun e => absurd (b1 z hz) (e ▸ Nat.lt_irrefl _)) id
noncomputable def allB : Nat → List (List Bool)
  | 0 => [[]]
  | n + 1 => (allB n).map (true :: ·) ++ (allB n).map (false :: ·)
theorem allB_len : ∀ n, (allB n).length = 2 ^ n
  | 0 => rfl
  | n + 1 => by
    show ((allB n).map (true :: ·) ++ (allB n).map (false :: ·)).length = _
    rw [List.length_append, List.length_map, List.length_map, allB_len n, Nat.pow_succ, Nat.mul_two]
theorem mem_allB : ∀ {l : List Bool}, l ∈ allB l.length
  | [] => .head _
  | true :: _ => List.mem_append_left _ (List.mem_map.mpr ⟨_, mem_allB, rfl⟩)
  | false :: _ => List.mem_append_right _ (List.mem_map.mpr ⟨_, mem_allB, rfl⟩)
theorem nodup_map_on {α β : Type} {f : α → β} : ∀ {l : List α}, l.Nodup → (∀ a ∈ l, ∀ b ∈ l, f a = f b → a = b) → (l.map f).Nodup
  | [], _, _ => .nil
  | a :: l, h, hi => by
    obtain ⟨h1, h2⟩ := List.nodup_cons.mp h
    refine List.nodup_cons.mpr ⟨fun hm => ?_, nodup_map_on h2 fun a ha b hb => hi a (.tail _ ha) b (.tail _ hb)⟩
    obtain ⟨b, hb, e⟩ := List.mem_map.mp hm
    exact h1 (hi a (.head _) b (.tail _ hb) e.symm ▸ hb)
noncomputable def rowB (n : Nat) (K : List Nat) : List Bool := (List.range n).map fun i => decide (i ∈ K)
theorem rowB_at {n i : Nat} {K : List Nat} (h : i < n) : (rowB n K)[i]? = some (decide (i ∈ K)) := get_map (List.getElem?_range h)
theorem rising_count {Ks : List (List Nat)} {n : Nat} (hn : Ks.Nodup) (h : ∀ K ∈ Ks, K.Pairwise (· < ·) ∧ ∀ z ∈ K, z < n) : Ks.length ≤ 2 ^ n := by
  have h1 : (Ks.map (rowB n)).Nodup := by
    refine nodup_map_on hn fun K hK L hL e => rising_eq (h K hK).1 (h L hL).1 fun x => ?_
    have h2 : ∀ i, i < n → (i ∈ K ↔ i ∈ L) := fun i hi => decide_eq_decide.mp (Option.some.inj ((rowB_at hi).symm.trans ((congrArg (·[i]?) e).trans (rowB_at hi))))
    exact ⟨fun hx => (h2 x ((h K hK).2 x hx)).mp hx, fun hx => (h2 x ((h L hL).2 x hx)).mpr hx⟩
  have h2 := nodup_len (m := allB n) h1 fun l hl => by
    obtain ⟨K, _, rfl⟩ := List.mem_map.mp hl
    have := mem_allB (l := rowB n K)
    rw [show (rowB n K).length = n from (List.length_map ..).trans List.length_range] at this
    exact this
  rw [List.length_map, allB_len] at h2
  exact h2

/-! ## The builder -/
/-- a new object, stored in an object -/
theorem saO {H : AH} {c a n : Nat} {fs : List (Nat × AV)} {G : AH → Prop} {x : AO} (h : H[n]? = some (.inst c fs)) (h1 : (fieldsOf c).contains a = true) (h2 : decide (fs.length < 40) = true) (k : ∀ H', SaF H n (.inst c (putKV fs a (.ref H.length))) 1 H' → H'[H.length]? = some x → G H') : setAttrW (.ref n) a (.ref H.length) (H ++ [x]) G :=
  saAt (get_new h) h1 h2 (k _ ⟨by rw [List.length_set, len_new], get_set_self (get_new h), fun _ _ q e => get_set (get_new e) q, fun _ e q => e.new.set q⟩ (get_set look_new (Nat.ne_of_lt (lt_of_get h))))
theorem SaF.of {H : AH} {q : Nat} {x o : AO} (h : H[q]? = some x) : SaF H q o 0 (H.set q o) := ⟨List.length_set, get_set_self h, fun _ _ n e => get_set e n, fun _ e n => e.set n⟩
/-- a state that was not expanded -/
inductive StAt (d : GD) (H : AH) (r m : Nat) : Prop
  | mk {ks : List Nat} {num : Nat} {s : Int} {i1 r1 : Nat} (g : H[r]? = some (.inst 2 [(0, .int num), (24, .tup (intsL ks)), (25, .int s), (26, .ref i1), (27, .ref m), (28, .ref r1)])) (gm : H[m]? = some .dE) (pw : ks.Pairwise (· < ·)) (lt : ∀ z ∈ ks, z < d.own.length)
theorem StAt.mv {d : GD} {H H' : AH} {r m : Nat} (h : StAt d H r m) (e : ∀ i x, i = r ∨ i = m → H[i]? = some x → H'[i]? = some x) : StAt d H' r m := let ⟨g, gm, pw, lt⟩ := h; ⟨e _ _ (.inl rfl) g, e _ _ (.inr rfl) gm, pw, lt⟩
section
variable {H : AH} {K : AH → AV → Prop} {n : Nat} {d : GD}
theorem newState {num : Nat} {ks : List Nat} {s : Int} (pw : ks.Pairwise (· < ·)) (lt : ∀ z ∈ ks, z < d.own.length) (k : ∀ H' m, Ext H H' → H.length < m → m < H'.length → StAt d H' H.length m → K H' (.ref H.length)) :
    Cw (mi theFn (n + 20)) (.cls 2) [.int num, .tup (intsL ks), .int s] H K := by
  refine clsM rfl <| fnM theFn_18 <| saNew rfl rfl <| saNew rfl rfl <| saNew rfl rfl <| saO look_new rfl rfl fun H₁ s₁ _ => saO s₁.at_ rfl rfl fun H₂ s₂ n₂ => saO s₂.at_ rfl rfl fun H₃ s₃ _ => ?_
  have l1 : H.length < H₁.length := lt_of_get s₁.at_
  have l2 : H₁.length < H₂.length := by rw [s₂.len]; exact Nat.lt_succ_self _
  have e0 : Ext H (H ++ [AO.inst 2 [(0, .int num), (24, .tup (intsL ks)), (25, .int s)]]) := .app
  exact k H₃ H₁.length (s₃.ext H (s₂.ext H (s₁.ext H e0 (Nat.le_refl _)) (Nat.le_refl _)) (Nat.le_refl _)) l1 (by rw [s₃.len]; exact Nat.lt_succ_of_lt l2) ⟨s₃.at_, s₃.old _ _ (Nat.ne_of_lt l1) n₂, pw, lt⟩
end
set_option genSizeOf false in
set_option genInjectivity false in
/-- the builder's addresses -/
structure BA where
  (b c f st nu B : Nat)
  xs : List Nat
structure BaF (z : BA) (H₀ : AH) : Prop where
  lo : H₀.length ≤ z.st
  fb : z.b < z.st
  fc : z.c < z.st
  ff : z.f < z.st
  fn : z.st < z.nu
  fB : z.nu < z.B
noncomputable abbrev numM (W : List (List Nat × Nat)) : List (List Nat × AV) := W.map fun p => (p.1, .int p.2)
structure BAt (a : GA) (d : GD) (z : BA) (H₀ H : AH) (sts : List (Nat × Nat)) (W : List (List Nat × Nat)) (t : Nat) : Prop where
  ext : Ext H₀ H
  lb : z.B ≤ H.length
  b : H[z.b]? = some (.inst 5 [(30, .ref a.g), (36, .ref z.c), (35, .ref z.st), (37, .ref z.nu)])
  cl : CloserAt H z.c a d z.f z.xs
  s : H[z.st]? = some (.list (refsL (sts.map (·.1))))
  n : H[z.nu]? = some (dicL (numM W))
  wn : (W.map (·.1)).Nodup
  wk : ∀ K ∈ W.map (·.1), K.Pairwise (· < ·) ∧ ∀ z ∈ K, z < d.own.length
  len : sts.length = W.length
  n1 : (sts.map (·.1)).Nodup
  n2 : (sts.map (·.2)).Nodup
  big : ∀ p ∈ sts, (z.B ≤ p.1 ∧ z.B ≤ p.2) ∧ p.1 < H.length ∧ p.2 < H.length
  sta : ∀ i p, t ≤ i → sts[i]? = some p → StAt d H p.1 p.2
/-- objects of the builder's own time are kept -/
noncomputable def Keep (B : Nat) (H H' : AH) : Prop := ∀ (i : Nat) (o : AO), B ≤ i → H[i]? = some o → H'[i]? = some o
section
variable {a : GA} {d : GD} {z : BA} {H₀ H H' : AH} {sts : List (Nat × Nat)} {W : List (List Nat × Nat)} {t n : Nat} {K : AH → AV → Prop}
theorem BAt.count (hd : GOk d) (h : BAt a d z H₀ H sts W t) : W.length ≤ 524288 := by
  have h1 := rising_count h.wn h.wk
  rw [List.length_map] at h1
  exact Nat.le_trans h1 (Nat.pow_le_pow_right (n := 2) (j := 19) (by decide) hd.o19)
theorem lidB {n : Nat} (h : n ≤ 524288) : n < lid := by rw [lid_eq]; lia
theorem BAt.mv (h : BAt a d z H₀ H sts W t) (e : Ext H H') : BAt a d z H₀ H' sts W t :=
  ⟨h.ext.trans e, Nat.le_trans h.lb e.len, e.get h.b, h.cl.ext e, e.get h.s, e.get h.n, h.wn, h.wk, h.len, h.n1, h.n2, fun p hp => ⟨(h.big p hp).1, Nat.lt_of_lt_of_le (h.big p hp).2.1 e.len, Nat.lt_of_lt_of_le (h.big p hp).2.2 e.len⟩, fun i p hi hp => (h.sta i p hi hp).mv fun _ _ _ => e.get⟩
theorem BAt.sa {q m : Nat} {o : AO} (f : BaF z H₀) (h : BAt a d z H₀ H sts W t) (s : SaF H q o m H') (hq : z.B ≤ q) (hn : ∀ i p, t ≤ i → sts[i]? = some p → q ≠ p.1 ∧ q ≠ p.2) : BAt a d z H₀ H' sts W t := by
  have nq := Nat.lt_of_lt_of_le f.fB hq
  have sq := Nat.lt_trans f.fn nq
  have hl : H.length ≤ H'.length := by rw [s.len]; exact Nat.le_add_right _ _
  refine ⟨s.ext _ h.ext (Nat.le_trans f.lo (Nat.le_of_lt sq)), Nat.le_trans h.lb hl, s.old _ _ (Nat.ne_of_gt (Nat.lt_trans f.fb sq)) h.b, ⟨⟨s.old _ _ (Nat.ne_of_gt (Nat.lt_trans f.fc sq)) h.cl.c.1, h.cl.c.2⟩, ⟨s.old _ _ (Nat.ne_of_gt (Nat.lt_trans f.ff sq)) h.cl.f.1, h.cl.f.2⟩, h.cl.len, h.cl.b⟩,
    s.old _ _ (Nat.ne_of_gt sq) h.s, s.old _ _ (Nat.ne_of_gt nq) h.n, h.wn, h.wk, h.len, h.n1, h.n2, fun p hp => ⟨(h.big p hp).1, Nat.lt_of_lt_of_le (h.big p hp).2.1 hl, Nat.lt_of_lt_of_le (h.big p hp).2.2 hl⟩, fun i p hi hp => (h.sta i p hi hp).mv fun j x hj => s.old _ _ ?_⟩
  obtain ⟨n1, n2⟩ := hn i p hi hp
  exact hj.elim (fun e => e ▸ n1) fun e => e ▸ n2
theorem numberOf_ok (f : BaF z H₀) (hd : GOk d) (h : BAt a d z H₀ H sts W t) {ks : List Nat} {s : Int} (h1 : ks.Pairwise (· < ·)) (h2 : ∀ x ∈ ks, x < d.own.length)
    (k : ∀ (H' : AH) (sts' : List (Nat × Nat)) (W' : List (List Nat × Nat)) (num : Nat), BAt a d z H₀ H' sts' W' t → Keep z.B H H' → (∀ (i : Nat) (p : Nat × Nat), sts[i]? = some p → sts'[i]? = some p) → K H' (.int num)) : Cw (mi theFn (n + 40)) (.fn 28) [.ref z.b, .tup (intsL ks), .int s] H K := by
  have lkn : lk (numM W) ks = (lk W ks).map fun (n : Nat) => AV.int (n : Int) := lk_map fun (n : Nat) => AV.int (n : Int)
  have hc := h.count hd
  refine fnM theFn_28 <| Lk.mk h.b <| Lk.mk h.n <| inT ints_inj (toAtoms_ints ks) ?_
  cases hk : lk W ks with
  | some num =>
    rw [hk] at lkn
    rw [lkn]
    exact Lk.mk h.b <| Lk.mk h.n <| getT ints_inj (toAtoms_ints ks) lkn <| k H sts W num h (fun _ _ _ => id) fun _ _ => id
  | none =>
    rw [hk] at lkn
    rw [lkn]
    have bn := Nat.ne_of_gt (Nat.lt_trans f.fb f.fn)
    have sn := Nat.ne_of_gt f.fn
    have e0 : putP (numM W) ks (.int (refsL (sts.map (·.1))).length) = numM (W ++ [(ks, (refsL (sts.map (·.1))).length)]) := by rw [putP_new lkn, numM, numM, List.map_append]; rfl
    have lk2 : lk (putP (numM W) ks (.int (refsL (sts.map (·.1))).length)) ks = some (.int (refsL (sts.map (·.1))).length) := putP_lk.trans (if_pos rfl)
    have s₁ := SaF.of (o := dicL (putP (numM W) ks (.int (refsL (sts.map (·.1))).length))) h.n
    have b₁ := s₁.old _ _ bn h.b
    have g₁ := s₁.old _ _ sn h.s
    refine Lk.mk h.b <| Lk.mk h.s <| Lk.mk h.b <| Lk.mk h.n <| setT ints_inj (toAtoms_ints ks) (by rw [List.length_map]; exact Nat.le_of_lt (lidB hc)) <| Lk.mk b₁ <| Lk.mk g₁ <| Lk.mk b₁ <| Lk.mk g₁ <| newState (d := d) h1 h2 fun H₂ m e₂ lm mH st => ?_
    have g₂ := e₂.get g₁
    have b₂ := e₂.get b₁
    have n₂ := e₂.get s₁.at_
    have hsl : (refsL (sts.map (·.1))).length < lid := by rw [List.length_map, List.length_map, h.len]; exact lidB hc
    have s₃ := SaF.of (o := .list (refsL (sts.map (·.1)) ++ [.ref (H.set z.nu (dicL (putP (numM W) ks (.int (refsL (sts.map (·.1))).length)))).length])) g₂
    have l₁ : (H.set z.nu (dicL (putP (numM W) ks (.int (refsL (sts.map (·.1))).length)))).length = H.length := List.length_set
    refine Lk.mk g₂ <| Gd.mk hsl <| Lk.mk (s₃.old _ _ (Nat.ne_of_gt f.fb) b₂) <| Lk.mk (s₃.old _ _ (Nat.ne_of_lt f.fn) n₂) <| getT ints_inj (toAtoms_ints ks) lk2 ?_
    rw [l₁] at lm st s₃ ⊢
    have hl2 : H.length ≤ H₂.length := Nat.le_of_lt (Nat.lt_trans lm mH)
    have old : ∀ (i : Nat) (x : AO), i ≠ z.nu → i ≠ z.st → H[i]? = some x → (H₂.set z.st (.list (refsL (sts.map (·.1)) ++ [.ref H.length])))[i]? = some x := fun i x a b e => s₃.old i x b.symm (e₂.get (s₁.old i x a.symm e))
    have bnu : ∀ {i}, z.B ≤ i → i ≠ z.nu := fun h => Nat.ne_of_gt (Nat.lt_of_lt_of_le f.fB h)
    have bst : ∀ {i}, z.B ≤ i → i ≠ z.st := fun h => Nat.ne_of_gt (Nat.lt_trans f.fn (Nat.lt_of_lt_of_le f.fB h))
    have hks : ks ∉ W.map (·.1) := fun hm => let ⟨p, hp, e⟩ := List.mem_map.mp hm; lk_not hk p hp e
    have cs := Nat.ne_of_lt f.fc
    have fs := Nat.ne_of_lt f.ff
    refine k _ (sts ++ [(H.length, m)]) (W ++ [(ks, (refsL (sts.map (·.1))).length)]) _ ⟨s₃.ext _ ((s₁.ext _ h.ext (Nat.le_trans f.lo (Nat.le_of_lt f.fn))).trans e₂) f.lo, by rw [List.length_set]; exact Nat.le_trans h.lb hl2, s₃.old _ _ (Nat.ne_of_gt f.fb) b₂,
      ⟨⟨old _ _ (Nat.ne_of_lt (Nat.lt_trans f.fc f.fn)) cs h.cl.c.1, h.cl.c.2⟩, ⟨old _ _ (Nat.ne_of_lt (Nat.lt_trans f.ff f.fn)) fs h.cl.f.1, h.cl.f.2⟩, h.cl.len, h.cl.b⟩,
      s₃.at_.trans (by rw [List.map_append, ← refs_app]; rfl), (s₃.old _ _ (Nat.ne_of_lt f.fn) n₂).trans (by rw [e0]), by rw [List.map_append]; exact nodup_snoc h.wn hks, fun K hK => ?_, by rw [List.length_append, List.length_append, h.len]; rfl, ?_, ?_, fun p hp => ?_, fun i p hi hp => ?_⟩ (fun i o hi e => old i o (bnu hi) (bst hi) e) fun i p => get_new'
    · rw [List.map_append] at hK
      exact mem_snoc hK (h.wk K) fun e => e ▸ ⟨h1, h2⟩
    · rw [List.map_append]
      exact nodup_snoc h.n1 fun hm => let ⟨p, hp, e⟩ := List.mem_map.mp hm; Nat.ne_of_lt (h.big p hp).2.1 e
    · rw [List.map_append]
      exact nodup_snoc h.n2 fun hm => let ⟨p, hp, e⟩ := List.mem_map.mp hm; Nat.ne_of_lt (Nat.lt_trans (h.big p hp).2.2 lm) e
    · rw [List.length_set]
      exact mem_snoc hp (fun g => ⟨(h.big p g).1, Nat.lt_of_lt_of_le (h.big p g).2.1 hl2, Nat.lt_of_lt_of_le (h.big p g).2.2 hl2⟩) fun e => e ▸ ⟨⟨h.lb, Nat.le_trans h.lb (Nat.le_of_lt lm)⟩, Nat.lt_trans lm mH, mH⟩
    · rcases Nat.lt_or_ge i sts.length with hl | hl
      · rw [List.getElem?_append_left hl] at hp
        have hb := (h.big p (mem_of hp)).1
        exact (h.sta i p hi hp).mv fun j x hj e => hj.elim (fun q => q ▸ old _ x (bnu hb.1) (bst hb.1) (q ▸ e)) fun q => q ▸ old _ x (bnu hb.2) (bst hb.2) (q ▸ e)
      · rw [List.getElem?_append_right hl] at hp
        cases hj : i - sts.length with
        | zero =>
          rw [hj] at hp
          cases hp
          exact st.mv fun j x hj e => s₃.old j x (hj.elim (fun q => q ▸ (bst h.lb).symm) fun q => q ▸ (bst (Nat.le_trans h.lb (Nat.le_of_lt lm))).symm) e
        | succ j => rw [hj] at hp; cases hp
end
end Mine.C
end
section
set_option autoImplicit false
set_option Elab.async false
set_option maxRecDepth 10000
namespace Mine.C
open PySem

section
variable {a : GA} {d : GD} {z : BA} {H₀ H H' : AH} {sts : List (Nat × Nat)} {W : List (List Nat × Nat)} {t n : Nat} {K : AH → AV → Prop}
theorem BAt.next (h : BAt a d z H₀ H sts W t) : BAt a d z H₀ H sts W (t + 1) := { h with sta := fun i p hi hp => h.sta i p (Nat.le_of_succ_le hi) hp }
/-- the state at hand is none of those to come -/
theorem BAt.nr {r m : Nat} {fs : List (Nat × AV)} (h : BAt a d z H₀ H sts W (t + 1)) (hp : sts[t]? = some (r, m)) (hr : H[r]? = some (.inst 2 fs)) : ∀ i p, t + 1 ≤ i → sts[i]? = some p → r ≠ p.1 ∧ r ≠ p.2 := fun i p hi hq => by
  refine ⟨fun e => Nat.ne_of_lt hi (nodup_get h.n1 (get_map (f := Prod.fst) hp) (by have g := get_map (f := Prod.fst) hq; rw [← e] at g; exact g)), fun e => ?_⟩
  obtain ⟨_, gm, _, _⟩ := h.sta i p hi hq
  rw [← e, hr] at gm; cases gm
theorem BAt.nm {r m : Nat} {M : List (Nat × AV)} (h : BAt a d z H₀ H sts W (t + 1)) (hp : sts[t]? = some (r, m)) (hm : H[m]? = some (dicI M)) : ∀ i p, t + 1 ≤ i → sts[i]? = some p → m ≠ p.1 ∧ m ≠ p.2 := fun i p hi hq => by
  refine ⟨fun e => ?_, fun e => Nat.ne_of_lt hi (nodup_get h.n2 (get_map (f := Prod.snd) hp) (by have g := get_map (f := Prod.snd) hq; rw [← e] at g; exact g))⟩
  obtain ⟨g, _, _, _⟩ := h.sta i p hi hq
  rw [← e, hm] at g
  cases M <;> cases g
structure ExI (a : GA) (d : GD) (z : BA) (H₀ : AH) (t r m qd : Nat) (fs : List (Nat × AV)) (D : List (Nat × List Nat)) (i : Nat) (sts : List (Nat × Nat)) (W : List (List Nat × Nat)) (M : List (Nat × AV)) (H' : AH) : Prop where
  h : BAt a d z H₀ H' sts W (t + 1)
  p : sts[t]? = some (r, m)
  r : H'[r]? = some (.inst 2 fs)
  m : H'[m]? = some (dicI M)
  n : M.length ≤ i
  q : H'[qd]? = some (dicI (tupM D))
theorem expand_ok (f : BaF z H₀) (hg₀ : GramAt H₀ a d) (hd : GOk d) (h : BAt a d z H₀ H sts W t) {r m : Nat} (hp : sts[t]? = some (r, m))
    (k : ∀ (H' : AH) (sts' : List (Nat × Nat)) (W' : List (List Nat × Nat)), BAt a d z H₀ H' sts' W' (t + 1) → t + 1 ≤ sts'.length → K H' .none) : Cw (mi theFn (n + 80)) (.fn 29) [.ref z.b, .ref r] H K := by
  obtain ⟨hr, hm, hk1, hk2⟩ := h.sta t _ (Nat.le_refl _) hp
  rename_i ks num s i1 r1
  have big := h.big _ (mem_of hp)
  have hrm : r ≠ m := fun e => by rw [e, hm] at hr; cases hr
  have h := h.next
  refine fnM theFn_29 <| Lk.mk h.b <| Lk.mk h.cl.c.1 <| Lk.mk hr <| close_ok (hg₀.ext h.ext) hd h.cl hk2 (lt_nodup hk1) fun H₁ q zs e₁ hq hz hzn hz2 => ?_
  have h₁ := h.mv e₁
  have hr₁ := e₁.get hr
  have rq : r ≠ q := Nat.ne_of_lt (Nat.lt_of_lt_of_le big.2.1 hq)
  refine saV hr₁ rfl rfl fun H₂ s₂ => ?_
  have h₂ := h₁.sa f s₂ big.1.1 (h₁.nr hp hr₁)
  have z₂ := s₂.old _ _ rq hz
  refine Lk.mk h₂.b <| Lk.mk s₂.at_ <| completeRules_ok (hg₀.ext h₂.ext) hd z₂ hzn hz2 fun H₃ q₃ e₃ => ?_
  have h₃ := h₂.mv e₃
  have r₃ := e₃.get s₂.at_
  refine saV r₃ rfl rfl fun H₄ s₄ => ?_
  have h₄ := h₃.sa f s₄ big.1.1 (h₃.nr hp r₃)
  have m₄ := s₄.old _ _ hrm (e₃.get (s₂.old _ _ hrm (e₁.get hm)))
  refine Lk.mk h₄.b <| Lk.mk s₄.at_ <| kernelsBehind_ok (hg₀.ext h₄.ext) hd (s₄.old _ _ rq (e₃.get z₂)) hzn hz2 fun H₅ qd D e₅ hqd hD hDl hD2 => ?_
  have r₄ := s₄.at_
  refine Lk.mk hD <| iterG ?_
  refine ForW.mk (xs := (tupM D).map fun p => ofAtom (atomI p.1)) (σ := List (Nat × Nat) × List (List Nat × Nat) × List (Nat × AV) × Option AV) (fun s => [oR z.b, oR r, oR qd, s.2.2.2]) (fun i s H' => ExI a d z H₀ t r m qd _ D i s.1 s.2.1 s.2.2.1 H') (fun i s H' g => Src.dic g.q) (fun i x s H' hx g => ?_) (fun s H' g => k H' s.1 s.2.1 g.h (lt_of_get g.p)) (s := (sts, W, [], none))
    ⟨h₄.mv e₅, hp, e₅.get r₄, e₅.get m₄, Nat.le_refl _, hD⟩
  refine map_get hx fun pv hpv => ?_
  refine map_get hpv fun p hpd => ?_
  have hi := lt_of_get hpd
  obtain ⟨L, hL⟩ := lk_of (mem_of hpd)
  obtain ⟨l1, l2⟩ := hD2 _ (lk_mem hL)
  refine okW.mk rfl <| Lk.mk g.h.b <| Lk.mk g.q <| getG atomI_inj atomI_of (tupM_lk hL) <| numberOf_ok f hd g.h l1 l2 fun H₆ sts₆ W₆ num₆ h₆ kp s6 => ?_
  have p₆ := s6 _ _ g.p
  have m₆ := kp _ _ big.1.2 g.m
  have r₆ := kp _ _ big.1.1 g.r
  have qB : z.B ≤ qd := Nat.le_trans h₄.lb hqd
  have d₆ := kp _ _ qB g.q
  have mq : m ≠ qd := Nat.ne_of_lt (Nat.lt_of_lt_of_le (lt_of_get m₄) hqd)
  have s₇ := SaF.of (o := dicI (putP s.2.2.1 p.1 (.int num₆))) m₆
  refine Lk.mk r₆ <| Lk.mk m₆ <| setG atomI_inj atomI_of (lidE (Nat.le_trans g.n (Nat.le_trans (Nat.le_of_lt hi) (Nat.le_trans hDl (by decide))))) <| AtI.mk (s := (sts₆, W₆, putP s.2.2.1 p.1 (.int num₆), oI p.1)) ⟨h₆.sa f s₇ big.1.2 (h₆.nm p₆ m₆), p₆, s₇.old _ _ hrm.symm r₆, s₇.at_, Nat.le_trans putP_len (Nat.succ_le_succ g.n), s₇.old _ _ mq d₆⟩
structure BuI (a : GA) (d : GD) (z : BA) (H₀ : AH) (m t : Nat) (sts : List (Nat × Nat)) (W : List (List Nat × Nat)) (H' : AH) : Prop where
  h : BAt a d z H₀ H' sts W t
  le : t ≤ sts.length
  hm : m + t = 524288
theorem built_ok (f : BaF z H₀) (hg₀ : GramAt H₀ a d) (hd : GOk d) (hR : 0 < d.R.length) (h : BAt a d z H₀ H [] [] 0) (k : ∀ (H' : AH) (u : Nat), Ext H₀ H' → H₀.length ≤ u → H'[u]? = some (.inst 4 [(30, .ref a.g), (35, .ref z.st)]) → K H' (.ref u)) :
    Cw (mi theFn (n + 100)) (.fn 30) [.ref z.b] H K := by
  have hg := hg₀.ext h.ext
  obtain ⟨o, ho⟩ := get_ex (l := d.offs) (i := 0) (hd.on.symm ▸ hR)
  obtain ⟨p, hp⟩ := get_ex hR
  have hown := lt_of_get (hd.o1 0 p o hp ho 0 (Nat.zero_le _))
  refine fnM theFn_30 <| Lk.mk h.b <| Lk.mk h.b <| Lk.mk hg.g.1 <| item_ok (e := 0) hg ho <| numberOf_ok (ks := [o]) f hd h (List.pairwise_singleton ..) (fun x hx => List.mem_singleton.mp hx ▸ hown) fun H₁ sts W num hb _ _ => ?_
  refine WhW.mk (σ := List (Nat × Nat) × List (List Nat × Nat) × Nat) (fun s => [oR z.b, oI s.2.2]) (fun m s H' => BuI a d z H₀ m s.2.2 s.1 s.2.1 H') (fun m s H' g => ?_) (k := 524288) (s := (sts, W, 0)) ⟨hb, Nat.zero_le _, rfl⟩
  have hl : (refsL (s.1.map (·.1))).length = s.1.length := by rw [List.length_map, List.length_map]
  refine Lk.mk g.h.b <| Lk.mk g.h.s <| br.ltN (fun hlt => ?_) fun hge => ?_
  · obtain ⟨⟨r, m'⟩, hp⟩ := get_ex (hl ▸ hlt)
    refine Lk.mk g.h.b <| Lk.mk g.h.b <| Lk.mk g.h.s <| okW.mk (refs_at (get_map hp)) <| expand_ok f hg₀ hd g.h hp fun H₂ sts₂ W₂ h₂ l₂ => ?_
    have hc := g.h.count hd
    have hlen := g.h.len
    have hm := g.hm
    have ht := lt_of_get hp
    exact LtI.mk (k' := m - 1) (s := (sts₂, W₂, s.2.2 + 1)) (by lia) ⟨h₂, l₂, by lia⟩
  · refine Lk.mk g.h.b <| Lk.mk g.h.b <| clsM rfl <| fnM theFn_26 <| saNew rfl rfl <| saNew rfl rfl <| k _ _ g.h.ext.new g.h.ext.len look_new
theorem asgCloser {c : Nat} {Q : Fl → Ro → AH → Prop} {ρ : Ro} (hg : GramAt H a d) (hd : GOk d) (h2 : 2 ≤ H.length) (k : ∀ H' f xs, Ext H H' → CloserAt H' H.length a d f xs → asgK (mi theFn (n + 77)) (.attr (.loc 0) c) ρ Q H' (.ref H.length)) :
    callK2 (mi theFn (n + 77)) (.cls 3) (asgK (mi theFn (n + 77)) (.attr (.loc 0) c) ρ Q) H [.ref a.g] := closerInit_ok (n := n + 37) hg hd h2 k
theorem builderInit_ok (hg : GramAt H a d) (hd : GOk d) (h2 : 2 ≤ H.length) (k : ∀ (H' : AH) (z : BA), BaF z H → BAt a d z H H' [] [] 0 → K H' (.ref z.b)) : Cw (mi theFn (n + 80)) (.cls 5) [.ref a.g] H K := by
  have h3 : 2 ≤ (H ++ [AO.inst 5 [(30, .ref a.g)]]).length := Nat.le_trans h2 (Nat.le_of_lt lt_new)
  refine clsM rfl <| fnM theFn_27 <| saNew rfl rfl ?_
  show callK2 (mi theFn (n + 77)) (.cls 3) (asgK (mi theFn (n + 77)) (.attr (.loc 0) 36) [some (.ref H.length), some (.ref a.g)] _) (H ++ [AO.inst 5 [(30, .ref a.g)]]) [.ref a.g]
  refine asgCloser (hg.ext .app) hd h3 fun H₁ f xs e₁ hc => ?_
  have i₁ := e₁.get look_new
  have hf : H.length ≠ f := fun e => by have := hc.f.1; rw [← e, i₁] at this; cases this
  rw [len_new] at hc ⊢
  have hc1 : H.length ≠ H.length + 1 := Nat.ne_of_lt (Nat.lt_succ_self _)
  refine saV i₁ rfl rfl fun H₂ s₂ => saO s₂.at_ rfl rfl fun H₃ s₃ n₃ => saO s₃.at_ rfl rfl fun H₄ s₄ n₄ => ?_
  have e₄ := s₄.ext H (s₃.ext H (s₂.ext H (Ext.app.trans e₁) (Nat.le_refl _)) (Nat.le_refl _)) (Nat.le_refl _)
  have old : ∀ (i : Nat) (x : AO), H.length ≠ i → H₁[i]? = some x → H₄[i]? = some x := fun i x q e => s₄.old _ _ q (s₃.old _ _ q (s₂.old _ _ q e))
  have l₂ : H₂.length = H₁.length := s₂.len
  have l₃ : H₃.length = H₁.length + 1 := s₃.len.trans (congrArg (· + 1) l₂)
  have l₄ : H₄.length = H₁.length + 2 := s₄.len.trans (congrArg (· + 1) l₃)
  have lc := lt_of_get hc.c.1
  have lf := lt_of_get hc.f.1
  have hi₄ := s₄.at_
  have lb : H.length < H₁.length := Nat.lt_trans (Nat.lt_succ_self _) lc
  rw [l₂] at n₃ hi₄
  rw [l₃] at n₄ hi₄
  have bf : BaF ⟨H.length, H.length + 1, f, H₁.length, H₁.length + 1, H₁.length + 2, xs⟩ H := ⟨Nat.le_of_lt lb, lb, lc, lf, Nat.lt_succ_self _, Nat.lt_succ_self _⟩
  exact k _ _ bf ⟨e₄, Nat.le_of_eq l₄.symm, hi₄, ⟨⟨old _ _ hc1 hc.c.1, hc.c.2⟩, ⟨old _ _ hf hc.f.1, hc.f.2⟩, hc.len, hc.b⟩, s₄.old _ _ (Nat.ne_of_lt lb) n₃, n₄, .nil, (fun _ h => nomatch h), rfl, .nil, .nil, (fun _ h => nomatch h), fun i p _ h => by rw [List.getElem?_nil] at h; cases h⟩
theorem build_ok (hg : GramAt H a d) (hd : GOk d) (hR : 0 < d.R.length) (h2 : 2 ≤ H.length) (k : ∀ (H' : AH) (u st : Nat), Ext H H' → At H' u (.inst 4 [(30, .ref a.g), (35, .ref st)]) → K H' (.ref u)) : Cw (mi theFn (n + 120)) (.fn 31) [.ref a.g] H K :=
  fnM theFn_31 <| builderInit_ok hg hd h2 fun H' z f h => Lk.mk h.b <| built_ok f hg hd hR h fun H'' u e hu hu' => k H'' u _ e ⟨hu', Nat.ne_of_gt (Nat.lt_of_lt_of_le h2 hu)⟩
end
end Mine.C
end
section
set_option autoImplicit false
set_option Elab.async false
set_option maxRecDepth 10000
namespace Mine.C
open PySem

theorem NulOk.full {d : GD} {N : List Bool} (h : NulOk d N) {xs ws : List Nat} (hd : Der d.R xs ws) : ws = [] → ∀ x ∈ xs, NulP N x := by
  induction hd with
  | nil => exact fun _ _ h => nomatch h
  | keep _ _ => exact nofun
  | rule hm _ _ ih1 ih2 =>
    intro e x hx
    obtain ⟨e1, e2⟩ := List.append_eq_nil_iff.mp e
    exact (List.mem_cons.mp hx).elim (fun e => e ▸ h.closed _ hm (ih1 e1)) (ih2 e2 x)
theorem NulOk.uniq {d : GD} {N N' : List Bool} (h : NulOk d N) (h' : NulOk d N') : N = N' := by
  refine List.ext_getElem? fun x => ?_
  have h1 : N[x]? = some true → N'[x]? = some true := fun hx => h'.full (h.sound x hx) rfl x (.head _)
  have h2 : N'[x]? = some true → N[x]? = some true := fun hx => h.full (h'.sound x hx) rfl x (.head _)
  rcases Nat.lt_or_ge x d.names.length with hl | hl
  · obtain ⟨b, hb⟩ := get_ex (l := N) (h.len.symm ▸ hl)
    obtain ⟨c, hc⟩ := get_ex (l := N') (h'.len.symm ▸ hl)
    rw [hb, hc] at h1 h2 ⊢
    cases b with
    | true => exact (h1 rfl).symm
    | false => cases c with
      | true => exact h2 rfl
      | false => rfl
  · rw [List.getElem?_eq_none (h.len.symm ▸ hl), List.getElem?_eq_none (h'.len.symm ▸ hl)]
inductive FinderAt (H : AH) (fi : Nat) (a : GA) (d : GD) (N : List Bool) (F : List Nat) : Prop
  | mk {au nr fr : Nat} (i : At H fi (.inst 7 [(43, .ref au), (30, .ref a.g), (44, .ref nr), (31, .ref fr)])) (n : At H nr (.list (boolsL N))) (f : At H fr (.list (intsL F)))
theorem FinderAt.extP {H H' : AH} {fi : Nat} {a : GA} {d : GD} {N : List Bool} {F : List Nat} (h : FinderAt H fi a d N F) (e : ExtP H H') : FinderAt H' fi a d N F := let ⟨h1, h2, h3⟩ := h; ⟨h1.extP e, h2.extP e, h3.extP e⟩
theorem FinderAt.ext {H H' : AH} {fi : Nat} {a : GA} {d : GD} {N : List Bool} {F : List Nat} (h : FinderAt H fi a d N F) (e : Ext H H') : FinderAt H' fi a d N F := h.extP e.toP
section
variable {H : AH} {a : GA} {d : GD} {n : Nat} {K : AH → AV → Prop}
theorem finderInit_ok (hg : GramAt H a d) (hd : GOk d) (h2 : 2 ≤ H.length) {u st : Nat} (hu : H[u]? = some (.inst 4 [(30, .ref a.g), (35, .ref st)]))
    (k : ∀ (H' : AH) (fi : Nat) (N : List Bool) (F : List Nat), Ext H H' → NulOk d N → FirstsOk d N F → FinderAt H' fi a d N F → K H' (.ref fi)) : Cw (mi theFn (n + 120)) (.cls 7) [.ref u] H K := by
  refine clsM rfl <| fnM theFn_33 <| saNew rfl rfl <| Lk.mk (get_new hu) <| saNew rfl rfl ?_
  refine Lk.mk look_new <| nullable_ok (hg.ext .app) hd fun nr H₂ N e₂ hnr hN hfN => ?_
  have i₂ := e₂.get look_new
  have ln := Nat.lt_of_lt_of_le lt_new hnr
  refine saV i₂ rfl rfl fun H₃ s₃ => ?_
  have e₃ : Ext H H₃ := s₃.ext H (Ext.app.trans e₂) (Nat.le_refl _)
  refine Lk.mk s₃.at_ <| firstMasks_ok (hg.ext e₃) hd fun fr H₄ N' F e₄ hfr hN' hF hfF => ?_
  cases hN'.uniq hN
  have i₄ := e₄.get s₃.at_
  have lf := Nat.lt_of_lt_of_le (lt_of_get s₃.at_) hfr
  exact saV i₄ rfl rfl fun H₅ s₅ => k H₅ H.length N F (s₅.ext H (e₃.trans e₄) (Nat.le_refl _)) hN hF ⟨⟨s₅.at_, Nat.ne_of_gt h2⟩, ⟨s₅.old _ _ (Nat.ne_of_lt ln) (e₄.get (s₃.old _ _ (Nat.ne_of_lt ln) hfN)), Nat.ne_of_gt (Nat.lt_of_lt_of_le h2 (Nat.le_of_lt ln))⟩, ⟨s₅.old _ _ (Nat.ne_of_lt lf) hfF, Nat.ne_of_gt (Nat.lt_of_lt_of_le h2 (Nat.le_of_lt lf))⟩⟩
end
/-- what opened's dict holds: who gave whom, and the row behind -/
abbrev ParM := List (Nat × Option (Nat × List Nat))
noncomputable def parV (v : Option (Nat × List Nat)) : AV := match v with
  | none => .none
  | some p => .tup [.int p.1, .tup (intsL p.2)]
noncomputable abbrev parM (P : ParM) : List (Nat × AV) := P.map fun p => (p.1, parV p.2)
inductive ParUp (d : GD) (N : List Bool) (P : ParM) (i x : Nat) (v : Option (Nat × List Nat)) : Prop
  | mk {h : Nat} {tail pre : List Nat} {j : Nat} {w : Option (Nat × List Nat)} (e : v = some (h, tail)) (lt : j < i) (g : P[j]? = some (h, w)) (r : (h, pre ++ x :: tail) ∈ d.R) (n : ∀ z ∈ pre, NulP N z)
structure ParOk (d : GD) (N : List Bool) (sym : Nat) (P : ParM) : Prop where
  nd : (P.map (·.1)).Nodup
  lt : ∀ x ∈ P.map (·.1), x < d.names.length
  hd : P[0]? = some (sym, none)
  up : ∀ i x v, P[i]? = some (x, v) → 1 ≤ i → ParUp d N P i x v
section
variable {d : GD} {N : List Bool} {F : List Nat} {sym t : Nat} {P : ParM}
theorem ParOk.le (h : ParOk d N sym P) (hd : GOk d) : P.length ≤ 8 := by
  have := nodup_lt_len h.nd h.lt
  rw [List.length_map] at this
  exact Nat.le_trans this hd.n8
theorem ParOk.add (h : ParOk d N sym P) {x y : Nat} {tail pre : List Nat} {j : Nat} {w : Option (Nat × List Nat)} (hx : x ∉ P.map (·.1)) (hl : x < d.names.length) (hj : P[j]? = some (y, w)) (hr : (y, pre ++ x :: tail) ∈ d.R) (hp : ∀ z ∈ pre, NulP N z) : ParOk d N sym (P ++ [(x, some (y, tail))]) := by
  refine ⟨by rw [List.map_append]; exact nodup_snoc h.nd hx, fun z hz => ?_, get_new' h.hd, fun i z v hi h1 => ?_⟩
  · rw [List.map_append] at hz
    exact mem_snoc hz (h.lt z) fun e => e ▸ hl
  · rcases Nat.lt_or_ge i P.length with g | g
    · rw [List.getElem?_append_left g] at hi
      obtain ⟨e, lt, g', r, n⟩ := h.up i z v hi h1
      exact ⟨e, lt, get_new' g', r, n⟩
    · rw [List.getElem?_append_right g] at hi
      cases hj' : i - P.length with
      | zero =>
        rw [hj'] at hi
        cases hi
        exact ⟨rfl, Nat.lt_of_lt_of_le (lt_of_get hj) g, get_new' hj, hr, hp⟩
      | succ j => rw [hj'] at hi; cases hi
theorem ParOk.look (h : ParOk d N sym P) {i x : Nat} {v : Option (Nat × List Nat)} (hi : P[i]? = some (x, v)) : lk (parM P) x = some (parV v) := by
  obtain ⟨v', hq⟩ := lk_of (mem_of hi)
  obtain ⟨j, hj⟩ := List.mem_iff_getElem?.mp (lk_mem hq)
  have hj' := get_map (f := Prod.fst) hj
  cases nodup_get h.nd (get_map (f := Prod.fst) hi) hj'
  cases hi.symm.trans hj
  exact (lk_map parV).trans (congrArg (Option.map parV) hq)
theorem inPar {B : Bool → Prop} {x : Nat} (q1 : x ∈ P.map (·.1) → B true) (q2 : x ∉ P.map (·.1) → lk (parM P) x = none → B false) : inO B (.int x) (dicI (parM P)) := by
  refine inG atomI_inj atomI_of ?_
  have e : lk (parM P) x = (lk P x).map parV := lk_map parV
  cases hq : lk P x with
  | none =>
    rw [hq] at e
    rw [e]; exact q2 (fun hm => let ⟨p, hp, e⟩ := List.mem_map.mp hm; lk_not hq p hp e) e
  | some v =>
    rw [hq] at e
    rw [e]; exact q1 (List.mem_map.mpr ⟨_, lk_mem hq, rfl⟩)
/-- the rule is done with, up to the spot -/
noncomputable def DoneS (N : List Bool) (F : List Nat) (t : Nat) (P : ParM) (r : List Nat) (s : Nat) : Prop := ∀ pre y post f, r = pre ++ y :: post → pre.length < s → (∀ z ∈ pre, NulP N z) → F[y]? = some f → f.testBit t = true → y ∈ P.map (·.1)
theorem DoneS.more {r : List Nat} {s : Nat} {p : Nat × Option (Nat × List Nat)} (h : DoneS N F t P r s) : DoneS N F t (P ++ [p]) r s := fun pre y post f h1 h2 h3 h4 h5 => by
  rw [List.map_append]; exact List.mem_append_left _ (h pre y post f h1 h2 h3 h4 h5)
theorem DoneS.next {r : List Nat} {s y f : Nat} (h : DoneS N F t P r s) (hy : r[s]? = some y) (hf : F[y]? = some f) (k : f.testBit t = true → y ∈ P.map (·.1)) : DoneS N F t P r (s + 1) := fun pre y' post f' g1 g2 g3 g4 g5 => by
  rcases Nat.lt_or_ge pre.length s with g | g
  · exact h pre y' post f' g1 g g3 g4 g5
  · have e : s = pre.length := Nat.le_antisymm g (Nat.le_of_lt_succ g2)
    rw [g1, e, List.getElem?_append_right (Nat.le_refl _), Nat.sub_self] at hy
    cases hy
    cases hf.symm.trans g4
    exact k g5
theorem DoneS.stop {r : List Nat} {s y : Nat} (h : DoneS N F t P r (s + 1)) (hy : r[s]? = some y) (hc : N[y]? = some false) {m : Nat} : DoneS N F t P r m := fun pre y' post f' g1 _ g3 g4 g5 => by
  rcases Nat.lt_or_ge pre.length (s + 1) with g | g
  · exact h pre y' post f' g1 g g3 g4 g5
  · rw [g1, List.getElem?_append_left g] at hy
    exact absurd (hc.symm.trans (g3 y (mem_of hy))) (by decide)
end
theorem bit_1 {f t : Nat} : (((f >>> t) &&& 1 : Nat) : Int) = 1 ↔ f.testBit t = true := by
  have h : (f >>> t) &&& 1 = (f.testBit t).toNat := by
    rw [Nat.and_one_is_mod, Nat.shiftRight_eq_div_pow, Nat.toNat_testBit]
  rw [h]
  cases f.testBit t
  · exact ⟨fun e => absurd e (by decide), fun e => nomatch e⟩
  · exact ⟨fun _ => rfl, fun _ => rfl⟩
theorem bit_0 {f t : Nat} : (((f >>> t) &&& 1 : Nat) : Int) = 0 ↔ ¬ f.testBit t = true := by
  have h : (f >>> t) &&& 1 = (f.testBit t).toNat := by
    rw [Nat.and_one_is_mod, Nat.shiftRight_eq_div_pow, Nat.toNat_testBit]
  rw [h]
  cases f.testBit t
  · exact ⟨fun _ => nofun, fun _ => rfl⟩
  · exact ⟨fun e => absurd e (by decide), fun e => absurd rfl e⟩
theorem split_at {α : Type} {xs : List α} {i : Nat} {x : α} (h : xs[i]? = some x) : xs = xs.take i ++ x :: xs.drop (i + 1) := by
  obtain ⟨hl, e⟩ := List.getElem?_eq_some_iff.mp h
  rw [← e, ← List.drop_eq_getElem_cons hl, List.take_append_drop]
end Mine.C
end
section
set_option autoImplicit false
set_option Elab.async false
set_option maxRecDepth 10000
namespace Mine.C
open PySem

/-- the heap of opened -/
structure OpAt (d : GD) (N : List Bool) (sym : Nat) (H : AH) (lq : Nat) (H' : AH) (P : ParM) : Prop where
  ext : Ext H H'
  p : H'[H.length]? = some (dicI (parM P))
  l : H'[lq]? = some (.list (intsL (P.map (·.1))))
  ok : ParOk d N sym P
section
variable {a : GA} {d : GD} {H : AH} {n : Nat} {N : List Bool} {F : List Nat} {fi sym t lq : Nat} {K : AH → AV → Prop}
theorem OpAt.mv {H' H'' : AH} {P : ParM} (h : OpAt d N sym H lq H' P) (e : Ext H' H'') : OpAt d N sym H lq H'' P := ⟨h.ext.trans e, e.get h.p, e.get h.l, h.ok⟩
/-- up to the place u, all is done; at it x stands, of whose rules i are done -/
structure OpC (d : GD) (N : List Bool) (F : List Nat) (t u x : Nat) (v : Option (Nat × List Nat)) (i : Nat) (P : ParM) : Prop where
  c1 : P[u]? = some (x, v)
  c2 : ∀ j y v, j < u → P[j]? = some (y, v) → ∀ r, (y, r) ∈ d.R → DoneS N F t P r r.length
  c3 : ∀ k ∈ (byL d.R x).take i, ∀ p, d.R[k]? = some p → DoneS N F t P p.2 p.2.length
theorem OpC.more {u x i : Nat} {v : Option (Nat × List Nat)} {P : ParM} {q : Nat × Option (Nat × List Nat)} (h : OpC d N F t u x v i P) : OpC d N F t u x v i (P ++ [q]) :=
  ⟨get_new' h.c1, fun j y v hj hp r hr => by
    rw [List.getElem?_append_left (Nat.lt_trans hj (lt_of_get h.c1))] at hp
    exact (h.c2 j y v hj hp r hr).more, fun k hk p hp => (h.c3 k hk p hp).more⟩
noncomputable def rO (fi sym t : Nat) (H : AH) (lq : Nat) (s5 s6 s7 s8 s9 s10 s11 s12 : Option AV) : Ro := [oR fi, oI sym, oI t, oR H.length, oR lq, s5, s6, s7, s8, s9, s10, s11, s12]
structure OpW (d : GD) (N : List Bool) (F : List Nat) (sym t : Nat) (H : AH) (lq m u : Nat) (P : ParM) (H' : AH) : Prop where
  o : OpAt d N sym H lq H' P
  le : u ≤ P.length
  dn : ∀ j y v, j < u → P[j]? = some (y, v) → ∀ r, (y, r) ∈ d.R → DoneS N F t P r r.length
  hm : m + u = d.names.length
structure OpR (d : GD) (N : List Bool) (F : List Nat) (sym t : Nat) (H : AH) (lq q u x : Nat) (v : Option (Nat × List Nat)) (i : Nat) (P : ParM) (H' : AH) : Prop where
  o : OpAt d N sym H lq H' P
  b : H'[q]? = some (.list (intsL (byL d.R x)))
  c : OpC d N F t u x v i P
structure OpS (d : GD) (N : List Bool) (F : List Nat) (sym t : Nat) (H : AH) (lq q u x : Nat) (v : Option (Nat × List Nat)) (i : Nat) (r : List Nat) (s : Nat) (P : ParM) (H' : AH) : Prop extends OpR d N F sym t H lq q u x v i P H' where
  d : DoneS N F t P r s
structure OpZ (d : GD) (N : List Bool) (F : List Nat) (sym t : Nat) (H : AH) (lq q u x : Nat) (v : Option (Nat × List Nat)) (i : Nat) (r : List Nat) (s : Nat) (P : ParM) (H' : AH) : Prop extends OpS d N F sym t H lq q u x v i r s P H' where
  z : ∀ z ∈ r.take s, NulP N z
theorem first_in {P : ParM} (hF : FirstsOk d N F) {x : Nat} (hf : FirstR d.R (NulP N) x t) : t < d.tc → (∀ (y : Nat) (r : List Nat), y ∈ P.map (·.1) → (y, r) ∈ d.R → DoneS N F t P r r.length) → x ∈ P.map (·.1) → t ∈ P.map (·.1) := by
  induction hf with
  | refl t => exact fun _ _ h => h
  | step hm hp hf ih =>
    intro ht hdn hx
    obtain ⟨g, g1, g2⟩ := hF.full _ _ ht hf
    exact ih ht hdn (hdn _ _ hx hm _ _ _ g rfl (by rw [List.length_append, List.length_cons]; exact Nat.lt_add_of_pos_right (Nat.succ_pos _)) hp g1 g2)
/-- the walk back -/
structure OpB (d : GD) (H' : AH) (P : ParM) (t m x : Nat) (row : List Nat) (H₂ : AH) : Prop where
  e : H₂ = H'
  g : ∃ v, P[m]? = some (x, v)
  lt : ∀ x ∈ row, x < d.names.length
  n : row.length + 3 * m ≤ 24
  der : Der d.R [x] (t :: row)
theorem opened_back (hd : GOk d) (hN : NulOk d N) {P : ParM} {H' : AH} (o : OpAt d N sym H lq H' P) (ht : t ∈ P.map (·.1)) (k : ∀ (row : List Nat), (∀ x ∈ row, x < d.names.length) → row.length ≤ 24 → Der d.R [sym] (t :: row) → K H' (.tup (intsL row))) {s5 s6 s7 s8 s9 s10 : Option AV} :
    blF (mi theFn (n + 30)) (outK K) (b34.drop 4) (rO fi sym t H lq s5 s6 s7 s8 s9 s10 none none) H' := by
  obtain ⟨⟨t', w⟩, hq, rfl⟩ := List.mem_map.mp ht
  obtain ⟨i, hi⟩ := List.mem_iff_getElem?.mp hq
  have hPl := o.ok.le hd
  have hil := lt_of_get hi
  refine WhW.mk (σ := Nat × List Nat × Option AV) (fun s => rO fi sym t' H lq s5 (oI s.1) s7 s8 s9 s10 (oT (intsL s.2.1)) s.2.2) (fun m s H₂ => OpB d H' P t' m s.1 s.2.1 H₂) (fun m s H₂ h => ?_) (k := i) (s := (t', [], none)) ⟨rfl, ⟨w, hi⟩, (fun _ h => nomatch h), by show 0 + 3 * i ≤ 24; lia, Der.refl _⟩
  have he := h.e
  subst he
  obtain ⟨v, hm⟩ := h.g
  have hlk := o.ok.look hm
  refine Lk.mk o.p <| getG atomI_inj atomI_of hlk ?_
  cases v with
  | none =>
    have hx : s.1 = sym := by
      cases m with
      | zero => rw [o.ok.hd] at hm; cases hm; rfl
      | succ m => obtain ⟨e, _, _, _, _⟩ := o.ok.up _ _ _ hm (Nat.succ_pos m); cases e
    have hder := h.der
    rw [hx] at hder
    exact k s.2.1 h.lt (Nat.le_trans (Nat.le_add_right _ _) h.n) hder
  | some hv =>
    have hm1 : 1 ≤ m := by
      cases m with
      | zero => rw [o.ok.hd] at hm; cases hm
      | succ m => exact Nat.succ_pos m
    obtain ⟨e, lt, g', r, nl⟩ := o.ok.up _ _ _ hm hm1
    rename_i hh tail pre j w'
    cases e
    have hn := h.n
    have htl : tail.length ≤ 3 := by
      have := hd.rlen _ r
      rw [List.length_append, List.length_cons] at this
      exact Nat.le_trans (Nat.le_of_succ_le (Nat.le_add_left _ _)) this
    refine Lk.mk o.p <| getG atomI_inj atomI_of hlk <| Gd.mk (by rw [ints_len, ints_len]; exact lidE (by lia)) ?_
    show asgK _ _ _ _ _ (.tup (intsL s.2.1 ++ intsL tail))
    rw [ints_app]
    refine LtI.mk (k' := j) (s := (hh, s.2.1 ++ tail, oT (intsL tail))) lt ⟨rfl, ⟨w', g'⟩, fun z hz => (List.mem_append.mp hz).elim (h.lt z) fun g => hd.rsym _ r z (List.mem_append_right _ (.tail _ g)), by rw [List.length_append]; lia, ?_⟩
    have h1 := Der.null (R := d.R) (N := NulP N) hN.sound nl
    exact Der.one r (h1.append (a := pre) (u := []) (h.der.append (Der.refl tail)))
theorem opened_spot (hd : GOk d) (hF : FirstsOk d N F) (hN : NulOk d N) {au nr fr lq q u x i s rr : Nat} {v : Option (Nat × List Nat)} {P : ParM} {H' : AH} {p : Nat × List Nat} {s5 : Option AV} {Q : Fl → Ro → AH → Prop}
    (hi : H[fi]? = some (.inst 7 [(43, .ref au), (30, .ref a.g), (44, .ref nr), (31, .ref fr)])) (hnr : H[nr]? = some (.list (boolsL N))) (hfr : H[fr]? = some (.list (intsL F))) (lo : H.length < lq) (hq : lq < q)
    (h : OpZ d N F sym t H lq q u x v i p.2 s P H') (hpm : p ∈ d.R) (hpx : p.1 = x) {y : Nat} (hy : p.2[s]? = some y) {u9 u10 : Option AV}
    (k1 : ∀ P' H', OpZ d N F sym t H lq q u x v i p.2 (s + 1) P' H' → Q .next (rO fi sym t H lq s5 (oI x) (oI rr) (oT (intsL p.2)) (oI s) (oI y) none none) H')
    (k2 : ∀ P' H', OpS d N F sym t H lq q u x v i p.2 p.2.length P' H' → Q .brk (rO fi sym t H lq s5 (oI x) (oI rr) (oT (intsL p.2)) (oI s) (oI y) none none) H') :
    blF (mi theFn (n + 30)) Q [.asg (.loc 10) (.sub (.loc 8) (.loc 9)), .ifs (.bop true [.cmp (.Eq) (.bin (.BitAnd) (.bin (.RShift) (.sub (.attr (.loc 0) 31) (.loc 10)) (.loc 2)) (.cst (.int 1))) (.cst (.int 1)), .cmp (.NotIn) (.loc 10) (.loc 3)]) [.asg (.sub (.loc 3) (.loc 10)) (.tup [.loc 6, .call (.cst (.bi (.tuple))) [.slice (.loc 8) (some (.bin (.Add) (.loc 9) (.cst (.int 1)))) none]]), .expr (.mcall (.loc 4) 47 [.loc 10])] [], .ifs (.not (.sub (.attr (.loc 0) 44) (.loc 10))) [.brk] []]
      (rO fi sym t H lq s5 (oI x) (oI rr) (oT (intsL p.2)) (oI s) u10 none none) H' := by
  have hyn := hd.rsym p hpm y (mem_of hy)
  obtain ⟨f, hf⟩ := get_ex (l := F) (hF.len.symm ▸ hyn)
  obtain ⟨c, hc⟩ := get_ex (l := N) (hN.len.symm ▸ hyn)
  have fin : ∀ {P' : ParM} {H₃ : AH}, OpS d N F sym t H lq q u x v i p.2 (s + 1) P' H₃ → blF (mi theFn (n + 30)) Q [.ifs (.not (.sub (.attr (.loc 0) 44) (.loc 10))) [.brk] []] (rO fi sym t H lq s5 (oI x) (oI rr) (oT (intsL p.2)) (oI s) (oI y) none none) H₃ := fun {P' H₃} g => by
    refine Lk.mk (g.o.ext.get hi) <| Lk.mk (g.o.ext.get hnr) <| okW.mk (bools_at hc) ?_
    cases c with
    | true => exact k1 P' H₃ ⟨g, fun z hz => ((take_sub hy).mp hz).elim (h.z z) fun e => e ▸ hc⟩
    | false => exact k2 P' H₃ ⟨g.toOpR, g.d.stop hy hc⟩
  refine okW.mk (ints_at hy) <| Lk.mk (h.o.ext.get hi) <| Lk.mk (h.o.ext.get hfr) <| okW.mk (ints_at hf) <| br.dec (fun hb => ?_) fun hb => fin ⟨h.toOpR, h.d.next hy hf fun e => absurd (bit_1.mpr e) hb⟩
  refine Lk.mk h.o.p <| inPar (fun hm => fin ⟨h.toOpR, h.d.next hy hf fun _ => hm⟩) fun hm hlk => ?_
  have hl := h.o.ok.le hd
  have e1 : putP (parM P) y (.tup [.int x, .tup ((intsL p.2).drop (s + 1))]) = parM (P ++ [(y, some (x, p.2.drop (s + 1)))]) := by
    rw [putP_new hlk, ← List.map_drop, parM, parM, List.map_append]; rfl
  refine Gd.mk ⟨Nat.succ_pos s, by rw [ints_len]; exact lt_of_get hy⟩ <| Lk.mk h.o.p <| setG atomI_inj atomI_of (by rw [List.length_map]; exact lidE (Nat.le_trans hl (by decide))) <| Lk.mk (get_set h.o.l (Nat.ne_of_lt lo)) <| Lk.mk (get_set h.o.l (Nat.ne_of_lt lo)) <| Gd.mk (by rw [ints_len, List.length_map]; exact lidL (Nat.le_trans hl (by decide))) <| fin (P' := P ++ [(y, some (x, p.2.drop (s + 1)))]) ?_
  refine ⟨⟨⟨(h.o.ext.set (Nat.le_refl _)).set (Nat.le_of_lt lo), (get_set (get_set_self h.o.p) (Nat.ne_of_gt lo)).trans (by rw [e1]), (get_set_self (get_set h.o.l (Nat.ne_of_lt lo))).trans (by rw [List.map_append, ← ints_app]; rfl), h.o.ok.add hm hyn h.c.c1 (pre := p.2.take s) ?_ h.z⟩, get_set (get_set h.b (Nat.ne_of_lt (Nat.lt_trans lo hq))) (Nat.ne_of_lt hq), h.c.more⟩, h.d.more.next hy hf fun _ => ?_⟩
  · rw [← hpx, ← split_at hy]; exact hpm
  · rw [List.map_append]; exact List.mem_append_right _ (.head _)
theorem opened_ok (hg : GramAt H a d) (hd : GOk d) (hN : NulOk d N) (hF : FirstsOk d N F) (hfi : FinderAt H fi a d N F) (hs : sym < d.names.length) (ht : t < d.tc) (hf : FirstR d.R (NulP N) sym t)
    (k : ∀ (H' : AH) (row : List Nat), Ext H H' → (∀ x ∈ row, x < d.names.length) → row.length ≤ 24 → Der d.R [sym] (t :: row) → K H' (.tup (intsL row))) : Cw (mi theFn (n + 40)) (.fn 34) [.ref fi, .int sym, .int t] H K := by
  obtain ⟨hi, hnr, hfr⟩ := hfi
  have hi := hi.1
  have hnr := hnr.1
  have hfr := hfr.1
  refine fnM theFn_34 ?_
  have e0 : Ext H (H ++ [dicI (parM [(sym, none)])] ++ [.list (intsL [sym])]) := Ext.refl.new.new
  have lo : H.length < (H ++ [dicI (parM [(sym, none)])]).length := lt_new
  refine WhW.mk (σ := ParM × Nat × Option AV × Option AV × Option AV × Option AV × Option AV) (fun s => rO fi sym t H (H ++ [dicI (parM [(sym, none)])]).length (oI s.2.1) s.2.2.1 s.2.2.2.1 s.2.2.2.2.1 s.2.2.2.2.2.1 s.2.2.2.2.2.2 none none) (fun m s H' => OpW d N F sym t H (H ++ [dicI (parM [(sym, none)])]).length m s.2.1 s.1 H') (fun m s H' h => ?_) (k := d.names.length) (s := ([(sym, none)], 0, none, none, none, none, none)) ?_
  · refine Lk.mk h.o.p <| inPar (fun hm => opened_back (n := n + 8) hd hN h.o hm fun row h1 h2 h3 => k _ row h.o.ext h1 h2 h3) fun hm hlk => ?_
    have hl := h.o.ok.le hd
    refine Lk.mk h.o.l <| br.ltL (fun hlt => ?_) fun hge => ?_
    · rw [List.length_map] at hlt
      obtain ⟨⟨x, v⟩, hx⟩ := get_ex hlt
      have hxk : (s.1.map (·.1))[s.2.1]? = some x := get_map (f := Prod.fst) hx
      have hxn := h.o.ok.lt x (mem_of hxk)
      have hg' := hg.ext h.o.ext
      have hql := lt_of_get h.o.l
      refine Lk.mk h.o.l <| okW.mk (ints_at hxk) <| Lk.mk (h.o.ext.get hi) <| Lk.mk hg'.g.1 <| rulesOf_ok hg' hxn <| Lk.mk look_new ?_
      refine ForW.mk (xs := intsL (byL d.R x)) (σ := ParM × Option AV × Option AV × Option AV × Option AV) (fun u => rO fi sym t H (H ++ [dicI (parM [(sym, none)])]).length (oI (s.2.1 + 1 : Nat)) (oI x) u.2.1 u.2.2.1 u.2.2.2.1 u.2.2.2.2 none none) (fun i u H₂ => OpR d N F sym t H (H ++ [dicI (parM [(sym, none)])]).length H'.length s.2.1 x v i u.1 H₂) (fun i u H₂ g => .lst g.b) (fun i y u H₂ hy g => ?_) (fun u H₂ g => ?_) (s := (s.1, s.2.2.2.1, s.2.2.2.2.1, s.2.2.2.2.2.1, s.2.2.2.2.2.2)) ⟨h.o.mv .app, look_new, ⟨hx, h.dn, fun _ h => nomatch h⟩⟩
      · refine map_get hy fun kk hk => ?_
        obtain ⟨p, hp, hpx⟩ := byL_get hk
        have hpm := mem_of hp
        have hg' := hg.ext g.o.ext
        obtain ⟨hr1, hr2⟩ := hg'.rule kk p hp
        refine okW.mk rfl <| Lk.mk (g.o.ext.get hi) <| Lk.mk hg'.g.1 <| Lk.mk hg'.rl.1 <| okW.mk (refs_at hr1) <| Lk.mk hr2.1 <| Gd.mk (by rw [ints_len]; exact lidL (Nat.le_trans (hd.rlen p hpm) (by decide))) ?_
        refine ForW.mk (xs := intsL (List.range (intsL p.2).length)) (σ := ParM × Option AV × Option AV) (fun w => rO fi sym t H (H ++ [dicI (parM [(sym, none)])]).length (oI (s.2.1 + 1 : Nat)) (oI x) (oI kk) (oT (intsL p.2)) w.2.1 w.2.2 none none) (fun j w H₂ => OpZ d N F sym t H (H ++ [dicI (parM [(sym, none)])]).length H'.length s.2.1 x v i p.2 j w.1 H₂) (fun _ _ _ _ => Src.up) (fun j y w H₂ hj z => ?_) (fun w H₂ z => ?_) (s := (u.1, u.2.2.2.1, u.2.2.2.2)) ⟨⟨g, fun pre y post f _ h => absurd h (Nat.not_lt_zero _)⟩, fun _ h => nomatch h⟩
        · refine map_get hj fun y hj => ?_
          obtain ⟨rfl, hj⟩ := range_at hj
          rw [ints_len] at hj
          obtain ⟨y', hy'⟩ := get_ex hj
          refine okW.mk rfl ?_
          refine opened_spot (n := n + 5) (rr := kk) (p := p) (u9 := none) hd hF hN hi hnr hfr lo hql z hpm hpx hy' (fun P' H₃ z' => ?_) fun P' H₃ z' => ?_
          · exact AtI.mk (s := (P', oI y, oI y')) z'
          · exact AtI.mk (s := (P', oI kk, oT (intsL p.2), oI y, oI y')) ⟨z'.o, z'.b, ⟨z'.c.c1, z'.c.c2, fun k' hk' p' hp' => ((take_sub hk).mp hk').elim (fun e => z'.c.c3 k' e p' hp') fun e => by cases e; cases hp.symm.trans hp'; exact z'.d⟩⟩
        · have zd := z.d
          rw [List.length_map, List.length_range, ints_len] at zd
          exact AtI.mk (s := (w.1, oI kk, oT (intsL p.2), w.2.1, w.2.2)) ⟨z.o, z.b, ⟨z.c.c1, z.c.c2, fun k' hk' p' hp' => ((take_sub hk).mp hk').elim (fun e => z.c.c3 k' e p' hp') fun e => by cases e; cases hp.symm.trans hp'; exact zd⟩⟩
      · have hl := lt_of_get g.c.c1
        have hlu := g.o.ok.le hd
        have hm' := h.hm
        have hPn : s.1.length ≤ d.names.length := by
          have := nodup_lt_len h.o.ok.nd h.o.ok.lt
          rw [List.length_map] at this; exact this
        have c3 := g.c.c3
        rw [ints_len, take_all (Nat.le_refl _)] at c3
        refine LtI.mk (k' := m - 1) (s := (u.1, s.2.1 + 1, oI x, u.2.1, u.2.2.1, u.2.2.2.1, u.2.2.2.2)) (by lia) ⟨g.o, hl, fun j y v hj hp r hr => ?_, by lia⟩
        rcases Nat.lt_or_ge j s.2.1 with e | e
        · exact g.c.c2 j y v e hp r hr
        · cases Nat.le_antisymm (Nat.le_of_lt_succ hj) e
          cases g.c.c1.symm.trans hp
          obtain ⟨kk, hk⟩ := List.mem_iff_getElem?.mp hr
          exact c3 kk (List.mem_filter.mpr ⟨List.mem_range.mpr (lt_of_get hk), by rw [hk]; exact decide_eq_true rfl⟩) _ hk
    · rw [List.length_map] at hge
      have he : s.2.1 = s.1.length := Nat.le_antisymm h.le (Nat.le_of_not_lt hge)
      refine absurd (first_in hF hf ht (fun y r hy hr => ?_) (List.mem_map.mpr ⟨_, mem_of h.o.ok.hd, rfl⟩)) hm
      obtain ⟨⟨y', v⟩, hp, rfl⟩ := List.mem_map.mp hy
      obtain ⟨j, hj⟩ := List.mem_iff_getElem?.mp hp
      exact h.dn j y' v (he ▸ lt_of_get hj) hj r hr
  · exact ⟨⟨e0, get_new look_new, look_new, ⟨List.pairwise_singleton .., fun x hx => List.mem_singleton.mp hx ▸ hs, rfl, fun i x v hi h1 => by rw [List.getElem?_eq_none h1] at hi; cases hi⟩⟩, Nat.zero_le _, fun j y v hj => absurd hj (Nat.not_lt_zero _), rfl⟩
end
end Mine.C
end
section
set_option autoImplicit false
set_option Elab.async false
set_option maxRecDepth 10000
namespace Mine.C
open PySem

structure SuI (H : AH) (k₀ m s : Nat) (H' : AH) : Prop where
  e : H' = H
  hm : m + s = k₀
section
variable {a : GA} {d : GD} {H : AH} {n : Nat} {N : List Bool} {F : List Nat} {fi t : Nat} {K : AH → AV → Prop}
noncomputable def rU (fi it pa t g : Nat) (row : List Nat) (s6 s7 : Option AV) : Ro := [oR fi, oI it, oR pa, oI t, oR g, oT (intsL row), s6, s7]
theorem suffix_ok (hg : GramAt H a d) (hd : GOk d) (hN : NulOk d N) (hF : FirstsOk d N F) (hfi : FinderAt H fi a d N F) (ht : t < d.tc)
    {it kk o : Nat} {p : Nat × List Nat} (hI : ItemAt d it kk o p) (hit : it = o + p.2.length) (hp1 : 1 ≤ p.2.length)
    {pa pl : Nat} {v41 : AV} {rs : List (List Nat)} (hpa : H[pa]? = some (.inst 6 [(41, v41), (42, .ref pl)])) (hpl : H[pl]? = some (.list (rs.map fun r => .tup (intsL r)))) {row : List Nat} (hrow : rs.flatten = row) (hl : row.length ≤ 20) (hrn : ∀ x ∈ row, x < d.names.length)
    {k₀ y₀ : Nat} (hk : row[k₀]? = some y₀) (hz : ∀ z ∈ row.take k₀, NulP N z) (hfr : FirstR d.R (NulP N) y₀ t)
    (k : ∀ (H' : AH) (shown : List Nat), Ext H H' → (∀ x ∈ shown, x < d.names.length) → shown.length ≤ 44 → Der d.R row (t :: shown) → K H' (.tup (intsL shown))) : Cw (mi theFn (n + 60)) (.fn 35) [.ref fi, .int it, .ref pa, .int t] H K := by
  obtain ⟨hi, hnr, hf'⟩ := id hfi
  have hi := hi.1
  have hf' := hf'.1
  obtain ⟨hr1, hr2⟩ := hg.rule kk p hI.r
  have hr2 := hr2.1
  refine fnM theFn_35 <| Lk.mk hi <| Lk.mk hg.g.1 <| Lk.mk hg.g.1 <| ruleOf_ok hg hI.ow <| Lk.mk hg.rl.1 <| okW.mk (refs_at hr1) <| Lk.mk hr2 <| Lk.mk hg.g.1 <| dotOf_ok hg hI ?_
  have e1 : it - o = p.2.length := by rw [hit]; exact Nat.add_sub_cancel_left ..
  rw [e1]
  refine Gd.mk ⟨hp1, Nat.le_of_eq ints_len.symm⟩ ?_
  rw [List.drop_of_length_le (Nat.le_of_eq ints_len)]
  refine Lk.mk hpa <| Lk.mk hpl ?_
  refine ForW.mk (xs := rs.map fun r => .tup (intsL r)) (σ := List Nat × Option AV) (fun s => rU fi it pa t a.g s.1 s.2 none) (fun i s H' => H' = H ∧ s.1 = (rs.take i).flatten) (fun i s H' h => .lst (h.1 ▸ hpl)) (fun i x s H' hx h => ?_) (fun s H' h => ?_) (s := ([], none)) ⟨rfl, rfl⟩
  · obtain ⟨rfl, hs⟩ := h
    refine map_get hx fun r hr => ?_
    have e2 : (rs.take (i + 1)).flatten = s.1 ++ r := by rw [take_succ_get hr, List.flatten_append, hs]; exact congrArg _ (List.append_nil r)
    have hfl : s.1.length + r.length ≤ 20 := by
      have h1 : (rs.take (i + 1)).flatten.length ≤ row.length := by
        rw [← hrow, ← List.take_append_drop (i + 1) rs, List.flatten_append, List.length_append, List.take_append_drop]
        exact Nat.le_add_right _ _
      rw [e2, List.length_append] at h1
      exact Nat.le_trans h1 hl
    refine okW.mk rfl <| Gd.mk (by rw [ints_len, ints_len]; exact lidE (Nat.le_trans hfl (by decide))) ?_
    show asgK _ _ _ _ _ (.tup (intsL s.1 ++ intsL r))
    rw [ints_app]
    exact AtI.mk (s := (s.1 ++ r, oT (intsL r))) ⟨rfl, e2.symm⟩
  · obtain ⟨rfl, hs⟩ := h
    rw [List.length_map, take_all (Nat.le_refl _), hrow] at hs
    rw [hs]
    have hkl := lt_of_get hk
    refine WhW.mk (σ := Nat) (fun u => rU fi it pa t a.g row s.2 (oI u)) (fun m u H₂ => SuI H' k₀ m u H₂) (fun m u H₂ h => ?_) (k := k₀) (s := 0) ⟨rfl, rfl⟩
    have he := h.e
    subst he
    have hm := h.hm
    obtain ⟨x, hx⟩ := get_ex (l := row) (i := u) (Nat.lt_of_le_of_lt (hm ▸ Nat.le_add_left _ _) hkl)
    have hxn := hrn x (mem_of hx)
    obtain ⟨f, hf⟩ := get_ex (l := F) (hF.len.symm ▸ hxn)
    refine Lk.mk hi <| okW.mk (ints_at hx) <| Lk.mk hf' <| okW.mk (ints_at hf) <| br.dec (fun hb => ?_) fun hb => ?_
    · have hb := bit_0.mp hb
      have hne : u ≠ k₀ := fun e => by
        subst e
        cases hk.symm.trans hx
        obtain ⟨g, g1, g2⟩ := hF.full _ _ ht hfr
        cases hf.symm.trans g1
        exact hb g2
      exact LtI.mk (k' := m - 1) (s := u + 1) (by lia) ⟨rfl, by lia⟩
    · have hb : f.testBit t = true := Classical.not_not.mp fun e => hb (bit_0.mpr e)
      refine Lk.mk hi <| okW.mk (ints_at hx) <| opened_ok hg hd hN hF hfi hxn ht (hF.sound x f t hf hb).2 fun H₃ op e hop hol hod => ?_
      have hul := lt_of_get hx
      refine Gd.mk ⟨Nat.succ_pos u, by rw [ints_len]; exact hul⟩ ?_
      rw [← List.map_drop]
      have hdl : (row.drop (u + 1)).length ≤ 20 := by rw [List.length_drop]; exact Nat.le_trans (Nat.sub_le _ _) hl
      refine Gd.mk (by rw [ints_len, ints_len]; exact lidE (Nat.le_trans (Nat.add_le_add hol hdl) (by decide))) ?_
      have q := k H₃ (op ++ row.drop (u + 1)) e (fun z hz' => (List.mem_append.mp hz').elim (hop z) fun g => hrn z (List.mem_of_mem_drop g)) (by rw [List.length_append]; exact Nat.le_trans (Nat.add_le_add hol hdl) (by decide)) ?_
      · rw [← ints_app] at q; exact q
      · have h1 := Der.null (R := d.R) (N := NulP N) hN.sound fun z hz' => hz z (List.take_subset_take_left _ (hm ▸ Nat.le_add_left _ _) hz')
        have h2 := h1.append (hod.append (Der.refl (row.drop (u + 1))))
        rw [show row.take u ++ ([x] ++ row.drop (u + 1)) = row from (split_at hx).symm] at h2
        exact h2
end
end Mine.C
end
section
set_option autoImplicit false
set_option Elab.async false
set_option maxRecDepth 10000
namespace Mine.C
open PySem

/-- the pen: its number, and how often it was asked -/
inductive PenAt (H : AH) (c : Nat) : Prop
  | mk {a b : Nat} (g : H[1]? = some (.list [.int a, .int b])) (le : b ≤ c)
theorem PenAt.mv {H H' : AH} {c c' : Nat} (h : PenAt H c) (e : ∀ o, H[1]? = some o → H'[1]? = some o) (l : c ≤ c') : PenAt H' c' := let ⟨g, le⟩ := h; ⟨e _ g, Nat.le_trans le l⟩
theorem PenAt.ext {H H' : AH} {c : Nat} (h : PenAt H c) (e : Ext H H') : PenAt H' c := h.mv (fun _ => e.get) (Nat.le_refl _)
abbrev NameOk (x : Nat) : Prop := x = 7 ∨ x = 8 ∨ x = 9 ∨ x = 10
/-- a table of names, asked at a place -/
theorem tab_str {ts : List Nat} {z m : Nat} (hz : z < m) (hm : m = ts.length) : ∃ y, (strsL ts)[z]? = some (.str y) ∧ y ∈ ts := let ⟨y, hy⟩ := get_ex (hm ▸ hz); ⟨y, strs_at hy, mem_of hy⟩
section
variable {H : AH} {n c : Nat} {K : AH → AV → Prop}
theorem draw_ok {m : Nat} (hp : PenAt H c) (hc : c ≤ 1000) (h0 : 0 < m) (hm : m < 1000)
    (k : ∀ (H' : AH) (z : Nat), z < m → PenAt H' (c + 1) → ExtP H H' → H'.length = H.length → K H' (.int z)) : Cw (mi theFn (n + 10)) (.fn 37) [.ref 1, .int m] H K := by
  obtain ⟨hab, hb⟩ := hp
  rename_i a b
  have g1 := get_set_self (o := AO.list [.int a, .int (b + 1 : Nat)]) hab
  have hM : (0 : Int) < (m : Int) ∧ (m : Int) < 1000000 := ⟨Int.ofNat_lt.mpr h0, Int.ofNat_lt.mpr (Nat.lt_trans hm (by decide))⟩
  refine fnM theFn_37 <| Lk.mk hab <| okW.mk rfl <| Lk.mk hab <| Gd.mk (Nat.lt_succ_self 1) <| Lk.mk g1 <| okW.mk rfl <| br.dec (fun _ => ?_) fun _ => ?_
  · refine Lk.mk g1 <| okW.mk rfl <| Gd.mk hM <| Lk.mk g1 <| okW.mk rfl <| Gd.mk hM <| Lk.mk g1 <| Gd.mk (Nat.succ_pos 1) ?_
    exact k _ (a % m) (Nat.mod_lt _ h0) (PenAt.mk (a := a / m) (b := b + 1) (get_set_self g1) (Nat.succ_le_succ hb)) (ExtP.set1.trans .set1) (by rw [List.length_set, List.length_set])
  · refine Lk.mk g1 <| okW.mk rfl <| Lk.mk g1 <| okW.mk rfl <| Gd.mk (.inl (Nat.lt_of_le_of_lt (Nat.succ_le_succ (Nat.le_trans hb hc)) (by decide))) <| Gd.mk hM ?_
    exact k _ (((b + 1) * (b + 1) + 1) % m) (Nat.mod_lt _ h0) ⟨g1, Nat.succ_le_succ hb⟩ .set1 List.length_set
theorem pen_ok {ns : List Int} {H₀ : AH} (h0 : H₀ = []) (hl : ns.length ≤ 63) (k : ∀ H' : AH, H'.length = 2 → PenAt H' 0 → K H' (.ref 1)) : Cw (mi theFn (n + 10)) (.fn 36) [.fl ns] H₀ K := by
  subst h0
  refine fnM theFn_36 <| Gd.mk (lidL (by decide)) <| Gd.mk (by rw [lid_eq]; exact Nat.le_trans hl (by decide)) <| Lk.mk (o := .list ((ns.take 24).map .int)) rfl ?_
  refine ForW.mk (xs := (ns.take 24).map .int) (σ := Int × Option AV) (fun s => [some (.fl ns), some (.int s.1), s.2]) (fun _ s H' => 0 ≤ s.1 ∧ H' = [.list ((ns.take 24).map .int)]) (fun i s H' h => by rw [h.2]; exact .lst rfl) (fun i x s H' hx h => ?_) (fun s H' h => ?_) (s := (0, none)) ⟨Int.le_refl _, rfl⟩
  · obtain ⟨hz, rfl⟩ := h
    refine map_get hx fun y hy => ?_
    have hw : 0 ≤ (if y < 0 then -y else y) := by split <;> lia
    refine okW.mk rfl <| Gd.mk (.inr (by decide)) <| Gd.mk (.inl (by decide)) <| br.dec (fun _ => ?_) fun _ => ?_
    · exact AtI.mk (s := (s.1 * 1000003 + 2 * (if y < 0 then -y else y) + 1 + 1, oI y)) ⟨by show 0 ≤ s.1 * 1000003 + 2 * (if y < 0 then -y else y) + 1 + 1; lia, rfl⟩
    · exact AtI.mk (s := (s.1 * 1000003 + 2 * (if y < 0 then -y else y) + 0 + 1, oI y)) ⟨by show 0 ≤ s.1 * 1000003 + 2 * (if y < 0 then -y else y) + 0 + 1; lia, rfl⟩
  · obtain ⟨hz, rfl⟩ := h
    obtain ⟨a, ha⟩ := Int.eq_ofNat_of_zero_le hz
    refine k ([.list ((ns.take 24).map .int)] ++ [.list [.int s.1, .int 0]]) rfl ?_
    rw [ha]
    exact PenAt.mk (b := 0) rfl (Nat.le_refl _)
structure RiI (H : AH) (c i : Nat) (xs : List Nat) (H' : AH) : Prop where
  pen : PenAt H' (c + i)
  e : ExtP H H'
  n : xs.length = i
  ok : ∀ x ∈ xs, NameOk x
  g : H'[H.length]? = some (.list (strsL xs))
theorem right_ok {m : Nat} (h2 : 2 ≤ H.length) (hp : PenAt H c) (hc : c ≤ 900) (hm : m ≤ 4) (k : ∀ (H' : AH) (xs : List Nat), RiI H c m xs H' → K H' (.ref H.length)) : Cw (mi theFn (n + 20)) (.fn 38) [.ref 1, .int m] H K := by
  have n1 : H.length ≠ 1 := Nat.ne_of_gt h2
  refine fnM theFn_38 <| Gd.mk (lidL (Nat.le_trans hm (by decide))) ?_
  refine CpW.mk (xs := intsL (List.range m)) (σ := List Nat × Option AV) (fun s => [none, s.2, oR 1, oI m]) (fun i s H' => RiI H c i s.1 H') (fun _ _ _ _ => Src.up) (fun i x s H' hx h => ?_) (fun s H' h => ?_) (s := ([], none)) ⟨hp.ext .app, Ext.app.toP, rfl, (fun _ h => nomatch h), look_new⟩
  · refine map_get hx fun x hx => ?_
    obtain ⟨rfl, hi⟩ := range_at hx
    refine okW.mk rfl <| draw_ok (m := 6) h.pen (by lia) (by decide) (by decide) fun H₂ z hz p₂ e₂ l₂ => ?_
    obtain ⟨y, hy, hyo⟩ := tab_str (ts := [7, 8, 9, 10, 9, 10]) hz rfl
    have hyo : NameOk y := by
      rcases List.mem_cons.mp hyo with e | hyo
      · exact .inl e
      rcases List.mem_cons.mp hyo with e | hyo
      · exact .inr (.inl e)
      rcases List.mem_cons.mp hyo with e | hyo
      · exact .inr (.inr (.inl e))
      rcases List.mem_cons.mp hyo with e | hyo
      · exact .inr (.inr (.inr e))
      rcases List.mem_cons.mp hyo with e | hyo
      · exact .inr (.inr (.inl e))
      · exact .inr (.inr (.inr (List.mem_singleton.mp hyo)))
    have g₂ := e₂.get h.g n1
    refine okW.mk hy <| Lk.mk g₂ <| Gd.mk (by rw [List.length_map, h.n]; exact lidL (Nat.le_trans (Nat.le_of_lt hi) (Nat.le_trans hm (by decide)))) <| AtI.mk (s := (s.1 ++ [y], oI x)) ⟨p₂.mv (fun o ho => get_set ho n1) (Nat.le_refl _), (h.e.trans e₂).set (Nat.le_refl _), by rw [List.length_append, h.n]; rfl, fun x hx => mem_snoc hx (h.ok x) fun e => e ▸ hyo, (get_set_self g₂).trans (congrArg _ (congrArg _ (strs_app (ys := [y]))))⟩
  · rw [ints_len, List.length_range] at h
    exact k H' s.1 h
end
end Mine.C
end
section
set_option autoImplicit false
set_option Elab.async false
set_option maxRecDepth 10000
namespace Mine.C
open PySem

/-- the pairs while they are made -/
structure PSt (H H' : AH) (c q : Nat) (pairs : List (Nat × List Nat)) (prs : List AV) : Prop where
  pen : PenAt H' c
  ext : ExtP H H'
  at_ : H'[q]? = some (.list prs)
  pl : PairsL H' prs pairs
  ne : prs ≠ []
  q0 : H.length ≤ q
section
variable {H H' H'' : AH} {c c' q n : Nat} {pairs : List (Nat × List Nat)} {prs : List AV} {K : AH → AV → Prop}
theorem PairsL.apart (h : PairsL H prs pairs) (hn : prs ≠ []) (hq : H[q]? = some (.list prs)) {ys : List Nat} {r : Nat} (hr : H[r]? = some (.list (strsL ys))) : q ≠ r := by
  rintro rfl
  cases prs with
  | nil => exact hn rfl
  | cons x xs =>
    have e := hq.symm.trans hr
    refine PairsL.el (k := 0) (x := x) (P := fun x => some (AO.list (x :: xs)) = some (.list (strsL ys)) → False) rfl h (fun p r _ _ e => ?_) e
    cases ys with
    | nil => injection e with e; injection e with e; cases e
    | cons y ys => injection e with e; injection e with e; injection e with e; cases e
theorem PSt.mv (h2 : 2 ≤ H.length) (h : PSt H H' c q pairs prs) (e : ExtP H' H'') (hp : PenAt H'' c') : PSt H H'' c' q pairs prs :=
  ⟨hp, h.ext.trans e, e.get h.at_ (Nat.ne_of_gt (Nat.lt_of_lt_of_le h2 h.q0)), h.pl.extP e, h.ne, h.q0⟩
theorem PSt.new (h2 : 2 ≤ H.length) (h : PSt H H' c q pairs prs) {o : AO} : PSt H (H' ++ [o]) c q pairs prs := h.mv h2 Ext.app.toP (h.pen.ext .app)
theorem PSt.push (h2 : 2 ≤ H.length) (h : PSt H H' c q pairs prs) {r l : Nat} {ys : List Nat} (hr : At H' r (.list (strsL ys))) (l' : c ≤ c') : PSt H (H'.set q (.list (prs ++ [.tup [.str l, .ref r]]))) c' q (pairs ++ [(l, ys)]) (prs ++ [.tup [.str l, .ref r]]) := by
  have q1 : q ≠ 1 := Nat.ne_of_gt (Nat.lt_of_lt_of_le h2 h.q0)
  refine ⟨h.pen.mv (fun o e => get_set e q1) l', h.ext.set h.q0, get_set_self h.at_, ⟨by rw [List.length_append, List.length_append, h.pl.len]; rfl, fun k p hk => ?_⟩, (fun e => nomatch (List.append_eq_nil_iff.mp e).2), h.q0⟩
  rcases Nat.lt_or_ge k pairs.length with g | g
  · rw [List.getElem?_append_left g] at hk
    obtain ⟨h1, h3⟩ := h.pl.at_ k p hk
    exact ⟨get_new' h1, get_set h3.1 (h.pl.apart h.ne h.at_ h3.1), h3.2⟩
  · rw [List.getElem?_append_right g] at hk
    cases hj : k - pairs.length with
    | zero =>
      rw [hj] at hk
      cases hk
      exact ⟨by rw [List.getElem?_append_right (h.pl.len ▸ g), h.pl.len, hj]; rfl, get_set hr.1 (h.pl.apart h.ne h.at_ hr.1), hr.2⟩
    | succ j => rw [hj] at hk; cases hk
theorem addNew_stay : ∀ {l : List Nat}, (∀ x ∈ l, x = 9 ∨ x = 10) → l.foldl addNew [9, 10] = [9, 10]
  | [], _ => rfl
  | x :: r, h => by
    have : addNew [9, 10] x = [9, 10] := by
      rcases h x (.head _) with rfl | rfl <;> rfl
    rw [List.foldl_cons, this]
    exact addNew_stay fun y hy => h y (.tail _ hy)
/-- a pair that may be drawn -/
structure PrOk (p : Nat × List Nat) : Prop where
  l : p.1 = 9 ∨ p.1 = 10
  n : p.2.length ≤ 3
  o : ∀ x ∈ p.2, NameOk x
structure PsI (H : AH) (q i : Nat) (ps : List (Nat × List Nat)) (ex : List (Nat × List Nat)) (prs : List AV) (H' : AH) : Prop where
  n : ex.length = i
  st : PSt H H' (22 + 5 * i) q (ps ++ ex) prs
  ok : ∀ p ∈ ex, PrOk p
theorem pairs_end {r₁ ys : List Nat} {y : Nat} {ex : List (Nat × List Nat)} (h1 : PrOk (9, r₁)) (hy : NameOk y) (h2 : PrOk (10, ys)) (hx : ex.length ≤ 1) (ok : ∀ p ∈ ex, PrOk p) : PairsOk ([(9, r₁), (9, [y]), (10, ys)] ++ ex) := by
  have all : ∀ p ∈ [(9, r₁), (9, [y]), (10, ys)] ++ ex, PrOk p := fun p hp => by
    rcases List.mem_append.mp hp with g | g
    · rcases List.mem_cons.mp g with rfl | g
      · exact h1
      rcases List.mem_cons.mp g with rfl | g
      · exact ⟨.inl rfl, (show 1 ≤ 3 by decide), fun x hx => List.mem_singleton.mp hx ▸ hy⟩
      · exact List.mem_singleton.mp g ▸ h2
    · exact ok p g
  refine ⟨by rw [List.length_append]; exact Nat.add_le_add_left hx 3, by rw [List.length_append]; exact Nat.le_trans (by decide) (Nat.le_add_right 3 _), ?_, fun p hp => (all p hp).l, fun p hp => (all p hp).n, fun p hp => (all p hp).o⟩
  unfold leftsOf
  rw [List.map_append, List.foldl_append]
  exact addNew_stay fun x hx => by obtain ⟨p, hp, rfl⟩ := List.mem_map.mp hx; exact (ok p hp).l
theorem pairs_ok (h2 : 2 ≤ H.length) (hp : PenAt H 0)
    (k : ∀ (H' : AH) (q : Nat) (prs : List AV) (pairs : List (Nat × List Nat)), ExtP H H' → PenAt H' 30 → At H' q (.list prs) → PairsL H' prs pairs → PairsOk pairs → (∃ r, pairs[0]? = some (9, r) ∧ 1 ≤ r.length) → K H' (.ref q)) : Cw (mi theFn (n + 40)) (.fn 39) [.ref 1] H K := by
  refine fnM theFn_39 <| draw_ok (m := 2) hp (by decide) (by decide) (by decide) fun H₁ more hm p₁ e₁ l₁ => draw_ok (m := 3) p₁ (by decide) (by decide) (by decide) fun H₂ z hz p₂ e₂ l₂ => ?_
  have hl2 : H₂.length = H.length := l₂.trans l₁
  refine right_ok (m := 1 + z) (hl2 ▸ h2) p₂ (by decide) (by lia) fun H₃ r₁ R₃ => ?_
  have ll3 := lt_of_get R₃.g
  have hS : PSt H (H₃ ++ [AO.list [AV.tup [AV.str 9, AV.ref H₂.length]]]) 20 H₃.length [(9, r₁)] [AV.tup [AV.str 9, AV.ref H₂.length]] := by
    refine ⟨(R₃.pen.ext .app).mv (fun _ => id) (by lia), ((e₁.trans e₂).trans R₃.e).trans Ext.app.toP, look_new, ⟨rfl, fun k p hk => ?_⟩, nofun, hl2 ▸ Nat.le_of_lt ll3⟩
    cases k with
    | zero => cases hk; exact ⟨rfl, get_new R₃.g, hl2 ▸ Nat.ne_of_gt h2⟩
    | succ k => rw [List.getElem?_cons_succ, List.getElem?_nil] at hk; cases hk
  refine Lk.mk hS.at_ <| draw_ok (m := 2) hS.pen (by decide) (by decide) (by decide) fun H₅ z₅ hz₅ p₅ e₅ l₅ => ?_
  have hS₅ := (hS.mv h2 e₅ p₅)
  obtain ⟨y, hy, hyo⟩ := tab_str (ts := [7, 8]) hz₅ rfl
  have hyo : NameOk y := (List.mem_cons.mp hyo).elim .inl fun h => .inr (.inl (List.mem_singleton.mp h))
  have hS₆ := hS₅.new h2 (o := .list [.str y])
  have L₅ : H.length ≤ H₅.length := hS₅.ext.len
  have hS₇ := hS₆.push h2 (r := H₅.length) (l := 9) (ys := [y]) (c' := 21) ⟨look_new, Nat.ne_of_gt (Nat.lt_of_lt_of_le h2 L₅)⟩ (Nat.le_refl _)
  refine okW.mk hy <| Lk.mk hS₆.at_ <| Gd.mk (lidL (n := 1) (by decide)) <| Lk.mk hS₇.at_ ?_
  generalize (H₅ ++ [AO.list [AV.str y]]).set H₃.length (AO.list ([AV.tup [AV.str 9, AV.ref H₂.length]] ++ [AV.tup [AV.str 9, AV.ref H₅.length]])) = H₇ at hS₇ ⊢
  have hS₈ := ((hS₇.new h2 (o := .list [])).new h2 (o := .list [.str 7])).new h2 (o := .list [.ref H₇.length, .ref (H₇ ++ [AO.list []]).length])
  refine draw_ok (m := 2) hS₈.pen (by decide) (by decide) (by decide) fun H₉ z₉ hz₉ p₉ e₉ l₉ => ?_
  have hS₉ := hS₈.mv h2 e₉ p₉
  have L₇ : H.length ≤ H₇.length := hS₇.ext.len
  have ne1 : ∀ {i}, H₇.length ≤ i → i ≠ 1 := fun h => Nat.ne_of_gt (Nat.lt_of_lt_of_le h2 (Nat.le_trans L₇ h))
  have lA : H₇.length ≤ (H₇ ++ [AO.list []]).length := Nat.le_of_lt lt_new
  have lB : H₇.length ≤ (H₇ ++ [AO.list []] ++ [AO.list [.str 7]]).length := Nat.le_trans lA (Nat.le_of_lt lt_new)
  have o3 := e₉.get look_new (ne1 lB)
  have tb : ∃ r ys, [AV.ref H₇.length, AV.ref (H₇ ++ [AO.list []]).length][z₉]? = some (.ref r) ∧ PrOk (10, ys) ∧ At H₉ r (.list (strsL ys)) := by
    rcases z₉ with _ | _ | z
    · exact ⟨_, [], rfl, ⟨.inr rfl, Nat.zero_le _, fun _ h => nomatch h⟩, e₉.get (get_new (get_new look_new)) (ne1 (Nat.le_refl _)), ne1 (Nat.le_refl _)⟩
    · exact ⟨_, [7], rfl, ⟨.inr rfl, (show 1 ≤ 3 by decide), fun x hx => .inl (List.mem_singleton.mp hx)⟩, e₉.get (get_new look_new) (ne1 lA), ne1 lA⟩
    · exact absurd hz₉ (Nat.not_lt_of_le (Nat.succ_le_succ (Nat.succ_le_succ (Nat.zero_le _))))
  obtain ⟨r, ys, hr, hys, hrl⟩ := tb
  have hA := hS₉.push h2 (l := 10) hrl (c' := 22) (Nat.le_refl _)
  refine Lk.mk o3 <| okW.mk hr <| Lk.mk hS₉.at_ <| Gd.mk (lidL (n := 2) (by decide)) <| Gd.mk (lidL (Nat.le_trans (Nat.le_of_lt hm) (by decide))) ?_
  have h1 : PrOk (9, r₁) := ⟨.inl rfl, by show r₁.length ≤ 3; rw [R₃.n]; lia, R₃.ok⟩
  refine ForW.mk (xs := intsL (List.range more)) (σ := List (Nat × List Nat) × List AV × Option AV × Option AV) (fun s => [oR 1, oI more, oR H₃.length, s.2.2.1, s.2.2.2]) (fun i s H' => PsI H H₃.length i [(9, r₁), (9, [y]), (10, ys)] s.1 s.2.1 H') (fun _ _ _ _ => Src.up) (fun i x s H' hx h => ?_) (fun s H' h => ?_) (s := ([], _, none, none)) ⟨rfl, hA, fun _ h => nomatch h⟩
  · refine map_get hx fun x hx => ?_
    obtain ⟨rfl, hi⟩ := range_at hx
    refine okW.mk rfl <| draw_ok (m := 2) h.st.pen (by lia) (by decide) (by decide) fun H₂ z hz p₂ e₂ l₂ => ?_
    have S₂ := h.st.mv h2 e₂ p₂
    obtain ⟨l, hl, hlo⟩ := tab_str (ts := [9, 10]) hz rfl
    have hlo : l = 9 ∨ l = 10 := (List.mem_cons.mp hlo).imp_right List.mem_singleton.mp
    refine okW.mk hl <| Lk.mk S₂.at_ <| draw_ok (m := 4) S₂.pen (by lia) (by decide) (by decide) fun H₃ z₃ hz₃ p₃ e₃ l₃ => ?_
    have S₃ := S₂.mv h2 e₃ p₃
    have L₃ : H.length ≤ H₃.length := S₃.ext.len
    refine right_ok (m := z₃) (Nat.le_trans h2 L₃) S₃.pen (by lia) (by lia) fun H₄ xs R => ?_
    have S₄ := S₃.mv h2 R.e R.pen
    have S₅ := S₄.push h2 (r := H₃.length) (l := l) (ys := xs) (c' := 22 + 5 * (x + 1)) ⟨R.g, Nat.ne_of_gt (Nat.lt_of_lt_of_le h2 L₃)⟩ (by lia)
    have hpl := S₄.pl.len
    rw [List.length_append, h.n] at hpl
    rw [List.append_assoc] at S₅
    exact Lk.mk S₄.at_ <| Gd.mk (by rw [hpl]; exact lidL (show 3 + x ≤ 60 by lia)) <| AtI.mk (s := (s.1 ++ [(l, xs)], _, oI x, oS l)) ⟨by rw [List.length_append, h.n]; rfl, S₅, fun p hp => mem_snoc hp (h.ok p) fun e => e ▸ ⟨hlo, by show xs.length ≤ 3; rw [R.n]; exact Nat.le_of_lt_succ hz₃, R.ok⟩⟩
  · rw [ints_len, List.length_range] at h
    have hn := h.n
    have st := h.st
    refine k H' H₃.length s.2.1 _ st.ext (st.pen.mv (fun _ => id) (by lia)) ⟨st.at_, Nat.ne_of_gt (Nat.lt_of_lt_of_le h2 st.q0)⟩ st.pl (pairs_end h1 hyo hys (by lia) h.ok) ⟨r₁, rfl, by rw [R₃.n]; exact Nat.le_add_right _ _⟩
end
end Mine.C
end
section
set_option autoImplicit false
set_option Elab.async false
set_option maxRecDepth 10000
namespace Mine.C
open PySem

section
variable {H : AH} {n : Nat} {K : AH → AV → Prop}
/-- a comprehension that keeps some of a list's elements -/
theorem comp_filter {F : Nat → Option Fn} {it : It} {xs : List AV} {t : ME} {ρ : Ro} (p : AV → Bool) (hs : ∀ ys, Src (H ++ [.list ys]) it xs) (hw : xs.length ≤ 60)
    (he : ∀ x, x ∈ xs → ∀ ys (G : AH → Bool → Prop), G (H ++ [.list ys]) (p x) → (mi F (n + 1)).tst t (none :: some x :: ρ) (H ++ [.list ys]) G)
    (k : K (H ++ [.list (xs.filter p)]) (.ref H.length)) : CpW (mi F (n + 1)) (.loc 1) [1] true [t] H.length K it (none :: none :: ρ) (H ++ [.list []]) := by
  refine CpW.mk (σ := Option AV) (fun u => none :: u :: ρ) (fun i _ H' => H' = H ++ [.list ((xs.take i).filter p)]) (fun i _ H' h => h ▸ hs _) (fun i x u H' hx h => ?_) (fun _ H' h => ?_) (s := none) rfl
  · subst h
    refine okW.mk (a := none :: some x :: ρ) rfl (he x (mem_of hx) _ _ ?_)
    cases hp : p x with
    | true =>
      refine Lk.mk look_new <| Gd.mk ?_ <| AtI.mk (r := fun u => none :: u :: ρ) (s := some x) ?_
      · exact lidL (Nat.le_trans (List.length_filter_le _ _) (Nat.le_trans (List.length_take_le _ _) (Nat.le_trans (Nat.le_of_lt (lt_of_get hx)) hw)))
      · rw [set_new, take_succ_get hx, List.filter_append, List.filter_cons_of_pos hp]; rfl
    | false =>
      refine AtI.mk (r := fun u => none :: u :: ρ) (s := some x) ?_
      rw [take_succ_get hx, List.filter_append, List.filter_cons_of_neg (by rw [hp]; decide), List.filter_nil, List.append_nil]
  · subst h
    rw [take_all (Nat.le_refl _)]; exact k
end
noncomputable def notInV (E : List Nat) (v : AV) : Bool := match v with
  | .str y => !decide (y ∈ E)
  | _ => false
theorem filter_strs {E r : List Nat} : (strsL r).filter (notInV E) = strsL (r.filter fun y => !decide (y ∈ E)) := List.filter_map
structure EmI (H : AH) (Z : Nat → Prop) (E : List Nat) (H' : AH) : Prop where
  e : Ext H H'
  g : H'[H.length]? = some (.list (strsL E))
  nd : E.Nodup
  z : ∀ x ∈ E, Z x ∧ (x = 9 ∨ x = 10)
theorem EmI.le {H H' : AH} {Z : Nat → Prop} {E : List Nat} (h : EmI H Z E H') : E.length ≤ 2 :=
  nodup_len (m := [9, 10]) h.nd fun x hx => by
    rcases (h.z x hx).2 with e | e
    · exact e ▸ .head _
    · exact e ▸ .tail _ (.head _)
section
variable {H : AH} {n : Nat} {K : AH → AV → Prop}
theorem empty_ok {q : Nat} {prs : List AV} {pairs : List (Nat × List Nat)} (hq : H[q]? = some (.list prs)) (hpl : PairsL H prs pairs) (hok : PairsOk pairs) {Z : Nat → Prop} (hZ : ∀ p ∈ pairs, (∀ x ∈ p.2, Z x) → Z p.1)
    (k : ∀ (H' : AH) (E : List Nat), EmI H Z E H' → K H' (.ref H.length)) : Cw (mi theFn (n + 40)) (.fn 40) [.ref q] H K := by
  refine fnM theFn_40 <| Gd.mk (lidL (n := 3) (by decide)) ?_
  refine ForW.mk (xs := intsL (List.range 3)) (σ := List Nat × Option AV × Option AV × Option AV) (fun s => [oR q, oR H.length, s.2.1, s.2.2.1, s.2.2.2]) (fun _ s H' => EmI H Z s.1 H') (fun _ _ _ _ => Src.up) (fun i x s H' hx h => ?_) (fun s H' h => k H' s.1 h) (s := ([], none, none, none)) ⟨.app, look_new, .nil, fun _ h => nomatch h⟩
  refine okW.mk rfl <| Lk.mk (h.e.get hq) ?_
  refine ForW.mk (xs := prs) (σ := List Nat × Option AV × Option AV) (fun t => [oR q, oR H.length, some x, t.2.1, t.2.2]) (fun _ t H' => EmI H Z t.1 H') (fun _ _ _ h => .lst (h.e.get hq)) (fun j v t H' hv h => ?_) (fun t H' h => AtI.mk (s := (t.1, some x, t.2.1, t.2.2)) h) (s := (s.1, s.2.2.1, s.2.2.2)) h
  refine PairsL.el hv hpl fun p r hp hr => ?_
  have hpm := mem_of hp
  have hr := h.e.get hr.1
  refine okW.mk rfl <| Lk.mk h.g <| in_strs <| br.not <| br.dec (fun _ => AtI.mk (s := (t.1, oS p.1, oR r)) h) fun hin => ?_
  refine Lk.mk hr <| comp_filter (it := .lst r) (xs := strsL p.2) (notInV t.1) (fun ys => .lst (get_new hr)) (by rw [List.length_map]; exact Nat.le_trans (hok.len p hpm) (by decide)) (fun x hx ys G hG => ?_) ?_
  · obtain ⟨y, hy, rfl⟩ := List.mem_map.mp hx
    exact Lk.mk (get_new h.g) <| in_strs hG
  · rw [filter_strs]
    refine Lk.mk (get_new look_new) <| Lk.mk look_new <| eq_strs (ys := []) <| br.dec (fun hb => ?_) fun _ => AtI.mk (s := (t.1, oS p.1, oR r)) ⟨h.e.new.new, get_new (get_new h.g), h.nd, h.z⟩
    have hall : ∀ x ∈ p.2, Z x := fun x hx => by
      have := List.filter_eq_nil_iff.mp hb x hx
      rw [Bool.not_eq_true', decide_eq_false_iff_not, Classical.not_not] at this
      exact (h.z x this).1
    have g2 := get_new (o' := AO.list []) (get_new (o' := AO.list (strsL (p.2.filter fun y => !decide (y ∈ t.1)))) h.g)
    exact Lk.mk g2 <| Lk.mk g2 <| Gd.mk (by rw [List.length_map]; exact lidL (Nat.le_trans h.le (by decide))) <| AtI.mk (s := (t.1 ++ [p.1], oS p.1, oR r)) ⟨h.e.new.new.set (Nat.le_refl _), (get_set_self g2).trans (congrArg _ (congrArg _ (strs_app (ys := [p.1])))), nodup_snoc h.nd hin, fun x hx => mem_snoc hx (h.z x) fun e => e ▸ ⟨hZ p hpm hall, hok.left p hpm⟩⟩
end
end Mine.C
end
section
set_option autoImplicit false
set_option Elab.async false
set_option maxRecDepth 10000
namespace Mine.C
open PySem

set_option genSizeOf false in
set_option genInjectivity false in
structure HdP where
  (dr r6 r9 r10 : Nat)
noncomputable section
def hdM (P : HdP) : List (Nat × AV) := [(6, .ref P.r6), (9, .ref P.r9), (10, .ref P.r10)]
def hdR (P : HdP) (x : Nat) : Nat := if x = 6 then P.r6 else if x = 9 then P.r9 else P.r10
def updL (L : Nat → List Nat) (x : Nat) (l : List Nat) (z : Nat) : List Nat := if z = x then l else L z
end
abbrev Hd3 (x : Nat) : Prop := x = 6 ∨ x = 9 ∨ x = 10
structure HdB (H : AH) (P : HdP) : Prop where
  b6 : H.length ≤ P.r6
  b9 : H.length ≤ P.r9
  b10 : H.length ≤ P.r10
  n69 : P.r6 ≠ P.r9
  n60 : P.r6 ≠ P.r10
  n90 : P.r9 ≠ P.r10
  n6 : P.r6 ≠ P.dr
  n9 : P.r9 ≠ P.dr
  n0 : P.r10 ≠ P.dr
/-- the dict of heads: '$accept', 's' and 't' and their lists -/
structure HdAt (C : List (Nat × List Nat)) (Z : Nat → Prop) (H : AH) (P : HdP) (L : Nat → List Nat) (H' : AH) : Prop where
  ext : Ext H H'
  d : H'[P.dr]? = some (dicS (hdM P))
  l : ∀ x, Hd3 x → H'[hdR P x]? = some (.list (strsL (L x)))
  nd : ∀ x, Hd3 x → (L x).Nodup
  ok : ∀ x, Hd3 x → ∀ y ∈ L x, FirstR C Z x y ∧ (y = 3 ∨ y = 7 ∨ y = 8)
structure ChartOk (C : List (Nat × List Nat)) : Prop where
  n5 : C.length ≤ 6
  left : ∀ p ∈ C, Hd3 p.1
  len : ∀ p ∈ C, p.2.length ≤ 3
  sym : ∀ p ∈ C, ∀ x ∈ p.2, x = 3 ∨ x = 7 ∨ x = 8 ∨ x = 9 ∨ x = 10
theorem dgetG {κ : Type} [DecidableEq κ] {H : AH} {K : AH → AV → Prop} {n : Nat} {w : AV} {f : κ → Atom} (hf : ∀ x y, f x = f y → x = y) {x : AV} {k : κ} (hx : toAtom x = some (f k)) {M : List (κ × AV)} (q : K H ((lk M k).getD w)) : omO H K 50 n [x, w] (dicG f M) := by
  have := lookG hf hx (M := M) (F := fun r => K H (r.getD w)) q
  cases M <;> exact this
section
variable {C : List (Nat × List Nat)} {Z : Nat → Prop} {H H' H'' : AH} {P : HdP} {L : Nat → List Nat} {x y : Nat}
theorem hdR_inj (b : HdB H P) (hx : Hd3 x) (hy : Hd3 y) (h : hdR P x = hdR P y) : x = y := by
  rcases hx with rfl | rfl | rfl <;> rcases hy with rfl | rfl | rfl
  · rfl
  · exact absurd h b.n69
  · exact absurd h b.n60
  · exact absurd h.symm b.n69
  · rfl
  · exact absurd h b.n90
  · exact absurd h.symm b.n60
  · exact absurd h.symm b.n90
  · rfl
theorem hdR_lo (b : HdB H P) (hx : Hd3 x) : H.length ≤ hdR P x := by
  rcases hx with rfl | rfl | rfl
  · exact b.b6
  · exact b.b9
  · exact b.b10
theorem hdR_d (b : HdB H P) (hx : Hd3 x) : hdR P x ≠ P.dr := by
  rcases hx with rfl | rfl | rfl
  · exact b.n6
  · exact b.n9
  · exact b.n0
theorem hd_lk (hx : Hd3 x) : lk (hdM P) x = some (.ref (hdR P x)) := by
  rcases hx with rfl | rfl | rfl <;> rfl
theorem hd_none (hx : ¬ Hd3 x) : lk (hdM P) x = none := by
  show (if 6 = x then _ else if 9 = x then _ else if 10 = x then _ else none) = none
  rw [if_neg fun e => hx (.inl e.symm), if_neg fun e => hx (.inr (.inl e.symm)), if_neg fun e => hx (.inr (.inr e.symm))]
theorem HdAt.mv (h : HdAt C Z H P L H') (e : Ext H' H'') : HdAt C Z H P L H'' := ⟨h.ext.trans e, e.get h.d, fun x hx => e.get (h.l x hx), h.nd, h.ok⟩
theorem HdAt.add (b : HdB H P) (h : HdAt C Z H P L H') (hx : Hd3 x) (hn : y ∉ L x) (hf : FirstR C Z x y) (hy : y = 3 ∨ y = 7 ∨ y = 8) :
    HdAt C Z H P (updL L x (L x ++ [y])) (H'.set (hdR P x) (.list (strsL (L x) ++ [.str y]))) := by
  refine ⟨h.ext.set (hdR_lo b hx), get_set h.d (hdR_d b hx), fun z hz => ?_, fun z hz => ?_, fun z hz w hw => ?_⟩
  · by_cases e : z = x
    · subst e
      exact (get_set_self (h.l z hz)).trans (congrArg _ (congrArg _ ((strs_app (ys := [y])).trans (congrArg strsL (if_pos rfl).symm))))
    · exact (get_set (h.l z hz) fun q => e (hdR_inj b hz hx q.symm)).trans (congrArg (fun l => some (AO.list (strsL l))) (if_neg e).symm)
  · unfold updL
    by_cases e : z = x
    · rw [if_pos e]; exact nodup_snoc (h.nd x hx) hn
    · rw [if_neg e]; exact h.nd z hz
  · unfold updL at hw
    by_cases e : z = x
    · rw [if_pos e] at hw
      subst e
      exact mem_snoc hw (h.ok z hz w) fun g => g ▸ ⟨hf, hy⟩
    · rw [if_neg e] at hw; exact h.ok z hz w hw
theorem HdAt.len (h : HdAt C Z H P L H') (hx : Hd3 x) : (L x).length ≤ 3 :=
  nodup_len (m := [3, 7, 8]) (h.nd x hx) fun y hy => by
    rcases (h.ok x hx y hy).2 with rfl | rfl | rfl
    · exact .head _
    · exact .tail _ (.head _)
    · exact .tail _ (.tail _ (.head _))
end
/-- what a name brings: the list that is gone over -/
structure HgI (C : List (Nat × List Nat)) (Z : Nat → Prop) (H : AH) (P : HdP) (x lf g : Nat) (gs : List Nat) (L : Nat → List Nat) (H' : AH) : Prop extends HdAt C Z H P L H' where
  gg : H'[g]? = some (.list (strsL gs))
  s : x = lf → gs = L lf
structure HzI (C : List (Nat × List Nat)) (Z : Nat → Prop) (H : AH) (P : HdP) (r : List Nat) (m : Nat) (L : Nat → List Nat) (H' : AH) : Prop extends HdAt C Z H P L H' where
  z : ∀ z ∈ r.take m, Z z
section
variable {H : AH} {n : Nat} {K : AH → AV → Prop}
noncomputable def rH (q er dr : Nat) (s3 s4 s5 s6 s7 : Option AV) : Ro := [oR q, oR er, oR dr, s3, s4, s5, s6, s7]
theorem heads_go {C : List (Nat × List Nat)} {Z : Nat → Prop} {P : HdP} {L : Nat → List Nat} {H' : AH} {q er x m r : Nat} {E : List Nat} {p : Nat × List Nat} {s3 u7 : Option AV} {Q : Fl → Ro → AH → Prop} (b : HdB H P) (hok : ChartOk C) (hE : H[er]? = some (.list (strsL E))) (hEz : ∀ x ∈ E, Z x) (hpm : p ∈ C) (hx : p.2[m]? = some x) (h : HzI C Z H P p.2 m L H')
    (k1 : ∀ L' s7 H', HzI C Z H P p.2 (m + 1) L' H' → Q .next (rH q er P.dr s3 (oS p.1) (oR r) (oS x) s7) H') (k2 : ∀ L' s7 H', HdAt C Z H P L' H' → Q .brk (rH q er P.dr s3 (oS p.1) (oR r) (oS x) s7) H') :
    blF (mi theFn (n + 30)) Q [.for (.loc 7) (.mcall (.loc 2) 50 [.loc 6, .lst [.loc 6]]) [.ifs (.cmp (.NotIn) (.loc 7) (.sub (.loc 2) (.loc 4))) [.expr (.mcall (.sub (.loc 2) (.loc 4)) 47 [.loc 7])] []], .ifs (.cmp (.NotIn) (.loc 6) (.loc 1)) [.brk] []] (rH q er P.dr s3 (oS p.1) (oR r) (oS x) u7) H' := by
  have hp1 := hok.left p hpm
  have hxo := hok.sym p hpm x (mem_of hx)
  have hh' := h.toHdAt.mv (Ext.app (X := [AO.list [.str x]]))
  refine Lk.mk h.d <| Lk.mk hh'.d <| dgetG atomS_inj rfl ?_
  have hg : ∃ g gs, (lk (hdM P) x).getD (.ref H'.length) = .ref g ∧ HgI C Z H P x p.1 g gs L (H' ++ [AO.list [.str x]]) ∧ (∀ y ∈ gs, FirstR C Z x y ∧ (y = 3 ∨ y = 7 ∨ y = 8)) ∧ (x ≠ p.1 → hdR P p.1 ≠ g) := by
    by_cases hx3 : Hd3 x
    · exact ⟨hdR P x, L x, by rw [hd_lk hx3]; rfl, ⟨hh', hh'.l x hx3, fun e => e ▸ rfl⟩, h.ok x hx3, fun hne e => hne (hdR_inj b hx3 hp1 e.symm)⟩
    · have h3 : x = 3 ∨ x = 7 ∨ x = 8 := by
        rcases hxo with e | e | e | e | e
        · exact .inl e
        · exact .inr (.inl e)
        · exact .inr (.inr e)
        · exact absurd (.inr (.inl e)) hx3
        · exact absurd (.inr (.inr e)) hx3
      exact ⟨H'.length, [x], by rw [hd_none hx3]; rfl, ⟨hh', look_new, fun e => absurd (e ▸ hp1) hx3⟩, fun y hy => by rw [List.mem_singleton.mp hy]; exact ⟨.refl _, h3⟩, fun _ => Nat.ne_of_lt (lt_of_get (h.l _ hp1))⟩
  obtain ⟨g, gs, hv, hgI, hgs, hne⟩ := hg
  rw [hv]
  refine Lk.mk hgI.gg ?_
  refine ForW.mk (xs := strsL gs) (σ := (Nat → List Nat) × Option AV) (fun s => rH q er P.dr s3 (oS p.1) (oR r) (oS x) s.2) (fun _ s H₂ => HgI C Z H P x p.1 g gs s.1 H₂) (fun _ _ _ z => .lst z.gg) (fun i y s H₂ hy z => ?_) (fun s H₂ z => ?_) (s := (L, u7)) hgI
  · refine map_get hy fun y hy => ?_
    obtain ⟨hyf, hy3⟩ := hgs y (mem_of hy)
    have zl := z.l _ hp1
    refine okW.mk rfl <| Lk.mk z.d <| getG atomS_inj rfl (hd_lk hp1) <| Lk.mk zl <| in_strs <| br.not <| br.dec (fun _ => AtI.mk (s := (s.1, oS y)) z) fun hin => ?_
    have hxp : x ≠ p.1 := fun e => hin (z.s e ▸ mem_of hy)
    have hfr : FirstR C Z p.1 y := .step (pre := p.2.take m) (y := x) (post := p.2.drop (m + 1)) (by rw [← split_at hx]; exact hpm) h.z hyf
    exact Lk.mk z.d <| getG atomS_inj rfl (hd_lk hp1) <| Lk.mk zl <| Lk.mk zl <| Gd.mk (by rw [List.length_map]; exact lidL (Nat.le_trans (z.len hp1) (by decide))) <| AtI.mk (s := (updL s.1 p.1 (s.1 p.1 ++ [y]), oS y)) ⟨z.toHdAt.add b hp1 hin hfr hy3, get_set z.gg (hne hxp), fun e => absurd e hxp⟩
  · refine Lk.mk (z.ext.get hE) <| in_strs <| br.not <| br.dec (fun hin => k1 s.1 s.2 H₂ ⟨z.toHdAt, fun w hw => ((take_sub hx).mp hw).elim (h.z w) fun e => e ▸ hEz x hin⟩) fun _ => k2 s.1 s.2 H₂ z.toHdAt
theorem asg_loc {W : MI} {i : Nat} {ρ ρ' : Ro} {v : AV} {X : Ro → AH → Prop} {Q : Fl → Ro → AH → Prop} {H : AH} (e : setR ρ i v = some ρ') (h : X ρ' H) : asgK W (.loc i) ρ (thenK X Q) H v := okW.mk e h
theorem putAll0 {o : AO} {K : AO → Prop} (k : K o) : putAll [] [] o K := k
theorem heads_loop {q er : Nat} {crs : List AV} {C : List (Nat × List Nat)} {E : List Nat} (hq : H[q]? = some (.list crs)) (hpl : PairsL H crs C) (hok : ChartOk C) {Z : Nat → Prop} (hE : H[er]? = some (.list (strsL E))) (hEz : ∀ x ∈ E, Z x) {P : HdP} (b : HdB H P) {H₁ : AH} (h₁ : HdAt C Z H P (fun _ => []) H₁)
    (k : ∀ (H' : AH) (L : Nat → List Nat), HdAt C Z H P L H' → K H' (.ref P.dr)) : blF (mi theFn (n + 38)) (outK K) (b43.drop 1) (rH q er P.dr none none none none none) H₁ := by
  refine Gd.mk (lidL (n := 6) (by decide)) ?_
  refine ForW.mk (xs := intsL (List.range 6)) (σ := (Nat → List Nat) × Option AV × Option AV × Option AV × Option AV × Option AV) (fun s => rH q er P.dr s.2.1 s.2.2.1 s.2.2.2.1 s.2.2.2.2.1 s.2.2.2.2.2) (fun _ s H' => HdAt C Z H P s.1 H') (fun _ _ _ _ => Src.up) (fun i x s H' hx h => ?_) (fun s H' h => k H' s.1 h) (s := (fun _ => [], none, none, none, none, none)) h₁
  refine okW.mk rfl <| Lk.mk (h.ext.get hq) ?_
  refine ForW.mk (xs := crs) (σ := (Nat → List Nat) × Option AV × Option AV × Option AV × Option AV) (fun t => rH q er P.dr (some x) t.2.1 t.2.2.1 t.2.2.2.1 t.2.2.2.2) (fun _ t H' => HdAt C Z H P t.1 H') (fun _ _ _ h => .lst (h.ext.get hq)) (fun j v t H' hv h => ?_) (fun t H' h => AtI.mk (s := (t.1, some x, t.2.1, t.2.2.1, t.2.2.2.1, t.2.2.2.2)) h) (s := (s.1, s.2.2.1, s.2.2.2.1, s.2.2.2.2.1, s.2.2.2.2.2)) h
  refine PairsL.el hv hpl fun p r hp hr => ?_
  have hpm := mem_of hp
  have hr := hr.1
  refine okW.mk rfl <| Lk.mk (h.ext.get hr) ?_
  refine ForW.mk (xs := strsL p.2) (σ := (Nat → List Nat) × Option AV × Option AV) (fun u => rH q er P.dr (some x) (oS p.1) (oR r) u.2.1 u.2.2) (fun m u H' => HzI C Z H P p.2 m u.1 H') (fun _ _ _ h => .lst (h.ext.get hr)) (fun m y u H' hy h => ?_) (fun u H' h => ?_) (s := (t.1, t.2.2.2.1, t.2.2.2.2)) ⟨h, fun _ h => nomatch h⟩
  · refine map_get hy fun y hy => ?_
    refine okW.mk rfl ?_
    exact heads_go b hok hE hEz hpm hy h (fun L' s7 H' z => AtI.mk (s := (L', oS y, s7)) z) fun L' s7 H' z => AtI.mk (s := (L', oS p.1, oR r, oS y, s7)) z
  · exact AtI.mk (s := (u.1, oS p.1, oR r, u.2.1, u.2.2)) h.toHdAt
theorem heads_ok {q er : Nat} {crs : List AV} {C : List (Nat × List Nat)} {E : List Nat} (hq : H[q]? = some (.list crs)) (hpl : PairsL H crs C) (hok : ChartOk C) {Z : Nat → Prop} (hE : H[er]? = some (.list (strsL E))) (hEz : ∀ x ∈ E, Z x)
    (k : ∀ (H' : AH) (P : HdP) (L : Nat → List Nat), HdB H P → H.length ≤ P.dr → HdAt C Z H P L H' → K H' (.ref P.dr)) : Cw (mi theFn (n + 40)) (.fn 43) [.ref q, .ref er] H K := by
  have l0 : H.length < (H ++ [AO.list []]).length := lt_new
  have l1 : (H ++ [AO.list []]).length < (H ++ [AO.list []] ++ [AO.list []]).length := lt_new
  have l2 : (H ++ [AO.list []] ++ [AO.list []]).length < (H ++ [AO.list []] ++ [AO.list []] ++ [AO.list []]).length := lt_new
  have b : HdB H ⟨(H ++ [AO.list []] ++ [AO.list []] ++ [AO.list []]).length, H.length, (H ++ [AO.list []]).length, (H ++ [AO.list []] ++ [AO.list []]).length⟩ := ⟨Nat.le_refl _, Nat.le_of_lt l0, Nat.le_of_lt (Nat.lt_trans l0 l1), Nat.ne_of_lt l0, Nat.ne_of_lt (Nat.lt_trans l0 l1), Nat.ne_of_lt l1, Nat.ne_of_lt (Nat.lt_trans l0 (Nat.lt_trans l1 l2)), Nat.ne_of_lt (Nat.lt_trans l1 l2), Nat.ne_of_lt l2⟩
  refine fnM theFn_43 <| Gd.mk (lidE (n := 1) (by decide)) <| Gd.mk (lidE (n := 2) (by decide)) <| okW.mk (a := .s 10) rfl ?_
  refine putAll0 <| asg_loc (ρ' := rH q er (H ++ [AO.list []] ++ [AO.list []] ++ [AO.list []]).length none none none none none) (by rfl) <| heads_loop hq hpl hok hE hEz b ⟨Ext.refl.new.new.new.new, look_new, fun x hx => ?_, fun _ _ => .nil, fun _ _ _ h => nomatch h⟩ fun H' L h => k H' _ L b (Nat.le_of_lt (Nat.lt_trans l0 (Nat.lt_trans l1 l2))) h
  rcases hx with rfl | rfl | rfl
  · exact get_new (get_new (get_new look_new))
  · exact get_new (get_new look_new)
  · exact get_new look_new
end
end Mine.C
end
section
set_option autoImplicit false
set_option Elab.async false
set_option maxRecDepth 10000
namespace Mine.C
open PySem

/-! ## The chart, pure -/
abbrev GT := Nat × Nat → List Nat
def StepC (row : List Nat) (G : GT) (x i j : Nat) : Prop := (row[i]? = some x ∧ j = i + 1) ∨ j ∈ G (x, i)
def PathC (row : List Nat) (G : GT) : List Nat → Nat → Nat → Prop
  | [], i, j => i = j
  | x :: xs, i, j => ∃ m, StepC row G x i m ∧ PathC row G xs m j
theorem PathC.snoc {row : List Nat} {G : GT} {x j : Nat} : ∀ {xs : List Nat} {i : Nat}, PathC row G (xs ++ [x]) i j → ∃ m, PathC row G xs i m ∧ StepC row G x m j
  | [], i, ⟨_, h1, h2⟩ => ⟨i, rfl, h2 ▸ h1⟩
  | _ :: _, _, ⟨m, h1, h2⟩ => let ⟨m', h3, h4⟩ := PathC.snoc h2; ⟨m', ⟨m, h1, h3⟩, h4⟩
def ClosedC (C : List (Nat × List Nat)) (row : List Nat) (G : GT) : Prop := ∀ p ∈ C, ∀ i j, i ≤ row.length → PathC row G p.2 i j → j ∈ G (p.1, i)
/-- all that is read off a closed chart -/
theorem Der.path {C : List (Nat × List Nat)} {row : List Nat} {G : GT} (hc : ClosedC C row G) {xs ws : List Nat} (h : Der C xs ws) :
    ∀ A B, row = A ++ (ws ++ B) → PathC row G xs A.length (A.length + ws.length) := by
  induction h with
  | nil => intro _ _ _; exact rfl
  | @keep x xs ws _ ih =>
    intro A B e
    have h2 := ih (A ++ [x]) B (by rw [e, List.append_assoc]; rfl)
    rw [List.length_append, Nat.add_right_comm] at h2
    exact ⟨_, .inl ⟨by rw [e, List.getElem?_append_right (Nat.le_refl _), Nat.sub_self]; rfl, rfl⟩, h2⟩
  | @rule x r xs u ws hm _ _ ih1 ih2 =>
    intro A B e
    rw [List.append_assoc] at e
    have h2 := ih2 (A ++ u) B (by rw [e, List.append_assoc])
    rw [List.length_append] at h2
    rw [List.length_append, ← Nat.add_assoc]
    exact ⟨_, .inr (hc _ hm _ _ (by rw [e, List.length_append]; exact Nat.le_add_right _ _) (ih1 A _ e)), h2⟩
theorem Der.chart {C : List (Nat × List Nat)} {row : List Nat} {G : GT} (hc : ClosedC C row G) {x : Nat} (h : Der C [x] row) (hne : row ≠ [x]) : row.length ∈ G (x, 0) := by
  obtain ⟨m, h1, h2⟩ := h.path hc [] [] (List.append_nil row).symm
  have h2 : m = 0 + row.length := h2
  rw [Nat.zero_add] at h2
  subst h2
  rcases h1 with ⟨h3, h4⟩ | h3
  · cases row with
    | nil => cases h3
    | cons y r => cases h3; exact absurd (congrArg _ (List.eq_nil_of_length_eq_zero (Nat.succ.inj h4))) hne
  · exact h3
/-- a path in a chart that differs below only -/
theorem PathC.up {row : List Nat} {G G' : GT} {f j : Nat} (hb : ∀ k j, j ∈ G' k → k.2 ≤ j) (he : ∀ k, f < k.2 → G' k = G k) : ∀ {xs : List Nat} {i : Nat}, f < i → PathC row G' xs i j → PathC row G xs i j
  | [], _, _, h => h
  | x :: xs, i, hi, ⟨m, h1, h2⟩ =>
    have hm : i ≤ m := h1.elim (fun e => e.2 ▸ Nat.le_succ i) (hb _ _)
    ⟨m, h1.imp_right (fun h => he (x, i) hi ▸ h), PathC.up hb he (Nat.lt_of_lt_of_le hi hm) h2⟩
noncomputable def muC (G : GT) (f : Nat) : Nat := ((G (6, f)).length + (G (9, f)).length) + ((G (10, f)).length + (G (11, f)).length)
noncomputable def updC (G : GT) (k : Nat × Nat) (v : List Nat) (k' : Nat × Nat) : List Nat := if k' = k then v else G k'
section
variable {G : GT} {k k' : Nat × Nat} {v w : List Nat} {f x n : Nat}
theorem updC_self : updC G k v k = v := if_pos rfl
theorem updC_ne (h : k' ≠ k) : updC G k v k' = G k' := if_neg h
theorem updC_1 (h : x ≠ n) : updC G (n, f) v (x, f) = G (x, f) := updC_ne fun e => h (congrArg Prod.fst e)
theorem updC_same (h : G k = v) : updC G k v = G := funext fun k' => by
  by_cases e : k' = k
  · rw [e, updC_self, h]
  · exact updC_ne e
theorem updC_upd : updC (updC G k v) k w = updC G k w := funext fun k' => by
  by_cases e : k' = k
  · rw [e, updC_self, updC_self]
  · rw [updC_ne e, updC_ne e, updC_ne e]
abbrev LeftOk (x : Nat) : Prop := x = 6 ∨ x = 9 ∨ x = 10 ∨ x = 11
theorem muC_upd (hx : LeftOk x) (h : (G (x, f)).length < v.length) : muC G f < muC (updC G (x, f) v) f := by
  unfold muC
  rcases hx with rfl | rfl | rfl | rfl
  · rw [updC_self, updC_1 (by decide), updC_1 (by decide), updC_1 (by decide)]
    exact Nat.add_lt_add_right (Nat.add_lt_add_right h _) _
  · rw [updC_self, updC_1 (by decide), updC_1 (by decide), updC_1 (by decide)]
    exact Nat.add_lt_add_right (Nat.add_lt_add_left h _) _
  · rw [updC_self, updC_1 (by decide), updC_1 (by decide), updC_1 (by decide)]
    exact Nat.add_lt_add_left (Nat.add_lt_add_right h _) _
  · rw [updC_self, updC_1 (by decide), updC_1 (by decide), updC_1 (by decide)]
    exact Nat.add_lt_add_left (Nat.add_lt_add_left h _) _
theorem muC_le (h : ∀ k, (G k).length ≤ n) : muC G f ≤ (n + n) + (n + n) := Nat.add_le_add (Nat.add_le_add (h _) (h _)) (Nat.add_le_add (h _) (h _))
end
theorem lidK {n : Nat} (h : n ≤ 2000) : n ≤ lid := by rw [lid_eq]; exact Nat.le_trans h (by decide)
theorem rng_down : ∀ (m s : Nat), m ≤ s + 1 → (rngItems (s : Int) (-1) m).map AV.int = intsL ((List.range m).map fun i => s - i)
  | 0, _, _ => rfl
  | 1, _, _ => rfl
  | m + 2, 0, h => absurd (Nat.le_of_succ_le_succ h) (Nat.not_succ_le_zero m)
  | m + 2, s + 1, h => by
    have ih := rng_down (m + 1) s (Nat.le_of_succ_le_succ h)
    have e : ((s + 1 : Nat) : Int) + -1 = (s : Int) := Int.add_neg_cancel_right (s : Int) 1
    rw [List.range_succ_eq_map (n := m + 1), List.map_cons, List.map_map]
    show AV.int ((s + 1 : Nat) : Int) :: (rngItems (((s + 1 : Nat) : Int) + -1) (-1) (m + 1)).map AV.int = _
    rw [e, ih]
    refine congrArg (_ :: ·) (congrArg intsL (List.map_congr_left fun i _ => ?_))
    exact (Nat.add_sub_add_right s 1 i).symm
theorem Src.down {H : AH} {k : Nat} : Src H (.rng k (-1) (-1)) (intsL ((List.range (k + 1)).map fun i => k - i)) := by
  have h2 : rngSize (k : Int) (-1) (-1) = k + 1 := by
    show (if (-1 : Int) = 1 then _ else ((k : Int) - -1).toNat) = k + 1
    rw [if_neg (by decide), Int.sub_neg]; rfl
  rw [← rng_down (k + 1) k (Nat.le_refl _), ← h2]; exact .rng
end Mine.C
end
section
set_option autoImplicit false
set_option Elab.async false
set_option maxRecDepth 10000
namespace Mine.C
open PySem

noncomputable abbrev atNS (k : Nat × Nat) : List Atom := [.s k.1, .i (k.2 : Int)]
noncomputable abbrev avNS (k : Nat × Nat) : List AV := [.str k.1, .int k.2]
theorem atNS_inj (x y : Nat × Nat) (h : atNS x = atNS y) : x = y :=
  have h := List.cons.inj h
  Prod.ext (atomS_inj _ _ h.1) (atomI_inj _ _ (List.cons.inj h.2).1)
abbrev EDt := List ((Nat × Nat) × Nat)
noncomputable abbrev dicE (D : EDt) : AO := dicT atNS (refM D)
theorem lk_fresh {D : EDt} {k : Nat × Nat} (h : lk D k = none) : k ∉ D.map (·.1) := fun hm => let ⟨p, hp, e⟩ := List.mem_map.mp hm; lk_not h p hp e
theorem lk_put {D : EDt} {k j : Nat × Nat} {v r : Nat} (h : lk (putP D k v) j = some r) : (j = k ∧ v = r) ∨ lk D j = some r := by
  rw [putP_lk] at h
  by_cases e : j = k
  · rw [if_pos e] at h; exact .inl ⟨e, Option.some.inj h⟩
  · rw [if_neg e] at h; exact .inr h
/-- the chart as it lies in the heap: a dict of lists -/
structure EndsAt (n : Nat) (H₀ : AH) (er : Nat) (H : AH) (D : EDt) (G : GT) : Prop where
  ext : Ext H₀ H
  lo : H₀.length ≤ er
  d : H[er]? = some (dicE D)
  kn : (D.map (·.1)).Nodup
  kb : ∀ k ∈ D.map (·.1), LeftOk k.1 ∧ k.2 ≤ n
  val : ∀ k r, lk D k = some r → H[r]? = some (.list (intsL (G k))) ∧ er < r
  inj : ∀ k k' r, lk D k = some r → lk D k' = some r → k' = k
  non : ∀ k, lk D k = none → G k = []
  nd : ∀ k, (G k).Nodup
  bd : ∀ k j, j ∈ G k → k.2 ≤ j ∧ j ≤ n
section
variable {n er : Nat} {H₀ H H' : AH} {D : EDt} {G : GT} {k : Nat × Nat} {K : AH → AV → Prop}
theorem EndsAt.mv (h : EndsAt n H₀ er H D G) (e : Ext H H') : EndsAt n H₀ er H' D G := { h with ext := h.ext.trans e, d := e.get h.d, val := fun k r hk => (h.val k r hk).imp_left e.get }
theorem EndsAt.glen (h : EndsAt n H₀ er H D G) (k : Nat × Nat) : (G k).length ≤ n + 1 := nodup_lt_len (h.nd k) fun j hj => Nat.lt_succ_of_le (h.bd k j hj).2
theorem EndsAt.dlen (h : EndsAt n H₀ er H D G) : D.length ≤ 12 * (n + 1) := by
  have l : ∀ x, LeftOk x → x < 12 := fun x hx => by rcases hx with rfl | rfl | rfl | rfl <;> decide
  have := nodup_lt_len (n := 12 * (n + 1)) (nodup_map_on (f := fun k : Nat × Nat => 12 * k.2 + k.1) h.kn fun a ha b hb e => ?_) fun x hx => ?_
  · rw [List.length_map, List.length_map] at this; exact this
  · have h1 := l _ (h.kb a ha).1
    have h2 := l _ (h.kb b hb).1
    have e : 12 * a.2 + a.1 = 12 * b.2 + b.1 := e
    exact Prod.ext (by lia) (by lia)
  · obtain ⟨a, ha, rfl⟩ := List.mem_map.mp hx
    exact Nat.lt_of_lt_of_le (Nat.add_lt_add_left (l _ (h.kb a ha).1) _) (Nat.mul_le_mul_left 12 (Nat.succ_le_succ (h.kb a ha).2))
theorem EndsAt.key (h : EndsAt n H₀ er H D G) (hn : lk D k = none) (hk : LeftOk k.1) (hk2 : k.2 ≤ n) : EndsAt n H₀ er ((H ++ [AO.list []]).set er (dicE (putP D k H.length))) (putP D k H.length) G := by
  have hl := lt_of_get h.d
  have hne : ∀ {j r}, lk D j = some r → H.length ≠ r := fun hj => Nat.ne_of_gt (lt_of_get (h.val _ _ hj).1)
  refine { h with ext := h.ext.new.set h.lo, d := get_set_self (get_new h.d), kn := ?_, kb := fun j hj => ?_, val := fun j r hj => ?_, inj := fun j j' r h1 h2 => ?_, non := fun j hj => ?_ }
  · rw [putP_new hn, List.map_append]; exact nodup_snoc h.kn (lk_fresh hn)
  · rw [putP_new hn, List.map_append] at hj
    exact mem_snoc hj (h.kb j) fun e => e ▸ ⟨hk, hk2⟩
  · rcases lk_put hj with ⟨rfl, rfl⟩ | hj
    · rw [h.non _ hn]; exact ⟨get_set look_new (Nat.ne_of_lt hl), hl⟩
    · have := h.val j r hj
      exact ⟨get_set (get_new this.1) (Nat.ne_of_lt this.2), this.2⟩
  · rcases lk_put h1 with ⟨rfl, rfl⟩ | h1
    · rcases lk_put h2 with ⟨e, -⟩ | h2
      · exact e
      · exact absurd rfl (hne h2)
    · rcases lk_put h2 with ⟨-, e⟩ | h2
      · exact absurd e (hne h1)
      · exact h.inj j j' r h1 h2
  · rw [putP_lk] at hj
    by_cases e : j = k
    · rw [if_pos e] at hj; cases hj
    · rw [if_neg e] at hj; exact h.non j hj
theorem EndsAt.add (h : EndsAt n H₀ er H D G) {r j : Nat} (hk : lk D k = some r) (hj : j ∉ G k) (h1 : k.2 ≤ j) (h2 : j ≤ n) : EndsAt n H₀ er (H.set r (.list (intsL (G k) ++ [.int j]))) D (updC G k (G k ++ [j])) := by
  obtain ⟨r1, r2⟩ := h.val k r hk
  refine { h with ext := h.ext.set (Nat.le_of_lt (Nat.lt_of_le_of_lt h.lo r2)), d := get_set h.d (Nat.ne_of_gt r2), val := fun k' r' hk' => ?_, non := fun k' hk' => ?_, nd := fun k' => ?_, bd := fun k' j' hj' => ?_ }
  · by_cases e : k' = k
    · subst e
      cases hk.symm.trans hk'
      rw [updC_self]
      exact ⟨(get_set_self r1).trans (congrArg _ (congrArg _ (ints_app (ys := [j])))), r2⟩
    · rw [updC_ne e]
      exact ⟨get_set (h.val k' r' hk').1 fun er => e (h.inj k k' r hk (er ▸ hk')), (h.val k' r' hk').2⟩
  · by_cases e : k' = k
    · rw [e, hk] at hk'; cases hk'
    · rw [updC_ne e]; exact h.non k' hk'
  · by_cases e : k' = k
    · rw [e, updC_self]; exact nodup_snoc (h.nd k) hj
    · rw [updC_ne e]; exact h.nd k'
  · by_cases e : k' = k
    · rw [e, updC_self] at hj'
      exact e ▸ mem_snoc hj' (h.bd k j') fun e => e ▸ ⟨h1, h2⟩
    · rw [updC_ne e] at hj'; exact h.bd k' j' hj'
/-- what get finds: the list there, or the empty one that it was handed -/
theorem EndsAt.look (h : EndsAt n H₀ er H D G) {v : Nat} (hv : H[v]? = some (.list [])) : ∃ g, (lk (refM D) k).getD (.ref v) = .ref g ∧ H[g]? = some (.list (intsL (G k))) := by
  have e : lk (refM D) k = (lk D k).map AV.ref := lk_map AV.ref
  rw [e]
  cases hq : lk D k with
  | some r => exact ⟨r, rfl, (h.val k r hq).1⟩
  | none => exact ⟨v, rfl, by rw [h.non k hq]; exact hv⟩
theorem EndsAt.setd (h : EndsAt n H₀ er H D G) (hn : n ≤ 50) (hk : LeftOk k.1) (hk2 : k.2 ≤ n) {sp : Nat} {x : AO} (hx : H[sp]? = some x) (hs : er ≠ sp) (hr : ∀ r, lk D k = some r → r ≠ sp)
    (q : ∀ H' D' kr, EndsAt n H₀ er H' D' G → lk D' k = some kr → H'[sp]? = some x → kr ≠ sp → K H' (.ref kr)) : omO (H ++ [AO.list []]) K 51 er [.tup (avNS k), .ref H.length] (dicE D) := by
  refine dsetd atNS_inj rfl (by rw [List.length_map]; exact lidK (Nat.le_trans h.dlen (Nat.le_trans (Nat.mul_le_mul_left 12 (Nat.succ_le_succ hn)) (by decide)))) (fun v hv => ?_) fun hv => ?_
  · obtain ⟨r, hr', rfl⟩ := Option.map_eq_some_iff.mp ((lk_map AV.ref).symm.trans hv)
    exact q _ D r (h.mv .app) hr' (get_new hx) (hr r hr')
  · have hq : lk D k = none := Option.map_eq_none_iff.mp ((lk_map AV.ref).symm.trans hv)
    rw [refM_put]
    exact q _ _ _ (h.key hq hk hk2) (by rw [putP_lk, if_pos rfl]) (get_set (get_new hx) hs) (Nat.ne_of_gt (lt_of_get hx))
end
theorem mcT {κ : Type} {W : MI} {ρ : Ro} {K : AH → AV → Prop} {H : AH} {m n : Nat} {args : List ME} {f : κ → List Atom} {M : List (κ × AV)} (k : cdW (decide (m = 50 ∨ m = 51)) (evsF W ρ args (mcB m n K) H)) : mcO W m args ρ K H n (dicT f M) := by
  cases M <;> exact k
end Mine.C
end
section
set_option autoImplicit false
set_option Elab.async false
set_option maxRecDepth 10000
namespace Mine.C
open PySem

abbrev InB (f n : Nat) (S : List Nat) : Prop := ∀ j ∈ S, f ≤ j ∧ j ≤ n
/-- a list of spots: within bounds, and at most c of them said again -/
structure SpT (f n c : Nat) (T : List Nat) : Prop where
  b : InB f n T
  l : ∃ A : List Nat, A.Nodup ∧ (∀ x ∈ A, x ∈ T) ∧ T.length ≤ A.length + c
noncomputable def rest_ (T gs : List Nat) : List Nat := gs.filter fun y => !decide (y ∈ T)
section
variable {f n c x : Nat} {T G ex : List Nat}
theorem SpT.len (h : SpT f n c T) : T.length ≤ n + 1 + c :=
  let ⟨_, h1, h2, h3⟩ := h.l
  Nat.le_trans h3 (Nat.add_le_add_right (nodup_lt_len h1 fun x hx => Nat.lt_succ_of_le (h.b x (h2 x hx)).2) c)
theorem mem_rest : x ∈ rest_ T G ↔ x ∈ G ∧ x ∉ T := by
  unfold rest_
  rw [List.mem_filter, Bool.not_eq_true', decide_eq_false_iff_not]
theorem SpT.more (h : SpT f n c T) (hG : G.Nodup) (hb : InB f n (G ++ ex)) (hx : ex.length ≤ 1) : SpT f n (c + 1) (T ++ rest_ T (G ++ ex)) := by
  obtain ⟨A, h1, h2, h3⟩ := h.l
  refine ⟨fun j hj => (List.mem_append.mp hj).elim (h.b j) fun g => hb j (mem_rest.mp g).1, A ++ rest_ T G, List.nodup_append.mpr ⟨h1, hG.sublist List.filter_sublist, fun a ha b hb e => (mem_rest.mp hb).2 (e ▸ h2 a ha)⟩, fun y hy => ?_, ?_⟩
  · exact List.mem_append.mpr ((List.mem_append.mp hy).imp (h2 y) fun g => mem_rest.mpr ((mem_rest.mp g).imp_left (List.mem_append_left _)))
  · have e : rest_ T (G ++ ex) = rest_ T G ++ rest_ T ex := List.filter_append ..
    have l : (rest_ T ex).length ≤ 1 := Nat.le_trans (List.length_filter_le _ _) hx
    rw [e, List.length_append, List.length_append, List.length_append]
    lia
end
noncomputable def notInI (T : List Nat) (v : AV) : Bool := match v with
  | .int y => !decide (y.toNat ∈ T)
  | _ => false
theorem filter_ints {T r : List Nat} : (intsL r).filter (notInI T) = intsL (rest_ T r) := List.filter_map
set_option genSizeOf false in
set_option genInjectivity false in
structure EF where
  (q rw er : Nat)
  (s3 s4 s5 s6 s12 s13 : Option AV)
noncomputable def rE (z : EF) (s7 s8 s9 s10 s11 : Option AV) : Ro := [oR z.q, oR z.rw, oR z.er, z.s3, z.s4, z.s5, z.s6, s7, s8, s9, s10, s11, z.s12, z.s13]
section
variable {H₀ Hb H : AH} {D : EDt} {G : GT} {z : EF} {N x s lt f c : Nat} {T row : List Nat} {s7 s11 : Option AV} {Q : Fl → Ro → AH → Prop}
theorem spot3 {gs : List Nat} {l : Nat} (eb : Ext Hb H) (lb : Hb.length ≤ lt) (hT : H[lt]? = some (.list (intsL T))) (hg : H[l]? = some (.list (intsL gs))) (hl : gs.length ≤ 60) (hT2 : T.length ≤ 1900)
    (k : ∀ H', Ext Hb H' → H'[lt]? = some (.list (intsL (T ++ rest_ T gs))) → Q .next (rE z s7 (oS x) (oR lt) (oI s) (oR l)) H') :
    blF (mi theFn (N + 20)) Q [.expr (.mcall (.loc 9) 48 [.comp 2 (.loc 1) [1] true (.loc 11) [.cmp (.NotIn) (.loc 1) (.loc 11)]])] (rE z s7 (oS x) (oR lt) (oI s) (oR l)) H := by
  refine Lk.mk hT <| Lk.mk hg <| comp_filter (it := .lst l) (xs := intsL gs) (notInI T) (fun ys => .lst (get_new hg)) (by rw [ints_len]; exact hl) (fun v hv ys F hF => ?_) ?_
  · obtain ⟨y, hy, rfl⟩ := List.mem_map.mp hv
    exact Lk.mk (get_new hT) <| in_ints hF
  · rw [filter_ints]
    refine Lk.mk (get_new hT) <| Lk.mk look_new <| Gd.mk ⟨?_, Nat.ne_of_lt (lt_of_get hT)⟩ <| k _ (eb.new.set lb) ((get_set_self (get_new hT)).trans (congrArg _ (congrArg _ ints_app)))
    rw [ints_len, ints_len]
    exact lidK (Nat.add_le_add hT2 (Nat.le_trans (List.length_filter_le _ _) (Nat.le_trans hl (by decide : 60 ≤ 100))))
theorem spot12 {r : List MS} (hE : EndsAt row.length H₀ z.er Hb D G) (eb : Ext Hb H) (hrl : row.length ≤ 50) (hrow : Hb[z.rw]? = some (.list (strsL row))) (hT : H[lt]? = some (.list (intsL T)))
    (k : ∀ (H₂ : AH) (l : Nat) (ex : List Nat), Ext Hb H₂ → H₂[lt]? = some (.list (intsL T)) → H₂[l]? = some (.list (intsL (G (x, s) ++ ex))) → ex.length ≤ 1 → InB s row.length ex → (row[s]? = some x → s + 1 ∈ ex) → blF (mi theFn (N + 20)) Q r (rE z s7 (oS x) (oR lt) (oI s) (oR l)) H₂) :
    blF (mi theFn (N + 20)) Q (.asg (.loc 11) (.call (.cst (.bi (.list))) [.mcall (.loc 2) 50 [.tup [.loc 8, .loc 10], .lst []]]) :: .ifs (.bop true [.cmp (.Lt) (.loc 10) (.call (.cst (.bi (.len))) [.loc 1]), .cmp (.Eq) (.sub (.loc 1) (.loc 10)) (.loc 8)]) [.expr (.mcall (.loc 11) 47 [.bin (.Add) (.loc 10) (.cst (.int 1))])] [] :: r) (rE z s7 (oS x) (oR lt) (oI s) s11) H := by
  have hE₀ := hE.mv eb
  have hE₁ := hE₀.mv (Ext.app (X := [AO.list []]))
  obtain ⟨g, hv, hg⟩ := hE₁.look (k := (x, s)) look_new
  refine Lk.mk hE₀.d <| mcT <| Lk.mk hE₁.d <| dget (k := (x, s)) atNS_inj rfl ?_
  rw [hv]
  have hl := hE.glen (x, s)
  have e₁ : Ext Hb (H ++ [AO.list []] ++ [AO.list (intsL (G (x, s)))]) := eb.new.new
  have g₁ : (H ++ [AO.list []] ++ [AO.list (intsL (G (x, s)))])[(H ++ [AO.list []]).length]? = some (.list (intsL (G (x, s)))) := look_new
  have t₁ := get_new (o' := AO.list (intsL (G (x, s)))) (get_new (o' := AO.list []) hT)
  have no : (row[s]? ≠ some x) → blF (mi theFn (N + 20)) Q r (rE z s7 (oS x) (oR lt) (oI s) (oR (H ++ [AO.list []]).length)) (H ++ [AO.list []] ++ [AO.list (intsL (G (x, s)))]) := fun hn => k _ _ [] e₁ t₁ (by rw [List.append_nil]; exact g₁) (Nat.zero_le _) (fun _ h => nomatch h) fun e => absurd e hn
  refine Lk.mk hg <| Lk.mk (e₁.get hrow) <| br.dec (fun hlt => ?_) fun hge => no fun e => hge ?_
  · obtain ⟨y, hy⟩ := get_ex (l := row) (i := s) (by have := Int.ofNat_lt.mp hlt; rw [List.length_map] at this; exact this)
    refine Lk.mk (e₁.get hrow) <| okW.mk (strs_at hy) <| br.dec (fun hyx => ?_) fun hyx => no fun e => hyx (Option.some.inj (hy.symm.trans e))
    refine Lk.mk g₁ <| Lk.mk g₁ <| Gd.mk (by rw [ints_len]; exact Nat.lt_of_le_of_lt hl (lidL (Nat.succ_le_succ (Nat.le_trans hrl (by decide))))) <| k _ _ [s + 1] (e₁.set (Nat.le_trans eb.len (Nat.le_of_lt lt_new))) (get_set t₁ ?_) ((get_set_self g₁).trans (congrArg _ (congrArg _ (ints_app (ys := [s + 1]))))) (Nat.le_refl _) (fun j hj => ?_) fun _ => List.mem_singleton.mpr rfl
    · exact Nat.ne_of_gt (Nat.lt_trans (lt_of_get hT) lt_new)
    · rw [List.mem_singleton.mp hj]; exact ⟨Nat.le_succ s, lt_of_get hy⟩
  · exact Int.ofNat_lt.mpr (by rw [List.length_map]; exact lt_of_get e)
/-- one spot's step in the chart: the body of the loop over the spots -/
theorem ends_spot (hE : EndsAt row.length H₀ z.er Hb D G) (eb : Ext Hb H) (hrl : row.length ≤ 50) (hrow : Hb[z.rw]? = some (.list (strsL row))) (lb : Hb.length ≤ lt) (hT : H[lt]? = some (.list (intsL T))) (hTo : SpT f row.length c T) (hc : c ≤ 1800) (hf : f ≤ s)
    (k : ∀ (H' : AH) (T' : List Nat) (s11 : Option AV), Ext Hb H' → H'[lt]? = some (.list (intsL T')) → SpT f row.length (c + 1) T' → (∀ j ∈ T, j ∈ T') → (∀ j, StepC row G x s j → j ∈ T') → Q .next (rE z s7 (oS x) (oR lt) (oI s) s11) H') :
    blF (mi theFn (N + 20)) Q [.asg (.loc 11) (.call (.cst (.bi (.list))) [.mcall (.loc 2) 50 [.tup [.loc 8, .loc 10], .lst []]]), .ifs (.bop true [.cmp (.Lt) (.loc 10) (.call (.cst (.bi (.len))) [.loc 1]), .cmp (.Eq) (.sub (.loc 1) (.loc 10)) (.loc 8)]) [.expr (.mcall (.loc 11) 47 [.bin (.Add) (.loc 10) (.cst (.int 1))])] [], .expr (.mcall (.loc 9) 48 [.comp 2 (.loc 1) [1] true (.loc 11) [.cmp (.NotIn) (.loc 1) (.loc 11)]])] (rE z s7 (oS x) (oR lt) (oI s) s11) H := by
  have hl := hE.glen (x, s)
  refine spot12 hE eb hrl hrow hT fun H₂ l ex e₂ t₂ g₂ hx hxb hxm => spot3 e₂ lb t₂ g₂ ?_ ?_ fun H' e' t' => k H' _ _ e' t' (hTo.more (hE.nd (x, s)) (fun j hj => ?_) hx) (fun j hj => List.mem_append_left _ hj) fun j hj => ?_
  · rw [List.length_append]
    exact Nat.le_trans (Nat.add_le_add hl hx) (Nat.succ_le_succ (Nat.succ_le_succ (Nat.le_trans hrl (by decide))))
  · exact Nat.le_trans hTo.len (Nat.add_le_add (Nat.succ_le_succ (Nat.le_trans hrl (by decide : 50 ≤ 99))) hc)
  · rcases List.mem_append.mp hj with g | g
    · exact (hE.bd (x, s) j g).imp_left (Nat.le_trans hf)
    · exact (hxb j g).imp_left (Nat.le_trans hf)
  · by_cases ht : j ∈ T
    · exact List.mem_append_left _ ht
    · refine List.mem_append_right _ (mem_rest.mpr ⟨?_, ht⟩)
      rcases hj with ⟨h1, h2⟩ | h
      · exact List.mem_append_right _ (h2 ▸ hxm h1)
      · exact List.mem_append_left _ h
end
end Mine.C
end
section
set_option autoImplicit false
set_option Elab.async false
set_option maxRecDepth 10000
namespace Mine.C
open PySem

/-- the spots that the first m names lead to -/
structure EnI (Hb : AH) (row : List Nat) (G : GT) (r : List Nat) (f m sp : Nat) (S : List Nat) (H' : AH) : Prop where
  e : Ext Hb H'
  lo : Hb.length ≤ sp
  g : H'[sp]? = some (.list (intsL S))
  b : InB f row.length S
  l : S.length ≤ (row.length + 1) * m + 1
  p : ∀ j, PathC row G (r.take m) f j → j ∈ S
/-- and the spots that one name more leads to, of the first i of them -/
structure EnJ (H₁ : AH) (row : List Nat) (G : GT) (x f : Nat) (S : List Nat) (i : Nat) (T : List Nat) (H' : AH) : Prop where
  e : Ext H₁ H'
  t : H'[H₁.length]? = some (.list (intsL T))
  o : SpT f row.length i T
  p : ∀ s ∈ S.take i, ∀ j, StepC row G x s j → j ∈ T
section
variable {H₀ Hb : AH} {D : EDt} {G : GT} {z : EF} {N f rr : Nat} {row r : List Nat} {X : Ro → AH → Prop} {Q : Fl → Ro → AH → Prop}
noncomputable def bNames : List MS := [.asg (.loc 9) (.lst []), .for (.loc 10) (.loc 7) [.asg (.loc 11) (.call (.cst (.bi (.list))) [.mcall (.loc 2) 50 [.tup [.loc 8, .loc 10], .lst []]]), .ifs (.bop true [.cmp (.Lt) (.loc 10) (.call (.cst (.bi (.len))) [.loc 1]), .cmp (.Eq) (.sub (.loc 1) (.loc 10)) (.loc 8)]) [.expr (.mcall (.loc 11) 47 [.bin (.Add) (.loc 10) (.cst (.int 1))])] [], .expr (.mcall (.loc 9) 48 [.comp 2 (.loc 1) [1] true (.loc 11) [.cmp (.NotIn) (.loc 1) (.loc 11)]])], .asg (.loc 7) (.loc 9)]
theorem ends_name {H₁ : AH} {m x sp : Nat} {S : List Nat} {s9 s10 s11 : Option AV} (hE : EndsAt row.length H₀ z.er Hb D G) (hrl : row.length ≤ 50) (hrow : Hb[z.rw]? = some (.list (strsL row))) (hm : m < 4) (hx : r[m]? = some x) (h : EnI Hb row G r f m sp S H₁)
    (k : ∀ (H' : AH) (lt : Nat) (T : List Nat) (s10 s11 : Option AV), EnI Hb row G r f (m + 1) lt T H' → Q .next (rE z (oR lt) (oS x) (oR lt) s10 s11) H') :
    blF (mi theFn (N + 25)) Q bNames (rE z (oR sp) (oS x) s9 s10 s11) H₁ := by
  have hSl : S.length ≤ 200 := Nat.le_trans h.l (Nat.succ_le_succ (Nat.le_trans (Nat.mul_le_mul (Nat.succ_le_succ hrl) (Nat.le_of_lt_succ hm)) (by decide)))
  refine Lk.mk (get_new h.g) <| ForW.mk (xs := intsL S) (σ := List Nat × Option AV × Option AV) (fun s => rE z (oR sp) (oS x) (oR H₁.length) s.2.1 s.2.2) (fun i s H' => EnJ H₁ row G x f S i s.1 H') (fun i s H' g => .lst (g.e.get h.g)) (fun i v s H' hv g => ?_) (fun s H' g => ?_) (s := ([], s10, s11)) ⟨.app, look_new, ⟨fun _ h => (nomatch h), [], .nil, (fun _ h => nomatch h), Nat.le_refl _⟩, fun _ h => nomatch h⟩
  · refine map_get hv fun y hy => ?_
    have hi := lt_of_get hy
    refine okW.mk rfl <| ends_spot (hE.mv h.e) g.e hrl (h.e.get hrow) (Nat.le_refl _) g.t g.o (Nat.le_trans (Nat.le_of_lt hi) (Nat.le_trans hSl (by decide))) (h.b y (mem_of hy)).1 fun H₃ T' s11 e₃ t₃ o₃ hsub hst => ?_
    exact AtI.mk (s := (T', oI y, s11)) ⟨e₃, t₃, o₃, fun s₁ hs₁ j hj => ((take_sub hy).mp hs₁).elim (fun q => hsub j (g.p s₁ q j hj)) fun q => hst j (q ▸ hj)⟩
  · have o := g.o
    have p := g.p
    rw [ints_len] at o
    rw [ints_len, take_all (Nat.le_refl _)] at p
    refine k H' H₁.length s.1 _ _ ⟨h.e.trans g.e, h.e.len, g.t, o.b, ?_, fun j hj => ?_⟩
    · have := h.l
      have := o.len
      rw [Nat.mul_succ]; lia
    · rw [take_succ_get hx] at hj
      obtain ⟨mid, h1, h2⟩ := PathC.snoc hj
      exact p mid (h.p mid h1) j h2
theorem ends_names {s8 s9 s10 s11 : Option AV} (hE : EndsAt row.length H₀ z.er Hb D G) (hrl : row.length ≤ 50) (hrow : Hb[z.rw]? = some (.list (strsL row))) (hr : Hb[rr]? = some (.list (strsL r))) (hr4 : r.length ≤ 4) (hf : f ≤ row.length)
    (k : ∀ (H' : AH) (sp : Nat) (S : List Nat) (s8 s9 s10 s11 : Option AV), EnI Hb row G r f r.length sp S H' → X (rE z (oR sp) s8 s9 s10 s11) H') :
    Lk (Hb ++ [.list (intsL [f])]) rr (iterO rr (forI (mi theFn (N + 26)) (.loc 8) bNames (rE z (oR Hb.length) s8 s9 s10 s11) (thenK X Q) (Hb ++ [.list (intsL [f])]))) := by
  refine Lk.mk (get_new hr) <| ForW.mk (xs := strsL r) (σ := Nat × List Nat × Option AV × Option AV × Option AV × Option AV) (fun s => rE z (oR s.1) s.2.2.1 s.2.2.2.1 s.2.2.2.2.1 s.2.2.2.2.2) (fun m s H' => EnI Hb row G r f m s.1 s.2.1 H') (fun _ _ _ g => .lst (g.e.get hr)) (fun m v s H' hv g => ?_) (fun s H' g => ?_) (s := (Hb.length, [f], s8, s9, s10, s11)) ⟨.app, Nat.le_refl _, look_new, fun j hj => by rw [List.mem_singleton.mp hj]; exact ⟨Nat.le_refl _, hf⟩, Nat.le_refl _, fun j hj => List.mem_singleton.mpr (Eq.symm hj)⟩
  · refine map_get hv fun x hx => ?_
    refine okW.mk rfl <| ends_name hE hrl hrow (Nat.lt_of_lt_of_le (lt_of_get hx) hr4) hx g fun H' lt T s10 s11 g' => AtI.mk (s := (lt, T, oS x, oR lt, s10, s11)) g'
  · have e : (strsL r).length = r.length := List.length_map ..
    rw [e] at g
    exact k H' s.1 s.2.1 _ _ _ _ g
end
end Mine.C
end
section
set_option autoImplicit false
set_option Elab.async false
set_option maxRecDepth 10000
namespace Mine.C
open PySem

set_option genSizeOf false in
set_option genInjectivity false in
structure RS where
  (s5 s6 s7 s8 s9 s10 s11 s12 s13 : Option AV)
noncomputable def rF (q rw er : Nat) (s3 s4 : Option AV) (t : RS) : Ro := [oR q, oR rw, oR er, s3, s4, t.s5, t.s6, t.s7, t.s8, t.s9, t.s10, t.s11, t.s12, t.s13]
/-- what one rule does to the chart -/
structure RuO (row : List Nat) (f l : Nat) (r : List Nat) (b : Bool) (G : GT) (b' : Bool) (G' : GT) : Prop where
  fr : ∀ k, k.2 ≠ f → G' k = G k
  gr : (b' = b ∧ G' = G) ∨ (b' = true ∧ muC G f < muC G' f)
  cl : G' = G → ∀ j, PathC row G r f j → j ∈ G (l, f)
structure RkI (n : Nat) (H₀ : AH) (er : Nat) (D : EDt) (G : GT) (k : Nat × Nat) (sp : Nat) (S : List Nat) (b : Bool) (i : Nat) (L : List Nat) (b' : Bool) (H' : AH) : Prop where
  e : EndsAt n H₀ er H' D (updC G k L)
  sp : H'[sp]? = some (.list (intsL S))
  gr : (b' = b ∧ L = G k) ∨ (b' = true ∧ (G k).length < L.length)
  m : ∀ j ∈ S.take i, j ∈ L
noncomputable def bRule : List MS := [.asg (.loc 7) (.lst [.loc 3]), .for (.loc 8) (.loc 6) bNames, .asg (.loc 13) (.mcall (.loc 2) 51 [.tup [.loc 5, .loc 3], .lst []]), .for (.loc 12) (.loc 7) [.ifs (.cmp (.NotIn) (.loc 12) (.loc 13)) [.expr (.mcall (.loc 13) 47 [.loc 12]), .asg (.loc 4) (.cst (.bool true))] []]]
section
variable {H₀ H : AH} {D : EDt} {G : GT} {N q rw_ er f l rr : Nat} {row r : List Nat} {b : Bool} {t : RS} {Q : Fl → Ro → AH → Prop}
/-- what one rule adds to the chart: the body of the loop over the rules -/
theorem ends_rule (hE : EndsAt row.length H₀ er H D G) (hrl : row.length ≤ 50) (hrow : H[rw_]? = some (.list (strsL row))) (hr : H[rr]? = some (.list (strsL r))) (hr4 : r.length ≤ 4) (hl : LeftOk l) (hf : f ≤ row.length)
    (k : ∀ (H' : AH) (D' : EDt) (G' : GT) (b' : Bool) (t' : RS), EndsAt row.length H₀ er H' D' G' → RuO row f l r b G b' G' → Q .next (rF q rw_ er (oI f) (oB b') t') H') :
    blF (mi theFn (N + 40)) Q bRule (rF q rw_ er (oI f) (oB b) { t with s5 := oS l, s6 := oR rr }) H := by
  refine ends_names (z := ⟨q, rw_, er, oI f, oB b, oS l, oR rr, t.s12, t.s13⟩) (s8 := t.s8) (s9 := t.s9) (s10 := t.s10) (s11 := t.s11) hE hrl hrow hr hr4 hf fun H₂ sp S s8 s9 s10 s11 I => ?_
  have hE₂ := hE.mv I.e
  have hSl : S.length ≤ 60 * 5 := Nat.le_trans I.l (Nat.le_trans (Nat.succ_le_succ (Nat.mul_le_mul (Nat.succ_le_succ hrl) hr4)) (by decide))
  have path := I.p
  rw [take_all (Nat.le_refl _)] at path
  refine Lk.mk hE₂.d <| mcT <| Lk.mk (hE₂.mv .app).d <| hE₂.setd (k := (l, f)) hrl hl hf I.g (Nat.ne_of_lt (Nat.lt_of_lt_of_le (lt_of_get hE.d) I.lo)) (fun r hr => Nat.ne_of_lt (Nat.lt_of_lt_of_le (lt_of_get (hE.val _ _ hr).1) I.lo)) fun H₃ D' kr hE₃ hkr hS₃ hne => ?_
  refine Lk.mk hS₃ <| ForW.mk (xs := intsL S) (σ := List Nat × Bool × Option AV) (fun s => rF q rw_ er (oI f) (oB s.2.1) ⟨oS l, oR rr, oR sp, s8, s9, s10, s11, s.2.2, oR kr⟩) (fun i s H' => RkI row.length H₀ er D' G (l, f) sp S b i s.1 s.2.1 H') (fun _ _ _ h => .lst h.sp) (fun i v s H' hv h => ?_) (fun s H' h => ?_) (s := (G (l, f), b, t.s12)) ⟨by rw [updC_same rfl]; exact hE₃, hS₃, .inl ⟨rfl, rfl⟩, fun _ h => nomatch h⟩
  · refine map_get hv fun j hj => ?_
    have hval := (h.e.val _ _ hkr).1
    have hKl := h.e.glen (l, f)
    rw [updC_self] at hval hKl
    refine okW.mk rfl <| Lk.mk hval <| in_ints <| br.not <| br.dec (fun hin => ?_) fun hout => ?_
    · exact AtI.mk (s := (s.1, s.2.1, oI j)) ⟨h.e, h.sp, h.gr, fun j' hj' => ((take_sub hj).mp hj').elim (h.m j') fun e => e ▸ hin⟩
    · have hadd := h.e.add hkr (by rw [updC_self]; exact hout) (I.b j (mem_of hj)).1 (I.b j (mem_of hj)).2
      rw [updC_self, updC_upd] at hadd
      refine Lk.mk hval <| Lk.mk hval <| Gd.mk (by rw [ints_len]; exact Nat.lt_of_le_of_lt hKl (lidL (Nat.succ_le_succ (Nat.le_trans hrl (by decide))))) <| AtI.mk (s := (s.1 ++ [j], true, oI j)) ⟨hadd, get_set h.sp hne, .inr ⟨rfl, ?_⟩, fun j' hj' => ?_⟩
      · rw [List.length_append]
        exact Nat.lt_succ_of_le (h.gr.elim (fun e => Nat.le_of_eq (congrArg _ e.2.symm)) fun e => Nat.le_of_lt e.2)
      · exact List.mem_append.mpr (((take_sub hj).mp hj').imp (h.m j') List.mem_singleton.mpr)
  · have m := h.m
    rw [ints_len, take_all (Nat.le_refl _)] at m
    refine k H' D' _ s.2.1 _ h.e ⟨fun k' hk' => updC_ne fun e => hk' (congrArg Prod.snd e), ?_, fun hG j hj => ?_⟩
    · exact h.gr.imp (fun e => ⟨e.1, updC_same e.2.symm⟩) fun e => ⟨e.1, muC_upd hl e.2⟩
    · have e := congrFun hG (l, f)
      rw [updC_self] at e
      exact e ▸ m j (path j hj)
end
end Mine.C
end
section
set_option autoImplicit false
set_option Elab.async false
set_option maxRecDepth 10000
namespace Mine.C
open PySem

structure WideOk (C : List (Nat × List Nat)) : Prop where
  left : ∀ p ∈ C, LeftOk p.1
  len : ∀ p ∈ C, p.2.length ≤ 4
abbrev ClAt (C : List (Nat × List Nat)) (row : List Nat) (G : GT) (i : Nat) : Prop := ∀ p ∈ C, ∀ j, PathC row G p.2 i j → j ∈ G (p.1, i)
/-- the chart from the row's end down -/
structure EnO (C : List (Nat × List Nat)) (row : List Nat) (H : AH) (idx : Nat) (D : EDt) (G : GT) (H' : AH) : Prop where
  e : EndsAt row.length H H.length H' D G
  c : ∀ i, row.length < i + idx → i ≤ row.length → ClAt C row G i
noncomputable def capC (n : Nat) : Nat := (n + 1 + (n + 1)) + (n + 1 + (n + 1))
/-- one place of the row, again and again -/
structure EnW (C : List (Nat × List Nat)) (row : List Nat) (H : AH) (G : GT) (f m : Nat) (b : Bool) (D : EDt) (G' : GT) (H' : AH) : Prop where
  e : EndsAt row.length H H.length H' D G'
  fr : ∀ k, k.2 ≠ f → G' k = G k
  cl : b = false → ClAt C row G' f
  m : 2 * capC row.length + b.toNat ≤ 2 * muC G' f + m
/-- once through the rules -/
structure EnR (C : List (Nat × List Nat)) (row : List Nat) (H : AH) (G' : GT) (f i : Nat) (b : Bool) (D : EDt) (G₂ : GT) (H' : AH) : Prop where
  e : EndsAt row.length H H.length H' D G₂
  fr : ∀ k, k.2 ≠ f → G₂ k = G' k
  gr : (b = true ∧ muC G' f < muC G₂ f) ∨ (b = false ∧ G₂ = G' ∧ ClAt (C.take i) row G' f)
section
variable {H : AH} {N q rw_ : Nat} {crs : List AV} {C : List (Nat × List Nat)} {row : List Nat} {K : AH → AV → Prop} {Q : Fl → Ro → AH → Prop}
theorem EnR.next {G' G₂ G₃ : GT} {f i : Nat} {b b₃ : Bool} {D D₃ : EDt} {H' H₃ : AH} {p : Nat × List Nat} (hp : C[i]? = some p) (h : EnR C row H G' f i b D G₂ H') (e : EndsAt row.length H H.length H₃ D₃ G₃) (o : RuO row f p.1 p.2 b G₂ b₃ G₃) : EnR C row H G' f (i + 1) b₃ D₃ G₃ H₃ := by
  refine ⟨e, fun k hk => (o.fr k hk).trans (h.fr k hk), ?_⟩
  rcases h.gr with ⟨h1, h2⟩ | ⟨h1, h2, h3⟩
  · rcases o.gr with ⟨g1, g2⟩ | ⟨g1, g2⟩
    · exact .inl ⟨g1.trans h1, g2 ▸ h2⟩
    · exact .inl ⟨g1, Nat.lt_trans h2 g2⟩
  · subst h2
    rcases o.gr with ⟨g1, g2⟩ | ⟨g1, g2⟩
    · exact .inr ⟨g1.trans h1, g2, fun p' hp' => ((take_sub hp).mp hp').elim (h3 p') fun e => e ▸ o.cl g2⟩
    · exact .inl ⟨g1, g2⟩
noncomputable def bWhile : MS := .whil (.loc 4) [.asg (.loc 4) (.cst (.bool false)), .for (.tup [5, 6]) (.loc 0) bRule]
theorem ends_while (hq : H[q]? = some (.list crs)) (hpl : PairsL H crs C) (hC : WideOk C) (hrow : H[rw_]? = some (.list (strsL row))) (hrl : row.length ≤ 50) {f : Nat} (hf : f ≤ row.length) {H₁ : AH} {D : EDt} {G : GT} (h₁ : EndsAt row.length H H.length H₁ D G) {t : RS}
    (k : ∀ (H' : AH) (D' : EDt) (G' : GT) (t : RS), EndsAt row.length H H.length H' D' G' → (∀ k, k.2 ≠ f → G' k = G k) → ClAt C row G' f → Q .next (rF q rw_ H.length (oI f) (oB false) t) H') :
    WhW (mi theFn (N + 50)) (.loc 4) [.asg (.loc 4) (.cst (.bool false)), .for (.tup [5, 6]) (.loc 0) bRule] Q (rF q rw_ H.length (oI f) (oB true) t) H₁ := by
  refine WhW.mk (σ := Bool × RS × EDt × GT) (fun s => rF q rw_ H.length (oI f) (oB s.1) s.2.1) (fun m s H' => EnW C row H G f m s.1 s.2.2.1 s.2.2.2 H') (fun m s H' h => br.any (fun hb => ?_) fun hb => ?_) (k := 2 * capC row.length + 1) (s := (true, t, D, G)) ⟨h₁, fun _ _ => rfl, nofun, Nat.le_add_left _ _⟩
  · have hm := h.m
    rw [hb] at hm
    refine Lk.mk (h.e.ext.get hq) <| ForW.mk (xs := crs) (σ := Bool × RS × EDt × GT) (fun u => rF q rw_ H.length (oI f) (oB u.1) u.2.1) (fun i u H' => EnR C row H s.2.2.2 f i u.1 u.2.2.1 u.2.2.2 H') (fun _ _ _ g => .lst (g.e.ext.get hq)) (fun i v u H' hv g => ?_) (fun u H' g => ?_) (s := (false, s.2.1, s.2.2.1, s.2.2.2)) ⟨h.e, fun _ _ => rfl, .inr ⟨rfl, rfl, fun _ h => nomatch h⟩⟩
    · refine PairsL.el hv hpl fun p r hp hr => ?_
      exact okW.mk rfl <| ends_rule (t := u.2.1) g.e hrl (g.e.ext.get hrow) (g.e.ext.get hr.1) (hC.len p (mem_of hp)) (hC.left p (mem_of hp)) hf fun H₃ D₃ G₃ b₃ t₃ e₃ o₃ => AtI.mk (s := (b₃, t₃, D₃, G₃)) (g.next hp e₃ o₃)
    · have hmu : muC s.2.2.2 f ≤ capC row.length := muC_le h.e.glen
      have hm : 2 * capC row.length + 1 ≤ 2 * muC s.2.2.2 f + m := hm
      refine LtI.mk (k' := m - 1) (s := u) (by lia) ⟨g.e, fun k hk => (g.fr k hk).trans (h.fr k hk), fun e => ?_, ?_⟩
      · rcases g.gr with ⟨g1, -⟩ | ⟨-, g2, g3⟩
        · exact absurd (g1.symm.trans e) nofun
        · rw [hpl.len, take_all (Nat.le_refl _)] at g3
          rw [g2]; exact g3
      · rcases g.gr with ⟨g1, g2⟩ | ⟨g1, g2, -⟩
        · rw [g1]; show 2 * capC row.length + 1 ≤ _; lia
        · rw [g1, g2]; show 2 * capC row.length ≤ _; lia
  · have := k H' s.2.2.1 s.2.2.2 s.2.1 h.e h.fr (h.cl hb)
    rw [← hb] at this
    exact this
theorem EnO.next {D D' : EDt} {G G' : GT} {H₁ H' : AH} {idx : Nat} (h : EnO C row H idx D G H₁) (e : EndsAt row.length H H.length H' D' G') (fr : ∀ k, k.2 ≠ row.length - idx → G' k = G k) (cl : ClAt C row G' (row.length - idx)) : EnO C row H (idx + 1) D' G' H' := by
  refine ⟨e, fun i h1 h2 => ?_⟩
  rcases Nat.lt_or_ge (row.length - idx) i with g | g
  · intro p hp j hj
    rw [fr (p.1, i) (Nat.ne_of_gt g)]
    exact h.c i (by lia) h2 p hp j (PathC.up (fun k j hj => (e.bd k j hj).1) (fun k hk => fr k (Nat.ne_of_gt hk)) g hj)
  · have e : i = row.length - idx := by lia
    rw [e]; exact cl
theorem rng_gd {n : Nat} (h : n ≤ 60) : -(lid : Int) < (n : Int) ∧ (n : Int) < lid ∧ -(lid : Int) < -1 ∧ (-1 : Int) < lid ∧ (-1 : Int) = -1 := by
  have e := lid_eq
  exact ⟨by lia, by lia, by lia, by lia, rfl⟩
theorem ends_ok (hq : H[q]? = some (.list crs)) (hpl : PairsL H crs C) (hC : WideOk C) (hrow : H[rw_]? = some (.list (strsL row))) (hrl : row.length ≤ 50)
    (k : ∀ (H' : AH) (er : Nat) (D : EDt) (G : GT), EndsAt row.length H er H' D G → ClosedC C row G → K H' (.ref er)) : Cw (mi theFn (N + 60)) (.fn 41) [.ref q, .ref rw_] H K := by
  have hl : (strsL row).length = row.length := List.length_map ..
  refine fnM theFn_41 <| Lk.mk (get_new hrow) <| Gd.mk (rng_gd (by rw [hl]; exact Nat.le_trans hrl (by decide))) <| ForW.mk (xs := intsL ((List.range ((strsL row).length + 1)).map fun i => (strsL row).length - i)) (σ := Option AV × Option AV × RS × EDt × GT) (fun s => rF q rw_ H.length s.1 s.2.1 s.2.2.1) (fun idx s H' => EnO C row H idx s.2.2.2.1 s.2.2.2.2 H') (fun _ _ _ _ => Src.down) (fun idx v s H' hv h => ?_) (fun s H' h => ?_) (s := (none, none, ⟨none, none, none, none, none, none, none, none, none⟩, [], fun _ => [])) ⟨⟨.app, Nat.le_refl _, look_new, .nil, (fun _ h => nomatch h), (fun _ _ h => nomatch h), (fun _ _ _ h => nomatch h), fun _ _ => rfl, fun _ => .nil, fun _ _ h => nomatch h⟩, fun i h1 h2 => absurd h1 (Nat.not_lt_of_le h2)⟩
  · refine map_get hv fun f hf => map_get hf fun i hi => ?_
    obtain ⟨rfl, hi⟩ := range_at hi
    rw [hl] at hi ⊢
    refine okW.mk rfl <| ends_while hq hpl hC hrow hrl (Nat.sub_le _ _) h.e fun H₂ D₂ G₂ t e fr cl => ?_
    exact AtI.mk (s := (oI (row.length - i : Nat), oB false, t, D₂, G₂)) (h.next e fr cl)
  · have hc := h.c
    rw [List.length_map, List.length_map, List.length_range, hl] at hc
    exact k H' H.length s.2.2.2.1 s.2.2.2.2 h.e fun p hp i j hi hj => hc i (Nat.lt_of_lt_of_le (Nat.lt_succ_self _) (Nat.le_add_left _ _)) hi p hp j hj
end
end Mine.C
end
section
set_option autoImplicit false
set_option Elab.async false
set_option maxRecDepth 10000
namespace Mine.C
open PySem

theorem derives_ok {H : AH} {N q rw_ x : Nat} {crs : List AV} {C : List (Nat × List Nat)} {row : List Nat} {K : AH → AV → Prop} (hq : H[q]? = some (.list crs)) (hpl : PairsL H crs C) (hC : WideOk C) (hrow : H[rw_]? = some (.list (strsL row))) (hrl : row.length ≤ 50) (hd : Der C [x] row)
    (k : ∀ H' : AH, Ext H H' → K H' (.bool true)) : Cw (mi theFn (N + 70)) (.fn 42) [.ref q, .str x, .ref rw_] H K := by
  refine fnM theFn_42 <| Lk.mk (get_new hrow) <| Lk.mk look_new <| eq_strs (ys := [x]) <| br.dec (fun _ => k _ .app) fun hne => Lk.mk (get_new hrow) <| ends_ok (get_new hq) (hpl.extP Ext.app.toP) hC (get_new hrow) hrl fun H' er D G hE hcl => ?_
  have hin := hd.chart hcl hne
  cases hk : lk D (x, 0) with
  | none => rw [hE.non _ hk] at hin; cases hin
  | some r =>
    refine Lk.mk hE.d <| getT (k := (x, 0)) atNS_inj rfl (refM_lk hk) <| Lk.mk (hE.val _ _ hk).1 <| in_ints ?_
    rw [List.length_map, decide_eq_true hin]
    exact k H' (Ext.app.trans hE.ext)

/-! ## Names and numbers -/
structure LawOk (pairs : List (Nat × List Nat)) (ts : List Nat) (d : GD) (N : List Bool) (F : List Nat) : Prop where
  hp : PairsOk pairs
  names : d.names = namesOf ts
  t : TsOk pairs pairs.length ts
  tc : d.tc = 3 + ts.length
  R : d.R = RN d.names pairs
  hd : GOk d
  hN : NulOk d N
  hF : FirstsOk d N F
  p0 : ∃ r, pairs[0]? = some (9, r) ∧ 1 ≤ r.length
noncomputable def nm (d : GD) (i : Nat) : Nat := (d.names[i]?).getD 0
section
variable {pairs : List (Nat × List Nat)} {ts : List Nat} {d : GD} {N : List Bool} {F : List Nat} {x i : Nat} {p : Nat × List Nat}
theorem LawOk.nmf (h : LawOk pairs ts d N F) : NmF ts d.names := h.names ▸ h.t.nm
theorem idx_lt (hx : x ∈ d.names) : d.names.idxOf x < d.names.length := List.idxOf_lt_length_iff.mpr hx
theorem at_idx (hx : x ∈ d.names) : d.names[d.names.idxOf x]? = some x := by rw [List.getElem?_eq_getElem (idx_lt hx), List.getElem_idxOf]
theorem nm_idx (hx : x ∈ d.names) : nm d (d.names.idxOf x) = x := by unfold nm; rw [at_idx hx]; rfl
theorem get_nm (hi : i < d.names.length) : d.names[i]? = some (nm d i) := by unfold nm; rw [List.getElem?_eq_getElem hi]; rfl
theorem idx_nm (h : LawOk pairs ts d N F) (hi : i < d.names.length) : d.names.idxOf (nm d i) = i := by
  have nd : d.names.Nodup := by
    rw [h.names]
    rcases h.t.el with e | e | e | e | e <;> rw [e] <;> decide
  exact nodup_get nd (at_idx (mem_of (get_nm hi))) (get_nm hi)
theorem rc_sym (h : LawOk pairs ts d N F) (hp : p ∈ RC pairs) (hx : x ∈ p.2) : x ∈ ts ∨ x = 9 ∨ x = 10 ∨ x = 3 := by
  rcases List.mem_cons.mp hp with rfl | hp
  · exact (List.mem_cons.mp hx).elim (fun e => .inr (.inl e)) fun e => .inr (.inr (.inr (List.mem_singleton.mp e)))
  · exact (h.t.all p (by rw [take_all (Nat.le_refl _)]; exact hp) x hx).imp_right fun e => e.imp_right .inl
theorem rc_mem (h : LawOk pairs ts d N F) (hp : p ∈ RC pairs) (hx : x ∈ p.2) : x ∈ d.names :=
  h.nmf.mem x ((rc_sym h hp hx).imp_right fun e => e.imp_right fun e => e.imp_right .inl)
theorem rc_left (h : PairsOk pairs) (hp : p ∈ RC pairs) : p.1 = 6 ∨ p.1 = 9 ∨ p.1 = 10 := (List.mem_cons.mp hp).imp (fun e => congrArg Prod.fst e) (h.left p)
theorem mem_hd3 (h : LawOk pairs ts d N F) (hx : x = 6 ∨ x = 9 ∨ x = 10) : x ∈ d.names :=
  h.nmf.mem x (.inr (hx.elim (fun e => .inr (.inr (.inr e))) fun e => e.imp_right .inl))
theorem rn_mem (h : LawOk pairs ts d N F) (hp : p ∈ RC pairs) : (d.names.idxOf p.1, p.2.map d.names.idxOf) ∈ d.R := by
  have : (d.names.idxOf p.1, p.2.map d.names.idxOf) ∈ RN d.names pairs := List.mem_map.mpr ⟨p, hp, rfl⟩
  rw [h.R]; exact this
theorem der_names (h : LawOk pairs ts d N F) {a b : List Nat} (hD : Der d.R a b) : Der (RC pairs) (a.map (nm d)) (b.map (nm d)) := by
  refine hD.mapR fun p hp => ?_
  rw [h.R] at hp
  obtain ⟨q, hq, rfl⟩ := List.mem_map.mp hp
  have e : (q.2.map d.names.idxOf).map (nm d) = q.2 := List.map_map.trans ((List.map_congr_left fun x hx => nm_idx (rc_mem h hq hx)).trans (List.map_id _))
  show (nm d (d.names.idxOf q.1), (q.2.map d.names.idxOf).map (nm d)) ∈ RC pairs
  rw [nm_idx (mem_hd3 h (rc_left h.hp hq)), e]
  exact hq
abbrev ZP (d : GD) (N : List Bool) (z : Nat) : Prop := NulP N (d.names.idxOf z)
theorem first_num (h : LawOk pairs ts d N F) {t : Nat} (hf : FirstR (RC pairs) (ZP d N) x t) : FirstR d.R (NulP N) (d.names.idxOf x) (d.names.idxOf t) := by
  induction hf with
  | refl t => exact .refl _
  | step hm hp _ ih =>
    have := rn_mem h hm
    rw [List.map_append, List.map_cons] at this
    exact .step this (fun z hz => let ⟨y, hy, e⟩ := List.mem_map.mp hz; e ▸ hp y hy) ih
theorem zp_closed (h : LawOk pairs ts d N F) : ∀ p ∈ pairs, (∀ x ∈ p.2, ZP d N x) → ZP d N p.1 := fun p hp hz =>
  h.hN.closed _ (rn_mem h (.tail _ hp)) fun _ hy => let ⟨x, hx, e⟩ := List.mem_map.mp hy; e ▸ hz x hx
theorem first_ts (h : LawOk pairs ts d N F) {Z : Nat → Prop} {y : Nat} (hf : FirstR (RC pairs) Z x y) : y = 3 ∨ y = 7 ∨ y = 8 → y = x ∨ y = 3 ∨ y ∈ ts := by
  induction hf with
  | refl t => exact fun _ => .inl rfl
  | step hm _ _ ih =>
    intro h3
    rcases ih h3 with rfl | e
    · refine .inr ((rc_sym h hm (List.mem_append_right _ (.head _))).elim .inr fun e => .inl ?_)
      rcases e with rfl | rfl | e
      · exact absurd h3 (by decide)
      · exact absurd h3 (by decide)
      · exact e
    · exact .inr e
theorem idx_tc (h : LawOk pairs ts d N F) (hx : x = 3 ∨ x ∈ ts) : d.names.idxOf x < d.tc := by
  have hm : x ∈ [3, 4, 5] ++ ts := hx.elim (fun e => e ▸ .head _) (List.mem_append_right _)
  have := List.idxOf_lt_length_iff.mpr hm
  rw [List.length_append] at this
  rw [h.names, h.tc]
  unfold namesOf
  rw [List.idxOf_append, if_pos hm]
  exact this
end
/-- the names of a row's symbols -/
noncomputable def nmV (d : GD) (v : AV) : AV := match v with
  | .int i => .str (nm d i.toNat)
  | _ => .none
theorem names_comp {H : AH} {a : GA} {d : GD} {n : Nat} {K : AH → AV → Prop} (hg : GramAt H a d) {it : It} {xs : List Nat} (hs : ∀ ys, Src (H ++ [.list ys]) it (intsL xs)) (hl : xs.length ≤ 60) (hx : ∀ x ∈ xs, x < d.names.length) {ρ : Ro} (hρ : getR ρ 5 = oR a.g)
    (k : K (H ++ [.list (strsL (xs.map (nm d)))]) (.ref H.length)) : CpW (mi theFn (n + 10)) (.sub (.attr (.loc 7) 7) (.loc 1)) [1] true [] H.length K it (none :: none :: ρ) (H ++ [.list []]) := by
  refine comp_map (nmV d) hs (by rw [ints_len]; exact hl) (fun v hv ys F hF => ?_) ?_
  · obtain ⟨i, hi, rfl⟩ := List.mem_map.mp hv
    have hg' := hg.ext (Ext.app (X := [.list ys]))
    exact okW.mk hρ <| Lk.mk hg'.g.1 <| Lk.mk hg'.nm.1 <| okW.mk (strs_at (get_nm (hx i hi))) hF
  · have e : (intsL xs).map (nmV d) = strsL (xs.map (nm d)) := by
      rw [intsL, strsL, List.map_map, List.map_map]; rfl
    rw [e]; exact k
end Mine.C
end
section
set_option autoImplicit false
set_option Elab.async false
set_option maxRecDepth 10000
namespace Mine.C
open PySem

theorem Der.mono {R R' : List (Nat × List Nat)} {a b : List Nat} (h : Der R a b) (hs : ∀ p ∈ R, p ∈ R') : Der R' a b := by
  induction h with
  | nil => exact .nil
  | keep _ ih => exact .keep ih
  | rule hm _ _ ih1 ih2 => exact .rule (hs _ hm) ih1 ih2
theorem PairsL.snoc {H : AH} {prs : List AV} {pairs : List (Nat × List Nat)} (h : PairsL H prs pairs) {r l : Nat} {ys : List Nat} (hr : At H r (.list (strsL ys))) : PairsL H (prs ++ [.tup [.str l, .ref r]]) (pairs ++ [(l, ys)]) := by
  refine ⟨by rw [List.length_append, List.length_append, h.len]; rfl, fun k p hk => ?_⟩
  rcases Nat.lt_or_ge k pairs.length with g | g
  · rw [List.getElem?_append_left g] at hk
    exact let ⟨h1, h2⟩ := h.at_ k p hk; ⟨get_new' h1, h2⟩
  · rw [List.getElem?_append_right g] at hk
    cases hj : k - pairs.length with
    | zero =>
      rw [hj] at hk
      cases hk
      exact ⟨by rw [List.getElem?_append_right (h.len ▸ g), h.len, hj]; rfl, hr⟩
    | succ j => rw [hj] at hk; cases hk
theorem rc_wide {pairs : List (Nat × List Nat)} (h : PairsOk pairs) : WideOk (RC pairs) :=
  ⟨fun _ hp => (rc_left h hp).imp_right fun e => e.imp_right .inl, fun p hp => (List.mem_cons.mp hp).elim (fun e => by rw [e]; decide) fun hp => Nat.le_succ_of_le (h.len p hp)⟩
section
variable {H : AH} {K : AH → AV → Prop} {n i j : Nat} {row : List Nat}
theorem sliO_eq {xs ys : List AV} {l u : Option Int} (h : H[n]? = some (.list xs)) (e : cutL xs l u = ys) (k : K (H ++ [.list ys]) (.ref H.length)) : Lk H n (sliO l u H K) := .mk h (by subst e; exact k)
theorem cut_both : cutL (intsL row) (some (i : Int)) (some (j : Int)) = intsL ((row.take j).drop i) := (congrArg (List.drop i) List.map_take.symm).trans List.map_drop.symm
theorem cut_from : cutL (intsL row) (some (i : Int)) none = intsL (row.drop i) := List.map_drop.symm
theorem cut_to : cutL (intsL row) none (some (j : Int)) = intsL (row.take j) := List.map_take.symm
theorem cuts_join (h : i ≤ j) : [row.take i, (row.take j).drop i, row.drop j].flatten = row := by
  have h1 := List.take_append_drop i (row.take j)
  rw [List.take_take, Nat.min_eq_left h] at h1
  show row.take i ++ ((row.take j).drop i ++ (row.drop j ++ [])) = row
  rw [List.append_nil, ← List.append_assoc, h1, List.take_append_drop]
end
section
variable {pairs : List (Nat × List Nat)} {ts : List Nat} {d : GD} {N : List Bool} {F : List Nat} {H : AH} {a : GA} {fi qc rw_ ct t n : Nat} {crs : List AV} {row : List Nat} {K : AH → AV → Prop}
noncomputable def rSF (fi qc rw_ ct t g : Nat) (s6 s7 s8 : Option AV) (shown : List Nat) : Ro := [oR fi, oR qc, oR rw_, oR ct, oI t, oR g, s6, s7, s8, oT (intsL shown), none, none]
theorem suffixFits_2 (h : LawOk pairs ts d N F) (hH2 : 2 ≤ H.length) (hg : GramAt H a d) (hqc : H[qc]? = some (.list crs)) (hpc : PairsL H crs (RC pairs)) (hrow : H[rw_]? = some (.list (intsL row))) (hrl : row.length ≤ 4) (hrn : ∀ x ∈ row, x < d.names.length) (ht : t < d.tc)
    {shown : List Nat} {s6 s7 s8 : Option AV} (hsn : ∀ x ∈ shown, x < d.names.length) (hsl : shown.length ≤ 44) (hder : Der d.R row (t :: shown)) (k : ∀ H' : AH, Ext H H' → K H' (.bool true)) :
    blF (mi theFn (n + 90)) (outK K) (b44.drop 5) (rSF fi qc rw_ ct t a.g s6 s7 s8 shown) H := by
  refine Lk.mk hrow <| names_comp hg (fun ys => .lst (get_new hrow)) (Nat.le_trans hrl (by decide)) hrn rfl ?_
  have hcl : crs.length ≤ 5 := by
    rw [hpc.len]; exact Nat.succ_le_succ h.hp.n4
  refine Lk.mk (get_new (get_new hqc)) <| Lk.mk look_new <| Gd.mk (lidE (Nat.le_trans (Nat.succ_le_succ hcl) (by decide))) ?_
  have e₁ : Ext H (H ++ [AO.list (strsL (row.map (nm d)))] ++ [AO.list [AV.tup [AV.str 11, AV.ref H.length]]] ++ [AO.list (crs ++ [AV.tup [AV.str 11, AV.ref H.length]])]) := Ext.refl.new.new.new
  have hw : (H ++ [AO.list (strsL (row.map (nm d)))] ++ [AO.list [AV.tup [AV.str 11, AV.ref H.length]]] ++ [AO.list (crs ++ [AV.tup [AV.str 11, AV.ref H.length]])])[(H ++ [AO.list (strsL (row.map (nm d)))] ++ [AO.list [AV.tup [AV.str 11, AV.ref H.length]]]).length]? = some (.list (crs ++ [AV.tup [AV.str 11, AV.ref H.length]])) := look_new
  have hr : At (H ++ [AO.list (strsL (row.map (nm d)))] ++ [AO.list [AV.tup [AV.str 11, AV.ref H.length]]] ++ [AO.list (crs ++ [AV.tup [AV.str 11, AV.ref H.length]])]) H.length (.list (strsL (row.map (nm d)))) := ⟨get_new (get_new look_new), Nat.ne_of_gt hH2⟩
  have hg₁ := hg.ext e₁
  refine Lk.mk hg₁.g.1 <| Lk.mk hg₁.nm.1 <| okW.mk (strs_at (get_nm (Nat.lt_trans ht h.hd.tcn))) <| names_comp (xs := shown) (hg₁.ext .app) (fun ys => .tup) (Nat.le_trans hsl (by decide)) hsn rfl ?_
  refine Lk.mk (get_new look_new) <| Lk.mk look_new <| Gd.mk (lidE ?_) ?_
  · show 1 + (strsL (shown.map (nm d))).length ≤ 60
    rw [List.length_map, List.length_map]; exact Nat.add_le_add_left (Nat.le_trans hsl (by decide : 44 ≤ 59)) 1
  have e₂ := (Ext.refl.new.new.new : Ext (H ++ [AO.list (strsL (row.map (nm d)))] ++ [AO.list [AV.tup [AV.str 11, AV.ref H.length]]] ++ [AO.list (crs ++ [AV.tup [AV.str 11, AV.ref H.length]])]) (_ ++ [AO.list [AV.str (nm d t)]] ++ [AO.list (strsL (shown.map (nm d)))] ++ [AO.list ([AV.str (nm d t)] ++ strsL (shown.map (nm d)))]))
  have hdn := der_names h hder
  refine derives_ok (row := nm d t :: shown.map (nm d)) (e₂.get hw) (((hpc.extP e₁.toP).snoc hr).extP e₂.toP) ⟨fun p hp => mem_snoc hp ((rc_wide h.hp).left p) fun e => e ▸ .inr (.inr (.inr rfl)), fun p hp => mem_snoc hp ((rc_wide h.hp).len p) fun e => by rw [e]; exact Nat.le_trans (Nat.le_of_eq (List.length_map ..)) hrl⟩ look_new ?_ (Der.one (List.mem_append_right _ (.head _)) (hdn.mono fun p hp => List.mem_append_left _ hp)) fun H' e' => k H' ((e₁.trans e₂).trans e')
  show (shown.map (nm d)).length + 1 ≤ 50
  rw [List.length_map]; exact Nat.succ_le_succ (Nat.le_trans hsl (by decide))
end
end Mine.C
end
section
set_option autoImplicit false
set_option Elab.async false
set_option maxRecDepth 10000
namespace Mine.C
open PySem

section
variable {pairs : List (Nat × List Nat)} {ts : List Nat} {d : GD} {N : List Bool} {F : List Nat} {H : AH} {a : GA} {fi qc rw_ ct t n c0 c1 : Nat} {crs : List AV} {row : List Nat} {K : AH → AV → Prop}
theorem rule1 (h : LawOk pairs ts d N F) : ∃ p o, d.R[1]? = some p ∧ 1 ≤ p.2.length ∧ d.offs[1]? = some o := by
  obtain ⟨r, hr, hl⟩ := h.p0
  have hp : d.R[1]? = some (d.names.idxOf 9, r.map d.names.idxOf) := by
    rw [h.R]; exact get_map (l := RC pairs) (i := 1) hr
  obtain ⟨o, ho⟩ := get_ex (l := d.offs) (h.hd.on.symm ▸ lt_of_get hp)
  exact ⟨_, o, hp, Nat.le_trans hl (Nat.le_of_eq (List.length_map ..).symm), ho⟩
theorem suffixFits_ok (h : LawOk pairs ts d N F) (hH2 : 2 ≤ H.length) (hg : GramAt H a d) (hfi : FinderAt H fi a d N F) (hqc : H[qc]? = some (.list crs)) (hpc : PairsL H crs (RC pairs)) (hrow : H[rw_]? = some (.list (intsL row))) (hrl : row.length ≤ 4) (hrn : ∀ x ∈ row, x < d.names.length)
    (hct : H[ct]? = some (.list (intsL [c0, c1]))) (hc01 : c0 ≤ c1) (hc1 : c1 ≤ row.length) (ht : t < d.tc) {k₀ y₀ : Nat} (hk : row[k₀]? = some y₀) (hz : ∀ z ∈ row.take k₀, NulP N z) (hfr : FirstR d.R (NulP N) y₀ t)
    (k : ∀ H' : AH, Ext H H' → K H' (.bool true)) : Cw (mi theFn (n + 100)) (.fn 44) [.ref fi, .ref qc, .ref rw_, .ref ct, .int t] H K := by
  have hd := h.hd
  obtain ⟨p, o, hp, hpl1, ho⟩ := rule1 h
  obtain ⟨hi, -, -⟩ := id hfi
  have hi := hi.1
  obtain ⟨hr1, hr2⟩ := hg.rule 1 p hp
  have hr2 := hr2.1
  have hI : ItemAt d (o + (intsL p.2).length) 1 o p := by
    rw [ints_len]; exact ⟨hd.o1 1 p o hp ho _ (Nat.le_refl _), ho, hp, Nat.le_add_right _ _, Nat.le_refl _⟩
  have l1 : c1 < lid := lidL (Nat.le_trans hc1 (Nat.le_trans hrl (by decide)))
  have l0 : c0 < lid := Nat.lt_of_le_of_lt hc01 l1
  refine fnM theFn_44 <| Lk.mk hi <| Lk.mk hct <| Lk.mk hct <| Gd.mk l0 <| Gd.mk l1 <| sliO_eq hrow cut_both <| Lk.mk look_new <| Lk.mk (get_new hct) <| Gd.mk l1 <| sliO_eq (get_new hrow) cut_from <| Lk.mk look_new ?_
  have e₃ : Ext H (H ++ [AO.list (intsL ((row.take c1).drop c0))] ++ [AO.list (intsL (row.drop c1))] ++ [AO.list [.tup (intsL ((row.take c1).drop c0)), .tup (intsL (row.drop c1))]]) := Ext.refl.new.new.new
  have hg₃ := hg.ext e₃
  refine Lk.mk hg₃.g.1 <| Lk.mk hg₃.g.1 <| Lk.mk hg₃.rl.1 <| okW.mk (refs_at hr1) <| Lk.mk (e₃.get hr2) <| item_ok (k := 1) hg₃ ho ?_
  refine Lk.mk (e₃.get hct) <| Gd.mk l0 <| sliO_eq (e₃.get hrow) cut_to <| Lk.mk look_new <| Lk.mk look_new <| Lk.mk (get_new (get_new look_new)) <| Gd.mk (lidE (n := 3) (by decide)) <| clsM rfl <| fnM theFn_32 <| saNew rfl rfl <| saNew rfl rfl ?_
  have e₇ : ∀ {o₁ o₂ o₃ o₄ : AO}, Ext H (H ++ [AO.list (intsL ((row.take c1).drop c0))] ++ [AO.list (intsL (row.drop c1))] ++ [AO.list [.tup (intsL ((row.take c1).drop c0)), .tup (intsL (row.drop c1))]] ++ [o₁] ++ [o₂] ++ [o₃] ++ [o₄]) := e₃.new.new.new.new
  refine Lk.mk (e₇.get hi) ?_
  show Cw (mi theFn (n + 98)) (.fn 35) (.ref fi :: _) _ _
  refine suffix_ok (rs := [row.take c0, (row.take c1).drop c0, row.drop c1]) (hg.ext e₇) hd h.hN h.hF (hfi.ext e₇) ht hI (by rw [ints_len]) hpl1 look_new (get_new look_new) (cuts_join hc01) (Nat.le_trans hrl (by decide)) hrn hk hz hfr fun H₈ shown e₈ hsn hsl hder => ?_
  have e := e₇.trans e₈
  exact asg_loc (ρ' := rSF fi qc rw_ ct t a.g _ _ _ shown) (by rfl) <| suffixFits_2 h (Nat.le_trans hH2 e.len) (hg.ext e) (e.get hqc) (hpc.extP e.toP) (e.get hrow) hrl hrn ht hsn hsl hder fun H' e' => k H' (e.trans e')
end
end Mine.C
end
section
set_option autoImplicit false
set_option Elab.async false
set_option maxRecDepth 10000
namespace Mine.C
open PySem

/-- the dict of heads, the pen apart -/
structure Hd2 (H : AH) (P : HdP) (L : Nat → List Nat) : Prop where
  d : At H P.dr (dicS (hdM P))
  l : ∀ x, Hd3 x → At H (hdR P x) (.list (strsL (L x)))
theorem Hd2.extP {H H' : AH} {P : HdP} {L : Nat → List Nat} (h : Hd2 H P L) (e : ExtP H H') : Hd2 H' P L := ⟨h.d.extP e, fun x hx => (h.l x hx).extP e⟩
set_option genSizeOf false in
set_option genInjectivity false in
structure LD where
  pairs : List (Nat × List Nat)
  ts : List Nat
  d : GD
  N : List Bool
  F : List Nat
  a : GA
  (fi qc : Nat)
  crs : List AV
  er : Nat
  E : List Nat
  P : HdP
  L : Nat → List Nat
structure LawCx (z : LD) (H : AH) : Prop where
  ok : LawOk z.pairs z.ts z.d z.N z.F
  h2 : 2 ≤ H.length
  g : GramAt H z.a z.d
  f : FinderAt H z.fi z.a z.d z.N z.F
  c : At H z.qc (.list z.crs)
  pc : PairsL H z.crs (RC z.pairs)
  e : At H z.er (.list (strsL z.E))
  ez : ∀ x ∈ z.E, ZP z.d z.N x
  hd : Hd2 H z.P z.L
  lok : ∀ x, Hd3 x → ∀ y ∈ z.L x, FirstR (RC z.pairs) (ZP z.d z.N) x y ∧ (y = 3 ∨ y = 7 ∨ y = 8)
  ll : ∀ x, Hd3 x → (z.L x).length ≤ 3
theorem LawCx.extP {z : LD} {H H' : AH} (h : LawCx z H) (e : ExtP H H') : LawCx z H' :=
  ⟨h.ok, Nat.le_trans h.h2 e.len, h.g.extP e, h.f.extP e, h.c.extP e, h.pc.extP e, h.e.extP e, h.ez, h.hd.extP e, h.lok, h.ll⟩
theorem LawCx.ext {z : LD} {H H' : AH} (h : LawCx z H) (e : Ext H H') : LawCx z H' := h.extP e.toP

inductive PcA (H H' : AH) (prs : List AV) (k : Nat) (p : Nat × List Nat) : Prop
  | mk {r : Nat} (h1 : prs[k]? = some (.tup [.str p.1, .ref r])) (h2 : H'[r]? = some (.list (strsL p.2))) (h3 : H.length < r)
structure PcI (H : AH) (pairs : List (Nat × List Nat)) (i : Nat) (prs : List AV) (H' : AH) : Prop where
  e : Ext H H'
  g : H'[H.length]? = some (.list prs)
  n : prs.length = i
  at_ : ∀ k p, k < i → pairs[k]? = some p → PcA H H' prs k p
/-- the copies of the pairs -/
theorem pairs_comp {H : AH} {n q : Nat} {prs : List AV} {pairs : List (Nat × List Nat)} {K : AH → AV → Prop} (h2 : 2 ≤ H.length) (hq : H[q]? = some (.list prs)) (hpl : PairsL H prs pairs) (hok : PairsOk pairs) {ρ : Ro}
    (k : ∀ (H' : AH) (prs' : List AV), Ext H H' → At H' H.length (.list prs') → PairsL H' prs' pairs → K H' (.ref H.length)) :
    CpW (mi theFn (n + 10)) (.tup [.loc 1, .call (.cst (.bi (.list))) [.loc 2]]) [1, 2] false [] H.length K (.lst q) (none :: none :: none :: ρ) (H ++ [.list []]) := by
  refine CpW.mk (σ := Option AV × Option AV × List AV) (fun s => none :: s.1 :: s.2.1 :: ρ) (fun i s H' => PcI H pairs i s.2.2 H') (fun _ _ _ h => .lst (h.e.get hq)) (fun i x s H' hx h => ?_) (fun s H' h => ?_) (s := (none, none, [])) ⟨.app, look_new, rfl, fun _ _ h => absurd h (Nat.not_lt_zero _)⟩
  · have hi := lt_of_get hx
    rw [hpl.len] at hi
    refine PairsL.el hx hpl fun p r hp hr => ?_
    have hl := lt_of_get h.g
    refine okW.mk (a := none :: oS p.1 :: oR r :: ρ) rfl <| Lk.mk (h.e.get hr.1) <| Lk.mk (get_new h.g) <| Gd.mk (by rw [h.n]; exact lidL (Nat.le_trans (Nat.le_of_lt hi) (Nat.le_trans hok.n4 (by decide)))) <| AtI.mk (r := fun s => none :: s.1 :: s.2.1 :: ρ) (s := (oS p.1, oR r, s.2.2 ++ [.tup [.str p.1, .ref H'.length]])) ⟨h.e.new.set (Nat.le_refl _), get_set_self (get_new h.g), by rw [List.length_append, h.n]; rfl, fun k p' hk hp' => ?_⟩
    rcases Nat.lt_or_ge k i with g | g
    · obtain ⟨g1, g2, g3⟩ := h.at_ k p' g hp'
      exact ⟨get_new' g1, get_set (get_new g2) (Nat.ne_of_lt g3), g3⟩
    · cases Nat.le_antisymm (Nat.le_of_lt_succ hk) g
      cases hp.symm.trans hp'
      exact ⟨by rw [List.getElem?_append_right (Nat.le_of_eq h.n), h.n, Nat.sub_self]; rfl, get_set look_new (Nat.ne_of_lt hl), hl⟩
  · refine k H' s.2.2 h.e ⟨h.g, Nat.ne_of_gt h2⟩ ⟨h.n.trans hpl.len, fun k p hp => ?_⟩
    obtain ⟨g1, g2, g3⟩ := h.at_ k p (hpl.len.symm ▸ lt_of_get hp) hp
    exact ⟨g1, g2, Nat.ne_of_gt (Nat.lt_of_le_of_lt (Nat.le_trans (by decide) h2) g3)⟩
/-- the law's slots -/
noncomputable def rL (ns : List Int) (q : Nat) (z : LD) (u4 u9 u10 u11 u12 u13 u14 u15 u16 : Option AV) : Ro := [some (.fl ns), oR 1, oR q, oR z.qc, u4, oR z.a.g, oR z.fi, oR z.er, oR z.P.dr, u9, u10, u11, u12, u13, u14, u15, u16]
theorem rc_chart {pairs : List (Nat × List Nat)} (h : PairsOk pairs) : ChartOk (RC pairs) := by
  refine ⟨Nat.succ_le_succ (Nat.le_succ_of_le h.n4), fun p hp => rc_left h hp, fun p hp => ?_, fun p hp x hx => ?_⟩
  · exact (List.mem_cons.mp hp).elim (fun e => by rw [e]; decide) (h.len p)
  · rcases List.mem_cons.mp hp with rfl | hp
    · exact (List.mem_cons.mp hx).elim (fun e => .inr (.inr (.inr (.inl e)))) fun e => .inl (List.mem_singleton.mp e)
    · exact .inr (h.sym p hp x hx)
theorem law_start {ns : List Int} {n : Nat} {K : AH → AV → Prop} (hl : ns.length ≤ 63)
    (k : ∀ (z : LD) (H : AH) (q : Nat) (u4 : Option AV), LawCx z H → PenAt H 30 → blF (mi theFn (n + 179)) (outK K) (b45.drop 7) (rL ns q z u4 none none none none none none none none) H) : Cw (mi theFn (n + 181)) (.fn 45) [.fl ns] [] K := by
  refine fnM theFn_45 <| pen_ok rfl hl fun H₁ l₁ p₁ => pairs_ok (Nat.le_of_eq l₁.symm) p₁ fun H₂ q prs pairs e₂ p₂ hq₂ hpl₂ hok hp0 => ?_
  have l₂ : 2 ≤ H₂.length := Nat.le_trans (Nat.le_of_eq l₁.symm) e₂.len
  have hpn : prs.length ≤ 4 := hpl₂.len ▸ hok.n4
  refine Lk.mk look_new <| Lk.mk (get_new (get_new hq₂.1)) <| Gd.mk (lidE (Nat.le_trans (Nat.add_le_add_left hpn 1) (by decide))) ?_
  have e₅ : Ext H₂ (H₂ ++ [AO.list [AV.str 9, AV.str 3]] ++ [AO.list [AV.tup [AV.str 6, AV.ref H₂.length]]] ++ [AO.list ([AV.tup [AV.str 6, AV.ref H₂.length]] ++ prs)]) := Ext.refl.new.new.new
  have hpl₅ := hpl₂.extP e₅.toP
  have hpc₅ : PairsL (H₂ ++ [AO.list [AV.str 9, AV.str 3]] ++ [AO.list [AV.tup [AV.str 6, AV.ref H₂.length]]] ++ [AO.list ([AV.tup [AV.str 6, AV.ref H₂.length]] ++ prs)]) ([AV.tup [AV.str 6, AV.ref H₂.length]] ++ prs) (RC pairs) := by
    refine ⟨congrArg Nat.succ hpl₂.len, fun k p hk => ?_⟩
    cases k with
    | zero => cases hk; exact ⟨rfl, get_new (get_new look_new), Nat.ne_of_gt l₂⟩
    | succ k => exact let ⟨h1, h2⟩ := hpl₅.at_ k p hk; ⟨h1, h2⟩
  have hq₅ := hq₂.ext e₅
  have l₅ := Nat.le_trans l₂ e₅.len
  refine Lk.mk hq₅.1 <| pairs_comp l₅ hq₅.1 hpl₅ hok fun H₆ prs' e₆ hq₆ hpl₆ => plain_ok (Nat.le_trans l₅ e₆.len) hq₆ hpl₆ hok fun H₇ a d ts e₇ hnames ht htc hdR hg₇ hgok => ?_
  have e57 := e₆.trans e₇
  have l₇ := Nat.le_trans l₅ e57.len
  have hR0 : 0 < d.R.length := by
    rw [hdR]; unfold RN; rw [List.length_map]; exact Nat.succ_pos _
  refine build_ok hg₇ hgok hR0 l₇ fun H₈ u st e₈ hu₈ => finderInit_ok (hg₇.ext e₈) hgok (Nat.le_trans l₇ e₈.len) hu₈.1 fun H₉ fi N F e₉ hN hF hfi => ?_
  have e59 := (e57.trans e₈).trans e₉
  have l₉ := Nat.le_trans l₅ e59.len
  have hLaw : LawOk pairs ts d N F := ⟨hok, hnames, ht, htc, hdR, hgok, hN, hF, hp0⟩
  refine empty_ok (e59.get hq₅.1) (hpl₅.extP e59.toP) hok (zp_closed hLaw) fun Ha E hE => ?_
  have e5a := e59.trans hE.e
  have la := Nat.le_trans l₉ hE.e.len
  refine heads_ok (e5a.get look_new) (hpc₅.extP e5a.toP) (rc_chart hok) (Z := ZP d N) hE.g (fun x hx => (hE.z x hx).1) fun Hb P L b hdr hH => asg_loc (ρ' := rL ns q ⟨pairs, ts, d, N, F, a, fi, (H₂ ++ [AO.list [AV.str 9, AV.str 3]] ++ [AO.list [AV.tup [AV.str 6, AV.ref H₂.length]]]).length, [AV.tup [AV.str 6, AV.ref H₂.length]] ++ prs, H₉.length, E, P, L⟩ none none none none none none none none none) (by rfl) ?_
  have e9b := hE.e.trans hH.ext
  have e5b := e59.trans e9b
  have n1 : ∀ {i}, 2 ≤ i → i ≠ 1 := Nat.ne_of_gt
  refine k _ Hb q none ⟨hLaw, Nat.le_trans l₉ e9b.len, ((hg₇.ext e₈).ext e₉).ext e9b, hfi.ext e9b, ⟨e5b.get look_new, n1 (Nat.le_trans l₂ (Ext.refl.new.new).len)⟩, hpc₅.extP e5b.toP, ⟨hH.ext.get hE.g, n1 l₉⟩, fun x hx => (hE.z x hx).1, ⟨⟨hH.d, n1 (Nat.le_trans la hdr)⟩, fun x hx => ⟨hH.l x hx, n1 (Nat.le_trans la (hdR_lo b hx))⟩⟩, hH.ok, fun x hx => hH.len hx⟩ (p₂.ext (e₅.trans e5b))
end Mine.C
end
section
set_option autoImplicit false
set_option Elab.async false
set_option maxRecDepth 10000
namespace Mine.C
open PySem

theorem nxtT {X : Ro → AH → Prop} {Q : Fl → Ro → AH → Prop} {ρ : Ro} {H : AH} (h : X ρ H) : thenK X Q .next ρ H := h
section
variable {z : LD} {H : AH} {n q : Nat} {ns : List Int} {u4 u9 u10 u13 : Option AV} {Q : Fl → Ro → AH → Prop}
/-- one name that may stand first, shown to do so -/
theorem law_1b (hz : LawCx z H) {x y : Nat} (hx : Hd3 x) (hy : y ∈ z.L x) (k : ∀ (H' : AH) (u10 : Option AV), Ext H H' → Q .next (rL ns q z (oS x) (oS y) u10 none none none none none none) H') :
    blF (mi theFn (n + 170)) Q [.asg (.loc 10) (.mcall (.loc 6) 45 [.mcall (.loc 5) 0 [.loc 4], .mcall (.loc 5) 0 [.loc 9]]), .ifs (.not (.call (.cst (.fn 42)) [.loc 3, .loc 4, .bin (.Add) (.lst [.loc 9]) (.comp 2 (.sub (.attr (.loc 7) 7) (.loc 1)) [1] true (.loc 10) [])])) [.ret (some (.cst (.bool false)))] []] (rL ns q z (oS x) (oS y) u10 none none none none none none) H := by
  obtain ⟨hi, -, -⟩ := hz.f
  obtain ⟨hyf, hy3⟩ := hz.lok x hx y hy
  have hxn := mem_hd3 hz.ok hx
  have hyt : y = 3 ∨ y ∈ z.ts := (first_ts hz.ok hyf hy3).resolve_left fun e => by
    subst e
    rcases hx with rfl | rfl | rfl <;> exact absurd hy3 (by decide)
  have hyn : y ∈ z.d.names := hz.ok.nmf.mem y (hyt.elim (fun e => .inr (.inr (.inr (.inl e)))) .inl)
  refine Lk.mk hi.1 <| Lk.mk hz.g.g.1 <| number_ok hz.g hxn <| Lk.mk hz.g.g.1 <| number_ok hz.g hyn <| opened_ok hz.g hz.ok.hd hz.ok.hN hz.ok.hF hz.f (idx_lt hxn) (idx_tc hz.ok hyt) (first_num hz.ok hyf) fun H₂ row e₂ hrn hrl hder => ?_
  have hz₂ := hz.ext e₂
  refine names_comp (xs := row) (hz₂.g.ext .app) (fun ys => .tup) (Nat.le_trans hrl (by decide)) hrn rfl <| Lk.mk (get_new look_new) <| Lk.mk look_new <| Gd.mk (lidE ?_) ?_
  · show 1 + (strsL (row.map (nm z.d))).length ≤ 60
    rw [List.length_map, List.length_map]; exact Nat.add_le_add_left (Nat.le_trans hrl (by decide : 24 ≤ 59)) 1
  have hdn := der_names hz.ok hder
  rw [List.map_cons, List.map_cons, nm_idx hxn, nm_idx hyn] at hdn
  have e₅ : Ext H₂ (H₂ ++ [AO.list [AV.str y]] ++ [AO.list (strsL (row.map (nm z.d)))] ++ [AO.list ([AV.str y] ++ strsL (row.map (nm z.d)))]) := Ext.refl.new.new.new
  have hz₅ := hz₂.ext e₅
  refine derives_ok (row := y :: row.map (nm z.d)) hz₅.c.1 hz₅.pc (rc_wide hz.ok.hp) look_new ?_ hdn fun H₆ e₆ => k H₆ _ ((e₂.trans e₅).trans e₆)
  show (row.map (nm z.d)).length + 1 ≤ 50
  rw [List.length_map]; exact Nat.succ_le_succ (Nat.le_trans hrl (by decide))
theorem law_1 (hz : LawCx z H) (k : ∀ (H' : AH) (u4 u9 u10 : Option AV), Ext H H' → blF (mi theFn (n + 179)) Q (b45.drop 8) (rL ns q z u4 u9 u10 none none none none none none) H') :
    blF (mi theFn (n + 179)) Q (b45.drop 7) (rL ns q z u4 none none none none none none none none) H := by
  refine ForW.mk (xs := strsL [9, 10]) (σ := Option AV × Option AV × Option AV) (fun s => rL ns q z s.1 s.2.1 s.2.2 none none none none none none) (fun _ _ H' => Ext H H') (fun _ _ _ _ => .tup) (fun i v s H' hv e => ?_) (fun s H' e => nxtT (k H' s.1 s.2.1 s.2.2 e)) (s := (u4, none, none)) .refl
  refine map_get hv fun x hx => ?_
  have hx3 : Hd3 x := .inr ((List.mem_cons.mp (mem_of hx)).imp_right List.mem_singleton.mp)
  have hz' := hz.ext e
  refine okW.mk rfl <| Lk.mk hz'.hd.d.1 <| getG atomS_inj rfl (hd_lk hx3) <| Lk.mk (hz'.hd.l x hx3).1 <| ForW.mk (xs := strsL (z.L x)) (σ := Option AV × Option AV) (fun t => rL ns q z (oS x) t.1 t.2 none none none none none none) (fun _ _ H₂ => Ext H H₂) (fun _ _ H₂ e => .lst ((hz.ext e).hd.l x hx3).1) (fun j w t H₂ hw e => ?_) (fun t H₂ e => AtI.mk (s := (oS x, t.1, t.2)) e) (s := (s.2.1, s.2.2)) e
  refine map_get hw fun y hy => ?_
  exact okW.mk rfl <| law_1b (hz.ext e) hx3 (mem_of hy) fun H₃ u10 e₃ => AtI.mk (s := (oS y, u10)) (e.trans e₃)
end
end Mine.C
end
section
set_option autoImplicit false
set_option Elab.async false
set_option maxRecDepth 10000
namespace Mine.C
open PySem

theorem Der.term {d : GD} (hd : GOk d) {t : Nat} (ht : t < d.tc) {ws : List Nat} (h : Der d.R [t] ws) : ws = [t] := by
  generalize he : [t] = e at h
  cases h with
  | nil => rfl
  | keep h =>
    cases he
    generalize he : ([] : List Nat) = e at h
    cases h with
    | nil => rfl
    | keep _ => cases he
    | rule _ _ _ => cases he
  | rule hm _ _ => cases he; exact absurd ht (Nat.not_lt_of_le (hd.left _ hm).1)
noncomputable def termsOf (d : GD) : List Nat := List.range' 3 (d.tc - 3)
theorem rng_up : ∀ (m a : Nat), (rngItems (a : Int) 1 m).map AV.int = intsL (List.range' a m)
  | 0, _ => rfl
  | m + 1, a => congrArg (AV.int a :: ·) (rng_up m (a + 1))
theorem rng_size {c : Nat} : rngSize 3 c 1 = c - 3 := by
  show (if (1 : Int) = 1 then ((c : Int) - 3).toNat else _) = _
  rw [if_pos rfl]; lia
theorem terms_lt {d : GD} {t : Nat} (h : t ∈ termsOf d) : t < d.tc := by
  obtain ⟨i, hi, rfl⟩ := List.mem_range'.mp h
  lia
theorem terms_len {d : GD} (hd : GOk d) : (termsOf d).length ≤ 8 := by
  unfold termsOf
  rw [List.length_range']
  exact Nat.le_trans (Nat.sub_le _ _) (Nat.le_trans (Nat.le_of_lt hd.tcn) hd.n8)
theorem gdNew {H : AH} {K : AH → AV → Prop} {c : Prop} {xs ys : List AV} (h : c) (e : xs = ys) (k : K (H ++ [.list ys]) (.ref H.length)) : Gd c (newL H K xs) := ⟨h, by subst e; exact k⟩
section
variable {z : LD} {H : AH} {n q tt : Nat} {ns : List Int} {u4 u9 u10 : Option AV} {Q : Fl → Ro → AH → Prop}
theorem law_2a (hz : LawCx z H) (k : ∀ H' : AH, Ext H H' → At H' H.length (.list (intsL (termsOf z.d))) → blF (mi theFn (n + 179)) Q (b45.drop 9) (rL ns q z u4 u9 u10 none (oR H.length) none none none none) H') :
    blF (mi theFn (n + 179)) Q (b45.drop 8) (rL ns q z u4 u9 u10 none none none none none none) H := by
  have hd := hz.ok.hd
  have ht : z.d.tc ≤ 60 := Nat.le_trans (Nat.le_of_lt hd.tcn) (Nat.le_trans hd.n8 (by decide))
  refine Lk.mk hz.g.g.1 <| Gd.mk ⟨lidL (n := 3) (by decide), lidL ht⟩ <| gdNew (ys := intsL (termsOf z.d)) ?_ ?_ <| asg_loc (ρ' := rL ns q z u4 u9 u10 none (oR H.length) none none none none) (by rfl) <| k _ .app ⟨look_new, Nat.ne_of_gt hz.h2⟩
  · show rngSize 3 z.d.tc 1 ≤ lid
    rw [rng_size]; exact lidE (Nat.le_trans (Nat.sub_le _ _) ht)
  · show (rngItems 3 1 (rngSize 3 z.d.tc 1)).map AV.int = _
    rw [rng_size]; exact rng_up _ 3
structure NoI (H H' : AH) : Prop where
  e : Ext H H'
  g : H'[H.length]? = some (.list [])
theorem law_2b (hz : LawCx z H) (htt : At H tt (.list (intsL (termsOf z.d)))) {r : List MS} (k : ∀ H' : AH, Ext H H' → blF (mi theFn (n + 179)) Q r (rL ns q z u4 u9 u10 none (oR tt) none none none none) H') :
    blF (mi theFn (n + 179)) Q (.ifs (.cmp (.NotEq) (.comp 2 (.loc 1) [1] true (.loc 12) [.cmp (.NotEq) (.mcall (.loc 8) 45 [.loc 1, .loc 1]) (.tup [])]) (.lst [])) [.ret (some (.cst (.bool false)))] [] :: r) (rL ns q z u4 u9 u10 none (oR tt) none none none none) H := by
  refine Lk.mk htt.1 <| CpW.mk (xs := intsL (termsOf z.d)) (σ := Option AV) (fun u => none :: u :: rL ns q z u4 u9 u10 none (oR tt) none none none none) (fun _ _ H' => NoI H H') (fun _ _ _ h => .lst (h.e.get htt.1)) (fun i v u H' hv h => ?_) (fun u H' h => ?_) (s := none) ⟨.app, look_new⟩
  · refine map_get hv fun t ht => ?_
    have htc := terms_lt (mem_of ht)
    have hz' := hz.ext h.e
    obtain ⟨hi, -, -⟩ := hz'.f
    refine okW.mk (a := none :: oI t :: rL ns q z u4 u9 u10 none (oR tt) none none none none) rfl <| Lk.mk hi.1 <| opened_ok hz'.g hz.ok.hd hz.ok.hN hz.ok.hF hz'.f (Nat.lt_trans htc hz.ok.hd.tcn) htc (.refl t) fun H₂ row e₂ hrn hrl hder => ?_
    cases (List.cons.inj (hder.term hz.ok.hd htc)).2
    exact AtI.mk (r := fun u => none :: u :: rL ns q z u4 u9 u10 none (oR tt) none none none none) (s := oI t) ⟨h.e.trans e₂, e₂.get h.g⟩
  · exact Lk.mk (get_new h.g) <| Lk.mk look_new <| k _ (h.e.trans .app)
end
end Mine.C
end
section
set_option autoImplicit false
set_option Elab.async false
set_option maxRecDepth 10000
namespace Mine.C
open PySem

structure SyOk (d : GD) (S : List Nat) : Prop where
  n2 : 2 ≤ S.length
  n10 : S.length ≤ 10
  lt : ∀ x ∈ S, x < d.names.length
structure RoI (H : AH) (d : GD) (i : Nat) (xs : List Nat) (H' : AH) : Prop where
  pen : PenAt H' (31 + i)
  e : ExtP H H'
  n : xs.length = i
  ok : ∀ x ∈ xs, x < d.names.length
  g : H'[H.length]? = some (.list (intsL xs))
theorem asg_new {W : MI} {i : Nat} {ρ ρ' : Ro} {H : AH} {Q : Fl → Ro → AH → Prop} {r : List MS} (e : setR ρ i (.ref H.length) = some ρ') (h : blF W Q r ρ' (H ++ [.list []])) : blF W Q (.asg (.loc i) (.lst []) :: r) ρ H := okW.mk e h
theorem sort_two (x y : Nat) : ∃ c0 c1 : Nat, sortN [x, y] = [c0, c1] ∧ c0 ≤ c1 ∧ (∀ b, x ≤ b → y ≤ b → c1 ≤ b) := by
  show ∃ c0 c1 : Nat, (if x ≤ y then [x, y] else [y, x]) = [c0, c1] ∧ _
  by_cases h : x ≤ y
  · rw [if_pos h]; exact ⟨x, y, rfl, h, fun b _ h => h⟩
  · rw [if_neg h]; exact ⟨y, x, rfl, Nat.le_of_not_le h, fun b h _ => h⟩
section
variable {z : LD} {H : AH} {n q tt sy rw_ : Nat} {ns : List Int} {u4 u9 u10 u13 : Option AV} {Q : Fl → Ro → AH → Prop}
theorem law_3a (hz : LawCx z H) (htt : At H tt (.list (intsL (termsOf z.d)))) (k : ∀ (H' : AH) (sy : Nat) (S : List Nat), Ext H H' → At H' sy (.list (intsL S)) → SyOk z.d S → blF (mi theFn (n + 179)) Q (b45.drop 11) (rL ns q z u4 u9 u10 none (oR tt) (oR sy) none none none) H') :
    blF (mi theFn (n + 179)) Q (b45.drop 10) (rL ns q z u4 u9 u10 none (oR tt) none none none none) H := by
  have hd := hz.ok.hd
  have m9 := mem_hd3 hz.ok (x := 9) (.inr (.inl rfl))
  have m10 := mem_hd3 hz.ok (x := 10) (.inr (.inr rfl))
  have hl := terms_len hd
  refine Lk.mk hz.g.g.1 <| number_ok hz.g m9 <| Lk.mk hz.g.g.1 <| number_ok hz.g m10 <| Lk.mk (get_new htt.1) <| Lk.mk look_new <| Gd.mk (by rw [ints_len]; exact lidE (Nat.le_trans (Nat.add_le_add_right hl 2) (by decide))) <| asg_loc (ρ' := rL ns q z u4 u9 u10 none (oR tt) (oR _) none none none) (by rfl) <| k _ _ (termsOf z.d ++ [z.d.names.idxOf 9, z.d.names.idxOf 10]) Ext.refl.new.new ⟨look_new.trans (congrArg _ (congrArg _ (ints_app (ys := [_, _])))), Nat.ne_of_gt (Nat.lt_of_lt_of_le hz.h2 (Ext.refl.new).len)⟩ ⟨?_, ?_, fun x hx => ?_⟩
  · rw [List.length_append]; exact Nat.le_add_left 2 _
  · rw [List.length_append]; exact Nat.add_le_add_right hl 2
  · rcases List.mem_append.mp hx with g | g
    · exact Nat.lt_trans (terms_lt g) hd.tcn
    · rcases List.mem_cons.mp g with rfl | g
      · exact idx_lt m9
      · exact List.mem_singleton.mp g ▸ idx_lt m10
theorem law_3b {S : List Nat} (h2 : 2 ≤ H.length) (hp : PenAt H 30) (hs : At H sy (.list (intsL S))) (ho : SyOk z.d S) (k : ∀ (H' : AH) (rw_ : Nat) (row : List Nat), ExtP H H' → PenAt H' 40 → At H' rw_ (.list (intsL row)) → row.length ≤ 4 → (∀ x ∈ row, x < z.d.names.length) → blF (mi theFn (n + 179)) Q (b45.drop 12) (rL ns q z u4 u9 (oR rw_) none (oR tt) (oR sy) none none none) H') :
    blF (mi theFn (n + 179)) Q (b45.drop 11) (rL ns q z u4 u9 u10 none (oR tt) (oR sy) none none none) H := by
  refine draw_ok (m := 4) hp (by decide) (by decide) (by decide) fun H₂ y hy p₂ e₂ l₂ => Gd.mk (lidL (n := 1 + y) (Nat.le_trans (Nat.add_le_add_left (Nat.le_of_lt hy) 1) (by decide))) ?_
  have l2 : 2 ≤ H₂.length := l₂ ▸ h2
  have n1 : H₂.length ≠ 1 := Nat.ne_of_gt l2
  refine CpW.mk (xs := intsL (List.range (1 + y))) (σ := Option AV × List Nat) (fun s => none :: s.1 :: rL ns q z u4 u9 u10 none (oR tt) (oR sy) none none none) (fun i s H' => RoI H₂ z.d i s.2 H') (fun _ _ _ _ => Src.up) (fun i v s H' hv h => ?_) (fun s H' h => ?_) (s := (none, [])) ⟨p₂.ext .app, Ext.app.toP, rfl, fun _ h => (nomatch h), look_new⟩
  · refine map_get hv fun x hx => ?_
    obtain ⟨rfl, hi⟩ := range_at hx
    have hx4 : x ≤ 4 := Nat.le_of_lt (Nat.lt_of_lt_of_le hi (Nat.add_le_add_left (Nat.le_of_lt_succ hy) 1))
    have hs' := hs.extP (e₂.trans h.e)
    refine okW.mk (a := none :: oI x :: rL ns q z u4 u9 u10 none (oR tt) (oR sy) none none none) rfl <| Lk.mk hs'.1 <| draw_ok (m := (intsL S).length) h.pen (Nat.le_trans (Nat.add_le_add_left hx4 31) (by decide)) (by rw [ints_len]; exact Nat.lt_of_lt_of_le (by decide) ho.n2) (by rw [ints_len]; exact Nat.lt_of_le_of_lt ho.n10 (by decide)) fun H₃ j hj p₃ e₃ l₃ => ?_
    rw [ints_len] at hj
    obtain ⟨w, hw⟩ := get_ex hj
    have g₃ := e₃.get h.g n1
    exact Lk.mk (hs'.extP e₃).1 <| okW.mk (ints_at hw) <| Lk.mk g₃ <| Gd.mk (by rw [ints_len, h.n]; exact lidL (Nat.le_trans hx4 (by decide))) <| AtI.mk (r := fun s => none :: s.1 :: rL ns q z u4 u9 u10 none (oR tt) (oR sy) none none none) (s := (oI x, s.2 ++ [w])) ⟨p₃.mv (fun o ho => get_set ho n1) (Nat.le_refl _), (h.e.trans e₃).set (Nat.le_refl _), by rw [List.length_append, h.n]; rfl, fun x hx => mem_snoc hx (h.ok x) fun e => e ▸ ho.lt w (mem_of hw), (get_set_self g₃).trans (congrArg _ (congrArg _ (ints_app (ys := [w]))))⟩
  · have hn := h.n
    have hp := h.pen
    rw [ints_len, List.length_range] at hn hp
    exact asg_loc (ρ' := rL ns q z u4 u9 (oR H₂.length) none (oR tt) (oR sy) none none none) (by rfl) <| k H' H₂.length s.2 (e₂.trans h.e) (hp.mv (fun _ => id) (by lia)) ⟨h.g, n1⟩ (by lia) h.ok
/-- what the law's second half has -/
structure LawR (z : LD) (H : AH) (rw_ ct c0 c1 : Nat) (row : List Nat) (H' : AH) : Prop where
  e : ExtP H H'
  r : H'[rw_]? = some (.list (intsL row))
  c : H'[ct]? = some (.list (intsL [c0, c1]))
  rl : row.length ≤ 4
  rn : ∀ x ∈ row, x < z.d.names.length
  c01 : c0 ≤ c1
  c1 : c1 ≤ row.length
theorem law_3c {row : List Nat} {H₀ : AH} (e₀ : ExtP H₀ H) (hp : PenAt H 40) (hr : At H rw_ (.list (intsL row))) (hrl : row.length ≤ 4) (hrn : ∀ x ∈ row, x < z.d.names.length) (k : ∀ (H' : AH) (ct c0 c1 fr : Nat), LawR z H₀ rw_ ct c0 c1 row H' → H'[fr]? = some (.list []) → rw_ < fr → ct < fr → H₀.length ≤ fr → blF (mi theFn (n + 179)) Q (b45.drop 14) (rL ns q z u4 u9 (oR rw_) none (oR tt) u13 (oR ct) (oR fr) none) H') :
    blF (mi theFn (n + 179)) Q (b45.drop 12) (rL ns q z u4 u9 (oR rw_) none (oR tt) u13 none none none) H := by
  have hm : (intsL row).length ≤ 4 := by rw [ints_len]; exact hrl
  have hm' : (intsL row).length + 1 < 1000 := Nat.lt_of_le_of_lt (Nat.succ_le_succ hm) (by decide)
  refine Lk.mk hr.1 <| draw_ok (m := (intsL row).length + 1) hp (by decide) (Nat.succ_pos _) hm' fun H₅ x hx p₅ e₅ l₅ => Lk.mk (hr.extP e₅).1 <| draw_ok (m := (intsL row).length + 1) p₅ (by decide) (Nat.succ_pos _) hm' fun H₆ y hy p₆ e₆ l₆ => Lk.mk look_new <| sort_ints (r := [x, y]) (show 2 < 64 by decide) ?_
  obtain ⟨c0, c1, hc, hc01, hcb⟩ := sort_two x y
  rw [hc]
  have e6 := (e₀.trans e₅).trans e₆
  have hr₆ := ((hr.extP e₅).extP e₆).1
  rw [ints_len] at hx hy
  refine asg_loc (ρ' := rL ns q z u4 u9 (oR rw_) none (oR tt) u13 (oR _) none none) (by rfl) <| asg_new (ρ' := rL ns q z u4 u9 (oR rw_) none (oR tt) u13 (oR _) (oR _) none) (by rfl) <| k _ _ c0 c1 _ ⟨e6.trans Ext.refl.new.new.new.toP, get_new (get_new (get_new hr₆)), get_new look_new, hrl, hrn, hc01, hcb _ (Nat.le_of_lt_succ hx) (Nat.le_of_lt_succ hy)⟩ look_new (Nat.lt_trans (lt_of_get hr₆) (Nat.lt_trans lt_new lt_new)) lt_new (Nat.le_trans e6.len Ext.refl.new.new.len)
end
end Mine.C
end
section
set_option autoImplicit false
set_option Elab.async false
set_option maxRecDepth 10000
namespace Mine.C
open PySem

/-- a name with which a word of the row may begin -/
inductive Fst (z : LD) (row : List Nat) (y : Nat) : Prop
  | mk {k x : Nat} (h1 : row[k]? = some x) (h2 : ∀ w ∈ row.take k, NulP z.N w) (h3 : FirstR z.d.R (NulP z.N) x (z.d.names.idxOf y))
structure FsB (z : LD) (H : AH) (rw_ ct c0 c1 : Nat) (row : List Nat) (fr i : Nat) (fs : List Nat) (H' : AH) : Prop extends LawR z H rw_ ct c0 c1 row H' where
  f : H'[fr]? = some (.list (strsL fs))
  o : ∀ y ∈ fs, Fst z row y
  l : fs.length ≤ 3 * i
structure FsI (z : LD) (H : AH) (rw_ ct c0 c1 : Nat) (row : List Nat) (fr i : Nat) (fs : List Nat) (H' : AH) : Prop extends FsB z H rw_ ct c0 c1 row fr i fs H' where
  nl : ∀ x ∈ row.take i, NulP z.N x
theorem brkT {X Y : Ro → AH → Prop} {Q : Fl → Ro → AH → Prop} {ρ : Ro} {H : AH} (h : Y ρ H) : aftK X (thenK Y Q) .brk ρ H := h
section
variable {z : LD} {H : AH} {n q tt rw_ ct c0 c1 fr i : Nat} {row fs : List Nat} {ns : List Int} {u4 u9 u11 u13 : Option AV} {Q : Fl → Ro → AH → Prop}
theorem law_4g {x : Nat} {H' : AH} (hz : LawCx z H) (hfr : H.length ≤ fr) (hx : row[i]? = some x) (hxn : x < z.d.names.length) (h : FsI z H rw_ ct c0 c1 row fr i fs H') :
    ∃ g gs, (lk (hdM z.P) (nm z.d x)).getD (.ref H'.length) = .ref g ∧ (H' ++ [AO.list [AV.str (nm z.d x)]])[g]? = some (.list (strsL gs)) ∧ fr ≠ g ∧ gs.length ≤ 3 ∧ ∀ y ∈ gs, Fst z row y := by
  by_cases hx3 : Hd3 (nm z.d x)
  · have hl := (hz.hd.l _ hx3).1
    refine ⟨hdR z.P (nm z.d x), z.L (nm z.d x), by rw [hd_lk hx3]; rfl, get_new ((hz.hd.l _ hx3).extP h.e).1, Nat.ne_of_gt (Nat.lt_of_lt_of_le (lt_of_get hl) hfr), hz.ll _ hx3, fun y hy => .mk hx h.nl ?_⟩
    have := first_num hz.ok (hz.lok _ hx3 y hy).1
    rw [idx_nm hz.ok hxn] at this
    exact this
  · refine ⟨H'.length, [nm z.d x], by rw [hd_none hx3]; rfl, look_new, Nat.ne_of_lt (lt_of_get h.f), (show 1 ≤ 3 by decide), fun y hy => .mk hx h.nl ?_⟩
    rw [List.mem_singleton.mp hy, idx_nm hz.ok hxn]
    exact .refl _
theorem law_4s {x : Nat} {H' : AH} (hz : LawCx z H) (hfr : H.length ≤ fr) (n1 : rw_ < fr) (n2 : ct < fr) (hx : row[i]? = some x) (h : FsI z H rw_ ct c0 c1 row fr i fs H')
    (k1 : ∀ (H₂ : AH) (fs' : List Nat), FsI z H rw_ ct c0 c1 row fr (i + 1) fs' H₂ → Q .next (rL ns q z u4 u9 (oR rw_) (oI x) (oR tt) u13 (oR ct) (oR fr) none) H₂)
    (k2 : ∀ (H₂ : AH) (fs' : List Nat), FsB z H rw_ ct c0 c1 row fr (i + 1) fs' H₂ → Q .brk (rL ns q z u4 u9 (oR rw_) (oI x) (oR tt) u13 (oR ct) (oR fr) none) H₂) :
    blF (mi theFn (n + 170)) Q [.expr (.mcall (.loc 15) 48 [.mcall (.loc 8) 50 [.sub (.attr (.loc 5) 7) (.loc 11), .lst [.sub (.attr (.loc 5) 7) (.loc 11)]]]), .ifs (.cmp (.NotIn) (.sub (.attr (.loc 5) 7) (.loc 11)) (.loc 7)) [.brk] []] (rL ns q z u4 u9 (oR rw_) (oI x) (oR tt) u13 (oR ct) (oR fr) none) H' := by
  have hxn := h.rn x (mem_of hx)
  have hz' := hz.extP h.e
  have hi := lt_of_get hx
  obtain ⟨g, gs, hv, hg, hgf, hgl, hgo⟩ := law_4g hz hfr hx hxn h
  refine Lk.mk h.f <| Lk.mk hz'.hd.d.1 <| Lk.mk hz'.g.g.1 <| Lk.mk hz'.g.nm.1 <| okW.mk (strs_at (get_nm hxn)) <| Lk.mk hz'.g.g.1 <| Lk.mk hz'.g.nm.1 <| okW.mk (strs_at (get_nm hxn)) <| Lk.mk (get_new hz'.hd.d.1) <| dgetG atomS_inj rfl ?_
  rw [hv]
  have hf₃ := (get_set_self (o := AO.list (strsL fs ++ strsL gs)) (get_new (o' := AO.list [AV.str (nm z.d x)]) h.f)).trans (congrArg _ (congrArg _ strs_app))
  have e₃ : ExtP H ((H' ++ [AO.list [AV.str (nm z.d x)]]).set fr (AO.list (strsL fs ++ strsL gs))) := (h.e.trans Ext.app.toP).set hfr
  have hz₃ := hz.extP e₃
  have hB : FsB z H rw_ ct c0 c1 row fr (i + 1) (fs ++ gs) ((H' ++ [AO.list [AV.str (nm z.d x)]]).set fr (AO.list (strsL fs ++ strsL gs))) := ⟨⟨e₃, get_set (get_new h.r) (Nat.ne_of_gt n1), get_set (get_new h.c) (Nat.ne_of_gt n2), h.rl, h.rn, h.c01, h.c1⟩, hf₃, fun y hy => (List.mem_append.mp hy).elim (h.o y) (hgo y), by rw [List.length_append]; exact Nat.add_le_add h.l hgl⟩
  refine Lk.mk (get_new h.f) <| Lk.mk hg <| Gd.mk ⟨?_, hgf⟩ <| Lk.mk hz₃.g.g.1 <| Lk.mk hz₃.g.nm.1 <| okW.mk (strs_at (get_nm hxn)) <| Lk.mk hz₃.e.1 <| in_strs <| br.not <| br.dec (fun hin => k1 _ _ ⟨hB, fun w hw => ((take_sub hx).mp hw).elim (h.nl w) fun e => ?_⟩) fun _ => k2 _ _ hB
  · rw [List.length_map, List.length_map]
    exact lidE (Nat.le_trans (Nat.add_le_add (Nat.le_trans h.l (Nat.mul_le_mul_left 3 (Nat.le_trans (Nat.le_of_lt hi) h.rl))) hgl) (by decide))
  · have := hz.ez _ hin
    unfold ZP at this
    rw [idx_nm hz.ok hxn] at this
    exact e ▸ this
theorem law_4 {H₁ : AH} (hz : LawCx z H) (hR : LawR z H rw_ ct c0 c1 row H₁) (hf : H₁[fr]? = some (.list [])) (n1 : rw_ < fr) (n2 : ct < fr) (hfr : H.length ≤ fr) (k : ∀ (H' : AH) (u11 : Option AV) (fs : List Nat), FsB z H rw_ ct c0 c1 row fr row.length fs H' → blF (mi theFn (n + 179)) Q (b45.drop 15) (rL ns q z u4 u9 (oR rw_) u11 (oR tt) u13 (oR ct) (oR fr) none) H') :
    blF (mi theFn (n + 179)) Q (b45.drop 14) (rL ns q z u4 u9 (oR rw_) none (oR tt) u13 (oR ct) (oR fr) none) H₁ := by
  refine Lk.mk hR.r <| ForW.mk (xs := intsL row) (σ := Option AV × List Nat) (fun s => rL ns q z u4 u9 (oR rw_) s.1 (oR tt) u13 (oR ct) (oR fr) none) (fun i s H' => FsI z H rw_ ct c0 c1 row fr i s.2 H') (fun _ _ _ h => .lst h.r) (fun i v s H' hv h => ?_) (fun s H' h => ?_) (s := (none, [])) ⟨⟨hR, hf, fun _ h => (nomatch h), Nat.le_refl _⟩, fun _ h => nomatch h⟩
  · refine map_get hv fun x hx => ?_
    exact okW.mk rfl <| law_4s hz hfr n1 n2 hx h (fun H₂ fs' h' => AtI.mk (s := (oI x, fs')) h') fun H₂ fs' h' => brkT (k H₂ _ fs' { h' with l := Nat.le_trans h'.l (Nat.mul_le_mul_left 3 (lt_of_get hx)) })
  · have h' := h.toFsB
    rw [ints_len] at h'
    exact nxtT (k H' _ s.2 h')
theorem law_5 {H₁ : AH} (hz : LawCx z H) (h : FsB z H rw_ ct c0 c1 row fr i fs H₁) (htt : At H tt (.list (intsL (termsOf z.d)))) {K : AH → AV → Prop} (k : ∀ H' : AH, K H' (.bool true)) :
    blF (mi theFn (n + 179)) (outK K) (b45.drop 15) (rL ns q z u4 u9 (oR rw_) u11 (oR tt) u13 (oR ct) (oR fr) none) H₁ := by
  have htt₁ := htt.extP h.e
  refine Lk.mk htt₁.1 <| ForW.mk (xs := intsL (termsOf z.d)) (σ := Option AV) (fun s => rL ns q z u4 u9 (oR rw_) u11 (oR tt) u13 (oR ct) (oR fr) s) (fun _ _ H' => Ext H₁ H') (fun _ _ _ e => .lst (e.get htt₁.1)) (fun i v s H' hv e => ?_) (fun s H' _ => k H') (s := none) .refl
  refine map_get hv fun t ht => ?_
  have htc := terms_lt (mem_of ht)
  have htn := Nat.lt_trans htc hz.ok.hd.tcn
  have hz' := hz.extP (h.e.trans e.toP)
  refine okW.mk rfl <| Lk.mk hz'.g.g.1 <| Lk.mk hz'.g.nm.1 <| okW.mk (strs_at (get_nm htn)) <| Lk.mk (e.get h.f) <| in_strs <| br.dec (fun hin => ?_) fun _ => AtI.mk (s := oI t) e
  obtain ⟨g1, g2, g3⟩ := h.o _ hin
  rw [idx_nm hz.ok htn] at g3
  exact suffixFits_ok hz.ok hz'.h2 hz'.g hz'.f hz'.c.1 hz'.pc (e.get h.r) h.rl h.rn (e.get h.c) h.c01 h.c1 htc g1 g2 g3 fun H₂ e₂ => AtI.mk (s := oI t) (e.trans e₂)
end
theorem law_cw {ns : List Int} (hl : ns.length ≤ 63) : Cw (mi theFn (19 + 181)) (.fn 45) [.fl ns] [] fun _ v => v = .bool true :=
  law_start hl fun z H q u4 hz hp => law_1 hz fun H₁ u4 u9 u10 e₁ => law_2a (hz.ext e₁) fun H₂ e₂ htt => law_2b (r := b45.drop 10) ((hz.ext e₁).ext e₂) htt fun H₃ e₃ =>
    have hz₃ := ((hz.ext e₁).ext e₂).ext e₃
    law_3a hz₃ (htt.ext e₃) fun H₄ sy S e₄ hs ho =>
      have e := ((e₁.trans e₂).trans e₃).trans e₄
      law_3b (hz₃.ext e₄).h2 (hp.ext e) hs ho fun H₅ rw_ row e₅ p₅ hr hrl hrn => law_3c (e₄.toP.trans e₅) p₅ hr hrl hrn fun H₆ ct c0 c1 fr hR hf n1 n2 hfr =>
        law_4 hz₃ hR hf n1 n2 hfr fun H₇ u11 fs h => law_5 hz₃ h (htt.ext e₃) fun _ => rfl
theorem law_mi {ns : List Int} (hl : ns.length ≤ 63) : (mi theFn 200).call (.fn 45) [.fl ns] [] fun _ v => v = .bool true := (law_cw hl).k
end Mine.C
end
section
set_option autoImplicit false
set_option Elab.async false
namespace Mine
open PySem PySem.Calls PyProof.Rows

/-! ## The relation between the small heap and the model's -/

abbrev Phi := List (Addr × Option Addr)
noncomputable def adrs (φ : Phi) : List Addr := φ.flatMap fun p => p.1 :: p.2.toList

noncomputable def fnAddrs : List Addr := [68, 84, 103, 110, 117, 131, 138, 145, 152, 159, 166, 180, 186, 191, 198, 205, 212, 219, 233, 268, 275, 282, 289, 303, 310, 317, 331, 387, 394, 401, 408, 422, 436, 457, 500, 507, 529, 536, 541, 548, 553, 558, 565, 572, 577, 582]
noncomputable def clsAddrs : List Addr := [87, 169, 250, 292, 369, 411, 439, 518]

noncomputable def biV : BI → Value
  | .len => .builtin "len" | .range => .type "range" | .abs => .builtin "abs" | .list => .type "list" | .tuple => .type "tuple" | .sorted => .builtin "sorted" | .isinst => .builtin "isinstance"

abbrev tupO (vs : List Value) : Obj := { cls := .type "tuple", dict := none, data := .seq vs.toArray 0, slots := #[] }
abbrev lstO (vs : List Value) (n : Nat) : Obj := { cls := .type "list", dict := none, data := .seq vs.toArray n, slots := #[] }
abbrev dicO (es : List DictEntry) (n : Nat) : Obj := { cls := .type "dict", dict := none, data := .dict es.toArray n, slots := #[] }

mutual
noncomputable def VR (φ : Phi) (h : Heap) : AV → Value → Prop
  | .none, v => v = .none
  | .bool b, v => v = .bool b
  | .int i, v => ∃ t, v = .int i t
  | .str k, v => k < strTab.length ∧ ∃ t, v = .str (sOf k) t
  | .tup xs, v => xs.length ≤ lid ∧ ∃ a vs, v = .ref a ∧ h.get? a = some (tupO vs) ∧ a ∉ adrs φ ∧ VRs φ h xs vs
  | .ref n, v => ∃ p, φ[n]? = some p ∧ v = .ref p.1
  | .fn k, v => ∃ a, fnAddrs[k]? = some a ∧ v = .ref a
  | .cls k, v => ∃ a, clsAddrs[k]? = some a ∧ v = .ref a
  | .bi b, v => v = biV b
  | .rng a b c, v => rngOk a b c = true ∧ ∃ r t u w, v = .ref r ∧ IsRange h r a b c t u w ∧ r ∉ adrs φ
  | .fl xs, v => ∃ a vs, v = .ref a ∧ h.IsList a vs.toArray ∧ IntsAre vs xs ∧ a ∉ adrs φ
noncomputable def VRs (φ : Phi) (h : Heap) : List AV → List Value → Prop
  | [], vs => vs = []
  | x :: r, vs => ∃ v vs', vs = v :: vs' ∧ VR φ h x v ∧ VRs φ h r vs'
end

noncomputable def isMut (o : Obj) : Bool := match o.data with | .dict _ _ => true | .cell _ => true | .fields _ => o.cls != .type "range" | _ => false
/-- what is fixed stays -/
structure Kp (φ : Phi) (h : Heap) (φ' : Phi) (h' : Heap) : Prop where
  pre : φ <+: φ'
  fix : ∀ a o, h.get? a = some o → a ∉ adrs φ → isMut o = false → h'.get? a = some o ∧ a ∉ adrs φ'
/-- what a step may do to the heap: what is tracked and what X tells may change -/
structure StpX (X : Addr → Prop) (φ : Phi) (h : Heap) (φ' : Phi) (h' : Heap) : Prop where
  pre : φ <+: φ'
  new : ∀ a ∈ adrs φ', a ∈ adrs φ ∨ h.get? a = none
  keep : ∀ a o, h.get? a = some o → a ∉ adrs φ → ¬ X a → h'.get? a = some o
  alive : ∀ a o, h.get? a = some o → a ∉ adrs φ → X a → ∃ o', h'.get? a = some o'
  chg : ∀ a, X a → ∀ o, h.get? a = some o → isMut o = true
abbrev none1 (_ : Addr) : Prop := False
abbrev Stp := StpX none1

theorem adrs_append (φ ψ : Phi) : adrs (φ ++ ψ) = adrs φ ++ adrs ψ := by simp [adrs]
theorem adrs_mem {φ : Phi} {n : Nat} {p : Addr × Option Addr} (h : φ[n]? = some p) : p.1 ∈ adrs φ := by
  have := List.mem_of_getElem? h
  exact List.mem_flatMap.mpr ⟨p, this, .head _⟩
theorem adrs_mem2 {φ : Phi} {n : Nat} {p : Addr × Option Addr} {d : Addr} (h : φ[n]? = some p) (hd : p.2 = some d) : d ∈ adrs φ := by
  have := List.mem_of_getElem? h
  exact List.mem_flatMap.mpr ⟨p, this, by rw [hd]; simp⟩
theorem adrs_pre {φ φ' : Phi} (h : φ <+: φ') {a : Addr} (ha : a ∈ adrs φ) : a ∈ adrs φ' := by
  obtain ⟨t, rfl⟩ := h
  rw [adrs_append]; exact List.mem_append_left _ ha
theorem pre_get {φ φ' : Phi} (h : φ <+: φ') {n : Nat} {p : Addr × Option Addr} (hn : φ[n]? = some p) : φ'[n]? = some p := by
  obtain ⟨t, rfl⟩ := h
  rw [List.getElem?_append_left (List.getElem?_eq_some_iff.mp hn).1, hn]

theorem StpX.refl (φ : Phi) (h : Heap) : Stp φ h φ h := ⟨List.prefix_refl _, fun _ h => .inl h, fun _ _ e _ _ => e, fun _ _ _ _ q => q.elim, fun _ q => q.elim⟩
theorem StpX.fresh {X : Addr → Prop} {φ φ' : Phi} {h h' : Heap} (S : StpX X φ h φ' h') {a : Addr} {o : Obj} (e : h.get? a = some o) (n : a ∉ adrs φ) : a ∉ adrs φ' := fun q => by
  rcases S.new a q with q | q
  · exact n q
  · rw [e] at q; cases q
theorem StpX.there {X : Addr → Prop} {φ φ' : Phi} {h h' : Heap} (S : StpX X φ h φ' h') {a : Addr} {o : Obj} (e : h.get? a = some o) (n : a ∉ adrs φ) : ∃ o', h'.get? a = some o' := by
  by_cases x : X a
  · exact S.alive a o e n x
  · exact ⟨o, S.keep a o e n x⟩
theorem StpX.trans {X : Addr → Prop} {φ φ₁ φ₂ : Phi} {h h₁ h₂ : Heap} (S : StpX X φ h φ₁ h₁) (T : StpX X φ₁ h₁ φ₂ h₂) : StpX X φ h φ₂ h₂ :=
  ⟨S.pre.trans T.pre, fun a q => (T.new a q).elim (S.new a) fun q => by
    cases e : h.get? a with
    | none => exact .inr rfl
    | some o =>
      by_cases n : a ∈ adrs φ
      · exact .inl n
      · obtain ⟨o', e'⟩ := S.there e n; rw [e'] at q; exact (nomatch q), fun a o e n x => T.keep a o (S.keep a o e n x) (S.fresh e n) x, fun a o e n x => let ⟨_, e'⟩ := S.alive a o e n x; T.there e' (S.fresh e n), S.chg⟩
theorem StpX.keepI {X : Addr → Prop} {φ φ' : Phi} {h h' : Heap} (S : StpX X φ h φ' h') {a : Addr} {o : Obj} (e : h.get? a = some o) (n : a ∉ adrs φ) (m : isMut o = false) : h'.get? a = some o :=
  S.keep a o e n fun x => by rw [S.chg a x o e] at m; cases m
theorem StpX.kp {X : Addr → Prop} {φ φ' : Phi} {h h' : Heap} (S : StpX X φ h φ' h') : Kp φ h φ' h' := ⟨S.pre, fun _ _ e n m => ⟨S.keepI e n m, S.fresh e n⟩⟩
/-- a step that touches nothing of X's is a step over X as well -/
theorem StpX.over {X : Addr → Prop} {φ φ' : Phi} {h h' : Heap} (S : Stp φ h φ' h') (m : ∀ a, X a → ∀ o, h.get? a = some o → isMut o = true) : StpX X φ h φ' h' :=
  ⟨S.pre, S.new, fun a o e n _ => S.keep a o e n id, fun a o e n _ => ⟨o, S.keep a o e n id⟩, m⟩
/-- a step behind a step: what it changes is X's or was not there at first -/
theorem StpX.fore {X Y : Addr → Prop} {φ φ₁ φ₂ : Phi} {h h₁ h₂ : Heap} (S : StpX X φ h φ₁ h₁) (T : StpX Y φ₁ h₁ φ₂ h₂) (hy : ∀ a, Y a → X a ∨ h.get? a = none) : StpX X φ h φ₂ h₂ :=
  ⟨S.pre.trans T.pre, fun a q => (T.new a q).elim (S.new a) fun q => by
    cases e : h.get? a with
    | none => exact .inr rfl
    | some o =>
      by_cases n : a ∈ adrs φ
      · exact .inl n
      · obtain ⟨o', e'⟩ := S.there e n; rw [e'] at q; exact (nomatch q),
    fun a o e n x => T.keep a o (S.keep a o e n x) (S.fresh e n) fun y => (hy a y).elim x fun z => by rw [e] at z; exact (nomatch z),
    fun a o e n x => let ⟨_, e'⟩ := S.alive a o e n x; T.there e' (S.fresh e n), S.chg⟩
/-- a step that changes one place, new since the first, and may add -/
theorem StpX.ext {X : Addr → Prop} {φ φ₁ : Phi} {h h₁ h₂ : Heap} {it : Addr} (S : StpX X φ h φ₁ h₁) (T : Heap.ExtBut it h₁ h₂) (hi : h.get? it = none) : StpX X φ h φ₁ h₂ :=
  ⟨S.pre, S.new, fun a o e n x => T a o (fun q => by rw [q, hi] at e; exact (nomatch e)) (S.keep a o e n x),
    fun a o e n x => let ⟨o', e'⟩ := S.alive a o e n x; ⟨o', T a o' (fun q => by rw [q, hi] at e; exact (nomatch e)) e'⟩, S.chg⟩

mutual
theorem VR.kp {φ φ' : Phi} {h h' : Heap} (S : Kp φ h φ' h') : ∀ {x : AV} {v : Value}, VR φ h x v → VR φ' h' x v
  | .none, _, e => e
  | .bool _, _, e => e
  | .int _, _, e => e
  | .str _, _, e => e
  | .tup _, _, ⟨l, a, vs, e, q, n, r⟩ => ⟨l, a, vs, e, (S.fix _ _ q n rfl).1, (S.fix _ _ q n rfl).2, VRs.kp S r⟩
  | .ref _, _, ⟨p, q, e⟩ => ⟨p, pre_get S.pre q, e⟩
  | .fn _, _, e => e
  | .cls _, _, e => e
  | .bi _, _, e => e
  | .rng _ _ _, _, ⟨l, r, t, u, w, e, q, n⟩ => ⟨l, r, t, u, w, e, (S.fix _ _ q n rfl).1, (S.fix _ _ q n rfl).2⟩
  | .fl _, _, ⟨a, vs, e, ⟨o, ho, c, k, q⟩, i, n⟩ => ⟨a, vs, e, ⟨o, (S.fix _ _ ho n (by unfold isMut; rw [q])).1, c, k, q⟩, i, (S.fix _ _ ho n (by unfold isMut; rw [q])).2⟩
theorem VRs.kp {φ φ' : Phi} {h h' : Heap} (S : Kp φ h φ' h') : ∀ {x : List AV} {v : List Value}, VRs φ h x v → VRs φ' h' x v
  | [], _, e => e
  | _ :: _, _, ⟨v, vs, e, q, r⟩ => ⟨v, vs, e, VR.kp S q, VRs.kp S r⟩
end
theorem VR.stp {X : Addr → Prop} {φ φ' : Phi} {h h' : Heap} (S : StpX X φ h φ' h') {x : AV} {v : Value} (r : VR φ h x v) : VR φ' h' x v := r.kp S.kp
theorem VRs.stp {X : Addr → Prop} {φ φ' : Phi} {h h' : Heap} (S : StpX X φ h φ' h') {x : List AV} {v : List Value} (r : VRs φ h x v) : VRs φ' h' x v := r.kp S.kp

theorem VRs.length {φ : Phi} {h : Heap} : ∀ {x : List AV} {v : List Value}, VRs φ h x v → x.length = v.length
  | [], _, e => by have e' : _ = _ := e; subst e'; rfl
  | _ :: _, _, ⟨v, vs, e, _, r⟩ => by subst e; simp [VRs.length r]
theorem VRs.get {φ : Phi} {h : Heap} : ∀ {x : List AV} {v : List Value}, VRs φ h x v → ∀ {i : Nat} {a : AV}, x[i]? = some a → ∃ b, v[i]? = some b ∧ VR φ h a b
  | [], _, _, _, _, q => by simp at q
  | _ :: _, _, ⟨v, vs, e, p, r⟩, i, a, q => by
    subst e
    cases i with
    | zero => simp at q; subst q; exact ⟨v, by simp, p⟩
    | succ i => simpa using VRs.get r (i := i) (by simpa using q)
theorem VRs.append {φ : Phi} {h : Heap} : ∀ {x : List AV} {v : List Value} {y : List AV} {w : List Value}, VRs φ h x v → VRs φ h y w → VRs φ h (x ++ y) (v ++ w)
  | [], _, _, _, e, r => by have e' : _ = _ := e; subst e'; exact r
  | _ :: _, _, _, _, ⟨v, vs, e, p, r⟩, q => by subst e; exact ⟨v, _, rfl, p, VRs.append r q⟩
theorem VRs.take {φ : Phi} {h : Heap} : ∀ {x : List AV} {v : List Value} (n : Nat), VRs φ h x v → VRs φ h (x.take n) (v.take n)
  | [], _, n, e => by have e' : _ = _ := e; subst e'; simp [VRs]
  | _ :: _, _, 0, _ => by simp [VRs]
  | _ :: _, _, n + 1, ⟨v, vs, e, p, r⟩ => by subst e; exact ⟨v, _, rfl, p, VRs.take n r⟩
theorem VRs.drop {φ : Phi} {h : Heap} : ∀ {x : List AV} {v : List Value} (n : Nat), VRs φ h x v → VRs φ h (x.drop n) (v.drop n)
  | [], _, n, e => by have e' : _ = _ := e; subst e'; simp [VRs]
  | _ :: _, _, 0, e => e
  | _ :: _, _, n + 1, ⟨v, vs, e, p, r⟩ => by subst e; exact VRs.drop n r
theorem VRs.set {φ : Phi} {h : Heap} : ∀ {x : List AV} {v : List Value} (n : Nat) {a : AV} {b : Value}, VRs φ h x v → VR φ h a b → VRs φ h (x.set n a) (v.set n b)
  | [], _, n, _, _, e, _ => by have e' : _ = _ := e; subst e'; simp [VRs]
  | _ :: _, _, 0, _, _, ⟨v, vs, e, p, r⟩, q => by subst e; exact ⟨_, _, rfl, q, r⟩
  | _ :: _, _, n + 1, _, _, ⟨v, vs, e, p, r⟩, q => by subst e; exact ⟨v, _, rfl, p, VRs.set n r q⟩
theorem VRs.snoc {φ : Phi} {h : Heap} {x : List AV} {v : List Value} {a : AV} {b : Value} (r : VRs φ h x v) (q : VR φ h a b) : VRs φ h (x ++ [a]) (v ++ [b]) :=
  r.append ⟨b, [], rfl, q, rfl⟩
theorem VRs.of_get {φ : Phi} {h : Heap} : ∀ {x : List AV} {v : List Value}, x.length = v.length → (∀ (i : Nat) (a : AV) (b : Value), x[i]? = some a → v[i]? = some b → VR φ h a b) → VRs φ h x v
  | [], [], _, _ => rfl
  | a :: x, b :: v, e, q => ⟨b, v, rfl, q 0 a b (by simp) (by simp), VRs.of_get (by simpa using e) fun i a' b' h1 h2 => q (i + 1) a' b' (by simpa using h1) (by simpa using h2)⟩

/-! ### strings -/
theorem sOf_inj {i j : Nat} (hi : i < strTab.length) (hj : j < strTab.length) (e : sOf i = sOf j) : i = j := by
  have q : ∀ i : Fin 12, ∀ j : Fin 12, sOf i.1 = sOf j.1 → i = j := by decide +kernel
  have := q ⟨i, hi⟩ ⟨j, hj⟩ e
  exact congrArg Fin.val this
theorem sid_sOf {x : Str} (h : sid x < strTab.length) : sOf (sid x) = x := by
  unfold sid at h
  have hl : (strTab.map Str.ofString).idxOf x < (strTab.map Str.ofString).length := by simpa using h
  unfold sOf sid
  rw [List.getElem?_eq_getElem hl]
  simp

theorem aOf_inj {i j : Nat} (hi : i < attrTab.length) (hj : j < attrTab.length) (e : aOf i = aOf j) : i = j := by
  have q : ∀ i : Fin 52, ∀ j : Fin 52, aOf i.1 = aOf j.1 → i = j := by decide +kernel
  have := q ⟨i, hi⟩ ⟨j, hj⟩ e
  exact congrArg Fin.val this
theorem aid_aOf {x : Str} (h : aid x < attrTab.length) : aOf (aid x) = x := by
  unfold aid at h
  have hl : (attrTab.map Str.ofString).idxOf x < (attrTab.map Str.ofString).length := by simpa using h
  unfold aOf aid
  rw [List.getElem?_eq_getElem hl]
  simp

/-! ### the atoms as keys -/
noncomputable def atomIs : Atom → Value → Bool
  | .i n, v => Value.isInt n v
  | .s k, v => decide (k < strTab.length) && Value.isStrOf (sOf k) v
theorem atomIs_i {n : Int} {v : Value} (h : atomIs (.i n) v = true) : ∃ t, v = .int n t := Value.isInt_shape h
theorem atomIs_s {k : Nat} {v : Value} (h : atomIs (.s k) v = true) : k < strTab.length ∧ ∃ t, v = .str (sOf k) t := by
  obtain ⟨a, b⟩ := Bool.and_eq_true_iff.mp h
  exact ⟨of_decide_eq_true a, Value.isStrOf_shape b⟩
theorem atomIs_i' (n : Int) (t : Tok) : atomIs (.i n) (.int n t) = true := by simp [atomIs, Value.isInt]
theorem atomIs_s' {k : Nat} (h : k < strTab.length) (t : Tok) : atomIs (.s k) (.str (sOf k) t) = true := by simp [atomIs, Value.isStrOf, h]

noncomputable def atomEq : Atom → Atom → Bool := fun a b => decide (a = b)

theorem atom_eqBool {prog : Program} {w : World} {A : Around} {E : Value → Shared → Prop} {s : Shared} {a b : Atom} {u v : Value} {Q : Bool → Shared → Prop} (hu : atomIs a u = true) (hv : atomIs b v = true) (h : Q (decide (a = b)) s) :
    wpAny (model prog w) A (PySem.eqBool u v) Q E s := by
  cases a with
  | i n =>
    obtain ⟨t, rfl⟩ := atomIs_i hu
    cases b with
    | i m =>
      obtain ⟨t', rfl⟩ := atomIs_i hv
      refine wpAny_eqBool_int ?_
      have : (n == m) = decide (Atom.i n = Atom.i m) := by
        by_cases e : n = m
        · subst e; simp
        · have : ¬ Atom.i n = Atom.i m := fun q => e (by cases q; rfl)
          simp [e]
      rw [this]; exact h
    | s k =>
      obtain ⟨_, t', rfl⟩ := atomIs_s hv
      exact SeqAt.EqAt.int_str n t _ t' prog w E Q (by simpa using h)
  | s k =>
    obtain ⟨hk, t, rfl⟩ := atomIs_s hu
    cases b with
    | i m =>
      obtain ⟨t', rfl⟩ := atomIs_i hv
      exact SeqAt.EqAt.str_int _ t m t' prog w E Q (by simpa using h)
    | s k' =>
      obtain ⟨hk', t', rfl⟩ := atomIs_s hv
      refine wpAny_eqBool_str ?_
      have : decide (sOf k = sOf k') = decide (Atom.s k = Atom.s k') := by
        by_cases e : k = k'
        · subst e; simp
        · have h1 : ¬ Atom.s k = Atom.s k' := fun q => e (by cases q; rfl)
          have h2 : ¬ sOf k = sOf k' := fun q => e (sOf_inj hk hk' q)
          simp [h1, h2]
      rw [this]; exact h

noncomputable def atomKind (prog : Program) (w : World) : KeyKind prog w Atom where
  is := atomIs
  hash := fun a => match a with | .i n => hashInt n | .s k => hashStr w (sOf k)
  inj := fun v a b ha hb => by
    cases a with
    | i n =>
      obtain ⟨t, rfl⟩ := atomIs_i ha
      cases b with
      | i m => obtain ⟨t', e⟩ := atomIs_i hb; cases e; rfl
      | s k => obtain ⟨_, t', e⟩ := atomIs_s hb; cases e
    | s k =>
      obtain ⟨hk, t, rfl⟩ := atomIs_s ha
      cases b with
      | i m => obtain ⟨t', e⟩ := atomIs_i hb; cases e
      | s k' =>
        obtain ⟨hk', t', e⟩ := atomIs_s hb
        injection e with e1 _
        rw [sOf_inj hk hk' e1]
  byValue := fun a v h => by
    cases a with
    | i n => obtain ⟨t, rfl⟩ := atomIs_i h; rfl
    | s k => obtain ⟨_, t, rfl⟩ := atomIs_s h; rfl
  pyHash := fun {_ _ _ a _ _} hv h => by
    cases a with
    | i n => obtain ⟨t, rfl⟩ := atomIs_i hv; exact wpAny_pyHash_int h
    | s k => obtain ⟨_, t, rfl⟩ := atomIs_s hv; exact wpAny_pyHash_str h
  eqBool := fun hu hv h => atom_eqBool hu hv h
  «strs» := fun a x t v h => by
    cases a with
    | i n => obtain ⟨t', e⟩ := atomIs_i h; cases e
    | s k =>
      obtain ⟨hk, t', e⟩ := atomIs_s h
      injection e with e1 _
      subst e1
      cases v <;> simp [atomIs, Value.isStrOf, Value.isStr, hk]

theorem atom_of {φ : Phi} {h : Heap} {x : AV} {v : Value} {a : Atom} (e : toAtom x = some a) (r : VR φ h x v) : atomIs a v = true := by
  cases x with
  | int i => cases e; obtain ⟨t, rfl⟩ := r; exact atomIs_i' _ _
  | str k => cases e; obtain ⟨hk, t, rfl⟩ := r; exact atomIs_s' hk _
  | _ => exact nomatch e
theorem optC_some {α : Type} {a : Option α} {l : Option (List α)} {as : List α} (e : optC a l = some as) : ∃ x r, a = some x ∧ l = some r ∧ as = x :: r := by
  cases a with
  | none => exact nomatch e
  | some x => cases l with
    | none => exact nomatch e
    | some r => cases e; exact ⟨x, r, rfl, rfl, rfl⟩
theorem atoms_of {prog : Program} {w : World} {φ : Phi} {h : Heap} : ∀ {xs : List AV} {vs : List Value} {as : List Atom}, toAtoms xs = some as → VRs φ h xs vs → ItemsAre (atomKind prog w) as vs
  | [], _, _, e, r => by have r' : _ = _ := r; subst r'; cases e; exact .nil
  | x :: xs, _, _, e, ⟨v, vs, e1, p, r⟩ => by
    subst e1
    obtain ⟨a, l, h1, h2, rfl⟩ := optC_some e
    exact .cons (atom_of h1 p) (atoms_of h2 r)

end Mine
end
section
set_option autoImplicit false
set_option Elab.async false
namespace Mine
open PySem PySem.Calls PyProof.Rows

section
variable (prog : Program) (w : World)

def FR (φ : Phi) (h : Heap) : List (Nat × AV) → List DictEntry → Prop
  | [], es => es = []
  | (k, x) :: r, es => ∃ hsh t v es', es = ⟨hsh, .str (aOf k) t, v⟩ :: es' ∧ k < attrTab.length ∧ VR φ h x v ∧ FR φ h r es'

/-- an object of the small heap and its place in the model's -/
def OR (φ : Phi) (h : Heap) (p : Addr × Option Addr) : AO → Prop
  | .list xs => p.2 = none ∧ xs.length ≤ lid ∧ ∃ vs n, h.get? p.1 = some (lstO vs n) ∧ VRs φ h xs vs
  | .dE => p.2 = none ∧ h.get? p.1 = some (dicO [] 0)
  | .dA kvs => p.2 = none ∧ ∃ vs, h.DictAt (atomKind prog w) p.1 ((kvs.map (·.1)).zip vs) kvs.length ∧ VRs φ h (kvs.map (·.2)) vs
  | .dT kvs => p.2 = none ∧ ∃ xs : List (List Atom × Addr × Value), h.DictOfH (tupleKind (atomKind prog w)) p.1 xs ∧ xs.map (·.1) = kvs.map (·.1) ∧ VRs φ h (kvs.map (·.2)) (xs.map (·.2.2)) ∧ ∀ x ∈ xs, x.2.1 ∉ adrs φ
  | .inst c fs => ∃ C dx es n, p.2 = some dx ∧ clsAddrs[c]? = some C ∧ h.get? p.1 = some (W.instObj C dx) ∧ h.get? dx = some (dicO es n) ∧ FR φ h fs es

structure WR (base : Heap) (φ : Phi) (H : AH) (h : Heap) : Prop where
  len : φ.length = H.length
  nodup : (adrs φ).Nodup
  obj : ∀ (n : Nat) (ao : AO) (p : Addr × Option Addr), H[n]? = some ao → φ[n]? = some p → OR prog w φ h p ao
  low : ∀ a o, base.get? a = some o → h.get? a = some o
  above : ∀ a ∈ adrs φ, base.get? a = none
end

section
variable {prog : Program} {w : World} {φ φ' : Phi} {h h' base : Heap} {H : AH}

theorem FR.kp (S : Kp φ h φ' h') : ∀ {fs : List (Nat × AV)} {es : List DictEntry}, FR φ h fs es → FR φ' h' fs es
  | [], _, e => e
  | (_, _) :: _, _, ⟨hs, t, v, es', e, k, r, q⟩ => ⟨hs, t, v, es', e, k, r.kp S, FR.kp S q⟩

theorem OR.move (S : Kp φ h φ' h') {p : Addr × Option Addr} {ao : AO} (r : OR prog w φ h p ao) (h1 : h'.get? p.1 = h.get? p.1) (h2 : ∀ d, p.2 = some d → h'.get? d = h.get? d) : OR prog w φ' h' p ao := by
  cases ao with
  | list xs => exact ⟨r.1, r.2.1, let ⟨_, _, vs, n, g, q⟩ := r; ⟨vs, n, h1.trans g, q.kp S⟩⟩
  | dE => exact ⟨r.1, h1.trans r.2⟩
  | dA kvs =>
    obtain ⟨e, vs, ⟨o, es, g, z⟩, q⟩ := r
    exact ⟨e, vs, ⟨o, es, h1.trans g, z⟩, q.kp S⟩
  | dT kvs =>
    obtain ⟨e, xs, ⟨o, es, ep, g, z1, z2, z3, z4, z5⟩, ek, q, f⟩ := r
    refine ⟨e, xs, ⟨o, es, ep, h1.trans g, z1, z2, z3, fun x hx => ?_, z5⟩, ek, q.kp S, fun x hx => ?_⟩
    · obtain ⟨o', items, n', g', c', d', i'⟩ := z4 x hx
      exact ⟨o', items, n', (S.fix _ _ g' (f x hx) (by unfold isMut; rw [d'])).1, c', d', i'⟩
    · obtain ⟨o', items, n', g', c', d', i'⟩ := z4 x hx
      exact (S.fix _ _ g' (f x hx) (by unfold isMut; rw [d'])).2
  | inst c fs =>
    obtain ⟨C, dx, es, n, e, ec, g, gd, q⟩ := r
    exact ⟨C, dx, es, n, e, ec, h1.trans g, (h2 dx e).trans gd, q.kp S⟩

theorem OR.some1 {p : Addr × Option Addr} {ao : AO} (r : OR prog w φ h p ao) : ∃ o, h.get? p.1 = some o := by
  cases ao with
  | list xs => obtain ⟨e, _, vs, n, g, q⟩ := r; exact ⟨_, g⟩
  | dE => exact ⟨_, r.2⟩
  | dA kvs => obtain ⟨e, vs, ⟨o, es, g, z⟩, q⟩ := r; exact ⟨_, g⟩
  | dT kvs => obtain ⟨e, xs, ⟨o, es, ep, g, z⟩, q⟩ := r; exact ⟨_, g⟩
  | inst c fs => obtain ⟨C, dx, es, n, e, ec, g, gd, q⟩ := r; exact ⟨_, g⟩
theorem OR.some2 {p : Addr × Option Addr} {ao : AO} (r : OR prog w φ h p ao) {d : Addr} (hd : p.2 = some d) : ∃ o, h.get? d = some o := by
  cases ao with
  | list xs => obtain ⟨e, _⟩ := r; rw [e] at hd; cases hd
  | dE => rw [r.1] at hd; cases hd
  | dA kvs => obtain ⟨e, _⟩ := r; rw [e] at hd; cases hd
  | dT kvs => obtain ⟨e, _⟩ := r; rw [e] at hd; cases hd
  | inst c fs => obtain ⟨C, dx, es, n, e, ec, g, gd, q⟩ := r; rw [e] at hd; cases hd; exact ⟨_, gd⟩

theorem WR.there (W : WR prog w base φ H h) {a : Addr} (ha : a ∈ adrs φ) : ∃ o, h.get? a = some o := by
  obtain ⟨p, hp, hm⟩ := List.mem_flatMap.mp ha
  obtain ⟨n, hn⟩ := List.mem_iff_getElem?.mp hp
  have hlt : n < H.length := W.len ▸ (List.getElem?_eq_some_iff.mp hn).1
  have r := W.obj n _ p (List.getElem?_eq_getElem hlt) hn
  rcases List.mem_cons.mp hm with rfl | hm
  · exact r.some1
  · exact r.some2 (by simpa using hm)
theorem WR.lt (W : WR prog w base φ H h) {a : Addr} (ha : a ∈ adrs φ) : a < h.objs.size := let ⟨_, e⟩ := W.there ha; Heap.lt_size e
theorem WR.get (W : WR prog w base φ H h) {n : Nat} {ao : AO} (e : H[n]? = some ao) : ∃ p, φ[n]? = some p ∧ OR prog w φ h p ao := by
  have hlt : n < φ.length := W.len ▸ (List.getElem?_eq_some_iff.mp e).1
  exact ⟨_, List.getElem?_eq_getElem hlt, W.obj n ao _ e (List.getElem?_eq_getElem hlt)⟩

/-- a heap that has grown, what is tracked as it was -/
theorem WR.grow (W : WR prog w base φ H h) (hk : ∀ a o, h.get? a = some o → h'.get? a = some o) : WR prog w base φ H h' ∧ Stp φ h φ h' := by
  have S : Stp φ h φ h' := ⟨List.prefix_refl _, fun _ q => .inl q, fun a o e _ _ => hk a o e, fun _ _ _ _ q => q.elim, fun _ q => q.elim⟩
  refine ⟨⟨W.len, W.nodup, fun n ao p e q => ?_, fun a o e => hk a o (W.low a o e), W.above⟩, S⟩
  have r := W.obj n ao p e q
  obtain ⟨o, g⟩ := r.some1
  refine r.move S.kp ((hk _ _ g).trans g.symm) fun d hd => ?_
  obtain ⟨o, g⟩ := r.some2 hd
  exact (hk _ _ g).trans g.symm

theorem nodup_two {φ : Phi} (hn : (adrs φ).Nodup) : ∀ {n m : Nat} {p q : Addr × Option Addr} {c : Addr}, φ[n]? = some p → φ[m]? = some q → c ∈ p.1 :: p.2.toList → c ∈ q.1 :: q.2.toList → n = m := by
  induction φ with
  | nil => intro n m p q c h; simp at h
  | cons x r ih =>
    have hx : adrs (x :: r) = (x.1 :: x.2.toList) ++ adrs r := rfl
    rw [hx, List.nodup_append] at hn
    intro n m p q c h1 h2 c1 c2
    cases n with
    | zero =>
      simp at h1; subst h1
      cases m with
      | zero => rfl
      | succ m =>
        have h2' : r[m]? = some q := by simpa using h2
        exact absurd rfl (hn.2.2 c c1 c (List.mem_flatMap.mpr ⟨q, List.mem_of_getElem? h2', c2⟩))
    | succ n =>
      have h1' : r[n]? = some p := by simpa using h1
      cases m with
      | zero =>
        simp at h2; subst h2
        exact absurd rfl (hn.2.2 c c2 c (List.mem_flatMap.mpr ⟨p, List.mem_of_getElem? h1', c1⟩))
      | succ m =>
        have h2' : r[m]? = some q := by simpa using h2
        rw [ih hn.2.1 h1' h2' c1 c2]

/-- one place of a tracked object changes -/
theorem WR.upd (W : WR prog w base φ H h) {n : Nat} {p : Addr × Option Addr} {c : Addr} {ao' : AO} (hp : φ[n]? = some p) (hc : c ∈ p.1 :: p.2.toList) (hs : Heap.SameBut c h h') (r : Stp φ h φ h' → OR prog w φ h' p ao') :
    WR prog w base φ (H.set n ao') h' ∧ Stp φ h φ h' := by
  have hcm : c ∈ adrs φ := List.mem_flatMap.mpr ⟨p, List.mem_of_getElem? hp, hc⟩
  have S : Stp φ h φ h' := ⟨List.prefix_refl _, fun _ q => .inl q, fun a o e na _ => (hs.2 a fun q => na (q ▸ hcm)).trans e, fun _ _ _ _ q => q.elim, fun _ q => q.elim⟩
  refine ⟨⟨by rw [List.length_set]; exact W.len, W.nodup, fun m ao q e hq => ?_, fun a o e => ?_, W.above⟩, S⟩
  · by_cases hnm : n = m
    · subst hnm
      rw [hp] at hq; cases hq
      rw [List.getElem?_set_self'] at e
      cases hH : H[n]? with
      | none => rw [hH] at e; cases e
      | some x => rw [hH] at e; cases e; exact r S
    · rw [List.getElem?_set_ne hnm] at e
      refine (W.obj m ao q e hq).move S.kp (hs.2 _ fun z => hnm (nodup_two W.nodup hp hq hc (z ▸ .head _))) fun d hd => hs.2 _ fun z => hnm (nodup_two W.nodup hp hq hc ?_)
      rw [← z, hd]; simp
  · refine (hs.2 a fun z => ?_).trans (W.low a o e)
    rw [z, W.above c hcm] at e; cases e

/-- a place that is not tracked changes -/
theorem WR.side (W : WR prog w base φ H h) {X : Addr → Prop} {c : Addr} (hx : X c) (hc : c ∉ adrs φ) (hb : base.get? c = none) (hl : ∃ o, h'.get? c = some o) (hs : Heap.SameBut c h h') (hm : ∀ a, X a → ∀ o, h.get? a = some o → isMut o = true) :
    WR prog w base φ H h' ∧ StpX X φ h φ h' := by
  have S : StpX X φ h φ h' := ⟨List.prefix_refl _, fun _ q => .inl q, fun a o e _ nx => (hs.2 a fun q => nx (q ▸ hx)).trans e, fun a o e _ _ => by
    by_cases q : a = c
    · exact q ▸ hl
    · exact ⟨o, (hs.2 a q).trans e⟩, hm⟩
  refine ⟨⟨W.len, W.nodup, fun m ao q e hq => ?_, fun a o e => ?_, W.above⟩, S⟩
  · refine (W.obj m ao q e hq).move S.kp (hs.2 _ fun z => hc (z ▸ adrs_mem hq)) fun d hd => hs.2 _ fun z => hc (z ▸ adrs_mem2 hq hd)
  · refine (hs.2 a fun z => ?_).trans (W.low a o e)
    rw [z, hb] at e; cases e

/-- a place that is not tracked may go, others may come -/
theorem WR.ext (W : WR prog w base φ H h) {c : Addr} (hc : c ∉ adrs φ) (hb : base.get? c = none) (hs : Heap.ExtBut c h h') (hm : ∀ o, h.get? c = some o → isMut o = true) : WR prog w base φ H h' ∧ Kp φ h φ h' := by
  have S : Kp φ h φ h' := ⟨List.prefix_refl _, fun a o e n m => ⟨hs a o (fun q => by subst q; rw [hm o e] at m; cases m) e, n⟩⟩
  refine ⟨⟨W.len, W.nodup, fun m ao q e hq => ?_, fun a o e => hs a o (fun z => ?_) (W.low a o e), W.above⟩, S⟩
  · have r := W.obj m ao q e hq
    obtain ⟨o, g⟩ := r.some1
    refine r.move S ((hs _ _ (fun z => hc (z ▸ adrs_mem hq)) g).trans g.symm) fun d hd => ?_
    obtain ⟨o, g⟩ := r.some2 hd
    exact (hs _ _ (fun z => hc (z ▸ adrs_mem2 hq hd)) g).trans g.symm
  · rw [z, hb] at e; cases e

theorem get?_size (h : Heap) : h.get? h.objs.size = none := by
  cases e : h.get? h.objs.size with
  | none => rfl
  | some o => exact absurd (Heap.lt_size e) (Nat.lt_irrefl _)

/-- a new object -/
theorem WR.alloc (W : WR prog w base φ H h) {o : Obj} {ao : AO} (r : Stp φ h (φ ++ [(h.objs.size, none)]) (h.push o) → OR prog w (φ ++ [(h.objs.size, none)]) (h.push o) (h.objs.size, none) ao) :
    WR prog w base (φ ++ [(h.objs.size, none)]) (H ++ [ao]) (h.push o) ∧ Stp φ h (φ ++ [(h.objs.size, none)]) (h.push o) := by
  have S : Stp φ h (φ ++ [(h.objs.size, none)]) (h.push o) := ⟨List.prefix_append _ _, fun a q => by
    rw [adrs_append] at q
    rcases List.mem_append.mp q with q | q
    · exact .inl q
    · have : a = h.objs.size := by simpa [adrs] using q
      exact .inr (this ▸ get?_size h), fun a o e _ _ => Heap.get?_push_of_some _ e, fun _ _ _ _ q => q.elim, fun _ q => q.elim⟩
  refine ⟨⟨by simp [W.len], ?_, fun n ao' p e q => ?_, fun a o e => Heap.get?_push_of_some _ (W.low a o e), fun a q => ?_⟩, S⟩
  · rw [adrs_append, List.nodup_append]
    refine ⟨W.nodup, by simp [adrs], fun a ha b hb => ?_⟩
    have : b = h.objs.size := by simpa [adrs] using hb
    subst this
    exact Nat.ne_of_lt (W.lt ha)
  · by_cases hn : n < φ.length
    · rw [List.getElem?_append_left hn] at q
      rw [List.getElem?_append_left (W.len ▸ hn)] at e
      have z := W.obj n ao' p e q
      obtain ⟨o1, g⟩ := z.some1
      refine z.move S.kp ((Heap.get?_push_of_some _ g).trans g.symm) fun d hd => ?_
      obtain ⟨o1, g⟩ := z.some2 hd
      exact (Heap.get?_push_of_some _ g).trans g.symm
    · have hlt := (List.getElem?_eq_some_iff.mp q).1
      have hne : n = φ.length := by simp at hlt; lia
      subst hne
      simp at q
      rw [W.len] at e
      simp at e
      subst q e
      exact r S
  · rcases S.new a q with q | q
    · exact W.above a q
    · cases e : base.get? a with
      | none => rfl
      | some o => rw [W.low a o e] at q; cases q
end

end Mine
end
section
set_option autoImplicit false
set_option Elab.async false
namespace Mine
open PySem PySem.Calls PyProof.Rows

/-! ## Frames -/
def Own (env : Env) (a : Addr) : Prop := a = env.locals ∨ ∃ x, env.cells.lookup x = some a
def isV (k : Option NameKind) : Prop := k = some .cell ∨ k = some .free

structure ER (base : Heap) (env : Env) (sl : List Str) (ρ : Ro) (φ : Phi) (h : Heap) : Prop where
  kind : env.scope.kind = .function
  glob : env.globals = mainGlobals
  bi : env.builtins = builtinsNs
  len : ρ.length = sl.length
  loc : ∃ m, h.Ns env.locals m ∧ ∀ x v, env.kindOf x = some .local → getR ρ (sl.idxOf x) = some v → ∃ V, m x = some V ∧ VR φ h v V
  cel : ∀ x c, env.cells.lookup x = some c → ∃ ov, h.IsCell c ov ∧ (isV (env.kindOf x) → ∀ v, getR ρ (sl.idxOf x) = some v → ∃ V, ov = some V ∧ VR φ h v V)
  has : ∀ x, isV (env.kindOf x) → sl.idxOf x < sl.length → ∃ c, env.cells.lookup x = some c
  un : ∀ a, Own env a → a ∉ adrs φ
  low : ∀ a, Own env a → base.get? a = none
  ap : ∀ x y c, env.cells.lookup x = some c → env.cells.lookup y = some c → x = y

structure Good (A : Around) (n : Nat) : Prop where
  hand : A.handled = none
  deep : A.depth + 2 * n < recursionLimit
  units : A.units + 10 * n < cLine

theorem Good.less {A : Around} {n m : Nat} (g : Good A n) (h : m ≤ n) : Good A m := ⟨g.hand, by have := g.deep; lia, by have := g.units; lia⟩
theorem Good.in1 {A : Around} {n : Nat} (g : Good A (n + 1)) : Good A.in1 n := ⟨g.hand, by have := g.deep; show A.depth + 2 * n < recursionLimit; lia, by have := g.units; show A.units + 1 + 10 * n < cLine; lia⟩
theorem Good.deeper {A : Around} {n : Nat} {env : Env} (g : Good A (n + 1)) : Good (A.deeper env) n := ⟨g.hand, by have := g.deep; show A.depth + 1 + 2 * n < recursionLimit; lia, by have := g.units; show A.units + 3 + 10 * n < cLine; lia⟩
theorem Good.room {A : Around} {n : Nat} (g : Good A n) : A.depth < recursionLimit := by have := g.deep; lia
theorem Good.un {A : Around} {n : Nat} (g : Good A n) : A.units < cLine := by have := g.units; lia

theorem getR_set {ρ : Ro} {i j : Nat} {v : AV} (h : getR (ρ.set i (some v)) j = getR ρ j ∨ i = j) : i = j ∨ getR (ρ.set i (some v)) j = getR ρ j := h.symm
theorem getR_set_ne {ρ : Ro} {i j : Nat} {v : AV} (h : i ≠ j) : getR (ρ.set i (some v)) j = getR ρ j := by unfold getR; rw [List.getElem?_set_ne h]
theorem getR_set_eq {ρ : Ro} {i : Nat} {v : AV} (h : i < ρ.length) : getR (ρ.set i (some v)) i = some v := by unfold getR; simp [h]
theorem getR_lt {ρ : Ro} {i : Nat} {v : AV} (h : getR ρ i = some v) : i < ρ.length := by
  unfold getR at h
  cases q : ρ[i]? with
  | none => rw [q] at h; cases h
  | some x => exact (List.getElem?_eq_some_iff.mp q).1

section
variable {φ φ' : Phi} {h h' base : Heap} {env : Env} {sl : List Str} {ρ ρ' : Ro} {prog : Program} {w : World} {H : AH}

theorem ER.mut (R : ER base env sl ρ φ h) : ∀ a, Own env a → ∀ o, h.get? a = some o → isMut o = true := by
  rintro a (rfl | ⟨x, hx⟩) o e
  · obtain ⟨m, ⟨o', es, ep, ho, hd, _⟩, _⟩ := R.loc
    rw [e] at ho; cases ho
    unfold isMut; rw [hd]
  · obtain ⟨ov, ⟨o', ho, hd⟩, _⟩ := R.cel x a hx
    rw [e] at ho; cases ho
    unfold isMut; rw [hd]
theorem ER.ex (R : ER base env sl ρ φ h) : ∀ a, Own env a → ∃ o, h.get? a = some o := by
  rintro a (rfl | ⟨x, hx⟩)
  · obtain ⟨m, ⟨o', es, ep, ho, hd, _⟩, _⟩ := R.loc
    exact ⟨_, ho⟩
  · obtain ⟨ov, ⟨o', ho, hd⟩, _⟩ := R.cel x a hx
    exact ⟨_, ho⟩
theorem ER.fresh {X : Addr → Prop} (R : ER base env sl ρ φ h) (S : StpX X φ h φ' h') : ∀ a, Own env a → a ∉ adrs φ' := fun a q => by
  obtain ⟨o, e⟩ := R.ex a q
  exact S.fresh e (R.un a q)

theorem ER.stpX {X : Addr → Prop} (R : ER base env sl ρ φ h) (S : StpX X φ h φ' h') (hx : ∀ a, Own env a → ¬ X a) : ER base env sl ρ φ' h' := by
  obtain ⟨m, hm, hv⟩ := R.loc
  obtain ⟨o, es, ep, ho, hd, hk⟩ := id hm
  refine ⟨R.kind, R.glob, R.bi, R.len, ⟨m, ⟨o, es, ep, S.keep _ _ ho (R.un _ (.inl rfl)) (hx _ (.inl rfl)), hd, hk⟩, fun x v k g => ?_⟩, fun x c hc => ?_, R.has, R.fresh S, R.low, R.ap⟩
  · obtain ⟨V, e, r⟩ := hv x v k g; exact ⟨V, e, r.stp S⟩
  · obtain ⟨ov, ⟨o, ho, hd⟩, hv⟩ := R.cel x c hc
    exact ⟨ov, ⟨o, S.keep _ _ ho (R.un _ (.inr ⟨x, hc⟩)) (hx _ (.inr ⟨x, hc⟩)), hd⟩, fun k v g => let ⟨V, e, r⟩ := hv k v g; ⟨V, e, r.stp S⟩⟩
theorem ER.stp (R : ER base env sl ρ φ h) (S : Stp φ h φ' h') : ER base env sl ρ φ' h' := R.stpX S fun _ _ => id

theorem ER.localsNotCell (R : ER base env sl ρ φ h) {x : Str} {c : Addr} (hx : env.cells.lookup x = some c) : c ≠ env.locals := by
  rintro rfl
  obtain ⟨m, ⟨o', es, ep, ho, hd, _⟩, _⟩ := R.loc
  obtain ⟨ov, ⟨o2, ho2, hd2⟩, _⟩ := R.cel x _ hx
  rw [ho] at ho2; cases ho2
  rw [hd] at hd2; cases hd2

theorem idx_ne {sl : List Str} {x y : Str} (hx : sl.idxOf x < sl.length) (hxy : x ≠ y) : sl.idxOf x ≠ sl.idxOf y := fun e => by
  have h1 : sl[sl.idxOf x]? = some x := by rw [List.getElem?_eq_getElem hx]; simp
  have hy : sl.idxOf y < sl.length := e ▸ hx
  have h2 : sl[sl.idxOf y]? = some y := by rw [List.getElem?_eq_getElem hy]; simp
  rw [e, h2] at h1
  exact hxy (Option.some.inj h1).symm

/-- a name is stored -/
theorem store_sound {A : Around} {E : Value → Shared → Prop} {s : Shared} {x : Str} {v : AV} {V : Value} {Q : Unit → Shared → Prop} {X : Addr → Prop} (hXl : env.kindOf x = some .local → X env.locals) (hXc : env.kindOf x = some .cell → ∀ c, env.cells.lookup x = some c → X c) (hXo : ∀ a, X a → Own env a) (R : ER base env sl ρ φ s.heap) (W : WR prog w base φ H s.heap)
    (hk : ownVar ((env.kindOf x).getD .free) = true) (hx : sl.idxOf x < sl.length) (r : VR φ s.heap v V)
    (k : ∀ h' tk, ER base env sl (ρ.set (sl.idxOf x) (some v)) φ h' → WR prog w base φ H h' → StpX X φ s.heap φ h' → Q () { s with heap := h', toks := tk }) :
    wpAny (model prog w) A (storeName env x V) Q E s := by
  have hxl : sl.idxOf x < ρ.length := R.len ▸ hx
  cases hk' : env.kindOf x with
  | none => rw [hk'] at hk; cases hk
  | some kd =>
    rw [hk'] at hk
    cases kd with
    | «local» =>
      obtain ⟨m, hm, hv⟩ := R.loc
      refine wpAny_storeName_local hk' hm (fun h' hn hs => ?_) (by rw [R.kind]; rfl)
      obtain ⟨W', S⟩ := W.side (X := X) (hXl hk') (R.un _ (.inl rfl)) (R.low _ (.inl rfl)) (let ⟨_, _, _, z, _⟩ := hn; ⟨_, z⟩) hs (fun a q => R.mut a (hXo a q))
      refine k h' _ ⟨R.kind, R.glob, R.bi, by rw [List.length_set]; exact R.len, ⟨_, hn, fun y u ky g => ?_⟩, fun y c hy => ?_, R.has, R.un, R.low, R.ap⟩ W' S
      · by_cases hyx : y = x
        · subst hyx
          rw [getR_set_eq hxl] at g
          cases g
          exact ⟨V, by simp, r.stp S⟩
        · rw [getR_set_ne (idx_ne hx (Ne.symm hyx))] at g
          obtain ⟨V', e, r'⟩ := hv y u ky g
          exact ⟨V', by simp [hyx, e], r'.stp S⟩
      · obtain ⟨ov, hc, hv⟩ := R.cel y c hy
        refine ⟨ov, hc.sameBut hs (R.localsNotCell hy), fun ky u g => ?_⟩
        have hyx : y ≠ x := by
          rintro rfl
          rw [hk'] at ky
          rcases ky with q | q <;> cases q
        rw [getR_set_ne (idx_ne hx (Ne.symm hyx))] at g
        obtain ⟨V', e, r'⟩ := hv ky u g
        exact ⟨V', e, r'.stp S⟩
    | cell =>
      obtain ⟨c, hc⟩ := R.has x (.inl hk') hx
      obtain ⟨ov, hcell, _⟩ := R.cel x c hc
      refine wpAny_storeName_cell R.kind hk' hc hcell fun h' hn hs => ?_
      obtain ⟨W', S⟩ := W.side (X := X) (hXc hk' c hc) (R.un _ (.inr ⟨x, hc⟩)) (R.low _ (.inr ⟨x, hc⟩)) (let ⟨_, z, _⟩ := hn; ⟨_, z⟩) hs (fun a q => R.mut a (hXo a q))
      obtain ⟨m, hm, hv⟩ := R.loc
      refine k h' _ ⟨R.kind, R.glob, R.bi, by rw [List.length_set]; exact R.len, ⟨m, hm.sameBut hs (R.localsNotCell hc).symm, fun y u ky g => ?_⟩, fun y c' hy => ?_, R.has, R.un, R.low, R.ap⟩ W' S
      · have hyx : y ≠ x := by rintro rfl; rw [hk'] at ky; cases ky
        rw [getR_set_ne (idx_ne hx (Ne.symm hyx))] at g
        obtain ⟨V', e, r'⟩ := hv y u ky g
        exact ⟨V', e, r'.stp S⟩
      · by_cases hyx : y = x
        · subst hyx
          rw [hc] at hy; cases hy
          refine ⟨_, hn, fun _ u g => ?_⟩
          rw [getR_set_eq hxl] at g
          cases g
          exact ⟨V, rfl, r.stp S⟩
        · obtain ⟨ov', hc', hv'⟩ := R.cel y c' hy
          refine ⟨ov', hc'.sameBut hs fun q => hyx (R.ap _ _ _ hy (q ▸ hc)), fun ky u g => ?_⟩
          rw [getR_set_ne (idx_ne hx (Ne.symm hyx))] at g
          obtain ⟨V', e, r'⟩ := hv' ky u g
          exact ⟨V', e, r'.stp S⟩
    | free => cases hk
    | globalExplicit => cases hk
    | globalImplicit => cases hk

/-- a name of the frame is read -/
theorem load_sound {A : Around} {E : Value → Shared → Prop} {s : Shared} {x : Str} {pos : Pos} {v : AV} {Q : Value → Shared → Prop} (R : ER base env sl ρ φ s.heap)
    (hk : isVar (env.kindOf x) = true) (hx : sl.idxOf x < sl.length) (ho : nameOk x = true) (g : getR ρ (sl.idxOf x) = some v) (k : ∀ V, VR φ s.heap v V → Q V s) :
    wpAny (model prog w) A (eval (.Name x pos) env) Q E s := by
  obtain ⟨n1, n2⟩ := Bool.and_eq_true_iff.mp ho
  have n1 : (x == ("__debug__" : Str)) = false := by simpa using n1
  have n2 : (x == ("__classdict__" : Str)) = false := by simpa using n2
  cases hk' : env.kindOf x with
  | none => rw [hk'] at hk; cases hk
  | some kd =>
    rw [hk'] at hk
    cases kd with
    | «local» =>
      obtain ⟨m, hm, hv⟩ := R.loc
      obtain ⟨V, e, r⟩ := hv x v hk' g
      exact wpAny_Name (wpAny_loadName_local R.kind hk' hm e (k V r)) n1
    | cell =>
      obtain ⟨c, hc⟩ := R.has x (.inl hk') hx
      obtain ⟨ov, hcell, hv⟩ := R.cel x c hc
      obtain ⟨V, e, r⟩ := hv (.inl hk') v g
      subst e
      exact wpAny_Name (wpAny_loadName_cell R.kind hk' hc hcell (k V r)) n1
    | free =>
      obtain ⟨c, hc⟩ := R.has x (.inr hk') hx
      obtain ⟨ov, hcell, hv⟩ := R.cel x c hc
      obtain ⟨V, e, r⟩ := hv (.inr hk') v g
      subst e
      exact wpAny_Name (wpAny_loadName_free R.kind hk' hc hcell (k V r) n2) n1
    | globalExplicit => cases hk
    | globalImplicit => cases hk
end
end Mine
end
section
set_option autoImplicit false
set_option Elab.async false
namespace Mine
open PySem PySem.Calls PyProof.Rows

/-- the rest of a run, from what the machine asks of it -/
def Kon (prog : Program) (w : World) (base : Heap) (φ : Phi) (s : Shared) (K : AH → AV → Prop) (Q : Value → Shared → Prop) : Prop :=
  ∀ φ' h' tk V v H', Stp φ s.heap φ' h' → WR prog w base φ' H' h' → VR φ' h' v V → K H' v → Q V { s with heap := h', toks := tk }

section
variable {prog : Program} {w : World} {base : Heap} {φ φ₁ : Phi} {s : Shared} {H : AH} {K : AH → AV → Prop} {Q : Value → Shared → Prop} {A : Around} {E : Value → Shared → Prop} {h h₁ : Heap} {P : Value → Prop} {V : Value} {v : AV} {tk : Nat}

theorem Kon.here (k : Kon prog w base φ s K Q) (W : WR prog w base φ H s.heap) (e : K H v) (r : VR φ s.heap v V) (tk : Nat) : Q V { s with toks := tk } :=
  k φ s.heap tk V v H (StpX.refl _ _) W r e
theorem Kon.at (k : Kon prog w base φ s K Q) (W : WR prog w base φ H s.heap) (e : K H v) (r : VR φ s.heap v V) : Q V s := k.here W e r s.toks
theorem Kon.shift (k : Kon prog w base φ s K Q) (S : Stp φ s.heap φ₁ h₁) : Kon prog w base φ₁ { s with heap := h₁, toks := tk } K Q :=
  fun φ' h' tk' V v H' S' W r e => k φ' h' tk' V v H' (S.trans S') W r e
/-- a new tracked object -/
theorem Kon.new {o : Obj} {ao : AO} (k : Kon prog w base φ s K Q) (W : WR prog w base φ H s.heap)
    (r : Stp φ s.heap (φ ++ [(s.heap.objs.size, none)]) (s.heap.push o) → OR prog w (φ ++ [(s.heap.objs.size, none)]) (s.heap.push o) (s.heap.objs.size, none) ao) (e : K (H ++ [ao]) (.ref H.length)) (tk : Nat) :
    Q (.ref s.heap.objs.size) { s with heap := s.heap.push o, toks := tk } :=
  let ⟨W', S⟩ := W.alloc r
  k _ _ tk _ (.ref H.length) _ S W' ⟨(s.heap.objs.size, none), by rw [← W.len]; simp, rfl⟩ e
/-- a new object that is not tracked -/
theorem WR.junk (W : WR prog w base φ H s.heap) (o : Obj) : WR prog w base φ H (s.heap.push o) ∧ Stp φ s.heap φ (s.heap.push o) :=
  W.grow fun a o' e => Heap.get?_push_of_some _ e
theorem WR.notNew (W : WR prog w base φ H h) : h.objs.size ∉ adrs φ := fun q => Nat.lt_irrefl _ (W.lt q)
theorem lid_le : lid ≤ sizeLine := by rw [lid_eq]; decide
theorem lid_6 : lid + lid < 2 ^ 60 := by rw [lid_eq]; decide
theorem lid_v {n : Nat} (h : n ≤ lid) : n ≤ 1000000 := lid_eq ▸ h

theorem new_list {xs : List AV} (k : Kon prog w base φ s K Q) (W : WR prog w base φ H s.heap) {vs : List Value} (r : VRs φ s.heap xs vs) (l : xs.length ≤ lid) (e : newL H K xs) (tk : Nat) :
    Q (.ref s.heap.objs.size) { s with heap := s.heap.push { cls := .type "list", data := .seq vs.toArray }, toks := tk } :=
  k.new (ao := .list xs) W (fun S => ⟨rfl, l, vs, 0, Heap.get?_push_size _ rfl, r.stp S⟩) e tk
theorem new_tup {xs : List AV} {vs : List Value} (k : Kon prog w base φ s K Q) (W : WR prog w base φ H s.heap) (r : VRs φ s.heap xs vs) (l : xs.length ≤ lid) (e : K H (.tup xs)) (tk : Nat) :
    Q (.ref s.heap.objs.size) { s with heap := s.heap.push { cls := .type "tuple", data := .seq vs.toArray }, toks := tk } :=
  let ⟨W', S⟩ := W.junk { cls := .type "tuple", data := .seq vs.toArray }
  k φ _ tk _ (.tup xs) _ S W' ⟨l, _, vs, rfl, Heap.get?_push_size _ rfl, W.notNew, r.stp S⟩ e

/-! ### what a head tells of a value -/
theorem okW.el {α : Type} {o : Option α} {F : α → Prop} {P : Prop} (h : okW o F) (k : ∀ a, o = some a → F a → P) : P := by
  cases o with
  | none => exact h.elim
  | some a => exact k a rfl h
theorem cdW.el {b : Bool} {F P : Prop} (h : cdW b F) (k : b = true → F → P) : P := by
  cases b with
  | true => exact k rfl h
  | false => exact h.elim
@[elab_as_elim] theorem intW.el {F : Int → Prop} (e : intW v F) (r : VR φ h v V) (k : ∀ i t, F i → P (.int i t)) : P V := by
  cases v with
  | int i => obtain ⟨t, rfl⟩ := r; exact k i t e
  | _ => exact e.elim
@[elab_as_elim] theorem natW.el {F : Nat → Prop} (e : natW v F) (r : VR φ h v V) (k : ∀ (i : Nat) t, F i → P (.int i t)) : P V := by
  cases v with
  | int i => obtain ⟨t, rfl⟩ := r; cases i with
    | ofNat i => exact k i t e
    | negSucc i => exact e.elim
  | _ => exact e.elim
@[elab_as_elim] theorem tupE {xs : List AV} (r : VR φ h (.tup xs) V) (k : ∀ a vs, xs.length ≤ lid → h.get? a = some (tupO vs) → a ∉ adrs φ → VRs φ h xs vs → P (.ref a)) : P V := by
  obtain ⟨l, a, vs, rfl, g, m, q⟩ := r; exact k a vs l g m q
@[elab_as_elim] theorem tupW.el {F : List AV → Prop} (e : tupW v F) (r : VR φ h v V) (k : ∀ xs a vs, F xs → xs.length ≤ lid → h.get? a = some (tupO vs) → a ∉ adrs φ → VRs φ h xs vs → P (.ref a)) : P V := by
  cases v with
  | tup xs => exact tupE r fun a vs => k xs a vs e
  | _ => exact e.elim
theorem refW.el {F : Nat → Prop} {P : Prop} (e : refW v F) (k : ∀ n, v = .ref n → F n → P) : P := by
  cases v with
  | ref n => exact k n rfl e
  | _ => exact e.elim
@[elab_as_elim] theorem boolW.el {F : Bool → Prop} (e : boolW v F) (r : VR φ h v V) (k : ∀ b, F b → P (.bool b)) : P V := by
  cases v with
  | bool b => have r' : V = .bool b := r; subst r'; exact k b e
  | _ => exact e.elim
@[elab_as_elim] theorem noneW.el {F : Prop} (e : noneW v F) (r : VR φ h v V) (k : F → P .none) : P V := by
  cases v with
  | none => have r' : V = .none := r; subst r'; exact k e
  | _ => exact e.elim
theorem lstW.el {F : List AV → Prop} {P : Prop} {o : AO} (e : lstW o F) (k : ∀ xs, o = .list xs → F xs → P) : P := by
  cases o with
  | list xs => exact k xs rfl e
  | _ => exact e.elim
@[elab_as_elim] theorem oneW.el {F : AV → Prop} {P : List Value → Prop} {xs : List AV} {vs : List Value} (e : oneW xs F) (r : VRs φ h xs vs) (k : ∀ x X, F x → VR φ h x X → P [X]) : P vs := by
  cases xs with
  | nil => exact e.elim
  | cons x t => cases t with
    | nil => obtain ⟨X, _, rfl, q, q'⟩ := r; have q'' : _ = _ := q'; subst q''; exact k x X e q
    | cons _ _ => exact e.elim
@[elab_as_elim] theorem twoW.el {F : AV → AV → Prop} {P : List Value → Prop} {xs : List AV} {vs : List Value} (e : twoW xs F) (r : VRs φ h xs vs) (k : ∀ x y X Y, F x y → VR φ h x X → VR φ h y Y → P [X, Y]) : P vs := by
  cases xs with
  | nil => exact e.elim
  | cons x t => obtain ⟨X, vs, rfl, q, q'⟩ := r; exact oneW.el (P := fun l => P (X :: l)) e q' fun y Y f q' => k x y X Y f q q'

/-- what is tracked at a place -/
@[elab_as_elim] theorem WR.refE (W : WR prog w base φ H h) {n : Nat} {o : AO} (e : H[n]? = some o) (r : VR φ h (.ref n) V) (k : ∀ a x, φ[n]? = some (a, x) → OR prog w φ h (a, x) o → P (.ref a)) : P V := by
  obtain ⟨p, hp, rfl⟩ := r
  exact k p.1 p.2 hp (W.obj n o p e hp)
@[elab_as_elim] theorem WR.lstE (W : WR prog w base φ H h) {n : Nat} {xs : List AV} (e : H[n]? = some (.list xs)) (r : VR φ h (.ref n) V) (k : ∀ a vs m, φ[n]? = some (a, none) → h.get? a = some (lstO vs m) → xs.length ≤ lid → VRs φ h xs vs → P (.ref a)) : P V :=
  W.refE e r fun a x hp ⟨ex, l, vs, m, g, q⟩ => by
    have ex : x = none := ex
    subst ex; exact k a vs m hp g l q
theorem Lk.el {n : Nat} {F : AO → Prop} {P : Prop} (e : Lk H n F) (k : ∀ o, H[n]? = some o → F o → P) : P := let ⟨g, f⟩ := e; k _ g f
@[elab_as_elim] theorem Lk.lst {n : Nat} {F : List AV → Prop} (W : WR prog w base φ H h) (e : Lk H n fun o => lstW o F) (r : VR φ h (.ref n) V) (k : ∀ xs a vs m, F xs → φ[n]? = some (a, none) → h.get? a = some (lstO vs m) → xs.length ≤ lid → VRs φ h xs vs → P (.ref a)) : P V :=
  e.el fun o g f => f.el fun xs ho f => W.lstE (ho ▸ g) r fun a vs m => k xs a vs m f
end
section
variable {prog : Program} {w : World} {base : Heap} {φ : Phi} {s : Shared} {H : AH} {K : AH → AV → Prop} {Q : Value → Shared → Prop} {A : Around} {E : Value → Shared → Prop} {n : Nat} {a b : AV} {Va Vb : Value}

/-! ### the operators -/
theorem bitOr_nat (a b : Nat) : Builtin.bitOr a b = ((a ||| b : Nat) : Int) := by
  unfold Builtin.bitOr Builtin.bitAnd Builtin.bitNot
  have h1 : decide (0 ≤ -(a : Int) - 1) = false := decide_eq_false (by lia)
  have h2 : decide (0 ≤ -(b : Int) - 1) = false := decide_eq_false (by lia)
  rw [h1, h2]
  have e1 : (-(-(a : Int) - 1) - 1).toNat = a := by lia
  have e2 : (-(-(b : Int) - 1) - 1).toNat = b := by lia
  simp only [e1, e2]
  lia
theorem bitAnd_nat (a b : Nat) : Builtin.bitAnd a b = ((a &&& b : Nat) : Int) := by
  unfold Builtin.bitAnd
  rw [decide_eq_true (Int.natCast_nonneg a), decide_eq_true (Int.natCast_nonneg b)]; rfl
theorem arr_app {α : Type} (a b : List α) : a.toArray ++ b.toArray = (a ++ b).toArray := by simp

theorem add_tup (W : WR prog w base φ H s.heap) {xs ys : List AV} (ra : VR φ s.heap (.tup xs) Va) (rb : VR φ s.heap (.tup ys) Vb) (hl : xs.length + ys.length ≤ lid) (k : Kon prog w base φ s K Q) (e : K H (.tup (xs ++ ys))) : wpAny (model prog w) A (binaryOp .Add Va Vb) Q E s := by
  refine tupE ra fun a1 vs l1 g1 m1 q1 => tupE rb fun a2 ws l2 g2 m2 q2 => ?_
  have hll : (xs ++ ys).length ≤ lid := List.length_append ▸ hl
  by_cases hv : vs = []
  · have : xs = [] := by subst hv; exact List.eq_nil_of_length_eq_zero (q1.length)
    subst this hv
    exact concat_meets ⟨_, g1, rfl⟩ ⟨_, g2, rfl⟩ noFill_tuple_add seq_tuple_add PySem.F.slot_tuple_add PySem.F.entry_tuple_add (PySem.F.args_tuple_add_2 _ _)
      (tuple_addW0 a1 a2 _ ws.toArray 0 0 none none #[] #[] (by simp)) ⟨g1, g2, k.at W e ⟨l2, a2, ws, rfl, g2, m2, q2⟩⟩
  · by_cases hw : ws = []
    · have : ys = [] := by subst hw; exact List.eq_nil_of_length_eq_zero (q2.length)
      subst this hw
      rw [List.append_nil] at e
      exact concat_meets ⟨_, g1, rfl⟩ ⟨_, g2, rfl⟩ noFill_tuple_add seq_tuple_add PySem.F.slot_tuple_add PySem.F.entry_tuple_add (PySem.F.args_tuple_add_2 _ _)
        (tuple_addW1 a1 a2 vs.toArray _ 0 0 none none #[] #[] (by simpa using hv) (by simp)) ⟨g1, g2, k.at W e ⟨l1, a1, vs, rfl, g1, m1, q1⟩⟩
    · refine concat_meets ⟨_, g1, rfl⟩ ⟨_, g2, rfl⟩ noFill_tuple_add seq_tuple_add PySem.F.slot_tuple_add PySem.F.entry_tuple_add (PySem.F.args_tuple_add_2 _ _)
        (tuple_addW2 a1 a2 vs.toArray ws.toArray 0 0 none none #[] #[] (by simpa using hv) (by simpa using hw) (by rw [q1.length, q2.length] at hl; exact Nat.le_trans hl lid_le)) ⟨g1, g2, ?_⟩
      rw [arr_app]
      exact new_tup k W (q1.append q2) hll e s.toks
theorem add_lst (W : WR prog w base φ H s.heap) {i j : Nat} (ra : VR φ s.heap (.ref i) Va) (rb : VR φ s.heap (.ref j) Vb) (k : Kon prog w base φ s K Q) (e : Lk H i (addO H K j)) : wpAny (model prog w) A (binaryOp .Add Va Vb) Q E s := by
  refine Lk.lst W e ra fun xs a1 vs m1 e hp1 g1 l1 q1 => Lk.lst W e rb fun ys a2 ws m2 e hp2 g2 l2 q2 => ?_
  refine P.add_list g1 g2 ?_ (by rw [List.size_toArray, List.size_toArray]; rw [← q1.length, ← q2.length]; exact Nat.le_trans e.1 lid_le)
  rw [arr_app]
  exact new_list k W (q1.append q2) (List.length_append ▸ e.1) e.2 s.toks
theorem VRs.replicate {φ : Phi} {h : Heap} {x : AV} {V : Value} (r : VR φ h x V) : ∀ n, VRs φ h (List.replicate n x) (List.replicate n V)
  | 0 => rfl
  | n + 1 => ⟨V, _, rfl, r, VRs.replicate r n⟩
theorem mul_lst (W : WR prog w base φ H s.heap) {i : Nat} (ra : VR φ s.heap (.ref i) Va) {kk : Nat} {z : Int} (hz : z = kk) {u : Tok} (k : Kon prog w base φ s K Q) (e : Lk H i (mulO H K kk)) : wpAny (model prog w) A (binaryOp .Mult Va (.int z u)) Q E s := by
  refine Lk.lst W e ra fun xs a1 vs n1 e hp1 g1 l1 q1 => ?_
  have hv : ∃ x V, vs = [V] ∧ VR φ s.heap x V ∧ Gd (kk ≤ lid) (newL H K (List.replicate kk x)) := oneW.el (P := fun vs => ∃ x V, vs = [V] ∧ VR φ s.heap x V ∧ Gd (kk ≤ lid) (newL H K (List.replicate kk x))) e q1 fun x X f r => ⟨x, X, rfl, r, f⟩
  obtain ⟨x, v1, rfl, q2, hk, e⟩ := hv
  have hk1 : z ≤ 1000000 := by have := lid_v hk; omega
  have hk0 : 0 ≤ z := by omega
  have hzt : z.toNat = kk := by omega
  refine wpAny_binaryOp_repeat_ref (T := "list") (U := "int") (by decide) ⟨_, g1, rfl⟩ (fun s' => typeIs_int s' _ u) noFill_list_mul PySem.F.fills_int_mul PySem.F.slot_int_rmul repeat_list PySem.F.slot_int_index.lookup
    (call_meets PySem.F.slot_int_rmul (typeIs_int s _ u) PySem.F.entry_int_rmul (PySem.F.args_int_rmul_2 _ _) (int___rmul___int_list _ u a1 _ n1)
      ⟨g1, rfl, ⟨_, g1, rfl⟩, call_meets PySem.F.slot_list_mul ⟨_, g1, rfl⟩ PySem.F.entry_list_mul (PySem.F.args_list_mul_2 _ _)
        (AutoListH.list___mul___list_int_3 a1 _ n1 _ u (by simp [Builtin.List.listFitsIndex]; omega) (by simp; omega) (by simp [Builtin.List.listTooLong, sizeLine]; omega))
        ⟨g1, ?_⟩⟩)
  have e2 : List.foldl (fun x1 x2 => x1 ++ x2) #[] (List.replicate (if ([v1] : List Value).toArray.isEmpty = true then 0 else z.toNat) ([v1] : List Value).toArray) = (List.replicate kk v1).toArray := by
    have : (([v1] : List Value).toArray.isEmpty = true) = False := by simp
    simp only [this, if_false, hzt]
    rw [listMul_foldl]
    simp [lm_rep_flat_one]
  rw [e2]
  exact new_list k W (VRs.replicate q2 kk) (by rw [List.length_replicate]; exact hk) e s.toks

theorem binW_sound {op : Operator} (e : binW H K op a b) (W : WR prog w base φ H s.heap) (g : Good A n) (ra : VR φ s.heap a Va) (rb : VR φ s.heap b Vb)
    (k : Kon prog w base φ s K Q) : wpAny (model prog w) A (binaryOp op Va Vb) Q E s := by
  cases op with
  | Add =>
    cases a with
    | int x => exact intW.el (P := fun Va => wpAny (model prog w) A (binaryOp .Add Va Vb) Q E s) (v := .int x) (F := fun x => intW b fun y => K H (.int (x + y))) e ra fun x t e => intW.el e rb fun y u e => P.add_int (k.here W e ⟨_, rfl⟩ _)
    | tup xs => 
      cases b with
      | tup ys => exact add_tup W ra rb e.1 k e.2
      | _ => exact e.elim
    | ref i =>
      cases b with
      | ref j => exact add_lst W ra rb k e
      | _ => exact e.elim
    | _ => exact e.elim
  | Sub =>
    exact intW.el e ra fun x t e => intW.el e rb fun y u e => P.sub_int (k.here W e ⟨_, rfl⟩ _)
  | Mult =>
    cases a with
    | int x => exact intW.el (P := fun Va => wpAny (model prog w) A (binaryOp .Mult Va Vb) Q E s) (v := .int x) (F := fun x => intW b fun y => Gd (x.natAbs < 2 ^ 60 ∨ y.natAbs < 2 ^ 60) (K H (.int (x * y)))) e ra fun x t e => intW.el e rb fun y u e =>
        P.mul_int (k.here W e.2 ⟨_, rfl⟩ _) (e.1.elim (fun h => .of_left (intBits_le_64 (by lia) (by lia))) fun h => .of_right (intBits_le_64 (by lia) (by lia)))
    | ref i => exact natW.el e rb fun y u e => mul_lst W ra rfl k e
    | _ => exact e.elim
  | FloorDiv =>
    exact intW.el e ra fun x t e => intW.el e rb fun y u ⟨h, e⟩ => by
      refine floordiv_int_or g.hand (fun q => by lia) (fun _ => ?_) fun _ => .inl (PyProof.noPylong_small (by lia))
      rw [Int.fdiv_eq_ediv_of_nonneg _ (by lia)]
      exact k.here W e ⟨_, rfl⟩ _
  | Mod =>
    exact intW.el e ra fun x t e => intW.el e rb fun y u ⟨h, e⟩ => by
      refine mod_int_or g.hand (fun q => by lia) (fun _ => ?_)
      rw [Int.fmod_eq_emod_of_nonneg _ (by lia)]
      exact k.here W e ⟨_, rfl⟩ _
  | BitAnd =>
    exact natW.el e ra fun x t e => natW.el e rb fun y u e => and_int (by rw [bitAnd_nat]; exact k.here W e ⟨_, rfl⟩ _)
  | BitOr =>
    exact natW.el e ra fun x t e => natW.el e rb fun y u e => or_int (by rw [bitOr_nat]; exact k.here W e ⟨_, rfl⟩ _)
  | LShift =>
    exact natW.el e ra fun x t e => natW.el e rb fun y u ⟨h, e⟩ => lshift_int_small (by lia) (by lia) (by lia) (by
      refine k.here W e ⟨s.toks, ?_⟩ _
      show Value.int ((x : Int) * 2 ^ (y : Int).toNat) _ = _
      rw [Int.toNat_natCast]; push_cast; rfl)
  | RShift =>
    exact natW.el e ra fun x t e => natW.el e rb fun y u e => rshift_int (by lia) (by
      refine k.here W e ⟨s.toks, ?_⟩ _
      congr 1
      rw [Nat.shiftRight_eq_div_pow, Int.fdiv_eq_ediv_of_nonneg _ (by exact Int.le_of_lt (Int.pow_pos (by decide)))]
      simp)
  | _ => exact e.elim
end
end Mine
end
section
set_option autoImplicit false
set_option Elab.async false
namespace Mine
open PySem PySem.Calls PyProof.Rows PySem.W

/-! ## Dicts -/
section
variable {prog : Program} {w : World} {A : Around} {E : Value → Shared → Prop} {s : Shared} {K : Type} [DecidableEq K] {knd : KeyKind prog w K}
theorem dictSet_at {d : Addr} {kvs : List (K × Value)} {k : K} {key v : Value} {Q : Unit → Shared → Prop} (hkey : knd.is k key = true) (hm : s.heap.DictAt knd d kvs kvs.length)
    (hQ : ∀ h', h'.DictAt knd d (stored kvs k v) (stored kvs k v).length → Heap.SameBut d s.heap h' → Q () { s with heap := h', toks := s.toks + 1 })
    (hsz : kvs.length ≤ sizeLine) : wpAny (model prog w) A (dictSet d key v) Q E s := by
  obtain ⟨o, es, ho, hc, hd, hk, hp, hn⟩ := hm
  have hes : es.size ≤ sizeLine := by have e1 := hp.length; have e2 : es.toList.length = es.size := by simp
                                      lia
  unfold dictSet
  try with_reducible refine wpAny_holding ?_
  refine wpAny_bind (knd.pyHash hkey ?_)
  unfold dictSetHashed
  try with_reducible refine wpAny_holding ?_
  refine wpAny_bind (wpAny_dictFind_of (s := { s with toks := s.toks + 1 }) hkey ho hd hk ?_)
  have hidx : (es.findIdx? fun e => knd.is k e.key) = kvs.findIdx? fun kv => decide (kv.1 = k) := by
    rw [← hp.findIdx k]; obtain ⟨l⟩ := es; simp
  cases hi : es.findIdx? fun e => knd.is k e.key with
  | some i =>
    have hst : stored kvs k v = kvs.map fun kv => if kv.1 = k then (kv.1, v) else kv := by rw [stored, if_pos (any_of_findIdx_some (hidx ▸ hi))]
    refine wpAny_bind (wpAny_rule (wpAny_bind (wpAny_updateDict (s := { s with toks := s.toks + 1 }) ho hd (wpAny_point (hQ _ ⟨_, es.modify i fun e => { e with val := v }, Heap.get?_update_self _ ho (Obj.isFreed_of_dict (Obj.data_mapDict hd _)),
      hc.mapDict _, ?_, hk.modify i v, ?_, ?_⟩ (Heap.SameBut.update ..))))))
    · rw [hst, List.length_map]; exact Obj.data_mapDict hd _
    · rw [hst]
      have hl : (es.toList.findIdx? fun e => knd.is k e.key) = some i := by rw [← hi]; obtain ⟨l⟩ := es; simp
      have := hp.modify hn hl v
      obtain ⟨l⟩ := es
      simpa using this
    · rw [hst, keys_map_store]; exact hn
  | none =>
    have hnot : k ∉ kvs.map (·.1) := not_mem_of_findIdx_none (hidx ▸ hi)
    have hany : ¬ (kvs.any fun kv => decide (kv.1 = k)) = true := by
      rw [List.any_eq_true]; rintro ⟨kv, hkv, he⟩
      exact hnot (List.mem_map.mpr ⟨kv, hkv, of_decide_eq_true he⟩)
    have hst : stored kvs k v = kvs ++ [(k, v)] := by rw [stored, if_neg hany]
    refine wpAny_bind (wpAny_rule (wpAny_updateDictKeys (hz := hes) (s := { s with toks := s.toks + 1 }) ho hd (hQ _ ⟨_, es.push ⟨knd.hash k, key, v⟩, Heap.get?_update_self _ ho (Obj.isFreed_of_dict (Obj.data_mapDictKeys hd _)),
      hc.mapDictKeys _, ?_, hk.push hkey v, ?_, ?_⟩ (Heap.SameBut.update ..))))
    · rw [hst, List.length_append]; exact Obj.data_mapDictKeys hd _
    · rw [hst]
      have := hp.append hkey (knd.hash k) v
      obtain ⟨l⟩ := es
      simpa using this
    · rw [hst, List.map_append, List.nodup_append]
      refine ⟨hn, by simp, ?_⟩
      intro a ha b hb
      simp only [List.map_cons, List.map_nil, List.mem_singleton] at hb
      subst hb
      exact fun e => hnot (e ▸ ha)

theorem setItem_at {d : Addr} {kvs : List (K × Value)} {k : K} {key v : Value} {Q : Unit → Shared → Prop} (hkey : knd.is k key = true) (hm : s.heap.DictAt knd d kvs kvs.length)
    (hQ : ∀ h', h'.DictAt knd d (stored kvs k v) (stored kvs k v).length → Heap.SameBut d s.heap h' → Q () { s with heap := h', toks := s.toks + 1 })
    (hsz : kvs.length ≤ sizeLine) : wpAny (model prog w) A (setItem (.ref d) key v) Q E s := by
  have hT : s.TypeIs (.ref d) "dict" := hm.dictOf.typeIs
  unfold setItem
  try with_reducible refine wpAny_holding ?_
  refine wpAny_bind (wpAny_sequenceKey hT (by decide) ?_)
  refine wpAny_bind (wpAny_callSpecial?_slot (name := Str.ofString "__setitem__") hT slot_dict_setitem
    (wpAny_call_entry slot_dict_setitem hT entry_dict_setitem ?_ (args_dict_setitem _ _ _)))
  show wpAny _ _ (Builtin.Dict.notOrdered "__setitem__" ⟨[.ref d, key, v], []⟩ >>= _) _ _ s
  refine wpAny_bind (wpAny_notOrdered_dict hT ?_)
  show wpAny _ _ (dictSet d key v >>= _) _ _ s
  exact wpAny_bind (dictSet_at (hsz := hsz) hkey hm fun h' hm' hs' => wpAny_pure ⟨.none, rfl, wpAny_pure (hQ h' hm' hs')⟩)

theorem notIn_heap {knd : HeapKind prog w K} {d a : Addr} {k : K} {xs : List (K × Addr × Value)} {Q : Value → Shared → Prop} (hu : knd.room A.in1) (hkey : knd.is s.heap k a) (hd : (d == sysModules) = false) (hm : s.heap.DictOfH knd d xs)
    (h : Q (.bool (!(atKey xs k).isSome)) { s with toks := s.toks + knd.draws k }) : wpAny (model prog w) A (compareOp .NotIn (.ref a) (.ref d)) Q E s := by
  show wpAny _ _ (do return .bool (!(← contains (.ref d) (.ref a)))) Q E s
  refine wpAny_bind ?_
  unfold contains
  try with_reducible refine wpAny_holding ?_
  refine wpAny_bind (wpAny_specialOf hm.typeIs slot_dict_contains.lookup ?_)
  show wpAny _ _ (if (some (Value.builtin "dict.__contains__") == some Value.none) = true then _ else _) _ E s
  rw [if_neg (by rw [beq_builtin_none]; exact Bool.false_ne_true)]
  refine wpAny_bind (wpAny_callSpecialUnlessNone?_slot (name := Str.ofString "__contains__") hm.typeIs slot_dict_contains
    (wpAny_call_entry slot_dict_contains hm.typeIs entry_dict_contains ?_ (args_dict_contains _ _)))
  show wpAny _ _ (dictGet d (.ref a) >>= _) _ _ s
  refine wpAny_bind (wpAny_dictGet_heap hu hkey hm ?_)
  cases hf : atKey xs k with
  | some p =>
    rw [hf] at h
    show wpAny _ _ (ret (.bool true)) _ _ _
    exact wpAny_pure ⟨_, rfl, wpAny_truthy_bool (wpAny_pure h)⟩
  | none =>
    rw [hf] at h
    show wpAny _ _ (Builtin.Dict.pendingKey? d (.ref a) >>= _) _ _ _
    exact wpAny_bind (wpAny_pendingKey_other hd (wpAny_pure ⟨_, rfl, wpAny_truthy_bool (wpAny_pure h)⟩))

theorem setdefault_heap {knd : HeapKind prog w K} (d a : Addr) (hd : (d == sysModules) = false) (dflt : Value) :
    MeetsIn prog w (Builtin.«dict.setdefault» ⟨[.ref d, .ref a, dflt], []⟩) (fun A R s => knd.room A.in1 ∧ ∃ k xs, knd.is s.heap k a ∧ s.heap.DictOfH knd d xs ∧
      (∀ p, atKey xs k = some p → R (.ok (.ret p.2)) { s with toks := s.toks + knd.draws k }) ∧
      (atKey xs k = none → xs.length ≤ sizeLine ∧ ∀ h', h'.DictOfH knd d (xs ++ [(k, a, dflt)]) → Heap.SameBut d s.heap h' → R (.ok (.ret dflt)) { s with heap := h', toks := s.toks + knd.draws k })) :=
  .of_wp fun A R s ⟨hu, k, xs, hkey, hm, h1, h2⟩ => by
    unfold Builtin.«dict.setdefault»
    refine wpAny_bind ?_
    unfold Builtin.Dict.keyAndDefault
    refine wpAny_bind (wpAny_notOrdered_dict hm.typeIs ?_)
    show wpAny _ _ (pure (d, Value.ref a, some dflt)) _ _ s
    refine wpAny_pure ?_
    show wpAny _ _ (if (d == sysModules) = true then _ else (dictSetDefault d (.ref a) dflt >>= _)) _ _ s
    rw [if_neg (by rw [hd]; exact Bool.false_ne_true)]
    refine wpAny_bind ?_
    obtain ⟨o, es, ep, ho, hc, hdd, he, his, hn⟩ := hm
    unfold dictSetDefault
    try with_reducible refine wpAny_holding ?_
    refine wpAny_bind (knd.pyHash hu hkey ?_)
    refine wpAny_bind (wpAny_dictFind_heap (s := { s with toks := s.toks + knd.draws k }) hu hkey ho hdd he his hn ?_ ?_)
    · intro hno
      have hnot : k ∉ xs.map (·.1) := not_mem_keys_of_get hno
      refine wpAny_bind (wpAny_rule (wpAny_bind (wpAny_updateDictKeys (hz := by have e := size_of_entries he; have := (h2 (atKey_none_of_get hno)).1; lia) (s := { s with toks := s.toks + knd.draws k }) ho hdd (wpAny_pure (wpAny_pure ⟨dflt, rfl, (h2 (atKey_none_of_get hno)).2 _ ⟨_, _, ep + 1, Heap.get?_update_self _ ho (Obj.isFreed_of_dict (Obj.data_mapDictKeys hdd _)),
        hc.mapDictKeys _, Obj.data_mapDictKeys hdd _, ?_, ?_, ?_⟩ (Heap.SameBut.update ..)⟩)))))
      · simp [he, entryOfKey]
      · intro x hx
        rcases List.mem_append.mp hx with hx | hx
        · exact knd.keeps (his x hx) ho hdd (Heap.SameBut.update ..)
        · simp only [List.mem_singleton] at hx
          subst hx
          exact knd.keeps hkey ho hdd (Heap.SameBut.update ..)
      · rw [List.map_append, List.nodup_append]
        refine ⟨hn, by simp, ?_⟩
        intro x hx y hy
        simp only [List.map_cons, List.map_nil, List.mem_singleton] at hy
        subst hy
        exact fun e => hnot (e ▸ hx)
    · intro j p hj
      refine wpAny_bind (wpAny_dictEntries (s := { s with toks := s.toks + knd.draws k }) ho hdd ?_)
      have := entry_at he j
      rw [hj] at this
      rw [this]
      exact wpAny_bind (wpAny_rule (wpAny_pure (wpAny_pure ⟨p.2, rfl, h1 p (atKey_of_get hn hj)⟩)))

end

inductive ResR (φ : Phi) (h : Heap) : Option AV → Option Value → Prop
  | no : ResR φ h none none
  | yes {x : AV} {V : Value} (r : VR φ h x V) : ResR φ h (some x) (some V)
section
variable {prog : Program} {w : World} {base : Heap} {φ : Phi} {s : Shared} {H : AH} {A : Around} {E : Value → Shared → Prop} {n : Nat}
theorem ResR.isSome {h : Heap} {a : Option AV} {b : Option Value} (r : ResR φ h a b) : b.isSome = a.isSome := by cases r <;> rfl
theorem valueAt_res {h : Heap} {a : Atom} : ∀ {kvs : List (Atom × AV)} {vs : List Value}, VRs φ h (kvs.map (·.2)) vs → ResR φ h (kvs.lookup a) (valueAt ((kvs.map (·.1)).zip vs) a)
  | [], _, e => by have e' : _ = _ := e; subst e'; exact .no
  | (k, x) :: r, _, ⟨V, vs', e, q, rr⟩ => by
    subst e
    have ih := valueAt_res (a := a) rr
    by_cases hk : k = a
    · subst hk
      simpa [valueAt, List.lookup_cons] using ResR.yes q
    · have hk' : (a == k) = false := by simpa using fun e => hk e.symm
      rw [List.lookup_cons, hk']
      simpa [valueAt, hk] using ih
theorem atKey_res {h : Heap} {as : List Atom} : ∀ {kvs : List (List Atom × AV)} {xs : List (List Atom × Addr × Value)}, xs.map (·.1) = kvs.map (·.1) → VRs φ h (kvs.map (·.2)) (xs.map (·.2.2)) → ResR φ h (kvs.lookup as) ((atKey xs as).map (·.2))
  | [], [], _, _ => .no
  | (k, y) :: r, (k', a, V) :: t, e, ⟨V', vs', e1, q, rr⟩ => by
    simp only [List.map_cons, List.cons.injEq] at e e1
    obtain ⟨rfl, e⟩ := e
    obtain ⟨rfl, rfl⟩ := e1
    have ih := atKey_res (as := as) e rr
    by_cases hk : k' = as
    · subst hk
      simpa [atKey] using ResR.yes q
    · have hk' : (as == k') = false := by simpa using fun e => hk e.symm
      rw [List.lookup_cons, hk']
      simpa [atKey, hk] using ih
theorem keys_zip {kvs : List (Atom × AV)} {vs : List Value} (h : kvs.length = vs.length) : ((kvs.map (·.1)).zip vs).length = kvs.length := by simp [h]

theorem stored_zip {φ : Phi} {h : Heap} {a : Atom} {x : AV} {V : Value} (hx : VR φ h x V) : ∀ {kvs : List (Atom × AV)} {vs : List Value}, (kvs.map (·.1)).Nodup → VRs φ h (kvs.map (·.2)) vs →
    ∃ ws, stored ((kvs.map (·.1)).zip vs) a V = ((putKV kvs a x).map (·.1)).zip ws ∧ VRs φ h ((putKV kvs a x).map (·.2)) ws
  | [], _, _, e => by have e' : _ = _ := e; subst e'; exact ⟨[V], by simp [stored, putKV], V, [], rfl, hx, rfl⟩
  | (k, y) :: r, _, hn, ⟨U, vs', e, q, rr⟩ => by
    subst e
    rw [List.map_cons, List.nodup_cons] at hn
    by_cases hk : k = a
    · subst hk
      refine ⟨V :: vs', ?_, ?_⟩
      · have h1 : k ∉ ((r.map (·.1)).zip vs').map (·.1) := fun q => by
          have hl := rr.length
          rw [List.map_fst_zip (by simpa using Nat.le_of_eq hl)] at q
          exact hn.1 q
        simp only [stored, putKV, List.map_cons, List.zip_cons_cons, List.any_cons, decide_true, Bool.true_or, if_true]
        rw [map_store_of_not_mem _ _ _ h1]
      · simp only [putKV, if_true, List.map_cons]
        exact ⟨V, vs', rfl, hx, rr⟩
    · obtain ⟨ws, e1, e2⟩ := stored_zip hx hn.2 rr
      refine ⟨U :: ws, ?_, ?_⟩
      · simp only [putKV, if_neg hk, List.map_cons, List.zip_cons_cons]
        rw [← e1]
        simp only [stored, List.any_cons, decide_eq_false hk, Bool.false_or, List.map_cons, if_neg hk, List.zip_cons_cons]
        split <;> rfl
      · simp only [putKV, if_neg hk, List.map_cons]
        exact ⟨U, ws, rfl, q, e2⟩

theorem dE_at {h : Heap} {a : Addr} (g : h.get? a = some (dicO [] 0)) : h.DictAt (atomKind prog w) a [] 0 :=
  ⟨_, #[], g, ⟨rfl, rfl, rfl⟩, rfl, fun _ q => by simp at q, .nil, List.nodup_nil⟩

theorem dE_atH {h : Heap} {a : Addr} (g : h.get? a = some (dicO [] 0)) : h.DictOfH (tupleKind (atomKind prog w)) a [] :=
  ⟨_, #[], 0, g, ⟨rfl, rfl, rfl⟩, rfl, rfl, fun _ q => by simp at q, List.nodup_nil⟩

theorem WR.notSys (W : WR prog w base φ H s.heap) (hb : (base.get? sysModules).isSome = true) {k : Nat} {d : Addr} {x : Option Addr} (hp : φ[k]? = some (d, x)) : (d == sysModules) = false := by
  have h1 := W.above d (adrs_mem hp)
  have : d ≠ sysModules := fun e => by rw [e] at h1; rw [h1] at hb; cases hb
  simpa using this

theorem atoms_at {as : List Atom} : ∀ {vs : List Value}, ItemsAre (atomKind prog w) as vs → ∀ (j : Nat) (h : j < vs.length), ∃ a, as[j]? = some a ∧ atomIs a vs[j] = true := by
  intro vs r
  induction r with
  | nil => intro j h; simp at h
  | cons h1 _ ih =>
    intro j h
    cases j with
    | zero => exact ⟨_, rfl, h1⟩
    | succ j => simpa using ih j (by simpa using h)

theorem eq_by_range {as bs : List Atom} (h : as.length = bs.length) : ((List.range as.length).all fun j => decide (as[j]? = bs[j]?)) = decide (as = bs) := by
  by_cases e : as = bs
  · subst e; simp
  · rw [decide_eq_false e]
    rw [Bool.eq_false_iff]
    intro q
    rw [List.all_eq_true] at q
    refine e (List.ext_getElem? fun i => ?_)
    by_cases hi : i < as.length
    · exact of_decide_eq_true (q i (List.mem_range.mpr hi))
    · rw [List.getElem?_eq_none (by lia), List.getElem?_eq_none (by lia)]

theorem atomEqAt {A : Around} {a b : Atom} {u v : Value} (hu : atomIs a u = true) (hv : atomIs b v = true) : SeqAt.EqAt A s u v (decide (a = b)) := fun _ _ _ _ h => atom_eqBool hu hv h

theorem any_atom {as : List Atom} {a : Atom} : ∀ {vs : List Value}, ItemsAre (atomKind prog w) as vs → (vs.any fun y => atomIs a y) = as.contains a := by
  intro vs r
  induction r with
  | nil => rfl
  | @cons b v as vs h1 _ ih =>
    have : atomIs a v = decide (a = b) := KeyKind.is_eq_decide (knd := atomKind prog w) h1 a
    rw [List.any_cons, this, ih, List.contains_cons]
    by_cases e : a = b
    · subst e; simp
    · rw [decide_eq_false e]
      have : (a == b) = false := by simpa using e
      rw [this]

theorem tupKey {h : Heap} {xs : List AV} {as : List Atom} {V : Value} (e : toAtoms xs = some as) (r : VR φ h (.tup xs) V) : ∃ t, V = .ref t ∧ (tupleKind (atomKind prog w)).is h as t ∧ t ∉ adrs φ := by
  obtain ⟨_, a, vs, rfl, g, m, q⟩ := r
  exact ⟨a, rfl, ⟨_, vs.toArray, 0, g, rfl, rfl, by simpa using atoms_of e q⟩, m⟩
theorem storedH_rel {h : Heap} {as : List Atom} {t : Addr} {x : AV} {V : Value} (hx : VR φ h x V) (ht : t ∉ adrs φ) : ∀ {kvs : List (List Atom × AV)} {xs : List (List Atom × Addr × Value)}, (xs.map (·.1)).Nodup →
    xs.map (·.1) = kvs.map (·.1) → VRs φ h (kvs.map (·.2)) (xs.map (·.2.2)) → (∀ x ∈ xs, x.2.1 ∉ adrs φ) →
    (storedH xs as t V).map (·.1) = (putKV kvs as x).map (·.1) ∧ VRs φ h ((putKV kvs as x).map (·.2)) ((storedH xs as t V).map (·.2.2)) ∧ ∀ y ∈ storedH xs as t V, y.2.1 ∉ adrs φ
  | [], [], _, _, _, _ => by simp [storedH, atKey, putKV, VRs, hx, ht]
  | (k, y) :: r, (k', a, U) :: ys, hn, e, ⟨V', vs', e1, q, rr⟩, f => by
    simp only [List.map_cons, List.cons.injEq] at e e1
    obtain ⟨rfl, e⟩ := e
    obtain ⟨rfl, rfl⟩ := e1
    rw [List.map_cons, List.nodup_cons] at hn
    by_cases hk : k' = as
    · subst hk
      have e2 : storedH ((k', a, U) :: ys) k' t V = (k', a, V) :: ys := by
        have : (atKey ((k', a, U) :: ys) k').isSome = true := by simp [atKey]
        rw [storedH, if_pos this, List.map_cons, map_putAt_of_not_mem _ _ _ hn.1]
        simp [putAt]
      rw [e2]
      simp only [putKV, if_true, List.map_cons]
      refine ⟨by rw [e], ⟨V, _, rfl, hx, rr⟩, fun z hz => ?_⟩
      rcases List.mem_cons.mp hz with rfl | hz
      · exact f (k', a, U) (.head _)
      · exact f z (.tail _ hz)
    · obtain ⟨i1, i2, i3⟩ := storedH_rel hx ht hn.2 e rr fun z hz => f z (.tail _ hz)
      have e2 : storedH ((k', a, U) :: ys) as t V = (k', a, U) :: storedH ys as t V := by
        have : (atKey ((k', a, U) :: ys) as).isSome = (atKey ys as).isSome := by simp [atKey, hk]
        unfold storedH
        rw [this]
        split
        · simp [putAt, hk]
        · rfl
      rw [e2]
      simp only [putKV, if_neg hk, List.map_cons]
      refine ⟨by rw [i1], ⟨U, _, rfl, q, i2⟩, fun z hz => ?_⟩
      rcases List.mem_cons.mp hz with rfl | hz
      · exact f (k', a, U) (.head _)
      · exact i3 z hz

theorem setItem_list {l : Addr} {vs : List Value} {m : Nat} {k : Int} {t : Tok} {x : Value} {Q : Unit → Shared → Prop} (g : s.heap.get? l = some (lstO vs m))
    (h0 : 0 ≤ k) (hfit : k < 2 ^ 63) (hn : k < vs.length)
    (hQ : ∀ h', h'.get? l = some (lstO (vs.set k.toNat x) m) → Heap.SameBut l s.heap h' → Q () { s with heap := h' }) :
    wpAny (model prog w) A (setItem (.ref l) (.int k t) x) Q E s := by
  have hl : s.heap.IsList l vs.toArray := ⟨_, g, rfl, m, rfl⟩
  unfold setItem
  try with_reducible refine wpAny_holding ?_
  first | refine wpAny_bind (wpAny_pure ?_) | skip
  refine wpAny_bind (wpAny_sequenceKey hl.typeIs (by decide) ?_)
  refine wpAny_bind (wpAny_callSpecial?_slot (name := Str.ofString "__setitem__") hl.typeIs slot_list_setitem
    (wpAny_call_entry slot_list_setitem hl.typeIs entry_list_setitem ?_ (args_list_setitem _ _ _)))
  show wpAny _ _ (Builtin.List.listSubscript? (.int k t) >>= _) _ _ s
  refine wpAny_bind (wpAny_listSubscript_int (fitsIndex_of h0 hfit) ?_)
  clear hfit
  obtain ⟨j, rfl⟩ := Int.eq_ofNat_of_zero_le h0
  have hj : j < vs.toArray.size := by simp; lia
  have hx' : vs.toArray[j]? = some vs.toArray[j] := Array.getElem?_eq_getElem hj
  show wpAny _ _ ((seqItemAt l j >>= fun r => pure (r.map (j, ·))) >>= _) _ _ s
  refine wpAny_bind (wpAny_bind (wpAny_seqItemAt g rfl (wpAny_pure ?_)))
  rw [hx']
  show wpAny _ _ (setSeqItemAt l j x >>= _) _ _ s
  have hfin : (s.heap.update l (Obj.mapSeq (·.setIfInBounds j x))).get? l = some (lstO (vs.set j x) m) := by
    rw [Heap.get?_update_self _ g rfl]
    show some (Obj.mapSeq (·.setIfInBounds j x) (lstO vs m)) = _
    simp [Obj.mapSeq]
  refine wpAny_bind (wpAny_setSeqItemAt g rfl ?_)
  first
    | exact wpAny_bind (wpAny_pure (wpAny_pure ⟨.none, rfl, wpAny_pure (hQ _ hfin (Heap.SameBut.update ..))⟩))
    | exact wpAny_pure ⟨.none, rfl, wpAny_pure (hQ _ hfin (Heap.SameBut.update ..))⟩

end
end Mine
end
section
set_option autoImplicit false
set_option Elab.async false
namespace Mine
open PySem PySem.Calls PyProof.Rows PySem.W

/-! ## Looks into dicts and rows; comparisons -/
section
variable {prog : Program} {w : World} {base : Heap} {φ : Phi} {s : Shared} {H : AH} {A : Around} {E : Value → Shared → Prop} {n : Nat} {h : Heap}

@[elab_as_elim] theorem WR.dE (W : WR prog w base φ H h) {k : Nat} (e : H[k]? = some .dE) {V : Value} {P : Value → Prop} (r : VR φ h (.ref k) V) (q : ∀ a, φ[k]? = some (a, none) → h.get? a = some (dicO [] 0) → P (.ref a)) : P V :=
  W.refE e r fun a x hp ⟨ex, g⟩ => by have ex : x = none := ex; subst ex; exact q a hp g
@[elab_as_elim] theorem WR.dA (W : WR prog w base φ H h) {k : Nat} {kvs : List (Atom × AV)} (e : H[k]? = some (.dA kvs)) {V : Value} {P : Value → Prop} (r : VR φ h (.ref k) V)
    (q : ∀ a vs, φ[k]? = some (a, none) → h.DictAt (atomKind prog w) a ((kvs.map (·.1)).zip vs) kvs.length → VRs φ h (kvs.map (·.2)) vs → P (.ref a)) : P V :=
  W.refE e r fun a x hp ⟨ex, vs, g, l⟩ => by have ex : x = none := ex; subst ex; exact q a vs hp g l
@[elab_as_elim] theorem WR.dT (W : WR prog w base φ H h) {k : Nat} {kvs : List (List Atom × AV)} (e : H[k]? = some (.dT kvs)) {V : Value} {P : Value → Prop} (r : VR φ h (.ref k) V)
    (q : ∀ a xs, φ[k]? = some (a, none) → h.DictOfH (tupleKind (atomKind prog w)) a xs → xs.map (·.1) = kvs.map (·.1) → VRs φ h (kvs.map (·.2)) (xs.map (·.2.2)) → (∀ x ∈ xs, x.2.1 ∉ adrs φ) → P (.ref a)) : P V :=
  W.refE e r fun a x hp ⟨ex, xs, g, l, l2, l3⟩ => by have ex : x = none := ex; subst ex; exact q a xs hp g l l2 l3
inductive InstAtR (φ : Phi) (h : Heap) (k c : Nat) (fs : List (Nat × AV)) : Value → Prop
  | mk {a C dx : Addr} {es : List DictEntry} {n : Nat} (hp : φ[k]? = some (a, some dx)) (hc : clsAddrs[c]? = some C) (g : h.get? a = some (instObj C dx)) (gd : h.get? dx = some (dicO es n)) (f : FR φ h fs es) : InstAtR φ h k c fs (.ref a)
theorem WR.inst (W : WR prog w base φ H h) {k c : Nat} {fs : List (Nat × AV)} (e : H[k]? = some (.inst c fs)) {V : Value} (r : VR φ h (.ref k) V) : InstAtR φ h k c fs V :=
  W.refE (P := InstAtR φ h k c fs) e r fun a x hp ⟨C, dx, es, n, ex, hc, g, gd, f⟩ => by have ex : x = some dx := ex; subst ex; exact ⟨hp, hc, g, gd, f⟩

/-- a look into a dict -/
@[elab_as_elim] theorem lookKey.el (W : WR prog w base φ H h) {k : Nat} {o : AO} {key : AV} {F : Option AV → Prop} {V Vk : Value} {P : Value → Value → Prop} (e : H[k]? = some o) (f : lookKey o key F) (r : VR φ h (.ref k) V) (rk : VR φ h key Vk)
    (k1 : ∀ d a kvs Vk res, φ[k]? = some (d, none) → atomIs a Vk = true → h.DictAt (atomKind prog w) d kvs kvs.length → ResR φ h res (valueAt kvs a) → F res → P (.ref d) Vk)
    (k2 : ∀ d t as xs res, φ[k]? = some (d, none) → (tupleKind (atomKind prog w)).is h as t → h.DictOfH (tupleKind (atomKind prog w)) d xs → ResR φ h res ((atKey xs as).map (·.2)) → F res → P (.ref d) (.ref t)) : P V Vk := by
  have key1 : o = .dE → (okW (toAtom key) fun _ => F none) → P V Vk := fun ho f => f.el fun a ha f => W.dE (P := fun V => P V Vk) (ho ▸ e) r fun d hp g => k1 d a [] Vk none hp (atom_of ha rk) (dE_at g) .no f
  cases o with
  | dE =>
    cases key with
    | tup xs =>
      exact okW.el f fun as ha f => W.dE (P := fun V => P V Vk) e r fun d hp g => by
        obtain ⟨t, rfl, ht, _⟩ := tupKey (prog := prog) (w := w) ha rk
        exact k2 d t as [] none hp ht (dE_atH g) .no f
    | _ => exact key1 rfl f
  | dA kvs => exact okW.el f fun a ha f => W.dA (P := fun V => P V Vk) e r fun d vs hp g q => k1 d a _ Vk _ hp (atom_of ha rk) ((keys_zip (by simpa using q.length)).symm ▸ g) (valueAt_res q) f
  | dT kvs =>
    cases key with
    | tup xs =>
      exact okW.el f fun as ha f => W.dT (P := fun V => P V Vk) e r fun d ys hp g ek q _ => by
        obtain ⟨t, rfl, ht, _⟩ := tupKey (prog := prog) (w := w) ha rk
        exact k2 d t as ys _ hp ht g (atKey_res ek q) f
    | _ => exact f.elim
  | _ => exact f.elim

/-! ### are two rows the same -/
def CmpR (prog : Program) (w : World) (A : Around) (E : Value → Shared → Prop) (s : Shared) (Va Vb : Value) (c : Bool) : Prop :=
  (∀ Q : Value → Shared → Prop, (∀ tk, Q (.bool c) { s with toks := tk }) → wpAny (model prog w) A (compareOp .Eq Va Vb) Q E s) ∧ (∀ Q : Value → Shared → Prop, (∀ tk, Q (.bool (!c)) { s with toks := tk }) → wpAny (model prog w) A (compareOp .NotEq Va Vb) Q E s)
theorem eqAt_all {A : Around} {as bs : List Atom} {vs ws : List Value} (i1 : ItemsAre (atomKind prog w) as vs) (i2 : ItemsAre (atomKind prog w) bs ws) : ∀ j (h1 : j < vs.toArray.size) (h2 : j < ws.toArray.size), SeqAt.EqAt A s vs.toArray[j] ws.toArray[j] (decide (as[j]? = bs[j]?)) := fun j h1 h2 => by
  obtain ⟨a, ea, ia⟩ := atoms_at i1 j (by simpa using h1)
  obtain ⟨b, eb, ib⟩ := atoms_at i2 j (by simpa using h2)
  rw [ea, eb]
  have : decide (some a = some b) = decide (a = b) := by simp
  rw [this]
  exact atomEqAt (by simpa using ia) (by simpa using ib)
theorem eqW.el {F : Bool → Prop} {a b : AV} {Va Vb : Value} {P : Prop} (e : eqW H F a b) (W : WR prog w base φ H s.heap) (g : Good A n) (ra : VR φ s.heap a Va) (rb : VR φ s.heap b Vb) (k : ∀ c, F c → CmpR prog w A E s Va Vb c → P) : P := by
  cases a with
  | int x =>
    cases b with
    | int y =>
      obtain ⟨t, rfl⟩ := ra
      obtain ⟨u, rfl⟩ := rb
      exact k _ e ⟨fun Q q => PyProof.Rows.eq_int (q s.toks), fun Q q => PyProof.Rows.ne_int (q s.toks)⟩
    | _ => exact e.elim
  | str x =>
    cases b with
    | str y =>
      obtain ⟨hk, t, rfl⟩ := ra
      obtain ⟨hj, u, rfl⟩ := rb
      have h1 : (sOf x == sOf y) = decide (x = y) := by
        by_cases q : x = y
        · subst q; simp
        · have : ¬ sOf x = sOf y := fun z => q (sOf_inj hk hj z)
          simp [q, this]
      have h2 : (sOf x != sOf y) = !decide (x = y) := by rw [← h1]; rfl
      exact k _ e ⟨fun Q q => PyProof.Rows.eq_str (h1.symm ▸ q s.toks), fun Q q => PyProof.Rows.ne_str (h2.symm ▸ q s.toks)⟩
    | _ => exact e.elim
  | tup xs =>
    cases b with
    | tup ys =>
      refine okW.el e fun as h3 e => okW.el e fun bs h4 e => ?_
      obtain ⟨_, a1, vs, rfl, g1, m1, q1⟩ := ra
      obtain ⟨_, a2, ws, rfl, g2, m2, q2⟩ := rb
      have i1 := atoms_of (prog := prog) (w := w) h3 q1
      have i2 := atoms_of (prog := prog) (w := w) h4 q2
      have hr : ((List.range (min vs.toArray.size ws.toArray.size)).all (fun j => decide (as[j]? = bs[j]?)) && vs.toArray.size == ws.toArray.size) = decide (as = bs) := by
        rw [show vs.toArray.size = as.length by simp [i1.length], show ws.toArray.size = bs.length by simp [i2.length]]
        by_cases hl : as.length = bs.length
        · rw [← hl, Nat.min_self, eq_by_range hl]; simp
        · have : (as.length == bs.length) = false := by simpa using hl
          rw [this, decide_eq_false fun z => hl (by rw [z]), Bool.and_false]
      exact k _ e ⟨fun Q q => SeqAt.RcAt.tuples ⟨_, g1, rfl, 0, rfl⟩ ⟨_, g2, rfl, 0, rfl⟩ g.un (eqAt_all i1 i2) prog w E Q (by rw [hr]; exact q s.toks), fun Q q => SeqAt.RcNeAt.tuples ⟨_, g1, rfl, 0, rfl⟩ ⟨_, g2, rfl, 0, rfl⟩ g.un (eqAt_all i1 i2) prog w E Q (by rw [hr]; exact q s.toks)⟩
    | _ => exact e.elim
  | ref i =>
    cases b with
    | ref j =>
      have key : ∃ xs ys, H[i]? = some (.list xs) ∧ H[j]? = some (.list ys) ∧ atomsEq F xs ys := Lk.el e fun o g1 e => lstW.el e fun xs ho e => Lk.el e fun o' g2 e => lstW.el e fun ys ho' e => ⟨xs, ys, ho ▸ g1, ho' ▸ g2, e⟩
      obtain ⟨xs, ys, h1, h2, e⟩ := key
      refine okW.el e fun as h3 e => okW.el e fun bs h4 e => ?_
      revert k
      refine W.lstE h1 ra fun a1 vs n1 hp1 g1 l1 q1 => W.lstE h2 rb fun a2 ws n2 hp2 g2 l2 q2 k => ?_
      have i1 := atoms_of (prog := prog) (w := w) h3 q1
      have i2 := atoms_of (prog := prog) (w := w) h4 q2
      have L1 : s.heap.IsList a1 vs.toArray := ⟨_, g1, rfl, n1, rfl⟩
      have L2 : s.heap.IsList a2 ws.toArray := ⟨_, g2, rfl, n2, rfl⟩
      by_cases hl : vs.length = ws.length
      · have hr : ((List.range vs.toArray.size).all fun j => decide (as[j]? = bs[j]?)) = decide (as = bs) := by
          rw [show vs.toArray.size = as.length by simp [i1.length]]; exact eq_by_range (by rw [i1.length, i2.length, hl])
        exact k _ e ⟨fun Q q => SeqAt.RcAt.lists L1 L2 (by simpa using hl) g.un (eqAt_all i1 i2) prog w E Q (by rw [hr]; exact q s.toks), fun Q q => SeqAt.RcNeAt.lists L1 L2 (by simpa using hl) g.un (eqAt_all i1 i2) prog w E Q (by rw [hr]; exact q s.toks)⟩
      · refine k _ e ?_
        rw [decide_eq_false fun z => hl (by rw [← i1.length, ← i2.length, z])]
        exact ⟨fun Q q => SeqAt.RcAt.lists_lengths L1 L2 (by simpa using hl) g.un prog w E Q (q s.toks), fun Q q => SeqAt.RcNeAt.lists_lengths L1 L2 (by simpa using hl) g.un prog w E Q (q s.toks)⟩
    | _ => exact e.elim
  | _ => exact e.elim

def InR (prog : Program) (w : World) (A : Around) (E : Value → Shared → Prop) (s : Shared) (Va Vb : Value) (c : Bool) : Prop :=
  (∀ Q : Value → Shared → Prop, (∀ tk, Q (.bool c) { s with toks := tk }) → wpAny (model prog w) A (compareOp .In Va Vb) Q E s) ∧ (∀ Q : Value → Shared → Prop, (∀ tk, Q (.bool (!c)) { s with toks := tk }) → wpAny (model prog w) A (compareOp .NotIn Va Vb) Q E s)
theorem in_at {a : Atom} {Va : Value} {bs : List Atom} {ws : List Value} (hx : atomIs a Va = true) (i2 : ItemsAre (atomKind prog w) bs ws) : (∀ y, y ∈ ws.toArray → SeqAt.EqAt A s y Va (atomIs a y)) ∧ (ws.toArray.any fun y => atomIs a y) = bs.contains a := by
  refine ⟨fun y hy => ?_, by rw [← any_atom i2]; simp⟩
  obtain ⟨j, hj⟩ := List.mem_iff_getElem?.mp (by simpa using hy)
  obtain ⟨b, eb, ib⟩ := atoms_at i2 j (List.getElem?_eq_some_iff.mp hj).1
  rw [(List.getElem?_eq_some_iff.mp hj).2] at ib
  rw [KeyKind.is_eq_decide (knd := atomKind prog w) (show (atomKind prog w).is b y = true from ib) a |> fun z => (show atomIs a y = decide (a = b) from z), show decide (a = b) = decide (b = a) from by simp [eq_comm]]
  exact atomEqAt ib hx
theorem inW.el {F : Bool → Prop} {a b : AV} {Va Vb : Value} {P : Prop} (e : inW H F a b) (W : WR prog w base φ H s.heap) (hb : (base.get? sysModules).isSome = true) (g : Good A (n + 1)) (ra : VR φ s.heap a Va) (rb : VR φ s.heap b Vb) (k : ∀ c, F c → InR prog w A E s Va Vb c → P) : P := by
  cases b with
  | tup ys =>
    refine okW.el e fun x h1 e => okW.el e fun bs h2 e => k _ e ?_
    obtain ⟨_, a2, ws, rfl, g2, m2, q2⟩ := rb
    have L2 : s.heap.IsTuple a2 ws.toArray := ⟨_, g2, rfl, 0, rfl⟩
    obtain ⟨he, hr⟩ := in_at (s := s) (A := A.in1) (atom_of h1 ra) (atoms_of (prog := prog) (w := w) h2 q2)
    exact ⟨fun Q q => SeqAt.in_tupleAt _ L2 he (hr ▸ q s.toks), fun Q q => SeqAt.notIn_tupleAt _ L2 he (hr ▸ q s.toks)⟩
  | ref m =>
    obtain ⟨h0, e⟩ := e
    rename_i o
    have dic : lookKey o a (fun r => F r.isSome) → P := fun e => by
      revert k
      refine lookKey.el (P := fun Vb Va => (∀ c, F c → InR prog w A E s Va Vb c → P) → P) W h0 e rb ra (fun d x kvs Vk res hp hk hD z f k => ?_) (fun d t as xs res hp hk hD z f k => ?_)
      · refine k _ f ?_
        rw [← z.isSome]
        exact ⟨fun Q q => wpAny_in_of (knd := atomKind prog w) hk (W.notSys hb hp) hD.dictOf.mapOf (q _), fun Q q => wpAny_notIn_of (knd := atomKind prog w) hk (W.notSys hb hp) hD.dictOf.mapOf (q _)⟩
      · refine k _ f ?_
        rw [← z.isSome, Option.isSome_map]
        have hu : (tupleKind (atomKind prog w)).room A.in1 := tupleKind_room_in1 (by have := g.units; lia)
        exact ⟨fun Q q => wpAny_in_heap hu hk (W.notSys hb hp) hD (q _), fun Q q => notIn_heap hu hk (W.notSys hb hp) hD (q _)⟩
    cases o with
    | list ys =>
      refine okW.el e fun x h1 e => okW.el e fun bs h2 e => k _ e ?_
      refine W.lstE h0 rb fun a2 ws n2 hp2 g2 l2 q2 => ?_
      have L2 : s.heap.IsList a2 ws.toArray := ⟨_, g2, rfl, n2, rfl⟩
      obtain ⟨he, hr⟩ := in_at (s := s) (A := A.in1) (atom_of h1 ra) (atoms_of (prog := prog) (w := w) h2 q2)
      exact ⟨fun Q q => SeqAt.in_listAt _ L2 he (hr ▸ q s.toks), fun Q q => SeqAt.notIn_listAt _ L2 he (hr ▸ q s.toks)⟩
    | _ => exact dic e
  | _ => exact e.elim
theorem isNone.el {F : Bool → Prop} {a : AV} {Va : Value} {P : Prop} (e : isNone F a) (ra : VR φ h a Va) (k : F (Va == Value.none) → P) : P := by
  cases a with
  | none => rw [show Va = .none from ra] at k; exact k e
  | bool b => rw [show Va = .bool _ from ra] at k; exact k e
  | int i => obtain ⟨t, rfl⟩ := ra; exact k e
  | str i => obtain ⟨_, t, rfl⟩ := ra; exact k e
  | tup xs => obtain ⟨_, a, vs, rfl, _⟩ := ra; exact k e
  | _ => exact e.elim
theorem cmpW_sound {op : CmpOp} {a b : AV} {F : Bool → Prop} {Va Vb : Value} {Q : Value → Shared → Prop} (e : cmpW op a b H F) (W : WR prog w base φ H s.heap) (hb : (base.get? sysModules).isSome = true) (g : Good A (n + 1)) (ra : VR φ s.heap a Va) (rb : VR φ s.heap b Vb)
    (k : ∀ c tk, F c → Q (.bool c) { s with toks := tk }) : wpAny (model prog w) A (compareOp op Va Vb) Q E s := by
  cases op with
  | Eq => exact eqW.el e W g ra rb fun c f z => z.1 Q fun tk => k c tk f
  | NotEq => exact eqW.el (show eqW H (fun c => F (!c)) a b from e) W g ra rb fun c f z => z.2 Q fun tk => k _ tk f
  | Lt => exact intW.el e ra fun x t e => intW.el e rb fun y u e => PyProof.Rows.lt_int (k _ s.toks e)
  | Gt => exact intW.el e ra fun x t e => intW.el e rb fun y u e => PyProof.Rows.gt_int (k _ s.toks e)
  | GtE => exact intW.el e ra fun x t e => intW.el e rb fun y u e => P.ge_int (k _ s.toks e)
  | Is => exact noneW.el e rb fun e => isNone.el e ra fun e => is_none_gen (k _ s.toks e)
  | IsNot => exact noneW.el e rb fun e => isNone.el e ra fun e => isnot_none_gen (k _ s.toks e)
  | In => exact inW.el e W hb g ra rb fun c f z => z.1 Q fun tk => k c tk f
  | NotIn => exact inW.el (show inW H (fun c => F (!c)) a b from e) W hb g ra rb fun c f z => z.2 Q fun tk => k _ tk f
  | _ => exact e.elim

/-! ## Subscripts -/
/-- what holds the item is one of the built-in kinds -/
def Holder (s : Shared) (V : Value) : Prop := ∃ T id, s.TypeIs V T ∧ typeLookup (.type T) "__getitem__" = pure (some (.builtin id))
theorem getW_sound {o i : AV} {F : AV → Prop} {Vo Vi : Value} {Q : Value → Shared → Prop} (e : getW o i H F) (W : WR prog w base φ H s.heap) (g : Good A (n + 1)) (ro : VR φ s.heap o Vo) (ri : VR φ s.heap i Vi)
    (k : ∀ tk V v, VR φ s.heap v V → F v → Q V { s with toks := tk }) : Holder s Vo ∧ wpAny (model prog w) A (getItem Vo Vi) Q E s := by
  cases o with
  | tup xs =>
    refine natW.el e ri fun j t e => okW.el e fun x hx e => tupE ro fun a vs l g1 m q => ?_
    obtain ⟨b, hbv, rb⟩ := q.get hx
    have ht : IsTup s.heap a vs.toArray := ⟨_, g1, rfl, 0, rfl⟩
    have hlt := (List.getElem?_eq_some_iff.mp hbv).1
    have h2 : j < 1000000 := by have := lid_v l; have := q.length; lia
    refine ⟨⟨"tuple", _, ht.typeIs, slot_tuple_getitem.lookup⟩, getItem_tuple (j := j) ht (by lia) (by lia) ?_ (by simpa using hbv) (k s.toks _ _ rb e)⟩
    unfold seqIndex?
    have h3 : ¬ (j : Int) < 0 := by lia
    simp only [h3, if_false]
    rw [if_pos (by simp; lia), Int.toNat_natCast]
  | ref m =>
    obtain ⟨h0, e⟩ := e
    rename_i o
    have dic : lookKey o i (fun r => okW r F) → Holder s Vo ∧ wpAny (model prog w) A (getItem Vo Vi) Q E s := fun e => by
      refine lookKey.el (P := fun Vo Vi => Holder s Vo ∧ wpAny (model prog w) A (getItem Vo Vi) Q E s) W h0 e ro ri (fun d x kvs Vk res hp hk hD z f => ?_) (fun d t as xs res hp hk hD z f => ?_)
      · refine ⟨⟨"dict", _, hD.dictOf.typeIs, slot_dict_getitem.lookup⟩, ?_⟩
        revert z
        cases hv : valueAt kvs x with
        | none => intro z; cases z; exact f.elim
        | some V => intro z; cases z with | yes r => exact wpAny_getItem_of (knd := atomKind prog w) hk hD.dictOf.mapOf hv (k _ _ _ r f)
      · refine ⟨⟨"dict", _, hD.typeIs, slot_dict_getitem.lookup⟩, ?_⟩
        revert z
        cases hv : atKey xs as with
        | none => intro z; cases z; exact f.elim
        | some p => intro z; cases z with | yes r => exact wpAny_getItem_heap (tupleKind_room_in1 (by have := g.units; lia)) hk hD hv (k _ _ _ r f)
    cases o with
    | list xs =>
      refine natW.el e ri fun j t e => okW.el e fun x hx e => W.lstE h0 ro fun a vs n1 hp g1 l q => ?_
      obtain ⟨b, hbv, rb⟩ := q.get hx
      have L : s.heap.IsList a vs.toArray := ⟨_, g1, rfl, n1, rfl⟩
      have hlt := (List.getElem?_eq_some_iff.mp hbv).1
      have h2 : j < 1000000 := by have := lid_v l; have := q.length; lia
      exact ⟨⟨"list", _, L.typeIs, slot_list_getitem.lookup⟩, wpAny_getItem_list L (by lia) (by lia) (by simpa using hbv) (k s.toks _ _ rb e)⟩
    | _ => exact dic e
  | _ => exact e.elim

/-- a dict takes a key: by what puts it there -/
@[elab_as_elim] theorem putKey.el (W : WR prog w base φ H s.heap) {k : Nat} {o : AO} {i x : AV} {F : AO → Prop} {V Vi Vx : Value} {P : Value → Value → Prop} (h0 : H[k]? = some o) (e : putKey o i x F) (r : VR φ s.heap (.ref k) V) (ri : VR φ s.heap i Vi) (rx : VR φ s.heap x Vx)
    (k1 : ∀ d a kvs Vi, φ[k]? = some (d, none) → atomIs a Vi = true → s.heap.DictAt (atomKind prog w) d kvs kvs.length → kvs.length ≤ sizeLine →
      (∀ h', h'.DictAt (atomKind prog w) d (stored kvs a Vx) (stored kvs a Vx).length → Heap.SameBut d s.heap h' → ∃ o', F o' ∧ WR prog w base φ (H.set k o') h' ∧ Stp φ s.heap φ h') → P (.ref d) Vi)
    (k2 : ∀ d t as xs, φ[k]? = some (d, none) → (tupleKind (atomKind prog w)).is s.heap as t → s.heap.DictOfH (tupleKind (atomKind prog w)) d xs → xs.length ≤ sizeLine →
      (∀ h', h'.DictOfH (tupleKind (atomKind prog w)) d (storedH xs as t Vx) → Heap.SameBut d s.heap h' → ∃ o', F o' ∧ WR prog w base φ (H.set k o') h' ∧ Stp φ s.heap φ h') → P (.ref d) (.ref t)) : P V Vi := by
  have key1 : o = .dE → (okW (toAtom i) fun a => F (.dA [(a, x)])) → P V Vi := fun ho f => f.el fun a ha f => W.dE (P := fun V => P V Vi) (ho ▸ h0) r fun d hp gd => k1 d a [] Vi hp (atom_of ha ri) (dE_at gd) (Nat.zero_le _) fun h' hD hs =>
    let ⟨W', S⟩ := W.upd (ao' := .dA [(a, x)]) hp (.head _) hs fun S => ⟨rfl, [Vx], by simpa [stored] using hD, Vx, [], rfl, rx.stp S, rfl⟩
    ⟨_, f, W', S⟩
  cases o with
  | dE =>
    cases i with
    | tup xs =>
      exact okW.el e fun as ha f => W.dE (P := fun V => P V Vi) h0 r fun d hp gd => by
        obtain ⟨t, rfl, ht, hm⟩ := tupKey (prog := prog) (w := w) ha ri
        refine k2 d t as [] hp ht (dE_atH gd) (Nat.zero_le _) fun h' hD hs => ?_
        obtain ⟨W', S⟩ := W.upd (ao' := .dT [(as, x)]) hp (.head _) hs fun S => ⟨rfl, _, hD, by simp [storedH, atKey], by
          simp only [storedH, atKey, List.find?_nil, Option.map_none, Option.isSome_none, Bool.false_eq_true, if_false, List.nil_append, List.map_cons, List.map_nil]
          exact ⟨Vx, [], rfl, rx.stp S, rfl⟩, by simp [storedH, atKey, hm]⟩
        exact ⟨_, f, W', S⟩
    | _ => exact key1 rfl e
  | dA kvs =>
    exact okW.el e.2 fun a ha f => W.dA (P := fun V => P V Vi) h0 r fun d vs hp gd q => by
      have hkl : ((kvs.map (·.1)).zip vs).length = kvs.length := keys_zip (by simpa using q.length)
      have hnd : (kvs.map (·.1)).Nodup := by
        have := gd.nodup
        rwa [List.map_fst_zip (by have := q.length; simp at this; simp [this])] at this
      refine k1 d a _ Vi hp (atom_of ha ri) (hkl.symm ▸ gd) (hkl.symm ▸ Nat.le_trans e.1 lid_le) fun h' hD hs => ?_
      obtain ⟨W', S⟩ := W.upd (ao' := .dA (putKV kvs a x)) hp (.head _) hs fun S => by
        obtain ⟨ws, e1, e2⟩ := stored_zip (a := a) (rx.stp S) hnd (q.stp S)
        refine ⟨rfl, ws, ?_, e2⟩
        rw [e1] at hD
        rwa [keys_zip (by simpa using e2.length)] at hD
      exact ⟨_, f, W', S⟩
  | dT kvs =>
    cases i with
    | tup xs =>
      exact okW.el e.2 fun as ha f => W.dT (P := fun V => P V Vi) h0 r fun d ys hp gd ek q fr => by
        obtain ⟨t, rfl, ht, hm⟩ := tupKey (prog := prog) (w := w) ha ri
        have hyl : ys.length = kvs.length := by have := congrArg List.length ek; simpa using this
        have hnd : (ys.map (·.1)).Nodup := let ⟨_, _, _, _, _, _, _, _, z⟩ := gd; z
        refine k2 d t as ys hp ht gd (hyl ▸ Nat.le_trans e.1 lid_le) fun h' hD hs => ?_
        obtain ⟨W', S⟩ := W.upd (ao' := .dT (putKV kvs as x)) hp (.head _) hs fun S => by
          obtain ⟨i1, i2, i3⟩ := storedH_rel (rx.stp S) hm hnd ek (q.stp S) fr
          exact ⟨rfl, _, hD, i1, i2, i3⟩
        exact ⟨_, f, W', S⟩
    | _ => exact e.2.elim
  | _ => exact e.elim

/-- a dict takes a key -/
theorem setDict {k : Nat} {o : AO} {i x : AV} {F : AO → Prop} {V Vi Vx : Value} {Q : Unit → Shared → Prop} (W : WR prog w base φ H s.heap) (g : Good A (n + 1)) (h0 : H[k]? = some o) (e : putKey o i x F) (ro : VR φ s.heap (.ref k) V) (ri : VR φ s.heap i Vi) (rx : VR φ s.heap x Vx)
    (k' : ∀ o' h' tk, F o' → Stp φ s.heap φ h' → WR prog w base φ (H.set k o') h' → Q () { s with heap := h', toks := tk }) : wpAny (model prog w) A (setItem V Vi Vx) Q E s := by
  refine putKey.el (P := fun V Vi => wpAny (model prog w) A (setItem V Vi Vx) Q E s) W h0 e ro ri rx (fun d a kvs Vi hp hk hD hl q => ?_) (fun d t as xs hp hk hD hl q => ?_)
  · exact setItem_at (knd := atomKind prog w) (k := a) hk hD (fun h' hD' hs => let ⟨o', f, W', S⟩ := q h' hD' hs; k' o' h' _ f S W') hl
  · exact wpAny_setItem_heap (tupleKind_room_in1 (by have := g.units; lia)) hk hD (fun h' hD' hs => let ⟨o', f, W', S⟩ := q h' hD' hs; k' o' h' _ f S W') hl
/-- a dict of a display takes a key -/
theorem setDictD {k : Nat} {o : AO} {i x : AV} {F : AO → Prop} {d : Addr} {Vi Vx : Value} {Q : Unit → Shared → Prop} (W : WR prog w base φ H s.heap) (g : Good A (n + 1)) (h0 : H[k]? = some o) (e : putKey o i x F) (ro : VR φ s.heap (.ref k) (.ref d)) (ri : VR φ s.heap i Vi) (rx : VR φ s.heap x Vx)
    (k' : ∀ o' h' tk, F o' → Stp φ s.heap φ h' → WR prog w base φ (H.set k o') h' → Q () { s with heap := h', toks := tk }) : wpAny (model prog w) A (dictSet d Vi Vx) Q E s := by
  refine putKey.el (P := fun V Vi => ∀ d, V = .ref d → wpAny (model prog w) A (dictSet d Vi Vx) Q E s) W h0 e ro ri rx (fun d a kvs Vi hp hk hD hl q d' ed => ?_) (fun d t as xs hp hk hD hl q d' ed => ?_) d rfl
  · cases ed; exact dictSet_at (knd := atomKind prog w) (k := a) hk hD (fun h' hD' hs => let ⟨o', f, W', S⟩ := q h' hD' hs; k' o' h' _ f S W') hl
  · cases ed; exact wpAny_dictSet_heap (show A.units < cLine from g.un) hk hD (fun h' hD' hs => let ⟨o', f, W', S⟩ := q h' hD' hs; k' o' h' _ f S W') hl

theorem setW_sound {o i x : AV} {F : AH → Prop} {Vo Vi Vx : Value} {Q : Unit → Shared → Prop} (e : setW o i x H F) (W : WR prog w base φ H s.heap) (g : Good A (n + 1)) (ro : VR φ s.heap o Vo) (ri : VR φ s.heap i Vi) (rx : VR φ s.heap x Vx)
    (k : ∀ H' h' tk, F H' → Stp φ s.heap φ h' → WR prog w base φ H' h' → Q () { s with heap := h', toks := tk }) : wpAny (model prog w) A (setItem Vo Vi Vx) Q E s := by
  refine refW.el e fun m ho e => ?_
  subst ho
  obtain ⟨h0, e⟩ := e
  rename_i ob
  cases ob with
  | list xs =>
    refine natW.el e ri fun j t e => W.lstE h0 ro fun a vs n1 hp g1 l q => ?_
    have hlt : j < vs.length := q.length ▸ e.1
    have h2 : j < 1000000 := by have := lid_v l; have := q.length; lia
    refine setItem_list g1 (by lia) (by lia) (by lia) fun h' gh hs => ?_
    obtain ⟨W', S⟩ := W.upd (ao' := .list (xs.set j x)) hp (.head _) hs fun S => ⟨rfl, by rw [List.length_set]; exact l, _, n1, gh, by rw [Int.toNat_natCast]; exact (q.stp S).set _ (rx.stp S)⟩
    exact k _ h' s.toks e.2 S W'
  | _ => exact setDict W g h0 e ro ri rx fun o' h' tk f S W' => k _ h' tk f S W'
end
end Mine
end
section
set_option autoImplicit false
set_option Elab.async false
namespace Mine
open PySem PySem.Calls PyProof.Rows PySem.W

/-! ## Iterators -/
def IR (φ : Phi) (h : Heap) (it : It) (L i : Nat) (a : Addr) : Prop := match it with
  | .lst n => ∃ p, φ[n]? = some p ∧ h.IsListIter a p.1 i
  | .tup xs => ∃ t vs, h.IsTupleIter a t i ∧ h.get? t = some (tupO vs) ∧ t ∉ adrs φ ∧ VRs φ h xs vs
  | .rng x y c => IsRangeIter h a (x + i * c) ((rngSize x y c : Nat) - (i : Int)) c
  | .dct n => ∃ p, φ[n]? = some p ∧ h.IsKeyIter a p.1 i L L
section
variable {φ φ' : Phi} {h h' : Heap} {it : It} {L i : Nat} {a : Addr}
inductive IterO (h : Heap) (a : Addr) : Prop
  | mk {cls : String} {vs : Array Value} {o : Obj} (ho : h.get? a = some o) (hc : o.cls = .type cls) (hd : o.data = .fields vs) (hm : isMut o = true)
      (hn : ["enumerate", "zip", "dict_itemiterator", "dict_reverseitemiterator", "odict_iterator", "itertools.zip_longest", "itertools.pairwise"].contains cls = false) : IterO h a
theorem IR.data (r : IR φ h it L i a) : IterO h a := by
  cases it with
  | lst n => obtain ⟨p, _, o, ho, hc, hd⟩ := r; exact ⟨ho, hc, hd, by unfold isMut; rw [hd, hc]; rfl, by decide⟩
  | tup xs => obtain ⟨t, vs, ⟨o, ho, hc, hd⟩, _⟩ := r; exact ⟨ho, hc, hd, by unfold isMut; rw [hd, hc]; rfl, by decide⟩
  | rng x y c => exact ⟨r, rfl, rfl, rfl, by decide⟩
  | dct n => obtain ⟨p, _, o, ho, hc, hd⟩ := r; exact ⟨ho, hc, hd, by unfold isMut; rw [hd, hc]; rfl, by decide⟩
/-- an iterator lasts through a step that leaves it alone -/
theorem IR.stp {X : Addr → Prop} (r : IR φ h it L i a) (S : StpX X φ h φ' h') (nn : a ∉ adrs φ) (x : ¬ X a) : IR φ' h' it L i a := by
  cases it with
  | lst n => obtain ⟨p, hp, o, ho, hd⟩ := r; exact ⟨p, pre_get S.pre hp, o, S.keep _ _ ho nn x, hd⟩
  | tup xs => obtain ⟨t, vs, ⟨o, ho, hd⟩, g, m, q⟩ := r; exact ⟨t, vs, ⟨o, S.keep _ _ ho nn x, hd⟩, S.keepI g m rfl, S.fresh g m, q.stp S⟩
  | rng x' y c => exact S.keep _ _ r nn x
  | dct n => obtain ⟨p, hp, o, ho, hd⟩ := r; exact ⟨p, pre_get S.pre hp, o, S.keep _ _ ho nn x, hd⟩
end
theorem rngOk_of {a b c : Int} (h : rngOk a b c = true) : -1000000 < a ∧ a < 1000000 ∧ -1000000 < b ∧ b < 1000000 ∧ (c = 1 ∨ c = -1) := by
  have h9 := of_decide_eq_true h
  rw [lid_eq] at h9
  exact h9

theorem rngSize_eq {a b c : Int} (h : c = 1 ∨ c = -1) : Builtin.Range.rangeSize a b c = rngSize a b c := by
  rcases h with rfl | rfl
  · unfold Builtin.Range.rangeSize rngSize
    simp only [show (1 : Int) > 0 by lia, if_true, Int.ediv_one]
    split <;> lia
  · unfold Builtin.Range.rangeSize rngSize
    simp only [show ¬ ((-1 : Int) > 0) by lia, show ¬ ((-1 : Int) = 1) by lia, if_false, Int.neg_neg, Int.ediv_one]
    split <;> lia

theorem rngSmall {a b c : Int} (h : rngOk a b c = true) : Builtin.Range.small a b c = true := by
  obtain ⟨h1, h2, h3, h4, h5⟩ := rngOk_of h
  unfold Builtin.Range.small
  rw [rngSize_eq h5]
  have hs : rngSize a b c < 2000000 := by unfold rngSize; split <;> lia
  simp only [Builtin.Range.rangeFitsLong, Bool.and_eq_true, decide_eq_true_eq, Bool.or_eq_true]
  refine ⟨⟨⟨⟨⟨by lia, by lia⟩, ⟨by lia, by lia⟩⟩, ⟨by lia, by lia⟩⟩, ⟨by lia, by lia⟩⟩, .inr ?_⟩
  split
  · simp only [Bool.and_eq_true, decide_eq_true_eq]; lia
  · simp only [Bool.and_eq_true, decide_eq_true_eq]; lia

theorem rngItems_at {c : Int} : ∀ {n : Nat} {a : Int} {i : Nat}, (rngItems a c n)[i]? = if i < n then some (a + i * c) else none
  | 0, _, _ => by simp [rngItems]
  | n + 1, a, 0 => by simp [rngItems]
  | n + 1, a, i + 1 => by
    simp only [rngItems, List.getElem?_cons_succ, rngItems_at (n := n)]
    by_cases h : i < n
    · rw [if_pos h, if_pos (by lia)]
      congr 1
      rw [show (((i + 1 : Nat) : Int)) = (i : Int) + 1 by lia, Int.add_mul, Int.one_mul]; lia
    · rw [if_neg h, if_neg (by lia)]

theorem rngItems_length (c : Int) : ∀ (n : Nat) (a : Int), (rngItems a c n).length = n
  | 0, _ => rfl
  | n + 1, a => by simp [rngItems, rngItems_length c n]


section
variable {prog : Program} {w : World} {base : Heap} {φ : Phi} {s : Shared} {v : AV} {H : AH} {A : Around} {E : Value → Shared → Prop} {n : Nat}

theorem iterW_sound {V : Value} {F : It → Prop} {Q : Value → Shared → Prop} (e : iterW v H F) (W : WR prog w base φ H s.heap) (hb : (base.get? sysModules).isSome = true) (r : VR φ s.heap v V)
    (k : ∀ it h' a, s.heap.get? a = none → Stp φ s.heap φ h' → WR prog w base φ H h' → (∀ xs (H' : AH), (∀ (n : Nat) (o : AO), H[n]? = some o → H'[n]? = some o) → Src H' it xs → IR φ h' it xs.length 0 a) → F it → Q (.ref a) { s with heap := h' }) : wpAny (model prog w) A (pyIter V) Q E s := by
  have hs := get?_size s.heap
  cases v with
  | tup xs =>
    obtain ⟨_, a, vs, rfl, g, m, q⟩ := r
    refine wpAny_pyIter_tuple (items := vs.toArray) ⟨_, g, rfl, 0, rfl⟩ ?_
    obtain ⟨W', S⟩ := W.junk { cls := .type "tuple_iterator", data := .fields #[.ref a, .int 0 0] }
    exact k (.tup xs) _ _ hs S W' (fun _ _ _ _ => ⟨a, vs, ⟨_, Heap.get?_push_size _ rfl, rfl, rfl⟩, S.keepI g m rfl, m, q.stp S⟩) e
  | rng a b c =>
    obtain ⟨hr, ra, t, u, x, rfl, g, m⟩ := r
    refine wpAny_pyIter_range g (rngSmall hr) ?_
    obtain ⟨W', S⟩ := W.junk { cls := .type "range_iterator", data := .fields #[rawInt a, rawInt (Builtin.Range.rangeSize a b c), rawInt c] }
    refine k (.rng a b c) _ _ hs S W' (fun _ _ _ _ => ?_) e
    show IsRangeIter _ _ (a + (0 : Nat) * c) ((rngSize a b c : Nat) - ((0 : Nat) : Int)) c
    rw [show a + ((0 : Nat) : Int) * c = a by simp, show (rngSize a b c : Int) - ((0 : Nat) : Int) = rngSize a b c by simp, ← rngSize_eq (rngOk_of hr).2.2.2.2]
    exact Heap.get?_push_size _ rfl
  | ref m =>
    obtain ⟨h0, e⟩ := e
    rename_i o
    cases o with
    | list xs =>
      refine W.lstE h0 r fun a vs n1 hp g l q => ?_
      refine wpAny_pyIter_list (items := vs.toArray) ⟨_, g, rfl, n1, rfl⟩ ?_
      obtain ⟨W', S⟩ := W.junk { cls := .type "list_iterator", data := .fields #[.ref a, .int 0 0] }
      exact k (.lst m) _ _ hs S W' (fun _ _ _ _ => ⟨_, hp, _, Heap.get?_push_size _ rfl, rfl, rfl⟩) e
    | dE =>
      refine W.dE h0 r fun a hp g => ?_
      refine wpAny_pyIter_dict (knd := atomKind prog w) (W.notSys hb hp) (dE_at g) ?_
      obtain ⟨W', S⟩ := W.junk { cls := .type "dict_keyiterator", data := .fields #[.ref a, .int 0 0, .int 0 0, .int 0 0] }
      refine k (.dct m) _ _ hs S W' (fun xs H' hx q => ⟨_, hp, _, Heap.get?_push_size _ rfl, rfl, ?_⟩) e
      cases q with
      | dE => rfl
      | dA h1 => rw [hx _ _ h0] at h1; cases h1
    | dA kvs =>
      refine W.dA h0 r fun a vs hp g q => ?_
      have hkl : ((kvs.map (·.1)).zip vs).length = kvs.length := keys_zip (by simpa using q.length)
      refine wpAny_pyIter_dict (knd := atomKind prog w) (W.notSys hb hp) g ?_
      rw [hkl]
      obtain ⟨W', S⟩ := W.junk { cls := .type "dict_keyiterator", data := .fields #[.ref a, .int 0 0, .int kvs.length 0, .int kvs.length 0] }
      refine k (.dct m) _ _ hs S W' (fun xs H' hx q => ⟨_, hp, _, Heap.get?_push_size _ rfl, rfl, ?_⟩) e
      cases q with
      | dE h1 => rw [hx _ _ h0] at h1; cases h1
      | dA h1 => rw [hx _ _ h0] at h1; cases h1; rw [List.length_map]; rfl
    | _ => exact e.elim
  | _ => exact e.elim

/-- one step of an iterator -/
theorem next_sound {it : It} {xs : List AV} {i : Nat} {a : Addr} {Q : Option Value → Shared → Prop} (e : Src H it xs) (W : WR prog w base φ H s.heap) (hh : A.handled = none) (r : IR φ s.heap it xs.length i a) (ha : a ∉ adrs φ) (hl : base.get? a = none)
    (kE : xs[i]? = none → ∀ h', Heap.ExtBut a s.heap h' → Q none { s with heap := h' })
    (kI : ∀ x, xs[i]? = some x → ∀ h' tk V, Heap.SameBut a s.heap h' → WR prog w base φ H h' → Kp φ s.heap φ h' → (∃ o, h'.get? a = some o) → VR φ h' x V → IR φ h' it xs.length (i + 1) a → Q (some V) { s with heap := h', toks := tk }) :
    wpAny (model prog w) A (pyNext (.ref a)) Q E s := by
  have side : ∀ h', Heap.SameBut a s.heap h' → (∃ o, h'.get? a = some o) → WR prog w base φ H h' ∧ Kp φ s.heap φ h' := fun h' hs ho => by
    obtain ⟨g, _, _, m, _⟩ := r.data
    obtain ⟨W', S⟩ := W.side (X := (· = a)) rfl ha hl ho hs fun b hb o' g' => by subst hb; rw [g] at g'; cases g'; exact m
    exact ⟨W', S.kp⟩
  cases e with
  | tup =>
    obtain ⟨t, vs, hi, g, m, q⟩ := r
    cases hx : xs[i]? with
    | none =>
      have hv : vs.toArray[i]? = none := by
        have := List.getElem?_eq_none_iff.mp hx
        rw [q.length] at this
        simpa using this
      exact wpAny_pyNext_tuple_end hh hi (items := vs.toArray) ⟨_, g, rfl, 0, rfl⟩ hv fun h' hs => kE hx h' hs
    | some x =>
      obtain ⟨V, hV, rV⟩ := q.get hx
      refine wpAny_pyNext_tuple_item hi (items := vs.toArray) ⟨_, g, rfl, 0, rfl⟩ (by simpa using hV) fun h' hi' hs => ?_
      have ho : ∃ o, h'.get? a = some o := let ⟨o, z, _⟩ := hi'; ⟨o, z⟩
      obtain ⟨W', S⟩ := side h' hs ho
      exact kI x hx h' s.toks V hs W' S ho (rV.kp S) ⟨t, vs, hi', (S.fix _ _ g m rfl).1, m, q.kp S⟩
  | @rng x y c =>
    have hxs : ∀ i, ((rngItems x c (rngSize x y c)).map AV.int)[i]? = if i < rngSize x y c then some (.int (x + i * c)) else none := fun i => by
      rw [List.getElem?_map, rngItems_at]; split <;> rfl
    by_cases hlt : i < rngSize x y c
    · refine wpAny_pyNext_range_item r (by lia) fun h' hi' hs => ?_
      have ho : ∃ o, h'.get? a = some o := ⟨_, hi'⟩
      obtain ⟨W', S⟩ := side h' hs ho
      refine kI (.int (x + i * c)) (by rw [hxs, if_pos hlt]) h' _ _ hs W' S ho ⟨_, rfl⟩ ?_
      show IsRangeIter h' a (x + ((i + 1 : Nat) : Int) * c) ((rngSize x y c : Nat) - ((i + 1 : Nat) : Int)) c
      have e1 : x + ((i + 1 : Nat) : Int) * c = x + i * c + c := by rw [Int.natCast_add, Int.add_mul]; simp; lia
      rw [e1, show (rngSize x y c : Int) - ((i + 1 : Nat) : Int) = rngSize x y c - i - 1 by lia]
      exact hi'
    · exact wpAny_pyNext_range_end hh r (by lia) fun h' hs => kE (by rw [hxs, if_neg hlt]) h' hs
  | lst h0 =>
    obtain ⟨p, hp, hi⟩ := r
    obtain ⟨e2, l, vs, n1, g, q⟩ := W.obj _ _ _ h0 hp
    cases hx : xs[i]? with
    | some x =>
      obtain ⟨V, hV, rV⟩ := q.get hx
      refine wpAny_pyNext_list_item hi (items := vs.toArray) ⟨_, g, rfl, n1, rfl⟩ (by simpa using hV) fun h' hi' hs => ?_
      have ho : ∃ o, h'.get? a = some o := let ⟨o, z, _⟩ := hi'; ⟨o, z⟩
      obtain ⟨W', S⟩ := side h' hs ho
      exact kI x hx h' s.toks V hs W' S ho (rV.kp S) ⟨p, hp, hi'⟩
    | none =>
      have hV : vs.toArray[i]? = none := by
        have := List.getElem?_eq_none_iff.mp hx
        rw [q.length] at this
        simpa using this
      exact wpAny_pyNext_list_end hh hi (items := vs.toArray) ⟨_, g, rfl, n1, rfl⟩ hV fun h' hs => kE hx h' hs
  | dE h0 =>
    obtain ⟨p, hp, hi⟩ := r
    exact wpAny_pyNext_dict_end (knd := atomKind prog w) (kvs := []) hh hi (dE_at (W.obj _ _ _ h0 hp).2) (by simp) fun h' hs => kE rfl h' hs
  | @dA n kvs h0 =>
    obtain ⟨p, hp, hi⟩ := r
    obtain ⟨e2, vs, g, q⟩ := W.obj _ _ _ h0 hp
    have hkl : ((kvs.map (·.1)).zip vs).length = kvs.length := keys_zip (by simpa using q.length)
    rw [List.length_map] at hi
    cases hx : kvs[i]? with
    | some x =>
      have hlt := (List.getElem?_eq_some_iff.mp hx).1
      have hlv : i < vs.length := by have := q.length; simp at this; lia
      have hz : ((kvs.map (·.1)).zip vs)[i]? = some (x.1, vs[i]) := by
        rw [List.getElem?_zip_eq_some]
        exact ⟨by rw [List.getElem?_map, hx]; rfl, List.getElem?_eq_getElem hlv⟩
      refine wpAny_pyNext_dict_item (knd := atomKind prog w) (hkl.symm ▸ hi) g hz fun key h' hk hi' hs => ?_
      have ho : ∃ o, h'.get? a = some o := let ⟨o, z, _⟩ := hi'; ⟨o, z⟩
      obtain ⟨W', S⟩ := side h' hs ho
      refine kI (ofAtom x.1) (by rw [List.getElem?_map, hx]; rfl) h' s.toks key hs W' S ho ?_ ⟨p, hp, by rw [List.length_map]; exact hkl ▸ hi'⟩
      cases hx1 : x.1 with
      | i m => rw [hx1] at hk; exact atomIs_i hk
      | s m => rw [hx1] at hk; exact atomIs_s hk
    | none =>
      have hz : ((kvs.map (·.1)).zip vs)[i]? = none := by
        have hx' := List.getElem?_eq_none_iff.mp hx
        rw [List.getElem?_eq_none_iff, hkl]; exact hx'
      exact wpAny_pyNext_dict_end (knd := atomKind prog w) hh (hkl.symm ▸ hi) g hz fun h' hs => kE (by rw [List.getElem?_map, hx]; rfl) h' hs

/-! ## Slices -/
def PR (φ : Phi) (h : Heap) : Option AV → Value → Prop
  | none, V => V = .none
  | some a, V => VR φ h a V
inductive BndR (l : Option Int) : Value → Prop
  | mk {p : Option (Int × Tok)} (e : p.map (·.1) = l) (h : IsPart (partValue p) l) (q : ∀ k, l = some k → 0 ≤ k ∧ k < 1000000) : BndR l (partValue p)
theorem bndW.el {h : Heap} {l : Option AV} {F : Option Int → Prop} {V : Value} {P : Prop} (e : bndW l F) (r : PR φ h l V) (k : ∀ l, F l → BndR l V → P) : P := by
  cases l with
  | none => cases r; exact k none e (BndR.mk (p := none) rfl .none fun _ q => nomatch q)
  | some v =>
    revert k
    refine natW.el e r fun i t e k => ?_
    refine k _ e.2 ?_
    exact BndR.mk (p := some ((i : Int), t)) rfl (.int _ _) fun _ q => by cases q; have := e.1; rw [lid_eq] at this; lia
theorem slicePick_cut (vs : List Value) (l u : Option Int) (hl : ∀ k, l = some k → 0 ≤ k ∧ k < 1000000) (hu : ∀ k, u = some k → 0 ≤ k ∧ k < 1000000) : slicePick vs.toArray l u none = (cutL vs l u).toArray := by
  rw [slicePick_plain]
  have key : ∀ (a b : Nat), (vs.drop (min a vs.length)).take (min b vs.length - min a vs.length) = (vs.take b).drop a := fun a b => by
    rw [List.drop_take]
    by_cases h : a ≤ vs.length
    · rw [Nat.min_eq_left h]
      by_cases h2 : b ≤ vs.length
      · rw [Nat.min_eq_left h2]
      · rw [Nat.min_eq_right (by lia), List.take_of_length_le (by simp), List.take_of_length_le (by simp; lia)]
    · have h1 : vs.drop vs.length = [] := List.drop_of_length_le (Nat.le_refl _)
      have h2 : vs.drop a = [] := List.drop_of_length_le (by lia)
      rw [show min a vs.length = vs.length by lia, h1, h2]; simp
  cases l with
  | none =>
    cases u with
    | none => simp [cutL]
    | some b =>
      obtain ⟨b', rfl⟩ := Int.eq_ofNat_of_zero_le (hu b rfl).1
      have := key 0 b'
      simp [cutL, clipAt_nat] at this ⊢
      try rw [← this]
  | some a =>
    obtain ⟨a', rfl⟩ := Int.eq_ofNat_of_zero_le (hl a rfl).1
    cases u with
    | none =>
      have := key a' vs.length
      simp [cutL, clipAt_nat] at this ⊢
      rw [← this]
    | some b =>
      obtain ⟨b', rfl⟩ := Int.eq_ofNat_of_zero_le (hu b rfl).1
      have := key a' b'
      simp [cutL, clipAt_nat] at this ⊢
      rw [← this]

theorem VRs.cut {h : Heap} {xs : List AV} {vs : List Value} (r : VRs φ h xs vs) (l u : Option Int) : VRs φ h (cutL xs l u) (cutL vs l u) := by
  unfold cutL
  refine VRs.drop _ ?_
  cases u with
  | none => exact r
  | some k => exact VRs.take _ r

theorem ints_VRs {h : Heap} : ∀ {xs : List Int} {vs : List Value}, IntsAre vs xs → VRs φ h (xs.map .int) vs
  | _, _, .nil => rfl
  | _, _, .cons k t r => ⟨_, _, rfl, ⟨t, rfl⟩, ints_VRs r⟩

theorem VRs_ints {h : Heap} : ∀ {xs : List AV} {is : List Int} {vs : List Value}, allInts xs = some is → VRs φ h xs vs → IntsAre vs is
  | [], _, _, e, r => by have r' : _ = _ := r; subst r'; cases e; exact .nil
  | x :: xs, is, _, e, ⟨v, vs, e1, p, r⟩ => by
    subst e1
    obtain ⟨i, l, h1, h2, rfl⟩ := optC_some e
    cases x with
    | int j => cases h1; obtain ⟨t, rfl⟩ := p; exact .cons _ _ (VRs_ints h2 r)
    | _ => exact nomatch h1
theorem cut_len {α : Type} (xs : List α) (l u : Option Int) : (cutL xs l u).length ≤ xs.length := by
  unfold cutL
  rw [List.length_drop]
  refine Nat.le_trans (Nat.sub_le _ _) ?_
  cases u with
  | none => exact Nat.le_refl _
  | some k => exact List.length_take_le' _ _
theorem cut_map {α β : Type} (f : α → β) (xs : List α) (l u : Option Int) : (cutL xs l u).map f = cutL (xs.map f) l u := by
  unfold cutL
  cases u <;> simp [List.map_drop, List.map_take]


theorem slice_sound {o : AV} {l u : Option AV} {Vo vl vu : Value} {value : Expr} {lo up : Option Expr} {p : Pos} {K : AH → AV → Prop} {Q : Value → Shared → Prop} (e : sliW o l u H K) (W : WR prog w base φ H s.heap) (ro : VR φ s.heap o Vo) (rl : PR φ s.heap l vl) (ru : PR φ s.heap u vu)
    (k : Kon prog w base φ s K Q) :
    wpAny (model prog w) A (subscriptTail value (.Slice lo up none p) Vo (.ref s.heap.objs.size)) Q E { s with heap := s.heap.push { cls := .type "slice", data := .fields #[vl, vu, .none] } } := by
  obtain ⟨W1, S1⟩ := W.junk { cls := .type "slice", data := .fields #[vl, vu, .none] }
  have hsl : (s.heap.push { cls := .type "slice", data := .fields #[vl, vu, .none] }).IsSliceOf s.heap.objs.size vl vu .none := Heap.IsSliceOf.new ..
  have k1 : Kon prog w base φ { s with heap := s.heap.push { cls := .type "slice", data := .fields #[vl, vu, .none] } } K Q := k.shift S1
  cases o with
  | tup xs =>
    cases l with
    | none => exact e.elim
    | some l =>
      cases u with
      | some u => exact e.elim
      | none =>
        have rl' : ∃ (j : Nat) (t : Tok), vl = .int j t ∧ Gd (1 ≤ j ∧ j ≤ xs.length) (K H (.tup (xs.drop j))) := natW.el (P := fun V => ∃ (j : Nat) (t : Tok), V = .int j t ∧ Gd (1 ≤ j ∧ j ≤ xs.length) (K H (.tup (xs.drop j)))) e rl fun j t f => ⟨j, t, rfl, f⟩
        obtain ⟨j, t, rfl, hk, e⟩ := rl'
        have ru' : vu = .none := ru
        subst ru'
        obtain ⟨l, a, vs, rfl, g, m, q⟩ := ro
        have ht : IsTup (s.heap.push { cls := .type "slice", data := .fields #[.int j t, .none, .none] }) a vs.toArray := ⟨_, S1.keepI g m rfl, rfl, 0, rfl⟩
        have hj : j ≤ vs.length := q.length ▸ hk.2
        refine tail_any (T := "tuple") (ops := [.ref s.heap.objs.size, .ref a]) ht.typeIs slot_tuple_getitem.lookup ?_ rfl
        refine getItem_tuple_from ht hsl (by lia) (by simpa using hj) ?_ (by rw [List.size_toArray, ← q.length]; exact Nat.le_trans l lid_le)
        have : (vs.toArray.toList.drop j).toArray = (vs.drop j).toArray := by simp
        rw [this]
        exact new_tup k1 W1 ((q.stp S1).drop j) (by rw [List.length_drop]; lia) e _
  | ref m =>
    have e : bndW l fun l => bndW u fun u => Lk H m (sliO l u H K) := e
    refine bndW.el e rl fun l' e bl => bndW.el e ru fun u' e bu => ?_
    obtain @⟨p1, _, il, ql⟩ := bl
    obtain @⟨p2, _, iu, qu⟩ := bu
    refine Lk.lst W e ro fun xs a vs n1 e hp g l q => ?_
    have L : (s.heap.push { cls := .type "slice", data := .fields #[partValue p1, partValue p2, .none] }).IsList a vs.toArray := ⟨_, Heap.get?_push_of_some _ g, rfl, n1, rfl⟩
    refine tail_any (T := "list") (ops := [.ref s.heap.objs.size, .ref a]) L.typeIs slot_list_getitem.lookup ?_ rfl
    refine wpAny_getItem_list_slice L hsl il iu .none (by simp) ?_ (by rw [List.size_toArray, ← q.length]; exact Nat.le_trans l lid_le)
    rw [slicePick_cut _ _ _ ql qu]
    exact new_list k1 W1 ((q.stp S1).cut _ _) (Nat.le_trans (cut_len ..) l) e _
  | fl xs =>
    have e : bndW l fun l => bndW u fun u => Gd (xs.length ≤ lid) (newL H K ((cutL xs l u).map .int)) := e
    refine bndW.el e rl fun l' e bl => bndW.el e ru fun u' e bu => ?_
    obtain @⟨p1, _, il, ql⟩ := bl
    obtain @⟨p2, _, iu, qu⟩ := bu
    obtain ⟨a, vs, rfl, L0, q, m⟩ := ro
    have L : (s.heap.push { cls := .type "slice", data := .fields #[partValue p1, partValue p2, .none] }).IsList a vs.toArray := L0.push _
    refine tail_any (T := "list") (ops := [.ref s.heap.objs.size, .ref a]) L.typeIs slot_list_getitem.lookup ?_ rfl
    refine wpAny_getItem_list_slice L hsl il iu .none (by simp) ?_ (by rw [List.size_toArray, q.length]; exact Nat.le_trans e.1 lid_le)
    rw [slicePick_cut _ _ _ ql qu]
    refine new_list k1 W1 ?_ (by rw [List.length_map]; exact Nat.le_trans (cut_len ..) e.1) e.2 _
    rw [cut_map]
    exact (ints_VRs q).cut _ _
  | str k' =>
    cases l with
    | some l => exact e.elim
    | none =>
      have rl' : vl = .none := rl
      subst rl'
      have e : bndW u fun u => cdW (decide (u = some 1)) (Gd (k' = 9 ∨ k' = 10) (K H (.str k'))) := e
      refine bndW.el e ru fun u' e bu => cdW.el e fun hc e => ?_
      have hc := of_decide_eq_true hc
      subst hc
      obtain ⟨ep, iu, qu⟩ := bu
      rename_i p
      obtain ⟨hk, t, rfl⟩ := ro
      refine tail_any (T := "str") (ops := [.ref s.heap.objs.size, .str (sOf k') t]) (typeIs_str _ _ _) F.slot_str_getitem.lookup ?_ rfl
      refine wpAny_getItem_str_slice (l := none) (u := p) (st := none) ⟨_, Heap.get?_push_size _ rfl, rfl, rfl⟩ rfl ?_
      have : sliceMade (sOf k') t none p none = .val (.str (sOf k') t) := by
        unfold sliceMade slicePicked
        rw [ep]
        rcases e.1 with rfl | rfl <;> rfl
      rw [this]
      exact k1.at W1 e.2 ⟨hk, t, rfl⟩
  | _ => exact e.elim
end
end Mine
end
section
set_option autoImplicit false
set_option Elab.async false
namespace Mine
open PySem PySem.Calls PyProof.Rows PySem.W

section
variable {prog : Program} {w : World} {base : Heap} {φ : Phi} {s : Shared} {v : AV} {H : AH} {A : Around} {E : Value → Shared → Prop} {n : Nat} {K : AH → AV → Prop} {Q : Value → Shared → Prop} {h h' : Heap}

/-- a new object, wherever it lies -/
theorem WR.adopt (W : WR prog w base φ H h) {a : Addr} {ao : AO} (hk : ∀ b o, h.get? b = some o → h'.get? b = some o) (ha : h.get? a = none) (r : Stp φ h (φ ++ [(a, none)]) h' → OR prog w (φ ++ [(a, none)]) h' (a, none) ao) :
    WR prog w base (φ ++ [(a, none)]) (H ++ [ao]) h' ∧ Stp φ h (φ ++ [(a, none)]) h' := by
  obtain ⟨W1, S1⟩ := W.grow hk
  have hna : a ∉ adrs φ := fun q => by obtain ⟨o, e⟩ := W.there q; rw [ha] at e; cases e
  have new : ∀ b, b ∈ adrs (φ ++ [(a, none)]) → b ∈ adrs φ ∨ b = a := fun b q => by
    rw [adrs_append] at q
    rcases List.mem_append.mp q with q | q
    · exact .inl q
    · exact .inr (by simpa [adrs] using q)
  have S : Stp φ h (φ ++ [(a, none)]) h' := ⟨List.prefix_append _ _, fun b q => (new b q).imp id fun (e : b = a) => e ▸ ha, fun b o e _ _ => hk b o e, fun _ _ _ _ q => q.elim, fun _ q => q.elim⟩
  refine ⟨⟨by simp [W.len], ?_, fun n ao p e q => ?_, W1.low, fun b q => (new b q).elim (W.above b) fun e => ?_⟩, S⟩
  · rw [adrs_append, List.nodup_append]
    refine ⟨W.nodup, by simp [adrs], fun b hb c hc => ?_⟩
    have : c = a := by simpa [adrs] using hc
    subst this
    rintro rfl
    exact hna hb
  · by_cases hn : n < φ.length
    · rw [List.getElem?_append_left hn] at q
      rw [List.getElem?_append_left (W.len ▸ hn)] at e
      have z := W.obj n ao p e q
      obtain ⟨o1, g⟩ := z.some1
      refine z.move S.kp ((hk _ _ g).trans g.symm) fun d hd => ?_
      obtain ⟨o1, g⟩ := z.some2 hd
      exact (hk _ _ g).trans g.symm
    · have hlt := (List.getElem?_eq_some_iff.mp q).1
      have hne : n = φ.length := by simp at hlt; omega
      subst hne
      simp at q
      rw [W.len] at e
      simp at e
      subst q e
      exact r S
  · subst e
    cases e : base.get? b with
    | none => rfl
    | some o => rw [W.low b o e] at ha; cases ha
theorem list_at {a : Addr} {m tk : Nat} {xs : List AV} {vs : List Value} (k : Kon prog w base φ s K Q) (W : WR prog w base φ H s.heap) (hk : ∀ b o, s.heap.get? b = some o → h'.get? b = some o) (ha : s.heap.get? a = none) (hg : h'.get? a = some (lstO vs m))
    (r : VRs φ s.heap xs vs) (l : xs.length ≤ lid) (e : newL H K xs) : Q (.ref a) { s with heap := h', toks := tk } :=
  let ⟨W', S⟩ := W.adopt (ao := .list xs) hk ha fun S => ⟨rfl, l, vs, m, hg, r.stp S⟩
  k _ h' tk (.ref a) (.ref H.length) _ S W' ⟨(a, none), by rw [← W.len]; simp, rfl⟩ e

theorem idx_first {as : List Atom} {a : Atom} (h : as.idxOf a < as.length) : as[as.idxOf a]? = some a ∧ ∀ m, m < as.idxOf a → as[m]? ≠ some a := by
  refine ⟨by rw [List.getElem?_eq_getElem h]; simp, fun m hm e => ?_⟩
  obtain ⟨h1, h2⟩ := List.getElem?_eq_some_iff.mp e
  have := List.not_of_lt_findIdx (p := (· == a)) (xs := as) (i := m) hm
  simp [h2] at this

theorem updSeq {h : Heap} {a : Addr} {vs ws : List Value} {n1 : Nat} (f : Array Value → Array Value) (g : h.get? a = some (lstO vs n1)) (e : f vs.toArray = ws.toArray) :
    ∃ n2, (h.update a (Obj.mapSeq f)).get? a = some (lstO ws n2) := by
  have := IsL.update (h := h) (l := a) (items := vs.toArray) (n := n1) g f
  rw [e] at this
  exact ⟨_, this⟩

theorem insI_perm (x : Int) : ∀ l : List Int, (insI x l).Perm (x :: l)
  | [] => .refl _
  | y :: r => by
    unfold insI
    split
    · exact .refl _
    · exact ((insI_perm x r).cons y).trans (.swap ..)

theorem insI_sorted (x : Int) : ∀ l : List Int, l.Pairwise (· ≤ ·) → (insI x l).Pairwise (· ≤ ·)
  | [], _ => by simp [insI]
  | y :: r, h => by
    rw [List.pairwise_cons] at h
    unfold insI
    split
    · rename_i hxy
      rw [List.pairwise_cons]
      refine ⟨fun z hz => ?_, List.pairwise_cons.mpr h⟩
      rcases List.mem_cons.mp hz with rfl | hz
      · exact hxy
      · exact Int.le_trans hxy (h.1 z hz)
    · rename_i hxy
      rw [List.pairwise_cons]
      refine ⟨fun z hz => ?_, insI_sorted x r h.2⟩
      rcases List.mem_cons.mp ((insI_perm x r).mem_iff.mp hz) with rfl | hz
      · omega
      · exact h.1 z hz

theorem sortI_perm : ∀ l : List Int, (sortI l).Perm l
  | [] => .refl _
  | x :: r => (insI_perm x (sortI r)).trans ((sortI_perm r).cons x)

theorem sortI_sorted : ∀ l : List Int, (sortI l).Pairwise (· ≤ ·)
  | [] => List.Pairwise.nil
  | x :: r => insI_sorted x _ (sortI_sorted r)

theorem sorted_eq {l m : List Int} (p : m.Perm l) (h : m.Pairwise (· ≤ ·)) : m = sortI l :=
  List.Perm.eq_of_pairwise (fun a b _ _ h1 h2 => Int.le_antisymm h1 h2) h (sortI_sorted l) (p.trans (sortI_perm l).symm)

theorem collect_seq {l : Addr} {T : String} {o : Obj} {vs : List Value} {m : Nat} {Q : List Value → Shared → Prop} (hT : T = "list" ∨ T = "tuple") (ho : s.heap.get? l = some o) (hc : o.cls = .type T) (hd : o.data = .seq vs.toArray m)
    (h : ∀ h', (∀ b o, s.heap.get? b = some o → h'.get? b = some o) → Q vs { s with heap := h' }) (hsz : vs.length ≤ sizeLine) :
    wpAny (model prog w) A (collect (.ref l)) Q E s := by
  unfold collect
  refine wpAny_bind (wpAny_runValue (codeAny_builtin entry_proto_collect' ?_))
  show wpAny _ _ (do again (.builtin "list.__iadd__" ⟨[← newList [], .ref l], []⟩)) _ _ s
  refine wpAny_bind (wpAny_newList (wpAny_pure ⟨Code.quiet_builtin _ (by decide +kernel), codeAny_builtin entry_list_iadd' ?_⟩))
  show wpAny _ _ (Builtin.List.listExtendWith (.ref s.heap.objs.size) (.ref l) (.ref s.heap.objs.size)) _ _ { s with heap := s.heap.push (seqObj "list" #[] 0) }
  unfold Builtin.List.listExtendWith
  have ho' : (s.heap.push (seqObj "list" #[] 0)).get? l = some o := Heap.get?_push_of_some _ ho
  refine wpAny_bind (wpAny_typeOf (T := T) ⟨o, ho', hc⟩ ?_)
  rw [if_pos (by rcases hT with rfl | rfl <;> simp)]
  refine wpAny_bind (listItems_at ho' hd ?_)
  refine wpAny_bind (listItems_at (xs := #[]) (n := 0) (Heap.get?_push_size _ rfl) rfl ?_)
  rw [if_neg (by simp)]
  refine wpAny_bind (listUpdate_at (xs := #[]) (n := 0) (Heap.get?_push_size _ rfl) rfl ?_ (Nat.zero_le _) (by show (#[] ++ vs.toArray).size ≤ sizeLine + 1; simp only [Array.size_append, List.size_toArray, List.length_nil]; omega))
  refine wpAny_pure ?_
  show wpAny (model prog w) A (do
      let o ← load s.heap.objs.size
      match o.data with
      | .seq xs _ => pure xs.toList
      | _ => unsupported "internal:collect") Q E { s with heap := (s.heap.push (seqObj "list" #[] 0)).update s.heap.objs.size (Obj.mapSeq (· ++ vs.toArray)) }
  refine wpAny_bind (wpAny_load (get?_update_seq (Heap.get?_push_size _ rfl) _) ?_)
  show wpAny _ _ (pure ((#[] : Array Value) ++ vs.toArray).toList) Q E _
  rw [show ((#[] : Array Value) ++ vs.toArray).toList = vs by simp]
  refine wpAny_pure (h _ fun b o e => ?_)
  exact (Heap.get?_update_other _ _ (Ne.symm (Nat.ne_of_lt (Heap.lt_size e)))).trans (Heap.get?_push_of_some _ e)

theorem sorted_any {V : Value} {is : List Int} (hlen : is.length < 64)
    (hcol : ∀ R : List Value → Shared → Prop, (∀ h' tk vs, (∀ b o, s.heap.get? b = some o → h'.get? b = some o) → IntsAre vs is → R vs { s with heap := h', toks := tk }) → wpAny (model prog w) A.in1 (collect V) R (fun e s' => E e s') s)
    (h : ∀ h' tk a vs m, (∀ b o, s.heap.get? b = some o → h'.get? b = some o) → s.heap.get? a = none → h'.get? a = some (lstO vs m) → IntsAre vs (sortI is) → Q (.ref a) { s with heap := h', toks := tk }) :
    wpAny (model prog w) A (call (.builtin "sorted") [V]) Q E s := by
  refine Calls.call_function_entry kind_sorted plain_sorted entry_sorted (args_sorted1 _) ?_
  unfold Builtin.«sorted»
  refine wpAny_bind (m := checkCount "sorted" 1 1 _) (wpAny_pure ?_)
  refine wpAny_bind (hcol _ fun h' tk vs hk hI => ?_)
  have hl := hI.length
  refine wpAny_bind (wpAny_newList ?_ (Nat.le_trans (Nat.le_of_lt (hl ▸ hlen)) (by rw [sizeLine_eq]; decide)))
  have hoL : (h'.push (seqObj "list" vs.toArray 0)).get? h'.objs.size = some (seqObj "list" vs.toArray 0) := Heap.get?_push_size _ rfl
  refine wpAny_bind (wpAny_holding (wpAny_call_entry (s := { s with heap := h'.push (seqObj "list" vs.toArray 0), toks := tk }) slot_list_sort ⟨_, hoL, rfl⟩ entry_list_sort (list_sort_tree hoL hI (by omega) fun out ns' a1 a2 a3 => ⟨_, rfl, ?_⟩) (args_list_sort _)))
  refine wpAny_pure ⟨_, rfl, ?_⟩
  obtain ⟨e, he⟩ := sortedHeap_at (out := out) hoL
  have := sorted_eq a2 a3
  subst this
  refine h _ tk h'.objs.size out.toList e (fun b o eb => ?_) ?_ ?_ a1
  · have e2 := hk b o eb
    have hlt := Heap.lt_size e2
    show (sortedHeap (h'.push (seqObj "list" vs.toArray 0)) h'.objs.size vs out).get? b = some o
    rw [sortedHeap_old (Nat.ne_of_lt hlt) (by rw [Heap.size_push]; exact Nat.lt_succ_of_lt hlt)]
    exact Heap.get?_push_of_some _ e2
  · cases q : s.heap.get? h'.objs.size with
    | none => rfl
    | some o => exact absurd (Heap.lt_size (hk _ _ q)) (Nat.lt_irrefl _)
  · have : out.toList.toArray = out := by simp
    show (sortedHeap (h'.push (seqObj "list" vs.toArray 0)) h'.objs.size vs out).get? h'.objs.size = some (lstO out.toList e)
    rw [he]


theorem ints_of_keys {is : List Int} : ∀ {vs : List Value}, vs.length = is.length → (∀ (j : Nat) (x : Value), vs[j]? = some x → ∃ i t, is[j]? = some i ∧ x = .int i t) → IntsAre vs is := by
  induction is with
  | nil => intro vs hl _; have : vs = [] := List.eq_nil_of_length_eq_zero hl; subst this; exact .nil
  | cons i r ih =>
    intro vs hl hx
    cases vs with
    | nil => cases hl
    | cons x r' =>
      obtain ⟨i', t, e1, e2⟩ := hx 0 x rfl
      simp at e1; subst e1 e2
      exact .cons _ _ (ih (by simpa using hl) fun j y hj => by simpa using hx (j + 1) y (by simpa using hj))
theorem keys_ints : ∀ {ks : List (Atom × AV)} {is : List Int}, allInts (ks.map fun p => ofAtom p.1) = some is → is.length = ks.length ∧ ∀ (j : Nat) (p : Atom × AV), ks[j]? = some p → ∃ i, is[j]? = some i ∧ p.1 = .i i
  | [], _, e => by cases e; exact ⟨rfl, fun j p q => by simp at q⟩
  | p :: r, is, e => by
    obtain ⟨i, l, h1, h2, rfl⟩ := optC_some e
    obtain ⟨e2, e3⟩ := keys_ints h2
    refine ⟨by simp [e2], fun j p' hj => ?_⟩
    cases j with
    | zero =>
      simp at hj; subst hj
      obtain ⟨a, b⟩ := p
      cases a with
      | i m => cases h1; exact ⟨_, rfl, rfl⟩
      | s k => exact nomatch h1
    | succ j => simpa using e3 j p' (by simpa using hj)
/-- sorted, by what collects the items -/
theorem sort_any {V : Value} {xs : List AV} (k : Kon prog w base φ s K Q) (W : WR prog w base φ H s.heap) (e : sortL H K xs)
    (hcol : ∀ is, allInts xs = some is → is.length < 64 → ∀ R : List Value → Shared → Prop, (∀ h' tk vs, (∀ b o, s.heap.get? b = some o → h'.get? b = some o) → IntsAre vs is → R vs { s with heap := h', toks := tk }) → wpAny (model prog w) A.in1 (collect V) R (fun e s' => E e s') s) :
    wpAny (model prog w) A (call (.builtin "sorted") [V]) Q E s :=
  okW.el e fun is h1 e => sorted_any e.1 (hcol is h1 e.1) fun h' tk a' vs' m' hk ha hg hI' =>
    list_at k W hk ha hg (ints_VRs hI') (by rw [List.length_map, (sortI_perm is).length_eq]; exact Nat.le_trans (Nat.le_of_lt e.1) (by rw [lid_eq]; decide)) e.2

theorem seq_col {l : Addr} {T : String} {o : Obj} {vs : List Value} {m : Nat} {xs : List AV} (hT : T = "list" ∨ T = "tuple") (ho : s.heap.get? l = some o) (hc : o.cls = .type T) (hd : o.data = .seq vs.toArray m) (r : VRs φ s.heap xs vs) (l' : xs.length ≤ lid) :
    ∀ is, allInts xs = some is → is.length < 64 → ∀ R : List Value → Shared → Prop, (∀ h' tk vs, (∀ b o, s.heap.get? b = some o → h'.get? b = some o) → IntsAre vs is → R vs { s with heap := h', toks := tk }) → wpAny (model prog w) A.in1 (collect (.ref l)) R (fun e s' => E e s') s :=
  fun is h1 _ R hR => collect_seq hT ho hc hd (fun h' hk => hR h' s.toks vs hk (VRs_ints h1 r)) (by rw [← r.length]; exact Nat.le_trans l' lid_le)

theorem size_int {xs : List AV} {vs : List Value} (r : VRs φ h xs vs) : ((vs.toArray.size : Nat) : Int) = (xs.length : Int) := by rw [List.size_toArray, r.length]
theorem size_le {xs : List AV} {vs : List Value} (r : VRs φ h xs vs) (l : xs.length ≤ lid) : vs.toArray.size ≤ sizeLine := by rw [List.size_toArray, ← r.length]; exact Nat.le_trans l lid_le
theorem size_v {xs : List AV} {vs : List Value} (r : VRs φ h xs vs) (l : xs.length ≤ lid) : vs.toArray.size ≤ 1000000 := by rw [List.size_toArray, ← r.length]; exact lid_v l

theorem bi1_sound {b : BI} {a : AV} {X : Value} (e : bi1 H K b a) (hb : (base.get? sysModules).isSome = true) (W : WR prog w base φ H s.heap) (g : Good A (n + 1)) (rx : VR φ s.heap a X) (kk : Kon prog w base φ s K Q) : wpAny (model prog w) A (call (biV b) [X]) Q E s := by
  cases b with
  | len =>
    cases a with
    | ref m =>
      refine Lk.lst W e rx fun xs a vs n1 e hp g1 l q => ?_
      refine call_len_list (items := vs.toArray) ⟨_, g1, rfl, n1, rfl⟩ (by have := size_v q l; omega) ?_
      rw [size_int q]
      exact kk.here W e ⟨_, rfl⟩ _
    | tup xs =>
      refine tupE rx fun a vs l g1 m1 q => ?_
      refine len_tuple (items := vs.toArray) ⟨_, g1, rfl, 0, rfl⟩ (by have := size_v q l; omega) ?_
      rw [size_int q]
      exact kk.here W e ⟨_, rfl⟩ _
    | _ => exact e.elim
  | range =>
    refine natW.el e rx fun i t e => call_range_1 ?_
    obtain ⟨W', S⟩ := W.junk { cls := .type "range", data := .fields #[.int 0 s.toks, .int _ t, .int 1 (s.toks + 1)] }
    refine kk φ _ _ _ (.rng 0 i 1) _ S W' ⟨?_, _, _, _, _, rfl, IsRange.new .., W.notNew⟩ e.2
    exact decide_eq_true ⟨by have := lid_eq; omega, by have := lid_eq; omega, by have := lid_eq; omega, by have := e.1; omega, .inl rfl⟩
  | abs => exact intW.el e rx fun i t e => call_abs_int fun u tk => kk.here W e ⟨_, rfl⟩ _
  | list =>
    cases a with
    | ref m =>
      refine Lk.lst W e rx fun xs a vs n1 e hp g1 l q => ?_
      exact call_list_seq a (T := "list") (.inl rfl) g1 rfl rfl (fun h' c' hk hD => list_at kk W hk (get?_size _) hD q l e) (size_le q l)
    | tup xs =>
      refine tupE rx fun a vs l g1 m1 q => ?_
      exact call_list_seq a (T := "tuple") (.inr rfl) g1 rfl rfl (fun h' c' hk hD => list_at kk W hk (get?_size _) hD q l e) (size_le q l)
    | rng x y c =>
      obtain ⟨hr, ra, t, u, z, rfl, g1, m1⟩ := rx
      have hc := (rngOk_of hr).2.2.2.2
      have hs : rngSize x y c < 2000000 := by have := rngOk_of hr; unfold rngSize; split <;> omega
      refine call_list_range g.hand g1 (rngSmall hr) (rngSize_eq hc) (by omega) fun h' tk acc' c' hk hD hI => ?_
      have e1 : acc' = acc'.toList.toArray := by simp
      rw [e1] at hD
      refine list_at kk W hk (get?_size _) hD (VRs.of_get ?_ fun i p q hp hq => ?_) ?_ e.2
      · rw [List.length_map, rngItems_length, Array.length_toList]; exact hI.1.symm
      · obtain ⟨t', rfl⟩ := hI.2 i q (by simpa using hq)
        rw [List.getElem?_map, rngItems_at] at hp
        split at hp
        · cases hp; exact ⟨_, rfl⟩
        · cases hp
      · rw [List.length_map, rngItems_length]; exact e.1
    | _ => exact e.elim
  | tuple =>
    cases a with
    | ref m =>
      refine Lk.lst W e rx fun xs a vs n1 e hp g1 l q => ?_
      refine call_tuple_list (items := vs.toArray) ⟨_, g1, rfl, n1, rfl⟩ (fun h' hk => ?_) (size_le q l)
      obtain ⟨W', S⟩ := W.grow (h' := h'.push { cls := .type "tuple", data := .seq vs.toArray }) fun b o eb => Heap.get?_push_of_some _ (hk b o eb)
      refine kk φ _ _ _ (.tup xs) _ S W' ⟨l, _, vs, rfl, Heap.get?_push_size _ rfl, fun z => ?_, q.stp S⟩ e
      obtain ⟨o, eo⟩ := W.there z
      exact absurd (Heap.lt_size (hk _ _ eo)) (Nat.lt_irrefl _)
    | tup xs => exact tupE rx fun a vs l g1 m1 q => call_tuple_same (items := vs.toArray) ⟨_, g1, rfl, 0, rfl⟩ (kk.at W e ⟨l, a, vs, rfl, g1, m1, q⟩)
    | _ => exact e.elim
  | sorted =>
    cases a with
    | ref m =>
      obtain ⟨h0, e⟩ := e
      rename_i o
      cases o with
      | list xs => exact W.lstE h0 rx fun a vs n1 hp g1 l q => sort_any kk W e (seq_col (T := "list") (.inl rfl) g1 rfl rfl q l)
      | dA kvs =>
        refine W.dA h0 rx fun a vs hp g1 q => sort_any kk W e fun is h1 hl R hR => ?_
        have hkl : ((kvs.map (·.1)).zip vs).length = kvs.length := keys_zip (by simpa using q.length)
        obtain ⟨i1, i2⟩ := keys_ints h1
        refine kdu_collect (kdl_dict (knd := atomKind prog w) (kvs := (kvs.map (·.1)).zip vs) (ep := kvs.length) (W.notSys hb hp)) g.hand g1 (by rw [hkl, ← i1, sizeLine_eq]; omega) fun h' tk acc hk hacc => hR h' tk _ hk ?_
        refine ints_of_keys (by rw [Array.length_toList, i1, ← hkl]; exact hacc.1) fun j x hj => ?_
        obtain ⟨k, y, hx, hk⟩ := hacc.2 j x (by rw [← Array.getElem?_toList]; exact hj)
        rw [List.getElem?_zip_eq_some] at hx
        obtain ⟨hx1, _⟩ := hx
        rw [List.getElem?_map] at hx1
        obtain ⟨p, hp1, hp2⟩ := Option.map_eq_some_iff.mp hx1
        obtain ⟨i, e1, e2⟩ := i2 j p hp1
        have hp2 : p.1 = k := hp2
        rw [← hp2, e2] at hk
        obtain ⟨t, rfl⟩ := atomIs_i hk
        exact ⟨i, t, e1, rfl⟩
      | dE =>
        refine W.dE h0 rx fun a hp g1 => sort_any kk W e fun is h1 hl R hR => ?_
        cases h1
        refine kdu_collect (kdl_dict (knd := atomKind prog w) (kvs := []) (ep := 0) (W.notSys hb hp)) g.hand (dE_at g1) (Nat.zero_le _) fun h' tk acc hk hacc => hR h' tk _ hk ?_
        have : acc.toList = [] := List.eq_nil_of_length_eq_zero (by rw [Array.length_toList]; exact hacc.1)
        rw [this]; exact .nil
      | _ => exact e.elim
    | tup xs => exact tupE rx fun a vs l g1 m1 q => sort_any kk W e (seq_col (T := "tuple") (.inr rfl) g1 rfl rfl q l)
    | _ => exact e.elim
  | isinst => exact e.elim

theorem biW_sound {b : BI} {args : List AV} {Vs : List Value} (e : biW H K b args) (hb : (base.get? sysModules).isSome = true) (W : WR prog w base φ H s.heap) (g : Good A (n + 1)) (rs : VRs φ s.heap args Vs)
    (kk : Kon prog w base φ s K Q) : wpAny (model prog w) A (call (biV b) Vs) Q E s := by
  cases args with
  | nil => exact e.elim
  | cons a r =>
    obtain ⟨X, _, rfl, rx, rs⟩ := rs
    cases r with
    | nil => have rs : _ = _ := rs; subst rs; exact bi1_sound e hb W g rx kk
    | cons c r =>
      obtain ⟨Y, _, rfl, ry, rs⟩ := rs
      cases r with
      | nil =>
        have rs : _ = _ := rs; subst rs
        cases b with
        | range =>
          refine natW.el e rx fun i t e => natW.el e ry fun j u e => call_range_2 ?_
          obtain ⟨W', S⟩ := W.junk { cls := .type "range", data := .fields #[.int _ t, .int _ u, .int 1 s.toks] }
          refine kk φ _ _ _ (.rng i j 1) _ S W' ⟨?_, _, _, _, _, rfl, IsRange.new .., W.notNew⟩ e.2
          have e1 := e.1
          exact decide_eq_true ⟨by have := lid_eq; omega, by omega, by have := lid_eq; omega, by omega, .inl rfl⟩
        | isinst =>
          refine tupW.el e rx fun xs a vs e l g1 m1 q => ?_
          have hc : c = .bi .tuple ∧ K H (.bool true) := by
            cases c with
            | bi b => cases b with
              | tuple => exact ⟨rfl, e⟩
              | _ => exact e.elim
            | _ => exact e.elim
          obtain ⟨rfl, e⟩ := hc
          rw [show Y = .type "tuple" from ry]
          exact call_isinstance_yes (Tx := "tuple") ⟨_, g1, rfl⟩ PySem.F.isi_meta_tuple isSubtype_tuple_tuple (kk.at W e rfl)
        | _ => exact e.elim
      | cons d r =>
        obtain ⟨Z, _, rfl, rz, rs⟩ := rs
        cases r with
        | nil =>
          have rs : _ = _ := rs; subst rs
          cases b with
          | range =>
            refine intW.el e rx fun i t e => intW.el e ry fun j u e => intW.el e rz fun z x e => ?_
            have e1 := e.1
            refine PySem.call_range_3 (by omega) ?_ (.inl (PyProof.noPylong_small (by omega)))
            obtain ⟨W', S⟩ := W.junk { cls := .type "range", data := .fields #[.int _ t, .int _ u, .int _ x] }
            exact kk φ _ _ _ (.rng i j z) _ S W' ⟨decide_eq_true ⟨e1.1, e1.2.1, e1.2.2.1, e1.2.2.2.1, .inr e1.2.2.2.2⟩, _, _, _, _, rfl, IsRange.new .., W.notNew⟩ e.2
          | _ => exact e.elim
        | cons _ _ => exact e.elim

/-! ### methods -/
def methId : Nat → String
  | 47 => "list.append" | 48 => "list.extend" | 49 => "list.index" | 50 => "dict.get" | _ => "dict.setdefault"

theorem getMeth_list {k name : Nat} {xs : List AV} {V : Value} {pl : Sem Bool} {Q : Value × List Value → Shared → Prop} (h0 : H[k]? = some (.list xs)) (hn : name = 47 ∨ name = 48 ∨ name = 49) (W : WR prog w base φ H s.heap) (r : VR φ s.heap (.ref k) V)
    (h : Q (.builtin (methId name), [V]) s) : wpAny (model prog w) A (getMethod V (aOf name) pl) Q E s := by
  revert h
  refine W.lstE h0 r fun a vs n1 hp g l q h => ?_
  have hT : s.TypeIs (.ref a) "list" := ⟨_, g, rfl⟩
  have hd : ∀ b, Value.ref a = .ref b → ∃ o, s.heap.get? b = some o ∧ o.dict = none := fun b e => by cases e; exact ⟨_, g, rfl⟩
  rcases hn with rfl | rfl | rfl
  · exact getMethod_builtin hT PySem.F.plainAttrs_list PySem.F.slot_list_append PySem.F.type_list_append hd h
  · exact getMethod_builtin hT PySem.F.plainAttrs_list PySem.F.slot_list_extend PySem.F.type_list_extend hd h
  · exact getMethod_builtin hT PySem.F.plainAttrs_list PySem.F.slot_list_index PySem.F.type_list_index hd h
def isDic : AO → Bool
  | .dE | .dA _ | .dT _ => true
  | _ => false
theorem WR.dic (W : WR prog w base φ H s.heap) {k : Nat} {o : AO} (h0 : H[k]? = some o) (hd : isDic o = true) {V : Value} (r : VR φ s.heap (.ref k) V) : ∃ a ob, V = .ref a ∧ s.heap.get? a = some ob ∧ ob.cls = .type "dict" ∧ ob.dict = none := by
  cases o with
  | dE => exact W.dE h0 r fun a hp g => ⟨a, _, rfl, g, rfl, rfl⟩
  | dA kvs => exact W.dA h0 r fun a vs hp ⟨o, es, g, c, _⟩ _ => ⟨a, _, rfl, g, c.1, c.2.1⟩
  | dT kvs => exact W.dT h0 r fun a vs hp ⟨o, es, ep, g, c, _⟩ _ _ _ => ⟨a, _, rfl, g, c.1, c.2.1⟩
  | _ => exact nomatch hd
theorem getMeth_dict {k name : Nat} {o : AO} {V : Value} {pl : Sem Bool} {Q : Value × List Value → Shared → Prop} (h0 : H[k]? = some o) (hd : isDic o = true) (hn : name = 50 ∨ name = 51) (W : WR prog w base φ H s.heap) (r : VR φ s.heap (.ref k) V)
    (h : Q (.builtin (methId name), [V]) s) : wpAny (model prog w) A (getMethod V (aOf name) pl) Q E s := by
  obtain ⟨a, ob, rfl, g, hc, hdi⟩ := W.dic h0 hd r
  have hT : s.TypeIs (.ref a) "dict" := ⟨_, g, hc⟩
  have hd : ∀ b, Value.ref a = .ref b → ∃ o, s.heap.get? b = some o ∧ o.dict = none := fun b e => by cases e; exact ⟨_, g, hdi⟩
  rcases hn with rfl | rfl
  · exact getMethod_builtin hT PySem.F.plainAttrs_dict PySem.F.slot_dict_get PySem.F.type_dict_get hd h
  · exact getMethod_builtin hT PySem.F.plainAttrs_dict PySem.F.slot_dict_setdefault PySem.F.type_dict_setdefault hd h

theorem app_sound {k : Nat} {x : AV} {xs : List AV} {V X : Value} (h0 : H[k]? = some (.list xs)) (e : appL H K k x xs) (W : WR prog w base φ H s.heap) (r : VR φ s.heap (.ref k) V) (rx : VR φ s.heap x X) (kk : Kon prog w base φ s K Q) : wpAny (model prog w) A (call (.builtin "list.append") [V, X]) Q E s := by
  refine W.lstE h0 r fun a vs n1 hp g1 l q => ?_
  refine call_meets PySem.F.slot_list_append ⟨_, g1, rfl⟩ PySem.F.entry_list_append (PySem.F.args_list_append_2 _ _) (list_append a vs.toArray n1 X (by have := q.length; have := lid_le; have := e.1; simp; omega)) ⟨g1, ?_⟩
  obtain ⟨n2, g2⟩ := updSeq (fun xs => xs.push X) g1 (ws := vs ++ [X]) (by simp)
  obtain ⟨W', S⟩ := W.upd (ao' := .list (xs ++ [x])) hp (.head _) (Heap.SameBut.update ..) fun S => ⟨rfl, by have := e.1; rw [List.length_append]; exact this, _, n2, g2, (q.stp S).snoc (rx.stp S)⟩
  exact kk φ _ _ _ .none _ S W' rfl e.2
theorem ext_sound {k m : Nat} {xs : List AV} {V X : Value} (h0 : H[k]? = some (.list xs)) (e : Lk H m (extO H K k m xs)) (W : WR prog w base φ H s.heap) (r : VR φ s.heap (.ref k) V) (rx : VR φ s.heap (.ref m) X) (kk : Kon prog w base φ s K Q) : wpAny (model prog w) A (call (.builtin "list.extend") [V, X]) Q E s := by
  refine W.lstE h0 r fun a vs n1 hp g1 l q => Lk.lst W e rx fun ys b ws n3 e hp2 g2 l2 q2 => ?_
  have l3 := q.length
  have l4 := q2.length
  refine call_meets PySem.F.slot_list_extend ⟨_, g1, rfl⟩ PySem.F.entry_list_extend (PySem.F.args_list_extend_2 _ _) (AutoSeq1.list_extend_list_list_0 a vs.toArray n1 b ws.toArray n3 ?_ (by have h1 := e.1.1; have := lid_le; simp; omega) (by have h1 := e.1.1; have := lid_le; simp; omega)) ⟨g1, g2, ?_⟩
  · have hh : vs.length + ws.length ≤ 1000000 := by rw [← l3, ← l4]; exact lid_v e.1.1
    simp [Builtin.List.listTooLong]
    intro _
    rw [sizeLine_eq]; omega
  · obtain ⟨n2, g3⟩ := updSeq (fun xs => xs ++ ws.toArray) g1 (ws := vs ++ ws) (by simp)
    obtain ⟨W', S⟩ := W.upd (ao' := .list (xs ++ ys)) hp (.head _) (Heap.SameBut.update ..) fun S => ⟨rfl, by rw [List.length_append]; exact e.1.1, _, n2, g3, (q.stp S).append (q2.stp S)⟩
    exact kk φ _ _ _ .none _ S W' rfl e.2
theorem idx_sound {k : Nat} {x : AV} {xs : List AV} {V X : Value} (h0 : H[k]? = some (.list xs)) (e : idxL H K xs x) (W : WR prog w base φ H s.heap) (r : VR φ s.heap (.ref k) V) (rx : VR φ s.heap x X) (kk : Kon prog w base φ s K Q) : wpAny (model prog w) A (call (.builtin "list.index") [V, X]) Q E s := by
  refine okW.el e fun a' h2 e => okW.el e fun bs h3 e => W.lstE h0 r fun a vs n1 hp g1 l q => ?_
  have i2 := atoms_of (prog := prog) (w := w) h3 q
  have hx := atom_of h2 rx
  obtain ⟨f1, f2⟩ := idx_first e.1
  have l1 : bs.length = vs.length := i2.length
  have l2 : bs.length ≤ 1000000 := by rw [l1, ← q.length]; exact lid_v l
  have hlt : bs.idxOf a' < vs.toArray.size := by have := e.1; simp; omega
  have at_ : ∀ (j : Nat) (hj : j < vs.toArray.size), ∃ b, bs[j]? = some b ∧ atomIs b vs.toArray[j] = true ∧ atomIs a' vs.toArray[j] = decide (a' = b) := fun j hj => by
    obtain ⟨b, eb, ib⟩ := atoms_at i2 j (by simpa using hj)
    have ib' : atomIs b vs.toArray[j] = true := by simpa using ib
    exact ⟨b, eb, ib', KeyKind.is_eq_decide (knd := atomKind prog w) ib' a'⟩
  refine call_meets PySem.F.slot_list_index ⟨_, g1, rfl⟩ PySem.F.entry_list_index (PySem.F.args_list_index_2 _ _)
    (SeqAt.list_indexAt a vs.toArray n1 none #[] X (fun y => atomIs a' y) (bs.idxOf a') hlt (by have := e.1; omega) ?_ ?_) ⟨g1, (in_at hx i2).1, kk.here W e.2 ⟨_, rfl⟩ _⟩
  · obtain ⟨b, eb, ib, ie⟩ := at_ _ hlt
    rw [f1] at eb; cases eb
    exact ib
  · intro m hm hlm
    obtain ⟨b, eb, ib, ie⟩ := at_ _ hm
    show atomIs a' _ = false
    rw [ie, decide_eq_false]
    rintro rfl
    exact f2 m hlm eb
end
end Mine
end
section
set_option autoImplicit false
set_option Elab.async false
namespace Mine
open PySem PySem.Calls PyProof.Rows PySem.W

section
variable {prog : Program} {w : World} {base : Heap} {φ : Phi} {s : Shared} {v : AV} {H : AH} {A : Around} {E : Value → Shared → Prop} {n : Nat} {K : AH → AV → Prop} {Q : Value → Shared → Prop} {h h' : Heap}

theorem dget_sound {m : Nat} {o : AO} {k d : AV} {V Vk D : Value} (h0 : H[m]? = some o) (e : lookKey o k fun r => K H (r.getD d)) (hb : (base.get? sysModules).isSome = true) (W : WR prog w base φ H s.heap) (g : Good A (n + 1)) (r : VR φ s.heap (.ref m) V) (rk : VR φ s.heap k Vk) (rd : VR φ s.heap d D) (kk : Kon prog w base φ s K Q) :
    wpAny (model prog w) A (call (.builtin "dict.get") [V, Vk, D]) Q E s := by
  refine lookKey.el (P := fun V Vk => wpAny (model prog w) A (call (.builtin "dict.get") [V, Vk, D]) Q E s) W h0 e r rk (fun a x kvs Vk res hp hk hD z f => ?_) (fun a t as xs res hp hk hD z f => ?_)
  · refine call_meetsIn PySem.F.slot_dict_get hD.dictOf.typeIs PySem.F.entry_dict_get (PySem.F.args_dict_get_3 _ _ _) (meets_dict_get_default (atomKind prog w) a hk (W.notSys hb hp) D) ⟨_, hD.dictOf.mapOf, ?_⟩
    show Q _ _
    revert z
    cases hv : valueAt kvs x with
    | none => intro z; cases z; exact kk.here W f rd _
    | some V => intro z; cases z with | yes r => exact kk.here W f r _
  · have hu : (tupleKind (atomKind prog w)).room A.in1 := tupleKind_room_in1 (by have := g.units; lia)
    refine call_meetsIn PySem.F.slot_dict_get hD.typeIs PySem.F.entry_dict_get (PySem.F.args_dict_get_3 _ _ _) (meetsH_dict_get_default (tupleKind (atomKind prog w)) a t (W.notSys hb hp) D) ⟨hu, as, xs, hk, hD, ?_⟩
    show Q _ _
    revert z
    cases hv : atKey xs as with
    | none => intro z; cases z; exact kk.here W f rd _
    | some p => intro z; cases z with | yes r => exact kk.here W f r _

theorem dsd_sound {m : Nat} {o : AO} {k d : AV} {V Vk D : Value} (h0 : H[m]? = some o) (e : tupW k fun _ => lookKey o k (sdO H K m o k d)) (hb : (base.get? sysModules).isSome = true) (W : WR prog w base φ H s.heap) (g : Good A (n + 1)) (r : VR φ s.heap (.ref m) V) (rk : VR φ s.heap k Vk) (rd : VR φ s.heap d D) (kk : Kon prog w base φ s K Q) :
    wpAny (model prog w) A (call (.builtin "dict.setdefault") [V, Vk, D]) Q E s := by
  have hu : (tupleKind (atomKind prog w)).room A.in1 := tupleKind_room_in1 (by have := g.units; lia)
  cases k with
  | tup ks =>
    have e : lookKey o (.tup ks) (sdO H K m o (.tup ks) d) := e
    cases o with
    | dE =>
      have e : okW (toAtoms ks) fun _ => okW (toAtoms ks) fun a => K (H.set m (.dT [(a, d)])) d := e
      refine okW.el e fun as ha e => ?_
      rw [ha] at e
      have e : K (H.set m (.dT [(as, d)])) d := e
      refine W.dE h0 r fun a hp gd => ?_
      obtain ⟨t, rfl, ht, hm⟩ := tupKey (prog := prog) (w := w) ha rk
      refine call_meetsIn PySem.F.slot_dict_setdefault ⟨_, gd, rfl⟩ PySem.F.entry_dict_setdefault (PySem.F.args_dict_setdefault_3 _ _ _) (setdefault_heap (knd := tupleKind (atomKind prog w)) a t (W.notSys hb hp) D)
        ⟨hu, as, [], ht, dE_atH gd, (fun _ q => nomatch q), fun _ => ⟨Nat.zero_le _, fun h' hD hs => ?_⟩⟩
      obtain ⟨W', S⟩ := W.upd (ao' := .dT [(as, d)]) hp (.head _) hs fun S => ⟨rfl, _, hD, rfl, ⟨D, [], rfl, rd.stp S, rfl⟩, by simp [hm]⟩
      exact kk φ _ _ _ d _ S W' (rd.stp S) e
    | dT kvs =>
      have e : okW (toAtoms ks) fun a => sdO H K m (.dT kvs) (.tup ks) d (kvs.lookup a) := e
      refine okW.el e fun as ha e => W.dT h0 r fun a ys hp gd ek q f => ?_
      obtain ⟨t, rfl, ht, hm⟩ := tupKey (prog := prog) (w := w) ha rk
      have z := atKey_res (as := as) ek q
      have hnd : (ys.map (·.1)).Nodup := let ⟨_, _, _, _, _, _, _, _, z⟩ := gd; z
      refine call_meetsIn PySem.F.slot_dict_setdefault gd.typeIs PySem.F.entry_dict_setdefault (PySem.F.args_dict_setdefault_3 _ _ _) (setdefault_heap (knd := tupleKind (atomKind prog w)) a t (W.notSys hb hp) D)
        ⟨hu, as, ys, ht, gd, fun p hp' => ?_, fun hno => ?_⟩
      · rw [hp'] at z
        revert z e
        cases kvs.lookup as with
        | none => intro e z; cases z
        | some x => intro e z; cases z with | yes r => exact kk.here W e r _
      · have hz := z
        rw [hno] at z
        revert z e
        cases kvs.lookup as with
        | some x => intro e z; cases z
        | none =>
          intro e z
          have e : Gd (kvs.length ≤ lid) (okW (toAtoms ks) fun a => K (H.set m (.dT (putKV kvs a d))) d) := e
          have e2 := e.2
          rw [ha] at e2
          have e2 : K (H.set m (.dT (putKV kvs as d))) d := e2
          have hyl : ys.length = kvs.length := by have := congrArg List.length ek; simpa using this
          refine ⟨hyl ▸ Nat.le_trans e.1 lid_le, fun h' hD hs => ?_⟩
          obtain ⟨W', S⟩ := W.upd (ao' := .dT (putKV kvs as d)) hp (.head _) hs fun S => by
            obtain ⟨i1, i2, i3⟩ := storedH_rel (rd.stp S) hm hnd ek (q.stp S) f
            rw [storedH_new hno] at i1 i2 i3
            exact ⟨rfl, _, hD, i1, i2, i3⟩
          exact kk φ _ _ _ d _ S W' (rd.stp S) e2
    | dA kvs => exact e.elim
    | _ => exact e.elim
  | _ => exact e.elim

/-- the built-in methods -/
theorem omO_sound {m name : Nat} {o : AO} {vs : List AV} {V : Value} {Vs : List Value} (h0 : H[m]? = some o) (e : omO H K name m vs o) (hb : (base.get? sysModules).isSome = true) (W : WR prog w base φ H s.heap) (g : Good A (n + 1)) (r : VR φ s.heap (.ref m) V) (rs : VRs φ s.heap vs Vs) (kk : Kon prog w base φ s K Q)
    (hn : name = 47 ∨ name = 48 ∨ name = 49 ∨ name = 50 ∨ name = 51) : wpAny (model prog w) A (call (.builtin (methId name)) (V :: Vs)) Q E s := by
  have dic : (twoW vs fun k d => dmO H K name m k d o) → wpAny (model prog w) A (call (.builtin (methId name)) (V :: Vs)) Q E s := fun e => by
    refine twoW.el e rs fun k d Vk D e rk rd => ?_
    rcases hn with rfl | rfl | rfl | rfl | rfl
    · exact e.elim
    · exact e.elim
    · exact e.elim
    · exact dget_sound h0 e hb W g r rk rd kk
    · exact dsd_sound h0 e hb W g r rk rd kk
  cases o with
  | list xs =>
    refine oneW.el e rs fun x X e rx => ?_
    rcases hn with rfl | rfl | rfl | rfl | rfl
    · exact app_sound h0 e W r rx kk
    · exact refW.el e fun m' hm e => ext_sound h0 e W r (hm ▸ rx) kk
    · exact idx_sound h0 e W r rx kk
    · exact e.elim
    · exact e.elim
  | inst c fs => exact e.elim
  | _ => exact dic e
end
end Mine
end
section
set_option autoImplicit false
set_option Elab.async false
namespace Mine
open PySem PySem.Calls PyProof.Rows PySem.W

def KK (k : Sc) (env : Env) : Prop := ∀ x, k x = env.kindOf x ∨ (k x = some .free ∧ env.kindOf x = some .cell)
def low (base h : Heap) : Prop := ∀ a o, base.get? a = some o → h.get? a = some o

section
variable (prog : Program) (w : World) (base : Heap)

/-- what the program's own part of the heap must hold: the names -/
structure TopN : Prop where
  sys : (base.get? sysModules).isSome = true
  glob : ∀ (x : Str) (av : AV), globOf x = some av → ∃ V, VR [] base av V ∧ ∀ {A : Around} {E : Value → Shared → Prop} {s : Shared} {env : Env} {pos : Pos} {Q : Value → Shared → Prop}, low base s.heap → env.scope.kind = .function →
    env.globals = mainGlobals → env.builtins = builtinsNs → env.kindOf x = some .globalImplicit → nameOk x = true → Q V s → wpAny (model prog w) A (eval (.Name x pos) env) Q E s

def SoundE (ev : ME → Ro → AH → (AH → AV → Prop) → Prop) (n : Nat) : Prop := ∀ ⦃A : Around⦄ ⦃env : Env⦄ ⦃k : Sc⦄ ⦃sl : List Str⦄ ⦃e : Expr⦄ ⦃ρ : Ro⦄ ⦃H : AH⦄ ⦃K : AH → AV → Prop⦄ ⦃φ : Phi⦄ ⦃s : Shared⦄ ⦃E : Value → Shared → Prop⦄ ⦃Q : Value → Shared → Prop⦄,
  Good A n → KK k env → ev (compE k sl e) ρ H K → ER base env sl ρ φ s.heap → WR prog w base φ H s.heap → Kon prog w base φ s K Q → wpAny (model prog w) A (eval e env) Q E s

def KonB (φ : Phi) (s : Shared) (K : AH → Bool → Prop) (Q : Bool → Shared → Prop) : Prop :=
  ∀ φ' h' tk b H', Stp φ s.heap φ' h' → WR prog w base φ' H' h' → K H' b → Q b { s with heap := h', toks := tk }
def SoundT (tst : ME → Ro → AH → (AH → Bool → Prop) → Prop) (n : Nat) : Prop := ∀ ⦃A : Around⦄ ⦃env : Env⦄ ⦃k : Sc⦄ ⦃sl : List Str⦄ ⦃e : Expr⦄ ⦃ρ : Ro⦄ ⦃H : AH⦄ ⦃K : AH → Bool → Prop⦄ ⦃φ : Phi⦄ ⦃s : Shared⦄ ⦃E : Value → Shared → Prop⦄ ⦃Q : Bool → Shared → Prop⦄,
  Good A n → KK k env → tst (compE k sl e) ρ H K → ER base env sl ρ φ s.heap → WR prog w base φ H s.heap → KonB prog w base φ s K Q → wpAny (model prog w) A (isTrue e env (eval e env)) Q E s

def FlR (φ : Phi) (h : Heap) : Fl → Flow → Prop
  | .next, f => f = .next
  | .brk, f => f = .brk
  | .ret v, f => ∃ V, f = .ret V ∧ VR φ h v V
def KonX (env : Env) (sl : List Str) (φ : Phi) (s : Shared) (K : Fl → Ro → AH → Prop) (Q : Flow → Shared → Prop) : Prop :=
  ∀ φ' h' tk F f ρ' H', StpX (Own env) φ s.heap φ' h' → ER base env sl ρ' φ' h' → WR prog w base φ' H' h' → FlR φ' h' f F → K f ρ' H' → Q F { s with heap := h', toks := tk }
def SoundX (blk : List MS → Ro → AH → (Fl → Ro → AH → Prop) → Prop) (n : Nat) : Prop := ∀ ⦃A : Around⦄ ⦃env : Env⦄ ⦃k : Sc⦄ ⦃sl : List Str⦄ ⦃b : List Stmt⦄ ⦃ρ : Ro⦄ ⦃H : AH⦄ ⦃K : Fl → Ro → AH → Prop⦄ ⦃φ : Phi⦄ ⦃s : Shared⦄ ⦃E : Value → Shared → Prop⦄ ⦃Q : Flow → Shared → Prop⦄,
  Good A n → KK k env → blk (compSs k sl b) ρ H K → ER base env sl ρ φ s.heap → WR prog w base φ H s.heap → KonX prog w base env sl φ s K Q → wpAny (model prog w) A (execs b env) Q E s

def SoundC (call : AV → List AV → AH → (AH → AV → Prop) → Prop) (n : Nat) : Prop := ∀ ⦃A : Around⦄ ⦃f : AV⦄ ⦃F : Value⦄ ⦃args : List AV⦄ ⦃Vs : List Value⦄ ⦃H : AH⦄ ⦃K : AH → AV → Prop⦄ ⦃φ : Phi⦄ ⦃s : Shared⦄ ⦃E : Value → Shared → Prop⦄ ⦃Q : Value → Shared → Prop⦄,
  Good A n → call f args H K → VR φ s.heap f F → VRs φ s.heap args Vs → WR prog w base φ H s.heap → Kon prog w base φ s K Q → wpAny (model prog w) A (PySem.call F Vs) Q E s
/-- a def called -/
def SoundF (call : AV → List AV → AH → (AH → AV → Prop) → Prop) (n : Nat) : Prop := ∀ ⦃A : Around⦄ ⦃k : Nat⦄ ⦃a : Addr⦄ ⦃args : List AV⦄ ⦃Vs : List Value⦄ ⦃H : AH⦄ ⦃K : AH → AV → Prop⦄ ⦃φ : Phi⦄ ⦃s : Shared⦄ ⦃R : Result → Shared → Prop⦄,
  Good A n → call (.fn k) args H K → fnAddrs[k]? = some a → VRs φ s.heap args Vs → WR prog w base φ H s.heap → Kon prog w base φ s K (fun V s' => R (.ok (.ret V)) s') → codeAny (model prog w) A (.call (.ref a) ⟨Vs, []⟩) R s

structure Sound (W : MI) (n : Nat) : Prop where
  f : SoundF prog w base W.call n
  e : SoundE prog w base W.ev n
  t : SoundT prog w base W.tst n
  x : SoundX prog w base W.blk n
  c : SoundC prog w base W.call n
  bad : ∀ ρ H K, ¬ W.ev .bad ρ H K
end

section
variable {prog : Program} {w : World} {base : Heap} {φ φ₁ : Phi} {s : Shared} {v : AV} {H H₁ H' : AH} {A : Around} {E : Value → Shared → Prop} {n : Nat} {K : AH → AV → Prop} {Q : Value → Shared → Prop} {h₁ : Heap} {tk : Nat} {M : MI} {env : Env} {k : Sc} {sl : List Str} {ρ : Ro}

theorem KonB.shift {K : AH → Bool → Prop} {Q : Bool → Shared → Prop} (k : KonB prog w base φ s K Q) (S : Stp φ s.heap φ₁ h₁) : KonB prog w base φ₁ { s with heap := h₁, toks := tk } K Q :=
  fun φ' h' tk' b H' S' W r => k φ' h' tk' b H' (S.trans S') W r
theorem WR.kp0 (W : WR prog w base φ H s.heap) : Kp [] base φ s.heap :=
  ⟨List.nil_prefix, fun a o e _ _ => ⟨W.low a o e, fun q => by rw [W.above a q] at e; cases e⟩⟩

/-- a constant's value -/
theorem const_sound {c : Const} {kd : Nat} {p : Pos} (e : evF M (compConst c) ρ H K) (W : WR prog w base φ H s.heap) (k : Kon prog w base φ s K Q) : wpAny (model prog w) A (eval (.Constant c kd p) env) Q E s := by
  cases c with
  | none => exact wpAny_Constant_none (k.at W e rfl)
  | bool b => exact wpAny_Constant_bool (k.at W e rfl)
  | int i => exact wpAny_Constant_int (k.here W e ⟨_, rfl⟩ _)
  | str x =>
    have e : evF M (if sid x < strTab.length then .cst (.str (sid x)) else .bad) ρ H K := e
    by_cases h : sid x < strTab.length
    · rw [if_pos h] at e
      exact wpAny_Constant_str (k.here W e ⟨h, s.toks, by rw [sid_sOf h]⟩ _)
    · rw [if_neg h] at e; exact e.elim
  | _ => exact e.elim

theorem KK.var (kk : KK k env) {x : Str} (h : isVar (k x) = true) : isVar (env.kindOf x) = true := by
  rcases kk x with q | ⟨_, q⟩
  · rwa [← q]
  · rw [q]; rfl
theorem KK.own (kk : KK k env) {x : Str} (h1 : isVar (k x) = true) (h : ownVar ((k x).getD .free) = true) : ownVar ((env.kindOf x).getD .free) = true := by
  rcases kk x with q | ⟨q, _⟩
  · rwa [← q]
  · rw [q] at h; cases h

theorem name_sound (T : TopN prog w base) {x : Str} {p : Pos} (kk : KK k env) (R : ER base env sl ρ φ s.heap) (W : WR prog w base φ H s.heap)
    (h : evF M (compName k sl x) ρ H K) (kt : Kon prog w base φ s K Q) : wpAny (model prog w) A (eval (.Name x p) env) Q E s := by
  unfold compName at h
  by_cases hn : nameOk x = true
  · rw [hn] at h
    have h : evF M (match isVar (k x) with
      | true => if sl.idxOf x < sl.length then .loc (sl.idxOf x) else .bad
      | false => match k x with
        | some .globalImplicit => (match globOf x with | some v => .cst v | none => .bad)
        | _ => .bad) ρ H K := h
    cases hv : isVar (k x) with
    | true =>
      rw [hv] at h
      by_cases hl : sl.idxOf x < sl.length
      · have h : evF M (if sl.idxOf x < sl.length then .loc (sl.idxOf x) else .bad) ρ H K := h
        rw [if_pos hl] at h
        exact okW.el h fun a g h => load_sound R (kk.var hv) hl hn g fun V r => kt.at W h r
      · have h : evF M (if sl.idxOf x < sl.length then .loc (sl.idxOf x) else .bad) ρ H K := h
        rw [if_neg hl] at h; exact h.elim
    | false =>
      rw [hv] at h
      have h : evF M (match k x with
        | some .globalImplicit => (match globOf x with | some v => .cst v | none => .bad)
        | _ => .bad) ρ H K := h
      have key : k x = some .globalImplicit ∧ ∃ v, globOf x = some v ∧ K H v := by
        cases hk : k x with
        | none => rw [hk] at h; exact h.elim
        | some kd =>
          rw [hk] at h
          cases kd with
          | globalImplicit =>
            cases hg : globOf x with
            | none => have h : evF M (match globOf x with | some v => .cst v | none => .bad) ρ H K := h; rw [hg] at h; exact h.elim
            | some v => have h : evF M (match globOf x with | some v => .cst v | none => .bad) ρ H K := h; rw [hg] at h; exact ⟨rfl, v, rfl, h⟩
          | _ => exact h.elim
      obtain ⟨hk, v, hg, e⟩ := key
      obtain ⟨V, r, hw⟩ := T.glob x v hg
      have hk : env.kindOf x = some .globalImplicit := by
        rcases kk x with q | ⟨q, _⟩
        · rw [← q]; exact hk
        · rw [hk] at q; cases q
      exact hw W.low R.kind R.glob R.bi hk hn (kt.at W e (r.kp W.kp0))
  · have hn : nameOk x = false := by simpa using hn
    rw [hn] at h; exact h.elim

/-- several values -/
theorem evals_sound (hP : Sound prog w base M n) (g : Good A n) (kk : KK k env) {p : Pos} : ∀ {es : List Expr} {F : AH → List AV → Prop} {H : AH} {φ : Phi} {s : Shared} {Q : List Value → Shared → Prop}, evsF M ρ (compEs k sl es) F H → ER base env sl ρ φ s.heap →
    WR prog w base φ H s.heap → (∀ φ' h' tk Vs vs H', Stp φ s.heap φ' h' → WR prog w base φ' H' h' → VRs φ' h' vs Vs → F H' vs → Q Vs { s with heap := h', toks := tk }) →
    wpAny (model prog w) A (spliced (backTo p (starEach es env))) Q E s
  | [], F, H, φ, s, Q, e, _, W, kt => Calls.spliced_nil (kt φ s.heap s.toks [] [] H (StpX.refl _ _) W rfl e)
  | e₀ :: r, F, H, φ, s, Q, e, R, W, kt => by
    have e : M.ev (compE k sl e₀) ρ H (seqK (evsF M ρ (compEs k sl r)) (consK F)) := e
    have key : wpAny (model prog w) A (spliced ((false, eval e₀ env) :: backTo p (starEach r env))) Q E s := by
      refine Calls.spliced_cons (hP.e g kk e R W fun φ₁ h₁ tk₁ V₁ v₁ H₁ S₁ W₁ r₁ e => ?_)
      refine evals_sound hP g kk e (R.stp S₁) W₁ fun φ₂ h₂ tk₂ Vs vs H₂ S₂ W₂ rs e => ?_
      exact kt φ₂ h₂ tk₂ (V₁ :: Vs) (v₁ :: vs) H₂ (S₁.trans S₂) W₂ ⟨V₁, Vs, rfl, r₁.stp S₂, rs⟩ e
    cases e₀ with
    | Starred _ _ => exact absurd e (hP.bad _ _ _)
    | _ => exact key

theorem opt_sound (hP : Sound prog w base M n) (g : Good A n) (kk : KK k env) {eo : Option Expr} {F : AH → Option AV → Prop} (e : optF M (compOpt k sl eo) ρ H F) (R : ER base env sl ρ φ s.heap) (W : WR prog w base φ H s.heap)
    (kt : ∀ φ' h' tk V v H', Stp φ s.heap φ' h' → WR prog w base φ' H' h' → PR φ' h' v V → F H' v → Q V { s with heap := h', toks := tk }) : wpAny (model prog w) A (evalPart eo env) Q E s := by
  cases eo with
  | none => exact wpAny_pure (kt φ s.heap s.toks .none none H (StpX.refl _ _) W rfl e)
  | some x => exact hP.e g kk e R W fun φ₁ h₁ tk₁ V₁ v₁ H₁ S₁ W₁ r₁ e => kt φ₁ h₁ tk₁ V₁ (some v₁) H₁ S₁ W₁ r₁ e

def opOf (isAnd : Bool) : BoolOp := match isAnd with | true => .And | false => .Or
/-- and | or of bools -/
theorem bopV_sound (hP : Sound prog w base M n) (g : Good A n) (kk : KK k env) {a : Bool} {p : Pos} : ∀ {es : List Expr} {H : AH} {φ : Phi} {s : Shared}, bosF M a ρ (compEs k sl es) K H →
    ER base env sl ρ φ s.heap → WR prog w base φ H s.heap → Kon prog w base φ s K Q → wpAny (model prog w) A (boolOp p (opOf a) (evalEach es env)) Q E s
  | [], _, _, _, e, _, _, _ => e.elim
  | [e₀], H, φ, s, e, R, W, kt => hP.e g kk e R W kt
  | e₀ :: e₁ :: r, H, φ, s, e, R, W, kt => by
    show wpAny (model prog w) A (do let v ← eval e₀ env; standAt p; let t ← holding [v] (truthy v); match opOf a, t with | .And, false | .Or, true => pure v | _, _ => boolOp p (opOf a) (evalEach (e₁ :: r) env)) Q E s
    refine wpAny_bind (hP.e g kk (show M.ev (compE k sl e₀) ρ H (orV a (bosF M a ρ (compEs k sl (e₁ :: r))) K) from e) R W fun φ₁ h₁ tk₁ V₁ v₁ H₁ S₁ W₁ r₁ e => ?_)
    refine boolW.el e r₁ fun b e => ?_
    refine wpAny_bind (wpAny_standAt (wpAny_bind (wpAny_holding (wpAny_truthy_bool ?_))))
    cases a with
    | true => cases b with
      | true => exact bopV_sound hP g kk (a := true) (es := e₁ :: r) (s := { s with heap := h₁, toks := tk₁ }) e (R.stp S₁) W₁ (kt.shift S₁)
      | false => exact wpAny_pure (kt φ₁ h₁ tk₁ (.bool false) (.bool false) H₁ S₁ W₁ rfl e)
    | false => cases b with
      | true => exact wpAny_pure (kt φ₁ h₁ tk₁ (.bool true) (.bool true) H₁ S₁ W₁ rfl e)
      | false => exact bopV_sound hP g kk (a := false) (es := e₁ :: r) (s := { s with heap := h₁, toks := tk₁ }) e (R.stp S₁) W₁ (kt.shift S₁)
theorem bopT_sound (hP : Sound prog w base M n) (g : Good A n) (kk : KK k env) {a : Bool} {F : AH → Bool → Prop} {Q : Bool → Shared → Prop} : ∀ {es : List Expr} {H : AH} {φ : Phi} {s : Shared}, tssF M a ρ (compEs k sl es) F H →
    ER base env sl ρ φ s.heap → WR prog w base φ H s.heap → KonB prog w base φ s F Q → wpAny (model prog w) A (allTrue (opOf a) es env) Q E s
  | [], H, φ, s, e, _, W, kt => by cases a <;> exact wpAny_pure (kt φ s.heap s.toks _ H (StpX.refl _ _) W e)
  | e₀ :: r, H, φ, s, e, R, W, kt => by
    show wpAny (model prog w) A (do match opOf a, ← isTrue e₀ env (eval e₀ env) with | .And, false => pure false | .Or, true => pure true | _, _ => allTrue (opOf a) r env) Q E s
    refine wpAny_bind (hP.t g kk (show M.tst (compE k sl e₀) ρ H (andK a (tssF M a ρ (compEs k sl r)) F) from e) R W fun φ₁ h₁ tk₁ b H₁ S₁ W₁ e => ?_)
    cases a with
    | true => cases b with
      | true => exact bopT_sound hP g kk (a := true) (s := { s with heap := h₁, toks := tk₁ }) e (R.stp S₁) W₁ (kt.shift S₁)
      | false => exact wpAny_pure (kt φ₁ h₁ tk₁ false H₁ S₁ W₁ e)
    | false => cases b with
      | true => exact wpAny_pure (kt φ₁ h₁ tk₁ true H₁ S₁ W₁ e)
      | false => exact bopT_sound hP g kk (a := false) (s := { s with heap := h₁, toks := tk₁ }) e (R.stp S₁) W₁ (kt.shift S₁)
end
end Mine
end
section
set_option autoImplicit false
set_option Elab.async false
namespace Mine
open PySem PySem.Calls PyProof.Rows PySem.W

/-! ## Objects of the program's classes -/
structure ClsF (K : Frag) (c : Nat) (C : Addr) : Prop where
  pg : plainGet K C "" = true
  hd : hasDictIn K C = true
  fld : ∀ a ∈ fieldsOf c, findIn K (.ref C) (aOf a) = some none
  set : findIn K (.ref C) "__setattr__" = some (some (.builtin "object.__setattr__"))
  po : plainOver K C = true
  makes : makesIn K C = true
  init : ∀ k f, initFn c = some k → fnAddrs[k]? = some f → findIn K (.ref C) "__init__" = some (some (.ref f))
  meth : ∀ a k f, methFn c a = some k → fnAddrs[k]? = some f → findIn K (.ref C) (aOf a) = some (some (.ref f))
  keep : keepIn K (.ref C) = true

structure FnOK (prog : Program) (w : World) (base : Heap) (fn : Fn) (a : Addr) : Prop where
  ex : ∃ (fd : FuncData) (o : Obj) (body : List Stmt), base.get? a = some o ∧ o.data = .func fd ∧ base.CodeRec fd.code fd.qualname ∧ fd.body = .stmts body ∧ fd.closure = [] ∧ fd.globals = mainGlobals ∧ fd.builtins = builtinsNs ∧
    fd.scope.isCoroutine = false ∧ fd.scope.isGenerator = false ∧ fd.scope.kind = .function ∧ (fd.scope.names.map (·.1)).Nodup ∧ (∀ p ∈ fd.scope.names, p.2 ≠ .free) ∧
    fn.body = compSs (fun x => fd.scope.names.lookup x) (slotsOf fd.scope.names) body ∧ fn.nslots = (slotsOf fd.scope.names).length ∧
    ∀ (args vs : List AV) (Vs : List Value) (φ : Phi) (s : Shared), argsOf fn args = some vs → low base s.heap → VRs φ s.heap args Vs → Kp [] base φ s.heap →
      ∃ Ws, VRs φ s.heap vs Ws ∧ BindsTo s fd ⟨Vs, []⟩ ((slotsOf fd.scope.names).zip Ws)

structure TopC (prog : Program) (w : World) (base : Heap) (F : Nat → Option Fn) : Prop extends TopN prog w base where
  ex : ∃ K : Frag, K.In base ∧ (∀ (c : Nat) (C : Addr), clsAddrs[c]? = some C → ClsF K c C) ∧ ∀ (k : Nat) (a : Addr), fnAddrs[k]? = some a → keepIn K (.ref a) = true ∧ typeIn K (.ref a) = some (.type "function")
  fns : ∀ (k : Nat) (fn : Fn) (a : Addr), F k = some fn → fnAddrs[k]? = some a → FnOK prog w base fn a
  lim : base.NoLimit

section
variable {prog : Program} {w : World} {base : Heap} {φ φ₁ : Phi} {s : Shared} {v : AV} {H H₁ H' : AH} {K' : AH → AV → Prop} {A : Around} {E : Value → Shared → Prop} {n : Nat} {Q : Value → Shared → Prop} {K : Frag} {c : Nat} {C : Addr}

theorem inst_at {x dx : Addr} {es : List DictEntry} {m : Nat} {h : Heap} (g : h.get? x = some (instObj C dx)) (gd : h.get? dx = some (dicO es m)) : InstAt h x (instObj C dx) C (some (dicO es m)) := ⟨g, rfl, rfl, gd⟩

theorem str_isStr {x y : Str} {t : Tok} : (Value.str y t).isStr x = true ↔ y = x := by simp [Value.isStr]

theorem getL_cons {x y : Str} {hs : Int} {t : Tok} {V : Value} {es : List DictEntry} (h : (Value.str y t).isStr x = false) : getL x (⟨hs, .str y t, V⟩ :: es) = getL x es := by
  delta getL
  have : (DictEntry.refKey ⟨hs, .str y t, V⟩) = false := rfl
  simp [h, this]
theorem FR.look {h : Heap} {a : Nat} (ha : a < attrTab.length) : ∀ {fs : List (Nat × AV)} {es : List DictEntry}, FR φ h fs es →
    (∀ x, fs.lookup a = some x → ∃ V, getL (aOf a) es = some (some V) ∧ VR φ h x V) ∧ (fs.lookup a = none → getL (aOf a) es = some none)
  | [], _, e => by
    have e' : _ = _ := e; subst e'
    refine ⟨fun x q => by simp at q, fun _ => rfl⟩
  | (k, x) :: r, _, ⟨hs, t, V, es', e, hk, rx, rr⟩ => by
    subst e
    have ih := FR.look ha rr
    by_cases h1 : a = k
    · subst h1
      have hb : (Value.str (aOf a) t).isStr (aOf a) = true := str_isStr.mpr rfl
      refine ⟨fun y q => ?_, fun q => ?_⟩
      · simp [List.lookup_cons] at q; subst q
        exact ⟨V, by delta getL; simp [hb], rx⟩
      · simp [List.lookup_cons] at q
    · have h2 : (Value.str (aOf k) t).isStr (aOf a) = false := by
        rw [Bool.eq_false_iff]
        intro q
        exact h1 (aOf_inj ha hk (str_isStr.mp q).symm)
      have h3 : (a == k) = false := by simpa using h1
      refine ⟨fun y q => ?_, fun q => ?_⟩
      · rw [List.lookup_cons, h3] at q
        obtain ⟨V', e1, e2⟩ := ih.1 y q
        exact ⟨V', by rw [getL_cons h2]; exact e1, e2⟩
      · rw [List.lookup_cons, h3] at q
        rw [getL_cons h2]; exact ih.2 q

theorem FR.put {h : Heap} {a : Nat} {x : AV} {V : Value} {hs : Int} {t : Tok} (ha : a < attrTab.length) (rx : VR φ h x V) : ∀ {fs : List (Nat × AV)} {es : List DictEntry}, FR φ h fs es → FR φ h (putKV fs a x) (putL (aOf a) hs (.str (aOf a) t) V es)
  | [], _, e => by
    have e' : _ = _ := e; subst e'
    exact ⟨hs, t, V, [], rfl, ha, rx, rfl⟩
  | (k, y) :: r, _, ⟨hs', t', V', es', e, hk, ry, rr⟩ => by
    subst e
    by_cases h1 : k = a
    · subst h1
      have hb : (Value.str (aOf k) t').isStr (aOf k) = true := str_isStr.mpr rfl
      simp only [putKV, if_true, putL, hb]
      exact ⟨hs', t', V, es', rfl, hk, rx, rr⟩
    · have h2 : (Value.str (aOf k) t').isStr (aOf a) = false := by
        rw [Bool.eq_false_iff]
        intro q
        exact h1 (aOf_inj hk ha (str_isStr.mp q))
      simp only [putKV, if_neg h1, putL, h2, Bool.false_eq_true, if_false]
      exact ⟨hs', t', V', _, rfl, hk, ry, FR.put ha rx rr⟩

theorem FR.length {h : Heap} : ∀ {fs : List (Nat × AV)} {es : List DictEntry}, FR φ h fs es → es.length = fs.length
  | [], _, e => by have e' : _ = _ := e; subst e'; rfl
  | _ :: _, _, ⟨_, _, _, es', e, _, _, rr⟩ => by subst e; simp [FR.length rr]
theorem FR.keys {h : Heap} : ∀ {fs : List (Nat × AV)} {es : List DictEntry}, FR φ h fs es → es.any (·.refKey) = false
  | [], _, e => by have e' : _ = _ := e; subst e'; rfl
  | _ :: _, _, ⟨_, t, _, es', e, _, _, rr⟩ => by
    subst e
    rw [List.any_cons, FR.keys rr]
    rfl

theorem fields_lt : ∀ c : Nat, ∀ a ∈ fieldsOf c, a < attrTab.length := by
  intro c a h
  have key : ∀ c : Fin 8, ∀ a ∈ fieldsOf c.1, a < attrTab.length := by decide
  by_cases hc : c < 8
  · exact key ⟨c, hc⟩ a h
  · obtain ⟨d, rfl⟩ : ∃ d, c = d + 8 := ⟨c - 8, by lia⟩
    simp [fieldsOf] at h

theorem handed {h : Heap} {x : AV} {V : Value} (r : VR φ h x V) : handedIn V = true := by
  cases x with
  | none => rw [show V = .none from r]; rfl
  | bool b => rw [show V = .bool b from r]; rfl
  | int i => obtain ⟨t, rfl⟩ := r; rfl
  | str k => obtain ⟨_, t, rfl⟩ := r; rfl
  | tup xs => obtain ⟨_, a, vs, rfl, _⟩ := r; rfl
  | ref n => obtain ⟨p, _, rfl⟩ := r; rfl
  | fn k => obtain ⟨a, _, rfl⟩ := r; rfl
  | cls k => obtain ⟨a, _, rfl⟩ := r; rfl
  | bi b => rw [show V = biV b from r]; cases b <;> decide +kernel
  | rng a b c => obtain ⟨_, r, t, u, w, rfl, _⟩ := r; rfl
  | fl xs => obtain ⟨a, vs, rfl, _⟩ := r; rfl

theorem attr_sound {F : Nat → Option Fn} (T : TopC prog w base F) {o : AV} {Vo : Value} {a : Nat} {ex : Bool} (e : attrK a K' H o) (W : WR prog w base φ H s.heap) (ro : VR φ s.heap o Vo) (kt : Kon prog w base φ s K' Q) :
    wpAny (model prog w) A (getAttr Vo (aOf a) ex) Q E s := by
  obtain ⟨K, X, hC, _⟩ := T.ex
  refine refW.el e fun m ho e => ?_
  subst ho
  obtain ⟨h0, e⟩ := e
  rename_i ob
  cases ob with
  | inst c fs =>
    have e : cdW ((fieldsOf c).contains a) (okW (fs.lookup a) (K' H)) := e
    refine cdW.el e fun hf e => okW.el e fun v hv e => ?_
    obtain ⟨hp, hcl, g, gd, fr⟩ := W.inst h0 ro
    have CF := hC c _ hcl
    have hf' : a ∈ fieldsOf c := by simpa using hf
    obtain ⟨V, e1, r1⟩ := (FR.look (fields_lt c a hf') fr).1 v hv
    exact get_value (X.keeps W.low) (inst_at g gd) (plainGet_of CF.pg).1 (findObj_own CF.hd (CF.fld a hf') rfl (by rw [lookIn_dict]; exact e1)) (handed r1) (kt.here W e r1 _)
  | _ => exact e.elim

/-- storing in an object's own dict -/
theorem osa_raw {x dx : Addr} {es : List DictEntry} {m : Nat} {name : Str} {tk : Tok} {V : Value} {R : Result → Shared → Prop} (X : K.In s.heap) (CF : ClsF K c C) (hn : findIn K (.ref C) name = some none) (g : s.heap.get? x = some (instObj C dx)) (gd : s.heap.get? dx = some (dicO es m)) (hk : es.any (·.refKey) = false) (hz : es.length ≤ 900)
    (h : ∀ h' hs tk m', Heap.SameBut dx s.heap h' → h'.get? dx = some (dicO (putL name hs (.str name tk) V es) m') → R (.ok (.ret .none)) { s with heap := h', toks := s.toks + 1 }) :
    codeAny (model prog w) A (.call (.builtin "object.__setattr__") ⟨[.ref x, .str name tk, V], []⟩) R s := by
  have I := inst_at g gd
  refine osa_open (r := none) X I CF.po (by unfold takerIn; rw [hn]; rfl) fun b => ?_
  obtain ⟨cd, hc, hd'⟩ := any_some CF.hd
  refine wpAny_bind (wpAny_pure (wpAny_bind (wpAny_bind (wpAny_loadPart g (wpAny_bind ((looks_clsIn X hc).here ?_))))))
  rw [hd']
  refine wpAny_pure (a := some dx) (wpAny_bind (wpAny_pure (wpAny_bind ?_)))
  unfold nsSet
  refine wpAny_bind (wpAny_bind (wpAny_askSetting (wpAny_pure (wpAny_bind (wpAny_mkText (wpAny_bind (wpAny_loadPart gd ?_)))))))
  dsimp only
  have c' : (!es.toArray.any (·.key.isStr name) && es.toArray.any (·.refKey)) = false := by
    rw [show es.toArray.any (·.refKey) = false by simpa using hk, Bool.and_false]
  rw [aRefKeyMayBeTheName_at, c']
  have hnew : (s.heap.update dx (Obj.putName name (PyData.keyHash w.params name) (.str name s.toks) V)).get? dx = some (dicO (putL name (PyData.keyHash w.params name) (.str name s.toks) V es) (putN name es m)) := by
    have e1 := putName_dict name (PyData.keyHash w.params name) (.str name s.toks) V es m
    have e2 := Heap.get?_update_self (Obj.putName name (PyData.keyHash w.params name) (.str name s.toks) V) gd (by rw [show dicO es m = dictOf es m from rfl, e1]; rfl)
    rw [e2]
    exact congrArg some e1
  have hlen : (putL name (PyData.keyHash w.params name) (.str name s.toks) V es).length ≤ 1000 := by
    have : ∀ es : List DictEntry, (putL name (PyData.keyHash w.params name) (.str name s.toks) V es).length ≤ es.length + 1 := by
      intro es
      induction es with
      | nil => simp [putL]
      | cons e r ih => unfold putL; split <;> simp <;> lia
    have := this es; lia
  refine wpAny_updatePart gd ?_
  refine wpAny_bind (wpAny_lookBehind hnew (pastItsLine_dict (by rw [List.size_toArray, sizeLine_eq]; lia)) ?_)
  exact wpAny_pure (h _ _ _ _ (Heap.SameBut.update ..) hnew)
theorem set_own_raw {x dx : Addr} {es : List DictEntry} {m : Nat} {name : Str} {V : Value} {Q : Unit → Shared → Prop} (X : K.In s.heap) (CF : ClsF K c C) (hn : findIn K (.ref C) name = some none) (g : s.heap.get? x = some (instObj C dx)) (gd : s.heap.get? dx = some (dicO es m)) (hk : es.any (·.refKey) = false) (hz : es.length ≤ 900)
    (h : ∀ h' hs tk m', Heap.SameBut dx s.heap h' → h'.get? dx = some (dicO (putL name hs (.str name tk) V es) m') → Q () { s with heap := h', toks := s.toks + 2 }) :
    wpAny (model prog w) A (setAttr (.ref x) name V) Q E s :=
  set_plain X (inst_at g gd) CF.set (osa_raw (s := { s with toks := s.toks + 1 }) X CF hn g gd hk hz h)

theorem setAttr_sound {F : Nat → Option Fn} (T : TopC prog w base F) {o x : AV} {Vo Vx : Value} {a : Nat} {G : AH → Prop} {Q : Unit → Shared → Prop} (e : setAttrW o a x H G) (W : WR prog w base φ H s.heap) (ro : VR φ s.heap o Vo) (rx : VR φ s.heap x Vx)
    (k : ∀ H' h' tk, G H' → Stp φ s.heap φ h' → WR prog w base φ H' h' → Q () { s with heap := h', toks := tk }) : wpAny (model prog w) A (setAttr Vo (aOf a) Vx) Q E s := by
  obtain ⟨K, X, hC, _⟩ := T.ex
  refine refW.el e fun m ho e => ?_
  subst ho
  obtain ⟨h0, e⟩ := e
  rename_i ob
  cases ob with
  | inst c fs =>
    have e : cdW ((fieldsOf c).contains a) (cdW (decide (fs.length < 40)) (G (H.set m (.inst c (putKV fs a x))))) := e
    refine cdW.el e fun hf e => cdW.el e fun hl e => ?_
    have hl := of_decide_eq_true hl
    obtain ⟨hp, hcl, g, gd, fr⟩ := W.inst h0 ro
    rename_i y C dx es n1
    have CF := hC c _ hcl
    have hf' : a ∈ fieldsOf c := by simpa using hf
    refine set_own_raw (X.keeps W.low) CF (CF.fld a hf') g gd fr.keys (by rw [fr.length]; lia) fun h' hs tk m' hsb hg => ?_
    have hne : y ≠ dx := fun q => by subst q; rw [g] at gd; cases gd
    obtain ⟨W', S⟩ := W.upd (ao' := .inst c (putKV fs a x)) hp (.tail _ (.head _)) hsb fun S => ⟨C, dx, _, m', rfl, hcl, (hsb.2 _ hne).trans g, hg, FR.put (fields_lt c a hf') (rx.stp S) (fr.kp S.kp)⟩
    exact k _ h' _ e S W'
  | _ => exact e.elim

/-- a method of an object -/
theorem inst_method {F : Nat → Option Fn} (T : TopC prog w base F) {m c a k : Nat} {fs : List (Nat × AV)} {V : Value} {pl : Sem Bool} {Q : Value × List Value → Shared → Prop} (h0 : H[m]? = some (.inst c fs)) (hl : fs.lookup a = none) (hm : methFn c a = some k) (hk : k < fnAddrs.length)
    (ha : a < attrTab.length) (W : WR prog w base φ H s.heap) (r : VR φ s.heap (.ref m) V) (h : ∀ f, fnAddrs[k]? = some f → Q (.ref f, [V]) s) : wpAny (model prog w) A (getMethod V (aOf a) pl) Q E s := by
  obtain ⟨K, X, hC, hF⟩ := T.ex
  obtain ⟨hp, hcl, g, gd, fr⟩ := W.inst h0 r
  rename_i y C dx es n1
  have CF := hC c _ hcl
  have hf : fnAddrs[k]? = some fnAddrs[k] := List.getElem?_eq_getElem hk
  exact method_fn (X.keeps W.low) (inst_at g gd) (plainGet_of CF.pg).1 (plainGet_of CF.pg).2 (CF.meth a k _ hm hf) (hF k _ hf).2
    (by show (lookIn (aOf a) (dictOf es n1)).map _ = _; rw [lookIn_dict, (FR.look ha fr).2 hl]; rfl) (h _ hf)

/-- calls by a call's term -/
theorem callWith_sound {F : Nat → Option Fn} (T : TopC prog w base F) {f : AV} {Vf : Value} {pos : Pos} {first : List Value} {args : List (Bool × Sem Value)} (hc : callable f = true) (r : VR φ s.heap f Vf) (hplain : args.any (·.1) = false)
    (h : wpAny (model prog w) A (evalArgs Vf true args []) (fun a s₁ => low base s₁.heap ∧ wpAny (model prog w) A (call Vf (first ++ a.pos) a.kw) Q E s₁) E s) : wpAny (model prog w) A (callWith pos Vf first args []) Q E s := by
  obtain ⟨K, X, hC, hF⟩ := T.ex
  cases f with
  | fn k =>
    obtain ⟨a, ha, rfl⟩ := r
    refine callWith_of (P := fun h => low base h) (by rw [hplain]; rfl) (fun h lo => keeps_K (hF k a ha).1 h (X.keeps lo)) h
  | cls k =>
    obtain ⟨a, ha, rfl⟩ := r
    refine callWith_of (P := fun h => low base h) (by rw [hplain]; rfl) (fun h lo => keeps_K (hC k a ha).keep h (X.keeps lo)) h
  | bi b =>
    have r' : Vf = biV b := r
    subst r'
    have h' := wpAny_mono h (fun a s₁ h₁ => h₁.2) fun _ _ e => e
    cases b with
    | len => exact Calls.callWith_builtin hplain h'
    | abs => exact Calls.callWith_builtin hplain h'
    | sorted => exact Calls.callWith_builtin hplain h'
    | isinst => exact Calls.callWith_builtin hplain h'
    | range => exact PyProof.Rows.callWith_type hplain h'
    | list => exact PyProof.Rows.callWith_type hplain h'
    | tuple => exact PyProof.Rows.callWith_type hplain h'
  | _ => cases hc
end
end Mine
end
section
set_option autoImplicit false
set_option Elab.async false
namespace Mine
open PySem PySem.Calls PyProof.Rows PySem.W

section
variable {prog : Program} {w : World} {base : Heap} {φ φ' φ₁ : Phi} {s : Shared} {v : AV} {H H₁ H' : AH} {A : Around} {E : Value → Shared → Prop} {n : Nat} {Q : Value → Shared → Prop} {h h' h₁ : Heap} {tk : Nat} {M : MI} {env : Env} {k : Sc} {sl : List Str} {ρ ρ' : Ro}

/-! ### iterators, once more -/
theorem self_sound {it : It} {L i : Nat} {a : Addr} (r : IR φ s.heap it L i a) (h : Q (.ref a) s) : wpAny (model prog w) A (pyIter (.ref a)) Q E s := by
  cases it with
  | lst n => obtain ⟨p, _, hi⟩ := r; exact wpAny_pyIter_listiter hi h
  | tup xs => obtain ⟨t, vs, hi, _⟩ := r; exact wpAny_pyIter_tupleiter hi h
  | rng x y c => exact wpAny_pyIter_rangeiter r h
  | dct n => obtain ⟨p, _, hi⟩ := r; exact wpAny_pyIter_keyiter hi h

theorem owned_sound {it : It} {L i : Nat} {a : Addr} {V : Value} {tgt : Expr} {Q : Unit → Shared → Prop} (r : IR φ s.heap it L i a) (hQ : Q () s) : wpAny (model prog w) A (letOwnedTupleGo tgt (.ref a) V) Q E s := by
  obtain ⟨ho, hc, hd, _, hn⟩ := r.data
  cases tgt <;> first
    | exact wpAny_pure hQ
    | (cases V <;> first
        | exact wpAny_pure hQ
        | (refine wpAny_bind (wpAny_load ho ?_)
           rw [hc, hd]
           dsimp only
           rw [hn, Bool.false_and]
           exact wpAny_pure hQ))

theorem stp_one {a : Addr} (hs : Heap.SameBut a h h') (ho : ∃ o, h'.get? a = some o) (hm : ∀ o, h.get? a = some o → isMut o = true) : StpX (· = a) φ h φ h' :=
  ⟨List.prefix_refl _, fun _ q => .inl q, fun b o e _ nx => (hs.2 b nx).trans e, fun b o e _ x => by subst x; exact ho, fun b x o e => by subst x; exact hm o e⟩

/-! ### targets -/
/-- the places that a store may change -/
structure Stores (k : Sc) (env : Env) (X : Addr → Prop) : Prop where
  loc : ∀ x, env.kindOf x = some .local → X env.locals
  cell : ∀ x, ownVar ((k x).getD .free) = true → env.kindOf x = some .cell → ∀ c, env.cells.lookup x = some c → X c
  own : ∀ a, X a → Own env a
theorem Stores.all (k : Sc) (env : Env) : Stores k env (Own env) := ⟨fun _ _ => .inl rfl, fun x _ _ c h => .inr ⟨x, h⟩, fun _ => id⟩
theorem tgt_name {e : Expr} {i : Nat} (h : compTgt k sl e = some i) : ∃ x p, e = .Name x p ∧ i = sl.idxOf x ∧ isVar (k x) = true ∧ ownVar ((k x).getD .free) = true ∧ sl.idxOf x < sl.length := by
  cases e <;> simp only [compTgt] at h
  case Name x p =>
    split at h
    · rename_i hc; cases h
      simp only [Bool.and_eq_true, decide_eq_true_eq] at hc
      exact ⟨x, p, rfl, rfl, hc.1.1, hc.1.2, hc.2⟩
    · cases h
  all_goals cases h

theorem setR_eq {i : Nat} {a : AV} (h : setR ρ i a = some ρ') : i < ρ.length ∧ ρ' = ρ.set i (some a) := by
  unfold setR at h
  split at h
  · cases h; exact ⟨by assumption, rfl⟩
  · cases h

theorem name_store {X : Addr → Prop} (SX : Stores k env X) {e : Expr} {i : Nat} {a : AV} {V : Value} {Q : Unit → Shared → Prop} (kk : KK k env) (h : compTgt k sl e = some i) (hr : setR ρ i a = some ρ') (R : ER base env sl ρ φ s.heap) (W : WR prog w base φ H s.heap) (r : VR φ s.heap a V)
    (kt : ∀ h' tk, ER base env sl ρ' φ h' → WR prog w base φ H h' → StpX X φ s.heap φ h' → Q () { s with heap := h', toks := tk }) : wpAny (model prog w) A (assign e env V) Q E s := by
  obtain ⟨x, p, rfl, rfl, h1, h2, h3⟩ := tgt_name h
  obtain ⟨_, rfl⟩ := setR_eq hr
  exact wpAny_assign_Name (store_sound (SX.loc _) (SX.cell _ h2) SX.own R W (kk.own h1 h2) h3 r kt)

theorem tgts_each : ∀ {es : List Expr} {is : List Nat}, compTgts k sl es = some is → assignEach es env = es.map (fun t => (false, assign t env)) ∧ es.length = is.length
  | [], is, h => by cases h; exact ⟨rfl, rfl⟩
  | e :: r, is, h => by
    simp only [compTgts] at h
    split at h
    · rename_i i is' h1 h2; cases h
      obtain ⟨x, p, rfl, _⟩ := tgt_name h1
      obtain ⟨e1, e2⟩ := tgts_each (es := r) h2
      refine ⟨?_, by simp [e2]⟩
      show (false, assign (.Name x p) env) :: assignEach r env = _
      rw [e1]; rfl
    · cases h

theorem names_store {X : Addr → Prop} (SX : Stores k env X) (kk : KK k env) : ∀ {es : List Expr} {is : List Nat} {as : List AV} {Vs : List Value} {ρ ρ' : Ro} {s : Shared} {Q : Unit → Shared → Prop}, compTgts k sl es = some is → setTs is as ρ = some ρ' →
    ER base env sl ρ φ s.heap → WR prog w base φ H s.heap → VRs φ s.heap as Vs →
    (∀ h' tk, ER base env sl ρ' φ h' → WR prog w base φ H h' → StpX X φ s.heap φ h' → Q () { s with heap := h', toks := tk }) →
    wpAny (model prog w) A (assignInOrder (es.map fun t => assign t env) Vs) Q E s
  | [], is, as, Vs, ρ, ρ', s, Q, h, hr, R, W, rs, kt => by
    cases h
    cases as with
    | nil =>
      cases hr
      have rs' : Vs = [] := rs
      subst rs'
      exact wpAny_pure (kt s.heap s.toks R W ((StpX.refl _ _).over fun a q => R.mut a (SX.own a q)))
    | cons a as => cases hr
  | e :: r, is, as, Vs, ρ, ρ', s, Q, h, hr, R, W, rs, kt => by
    simp only [compTgts] at h
    split at h
    · rename_i i is' h1 h2; cases h
      cases as with
      | nil => cases hr
      | cons a as =>
        simp only [setTs] at hr
        obtain ⟨ρ₁, h3, h4⟩ := Option.bind_eq_some_iff.mp hr
        obtain ⟨V, Vs', rfl, r1, rs'⟩ := rs
        refine wpAny_assignInOrder_more (name_store SX kk h1 h3 R W r1 fun h₁ tk₁ R₁ W₁ S₁ => ?_)
        refine names_store SX kk h2 h4 R₁ W₁ (rs'.stp S₁) fun h₂ tk₂ R₂ W₂ S₂ => ?_
        exact kt h₂ tk₂ R₂ W₂ (S₁.trans S₂)
    · cases h

theorem setTs_one {ts : List Nat} {a : AV} (h : setTs ts [a] ρ = some ρ') : ∃ i, ts = [i] ∧ setR ρ i a = some ρ' := by
  cases ts with
  | nil => cases h
  | cons i is =>
    simp only [setTs] at h
    obtain ⟨ρ₁, h1, h2⟩ := Option.bind_eq_some_iff.mp h
    cases is with
    | nil => cases h2; exact ⟨i, rfl, h1⟩
    | cons j js => cases h2

/-- a loop's or a comprehension's target takes a value -/
theorem target_sound {X : Addr → Prop} (SX : Stores k env X) {e : Expr} {ts : List Nat} {one : Bool} {a : AV} {V : Value} {Q : Unit → Shared → Prop} (kk : KK k env) (hh : A.handled = none) (h : compTarget k sl e = some (ts, one)) (hr : bindT ts one a ρ = some ρ') (R : ER base env sl ρ φ s.heap) (W : WR prog w base φ H s.heap) (r : VR φ s.heap a V)
    (kt : ∀ h' tk, ER base env sl ρ' φ h' → WR prog w base φ H h' → StpX X φ s.heap φ h' → Q () { s with heap := h', toks := tk }) : wpAny (model prog w) A (assign e env V) Q E s := by
  have nm : ∀ e : Expr, (compTgt k sl e).map (fun x => ([x], true)) = some (ts, one) → wpAny (model prog w) A (assign e env V) Q E s := fun e h => by
    obtain ⟨i, h1, h2⟩ := Option.map_eq_some_iff.mp h
    cases h2
    have hr : setTs [i] [a] ρ = some ρ' := hr
    obtain ⟨j, hj, hr⟩ := setTs_one hr
    cases hj
    exact name_store SX kk h1 hr R W r kt
  unfold compTarget at h
  split at h
  · rename_i es x p
    obtain ⟨is, h1, h2⟩ := Option.map_eq_some_iff.mp h
    cases h2
    cases a with
    | tup xs =>
      have hr : setTs ts xs ρ = some ρ' := hr
      obtain ⟨_, t, vs, rfl, g, m, q⟩ := r
      obtain ⟨e1, e2⟩ := tgts_each (env := env) h1
      have hlen : ∀ {is : List Nat} {as : List AV} {ρ ρ' : Ro}, setTs is as ρ = some ρ' → is.length = as.length := by
        intro is
        induction is with
        | nil => intro as ρ ρ' h; cases as with | nil => rfl | cons _ _ => cases h
        | cons i is ih =>
          intro as ρ ρ' h
          cases as with
          | nil => cases h
          | cons a as => simp only [setTs] at h; obtain ⟨ρ₁, _, h4⟩ := Option.bind_eq_some_iff.mp h; simp [ih h4]
      refine wpAny_assign_Tuple (items := vs.toArray) hh ⟨_, g, rfl, 0, rfl⟩ (by rw [e1, List.length_map, e2, hlen hr, q.length]; simp) (by rw [e1]; simp) fun h₁ hx => ?_
      obtain ⟨W₁, S₁⟩ := W.grow (h' := h₁) fun b o eb => hx b o (Nat.ne_of_lt (Heap.lt_size eb)) eb
      have e3 : (assignEach es env).map (·.2) = es.map fun t => assign t env := by rw [e1, List.map_map]; rfl
      rw [e3]
      refine names_store SX kk h1 hr (R.stp S₁) W₁ (by simpa using q.stp S₁) fun h₂ tk₂ R₂ W₂ S₂ => ?_
      exact kt h₂ tk₂ R₂ W₂ ((S₁.over fun a q => R.mut a (SX.own a q)).trans S₂)
    | _ => exact nomatch hr
  · exact nm _ h
end
end Mine
end
section
set_option autoImplicit false
set_option Elab.async false
namespace Mine
open PySem PySem.Calls PyProof.Rows PySem.W

/-! ## The comprehension -/
def closL (env : Env) : List (Str × NameKind) → List (Str × Addr) → List (Str × Addr)
  | [], acc => acc
  | (n, kd) :: r, acc => if kd == .free then closL env r ((n, (env.cells.lookup n).getD 0) :: acc) else closL env r acc

theorem closureFor_eq {scope : Scope} {env : Env} (h : ∀ p ∈ scope.names, p.2 = .free → ∃ c, env.cells.lookup p.1 = some c) : closureFor scope env = pure (closL env scope.names []) := by
  have key : ∀ (names : List (Str × NameKind)) (acc : List (Str × Addr)), (∀ p ∈ names, p.2 = .free → ∃ c, env.cells.lookup p.1 = some c) →
      (forIn names acc fun (x : Str × NameKind) (cs : List (Str × Addr)) => (if (x.2 == NameKind.free) = true then do let a ← cellOf env x.1; pure (ForInStep.yield ((x.1, a) :: cs)) else pure (ForInStep.yield cs) : Sem (ForInStep (List (Str × Addr))))) = pure (closL env names acc) := by
    intro names
    induction names with
    | nil => intro acc _; rfl
    | cons p r ih =>
      intro acc hp
      obtain ⟨n, kd⟩ := p
      rw [List.forIn_cons]
      unfold closL
      cases hk : kd == NameKind.free with
      | true =>
        have : kd = .free := by simpa using hk
        obtain ⟨c, hc⟩ := hp (n, kd) (.head _) this
        have e1 : cellOf env n = pure c := by unfold cellOf; rw [hc]
        simp only [if_true]
        rw [e1, hc]
        exact ih _ fun q hq => hp q (.tail _ hq)
      | false =>
        simp only [Bool.false_eq_true, if_false]
        exact ih _ fun q hq => hp q (.tail _ hq)
  unfold closureFor
  have := key scope.names [] h
  simp only [bind_pure]
  exact this

theorem closL_mem {env : Env} {x : Str} {c : Addr} : ∀ {names : List (Str × NameKind)} {acc : List (Str × Addr)}, (x, c) ∈ closL env names acc → (x, c) ∈ acc ∨ ((x, NameKind.free) ∈ names ∧ c = (env.cells.lookup x).getD 0)
  | [], _, h => .inl h
  | (n, kd) :: r, acc, h => by
    unfold closL at h
    split at h
    · rename_i hk
      have hk : kd = .free := by simpa using hk
      subst hk
      rcases closL_mem h with q | ⟨q1, q2⟩
      · rcases List.mem_cons.mp q with e | q
        · cases e; exact .inr ⟨.head _, rfl⟩
        · exact .inl q
      · exact .inr ⟨.tail _ q1, q2⟩
    · rcases closL_mem h with q | ⟨q1, q2⟩
      · exact .inl q
      · exact .inr ⟨.tail _ q1, q2⟩
theorem closL_has {env : Env} {x : Str} : ∀ {names : List (Str × NameKind)} {acc : List (Str × Addr)}, ((x, NameKind.free) ∈ names ∨ ∃ c, (x, c) ∈ acc) → ∃ c, (x, c) ∈ closL env names acc
  | [], _, h => h.elim (fun q => by cases q) id
  | (n, kd) :: r, acc, h => by
    unfold closL
    split
    · refine closL_has ?_
      rcases h with q | ⟨c, q⟩
      · rcases List.mem_cons.mp q with e | q
        · cases e; exact .inr ⟨_, .head _⟩
        · exact .inl q
      · exact .inr ⟨c, .tail _ q⟩
    · rename_i hk
      refine closL_has ?_
      rcases h with q | ⟨c, q⟩
      · rcases List.mem_cons.mp q with e | q
        · cases e; exact absurd rfl hk
        · exact .inl q
      · exact .inr ⟨c, q⟩
theorem lookup_of_mem {α : Type} {x : Str} {c : α} : ∀ {l : List (Str × α)}, (x, c) ∈ l → ∃ c', l.lookup x = some c'
  | (n, d) :: r, h => by
    by_cases e : x = n
    · subst e; exact ⟨d, by simp⟩
    · have hb : (x == n) = false := by simpa using e
      rw [List.lookup_cons, hb]
      rcases List.mem_cons.mp h with q | q
      · cases q; exact absurd rfl e
      · exact lookup_of_mem q

theorem lookup_nodup {l : List (Str × NameKind)} (hn : (l.map (·.1)).Nodup) : ∀ {x : Str} {k : NameKind}, (x, k) ∈ l → l.lookup x = some k := by
  induction l with
  | nil => intro x k h; cases h
  | cons p r ih =>
    intro x k h
    obtain ⟨n, d⟩ := p
    rw [List.map_cons, List.nodup_cons] at hn
    rcases List.mem_cons.mp h with q | q
    · cases q; simp
    · have : x ≠ n := fun e => hn.1 (e ▸ List.mem_map.mpr ⟨(x, k), q, rfl⟩)
      have hb : (x == n) = false := by simpa using this
      rw [List.lookup_cons, hb]
      exact ih hn.2 q

theorem relabel_kind {scope : Scope} {env : Env} {x : Str} {C : Addr} {cl : List (Str × Addr)} : scope.names.lookup x = (compEnvC scope cl C env).kindOf x ∨ (scope.names.lookup x = some .free ∧ (compEnvC scope cl C env).kindOf x = some .cell) := by
  show scope.names.lookup x = (relabel scope env).names.lookup x ∨ (scope.names.lookup x = some .free ∧ (relabel scope env).names.lookup x = some .cell)
  unfold relabel
  dsimp only
  induction scope.names with
  | nil => exact .inl rfl
  | cons p r ih =>
    obtain ⟨n, d⟩ := p
    rw [List.map_cons]
    by_cases e : x = n
    · subst e
      by_cases hc : (d == NameKind.free && env.scope.kind == .function && env.kindOf x == some .cell) = true
      · rw [if_pos hc]
        simp only [Bool.and_eq_true] at hc
        have : d = .free := by simpa using hc.1.1
        subst this
        exact .inr ⟨by simp, by simp⟩
      · rw [if_neg hc]; left; simp
    · have hb : (x == n) = false := by simpa using e
      have h2 : ∀ (q : Str × NameKind), q.1 = n → ∀ l : List (Str × NameKind), (q :: l).lookup x = l.lookup x := fun q hq l => by
        obtain ⟨a, b⟩ := q
        dsimp only at hq
        subst hq
        rw [List.lookup_cons, hb]
      rw [h2 (n, d) rfl, h2 _ (by split <;> rfl)]
      exact ih

theorem compSlots_mem {names : List (Str × NameKind)} {x : Str} : x ∈ compSlots names ↔ (x, NameKind.local) ∈ names := by
  unfold compSlots
  simp only [List.mem_map, List.mem_filter]
  constructor
  · rintro ⟨⟨n, d⟩, ⟨h1, h2⟩, rfl⟩
    have : d = .local := by simpa using h2
    subst this; exact h1
  · intro h; exact ⟨_, ⟨h, by simp⟩, rfl⟩

section
variable {prog : Program} {w : World} {base : Heap} {φ φ' φ₁ : Phi} {s : Shared} {v : AV} {H H₁ H' : AH} {A : Around} {E : Value → Shared → Prop} {n : Nat} {Q : Value → Shared → Prop} {h h' h₁ : Heap} {tk : Nat} {M : MI} {env : Env} {k : Sc} {sl : List Str} {ρ ρ' : Ro}

theorem comp_own {scope : Scope} {C : Addr} {a : Addr} (R : ER base env sl ρ φ h) (hfree : ∀ p ∈ scope.names, p.2 = .free → isVar (env.kindOf p.1) = true ∧ sl.idxOf p.1 < sl.length ∧ isV (env.kindOf p.1))
    (q : Own (compEnvC scope (closL env scope.names []) C env) a) : a = C ∨ Own env a := by
  rcases q with q | ⟨x, q⟩
  · exact .inl q
  · rcases closL_mem (mem_of_lookup q) with z | ⟨q1, q2⟩
    · cases z
    · obtain ⟨_, h2, h3⟩ := hfree _ q1 rfl
      obtain ⟨c', hc'⟩ := R.has x h3 h2
      rw [hc'] at q2
      exact .inr (.inr ⟨x, by rw [hc']; exact congrArg some q2.symm⟩)
/-- the frame of a comprehension -/
theorem comp_frame {scope : Scope} {C : Addr} (R : ER base env sl ρ φ h) (hn : (scope.names.map (·.1)).Nodup) (hk : scope.kind = .function) (hnc : ∀ p ∈ scope.names, p.2 ≠ .cell)
    (hfree : ∀ p ∈ scope.names, p.2 = .free → isVar (env.kindOf p.1) = true ∧ sl.idxOf p.1 < sl.length ∧ isV (env.kindOf p.1)) (hns : h.Ns C fun _ => none) (hC : C ∉ adrs φ) (hbC : base.get? C = none) :
    ER base (compEnvC scope (closL env scope.names []) C env) (compSlots scope.names ++ sl) (List.replicate (compSlots scope.names).length none ++ ρ) φ h := by
  have cl_of : ∀ {x : Str} {c : Addr}, (closL env scope.names []).lookup x = some c → (x, NameKind.free) ∈ scope.names ∧ env.cells.lookup x = some c := fun {x c} e => by
    rcases closL_mem (mem_of_lookup e) with q | ⟨q1, q2⟩
    · cases q
    · obtain ⟨_, h2, h3⟩ := hfree _ q1 rfl
      obtain ⟨c', hc'⟩ := R.has x h3 h2
      rw [hc'] at q2
      exact ⟨q1, by rw [hc']; exact congrArg some q2.symm⟩
  have notLoc : ∀ {x : Str}, (x, NameKind.free) ∈ scope.names → x ∉ compSlots scope.names := fun {x} hx hm => by
    have h1 := lookup_nodup hn hx
    have h2 := lookup_nodup hn (compSlots_mem.mp hm)
    rw [h1] at h2; cases h2
  have idx : ∀ {x : Str}, (x, NameKind.free) ∈ scope.names → (compSlots scope.names ++ sl).idxOf x = (compSlots scope.names).length + sl.idxOf x := fun {x} hx => by
    rw [List.idxOf_append, if_neg (notLoc hx), Nat.add_comm]
  have get : ∀ i, getR (List.replicate (compSlots scope.names).length none ++ ρ) ((compSlots scope.names).length + i) = getR ρ i := fun i => by
    unfold getR
    rw [List.getElem?_append_right (by simp)]
    simp
  have own : ∀ a, Own (compEnvC scope (closL env scope.names []) C env) a → a = C ∨ Own env a := fun a q => by
    rcases q with q | ⟨x, q⟩
    · exact .inl q
    · exact .inr (.inr ⟨x, (cl_of q).2⟩)
  refine ⟨hk, R.glob, R.bi, by simp [R.len], ⟨_, hns, fun x u hx g => ?_⟩, fun x c hc => ?_, fun x hx hi => ?_, fun a q => ?_, fun a q => ?_, fun x y c hx hy => R.ap x y c (cl_of hx).2 (cl_of hy).2⟩
  · have hm : x ∈ compSlots scope.names := by
      have h1 : scope.names.lookup x = some .local := by
        rcases relabel_kind (scope := scope) (env := env) (x := x) (C := C) (cl := closL env scope.names []) with q | ⟨_, q⟩
        · rw [q]; exact hx
        · rw [q] at hx; cases hx
      exact compSlots_mem.mpr (mem_of_lookup h1)
    have hi : (compSlots scope.names ++ sl).idxOf x < (compSlots scope.names).length := by
      rw [List.idxOf_append, if_pos hm]; exact List.idxOf_lt_length_of_mem hm
    unfold getR at g
    rw [List.getElem?_append_left (by simpa using hi)] at g
    simp [List.getElem?_replicate, hi] at g
  · obtain ⟨h1, h2⟩ := cl_of hc
    obtain ⟨ov, ic, hv⟩ := R.cel x c h2
    refine ⟨ov, ic, fun _ u g => ?_⟩
    rw [idx h1, get] at g
    exact hv (hfree _ h1 rfl).2.2 u g
  · have hm : (x, NameKind.free) ∈ scope.names := by
      rcases relabel_kind (scope := scope) (env := env) (x := x) (C := C) (cl := closL env scope.names []) with q | ⟨q, _⟩
      · rcases hx with hx | hx
        · rw [hx] at q; exact absurd rfl (hnc _ (mem_of_lookup q))
        · rw [hx] at q; exact mem_of_lookup q
      · exact mem_of_lookup q
    obtain ⟨c, hc⟩ := closL_has (env := env) (names := scope.names) (acc := []) (.inl hm)
    exact lookup_of_mem hc
  · rcases own a q with rfl | q
    · exact hC
    · exact R.un a q
  · rcases own a q with rfl | q
    · exact hbC
    · exact R.low a q

/-- the tests of a comprehension -/
theorem tests_sound (hP : Sound prog w base M n) (g : Good A n) (kk : KK k env) {F : AH → Bool → Prop} {Q : Bool → Shared → Prop} : ∀ {cs : List Expr} {H : AH} {φ : Phi} {s : Shared}, tssF M true ρ (compEs k sl cs) F H → ER base env sl ρ φ s.heap →
    WR prog w base φ H s.heap → KonB prog w base φ s F Q →
    wpAny (model prog w) A (forIn cs true fun c r => if r = true then do let ok ← isTrue c env (eval c env); pure (ForInStep.yield ok) else pure (ForInStep.yield r)) Q E s := by
  have skip : ∀ (cs : List Expr) (s : Shared) (Q : Bool → Shared → Prop), Q false s → wpAny (model prog w) A (forIn cs false fun c r => if r = true then do let ok ← isTrue c env (eval c env); pure (ForInStep.yield ok) else pure (ForInStep.yield r)) Q E s := by
    intro cs
    induction cs with
    | nil => intro s Q h; exact wpAny_pure h
    | cons c r ih =>
      intro s Q h
      rw [List.forIn_cons]
      simp only [Bool.false_eq_true, if_false]
      exact wpAny_bind (wpAny_pure (ih s Q h))
  intro cs
  induction cs with
  | nil => intro H φ s e R W kt; exact wpAny_pure (kt φ s.heap s.toks true H (StpX.refl _ _) W e)
  | cons c r ih =>
    intro H φ s e R W kt
    rw [List.forIn_cons]
    simp only [if_true]
    refine wpAny_bind (wpAny_bind (hP.t g kk (show M.tst (compE k sl c) ρ H (andK true (tssF M true ρ (compEs k sl r)) F) from e) R W fun φ₁ h₁ tk₁ b H₁ S₁ W₁ e => wpAny_pure ?_))
    cases b with
    | true => exact ih e (R.stp S₁) W₁ (kt.shift S₁)
    | false => exact skip r _ _ (kt φ₁ h₁ tk₁ false H₁ S₁ W₁ e)
end
end Mine
end
section
set_option autoImplicit false
set_option Elab.async false
namespace Mine
open PySem PySem.Calls PyProof.Rows PySem.W

section
variable {prog : Program} {w : World} {base : Heap} {φ φ' φ₀ φ₁ : Phi} {s s₀ : Shared} {v : AV} {H H₁ H' : AH} {A : Around} {E : Value → Shared → Prop} {n : Nat} {Q : Value → Shared → Prop} {h h' h₁ : Heap} {tk : Nat} {M : MI} {K : AH → AV → Prop} {env : Env} {k : Sc} {sl : List Str} {ρ ρ' : Ro}

theorem compLoop_any {R : Result → Shared → Prop} {elt target iter : Expr} {ifs : List Expr} {scope : Scope} {pos : Pos} {it acc : Value} {env : Env} (I : Nat → Shared → Prop)
    (turn : ∀ n s, I n s → wpAny (model prog w) A (pyNext it) (fun r s₁ => match r with
      | none => R (.ok .next) s₁
      | some v => wpAny (model prog w) A (letOwnedTupleGo target it v) (fun _ s₁' => wpAny (model prog w) A (assign target env v) (fun _ s₂ =>
          wpAny (model prog w) A (forIn ifs true fun c r => if r = true then do let ok ← isTrue c env (eval c env); pure (ForInStep.yield ok) else pure (ForInStep.yield r)) (fun ok s₃ =>
            if ok = true then wpAny (model prog w) A (eval elt env) (fun x s₄ =>
              wpAny (model prog w) A (call (.builtin "list.append") [acc, x]) (fun _ s₅ => ∃ m, m < n ∧ I m s₅) (notedBy (model prog w) A env fun e s' => R (.error e) s') s₄) (notedBy (model prog w) A env fun e s' => R (.error e) s') s₃
            else ∃ m, m < n ∧ I m s₃) (notedBy (model prog w) A env fun e s' => R (.error e) s') s₂) (notedBy (model prog w) A env fun e s' => R (.error e) s') s₁') (notedBy (model prog w) A env fun e s' => R (.error e) s') s₁) (notedBy (model prog w) A env fun e s' => R (.error e) s') s)
    (n : Nat) (h : I n s) :
    codeAny (model prog w) A (.compLoop (.ListComp elt [⟨target, iter, ifs, 0⟩] scope pos) 0 it acc env) R s := by
  refine codeAny_loop rfl I (fun n s hI => ?_) n h
  show wpAny _ A ((compTurn (.ListComp elt [⟨target, iter, ifs, 0⟩] scope pos) 0 it acc env).onRaise (fun x => do noteFrame x env; theTreesLotGoes x)) _ _ s
  refine wpAny_noted ?_
  rw [compTurn_list]
  refine wpAny_bind (wpAny_standAt (wpAny_bind (wpAny_mono (turn n s hI) (fun r s₁ h₁ => ?_) fun _ _ h' => h')))
  cases r with
  | none => exact wpAny_pure h₁
  | some v =>
    refine wpAny_bind (wpAny_mono h₁ (fun _ s₁' h₁' => ?_) fun _ _ h' => h')
    refine wpAny_bind (wpAny_mono h₁' (fun _ s₂ h₂ => wpAny_bind (wpAny_mono h₂ (fun ok s₃ h₃ => ?_) fun _ _ h' => h')) fun _ _ h' => h')
    cases ok with
    | false => exact wpAny_pure ⟨rfl, h₃⟩
    | true =>
      exact wpAny_bind (wpAny_bind (wpAny_mono h₃ (fun x s₄ h₄ => wpAny_bind (wpAny_mono h₄ (fun _ s₅ h₅ => wpAny_pure (wpAny_pure ⟨rfl, h₅⟩)) fun _ _ h' => h')) fun _ _ h' => h'))

theorem CpW.src {elt : ME} {ts : List Nat} {one : Bool} {ifs : List ME} {acc : Nat} {it : It} (e : CpW M elt ts one ifs acc K it ρ H) : ∃ xs, Src H it xs := by
  cases e with | mk r I hJ step hend h0 => exact ⟨_, hJ _ _ _ h0⟩
/-- where a comprehension's loop stands -/
inductive CpSt (prog : Program) (w : World) (base : Heap) (env : Env) (sl : List Str) (φ₀ : Phi) (s₀ : Shared) {σ : Type} (r : σ → Ro) (I : Nat → σ → AH → Prop) (it : It) (xs : List AV) (acc : Nat) (a aL : Addr) (m : Nat) : Shared → Prop
  | mk {i : Nat} {st : σ} {H : AH} {φ : Phi} {h : Heap} {tk : Nat} (hm : i + m = xs.length) (hI : I i st H) (S : Stp φ₀ s₀.heap φ h) (R : ER base env sl (r st) φ h) (W : WR prog w base φ H h) (hacc : φ[acc]? = some (aL, none)) (hi : IR φ h it xs.length i a) (ha : a ∉ adrs φ) :
      CpSt prog w base env sl φ₀ s₀ r I it xs acc a aL m { s₀ with heap := h, toks := tk }
/-- the loop of a comprehension -/
theorem comp_loop {F : Nat → Option Fn} (T : TopC prog w base F) (hP : Sound prog w base M n) (g : Good A (n + 1)) (kk : KK k env) {elt tgt iter : Expr} {ifs : List Expr} {scope : Scope} {pos : Pos} {ts : List Nat} {one : Bool} {acc : Nat} {a aL : Addr} {R : Result → Shared → Prop}
    (SX : Stores k env (· = env.locals)) (ht : compTarget k sl tgt = some (ts, one)) (ha0 : s₀.heap.get? a = none) (hab : base.get? a = none) (hEa : ∀ b, Own env b → b ≠ a) (hL0 : s₀.heap.get? env.locals = none)
    (hR : ∀ φ' h' tk m H', Stp φ₀ s₀.heap φ' h' → WR prog w base φ' H' h' → φ'[acc]? = some (aL, none) → h'.Ns env.locals m → env.locals ∉ adrs φ' → K H' (.ref acc) → R (.ok .next) { s₀ with heap := h', toks := tk })
    {it : It} (e : CpW M (compE k sl elt) ts one (compEs k sl ifs) acc K it ρ H) (S : Stp φ₀ s₀.heap φ h) (Rr : ER base env sl ρ φ h) (W : WR prog w base φ H h) (hacc : φ[acc]? = some (aL, none)) (hi : ∀ xs, Src H it xs → IR φ h it xs.length 0 a) (ha : a ∉ adrs φ) :
    codeAny (model prog w) A (.compLoop (.ListComp elt [⟨tgt, iter, ifs, 0⟩] scope pos) 0 (.ref a) (.ref aL) env) R { s₀ with heap := h, toks := tk } := by
  obtain ⟨r, I, hJ, step, hend, h0⟩ := e
  rename_i xs σ st
  refine compLoop_any (CpSt prog w base env sl φ₀ s₀ r I it xs acc a aL) (fun m s hs => ?_) xs.length ⟨Nat.zero_add _, h0, S, Rr, W, hacc, hi _ (hJ _ _ _ h0), ha⟩
  obtain ⟨hm, hI, S, Rr, W, hacc, hi, ha⟩ := hs
  rename_i i st H φ h tk
  obtain ⟨goa, _, _, moa, _⟩ := hi.data
  have hm' : ∀ o, h.get? a = some o → isMut o = true := fun o q => by rw [goa] at q; cases q; exact moa
  refine next_sound (s := { s₀ with heap := h, toks := tk }) (hJ _ _ _ hI) W g.hand hi ha hab (fun hx h' hxt => ?_) fun x hx h₂ tk₂ V hs W₂ K₂ ho rx i₂ => ?_
  · have hi : i = xs.length := Nat.le_antisymm (hm ▸ Nat.le_add_right _ _) (List.getElem?_eq_none_iff.mp hx)
    subst hi
    obtain ⟨mm, hns, _⟩ := Rr.loc
    exact hR φ h' tk mm H (S.ext hxt ha0) (W.ext ha hab hxt hm').1 hacc (hns.extBut hxt (hEa _ (.inl rfl))) (Rr.un _ (.inl rfl)) (hend _ _ hI)
  · have hlt := (List.getElem?_eq_some_iff.mp hx).1
    obtain ⟨m, rfl⟩ : ∃ m', m = m' + 1 := ⟨m - 1, by lia⟩
    have S1 : StpX (· = a) φ h φ h₂ := stp_one hs ho hm'
    have R1 := Rr.stpX S1 hEa
    have S' : Stp φ₀ s₀.heap φ h₂ := S.fore S1 fun b hb => .inr (hb ▸ ha0)
    refine owned_sound i₂ ?_
    refine okW.el (step _ _ _ _ hx hI) fun ρ₁ hb e => ?_
    refine target_sound SX kk g.hand ht hb R1 W₂ rx fun h₃ tk₃ R3 W3 S3 => ?_
    have S'' : Stp φ₀ s₀.heap φ h₃ := S'.fore S3 fun b hb => .inr (hb ▸ hL0)
    have i₃ := i₂.stp S3 ha fun q => hEa _ (.inl rfl) q.symm
    refine tests_sound hP (g.less (Nat.le_succ n)) kk e R3 W3 fun φ4 h₄ tk₄ b H₁ S4 W4 e => ?_
    obtain ⟨g3, _⟩ := i₃.data
    have ha4 : a ∉ adrs φ4 := S4.fresh g3 ha
    have i₄ := i₃.stp S4 ha id
    have c4 : φ4[acc]? = some (aL, none) := pre_get S4.pre hacc
    have hm2 : i + 1 + m = xs.length := by lia
    cases b with
    | false =>
      obtain ⟨h⟩ := e
      exact ⟨m, Nat.lt_succ_self m, hm2, h, S''.trans S4, R3.stp S4, W4, c4, i₄, ha4⟩
    | true =>
      refine hP.e (g.less (Nat.le_succ n)) kk e (R3.stp S4) W4 fun φ5 h₅ tk₅ V5 v5 H5 S5 W5 r5 e => ?_
      obtain ⟨h0', e⟩ := e
      refine lstW.el e fun ys hys e => ?_
      refine app_sound (K := fun H' _ => AtI r (I (i + 1)) ρ₁ H') (hys ▸ h0') e W5 ⟨(aL, none), pre_get S5.pre c4, rfl⟩ r5 fun φ6 h₆ tk₆ V6 v6 H6 S6 W6 _ e => ?_
      have S56 := S5.trans S6
      obtain ⟨g4, _⟩ := i₄.data
      obtain ⟨h⟩ := e
      exact ⟨m, Nat.lt_succ_self m, hm2, h, S''.trans (S4.trans S56), R3.stp (S4.trans S56), W6, pre_get S56.pre c4, i₄.stp S56 ha4 id, S56.fresh g4 ha4⟩

theorem WR.gone {X : Addr → Prop} {a : Addr} (_ : WR prog w base φ H h) (S : StpX X φ h φ' h') (W' : WR prog w base φ' H' h') (hn : h'.get? a = none) : h.get? a = none := by
  cases e : h.get? a with
  | none => rfl
  | some o =>
    by_cases q : a ∈ adrs φ
    · obtain ⟨o', e'⟩ := W'.there (adrs_pre S.pre q); rw [hn] at e'; cases e'
    · obtain ⟨o', e'⟩ := S.there e q; rw [hn] at e'; cases e'
theorem WR.baseNone {a : Addr} (W : WR prog w base φ H h) (hn : h.get? a = none) : base.get? a = none := by
  cases e : base.get? a with
  | none => rfl
  | some o => rw [W.low a o e] at hn; cases hn

theorem comp_sound {F : Nat → Option Fn} (T : TopC prog w base F) (hP : Sound prog w base M n) (g : Good A (n + 1)) (kk : KK k env) {elt tgt iter : Expr} {ifs : List Expr} {scope : Scope} {pos p : Pos} {use : Option (Value → Sem Unit)}
    (e : evF M (compGen k sl (fun k' sl' => compE k' sl' elt) [⟨tgt, iter, ifs, 0⟩] scope) ρ H K) (R : ER base env sl ρ φ s.heap) (W : WR prog w base φ H s.heap)
    (kt : ∀ φ' h' tk V v H' C m, Stp φ s.heap φ' h' → WR prog w base φ' H' h' → VR φ' h' v V → K H' v → s.heap.get? C = none → base.get? C = none → C ∉ adrs φ' → h'.Ns C m → compPost (model prog w) A E use Q V C (.ok .next) { s with heap := h', toks := tk }) :
    wpAny (model prog w) A (comprehension (.ListComp elt [⟨tgt, iter, ifs, 0⟩] scope pos) scope env p (newList []) false (eval iter env) use) Q E s := by
  have e : evF M (mkComp (genOk k sl scope) (compTarget (fun x => scope.names.lookup x) (compSlots scope.names ++ sl) tgt) (compSlots scope.names).length (compE (fun x => scope.names.lookup x) (compSlots scope.names ++ sl) elt) (compE k sl iter) (compEs (fun x => scope.names.lookup x) (compSlots scope.names ++ sl) ifs)) ρ H K := e
  cases hg : genOk k sl scope with
  | false => rw [hg] at e; exact e.elim
  | true =>
    rw [hg] at e
    cases ht : compTarget (fun x => scope.names.lookup x) (compSlots scope.names ++ sl) tgt with
    | none => rw [ht] at e; exact e.elim
    | some p =>
      obtain ⟨ts, one⟩ := p
      rw [ht] at e
      have e : M.ev (compE k sl iter) ρ H (cpK M (compSlots scope.names).length (compE (fun x => scope.names.lookup x) (compSlots scope.names ++ sl) elt) ts one (compEs (fun x => scope.names.lookup x) (compSlots scope.names ++ sl) ifs) ρ K) := e
      unfold genOk at hg
      simp only [Bool.and_eq_true, decide_eq_true_eq, List.all_eq_true, Bool.or_eq_true, bne_iff_ne, ne_eq] at hg
      obtain ⟨⟨⟨hnd, hk⟩, hnc⟩, hfr⟩ := hg
      have hk : scope.kind = .function := by simpa using hk
      have hfree : ∀ p ∈ scope.names, p.2 = .free → isVar (env.kindOf p.1) = true ∧ sl.idxOf p.1 < sl.length ∧ isV (env.kindOf p.1) := fun p hp hf => by
        rcases hfr p hp with q | ⟨q1, q2⟩
        · exact absurd hf q
        · have q1' : k p.1 = some .cell ∨ k p.1 = some .free := q1.elim (fun q => .inl (by simpa using q)) fun q => .inr (by simpa using q)
          have z : isV (env.kindOf p.1) := by
            rcases kk p.1 with e1 | ⟨_, e1⟩
            · rw [← e1]; exact q1'
            · exact .inl e1
          refine ⟨?_, q2, z⟩
          rcases z with z | z <;> rw [z] <;> rfl
      have hs : ∀ x, foldedSetIterable iter env x = pure x := by
        intro x
        cases iter <;> first | rfl | exact absurd e (hP.bad _ _ _)
      have hcell : ∀ p ∈ scope.names, p.2 = .free → ∃ c, env.cells.lookup p.1 = some c := fun p hp hf => R.has _ (hfree p hp hf).2.2 (hfree p hp hf).2.1
      refine wpAny_comprehension_free (cl := closL env scope.names []) rfl hs (closureFor_eq hcell) hk (fun x hx hl => by rw [← hl]; exact lookup_nodup hnd hx) ?_
      refine hP.e (g.less (Nat.le_succ n)) kk e R W fun φ1 h₁ tk₁ V1 v1 H₁ S1 W1 r1 e => ?_
      refine iterW_sound e W1 T.sys r1 fun it h₂ a ha0 S2 W2 i2 e => ?_
      refine wpAny_newObj_type (wpAny_newFunctionEnv (fun x hx => hnc x hx) (by intro y hy; simp at hy) (fun h₃ hns hsb => ?_) hk)
      obtain ⟨W3, S3⟩ := W2.alloc (o := { cls := .type "list", data := .seq ([] : List Value).toArray }) (ao := .list []) fun S => ⟨rfl, Nat.zero_le _, [], 0, Heap.get?_push_size _ rfl, rfl⟩
      dsimp only at hns hsb ⊢
      have hlt : ∀ b o, (h₂.push { cls := .type "list", data := .seq ([] : List Value).toArray }).get? b = some o → h₃.get? b = some o := fun b o eb =>
        hsb.extBut b o (Nat.ne_of_lt (Heap.lt_size eb)) (Heap.get?_push_of_some _ eb)
      obtain ⟨W4, S4⟩ := W3.grow hlt
      have S13 := S1.trans (S2.trans S3)
      have SA := S13.trans S4
      have hCn := get?_size (h₂.push { cls := .type "list", data := .seq ([] : List Value).toArray })
      have hC0 := W.gone S13 W3 hCn
      have hbC := W3.baseNone hCn
      have hCa : (h₂.push { cls := .type "list", data := .seq ([] : List Value).toArray }).objs.size ∉ adrs (φ1 ++ [(h₂.objs.size, none)]) := fun q => by obtain ⟨o, eo⟩ := W3.there q; rw [hCn] at eo; cases eo
      have ha0s := W.gone S1 W1 ha0
      have hab := W1.baseNone ha0
      have ha1 : a ∉ adrs φ1 := fun q => by obtain ⟨o, eo⟩ := W1.there q; rw [ha0] at eo; cases eo
      obtain ⟨xs, hsrc⟩ := CpW.src e
      have i3 := fun xs q => (i2 xs (H₁ ++ [.list []]) (fun n o h => by rw [List.getElem?_append_left (List.getElem?_eq_some_iff.mp h).1]; exact h) q).stp (S3.trans S4) ha1 id
      obtain ⟨goa, _⟩ := (i2 xs (H₁ ++ [.list []]) (fun n o h => by rw [List.getElem?_append_left (List.getElem?_eq_some_iff.mp h).1]; exact h) hsrc).data
      have ha3 := (S3.trans S4).fresh goa ha1
      have R4 := comp_frame (R.stp SA) hnd hk hnc hfree hns hCa hbC
      have hEa : ∀ b, Own (compEnvC scope (closL env scope.names []) (h₂.push { cls := .type "list", data := .seq ([] : List Value).toArray }).objs.size env) b → b ≠ a := fun b q => by
        rcases comp_own R hfree q with rfl | q
        · exact fun q => Nat.lt_irrefl _ (Nat.lt_of_lt_of_le (q ▸ Heap.lt_size goa) (by rw [Heap.size_push]; exact Nat.le_succ _))
        · obtain ⟨o, eo⟩ := R.ex b q
          rintro rfl
          rw [ha0s] at eo; cases eo
      have kk' : KK (fun x => scope.names.lookup x) (compEnvC scope (closL env scope.names []) (h₂.push { cls := .type "list", data := .seq ([] : List Value).toArray }).objs.size env) := fun x => relabel_kind
      have SX : Stores (fun x => scope.names.lookup x) (compEnvC scope (closL env scope.names []) (h₂.push { cls := .type "list", data := .seq ([] : List Value).toArray }).objs.size env) (· = (h₂.push { cls := .type "list", data := .seq ([] : List Value).toArray }).objs.size) :=
        ⟨fun _ _ => rfl, fun x ho hc => by
          rcases kk' x with q | ⟨q, _⟩
          · have q' : scope.names.lookup x = some .cell := q.trans hc
            exact absurd rfl (hnc _ (mem_of_lookup q'))
          · have q' : scope.names.lookup x = some .free := q
            exact absurd (ho : ownVar ((scope.names.lookup x).getD .free) = true) (by rw [q']; decide), fun a e => .inl e⟩
      have loop := fun tk => comp_loop (s₀ := s) (φ₀ := φ) (tk := tk) (R := compPost (model prog w) A E use Q (.ref h₂.objs.size) (h₂.push { cls := .type "list", data := .seq ([] : List Value).toArray }).objs.size) (iter := iter) (scope := scope) (pos := pos) T hP g kk' SX ht ha0s hab hEa hC0
        (fun φ' h' tk m H' S W' hacc hns' hnad e => kt φ' h' tk (.ref h₂.objs.size) (.ref H₁.length) H' _ m S W' ⟨(h₂.objs.size, none), hacc, rfl⟩ e hC0 hbC hnad hns') e SA R4 W4 (by rw [← W1.len]; simp) i3 ha3
      exact codeAny_compStart_list (loop _) (self_sound (i3 xs hsrc) (loop _))
end
end Mine
end
section
set_option autoImplicit false
set_option Elab.async false
namespace Mine
open PySem PySem.Calls PyProof.Rows PySem.W

section
variable {prog : Program} {w : World} {base : Heap} {φ φ' φ₀ φ₁ : Phi} {s s₀ : Shared} {v : AV} {H H₁ H' : AH} {A : Around} {E : Value → Shared → Prop} {n : Nat} {K : AH → AV → Prop} {Q : Value → Shared → Prop} {h h' h₁ : Heap} {tk : Nat} {M : MI} {env : Env} {k : Sc} {sl : List Str} {ρ ρ' : Ro}

theorem attributeBase_eq {o : Expr} {a : Str} {env : Env} {whole : Sem Value} (h : bareCall o = false) : attributeBase o a env whole = whole := by
  cases o with
  | Call f args kws p =>
    cases f with
    | Name x q =>
      cases args with
      | nil =>
        cases kws with
        | nil => cases h
        | cons _ _ => rfl
      | cons _ _ => rfl
    | _ => rfl
  | _ => rfl

theorem attrIs_eq {a : Str} {i : Nat} (h : attrIs a = some i) : aOf i = a ∧ i < attrTab.length := by
  unfold attrIs at h
  split at h
  · rename_i hl; cases h; exact ⟨aid_aOf hl, hl⟩
  · cases h


theorem PR.stp {X : Addr → Prop} (S : StpX X φ h φ' h') {x : Option AV} {V : Value} (r : PR φ h x V) : PR φ' h' x V := by
  cases x with
  | none => exact r
  | some a => exact VR.stp S r
/-- a slice -/
theorem slice_step (hP : Sound prog w base M n) (g : Good A (n + 1)) (kk : KK k env) {o : Expr} {lo up : Option Expr} {p pos : Pos} (e : M.ev (compE k sl o) ρ H (sliK M (compOpt k sl lo) (compOpt k sl up) ρ K)) (R : ER base env sl ρ φ s.heap) (W : WR prog w base φ H s.heap)
    (kt : Kon prog w base φ s K Q) : wpAny (model prog w) A (eval (.Subscript o (.Slice lo up none p) pos) env) Q E s := by
  have g' := g.less (Nat.le_succ n)
  refine Subscript_ (hP.e g' kk e R W fun φ1 h₁ tk₁ V1 v1 H1 S1 W1 r1 e => ?_)
  refine wpAny_Slice (opt_sound hP g' kk e (R.stp S1) W1 fun φ2 h₂ tk₂ V2 v2 H2 S2 W2 r2 e => ?_)
  refine opt_sound hP g' kk e (R.stp (S1.trans S2)) W2 fun φ3 h₃ tk₃ V3 v3 H3 S3 W3 r3 e => ?_
  refine wpAny_pure ?_
  exact slice_sound (s := { s with heap := h₃, toks := tk₃ }) e W3 (r1.stp (S2.trans S3)) (r2.stp S3) r3 (kt.shift (S1.trans (S2.trans S3)))

theorem sub_step (hP : Sound prog w base M n) (g : Good A (n + 1)) (kk : KK k env) {o i : Expr} {pos : Pos} (hi : ∀ l u s p, i ≠ .Slice l u s p) (e : M.ev (compE k sl o) ρ H (subK M (compE k sl i) ρ K)) (R : ER base env sl ρ φ s.heap) (W : WR prog w base φ H s.heap)
    (kt : Kon prog w base φ s K Q) : wpAny (model prog w) A (eval (.Subscript o i pos) env) Q E s := by
  have g' := g.less (Nat.le_succ n)
  refine Subscript_ (hP.e g' kk e R W fun φ1 h₁ tk₁ V1 v1 H1 S1 W1 r1 e => ?_)
  refine hP.e g' kk e (R.stp S1) W1 fun φ2 h₂ tk₂ V2 v2 H2 S2 W2 r2 e => ?_
  obtain ⟨⟨Ty, id, hT, hl⟩, hw⟩ := getW_sound (E := E) (Q := Q) (s := { s with heap := h₂, toks := tk₂ }) e W2 g (r1.stp S2) r2 fun tk V v r e => kt φ2 h₂ tk V v H2 (S1.trans S2) W2 r e
  refine tail_any (ops := [V1, V2]) hT hl hw ?_
  cases i with
  | Slice l u s p => exact absurd rfl (hi _ _ _ _)
  | _ => rfl

theorem attr_step {F : Nat → Option Fn} (T : TopC prog w base F) (hP : Sound prog w base M n) (g : Good A (n + 1)) (kk : KK k env) {o : Expr} {a : Str} {i : Nat} {pos : Pos} (hb : bareCall o = false) (ha : attrIs a = some i) (e : M.ev (compE k sl o) ρ H (attrK i K)) (R : ER base env sl ρ φ s.heap) (W : WR prog w base φ H s.heap)
    (kt : Kon prog w base φ s K Q) : wpAny (model prog w) A (eval (.Attribute o a pos) env) Q E s := by
  have g' := g.less (Nat.le_succ n)
  obtain ⟨rfl, _⟩ := attrIs_eq ha
  have he : eval (.Attribute o (aOf i) pos) env = (do
      let o' ← eval o env
      standAt pos.atName
      let r ← holding [o'] (getAttr o' (aOf i) true)
      letTemporaryGo o o' r
      pure r) := by
    show (do
      let o' ← attributeBase o (aOf i) env (eval o env)
      standAt pos.atName
      let r ← holding [o'] (getAttr o' (aOf i) true)
      letTemporaryGo o o' r
      pure r) = _
    rw [attributeBase_eq hb]
  refine Attribute_any_ (hP.e g' kk e R W fun φ1 h₁ tk₁ V1 v1 H1 S1 W1 r1 e => ?_) he
  exact attr_sound (s := { s with heap := h₁, toks := tk₁ }) T e W1 r1 (kt.shift S1)

theorem star_each : ∀ {es : List Expr}, anyStar es = false → starEach es env = es.map fun t => (false, eval t env)
  | [], _ => rfl
  | e :: r, h => by
    have h : (isStarE e || anyStar r) = false := h
    obtain ⟨h1, h2⟩ := Bool.or_eq_false_iff.mp h
    have key : (false, eval e env) :: starEach r env = (e :: r).map fun t => (false, eval t env) := by rw [star_each h2]; rfl
    cases e with
    | Starred _ _ => cases h1
    | _ => exact key
theorem evalArgs_sound (hP : Sound prog w base M n) (g : Good A n) (kk : KK k env) {f : Value} {p : Pos} {es : List Expr} {G : AH → List AV → Prop} {Q : Args → Shared → Prop} (e : evsF M ρ (compEs k sl es) G H) (hst : anyStar es = false) (R : ER base env sl ρ φ s.heap) (W : WR prog w base φ H s.heap)
    (kt : ∀ φ' h' tk Vs vs H', Stp φ s.heap φ' h' → WR prog w base φ' H' h' → VRs φ' h' vs Vs → G H' vs → Q ⟨Vs, []⟩ { s with heap := h', toks := tk }) :
    (backTo p (starEach es env)).any (·.1) = false ∧ wpAny (model prog w) A (evalArgs f true (backTo p (starEach es env)) []) Q E s := by
  have hw := evals_sound (E := E) (p := p) (Q := fun Vs s' => Q ⟨Vs, []⟩ s') hP g kk e R W kt
  have hst := star_each (env := env) hst
  refine ⟨by rw [hst]; unfold backTo; simp, ?_⟩
  rw [hst] at hw ⊢
  cases es with
  | nil => exact evalArgs_nil3 (kt φ s.heap s.toks [] [] H (StpX.refl _ _) W rfl e)
  | cons e₀ r => exact Calls.evalArgs_plain hw

theorem call_step {F : Nat → Option Fn} (T : TopC prog w base F) (hP : Sound prog w base M n) (g : Good A (n + 1)) (kk : KK k env) {f : Expr} {args : List Expr} {pos : Pos} (hst : anyStar args = false) (hf : ∀ o a p, f ≠ .Attribute o a p) (e : M.ev (compE k sl f) ρ H (callK M (compEs k sl args) ρ K)) (R : ER base env sl ρ φ s.heap) (W : WR prog w base φ H s.heap)
    (kt : Kon prog w base φ s K Q) : wpAny (model prog w) A (eval (.Call f args [] pos) env) Q E s := by
  have g' := g.less (Nat.le_succ n)
  have he : eval (.Call f args [] pos) env = (do callWith pos (← eval f env) [] (backTo pos (starEach args env)) (backToKw pos (keywordEach [] env))) := by
    cases f with
    | Attribute o a p => exact absurd rfl (hf _ _ _)
    | _ => rfl
  rw [he]
  refine wpAny_bind (hP.e g' kk e R W fun φ1 h₁ tk₁ V1 v1 H1 S1 W1 r1 e => cdW.el e fun hc e => ?_)
  show wpAny (model prog w) A (callWith pos V1 [] (backTo pos (starEach args env)) []) Q E _
  obtain ⟨hpl, hw⟩ := evalArgs_sound (E := E) (f := V1) (p := pos) (s := { s with heap := h₁, toks := tk₁ }) (Q := fun a s₁ => low base s₁.heap ∧ wpAny (model prog w) A (call V1 ([] ++ a.pos) a.kw) Q E s₁) hP g' kk e hst (R.stp S1) W1 fun φ2 h₂ tk₂ Vs vs H2 S2 W2 r2 e =>
    ⟨W2.low, hP.c (s := { s with heap := h₂, toks := tk₂ }) g' (callG.el e) (r1.stp S2) r2 W2 (kt.shift (S1.trans S2))⟩
  exact callWith_sound (s := { s with heap := h₁, toks := tk₁ }) T hc r1 hpl hw

theorem methFn_lt {c a k : Nat} (h : methFn c a = some k) : k < fnAddrs.length := by
  unfold methFn methTab at h
  have key : ∀ l : List (Nat × Nat), (l.all fun p => decide (p.2 < fnAddrs.length)) = true → l.lookup a = some k → k < fnAddrs.length := fun l hl h => by
    induction l with
    | nil => cases h
    | cons p r ih =>
      rw [List.all_cons, Bool.and_eq_true] at hl
      obtain ⟨x, y⟩ := p
      rw [List.lookup_cons] at h
      split at h
      · cases h; exact of_decide_eq_true hl.1
      · exact ih hl.2 h
  split at h <;> exact key _ (by decide) h
/-- a method's call, once the callee is known -/
theorem meth_go {F : Nat → Option Fn} (T : TopC prog w base F) (hP : Sound prog w base M n) (g : Good A (n + 1)) (kk : KK k env) {o : Expr} {i : Nat} {args : List Expr} {ap pos : Pos} {V1 fV : Value} {G : AH → List AV → Prop} (hl : (ap.endLine == pos.line) = true) (hn : args.length < 20) (hst : anyStar args = false)
    (e : evsF M ρ (compEs k sl args) G H) (R : ER base env sl ρ φ s.heap) (W : WR prog w base φ H s.heap)
    (hcw : ∀ {Q' : Value → Shared → Prop}, ((backTo pos (starEach args env)).any (·.1) = false) → (wpAny (model prog w) A (evalArgs fV true (backTo pos (starEach args env)) []) (fun a s₁ => low base s₁.heap ∧ wpAny (model prog w) A (call fV ([V1] ++ a.pos) a.kw) Q' E s₁) E s) → wpAny (model prog w) A (callWith pos fV [V1] (backTo pos (starEach args env)) []) Q' E s)
    (hgm : ∀ (pl : Sem Bool) (Q' : Value × List Value → Shared → Prop), Q' (fV, [V1]) s → wpAny (model prog w) A (getMethod V1 (aOf i) pl) Q' E s)
    (hcall : ∀ φ2 h₂ tk₂ Vs vs H₂, Stp φ s.heap φ2 h₂ → WR prog w base φ2 H₂ h₂ → VRs φ2 h₂ vs Vs → G H₂ vs → wpAny (model prog w) A (call fV (V1 :: Vs)) Q E { s with heap := h₂, toks := tk₂ }) :
    wpAny (model prog w) A (methodCall o (aOf i) ap pos env V1 (args.length + ([] : List Keyword).length) (backTo pos (starEach args env)) (backToKw pos (keywordEach [] env))) Q E s := by
  obtain ⟨hpl, hw⟩ := evalArgs_sound (E := E) (f := fV) (p := pos) (Q := fun a s₁ => low base s₁.heap ∧ wpAny (model prog w) A (call fV ([V1] ++ a.pos) a.kw) Q E s₁) hP (g.less (Nat.le_succ n)) kk e hst R W fun φ2 h₂ tk₂ Vs vs H2 S2 W2 r2 e =>
    ⟨W2.low, hcall φ2 h₂ tk₂ Vs vs H2 S2 W2 r2 e⟩
  have hform : methodCallForm (args.length + ([] : List Keyword).length) (backTo pos (starEach args env)) (backToKw pos (keywordEach [] env)) = true := by
    unfold methodCallForm
    have e1 : (backTo pos (starEach args env)).all (fun x => !x.1) = true := by
      rw [List.all_eq_true]
      intro x hx
      have := List.any_eq_false.mp hpl x hx
      simpa using this
    rw [e1]
    have e2 : backToKw pos (keywordEach [] env) = [] := rfl
    rw [e2]
    simp
    omega
  have hpos : methodCallPos true o env ap pos = pure pos := by unfold methodCallPos; simp [hl]
  unfold methodCall
  rw [hform]
  refine wpAny_bind (wpAny_holding (hgm _ _ ?_))
  exact wpAny_bind (wpAny_of_eq hpos (hcw hpl hw))
theorem mcall_step {F : Nat → Option Fn} (T : TopC prog w base F) (hP : Sound prog w base M n) (g : Good A (n + 1)) (kk : KK k env) {o : Expr} {a : Str} {i : Nat} {args : List Expr} {ap pos : Pos} (hb : bareCall o = false) (hl : (ap.endLine == pos.line) = true) (hn : args.length < 20) (hst : anyStar args = false) (ha : attrIs a = some i)
    (e : M.ev (compE k sl o) ρ H (mcK M i (compEs k sl args) ρ K)) (R : ER base env sl ρ φ s.heap) (W : WR prog w base φ H s.heap) (kt : Kon prog w base φ s K Q) : wpAny (model prog w) A (eval (.Call (.Attribute o a ap) args [] pos) env) Q E s := by
  have g' := g.less (Nat.le_succ n)
  obtain ⟨rfl, hi⟩ := attrIs_eq ha
  have he : eval (.Call (.Attribute o (aOf i) ap) args [] pos) env = (do
      let ov ← eval o env
      standAt ap.atName
      methodCall o (aOf i) ap pos env ov (args.length + ([] : List Keyword).length) (backTo pos (starEach args env)) (backToKw pos (keywordEach [] env))) := by
    show (do
      let ov ← attributeBase o (aOf i) env (eval o env)
      standAt ap.atName
      methodCall o (aOf i) ap pos env ov (args.length + ([] : List Keyword).length) (backTo pos (starEach args env)) (backToKw pos (keywordEach [] env))) = _
    rw [attributeBase_eq hb]
  rw [he]
  refine wpAny_bind (hP.e g' kk e R W fun φ1 h₁ tk₁ V1 v1 H1 S1 W1 r1 e => refW.el e fun m hm e => ?_)
  subst hm
  obtain ⟨h0, e⟩ := e
  rename_i ob
  refine wpAny_bind (wpAny_standAt ?_)
  have byName : (∀ (pl : Sem Bool) (Q' : Value × List Value → Shared → Prop), Q' (.builtin (methId i), [V1]) { s with heap := h₁, toks := tk₁ } → wpAny (model prog w) A (getMethod V1 (aOf i) pl) Q' E { s with heap := h₁, toks := tk₁ }) → evsF M ρ (compEs k sl args) (mcB i m K) H1 → (i = 47 ∨ i = 48 ∨ i = 49 ∨ i = 50 ∨ i = 51) →
      wpAny (model prog w) A (methodCall o (aOf i) ap pos env V1 (args.length + ([] : List Keyword).length) (backTo pos (starEach args env)) (backToKw pos (keywordEach [] env))) Q E { s with heap := h₁, toks := tk₁ } := fun hgm e hn' =>
    meth_go (s := { s with heap := h₁, toks := tk₁ }) T hP g kk hl hn hst e (R.stp S1) W1 (fun hpl hw => Calls.callWith_builtin hpl (wpAny_mono hw (fun a s₁ h₁ => h₁.2) fun _ _ e => e)) hgm fun φ2 h₂ tk₂ Vs vs H2 S2 W2 r2 e => by
      obtain ⟨h0, e⟩ := e
      exact omO_sound (s := { s with heap := h₂, toks := tk₂ }) h0 e T.sys W2 g (r1.stp S2) r2 (kt.shift (S1.trans S2)) hn'
  have dic : isDic ob = true → cdW (decide (i = 50 ∨ i = 51)) (evsF M ρ (compEs k sl args) (mcB i m K) H1) → wpAny (model prog w) A (methodCall o (aOf i) ap pos env V1 (args.length + ([] : List Keyword).length) (backTo pos (starEach args env)) (backToKw pos (keywordEach [] env))) Q E { s with heap := h₁, toks := tk₁ } := fun hd e =>
    cdW.el e fun hnm e => byName (fun pl Q' hq => getMeth_dict (s := { s with heap := h₁, toks := tk₁ }) h0 hd (of_decide_eq_true hnm) W1 r1 hq) e (.inr (.inr (.inr (of_decide_eq_true hnm))))
  cases ob with
  | inst c fs =>
    have e : cdW (fs.lookup i).isNone (okW (methFn c i) (mcI M (compEs k sl args) m ρ K H1)) := e
    refine cdW.el e fun hno e => okW.el e fun kf hk e => ?_
    have hkl := methFn_lt hk
    have hfa : fnAddrs[kf]? = some fnAddrs[kf] := List.getElem?_eq_getElem hkl
    have rf : ∀ {φ h}, VR φ h (.fn kf) (.ref fnAddrs[kf]) := ⟨_, hfa, rfl⟩
    refine meth_go (s := { s with heap := h₁, toks := tk₁ }) (fV := .ref fnAddrs[kf]) T hP g kk hl hn hst e (R.stp S1) W1 (fun hpl hw => callWith_sound (s := { s with heap := h₁, toks := tk₁ }) (φ := φ1) (f := .fn kf) T rfl rf hpl hw) (fun pl Q' hq => inst_method (s := { s with heap := h₁, toks := tk₁ }) T h0 (by simpa using hno) hk hkl hi W1 r1 fun f hf => ?_) fun φ2 h₂ tk₂ Vs vs H2 S2 W2 r2 e => ?_
    · rw [hfa] at hf; cases hf; exact hq
    · exact hP.c (s := { s with heap := h₂, toks := tk₂ }) g' (Cw.k e) rf ⟨V1, Vs, rfl, r1.stp S2, r2⟩ W2 (kt.shift (S1.trans S2))
  | list xs =>
    have e : cdW (decide (i = 47 ∨ i = 48 ∨ i = 49)) (evsF M ρ (compEs k sl args) (mcB i m K) H1) := e
    refine cdW.el e fun hnm e => ?_
    have hnm := of_decide_eq_true hnm
    refine byName (fun pl Q' hq => getMeth_list (s := { s with heap := h₁, toks := tk₁ }) h0 hnm W1 r1 hq) e ?_
    rcases hnm with h | h | h
    · exact .inl h
    · exact .inr (.inl h)
    · exact .inr (.inr (.inl h))
  | _ => exact dic rfl e
end
end Mine
end
section
set_option autoImplicit false
set_option Elab.async false
namespace Mine
open PySem PySem.Calls PyProof.Rows PySem.W

section
variable {prog : Program} {w : World} {base : Heap} {φ φ' φ₀ φ₁ : Phi} {s s₀ : Shared} {v : AV} {H H₁ H' : AH} {A : Around} {E : Value → Shared → Prop} {n : Nat} {K : AH → AV → Prop} {Q : Value → Shared → Prop} {h h' h₁ : Heap} {tk : Nat} {M : MI} {env : Env} {k : Sc} {sl : List Str} {ρ ρ' : Ro}

theorem storeAll_sound (g : Good A (n + 1)) {d : Addr} : ∀ {kl vl : List AV} {kv : List (Value × Value)} {o : AO} {G : AO → Prop} {s : Shared} {Q : Unit → Shared → Prop}, putAll kl vl o G → WR prog w base φ (H ++ [o]) s.heap → φ[H.length]? = some (d, none) →
    VRs φ s.heap kl (kv.map (·.1)) → VRs φ s.heap vl (kv.map (·.2)) → (∀ o' h' tk, G o' → Stp φ s.heap φ h' → WR prog w base φ (H ++ [o']) h' → Q () { s with heap := h', toks := tk }) → wpAny (model prog w) A (storeAll d kv) Q E s
  | [], vl, kv, o, G, s, Q, e, W, hd, rk, rv, kt => by
    have rk' : kv.map (·.1) = [] := rk
    have : kv = [] := List.map_eq_nil_iff.mp rk'
    subst this
    cases vl with
    | nil => exact wpAny_pure (kt o s.heap s.toks e (StpX.refl _ _) W)
    | cons a r => exact e.elim
  | a :: kl, vl, kv, o, G, s, Q, e, W, hd, rk, rv, kt => by
    cases vl with
    | nil => exact e.elim
    | cons b vl =>
      obtain ⟨Ka, rest, e1, ra, rk'⟩ := rk
      cases kv with
      | nil => cases e1
      | cons p kv =>
        obtain ⟨pk, pv⟩ := p
        simp only [List.map_cons, List.cons.injEq] at e1
        obtain ⟨rfl, rfl⟩ := e1
        obtain ⟨Vb, rest2, e2, rb, rv'⟩ := rv
        simp only [List.map_cons, List.cons.injEq] at e2
        obtain ⟨rfl, rfl⟩ := e2
        have hh : (H ++ [o])[H.length]? = some o := by simp
        unfold storeAll
        rw [List.forIn_cons]
        refine wpAny_bind (wpAny_bind (setDictD (k := H.length) W g hh (show putKey o a b (fun o' => putAll kl vl o' G) from e) ⟨(d, none), hd, rfl⟩ ra rb fun o₁ h₁ tk₁ e S1 W1 => wpAny_pure ?_))
        have e3 : (H ++ [o]).set H.length o₁ = H ++ [o₁] := by simp
        rw [e3] at W1
        exact storeAll_sound g (s := { s with heap := h₁, toks := tk₁ }) e W1 hd (rk'.stp S1) (rv'.stp S1) fun o' h' tk f S W' => kt o' h' tk f (S1.trans S) W'

theorem pairs_sound (hP : Sound prog w base M n) (g : Good A n) (kk : KK k env) {p : Pos} : ∀ {ks : List (Option Expr)} {vs : List Expr} {ks' : List ME} {G : AH → List AV × List AV → Prop} {H : AH} {φ : Phi} {s : Shared} {Q : List (Value × Value) → Shared → Prop}, compOs k sl ks = some ks' →
    prsF M ρ ks' (compEs k sl vs) G H → ER base env sl ρ φ s.heap → WR prog w base φ H s.heap →
    (∀ φ' h' tk kv p H', Stp φ s.heap φ' h' → WR prog w base φ' H' h' → VRs φ' h' p.1 (kv.map (·.1)) → VRs φ' h' p.2 (kv.map (·.2)) → G H' p → Q kv { s with heap := h', toks := tk }) →
    wpAny (model prog w) A (evalPairs (pairTrees ks vs env p)) Q E s
  | [], vs, ks', G, H, φ, s, Q, hk, e, R, W, kt => by
    cases hk
    cases vs with
    | nil => exact wpAny_pure (kt φ s.heap s.toks [] ([], []) H (StpX.refl _ _) W rfl rfl e)
    | cons a r => exact e.elim
  | none :: ks, vs, ks', G, H, φ, s, Q, hk, e, R, W, kt => nomatch hk
  | some ke :: ks, vs, ks', G, H, φ, s, Q, hk, e, R, W, kt => by
    obtain ⟨ks₁, hk1, rfl⟩ := Option.map_eq_some_iff.mp hk
    cases vs with
    | nil => exact e.elim
    | cons ve vs =>
      show wpAny (model prog w) A (do let kv ← eval ke env; let vv ← holding [kv] (do let x ← eval ve env; standAt p; pure x); return (kv, vv) :: (← holding [kv, vv] (evalPairs (pairTrees ks vs env p)))) Q E s
      refine wpAny_bind (hP.e g kk (show M.ev (compE k sl ke) ρ H (prE M (compE k sl ve) ρ (prsF M ρ ks₁ (compEs k sl vs)) G) from e) R W fun φ1 h₁ tk₁ V1 v1 H1 S1 W1 r1 e => ?_)
      refine wpAny_bind (wpAny_holding (wpAny_bind (hP.e g kk e (R.stp S1) W1 fun φ2 h₂ tk₂ V2 v2 H2 S2 W2 r2 e => wpAny_bind (wpAny_standAt (wpAny_pure ?_)))))
      refine wpAny_bind (wpAny_holding (pairs_sound hP g kk (s := { s with heap := h₂, toks := tk₂ }) hk1 e (R.stp (S1.trans S2)) W2 fun φ3 h₃ tk₃ kv p H3 S3 W3 rk rv e => wpAny_pure ?_))
      exact kt φ3 h₃ tk₃ ((V1, V2) :: kv) (v1 :: p.1, v2 :: p.2) H3 (S1.trans (S2.trans S3)) W3 ⟨V1, _, rfl, r1.stp (S2.trans S3), rk⟩ ⟨V2, _, rfl, r2.stp S3, rv⟩ e

theorem WR.track (W : WR prog w base φ H h) {a : Addr} {ao : AO} (ha : a ∉ adrs φ) (hb : base.get? a = none) (r : OR prog w (φ ++ [(a, none)]) h (a, none) ao) (hm : ∀ o, h.get? a = some o → isMut o = true) : WR prog w base (φ ++ [(a, none)]) (H ++ [ao]) h ∧ Kp φ h (φ ++ [(a, none)]) h := by
  have K : Kp φ h (φ ++ [(a, none)]) h := ⟨List.prefix_append _ _, fun b o e n m => ⟨e, fun q => by
    rw [adrs_append] at q
    rcases List.mem_append.mp q with q | q
    · exact n q
    · have : b = a := by simpa [adrs] using q
      subst this
      rw [hm o e] at m; cases m⟩⟩
  refine ⟨⟨by simp [W.len], ?_, fun n ao' p e q => ?_, W.low, fun b q => ?_⟩, K⟩
  · rw [adrs_append, List.nodup_append]
    refine ⟨W.nodup, by simp [adrs], fun b hbm c hc => ?_⟩
    have : c = a := by simpa [adrs] using hc
    subst this
    rintro rfl
    exact ha hbm
  · by_cases hn : n < φ.length
    · rw [List.getElem?_append_left hn] at q
      rw [List.getElem?_append_left (W.len ▸ hn)] at e
      exact (W.obj n ao' p e q).move K rfl fun d hd => rfl
    · have hlt := (List.getElem?_eq_some_iff.mp q).1
      have hne : n = φ.length := by simp at hlt; lia
      subst hne
      simp at q
      rw [W.len] at e
      simp at e
      subst q e
      exact r
  · rw [adrs_append] at q
    rcases List.mem_append.mp q with q | q
    · exact W.above b q
    · have : b = a := by simpa [adrs] using q
      subst this; exact hb

theorem dict_step (hP : Sound prog w base M n) (g : Good A (n + 1)) (kk : KK k env) {ks : List (Option Expr)} {vs : List Expr} {ks' : List ME} {p : Pos} (hk : compOs k sl ks = some ks') (hl : ks.length = vs.length) (h15 : ks.length ≤ 15)
    (e : prsF M ρ ks' (compEs k sl vs) (dicK K) H) (R : ER base env sl ρ φ s.heap) (W : WR prog w base φ H s.heap) (kt : Kon prog w base φ s K Q) : wpAny (model prog w) A (eval (.Dict ks vs p) env) Q E s := by
  have g' := g.less (Nat.le_succ n)
  by_cases h0 : ks = []
  · subst h0
    have : vs = [] := List.eq_nil_of_length_eq_zero hl.symm
    subst this
    cases hk
    exact wpAny_Dict_empty (kt.new (ao := .dE) W (fun _ => ⟨rfl, Heap.get?_push_size _ rfl⟩) e s.toks)
  · have hall : ks.all (·.isSome) = true := by
      have : ∀ {ks : List (Option Expr)} {ks' : List ME}, compOs k sl ks = some ks' → ks.all (·.isSome) = true := by
        intro ks
        induction ks with
        | nil => intro _ _; rfl
        | cons a r ih =>
          intro ks' h
          cases a with
          | none => exact nomatch h
          | some x =>
            obtain ⟨_, h', _⟩ := Option.map_eq_some_iff.mp h
            exact ih h'
      exact this hk
    refine wpAny_Dict_any hall hl h0 h15 ?_
    obtain ⟨W1, S1⟩ := W.junk { cls := .type "dict", data := .dict #[] }
    have hd0 := get?_size s.heap
    have hda : s.heap.objs.size ∉ adrs φ := W.notNew
    have hg : (s.heap.push { cls := .type "dict", data := .dict #[] }).get? s.heap.objs.size = some (dicO [] 0) := Heap.get?_push_size _ rfl
    refine pairs_sound (s := { s with heap := s.heap.push { cls := .type "dict", data := .dict #[] } }) hP g' kk hk e (R.stp S1) W1 fun φ2 h₂ tk₂ kv p H₁ S2 W2 rk rv e => ?_
    have hg2 := S2.keep _ _ hg hda id
    have hda2 := S2.fresh hg hda
    obtain ⟨W3, K3⟩ := W2.track (ao := .dE) hda2 (W.baseNone hd0) ⟨rfl, hg2⟩ fun o q => by rw [hg2] at q; cases q; rfl
    refine storeAll_sound (s := { s with heap := h₂, toks := tk₂ }) (H := H₁) g e W3 (by rw [← W2.len]; simp) (rk.kp K3) (rv.kp K3) fun o h₃ tk₃ e S3 W4 => ?_
    refine kt (φ2 ++ [(s.heap.objs.size, none)]) h₃ tk₃ (.ref s.heap.objs.size) (.ref H₁.length) _ ?_ W4 ⟨(s.heap.objs.size, none), by rw [← W2.len]; simp, rfl⟩ e
    have S12 := S1.trans S2
    refine ⟨S12.pre.trans (List.prefix_append _ _), fun a q => ?_, fun a o e n _ => ?_, fun _ _ _ _ q => q.elim, fun _ q => q.elim⟩
    · rw [adrs_append] at q
      rcases List.mem_append.mp q with q | q
      · exact S12.new a q
      · have : a = s.heap.objs.size := List.mem_singleton.mp q
        exact .inr (this ▸ hd0)
    · refine S3.keep a o (S12.keep a o e n id) (fun q => ?_) id
      rw [adrs_append] at q
      rcases List.mem_append.mp q with q | q
      · exact S12.fresh e n q
      · have : a = s.heap.objs.size := List.mem_singleton.mp q
        rw [this, hd0] at e; cases e

/-! ### all terms -/
theorem cmp_sound {F : Nat → Option Fn} (T : TopC prog w base F) (hP : Sound prog w base M n) (g : Good A (n + 1)) (kk : KK k env) {op : CmpOp} {l r : Expr} {G : AH → Bool → Prop} {Q : Value → Shared → Prop} (e : M.ev (compE k sl l) ρ H (cmpK M op (compE k sl r) ρ G)) (R : ER base env sl ρ φ s.heap) (W : WR prog w base φ H s.heap)
    (kt : KonB prog w base φ s G (fun b => Q (.bool b))) : wpAny (model prog w) A (eval l env) (fun a s₁ => wpAny (model prog w) A (eval r env) (fun b s₂ => wpAny (model prog w) A (compareOp op a b) Q E s₂) E s₁) E s := by
  have g' := g.less (Nat.le_succ n)
  refine hP.e g' kk e R W fun φ1 h₁ tk₁ V1 v1 H1 S1 W1 r1 e => ?_
  refine hP.e g' kk e (R.stp S1) W1 fun φ2 h₂ tk₂ V2 v2 H2 S2 W2 r2 e => ?_
  exact cmpW_sound (s := { s with heap := h₂, toks := tk₂ }) e W2 T.sys g (r1.stp S2) r2 fun c tk e => kt φ2 h₂ tk c H2 (S1.trans S2) W2 e

theorem lit_le {n : Nat} (h : decide (n < 20) = true) : n ≤ lid := Nat.le_trans (Nat.le_of_lt (of_decide_eq_true h)) (by rw [lid_eq]; decide)
theorem noE_el {b : Bool} {m : ME} (e : evF M (noE b m) ρ H K) : b = false ∧ evF M m ρ H K := by
  cases b with
  | true => exact e.elim
  | false => exact ⟨rfl, e⟩

theorem eval_sound {F : Nat → Option Fn} (T : TopC prog w base F) (hP : Sound prog w base M n) : SoundE prog w base (evF M) (n + 1) := by
  intro A env k sl e ρ H K φ s E Q g kk ev R W kt
  have g' := g.less (Nat.le_succ n)
  cases e with
  | Constant c kd p => exact const_sound ev W kt
  | Name x p => exact name_sound T.toTopN kk R W ev kt
  | BoolOp op es p =>
    cases op with
    | And => exact bopV_sound (a := true) hP g' kk ev R W kt
    | Or => exact bopV_sound (a := false) hP g' kk ev R W kt
  | BinOp l op r p =>
    refine wpAny_BinOp (hP.e g' kk (show M.ev (compE k sl l) ρ H (binK M op (compE k sl r) ρ K) from ev) R W fun φ1 h₁ tk₁ V1 v1 H1 S1 W1 r1 e => ?_)
    refine hP.e g' kk e (R.stp S1) W1 fun φ2 h₂ tk₂ V2 v2 H2 S2 W2 r2 e => ?_
    exact binW_sound (s := { s with heap := h₂, toks := tk₂ }) e W2 g (r1.stp S2) r2 (kt.shift (S1.trans S2))
  | UnaryOp op x p =>
    cases op with
    | USub =>
      refine wpAny_UnaryOp (hP.e g' kk (show M.ev (compE k sl x) ρ H (negK K) from ev) R W fun φ1 h₁ tk₁ V1 v1 H1 S1 W1 r1 e => ?_)
      refine intW.el e r1 fun i t e => ?_
      exact PySem.P.neg_int (kt φ1 h₁ _ _ (.int (-i)) _ S1 W1 ⟨_, rfl⟩ e)
    | _ => exact False.elim ev
  | IfExp t b o p =>
    refine wpAny_IfExp (hP.t g' kk (show M.tst (compE k sl t) ρ H (iteK M (compE k sl b) (compE k sl o) ρ K) from ev) R W fun φ1 h₁ tk₁ c H1 S1 W1 e => ?_)
    cases c with
    | true => exact hP.e g' kk e (R.stp S1) W1 (kt.shift S1)
    | false => exact hP.e g' kk e (R.stp S1) W1 (kt.shift S1)
  | Dict ks vs p =>
    have ev : evF M (mkDic (decide (ks.length = vs.length ∧ ks.length ≤ 15)) (compOs k sl ks) (compEs k sl vs)) ρ H K := ev
    cases hc : decide (ks.length = vs.length ∧ ks.length ≤ 15) with
    | false => rw [hc] at ev; exact ev.elim
    | true =>
      rw [hc] at ev
      cases hk : compOs k sl ks with
      | none => rw [hk] at ev; exact ev.elim
      | some ks' =>
        rw [hk] at ev
        exact dict_step hP g kk hk (of_decide_eq_true hc).1 (of_decide_eq_true hc).2 ev R W kt
  | List es p =>
    refine wpAny_List (evals_sound hP g' kk (show evsF M ρ (compEs k sl es) (lstK K) H from ev) R W fun φ1 h₁ tk₁ Vs vs H1 S1 W1 rs e => cdW.el e fun hl e => ⟨rs.length ▸ Nat.le_trans (lit_le hl) lid_le, ?_⟩)
    exact new_list (s := { s with heap := h₁, toks := tk₁ }) (kt.shift S1) W1 rs (lit_le hl) e tk₁
  | Tuple es q p =>
    refine wpAny_Tuple (evals_sound hP g' kk (show evsF M ρ (compEs k sl es) (tupK K) H from ev) R W fun φ1 h₁ tk₁ Vs vs H1 S1 W1 rs e => cdW.el e fun hl e => ⟨rs.length ▸ Nat.le_trans (lit_le hl) lid_le, ?_⟩)
    exact new_tup (s := { s with heap := h₁, toks := tk₁ }) (kt.shift S1) W1 rs (lit_le hl) e tk₁
  | ListComp elt gens scope p =>
    have hg : ∃ tgt iter ifs, gens = [⟨tgt, iter, ifs, 0⟩] := by
      cases gens with
      | nil => exact False.elim ev
      | cons c r =>
        obtain ⟨t, i, fs, z⟩ := c
        cases r with
        | cons _ _ => cases z with
          | negSucc z => exact False.elim ev
          | ofNat z => cases z <;> exact False.elim ev
        | nil =>
          cases z with
          | negSucc z => exact False.elim ev
          | ofNat z =>
            cases z with
            | zero => exact ⟨_, _, _, rfl⟩
            | succ z => exact False.elim ev
    obtain ⟨tgt, iter, ifs, rfl⟩ := hg
    rw [eval_ListComp]
    refine comp_sound (pos := p) (use := none) T hP g kk ev R W fun φ' h' tk V v H' C m S W' r e hC hb hn hns => ?_
    refine ⟨m, hns, fun h'' hs => ?_⟩
    obtain ⟨oc, es, ep, goc, hd, _⟩ := hns
    have hm : ∀ o, h'.get? C = some o → isMut o = true := fun o q => by rw [goc] at q; cases q; unfold isMut; rw [hd]
    by_cases hex : ∃ o, h''.get? C = some o
    · obtain ⟨W'', S''⟩ := W'.side (X := (· = C)) rfl hn hb hex hs fun a q => by subst q; exact hm
      exact kt φ' h'' tk V v H' (S.fore S'' fun a q => .inr (q ▸ hC)) W'' (r.stp S'') e
    · obtain ⟨W'', K''⟩ := W'.ext hn hb hs.extBut hm
      exact kt φ' h'' tk V v H' (S.ext hs.extBut hC) W'' (r.kp K'') e
  | Compare l ops rs p =>
    cases ops with
    | nil => exact False.elim ev
    | cons op ops =>
      cases ops with
      | cons _ _ => exact False.elim ev
      | nil =>
        cases rs with
        | nil => exact False.elim ev
        | cons r rs =>
          cases rs with
          | cons _ _ => exact False.elim ev
          | nil =>
            obtain ⟨hm, ev⟩ := noE_el (show evF M (noE (behindInMarks op r) (.cmp op (compE k sl l) (compE k sl r))) ρ H K from ev)
            exact wpAny_Compare1 (cmp_sound T hP g kk ev R W fun φ' h' tk b H' S W' e => kt φ' h' tk _ (.bool b) H' S W' rfl e) hm
  | Call f args kws p =>
    cases kws with
    | cons _ _ => cases f <;> exact False.elim ev
    | nil =>
      cases f with
      | Attribute o a ap =>
        have ev : evF M (mkMc (bareCall o || !(ap.endLine == p.line) || !decide (args.length < 20) || anyStar args) (attrIs a) (compE k sl o) (compEs k sl args)) ρ H K := ev
        cases hc : (bareCall o || !(ap.endLine == p.line) || !decide (args.length < 20) || anyStar args) with
        | true => rw [hc] at ev; exact ev.elim
        | false =>
          rw [hc] at ev
          cases ha : attrIs a with
          | none => rw [ha] at ev; exact ev.elim
          | some i =>
            rw [ha] at ev
            obtain ⟨hc, h4⟩ := Bool.or_eq_false_iff.mp hc
            obtain ⟨hc, h3⟩ := Bool.or_eq_false_iff.mp hc
            obtain ⟨h1, h2⟩ := Bool.or_eq_false_iff.mp hc
            exact mcall_step T hP g kk h1 (by simpa using h2) (by simpa using h3) h4 ha ev R W kt
      | _ =>
        obtain ⟨hst, ev⟩ := noE_el ev
        exact call_step T hP g kk hst nofun ev R W kt
  | Attribute o a p =>
    have ev : evF M (mkAttr (bareCall o) (attrIs a) (compE k sl o)) ρ H K := ev
    cases hb : bareCall o with
    | true => rw [hb] at ev; exact ev.elim
    | false =>
      rw [hb] at ev
      cases ha : attrIs a with
      | none => rw [ha] at ev; exact ev.elim
      | some i =>
        rw [ha] at ev
        exact attr_step T hP g kk hb ha ev R W kt
  | Subscript o i p =>
    cases i with
    | Slice l u st q =>
      cases st with
      | none => exact slice_step hP g kk ev R W kt
      | some _ => exact False.elim ev
    | _ => exact sub_step hP g kk nofun ev R W kt
  | _ => exact False.elim ev
end
end Mine
end
section
set_option autoImplicit false
set_option Elab.async false
namespace Mine
open PySem PySem.Calls PyProof.Rows PySem.W

noncomputable section
def isTest (m : ME) : Bool := match m with
  | .not _ | .bop _ _ | .ite _ _ _ | .cmp _ _ _ => true
  | _ => false
end
theorem const_test (c : Const) : isTest (compConst c) = false := by
  cases c with
  | str x =>
    show isTest (if sid x < strTab.length then .cst (.str (sid x)) else .bad) = false
    by_cases h : sid x < strTab.length
    · rw [if_pos h]; rfl
    · rw [if_neg h]; rfl
  | _ => rfl
theorem name_test (k : Sc) (sl : List Str) (x : Str) : isTest (compName k sl x) = false := by
  unfold compName
  cases nameOk x with
  | false => rfl
  | true =>
    cases isVar (k x) with
    | true =>
      show isTest (if sl.idxOf x < sl.length then .loc (sl.idxOf x) else .bad) = false
      by_cases h : sl.idxOf x < sl.length
      · rw [if_pos h]; rfl
      · rw [if_neg h]; rfl
    | false =>
      cases k x with
      | none => rfl
      | some z => cases z with
        | globalImplicit => cases globOf x <;> rfl
        | _ => rfl
theorem dic_test (b : Bool) (ks : Option (List ME)) (vs : List ME) : isTest (mkDic b ks vs) = false := by
  cases b with
  | false => rfl
  | true => cases ks <;> rfl
theorem attr_test (b : Bool) (a : Option Nat) (o : ME) : isTest (mkAttr b a o) = false := by
  cases b with
  | true => rfl
  | false => cases a <;> rfl
theorem mc_test (b : Bool) (a : Option Nat) (o : ME) (args : List ME) : isTest (mkMc b a o args) = false := by
  cases b with
  | true => rfl
  | false => cases a <;> rfl
theorem mkComp_test (b : Bool) (t : Option (List Nat × Bool)) (nl : Nat) (elt it : ME) (ifs : List ME) : isTest (mkComp b t nl elt it ifs) = false := by
  cases b with
  | false => rfl
  | true => cases t <;> rfl
theorem noE_test {b : Bool} {m : ME} (h : isTest m = false) : isTest (noE b m) = false := by
  cases b with
  | true => rfl
  | false => exact h

section
variable {prog : Program} {w : World} {base : Heap} {φ φ' φ₀ φ₁ : Phi} {s s₀ : Shared} {v : AV} {H H₁ H' : AH} {A : Around} {E : Value → Shared → Prop} {n : Nat} {K : AH → AV → Prop} {Q : Value → Shared → Prop} {h h' h₁ : Heap} {tk : Nat} {M : MI} {env : Env} {k : Sc} {sl : List Str} {ρ ρ' : Ro}

theorem test_value {m : ME} {G : AH → Bool → Prop} (ht : isTest m = false) (e : tsF M m ρ H G) : evF M m ρ H (tboolK G) := by
  cases m <;> first | exact e | exact nomatch ht

theorem gen_test {elt : Sc → List Str → ME} {gens : List Comprehension} {scope : Scope} : isTest (compGen k sl elt gens scope) = false := by
  cases gens with
  | nil => rfl
  | cons c r =>
    obtain ⟨t, i, fs, z⟩ := c
    cases r with
    | cons _ _ => cases z with
      | negSucc z => rfl
      | ofNat z => cases z <;> rfl
    | nil =>
      cases z with
      | negSucc z => rfl
      | ofNat z =>
        cases z with
        | zero => exact mkComp_test _ _ _ _ _ _
        | succ z => rfl

theorem test_sound {F : Nat → Option Fn} (T : TopC prog w base F) (hP : Sound prog w base M n) : SoundT prog w base (tsF M) (n + 1) := by
  intro A env k sl e ρ H G φ s E Q g kk ev R W kt
  have g' := g.less (Nat.le_succ n)
  have byValue : ∀ e, isTest (compE k sl e) = false → tsF M (compE k sl e) ρ H G → isTrue e env (eval e env) = (do let v ← eval e env; standAt e.pos; holding [v] (truthy v)) → wpAny (model prog w) A (isTrue e env (eval e env)) Q E s := fun e ht ev he => by
    refine wpAny_isTrue_value (eval_sound T hP g kk (test_value ht ev) R W fun φ1 h₁ tk₁ V v H1 S1 W1 r e => ?_) he
    refine boolW.el e r fun b e => ?_
    exact wpAny_truthy_bool (kt φ1 h₁ tk₁ b H1 S1 W1 e)
  cases e with
  | Constant c kd p => exact byValue _ (const_test c) ev rfl
  | Name x p => exact byValue _ (name_test k sl x) ev rfl
  | BoolOp op es p =>
    refine wpAny_isTrue_BoolOp ?_
    cases op with
    | And => exact bopT_sound (a := true) hP g' kk ev R W kt
    | Or => exact bopT_sound (a := false) hP g' kk ev R W kt
  | UnaryOp op x p =>
    cases op with
    | Not => exact isTrue_not (hP.t g' kk (show M.tst (compE k sl x) ρ H (notK G) from ev) R W fun φ' h' tk b H' S W' e => kt φ' h' tk (!b) H' S W' e)
    | USub => exact byValue _ rfl ev rfl
    | _ => exact False.elim ev
  | IfExp t b o p => exact False.elim ev
  | Compare l ops rs p =>
    cases ops with
    | nil => exact False.elim ev
    | cons op ops =>
      cases ops with
      | cons _ _ => exact False.elim ev
      | nil =>
        cases rs with
        | nil => exact False.elim ev
        | cons r rs =>
          cases rs with
          | cons _ _ => exact False.elim ev
          | nil =>
            have ev : tsF M (noE (behindInMarks op r) (.cmp op (compE k sl l) (compE k sl r))) ρ H G := ev
            cases hm : behindInMarks op r with
            | true => rw [hm] at ev; exact ev.elim
            | false =>
              rw [hm] at ev
              exact wpAny_isTrue_Compare1 (cmp_sound (Q := fun c s₃ => wpAny (model prog w) A (truthy c) Q E s₃) T hP g kk ev R W fun φ' h' tk b H' S W' e => wpAny_truthy_bool (kt φ' h' tk b H' S W' e)) hm
  | Dict ks vs p => exact byValue _ (dic_test _ _ _) ev rfl
  | ListComp elt gens scope p => exact byValue _ gen_test ev rfl
  | Call f args kws p =>
    cases kws with
    | cons _ _ => cases f <;> exact False.elim ev
    | nil =>
      cases f with
      | Attribute o a ap => exact byValue _ (mc_test _ _ _ _) ev rfl
      | _ => exact byValue _ (noE_test rfl) ev rfl
  | Attribute o a p => exact byValue _ (attr_test _ _ _) ev rfl
  | Subscript o i p =>
    cases i with
    | Slice l u st q => exact byValue _ (noE_test rfl) ev rfl
    | _ => exact byValue _ rfl ev rfl
  | _ => first | exact False.elim ev | exact byValue _ rfl ev rfl

theorem ER.move (R : ER base env sl ρ φ h) (K : Kp φ h φ' h') (own : ∀ a o, Own env a → h.get? a = some o → h'.get? a = some o) (fr : ∀ a, Own env a → a ∉ adrs φ') : ER base env sl ρ φ' h' := by
  obtain ⟨m, hm, hv⟩ := R.loc
  obtain ⟨o, es, ep, ho, hd, hk⟩ := id hm
  refine ⟨R.kind, R.glob, R.bi, R.len, ⟨m, ⟨o, es, ep, own _ _ (.inl rfl) ho, hd, hk⟩, fun x v k g => ?_⟩, fun x c hc => ?_, R.has, fr, R.low, R.ap⟩
  · obtain ⟨V, e, r⟩ := hv x v k g; exact ⟨V, e, r.kp K⟩
  · obtain ⟨ov, ⟨o, ho, hd⟩, hv⟩ := R.cel x c hc
    exact ⟨ov, ⟨o, own _ _ (.inr ⟨x, hc⟩) ho, hd⟩, fun k v g => let ⟨V, e, r⟩ := hv k v g; ⟨V, e, r.kp K⟩⟩

theorem swaps_false {value : Expr} {t : Expr} {l : Nat} (e : evF M (compE k sl value) ρ H K) (hn : isListCompE value = false) : swapsWith value (some t) l env = pure false := by
  cases value <;> first | rfl | exact False.elim e | exact Bool.noConfusion (show true = false from hn)
theorem swaps_false0 {value : Expr} {l : Nat} (hP : Sound prog w base M n) (e : M.ev (compE k sl value) ρ H K) (hn : isListCompE value = false) : swapsWith value none l env = pure false := by
  cases value <;> first | rfl | exact absurd e (hP.bad _ _ _) | exact Bool.noConfusion (show true = false from hn)
theorem swaps_other {value : Expr} {t : Expr} {l : Nat} (ht : ∀ x p, t ≠ .Name x p) (e : evF M (compE k sl value) ρ H K) : swapsWith value (some t) l env = pure false := by
  cases value <;> first | rfl | exact False.elim e | skip
  cases t <;> first | rfl | exact absurd rfl (ht _ _)
theorem swaps_name {elt : Expr} {gens : List Comprehension} {sc : Scope} {p q : Pos} {x : Str} {l : Nat} : ∃ b, swapsWith (.ListComp elt gens sc p) (some (.Name x q)) l env = pure b := ⟨_, rfl⟩

theorem stores_none {t value : Expr} (h : (isTupleE t && isTupleE value) = false) (ht : ∀ es p, t ≠ .List es p) : swappedStores [t] value env = pure none := by
  unfold swappedStores
  cases t <;> first | rfl | exact absurd rfl (ht _ _) | skip
  cases value <;> first | rfl | (cases h; done)

/-- a place behind all others changes -/
theorem behind_all {C : Addr} {m : Str → Option Value} (R : ER base env sl ρ φ h) (W : WR prog w base φ H h) (hns : h.Ns C m) (hn : C ∉ adrs φ) (hb : base.get? C = none) (ho : ¬ Own env C) (hs : Heap.SameBut C h h') :
    ER base env sl ρ φ h' ∧ WR prog w base φ H h' ∧ Kp φ h φ h' := by
  obtain ⟨oc, es, ep, goc, hd, _⟩ := hns
  have hm : ∀ o, h.get? C = some o → isMut o = true := fun o q => by rw [goc] at q; cases q; unfold isMut; rw [hd]
  obtain ⟨W', K⟩ := W.ext hn hb hs.extBut hm
  exact ⟨R.move K (fun a o q e => (hs.2 a fun z => ho (z ▸ q)).trans e) R.un, W', K⟩

/-- x = value -/
theorem asg_name {F : Nat → Option Fn} (T : TopC prog w base F) (hP : Sound prog w base M n) (g : Good A (n + 1)) (kk : KK k env) {t value : Expr} {i : Nat} {pos : Pos} {G : Fl → Ro → AH → Prop} {Q : Flow → Shared → Prop} (ht : compTgt k sl t = some i) (e : evF M (compE k sl value) ρ H (asgK M (.loc i) ρ G)) (R : ER base env sl ρ φ s.heap) (W : WR prog w base φ H s.heap) (kt : KonX prog w base env sl φ s G Q) :
    wpAny (model prog w) A (exec (.Assign [t] value pos) env) Q E s := by
  have g' := g.less (Nat.le_succ n)
  obtain ⟨x, p, rfl, hi, h1, h2, h3⟩ := tgt_name ht
  have plain : swapsWith value (some (.Name x p)) pos.line env = pure false → wpAny (model prog w) A (exec (.Assign [.Name x p] value pos) env) Q E s := fun hs => by
    refine wpAny_Assign_stores (eval_sound T hP g kk e R W fun φ1 h₁ tk₁ V1 v1 H1 S1 W1 r1 e => ?_) hs (stores_none rfl nofun)
    show wpAny (model prog w) A (assign (.Name x p) env V1) _ E _
    refine okW.el e fun ρ1 hr e => ?_
    refine name_store (s := { s with heap := h₁, toks := tk₁ }) (Stores.all k env) kk ht hr (R.stp S1) W1 r1 fun h₂ tk₂ R2 W2 S2 => ?_
    exact kt φ1 h₂ tk₂ .next .next ρ1 H1 ((S1.over R.mut).trans S2) R2 W2 rfl e
  cases value with
  | ListComp elt gens sc q =>
    obtain ⟨b, hb⟩ := swaps_name (env := env) (elt := elt) (gens := gens) (sc := sc) (p := q) (q := p) (x := x) (l := pos.line)
    cases b with
    | false => exact plain hb
    | true =>
      have ev := e
      have hg : ∃ tgt iter ifs, gens = [⟨tgt, iter, ifs, 0⟩] := by
        cases gens with
        | nil => exact False.elim ev
        | cons c r =>
          obtain ⟨t, i, fs, z⟩ := c
          cases r with
          | cons _ _ => cases z with
            | negSucc z => exact False.elim ev
            | ofNat z => cases z <;> exact False.elim ev
          | nil =>
            cases z with
            | negSucc z => exact False.elim ev
            | ofNat z =>
              cases z with
              | zero => exact ⟨_, _, _, rfl⟩
              | succ z => exact False.elim ev
      obtain ⟨tgt, iter, ifs, rfl⟩ := hg
      rw [exec_Assign_arm]
      refine wpAny_bind (wpAny_standAt ?_)
      have hb' : swapsWithSole [.Name x p] (.ListComp elt [⟨tgt, iter, ifs, 0⟩] sc q) pos.line env = pure true := hb
      rw [hb']
      refine wpAny_bind (wpAny_pure ?_)
      rw [if_pos rfl]
      have key : wpAny (model prog w) A (comprehension (.ListComp elt [⟨tgt, iter, ifs, 0⟩] sc q) sc env iter.pos (newList []) false (eval iter env) (some fun v => assignAll v ((assignEach [.Name x p] env).map (·.2)))) (fun _ s' => Q .next s') E s := by
        refine comp_sound T hP g kk ev R W fun φ' h' tk V v H' C m S W' r e hC hbC hn hns => ?_
        show wpAny (model prog w) A (assign (.Name x p) env V) (fun _ s'' => ∃ m, s''.heap.Ns C m ∧ ∀ h', Heap.SameBut C s''.heap h' → Q .next { s'' with heap := h' }) E { s with heap := h', toks := tk }
        refine okW.el e fun ρ1 hr e => ?_
        refine name_store (s := { s with heap := h', toks := tk }) (Stores.all k env) kk ht hr (R.stp S) W' r fun h₂ tk₂ R2 W2 S2 => ?_
        have hoC : ¬ Own env C := fun q => by obtain ⟨o, eo⟩ := R.ex C q; rw [hC] at eo; cases eo
        obtain ⟨oc, es, ep, goc, hd⟩ := hns
        refine ⟨m, ⟨oc, es, ep, S2.keep _ _ goc hn hoC, hd⟩, fun h'' hs => ?_⟩
        obtain ⟨R3, W3, _⟩ := behind_all R2 W2 ⟨oc, es, ep, S2.keep _ _ goc hn hoC, hd⟩ hn hbC hoC hs
        exact kt φ' h'' tk₂ .next .next ρ1 H' (((S.over R.mut).trans S2).ext hs.extBut hC) R3 W3 rfl e
      rw [arm_evalThenUse_ListComp]
      exact wpAny_bind (wpAny_bind (wpAny_mono key (fun _ s' hq => wpAny_pure (wpAny_pure hq)) fun _ _ e => e))
  | _ => exact plain (swaps_false e rfl)

/-! ### loops -/
/-- where a loop over an iterator stands -/
inductive FoSt (prog : Program) (w : World) (base : Heap) (env : Env) (sl : List Str) (φ₀ : Phi) (s₀ : Shared) {σ : Type} (r : σ → Ro) (I : Nat → σ → AH → Prop) (it : It) (xs : List AV) (a : Addr) (m : Nat) : Shared → Prop
  | mk {i : Nat} {st : σ} {H : AH} {φ : Phi} {h : Heap} {tk : Nat} (hm : i + m = xs.length) (hI : I i st H) (S : StpX (Own env) φ₀ s₀.heap φ h) (R : ER base env sl (r st) φ h) (W : WR prog w base φ H h) (hi : IR φ h it xs.length i a) (ha : a ∉ adrs φ) :
      FoSt prog w base env sl φ₀ s₀ r I it xs a m { s₀ with heap := h, toks := tk }
theorem ForW.src {t : MT} {b : List MS} {G : Fl → Ro → AH → Prop} {it : It} (e : ForW M t b G it ρ H) : ∃ xs, Src H it xs := by
  cases e with | mk r I hJ step hend h0 => exact ⟨_, hJ _ _ _ h0⟩
theorem tgt_of {tgt : Expr} {v : AV} {ρ₁ : Ro} (h : tgtA (tgtT (compTarget k sl tgt)) v ρ = some ρ₁) : ∃ ts one, compTarget k sl tgt = some (ts, one) ∧ bindT ts one v ρ = some ρ₁ := by
  cases hct : compTarget k sl tgt with
  | none => rw [hct] at h; exact nomatch h
  | some p =>
    obtain ⟨ts, one⟩ := p
    rw [hct] at h
    cases one with
    | false => exact ⟨ts, _, rfl, h⟩
    | true =>
      cases ts with
      | nil => exact nomatch h
      | cons i r => cases r with
        | nil => exact ⟨[i], _, rfl, h⟩
        | cons _ _ => exact nomatch h
theorem for_sound (hP : Sound prog w base M n) (g : Good A n) (kk : KK k env) {tgt : Expr} {body : List Stmt} {a : Addr} {G : Fl → Ro → AH → Prop} {R : Result → Shared → Prop}
    (ha0 : s₀.heap.get? a = none) (hab : base.get? a = none) (hEa : ∀ b, Own env b → b ≠ a)
    (hR : KonX prog w base env sl φ₀ s₀ G fun F s => R (.ok F) s) {it : It} (e : ForW M (tgtT (compTarget k sl tgt)) (compSs k sl body) G it ρ H) (S : StpX (Own env) φ₀ s₀.heap φ h) (Rr : ER base env sl ρ φ h) (W : WR prog w base φ H h) (hi : ∀ xs, Src H it xs → IR φ h it xs.length 0 a) (ha : a ∉ adrs φ) :
    codeAny (model prog w) A (.forLoop tgt (.ref a) body [] env) R { s₀ with heap := h, toks := tk } := by
  obtain ⟨r, I, hJ, step, hend, h0⟩ := e
  rename_i xs σ st
  refine codeAny_forLoop_any (FoSt prog w base env sl φ₀ s₀ r I it xs a) (fun m s hs => ?_) xs.length ⟨Nat.zero_add _, h0, S, Rr, W, hi _ (hJ _ _ _ h0), ha⟩
  obtain ⟨hm, hI, S, Rr, W, hi, ha⟩ := hs
  rename_i i st H φ h tk
  obtain ⟨goa, _, _, moa, _⟩ := hi.data
  have hm' : ∀ o, h.get? a = some o → isMut o = true := fun o q => by rw [goa] at q; cases q; exact moa
  refine next_sound (s := { s₀ with heap := h, toks := tk }) (hJ _ _ _ hI) W g.hand hi ha hab (fun hx h' hxt => ?_) fun x hx h₂ tk₂ V hs W₂ K₂ ho rx i₂ => ?_
  · have hi : i = xs.length := Nat.le_antisymm (hm ▸ Nat.le_add_right _ _) (List.getElem?_eq_none_iff.mp hx)
    subst hi
    refine wpAny_execs_nil ?_
    obtain ⟨W', K'⟩ := W.ext ha hab hxt hm'
    exact hR φ h' tk .next .next _ H (S.ext hxt ha0) (Rr.move K' (fun b o q e => hxt b o (hEa b q) e) Rr.un) W' rfl (hend _ _ hI)
  · have hlt := (List.getElem?_eq_some_iff.mp hx).1
    obtain ⟨m, rfl⟩ : ∃ m', m = m' + 1 := ⟨m - 1, by lia⟩
    have S1 : StpX (· = a) φ h φ h₂ := stp_one hs ho hm'
    have R1 := Rr.stpX S1 hEa
    have S' : StpX (Own env) φ₀ s₀.heap φ h₂ := S.fore S1 fun b hb => .inr (hb ▸ ha0)
    refine owned_sound i₂ ?_
    refine okW.el (step _ _ _ _ hx hI) fun ρ₁ hb e => ?_
    obtain ⟨ts, one, hts, hbt⟩ := tgt_of hb
    refine target_sound (Stores.all k env) kk g.hand hts hbt R1 W₂ rx fun h₃ tk₃ R3 W3 S3 => ?_
    have i₃ := i₂.stp S3 ha fun q => hEa _ q rfl
    refine hP.x (s := { s₀ with heap := h₃, toks := tk₃ }) g kk e R3 W3 fun φ4 h₄ tk₄ F4 f1 ρ₂ H₂ S4 R4 W4 fl4 e => ?_
    obtain ⟨g3, _⟩ := i₃.data
    have ha4 : a ∉ adrs φ4 := S4.fresh g3 ha
    have i₄ := i₃.stp S4 ha fun q => hEa _ q rfl
    have SS := (S'.trans S3).trans S4
    cases f1 with
    | next =>
      have fl4' : F4 = .next := fl4
      subst fl4'
      obtain ⟨e⟩ := e
      have hm2 : i + 1 + m = xs.length := by lia
      exact ⟨m, Nat.lt_succ_self m, hm2, e, SS, R4, W4, i₄, ha4⟩
    | brk =>
      have fl4' : F4 = .brk := fl4
      subst fl4'
      exact hR φ4 h₄ tk₄ .next .next ρ₂ H₂ SS R4 W4 rfl e
    | ret u =>
      obtain ⟨V4, rfl, r4⟩ := fl4
      exact hR φ4 h₄ tk₄ (.ret V4) (.ret u) ρ₂ H₂ SS R4 W4 ⟨V4, rfl, r4⟩ e

inductive WhSt (prog : Program) (w : World) (base : Heap) (env : Env) (sl : List Str) (φ₀ : Phi) (s₀ : Shared) {σ : Type} (r : σ → Ro) (I : Nat → σ → AH → Prop) (m : Nat) : Shared → Prop
  | mk {st : σ} {H : AH} {φ : Phi} {h : Heap} {tk : Nat} (hI : I m st H) (S : StpX (Own env) φ₀ s₀.heap φ h) (R : ER base env sl (r st) φ h) (W : WR prog w base φ H h) :
      WhSt prog w base env sl φ₀ s₀ r I m { s₀ with heap := h, toks := tk }
theorem while_sound (hP : Sound prog w base M n) (g : Good A n) (kk : KK k env) {t : Expr} {body : List Stmt} {G : Fl → Ro → AH → Prop} {R : Result → Shared → Prop}
    (hR : KonX prog w base env sl φ₀ s₀ G fun F s => R (.ok F) s)
    (e : WhW M (compE k sl t) (compSs k sl body) G ρ H) (S : StpX (Own env) φ₀ s₀.heap φ h) (Rr : ER base env sl ρ φ h) (W : WR prog w base φ H h) :
    codeAny (model prog w) A (.whileLoop t body [] env) R { s₀ with heap := h, toks := tk } := by
  obtain ⟨r, I, step, h0⟩ := e
  rename_i σ m st
  refine codeAny_whileLoop (WhSt prog w base env sl φ₀ s₀ r I) (fun m s hs => ?_) m ⟨h0, S, Rr, W⟩
  obtain ⟨hI, S, Rr, W⟩ := hs
  rename_i st H φ h tk
  refine hP.t (s := { s₀ with heap := h, toks := tk }) g kk (step _ _ _ hI) Rr W fun φ1 h₁ tk₁ c H1 S1 W1 e => ?_
  have R1 := Rr.stp S1
  have S' : StpX (Own env) φ₀ s₀.heap φ1 h₁ := S.fore S1 fun b hb => hb.elim
  cases c with
  | false =>
    rw [if_neg Bool.false_ne_true]
    exact wpAny_execs_nil (hR φ1 h₁ tk₁ .next .next _ H1 S' R1 W1 rfl e)
  | true =>
    rw [if_pos rfl]
    refine hP.x (s := { s₀ with heap := h₁, toks := tk₁ }) g kk e R1 W1 fun φ4 h₄ tk₄ F4 f1 ρ₂ H₂ S4 R4 W4 fl4 e => ?_
    have SS := S'.trans S4
    cases f1 with
    | next =>
      have fl4' : F4 = .next := fl4
      subst fl4'
      obtain ⟨hk, e⟩ := e
      exact ⟨_, hk, e, SS, R4, W4⟩
    | brk =>
      have fl4' : F4 = .brk := fl4
      subst fl4'
      exact hR φ4 h₄ tk₄ .next .next ρ₂ H₂ SS R4 W4 rfl e
    | ret u =>
      obtain ⟨V4, rfl, r4⟩ := fl4
      exact hR φ4 h₄ tk₄ (.ret V4) (.ret u) ρ₂ H₂ SS R4 W4 ⟨V4, rfl, r4⟩ e
end
end Mine
end
section
set_option autoImplicit false
set_option Elab.async false
namespace Mine
open PySem PySem.Calls PyProof.Rows PySem.W

section
variable {prog : Program} {w : World} {base : Heap} {φ φ' φ₀ φ₁ : Phi} {s s₀ : Shared} {v : AV} {H H₁ H' : AH} {A : Around} {E : Value → Shared → Prop} {n : Nat} {G : Fl → Ro → AH → Prop} {Q : Flow → Shared → Prop} {h h' h₁ : Heap} {tk : Nat} {M : MI} {env : Env} {k : Sc} {sl : List Str} {ρ ρ' : Ro} {f : Fl}

theorem KonX.shift (kt : KonX prog w base env sl φ s G Q) (S : StpX (Own env) φ s.heap φ₁ h₁) : KonX prog w base env sl φ₁ { s with heap := h₁, toks := tk } G Q :=
  fun φ' h' tk' F f ρ' H' S' R' W fl e => kt φ' h' tk' F f ρ' H' (S.trans S') R' W fl e
theorem compT_tup {es : List Expr} {x1 : Nat} {p : Pos} {is : List Nat} (h : compTgts k sl es = some is) : compTarget k sl (.Tuple es x1 p) = some (is, false) := by
  show (compTgts k sl es).map (·, false) = some (is, false)
  rw [h]; rfl

theorem swaps_sole {value : Expr} {t : Expr} {l : Nat} {K : AH → AV → Prop} (ht : ∀ x p, t ≠ .Name x p) (e : evF M (compE k sl value) ρ H K) : swapsWithSole [t] value l env = pure false :=
  show swapsWith value (some t) l env = pure false from swaps_other ht e
theorem asg_sound {F : Nat → Option Fn} (T : TopC prog w base F) (hP : Sound prog w base M n) (g : Good A (n + 1)) (kk : KK k env) {t value : Expr} {pos : Pos} (ht2 : (isTupleE t && isTupleE value) = false)
    (e : evF M (compE k sl value) ρ H (asgK M (compT k sl t) ρ G)) (hb : isBadT (compT k sl t) = false) (R : ER base env sl ρ φ s.heap) (W : WR prog w base φ H s.heap) (kt : KonX prog w base env sl φ s G Q) : wpAny (model prog w) A (exec (.Assign [t] value pos) env) Q E s := by
  have g' := g.less (Nat.le_succ n)
  cases t with
  | Name x p =>
    have e : evF M (compE k sl value) ρ H (asgK M (locT (compTgt k sl (.Name x p))) ρ G) := e
    cases hc : compTgt k sl (.Name x p) with
    | none =>
      have hb : isBadT (locT (compTgt k sl (.Name x p))) = false := hb
      rw [hc] at hb; exact nomatch hb
    | some i =>
      rw [hc] at e
      exact asg_name T hP g kk hc e R W kt
  | Tuple es x1 p =>
    have e : evF M (compE k sl value) ρ H (asgK M (tupT (compTgts k sl es)) ρ G) := e
    cases hts : compTgts k sl es with
    | none =>
      have hb : isBadT (tupT (compTgts k sl es)) = false := hb
      rw [hts] at hb; exact nomatch hb
    | some is =>
      rw [hts] at e
      refine wpAny_Assign_stores (eval_sound T hP g kk e R W fun φ1 h₁ tk₁ V1 v1 H1 S1 W1 r1 e => ?_) (swaps_sole (fun x p q => by cases q) e) (stores_none ht2 nofun)
      show wpAny (model prog w) A (assign (.Tuple es x1 p) env V1) _ E _
      refine okW.el e fun ρ1 h2 e => ?_
      refine target_sound (s := { s with heap := h₁, toks := tk₁ }) (Stores.all k env) kk g.hand (compT_tup hts) h2 (R.stp S1) W1 r1 fun h₂ tk₂ R2 W2 S2 => ?_
      exact kt φ1 h₂ tk₂ .next .next ρ1 H1 ((S1.over R.mut).trans S2) R2 W2 rfl e
  | Attribute o at' p =>
    have e : evF M (compE k sl value) ρ H (asgK M (attrT (bareCall o) (attrIs at') (compE k sl o)) ρ G) := e
    cases hb' : bareCall o with
    | true =>
      have hb : isBadT (attrT (bareCall o) (attrIs at') (compE k sl o)) = false := hb
      rw [hb'] at hb; exact nomatch hb
    | false =>
      cases hai : attrIs at' with
      | none =>
        have hb : isBadT (attrT (bareCall o) (attrIs at') (compE k sl o)) = false := hb
        rw [hb', hai] at hb; exact nomatch hb
      | some i =>
        have e2 : evF M (compE k sl value) ρ H (asgK M (attrT (bareCall o) (some i) (compE k sl o)) ρ G) := hai ▸ e
        rw [hb'] at e2
        obtain ⟨rfl, _⟩ := attrIs_eq hai
        refine wpAny_Assign_stores (eval_sound T hP g kk e2 R W fun φ1 h₁ tk₁ V1 v1 H1 S1 W1 r1 e => ?_) (swaps_sole (fun x p q => by cases q) e) (stores_none rfl nofun)
        show wpAny (model prog w) A (do let ov ← holding [V1] (eval o env); standAt p.atName; holding [V1, ov] (setAttr ov (aOf i) V1); release [V1, ov] []) _ E _
        refine wpAny_bind (wpAny_holding (hP.e (s := { s with heap := h₁, toks := tk₁ }) g' kk (show M.ev (compE k sl o) ρ H1 (asgA i v1 (nxtH G ρ)) from e) (R.stp S1) W1 fun φ2 h₂ tk₂ V2 v2 H2 S2 W2 r2 e => wpAny_bind (wpAny_standAt (wpAny_bind (wpAny_holding ?_)))))
        refine setAttr_sound (s := { s with heap := h₂, toks := tk₂ }) T e W2 r2 (r1.stp S2) fun H3 h₃ tk₃ e S3 W3 => wpAny_release ?_
        have SS := S1.trans (S2.trans S3)
        exact kt φ2 h₃ tk₃ .next .next ρ H3 (SS.over R.mut) (R.stp SS) W3 rfl e
  | Subscript o i p =>
    have key : compT k sl (.Subscript o i p) = .sub (compE k sl o) (compE k sl i) ∨ compT k sl (.Subscript o i p) = .bad := by
      cases i <;> first | exact .inl rfl | exact .inr rfl
    rcases key with q | q
    · rw [q] at e
      refine wpAny_Assign_stores (eval_sound T hP g kk e R W fun φ1 h₁ tk₁ V1 v1 H1 S1 W1 r1 e => ?_) (swaps_sole (fun x p q => by cases q) e) (stores_none rfl nofun)
      show wpAny (model prog w) A (assign (.Subscript o i p) env V1) _ E _
      rw [arm_assign_Subscript]
      refine wpAny_bind (wpAny_holding (hP.e (s := { s with heap := h₁, toks := tk₁ }) g' kk (show M.ev (compE k sl o) ρ H1 (asgS M (compE k sl i) ρ v1 (nxtH G ρ)) from e) (R.stp S1) W1 fun φ2 h₂ tk₂ V2 v2 H2 S2 W2 r2 e => ?_))
      refine wpAny_bind (wpAny_holding (hP.e (s := { s with heap := h₂, toks := tk₂ }) g' kk e (R.stp (S1.trans S2)) W2 fun φ3 h₃ tk₃ V3 v3 H3 S3 W3 r3 e => wpAny_bind (wpAny_standAt (wpAny_bind (wpAny_holding ?_)))))
      refine setW_sound (s := { s with heap := h₃, toks := tk₃ }) e W3 g (r2.stp S3) r3 (r1.stp (S2.trans S3)) fun H4 h₄ tk₄ e S4 W4 => wpAny_release ?_
      have SS := S1.trans (S2.trans (S3.trans S4))
      exact kt φ3 h₄ tk₄ .next .next ρ H4 (SS.over R.mut) (R.stp SS) W4 rfl e
    · rw [q] at hb; exact nomatch hb
  | _ => exact Bool.noConfusion (show true = false from hb)

theorem exec1_sound {F : Nat → Option Fn} (T : TopC prog w base F) (hP : Sound prog w base M n) (g : Good A (n + 1)) (kk : KK k env) {st : Stmt} (e : stF M (compS k sl st) ρ H G) (R : ER base env sl ρ φ s.heap) (W : WR prog w base φ H s.heap)
    (kt : KonX prog w base env sl φ s G Q) : wpAny (model prog w) A (exec st env) Q E s := by
  have g' := g.less (Nat.le_succ n)
  cases st with
  | Expr x p =>
    have e : stF M (noS (isListCompE x) (.expr (compE k sl x))) ρ H G := e
    cases hl : isListCompE x with
    | true => rw [hl] at e; exact e.elim
    | false =>
      rw [hl] at e
      have e : M.ev (compE k sl x) ρ H (exprK ρ G) := e
      refine wpAny_Expr (hP.e g' kk e R W fun φ1 h₁ tk₁ V1 v1 H1 S1 W1 r1 e => ?_) (by unfold interactive; rw [R.kind]; rfl) (swaps_false0 hP e hl)
      have q := fun e => kt φ1 h₁ tk₁ .next .next ρ H1 (S1.over R.mut) (R.stp S1) W1 rfl e
      cases v1 with
      | none => rw [show V1 = .none from r1]; exact q e
      | bool b => rw [show V1 = .bool b from r1]; exact q e
      | int i => obtain ⟨t, rfl⟩ := r1; exact q e
      | str i => obtain ⟨_, t, rfl⟩ := r1; exact q e
      | _ => exact e.elim
  | Return x p =>
    cases x with
    | some x => exact wpAny_Return_some (hP.e g' kk (show M.ev (compE k sl x) ρ H (retK ρ G) from e) R W fun φ1 h₁ tk₁ V1 v1 H1 S1 W1 r1 e => kt φ1 h₁ tk₁ (.ret V1) (.ret v1) ρ H1 (S1.over R.mut) (R.stp S1) W1 ⟨V1, rfl, r1⟩ e)
    | none => exact wpAny_Return_none (kt φ s.heap s.toks (.ret .none) (.ret .none) ρ H ((StpX.refl _ _).over R.mut) R W ⟨_, rfl, rfl⟩ e)
  | If t b o p =>
    refine wpAny_If (hP.t g' kk (show M.tst (compE k sl t) ρ H (ifK M (compSs k sl b) (compSs k sl o) ρ G) from e) R W fun φ1 h₁ tk₁ c H1 S1 W1 e => ?_)
    have kt' : KonX prog w base env sl φ1 { s with heap := h₁, toks := tk₁ } G Q := fun φ' h' tk' F' f ρ' H' S R' W' fl e => kt φ' h' tk' F' f ρ' H' ((S1.over R.mut).trans S) R' W' fl e
    cases c with
    | true => exact hP.x g' kk e (R.stp S1) W1 kt'
    | false => exact hP.x g' kk e (R.stp S1) W1 kt'
  | While t b o p =>
    cases o with
    | cons _ _ => exact False.elim e
    | nil => exact wpAny_While (while_sound (s₀ := s) (φ₀ := φ) (tk := s.toks) hP g' kk (fun φ' h' tk F' f ρ' H' S R' W' fl e => kt φ' h' tk F' f ρ' H' S R' W' fl e) e ((StpX.refl _ _).over R.mut) R W)
  | For tgt it b o p =>
    cases o with
    | cons _ _ => exact False.elim e
    | nil =>
      have e : M.ev (compE k sl it) ρ H (forK M (tgtT (compTarget k sl tgt)) (compSs k sl b) ρ G) := e
      have hs : ∀ x, foldedSetIterable it env x = pure x := by
        intro x
        cases it <;> first | rfl | exact absurd e (hP.bad _ _ _)
      refine wpAny_For (hP.e g' kk e R W fun φ1 h₁ tk₁ V1 v1 H1 S1 W1 r1 e => ?_) hs
      refine iterW_sound (s := { s with heap := h₁, toks := tk₁ }) e W1 T.sys r1 fun it h₂ a ha0 S2 W2 i2 e => ?_
      have S12 := S1.trans S2
      have ha0s := W.gone S1 W1 ha0
      have hab := W1.baseNone ha0
      have ha1 : a ∉ adrs φ1 := fun q => by obtain ⟨o, eo⟩ := W1.there q; rw [ha0] at eo; cases eo
      have hEa : ∀ b, Own env b → b ≠ a := fun b q => by
        obtain ⟨o, eo⟩ := R.ex b q
        rintro rfl
        rw [ha0s] at eo; cases eo
      exact for_sound (s₀ := s) (φ₀ := φ) (tk := tk₁) hP g' kk ha0s hab hEa (fun φ' h' tk F' f ρ' H' S R' W' fl e => kt φ' h' tk F' f ρ' H' S R' W' fl e) e (S12.over R.mut) (R.stp S12) W2 (fun xs q => i2 xs H1 (fun n o h => h) q) ha1
  | Pass p => exact wpAny_Pass (kt φ s.heap s.toks .next .next ρ H ((StpX.refl _ _).over R.mut) R W rfl e)
  | Break p => exact wpAny_Break (kt φ s.heap s.toks .brk .brk ρ H ((StpX.refl _ _).over R.mut) R W rfl e)
  | Assign ts value p =>
    cases ts with
    | nil => exact False.elim e
    | cons t r =>
      cases r with
      | cons _ _ => exact False.elim e
      | nil =>
        have e : stF M (noS ((isTupleE t && isTupleE value) || isBadT (compT k sl t)) (.asg (compT k sl t) (compE k sl value))) ρ H G := e
        cases ht : ((isTupleE t && isTupleE value) || isBadT (compT k sl t)) with
        | true => rw [ht] at e; exact e.elim
        | false =>
          rw [ht] at e
          obtain ⟨h1, h2⟩ := Bool.or_eq_false_iff.mp ht
          exact asg_sound T hP g kk h1 e h2 R W kt
  | _ => exact False.elim e

theorem execs_sound {F : Nat → Option Fn} (T : TopC prog w base F) (hP : Sound prog w base M n) : SoundX prog w base (blG M) (n + 1) := by
  intro A env k sl b
  induction b with
  | nil =>
    intro ρ H G φ s E Q g kk ev R W kt
    exact wpAny_execs_nil (kt φ s.heap s.toks .next .next ρ H ((StpX.refl _ _).over R.mut) R W rfl ev)
  | cons st r ih =>
    intro ρ H G φ s E Q g kk ev R W kt
    refine wpAny_execs_cons (exec1_sound T hP g kk (show stF M (compS k sl st) ρ H (thenK (blF M G (compSs k sl r)) G) from ev) R W fun φ1 h₁ tk₁ F1 f1 ρ₁ H₁ S1 R1 W1 fl1 e => ?_)
    cases f1 with
    | next =>
      have fl1' : F1 = .next := fl1
      subst fl1'
      exact ih g kk e R1 W1 fun φ' h' tk' F' f ρ' H' S R' W' fl e => kt φ' h' tk' F' f ρ' H' (S1.trans S) R' W' fl e
    | brk =>
      have fl1' : F1 = .brk := fl1
      subst fl1'
      exact kt φ1 h₁ tk₁ .brk .brk ρ₁ H₁ S1 R1 W1 rfl e
    | ret u =>
      obtain ⟨V, rfl, r1⟩ := fl1
      exact kt φ1 h₁ tk₁ (.ret V) (.ret u) ρ₁ H₁ S1 R1 W1 ⟨V, rfl, r1⟩ e
end
end Mine
end
section
set_option autoImplicit false
set_option Elab.async false
namespace Mine
open PySem PySem.Calls PyProof.Rows PySem.W

section
variable {prog : Program} {w : World} {base : Heap} {φ φ' φ₀ φ₁ : Phi} {s s₀ : Shared} {v : AV} {H H₁ H' : AH} {A : Around} {E : Value → Shared → Prop} {n : Nat} {K : AH → AV → Prop} {Q : Value → Shared → Prop} {h h' h₁ : Heap} {tk : Nat} {M : MI} {env : Env} {k : Sc} {sl : List Str} {ρ ρ' : Ro}

theorem bindL_get {kd : Str → Option NameKind} {x : Str} : ∀ {ns : List Str} {Ws : List Value} {m : Str → Option Value}, ns.Nodup → kd x = some .local →
    bindL kd (ns.zip Ws) m x = (match (ns.zip Ws).lookup x with | some v => some v | none => m x)
  | [], _, m, _, _ => rfl
  | _ :: _, [], m, _, _ => rfl
  | y :: ns, v :: Ws, m, hn, hk => by
    rw [List.nodup_cons] at hn
    rw [List.zip_cons_cons]
    unfold bindL
    rw [bindL_get hn.2 hk, List.lookup_cons]
    by_cases e : x = y
    · subst e
      have hno : (ns.zip Ws).lookup x = none := by
        rw [List.lookup_eq_none_iff]
        intro p hp
        have := (List.of_mem_zip (a := p.1) (b := p.2) hp).1
        simp
        rintro rfl
        exact hn.1 this
      rw [hno]
      simp [hk]
    · have hb : (x == y) = false := by simpa using e
      rw [hb]
      dsimp only
      cases (ns.zip Ws).lookup x with
      | some u => rfl
      | none =>
        dsimp only
        split
        · exact if_neg e
        · rfl

theorem bindC_get {kd : Str → Option NameKind} {x : Str} : ∀ {ns : List Str} {Ws : List Value} {m : Str → Option Value}, ns.Nodup → kd x ≠ some .local →
    bindC kd (ns.zip Ws) m x = (match (ns.zip Ws).lookup x with | some v => some v | none => m x)
  | [], _, m, _, _ => rfl
  | _ :: _, [], m, _, _ => rfl
  | y :: ns, v :: Ws, m, hn, hk => by
    rw [List.nodup_cons] at hn
    rw [List.zip_cons_cons]
    unfold bindC
    rw [bindC_get hn.2 hk, List.lookup_cons]
    by_cases e : x = y
    · subst e
      have hno : (ns.zip Ws).lookup x = none := by
        rw [List.lookup_eq_none_iff]
        intro p hp
        have := (List.of_mem_zip (a := p.1) (b := p.2) hp).1
        simp
        rintro rfl
        exact hn.1 this
      rw [hno]
      simp [hk]
    · have hb : (x == y) = false := by simpa using e
      rw [hb]
      dsimp only
      cases (ns.zip Ws).lookup x with
      | some u => rfl
      | none =>
        dsimp only
        split
        · rfl
        · exact if_neg e

theorem zip_look {h : Heap} {x : Str} {u : AV} : ∀ {ns : List Str} {vs : List AV} {Ws : List Value} {m : Nat}, VRs φ h vs Ws → getR (vs.map some ++ List.replicate m none) (ns.idxOf x) = some u → x ∈ ns → ∃ V, (ns.zip Ws).lookup x = some V ∧ VR φ h u V
  | [], _, _, _, _, _, hx => by cases hx
  | y :: ns, [], Ws, m, rs, g, hx => by
    unfold getR at g
    simp only [List.map_nil, List.nil_append] at g
    rw [List.getElem?_replicate] at g
    split at g <;> cases g
  | y :: ns, a :: vs, _, m, ⟨V, Ws, e, r, rs⟩, g, hx => by
    subst e
    rw [List.zip_cons_cons, List.lookup_cons]
    by_cases e : x = y
    · subst e
      rw [beq_self_eq_true]
      have : getR ((a :: vs).map some ++ List.replicate m none) ((x :: ns).idxOf x) = some a := by simp [getR]
      rw [this] at g; cases g
      exact ⟨V, rfl, r⟩
    · have hb : (x == y) = false := by simpa using e
      rw [hb]
      have hi : (y :: ns).idxOf x = ns.idxOf x + 1 := by
        rw [List.idxOf_cons]
        have : (y == x) = false := by simpa using Ne.symm e
        rw [this]; rfl
      rw [hi] at g
      have g' : getR (vs.map some ++ List.replicate m none) (ns.idxOf x) = some u := by
        unfold getR at g ⊢
        simpa using g
      rcases List.mem_cons.mp hx with rfl | hx
      · exact absurd rfl e
      · exact zip_look rs g' hx

theorem cellsFrom_has {x : Str} : ∀ {names : List (Str × NameKind)} {n : Nat} {acc : List (Str × Addr)}, ((x, NameKind.cell) ∈ names ∨ ∃ c, (x, c) ∈ acc) → ∃ c, (x, c) ∈ cellsFrom n names acc
  | [], _, _, h => h.elim (fun q => by cases q) id
  | (y, kd) :: r, n, acc, h => by
    unfold cellsFrom
    split
    · refine cellsFrom_has ?_
      rcases h with q | ⟨c, q⟩
      · rcases List.mem_cons.mp q with e | q
        · cases e; exact .inr ⟨_, .head _⟩
        · exact .inl q
      · exact .inr ⟨c, .tail _ q⟩
    · rename_i hk
      refine cellsFrom_has ?_
      rcases h with q | ⟨c, q⟩
      · rcases List.mem_cons.mp q with e | q
        · cases e; exact absurd rfl hk
        · exact .inl q
      · exact .inr ⟨c, q⟩
theorem cellsFrom_mem {x : Str} {c : Addr} : ∀ {names : List (Str × NameKind)} {n : Nat} {acc : List (Str × Addr)}, (x, c) ∈ cellsFrom n names acc → (x, NameKind.cell) ∈ names ∨ (x, c) ∈ acc
  | [], _, _, h => .inr h
  | (y, kd) :: r, n, acc, h => by
    unfold cellsFrom at h
    split at h
    · rename_i hk
      have hk : kd = .cell := by simpa using hk
      subst hk
      rcases cellsFrom_mem h with q | q
      · exact .inl (.tail _ q)
      · rcases List.mem_cons.mp q with e | q
        · cases e; exact .inl (.head _)
        · exact .inr q
    · rcases cellsFrom_mem h with q | q
      · exact .inl (.tail _ q)
      · exact .inr q

theorem slotsOf_mem {names : List (Str × NameKind)} {x : Str} : x ∈ slotsOf names ↔ (x, NameKind.local) ∈ names ∨ (x, NameKind.cell) ∈ names := by
  unfold slotsOf
  simp only [List.mem_map, List.mem_filter]
  constructor
  · rintro ⟨⟨n, d⟩, ⟨h1, h2⟩, rfl⟩
    cases d <;> simp [ownVar] at h2
    · exact .inl h1
    · exact .inr h1
  · rintro (h | h)
    · exact ⟨_, ⟨h, rfl⟩, rfl⟩
    · exact ⟨_, ⟨h, rfl⟩, rfl⟩
theorem slotsOf_nodup {names : List (Str × NameKind)} (h : (names.map (·.1)).Nodup) : (slotsOf names).Nodup := by
  unfold slotsOf
  induction names with
  | nil => exact List.nodup_nil
  | cons p r ih =>
    rw [List.map_cons, List.nodup_cons] at h
    rw [List.filter_cons]
    split
    · rw [List.map_cons, List.nodup_cons]
      refine ⟨fun q => h.1 ?_, ih h.2⟩
      obtain ⟨a, ha, e⟩ := List.mem_map.mp q
      exact List.mem_map.mpr ⟨a, (List.mem_filter.mp ha).1, e⟩
    · exact ih h.2

/-- the arguments that a def takes -/
structure ArgsOK (f : Fn) (args vs : List AV) : Prop where
  eq : vs = args ++ f.dflts.drop (f.dflts.length - (f.np - args.length))
  lo : args.length ≤ f.np
  hi : f.np ≤ args.length + f.dflts.length
  sl : f.np ≤ f.nslots
  df : f.dflts.length ≤ f.np
theorem args_ok {f : Fn} {args vs : List AV} (h : argsOf f args = some vs) : ArgsOK f args vs := by
  unfold argsOf at h
  by_cases hc : args.length ≤ f.np ∧ f.np ≤ args.length + f.dflts.length ∧ f.np ≤ f.nslots ∧ f.dflts.length ≤ f.np
  · rw [if_pos hc] at h
    exact ⟨(Option.some.inj h).symm, hc.1, hc.2.1, hc.2.2.1, hc.2.2.2⟩
  · rw [if_neg hc] at h; exact nomatch h
/-- a def's call -/
theorem callF_sound {F : Nat → Option Fn} (T : TopC prog w base F) (hP : Sound prog w base M n) : SoundF prog w base (clF M F) (n + 1) := by
  intro A k a args Vs H K φ s R g ev ha rs W kt
  refine okW.el (show okW (F k) (fnK M args H K) from ev) fun fn hF ev => okW.el ev fun vs hvs ev => ?_
  have ev : M.blk fn.body (startR fn vs) H (outK K) := ev
  obtain ⟨fd, o, body, go, hd, hcd, hb, hclo, hgl, hbi, hco, hgen, hk, hnd, hnf, hbody, hns, hbind⟩ := (T.fns k fn a hF ha).ex
  obtain ⟨Ws, rws, hB⟩ := hbind args vs Vs φ s hvs W.low rs W.kp0
  refine codeAny_call_function g.room (W.low _ _ go) hd hco hgen hb (hcd.keeps W.low) (hB _ _ _ _ ?_)
  rw [hclo]
  have hin : ∀ x ∈ (slotsOf fd.scope.names).zip Ws, (x.1, NameKind.local) ∈ fd.scope.names ∨ (x.1, NameKind.cell) ∈ fd.scope.names := fun x hx =>
    slotsOf_mem.mp (List.of_mem_zip (a := x.1) (b := x.2) hx).1
  refine wpAny_newFunctionEnv_cells hk (fun x hx => ?_) fun env he s' x => ?_
  · rcases hin x hx with q | q
    · exact .inl (lookup_nodup hnd q)
    · obtain ⟨c, hc⟩ := cellsFrom_has (n := s.heap.objs.size + 1) (acc := []) (.inl q)
      obtain ⟨c', hc'⟩ := lookup_of_mem hc
      exact .inr ⟨lookup_nodup hnd q, by rw [hc']; rfl⟩
  · have hkind : ∀ y, env.kindOf y = fd.scope.names.lookup y := fun y => by subst he; rfl
    have hL : env.locals = s.heap.objs.size := by subst he; rfl
    have hcells : env.cells = cellsFrom (s.heap.objs.size + 1) fd.scope.names [] := by subst he; rfl
    have hglob : env.globals = mainGlobals := by subst he; exact hgl
    have hbui : env.builtins = builtinsNs := by subst he; exact hbi
    have hsck : env.scope.kind = .function := by subst he; exact hk
    clear he
    obtain ⟨h₁, tk₁, rfl, keep⟩ := x.done
    refine ⟨T.lim.keeps fun b o e => keep b o (W.low b o e), codeAny_func ?_⟩
    obtain ⟨W1, S1⟩ := W.grow keep
    have fresh : ∀ b, Own env b → s.heap.get? b = none := fun b q => by
      have hle : s.heap.objs.size ≤ b := by
        rcases q with rfl | ⟨y, q⟩
        · rw [hL]; exact Nat.le_refl _
        · have := x.above y b (mem_of_lookup q)
          rw [hL] at this
          exact Nat.le_of_lt this
      cases e : s.heap.get? b with
      | none => rfl
      | some o => exact absurd (Heap.lt_size e) (Nat.not_lt.mpr hle)
    have kdL : ∀ y, env.kindOf y = some .local → y ∈ slotsOf fd.scope.names := fun y hy => slotsOf_mem.mpr (.inl (mem_of_lookup (by rw [← hkind]; exact hy)))
    have nod := slotsOf_nodup hnd
    have E1 : ER base env (slotsOf fd.scope.names) (startR fn vs) φ h₁ := by
      refine ⟨hsck, hglob, hbui, ?_, ⟨_, x.toInCall.ns, fun y u hy gy => ?_⟩, fun y c hc => ⟨_, x.cell y c hc, fun hy u gy => ?_⟩, fun y hy _ => ?_, fun b q => ?_, fun b q => W.baseNone (fresh b q), fun y z c h1 h2 => name_of_addr x.apart (mem_of_lookup h1) (mem_of_lookup h2)⟩
      · obtain ⟨rfl, h1, h2, h3, h4⟩ := args_ok hvs
        unfold startR
        rw [List.length_append, List.length_map, List.length_replicate, hns, List.length_append, List.length_drop]
        rw [hns] at h3
        lia
      · obtain ⟨V, hV, r⟩ := zip_look (ns := slotsOf fd.scope.names) rws gy (kdL y hy)
        exact ⟨V, by rw [bindL_get nod hy, hV], r.stp S1⟩
      · have hnl : env.kindOf y ≠ some .local := by rcases hy with q | q <;> rw [q] <;> decide
        have hm : y ∈ slotsOf fd.scope.names := by
          rcases hy with q | q
          · exact slotsOf_mem.mpr (.inr (mem_of_lookup (by rw [← hkind]; exact q)))
          · exact absurd rfl (hnf _ (mem_of_lookup (by rw [← hkind]; exact q)))
        obtain ⟨V, hV, r⟩ := zip_look (ns := slotsOf fd.scope.names) rws gy hm
        exact ⟨V, by rw [bindC_get nod hnl, hV], r.stp S1⟩
      · rcases hy with q | q
        · obtain ⟨c, hc⟩ := cellsFrom_has (n := s.heap.objs.size + 1) (acc := []) (.inl (mem_of_lookup (by rw [← hkind]; exact q)))
          rw [hcells]
          exact lookup_of_mem hc
        · exact absurd rfl (hnf _ (mem_of_lookup (by rw [← hkind]; exact q)))
      · intro z
        obtain ⟨o', eo⟩ := W.there z
        rw [fresh b q] at eo; cases eo
    rw [hbody] at ev
    refine hP.x (k := fun x => fd.scope.names.lookup x) (s := { s with heap := h₁, toks := tk₁ }) g.deeper (fun y => .inl (hkind y).symm) ev E1 W1 fun φ' h' tk' F' f1 ρ' H₁ S2 R2 W2 fl e => ?_
    have SS : Stp φ s.heap φ' h' := S1.fore S2 fun b q => .inr (fresh b q)
    cases f1 with
    | next =>
      have fl' : F' = .next := fl
      subst fl'
      exact kt φ' h' tk' .none .none H₁ SS W2 rfl e
    | brk => exact e.elim
    | ret u =>
      obtain ⟨V, rfl, r⟩ := fl
      exact kt φ' h' tk' V u H₁ SS W2 r e

/-- a new object of a class -/
theorem WR.inst2 (W : WR prog w base φ H h) {c : Nat} {C : Addr} (hc : clsAddrs[c]? = some C) :
    WR prog w base (φ ++ [(h.objs.size + 1, some h.objs.size)]) (H ++ [.inst c []]) ((h.push emptyDict).push (instObj C h.objs.size)) ∧
      Stp φ h (φ ++ [(h.objs.size + 1, some h.objs.size)]) ((h.push emptyDict).push (instObj C h.objs.size)) := by
  have keep : ∀ b o, h.get? b = some o → ((h.push emptyDict).push (instObj C h.objs.size)).get? b = some o := fun b o e => Heap.get?_push_of_some _ (Heap.get?_push_of_some _ e)
  have hsz : (h.push emptyDict).objs.size = h.objs.size + 1 := Heap.size_push ..
  have g1 : ((h.push emptyDict).push (instObj C h.objs.size)).get? (h.objs.size + 1) = some (instObj C h.objs.size) := by rw [← hsz]; exact Heap.get?_push_size _ rfl
  have g2 : ((h.push emptyDict).push (instObj C h.objs.size)).get? h.objs.size = some (dicO [] 0) := Heap.get?_push_of_some _ (Heap.get?_push_size _ rfl)
  have fresh : ∀ b, b = h.objs.size + 1 ∨ b = h.objs.size → h.get? b = none := fun b q => by
    cases e : h.get? b with
    | none => rfl
    | some o =>
      have := Heap.lt_size e
      rcases q with rfl | rfl
      · exact absurd this (Nat.not_lt.mpr (Nat.le_succ _))
      · exact absurd this (Nat.lt_irrefl _)
  have hadr : ∀ b, b ∈ adrs [(h.objs.size + 1, some h.objs.size)] ↔ b = h.objs.size + 1 ∨ b = h.objs.size := fun b => by simp [adrs]
  have S : Stp φ h (φ ++ [(h.objs.size + 1, some h.objs.size)]) ((h.push emptyDict).push (instObj C h.objs.size)) := ⟨List.prefix_append _ _, fun a q => by
    rw [adrs_append] at q
    rcases List.mem_append.mp q with q | q
    · exact .inl q
    · exact .inr (fresh a ((hadr a).mp q)), fun a o e _ _ => keep a o e, fun _ _ _ _ q => q.elim, fun _ q => q.elim⟩
  refine ⟨⟨by simp [W.len], ?_, fun n ao' p e q => ?_, fun a o e => keep a o (W.low a o e), fun a q => ?_⟩, S⟩
  · rw [adrs_append, List.nodup_append]
    refine ⟨W.nodup, ?_, fun a ha b hb => ?_⟩
    · show (adrs [(h.objs.size + 1, some h.objs.size)]).Nodup
      have : adrs [(h.objs.size + 1, some h.objs.size)] = [h.objs.size + 1, h.objs.size] := rfl
      rw [this]
      refine List.nodup_cons.mpr ⟨fun q => ?_, List.nodup_cons.mpr ⟨fun q => (nomatch q), List.nodup_nil⟩⟩
      have := List.mem_singleton.mp q
      exact absurd this (Nat.succ_ne_self _)
    · rintro rfl
      have hlt := W.lt ha
      rcases (hadr a).mp hb with rfl | rfl
      · exact absurd hlt (Nat.not_lt.mpr (Nat.le_succ _))
      · exact absurd hlt (Nat.lt_irrefl _)
  · by_cases hn : n < φ.length
    · rw [List.getElem?_append_left hn] at q
      rw [List.getElem?_append_left (W.len ▸ hn)] at e
      have z := W.obj n ao' p e q
      obtain ⟨o1, g⟩ := z.some1
      refine z.move S.kp ((keep _ _ g).trans g.symm) fun d hd => ?_
      obtain ⟨o1, g⟩ := z.some2 hd
      exact (keep _ _ g).trans g.symm
    · have hlt := (List.getElem?_eq_some_iff.mp q).1
      have hne : n = φ.length := by simp at hlt; lia
      subst hne
      simp at q
      rw [W.len] at e
      simp at e
      subst q e
      exact ⟨C, h.objs.size, [], 0, rfl, hc, g1, g2, rfl⟩
  · rcases S.new a q with q | q
    · exact W.above a q
    · cases e : base.get? a with
      | none => rfl
      | some o => rw [W.low a o e] at q; cases q

theorem call_sound {F : Nat → Option Fn} (T : TopC prog w base F) (hP : Sound prog w base M n) : SoundC prog w base (clF M F) (n + 1) := by
  intro A f Vf args Vs H K φ s E Q g ev rf rs W kt
  cases f with
  | fn k =>
    obtain ⟨a, ha, rfl⟩ := rf
    exact wpAny_call (callF_sound T hP g ev ha rs W fun φ' h' tk V v H' S W' r e => kt φ' h' tk V v H' S W' r e)
  | cls c =>
    obtain ⟨C, hC, rfl⟩ := rf
    refine okW.el (show okW (initFn c) (fun k => Cw M (.fn k) (.ref H.length :: args) (H ++ [.inst c []]) (noneK H.length K)) from ev) fun k hk ev => ?_
    obtain ⟨F0, X, hCls, hFn⟩ := T.ex
    have CF := hCls c C hC
    have hkl : k < fnAddrs.length := by
      have hall : ∀ x ∈ [1, 2, 18, 19, 26, 27, 32, 33], x < fnAddrs.length := by decide
      exact hall k (List.mem_of_getElem? hk)
    have hfa : fnAddrs[k]? = some fnAddrs[k] := List.getElem?_eq_getElem hkl
    obtain ⟨hh, gg, dd, tt, os⟩ := s
    dsimp only at rs W
    have X' := X.keeps W.low
    refine wpAny_call (make_core (makes_of X' CF.makes) (looks_findIn X' (CF.init k _ hk hfa)) (fun self => bind_fn X' self (hFn k _ hfa).2) (.inl rfl) ?_)
    obtain ⟨W2, S2⟩ := W.inst2 hC
    have gu : Good (A.under (.builtin "type.__call__" ⟨.ref C :: Vs, []⟩)) n := by
      refine ⟨g.hand, ?_, ?_⟩
      · have := g.deep
        show A.depth + 1 + 2 * n < recursionLimit
        lia
      · have := g.units
        show A.units + 1 + 10 * n < cLine
        lia
    have hself : (φ ++ [(hh.objs.size + 1, some hh.objs.size)])[H.length]? = some (hh.objs.size + 1, some hh.objs.size) := by rw [← W.len]; simp
    refine hP.f (s := ⟨(hh.push emptyDict).push (instObj C hh.objs.size), gg, dd, tt, os⟩) gu ev.k hfa (Vs := .ref (hh.objs.size + 1) :: Vs) ⟨_, Vs, rfl, ⟨_, hself, rfl⟩, rs.stp S2⟩ W2 fun φ' h' tk' V v H' S' W' r e => ?_
    have e : noneW v (K H' (.ref H.length)) := e
    refine ⟨noneW.el (P := fun V => V = .none) e r fun _ => rfl, ?_⟩
    have e : K H' (.ref H.length) := noneW.el (P := fun _ => K H' (.ref H.length)) e r id
    exact kt φ' h' tk' _ (.ref H.length) H' (S2.trans S') W' ⟨_, pre_get S'.pre hself, rfl⟩ e
  | bi b =>
    have rf' : Vf = biV b := rf
    subst rf'
    exact biW_sound ev T.sys W g rs kt
  | _ => exact False.elim ev

theorem sound_step {F : Nat → Option Fn} (T : TopC prog w base F) (hP : Sound prog w base M n) : Sound prog w base ⟨evF M, tsF M, blG M, clF M F⟩ (n + 1) :=
  ⟨callF_sound T hP, eval_sound T hP, test_sound T hP, execs_sound T hP, call_sound T hP, fun _ _ _ e => e⟩

theorem sound_zero {F : Nat → Option Fn} : Sound prog w base (mi F 0) 0 :=
  ⟨fun _ _ _ _ _ _ _ _ _ _ _ e => False.elim e, fun _ _ _ _ _ _ _ _ _ _ _ _ _ _ e => False.elim e, fun _ _ _ _ _ _ _ _ _ _ _ _ _ _ e => False.elim e,
    fun _ _ _ _ _ _ _ _ _ _ _ _ _ _ e => False.elim e, fun _ _ _ _ _ _ _ _ _ _ _ _ e => False.elim e, fun _ _ _ e => e⟩

theorem sound_mi {F : Nat → Option Fn} (T : TopC prog w base F) : ∀ n, Sound prog w base (mi F n) n
  | 0 => sound_zero
  | n + 1 => sound_step T (sound_mi T n)
end
end Mine
end
section
set_option autoImplicit false
set_option Elab.async false
set_option maxRecDepth 100000
open PySem PySem.W PyProof.Rows
namespace Mine
noncomputable def dOf (k : Nat) : Option (Arguments × List Stmt × Scope) := (fnTab[k]?).bind fun p => defOf PySem.Challenge.pw_pq0576_01 p.1 p.2
noncomputable def dOf' (k : Nat) : Arguments × List Stmt × Scope := (dOf k).getD default
def kE (P : Params) (x : Str) (t : Nat) (v : Value) : DictEntry := { hash := PyData.keyHash P x, key := .str x t, val := v }
noncomputable def kF (k : Nat) (nm q : Str) (df : Value) (md : Str) (tk c : Nat) : Obj := { cls := .type "function", data := .func { name := nm, qualname := q, params := (dOf' k).1, body := .stmts (dOf' k).2.1, scope := (dOf' k).2.2, globals := 3, closure := [], defaults := df, kwdefaults := .none, pyModule := .str md tk, code := .ref c } }
/-- the part of the heap that the law asks -/
noncomputable def hK (P : Params) : Frag := [
(3, { cls := .type "dict", data := .dict #[kE P "__name__" 165 (.str "law_pq0576_01" 940), kE P "__doc__" 166 (.none), kE P "__package__" 167 (.none), kE P "__loader__" 168 (.builtin "__main__.__loader__#opaque"), kE P "__spec__" 169 (.none), kE P "__annotations__" 170 (.ref 6), kE P "__builtins__" 171 (.ref 4), kE P "__file__" 173 (.str "/claim/cut.py" 172), kE P "__cached__" 174 (.none), kE P "_wall" 193 (.ref 21), kE P "ToolError" 233 (.ref 46), kE P "GrammarError" 249 (.ref 59), kE P "bits" 259 (.ref 68), kE P "END" 263 (.int 0 262), kE P "OWN_TERMINALS" 267 (.ref 69), kE P "Rule" 312 (.ref 87), kE P "Grammar" 422 (.ref 169), kE P "last_terminal" 432 (.ref 180), kE P "plain_grammar" 438 (.ref 186), kE P "spread" 446 (.ref 191), kE P "nullable" 453 (.ref 198), kE P "first_of" 464 (.ref 205), kE P "first_masks" 477 (.ref 212), kE P "transitive" 487 (.ref 219), kE P "NONE" 492 (.int (-1) 491), kE P "LrState" 543 (.ref 250), kE P "Closer" 606 (.ref 292), kE P "advanced" 614 (.ref 303), kE P "kernels_behind" 626 (.ref 310), kE P "complete_rules" 636 (.ref 317), kE P "Automaton" 713 (.ref 369), kE P "Builder" 772 (.ref 411), kE P "build" 779 (.ref 422), kE P "Path" 812 (.ref 439), kE P "Finder" 939 (.ref 518), kE P "_law_pen" 950 (.ref 529), kE P "_law_draw" 959 (.ref 536), kE P "_law_right" 965 (.ref 541), kE P "_law_pairs" 976 (.ref 548), kE P "_law_empty" 982 (.ref 553), kE P "_law_ends" 988 (.ref 558), kE P "_law_derives" 997 (.ref 565), kE P "_law_heads" 1011 (.ref 572), kE P "_law_suffix_fits" 1017 (.ref 577), kE P "law" 1023 (.ref 582)] 45 }),
  (67, { cls := .type "code", data := .fields #[.str "bits" 250, .str "bits" 251, .str "/claim/cut.py" 252, .int 18 0, .int 1 0, .int 0 0, .int 0 0, .int 3 0, .ref 62, .bool true, .int 181 0, .ref 63, .none, .ref 64, .ref 65, .ref 66, .int 257 0, .int 18 0, .str "/claim/cut.py" 258] }),
  (68, kF 0 "bits" "bits" (.none) "grammarmill.source" 194 67),
  (69, { cls := .type "tuple", data := .seq #[.str "$end" 264, .str "error" 265, .str "$undefined" 266] }),
  (77, { cls := .type "tuple", data := .seq #[.int (-1) 281, .none, .int 0 282, .int 0 283] }),
  (83, { cls := .type "code", data := .fields #[.str "__init__" 284, .str "Rule.__init__" 285, .str "/claim/cut.py" 286, .int 33 0, .int 8 0, .int 0 0, .int 0 0, .int 3 0, .ref 78, .bool true, .int 181 0, .ref 79, .none, .ref 80, .ref 81, .ref 82, .int 295 0, .int 33 0, .str "/claim/cut.py" 296] }),
  (84, kF 1 "__init__" "Rule.__init__" (.ref 77) "grammarmill.grammar" 260 83),
  (86, { cls := .type "dict", data := .dict #[kE P "__module__" 275 (.str "grammarmill.grammar" 260), kE P "__firstlineno__" 279 (.int 31 278), kE P "__init__" 297 (.ref 84), kE P "__static_attributes__" 305 (.ref 85), kE P "__dict__" 307 (.ref 88), kE P "__weakref__" 309 (.ref 89), kE P "__doc__" 310 (.none)] 4 }),
  (87, { cls := .type "type", data := .cls { name := "Rule", bases := [.type "object"], mro := [.ref 87, .type "object"], ns := 86, qualname := "Rule" }, slots := #[none, none, some (.str "Rule" 268), some (.str "Rule" 276), some (.builtin "object.__new__"), some (.bool true)] }),
  (102, { cls := .type "code", data := .fields #[.str "__init__" 325, .str "Grammar.__init__" 326, .str "/claim/cut.py" 327, .int 43 0, .int 7 0, .int 0 0, .int 0 0, .int 3 0, .ref 99, .bool true, .int 181 0, .ref 100, .none, .none, .none, .ref 101, .int 328 0, .int 43 0, .str "/claim/cut.py" 329] }),
  (103, kF 2 "__init__" "Grammar.__init__" (.none) "grammarmill.grammar" 260 102),
  (109, { cls := .type "code", data := .fields #[.str "symbol_count" 331, .str "Grammar.symbol_count" 332, .str "/claim/cut.py" 333, .int 59 0, .int 1 0, .int 0 0, .int 0 0, .int 3 0, .ref 104, .bool true, .int 181 0, .ref 105, .none, .ref 106, .ref 107, .ref 108, .int 335 0, .int 59 0, .str "/claim/cut.py" 336] }),
  (110, kF 3 "symbol_count" "Grammar.symbol_count" (.none) "grammarmill.grammar" 260 109),
  (116, { cls := .type "code", data := .fields #[.str "is_terminal" 338, .str "Grammar.is_terminal" 339, .str "/claim/cut.py" 340, .int 62 0, .int 2 0, .int 0 0, .int 0 0, .int 3 0, .ref 111, .bool true, .int 181 0, .ref 112, .none, .ref 113, .ref 114, .ref 115, .int 343 0, .int 62 0, .str "/claim/cut.py" 344] }),
  (117, kF 4 "is_terminal" "Grammar.is_terminal" (.none) "grammarmill.grammar" 260 116),
  (130, { cls := .type "code", data := .fields #[.str "number" 354, .str "Grammar.number" 355, .str "/claim/cut.py" 356, .int 68 0, .int 2 0, .int 0 0, .int 0 0, .int 3 0, .ref 125, .bool true, .int 181 0, .ref 126, .none, .ref 127, .ref 128, .ref 129, .int 359 0, .int 68 0, .str "/claim/cut.py" 360] }),
  (131, kF 5 "number" "Grammar.number" (.none) "grammarmill.grammar" 260 130),
  (137, { cls := .type "code", data := .fields #[.str "rules_of" 362, .str "Grammar.rules_of" 363, .str "/claim/cut.py" 364, .int 71 0, .int 2 0, .int 0 0, .int 0 0, .int 3 0, .ref 132, .bool true, .int 181 0, .ref 133, .none, .ref 134, .ref 135, .ref 136, .int 367 0, .int 71 0, .str "/claim/cut.py" 368] }),
  (138, kF 6 "rules_of" "Grammar.rules_of" (.none) "grammarmill.grammar" 260 137),
  (144, { cls := .type "code", data := .fields #[.str "item" 370, .str "Grammar.item" 371, .str "/claim/cut.py" 372, .int 74 0, .int 3 0, .int 0 0, .int 0 0, .int 3 0, .ref 139, .bool true, .int 181 0, .ref 140, .none, .ref 141, .ref 142, .ref 143, .int 376 0, .int 74 0, .str "/claim/cut.py" 377] }),
  (145, kF 7 "item" "Grammar.item" (.none) "grammarmill.grammar" 260 144),
  (151, { cls := .type "code", data := .fields #[.str "rule_of" 379, .str "Grammar.rule_of" 380, .str "/claim/cut.py" 381, .int 77 0, .int 2 0, .int 0 0, .int 0 0, .int 3 0, .ref 146, .bool true, .int 181 0, .ref 147, .none, .ref 148, .ref 149, .ref 150, .int 384 0, .int 77 0, .str "/claim/cut.py" 385] }),
  (152, kF 8 "rule_of" "Grammar.rule_of" (.none) "grammarmill.grammar" 260 151),
  (158, { cls := .type "code", data := .fields #[.str "dot_of" 387, .str "Grammar.dot_of" 388, .str "/claim/cut.py" 389, .int 80 0, .int 2 0, .int 0 0, .int 0 0, .int 3 0, .ref 153, .bool true, .int 181 0, .ref 154, .none, .ref 155, .ref 156, .ref 157, .int 392 0, .int 80 0, .str "/claim/cut.py" 393] }),
  (159, kF 9 "dot_of" "Grammar.dot_of" (.none) "grammarmill.grammar" 260 158),
  (165, { cls := .type "code", data := .fields #[.str "after" 395, .str "Grammar.after" 396, .str "/claim/cut.py" 397, .int 83 0, .int 2 0, .int 0 0, .int 0 0, .int 3 0, .ref 160, .bool true, .int 181 0, .ref 161, .none, .ref 162, .ref 163, .ref 164, .int 402 0, .int 83 0, .str "/claim/cut.py" 403] }),
  (166, kF 10 "after" "Grammar.after" (.none) "grammarmill.grammar" 260 165),
  (168, { cls := .type "dict", data := .dict #[kE P "__module__" 320 (.str "grammarmill.grammar" 260), kE P "__firstlineno__" 324 (.int 41 323), kE P "__init__" 330 (.ref 103), kE P "symbol_count" 337 (.ref 110), kE P "is_terminal" 345 (.ref 117), kE P "is_middle" 353 (.ref 124), kE P "number" 361 (.ref 131), kE P "rules_of" 369 (.ref 138), kE P "item" 378 (.ref 145), kE P "rule_of" 386 (.ref 152), kE P "dot_of" 394 (.ref 159), kE P "after" 404 (.ref 166), kE P "__static_attributes__" 415 (.ref 167), kE P "__dict__" 417 (.ref 170), kE P "__weakref__" 419 (.ref 171), kE P "__doc__" 420 (.none)] 4 }),
  (169, { cls := .type "type", data := .cls { name := "Grammar", bases := [.type "object"], mro := [.ref 169, .type "object"], ns := 168, qualname := "Grammar" }, slots := #[none, none, some (.str "Grammar" 313), some (.str "Grammar" 321), some (.builtin "object.__new__"), some (.bool true)] }),
  (179, { cls := .type "code", data := .fields #[.str "last_terminal" 423, .str "last_terminal" 424, .str "/claim/cut.py" 425, .int 87 0, .int 2 0, .int 0 0, .int 0 0, .int 3 0, .ref 174, .bool true, .int 181 0, .ref 175, .none, .ref 176, .ref 177, .ref 178, .int 430 0, .int 87 0, .str "/claim/cut.py" 431] }),
  (180, kF 11 "last_terminal" "last_terminal" (.none) "grammarmill.grammar" 260 179),
  (181, { cls := .type "tuple", data := .seq #[.none] }),
  (185, { cls := .type "code", data := .fields #[.str "plain_grammar" 433, .str "plain_grammar" 434, .str "/claim/cut.py" 435, .int 93 0, .int 2 0, .int 0 0, .int 0 0, .int 3 0, .ref 182, .bool true, .int 181 0, .ref 183, .none, .none, .none, .ref 184, .int 436 0, .int 93 0, .str "/claim/cut.py" 437] }),
  (186, kF 12 "plain_grammar" "plain_grammar" (.ref 181) "grammarmill.grammar" 260 185),
  (190, { cls := .type "code", data := .fields #[.str "spread" 441, .str "spread" 442, .str "/claim/cut.py" 443, .int 116 0, .int 2 0, .int 0 0, .int 0 0, .int 3 0, .ref 187, .bool true, .int 181 0, .ref 188, .none, .none, .none, .ref 189, .int 444 0, .int 116 0, .str "/claim/cut.py" 445] }),
  (191, kF 13 "spread" "spread" (.none) "grammarmill.analysis" 439 190),
  (197, { cls := .type "code", data := .fields #[.str "nullable" 447, .str "nullable" 448, .str "/claim/cut.py" 449, .int 142 0, .int 1 0, .int 0 0, .int 0 0, .int 3 0, .ref 192, .bool true, .int 181 0, .ref 193, .none, .ref 194, .ref 195, .ref 196, .int 451 0, .int 142 0, .str "/claim/cut.py" 452] }),
  (198, kF 14 "nullable" "nullable" (.none) "grammarmill.analysis" 439 197),
  (204, { cls := .type "code", data := .fields #[.str "first_of" 454, .str "first_of" 455, .str "/claim/cut.py" 456, .int 144 0, .int 3 0, .int 0 0, .int 0 0, .int 3 0, .ref 199, .bool true, .int 181 0, .ref 200, .none, .ref 201, .ref 202, .ref 203, .int 462 0, .int 144 0, .str "/claim/cut.py" 463] }),
  (205, kF 15 "first_of" "first_of" (.none) "grammarmill.analysis" 439 204),
  (211, { cls := .type "code", data := .fields #[.str "first_masks" 465, .str "first_masks" 466, .str "/claim/cut.py" 467, .int 151 0, .int 1 0, .int 0 0, .int 0 0, .int 3 0, .ref 206, .bool true, .int 181 0, .ref 207, .none, .ref 208, .ref 209, .ref 210, .int 475 0, .int 151 0, .str "/claim/cut.py" 476] }),
  (212, kF 16 "first_masks" "first_masks" (.none) "grammarmill.analysis" 439 211),
  (218, { cls := .type "code", data := .fields #[.str "transitive" 478, .str "transitive" 479, .str "/claim/cut.py" 480, .int 165 0, .int 1 0, .int 0 0, .int 0 0, .int 3 0, .ref 213, .bool true, .int 181 0, .ref 214, .none, .ref 215, .ref 216, .ref 217, .int 485 0, .int 165 0, .str "/claim/cut.py" 486] }),
  (219, kF 17 "transitive" "transitive" (.none) "grammarmill.analysis" 439 218),
  (232, { cls := .type "code", data := .fields #[.str "__init__" 505, .str "LrState.__init__" 506, .str "/claim/cut.py" 507, .int 176 0, .int 4 0, .int 0 0, .int 0 0, .int 3 0, .ref 227, .bool true, .int 181 0, .ref 228, .none, .ref 229, .ref 230, .ref 231, .int 512 0, .int 176 0, .str "/claim/cut.py" 513] }),
  (233, kF 18 "__init__" "LrState.__init__" (.none) "grammarmill.lrzero" 488 232),
  (249, { cls := .type "dict", data := .dict #[kE P "__module__" 500 (.str "grammarmill.lrzero" 488), kE P "__firstlineno__" 504 (.int 174 503), kE P "__init__" 514 (.ref 233), kE P "goto" 522 (.ref 240), kE P "is_consistent" 529 (.ref 247), kE P "__static_attributes__" 536 (.ref 248), kE P "__dict__" 538 (.ref 251), kE P "__weakref__" 540 (.ref 252), kE P "__doc__" 541 (.none)] 4 }),
  (250, { cls := .type "type", data := .cls { name := "LrState", bases := [.type "object"], mro := [.ref 250, .type "object"], ns := 249, qualname := "LrState" }, slots := #[none, none, some (.str "LrState" 493), some (.str "LrState" 501), some (.builtin "object.__new__"), some (.bool true)] }),
  (267, { cls := .type "code", data := .fields #[.str "__init__" 556, .str "Closer.__init__" 557, .str "/claim/cut.py" 558, .int 191 0, .int 2 0, .int 0 0, .int 0 0, .int 3 0, .ref 262, .bool true, .int 181 0, .ref 263, .none, .ref 264, .ref 265, .ref 266, .int 563 0, .int 191 0, .str "/claim/cut.py" 564] }),
  (268, kF 19 "__init__" "Closer.__init__" (.none) "grammarmill.lrzero" 488 267),
  (274, { cls := .type "code", data := .fields #[.str "wanted" 566, .str "Closer.wanted" 567, .str "/claim/cut.py" 568, .int 199 0, .int 2 0, .int 0 0, .int 0 0, .int 3 0, .ref 269, .bool true, .int 181 0, .ref 270, .none, .ref 271, .ref 272, .ref 273, .int 574 0, .int 199 0, .str "/claim/cut.py" 575] }),
  (275, kF 20 "wanted" "Closer.wanted" (.none) "grammarmill.lrzero" 488 274),
  (281, { cls := .type "code", data := .fields #[.str "added" 577, .str "Closer.added" 578, .str "/claim/cut.py" 579, .int 207 0, .int 2 0, .int 0 0, .int 0 0, .int 3 0, .ref 276, .bool true, .int 181 0, .ref 277, .none, .ref 278, .ref 279, .ref 280, .int 586 0, .int 207 0, .str "/claim/cut.py" 587] }),
  (282, kF 21 "added" "Closer.added" (.none) "grammarmill.lrzero" 488 281),
  (288, { cls := .type "code", data := .fields #[.str "close" 589, .str "Closer.close" 590, .str "/claim/cut.py" 591, .int 216 0, .int 2 0, .int 0 0, .int 0 0, .int 3 0, .ref 283, .bool true, .int 181 0, .ref 284, .none, .ref 285, .ref 286, .ref 287, .int 594 0, .int 216 0, .str "/claim/cut.py" 595] }),
  (289, kF 22 "close" "Closer.close" (.none) "grammarmill.lrzero" 488 288),
  (291, { cls := .type "dict", data := .dict #[kE P "__module__" 551 (.str "grammarmill.lrzero" 488), kE P "__firstlineno__" 555 (.int 189 554), kE P "__init__" 565 (.ref 268), kE P "wanted" 576 (.ref 275), kE P "added" 588 (.ref 282), kE P "close" 596 (.ref 289), kE P "__static_attributes__" 599 (.ref 290), kE P "__dict__" 601 (.ref 293), kE P "__weakref__" 603 (.ref 294), kE P "__doc__" 604 (.none)] 4 }),
  (292, { cls := .type "type", data := .cls { name := "Closer", bases := [.type "object"], mro := [.ref 292, .type "object"], ns := 291, qualname := "Closer" }, slots := #[none, none, some (.str "Closer" 544), some (.str "Closer" 552), some (.builtin "object.__new__"), some (.bool true)] }),
  (302, { cls := .type "code", data := .fields #[.str "advanced" 607, .str "advanced" 608, .str "/claim/cut.py" 609, .int 218 0, .int 2 0, .int 0 0, .int 0 0, .int 3 0, .ref 297, .bool true, .int 181 0, .ref 298, .none, .ref 299, .ref 300, .ref 301, .int 612 0, .int 218 0, .str "/claim/cut.py" 613] }),
  (303, kF 23 "advanced" "advanced" (.none) "grammarmill.lrzero" 488 302),
  (309, { cls := .type "code", data := .fields #[.str "kernels_behind" 615, .str "kernels_behind" 616, .str "/claim/cut.py" 617, .int 220 0, .int 2 0, .int 0 0, .int 0 0, .int 3 0, .ref 304, .bool true, .int 181 0, .ref 305, .none, .ref 306, .ref 307, .ref 308, .int 624 0, .int 220 0, .str "/claim/cut.py" 625] }),
  (310, kF 24 "kernels_behind" "kernels_behind" (.none) "grammarmill.lrzero" 488 309),
  (316, { cls := .type "code", data := .fields #[.str "complete_rules" 627, .str "complete_rules" 628, .str "/claim/cut.py" 629, .int 232 0, .int 2 0, .int 0 0, .int 0 0, .int 3 0, .ref 311, .bool true, .int 181 0, .ref 312, .none, .ref 313, .ref 314, .ref 315, .int 634 0, .int 232 0, .str "/claim/cut.py" 635] }),
  (317, kF 25 "complete_rules" "complete_rules" (.none) "grammarmill.lrzero" 488 316),
  (330, { cls := .type "code", data := .fields #[.str "__init__" 649, .str "Automaton.__init__" 650, .str "/claim/cut.py" 651, .int 240 0, .int 3 0, .int 0 0, .int 0 0, .int 3 0, .ref 325, .bool true, .int 181 0, .ref 326, .none, .ref 327, .ref 328, .ref 329, .int 655 0, .int 240 0, .str "/claim/cut.py" 656] }),
  (331, kF 26 "__init__" "Automaton.__init__" (.none) "grammarmill.lrzero" 488 330),
  (368, { cls := .type "dict", data := .dict #[kE P "__module__" 644 (.str "grammarmill.lrzero" 488), kE P "__firstlineno__" 648 (.int 238 647), kE P "__init__" 657 (.ref 331), kE P "goto" 666 (.ref 338), kE P "walk" 677 (.ref 345), kE P "path" 689 (.ref 352), kE P "final_state" 696 (.ref 359), kE P "transition_count" 703 (.ref 366), kE P "__static_attributes__" 706 (.ref 367), kE P "__dict__" 708 (.ref 370), kE P "__weakref__" 710 (.ref 371), kE P "__doc__" 711 (.none)] 4 }),
  (369, { cls := .type "type", data := .cls { name := "Automaton", bases := [.type "object"], mro := [.ref 369, .type "object"], ns := 368, qualname := "Automaton" }, slots := #[none, none, some (.str "Automaton" 637), some (.str "Automaton" 645), some (.builtin "object.__new__"), some (.bool true)] }),
  (386, { cls := .type "code", data := .fields #[.str "__init__" 726, .str "Builder.__init__" 727, .str "/claim/cut.py" 728, .int 271 0, .int 2 0, .int 0 0, .int 0 0, .int 3 0, .ref 381, .bool true, .int 181 0, .ref 382, .none, .ref 383, .ref 384, .ref 385, .int 731 0, .int 271 0, .str "/claim/cut.py" 732] }),
  (387, kF 27 "__init__" "Builder.__init__" (.none) "grammarmill.lrzero" 488 386),
  (393, { cls := .type "code", data := .fields #[.str "number_of" 734, .str "Builder.number_of" 735, .str "/claim/cut.py" 736, .int 277 0, .int 3 0, .int 0 0, .int 0 0, .int 3 0, .ref 388, .bool true, .int 181 0, .ref 389, .none, .ref 390, .ref 391, .ref 392, .int 740 0, .int 277 0, .str "/claim/cut.py" 741] }),
  (394, kF 28 "number_of" "Builder.number_of" (.none) "grammarmill.lrzero" 488 393),
  (400, { cls := .type "code", data := .fields #[.str "expand" 743, .str "Builder.expand" 744, .str "/claim/cut.py" 745, .int 283 0, .int 2 0, .int 0 0, .int 0 0, .int 3 0, .ref 395, .bool true, .int 181 0, .ref 396, .none, .ref 397, .ref 398, .ref 399, .int 750 0, .int 283 0, .str "/claim/cut.py" 751] }),
  (401, kF 29 "expand" "Builder.expand" (.none) "grammarmill.lrzero" 488 400),
  (407, { cls := .type "code", data := .fields #[.str "built" 753, .str "Builder.built" 754, .str "/claim/cut.py" 755, .int 290 0, .int 1 0, .int 0 0, .int 0 0, .int 3 0, .ref 402, .bool true, .int 181 0, .ref 403, .none, .ref 404, .ref 405, .ref 406, .int 758 0, .int 290 0, .str "/claim/cut.py" 759] }),
  (408, kF 30 "built" "Builder.built" (.none) "grammarmill.lrzero" 488 407),
  (410, { cls := .type "dict", data := .dict #[kE P "__module__" 721 (.str "grammarmill.lrzero" 488), kE P "__firstlineno__" 725 (.int 269 724), kE P "__init__" 733 (.ref 387), kE P "number_of" 742 (.ref 394), kE P "expand" 752 (.ref 401), kE P "built" 760 (.ref 408), kE P "__static_attributes__" 765 (.ref 409), kE P "__dict__" 767 (.ref 412), kE P "__weakref__" 769 (.ref 413), kE P "__doc__" 770 (.none)] 4 }),
  (411, { cls := .type "type", data := .cls { name := "Builder", bases := [.type "object"], mro := [.ref 411, .type "object"], ns := 410, qualname := "Builder" }, slots := #[none, none, some (.str "Builder" 714), some (.str "Builder" 722), some (.builtin "object.__new__"), some (.bool true)] }),
  (421, { cls := .type "code", data := .fields #[.str "build" 773, .str "build" 774, .str "/claim/cut.py" 775, .int 297 0, .int 1 0, .int 0 0, .int 0 0, .int 3 0, .ref 416, .bool true, .int 181 0, .ref 417, .none, .ref 418, .ref 419, .ref 420, .int 777 0, .int 297 0, .str "/claim/cut.py" 778] }),
  (422, kF 31 "build" "build" (.none) "grammarmill.lrzero" 488 421),
  (435, { cls := .type "code", data := .fields #[.str "__init__" 794, .str "Path.__init__" 795, .str "/claim/cut.py" 796, .int 302 0, .int 3 0, .int 0 0, .int 0 0, .int 3 0, .ref 430, .bool true, .int 181 0, .ref 431, .none, .ref 432, .ref 433, .ref 434, .int 800 0, .int 302 0, .str "/claim/cut.py" 801] }),
  (436, kF 32 "__init__" "Path.__init__" (.none) "grammarmill.examples" 780 435),
  (438, { cls := .type "dict", data := .dict #[kE P "__module__" 789 (.str "grammarmill.examples" 780), kE P "__firstlineno__" 793 (.int 300 792), kE P "__init__" 802 (.ref 436), kE P "__static_attributes__" 805 (.ref 437), kE P "__dict__" 807 (.ref 440), kE P "__weakref__" 809 (.ref 441), kE P "__doc__" 810 (.none)] 4 }),
  (439, { cls := .type "type", data := .cls { name := "Path", bases := [.type "object"], mro := [.ref 439, .type "object"], ns := 438, qualname := "Path" }, slots := #[none, none, some (.str "Path" 782), some (.str "Path" 790), some (.builtin "object.__new__"), some (.bool true)] }),
  (456, { cls := .type "code", data := .fields #[.str "__init__" 825, .str "Finder.__init__" 826, .str "/claim/cut.py" 827, .int 307 0, .int 2 0, .int 0 0, .int 0 0, .int 3 0, .ref 451, .bool true, .int 181 0, .ref 452, .none, .ref 453, .ref 454, .ref 455, .int 830 0, .int 307 0, .str "/claim/cut.py" 831] }),
  (457, kF 33 "__init__" "Finder.__init__" (.none) "grammarmill.examples" 780 456),
  (499, { cls := .type "code", data := .fields #[.str "opened" 883, .str "Finder.opened" 884, .str "/claim/cut.py" 885, .int 333 0, .int 3 0, .int 0 0, .int 0 0, .int 3 0, .ref 494, .bool true, .int 181 0, .ref 495, .none, .ref 496, .ref 497, .ref 498, .int 899 0, .int 333 0, .str "/claim/cut.py" 900] }),
  (500, kF 34 "opened" "Finder.opened" (.none) "grammarmill.examples" 780 499),
  (506, { cls := .type "code", data := .fields #[.str "suffix" 902, .str "Finder.suffix" 903, .str "/claim/cut.py" 904, .int 356 0, .int 4 0, .int 0 0, .int 0 0, .int 3 0, .ref 501, .bool true, .int 181 0, .ref 502, .none, .ref 503, .ref 504, .ref 505, .int 913 0, .int 356 0, .str "/claim/cut.py" 914] }),
  (507, kF 35 "suffix" "Finder.suffix" (.none) "grammarmill.examples" 780 506),
  (517, { cls := .type "dict", data := .dict #[kE P "__module__" 820 (.str "grammarmill.examples" 780), kE P "__firstlineno__" 824 (.int 305 823), kE P "__init__" 832 (.ref 457), kE P "rest" 841 (.ref 464), kE P "goal" 851 (.ref 471), kE P "steps" 861 (.ref 478), kE P "find" 873 (.ref 486), kE P "path_back" 882 (.ref 493), kE P "opened" 901 (.ref 500), kE P "suffix" 915 (.ref 507), kE P "example" 927 (.ref 515), kE P "__static_attributes__" 932 (.ref 516), kE P "__dict__" 934 (.ref 519), kE P "__weakref__" 936 (.ref 520), kE P "__doc__" 937 (.none)] 4 }),
  (518, { cls := .type "type", data := .cls { name := "Finder", bases := [.type "object"], mro := [.ref 518, .type "object"], ns := 517, qualname := "Finder" }, slots := #[none, none, some (.str "Finder" 813), some (.str "Finder" 821), some (.builtin "object.__new__"), some (.bool true)] }),
  (528, { cls := .type "code", data := .fields #[.str "_law_pen" 942, .str "_law_pen" 943, .str "/claim/cut.py" 944, .int 369 0, .int 1 0, .int 0 0, .int 0 0, .int 3 0, .ref 523, .bool true, .int 181 0, .ref 524, .none, .ref 525, .ref 526, .ref 527, .int 948 0, .int 369 0, .str "/claim/cut.py" 949] }),
  (529, kF 36 "_law_pen" "_law_pen" (.none) "law_pq0576_01" 940 528),
  (535, { cls := .type "code", data := .fields #[.str "_law_draw" 951, .str "_law_draw" 952, .str "/claim/cut.py" 953, .int 374 0, .int 2 0, .int 0 0, .int 0 0, .int 3 0, .ref 530, .bool true, .int 181 0, .ref 531, .none, .ref 532, .ref 533, .ref 534, .int 957 0, .int 374 0, .str "/claim/cut.py" 958] }),
  (536, kF 37 "_law_draw" "_law_draw" (.none) "law_pq0576_01" 940 535),
  (540, { cls := .type "code", data := .fields #[.str "_law_right" 960, .str "_law_right" 961, .str "/claim/cut.py" 962, .int 381 0, .int 2 0, .int 0 0, .int 0 0, .int 3 0, .ref 537, .bool true, .int 181 0, .ref 538, .none, .none, .none, .ref 539, .int 963 0, .int 381 0, .str "/claim/cut.py" 964] }),
  (541, kF 38 "_law_right" "_law_right" (.none) "law_pq0576_01" 940 540),
  (547, { cls := .type "code", data := .fields #[.str "_law_pairs" 966, .str "_law_pairs" 967, .str "/claim/cut.py" 968, .int 383 0, .int 1 0, .int 0 0, .int 0 0, .int 3 0, .ref 542, .bool true, .int 181 0, .ref 543, .none, .ref 544, .ref 545, .ref 546, .int 974 0, .int 383 0, .str "/claim/cut.py" 975] }),
  (548, kF 39 "_law_pairs" "_law_pairs" (.none) "law_pq0576_01" 940 547),
  (552, { cls := .type "code", data := .fields #[.str "_law_empty" 977, .str "_law_empty" 978, .str "/claim/cut.py" 979, .int 392 0, .int 1 0, .int 0 0, .int 0 0, .int 3 0, .ref 549, .bool true, .int 181 0, .ref 550, .none, .none, .none, .ref 551, .int 980 0, .int 392 0, .str "/claim/cut.py" 981] }),
  (553, kF 40 "_law_empty" "_law_empty" (.none) "law_pq0576_01" 940 552),
  (557, { cls := .type "code", data := .fields #[.str "_law_ends" 983, .str "_law_ends" 984, .str "/claim/cut.py" 985, .int 399 0, .int 2 0, .int 0 0, .int 0 0, .int 3 0, .ref 554, .bool true, .int 181 0, .ref 555, .none, .none, .none, .ref 556, .int 986 0, .int 399 0, .str "/claim/cut.py" 987] }),
  (558, kF 41 "_law_ends" "_law_ends" (.none) "law_pq0576_01" 940 557),
  (564, { cls := .type "code", data := .fields #[.str "_law_derives" 989, .str "_law_derives" 990, .str "/claim/cut.py" 991, .int 421 0, .int 3 0, .int 0 0, .int 0 0, .int 3 0, .ref 559, .bool true, .int 181 0, .ref 560, .none, .ref 561, .ref 562, .ref 563, .int 995 0, .int 421 0, .str "/claim/cut.py" 996] }),
  (565, kF 42 "_law_derives" "_law_derives" (.none) "law_pq0576_01" 940 564),
  (571, { cls := .type "code", data := .fields #[.str "_law_heads" 998, .str "_law_heads" 999, .str "/claim/cut.py" 1000, .int 425 0, .int 2 0, .int 0 0, .int 0 0, .int 3 0, .ref 566, .bool true, .int 181 0, .ref 567, .none, .ref 568, .ref 569, .ref 570, .int 1009 0, .int 425 0, .str "/claim/cut.py" 1010] }),
  (572, kF 43 "_law_heads" "_law_heads" (.none) "law_pq0576_01" 940 571),
  (576, { cls := .type "code", data := .fields #[.str "_law_suffix_fits" 1012, .str "_law_suffix_fits" 1013, .str "/claim/cut.py" 1014, .int 436 0, .int 5 0, .int 0 0, .int 0 0, .int 3 0, .ref 573, .bool true, .int 181 0, .ref 574, .none, .none, .none, .ref 575, .int 1015 0, .int 436 0, .str "/claim/cut.py" 1016] }),
  (577, kF 44 "_law_suffix_fits" "_law_suffix_fits" (.none) "law_pq0576_01" 940 576),
  (581, { cls := .type "code", data := .fields #[.str "law" 1018, .str "law" 1019, .str "/claim/cut.py" 1020, .int 445 0, .int 1 0, .int 0 0, .int 0 0, .int 3 0, .ref 578, .bool true, .int 181 0, .ref 579, .none, .none, .none, .ref 580, .int 1021 0, .int 445 0, .str "/claim/cut.py" 1022] }),
  (582, kF 45 "law" "law" (.none) "law_pq0576_01" 940 581)]
def hA : List Addr := [3, 67, 68, 69, 77, 83, 84, 86, 87, 102, 103, 109, 110, 116, 117, 130, 131, 137, 138, 144, 145, 151, 152, 158, 159, 165, 166, 168, 169, 179, 180, 181, 185, 186, 190, 191, 197, 198, 204, 205, 211, 212, 218, 219, 232, 233, 249, 250, 267, 268, 274, 275, 281, 282, 288, 289, 291, 292, 302, 303, 309, 310, 316, 317, 330, 331, 368, 369, 386, 387, 393, 394, 400, 401, 407, 408, 410, 411, 421, 422, 435, 436, 438, 439, 456, 457, 499, 500, 506, 507, 517, 518, 528, 529, 535, 536, 540, 541, 547, 548, 552, 553, 557, 558, 564, 565, 571, 572, 576, 577, 581, 582]
end Mine
end
section
set_option autoImplicit false
set_option Elab.async false
set_option maxRecDepth 100000
set_option maxHeartbeats 0
open PySem PySem.W PyProof.Rows
namespace Mine
abbrev pw : Program := PySem.Challenge.pw_pq0576_01
/-- the run of the top over a tree of objects -/
def topRunG (stp : SharedT → Thread → Option (SharedT × Thread)) (ok : Thread → Bool) : Nat → SharedT → Thread → Option SharedT
  | 0, _, _ => none
  | n + 1, s, t => match through t with
    | true => some s
    | false => match ok t with
      | false => none
      | true => match stp s t with
        | some (s', t') => topRunG stp ok n s' t'
        | none => none
theorem topRunG_spec {tb : String → Option Builtin} {p : Program} {w : World} {n₀ : Nat} {ann : Option Value} : ∀ {n : Nat} {s r : SharedT} {t : Thread}, topRunG (stepT (denote tb) p w) (stepOk n₀ ann) n s t = some r → topRun tb p w n₀ ann n s.abs t = some r.abs
  | 0, _, _, _, h => by cases h
  | n + 1, s, r, t, h => by
    unfold topRunG at h
    unfold topRun
    cases he : through t with
    | true => rw [he] at h; cases h; rfl
    | false =>
      rw [he] at h
      cases hk : stepOk n₀ ann t with
      | false => rw [hk] at h; cases h
      | true =>
        rw [hk] at h
        cases hs : stepT (denote tb) p w s t with
        | none => rw [hs] at h; cases h
        | some q => obtain ⟨s₂, t₂⟩ := q; rw [hs] at h; rw [stepT_spec hs]; exact topRunG_spec h
noncomputable def bootT (P : Params) : BT := ((((((((((BT.nil.ins 0 (boot_o_0 P)).ins 1 (boot_o_1 P)).ins 2 (boot_o_2 P)).ins 3 (boot_o_3 P)).ins 4 (boot_o_4 P)).ins 5 (boot_o_5 P)).ins 6 (boot_o_6 P)).ins 7 (boot_o_7 P)).ins 8 (boot_o_8 P)).ins 9 (boot_o_9 P)).ins 10 (boot_o_10 P)
noncomputable def S0 (w : World) (os : OsState) : SharedT := ⟨bootT w.params, 11, {}, #[], boot_drawn, boot_toks, os⟩
theorem S0_abs (w : World) (os : OsState) : (S0 w os).abs = ⟨boot_heap w.params, #[], boot_drawn, boot_toks, os⟩ := by kernel_rfl
/-- the text, cut to the law alone -/
def qv : Program := { pw with main := { pw.main with body := pw.main.body.drop 41 } }
def looseN : List Str := (["_wall", "ToolError", "GrammarError", "bits", "END", "OWN_TERMINALS", "Rule", "Grammar", "last_terminal", "plain_grammar", "spread", "nullable", "first_of", "first_masks", "transitive", "NONE", "LrState", "Closer", "advanced", "kernels_behind", "complete_rules", "Automaton", "Builder", "build", "Path", "Finder", "_law_pen", "_law_draw", "_law_right", "_law_pairs", "_law_empty", "_law_ends", "_law_derives", "_law_heads", "_law_suffix_fits"] : List String).map Str.ofString
noncomputable abbrev rowR : RowW := PySem.Challenge.rw_pq0576_01.row.toRowW
noncomputable def hHook : Hook := kHook hK hA (fun _ => by kernel_rfl)
noncomputable def Xt0 (s : Shared) : Bool := xlAt qv [] s && recOk rowR.records s
theorem bsz1 (w : World) : ((boot_heap w.params).isNs mainGlobals && (Array.mk [] : Array GenState).size == 0) = true := by kernel_rfl
theorem bsz2 (w : World) : (boot_heap w.params).objs.size = 11 := by kernel_rfl
theorem bsz3 (w : World) : (boot_heap w.params).nsMap mainGlobals "__annotations__" = some (.ref 6) := by kernel_rfl
theorem op0 : ∀ w : World, (fencedOpening treeTable pw w 8304).map (fun s => (s.heap, s.gens, s.drawn, s.toks)) = some (boot_heap w.params, Array.mk [], boot_drawn, boot_toks) := boot_open rfl rfl (fun _ => rfl)
theorem left_of {p q : Program} {loose : List Str} {Xt : Shared → Bool} {α : Type} {Yf : Shared → α} {Ya : World → α} {N m₀ : Nat} {ann : Option Value} {gs₀ : Array GenState} {H₀ : Params → Heap} {d₀ : Drawn} {k₀ : Nat}
    (open_ : ∀ w : World, (fencedOpening treeTable p w N).map (fun s => (s.heap, s.gens, s.drawn, s.toks)) = some (H₀ w.params, gs₀, d₀, k₀))
    (z1 : ∀ w : World, ((H₀ w.params).isNs mainGlobals && gs₀.size == 0) = true)
    (z2 : ∀ w : World, (H₀ w.params).objs.size = m₀)
    (z3 : ∀ w : World, (H₀ w.params).nsMap mainGlobals "__annotations__" = ann)
    (S : World → OsState → SharedT) (hS : ∀ w os, (S w os).abs = ⟨H₀ w.params, gs₀, d₀, k₀, os⟩)
    (core : ∀ (w : World) (os : OsState), (topRunG (stepT (denote treeTable) p w) (stepOk m₀ ann) N (S w os) (topStub p)).map
      (fun r => ((staticsOk (importedModules p.main.body) (H₀ w.params) r.abs.heap && namesBound p r.abs.heap && gensDone r.abs && laidKept (H₀ w.params) r.abs.heap), openSeen q loose (importedModules p.main.body) Xt true r.abs, Yf r.abs)) = some (true, openGood q loose, Ya w)) :
    LeftO p q loose Xt Yf Ya N true := fun w => by
  obtain ⟨⟨h, gs, d, k, os⟩, e, e'⟩ := Option.map_eq_some_iff.mp (open_ w)
  obtain ⟨rfl, rfl, rfl, rfl⟩ : h = H₀ w.params ∧ gs = gs₀ ∧ d = d₀ ∧ k = k₀ := by simpa using e'
  obtain ⟨r, hr, hr'⟩ := Option.map_eq_some_iff.mp (core w os)
  obtain ⟨l1, l2, l3⟩ : _ ∧ _ ∧ _ := by simpa only [Prod.mk.injEq] using hr'
  have t0 := topRunG_spec hr
  rw [hS] at t0
  have t : topFrom treeTable p w N ⟨H₀ w.params, gs, d, k, os⟩ = some r.abs := by
    unfold topFrom
    dsimp only
    rw [z1, z2, z3, t0]
    show (match staticsOk (importedModules p.main.body) (H₀ w.params) r.abs.heap && namesBound p r.abs.heap && gensDone r.abs && laidKept (H₀ w.params) r.abs.heap with | true => _ | false => _) = _
    rw [l1]
  unfold openEnds
  rw [e]
  show (topFrom treeTable p w N _).map _ = _
  rw [t]
  exact congrArg some (Prod.ext l2 l3)
theorem core : ∀ (w : World) (os : OsState), (topRunG (PySem.W.Fast.tw10156331382660048174 (PySem.W.Fast.tw11892475500146522536 PySem.W.Fast.tw14364793385576792824) pw w) (PySem.W.Fast.tw6613529449190102663 11 (some (.ref 6))) 8304 (S0 w os) (topStub pw)).map
    (fun r => ((staticsOk (importedModules pw.main.body) (boot_heap w.params) r.abs.heap && namesBound pw r.abs.heap && gensDone r.abs && laidKept (boot_heap w.params) r.abs.heap), PySem.W.Fast.tw4187177175401517315 qv looseN (importedModules pw.main.body) Xt0 true r.abs, Hook.obs hHook r.abs)) = some (true, openGood qv looseN, Hook.val hHook w) := fun w os => by kernel_rfl
theorem left : LeftO pw qv looseN Xt0 (Hook.obs hHook) (Hook.val hHook) 8304 true := left_of op0 bsz1 bsz2 bsz3 S0 S0_abs fun w os => by
  have h := core w os
  rw [← PySem.W.Fast.te10156331382660048174, ← PySem.W.Fast.te11892475500146522536, ← PySem.W.Fast.te14364793385576792824, ← PySem.W.Fast.te6613529449190102663, ← PySem.W.Fast.te4187177175401517315] at h
  exact h
noncomputable abbrev rwp : Program := PySem.Challenge.rw_pq0576_01.row.prog
theorem bare0 : (["vars", "dir", "locals"] : List Str).filter (readsOut rwp rwp.main.body) = [] := by kernel_rfl
theorem road : noRoadLSs { strict := !(importedModules rwp.main.body).all cThrough.contains, foot := none, bare := [] } rwp.main.body = true := by kernel_rfl
theorem resolve : namesResolve rwp = true := by kernel_rfl
theorem meet : (namesMeet rwp rwp.main.body fun _ n => attrL n) = true := by kernel_rfl
theorem looked : ((moduleNames rwp.main.body).isEmpty || lookedIntoSs (moduleNames rwp.main.body) rwp.main.body) = true := by kernel_rfl
theorem looks : looksOpen rwp = true := look_both (look_both (look_both (look_both (look_both (by kernel_rfl) looked) resolve) (by kernel_rfl)) (by rw [bare0]; exact road)) meet
theorem part : PySem.Challenge.rw_pq0576_01.row.partSaid = true := look_both (look_both (look_both (look_both (look_both (look_both (look_both (look_both (look_both (look_both (look_both (look_both (look_both looks (by kernel_rfl)) (by kernel_rfl)) (by kernel_rfl)) (by kernel_rfl)) (by kernel_rfl)) (by kernel_rfl)) (by kernel_rfl)) (by kernel_rfl)) (by kernel_rfl)) (by kernel_rfl)) (by kernel_rfl)) (by kernel_rfl)) (by kernel_rfl)
theorem rowSaid : PySem.Challenge.rw_pq0576_01.row.wellSaid = true := look_both (look_both part (by kernel_rfl)) (by kernel_rfl)
theorem said : PySem.Challenge.rw_pq0576_01.wellSaid = true := look_both (look_both (look_both (look_both (look_both (look_both (look_both (look_both (look_both (look_both (look_both (look_both (look_both (look_both (look_both (look_both (look_both (look_both rowSaid (by kernel_rfl)) (by kernel_rfl)) (by kernel_rfl)) (by kernel_rfl)) (by kernel_rfl)) (by kernel_rfl)) (by kernel_rfl)) (by kernel_rfl)) (by kernel_rfl)) (by kernel_rfl)) (by kernel_rfl)) (by kernel_rfl)) (by kernel_rfl)) (by kernel_rfl)) (by kernel_rfl)) (by kernel_rfl)) (by kernel_rfl)) (by kernel_rfl)
end Mine
end
section
open PySem PySem.W PyProof.Rows PySem.Calls
set_option Elab.async false
set_option maxRecDepth 100000
set_option maxHeartbeats 2000000
namespace Mine
noncomputable def fdAt (K : Frag) (a : Addr) : Option FuncData := match K.lookup a with | some ⟨_, _, .func fd, _⟩ => some fd | _ => none
noncomputable def fdOf (K : Frag) (a : Addr) : FuncData := (fdAt K a).getD default
noncomputable def codeOK (K : Frag) (fd : FuncData) : Bool := match fd.code with
  | .ref c => (match K.lookup c with
    | some ⟨_, _, .fields vs, _⟩ => (match (vs[1]? : Option Value) with
      | some (.str q _) => q == fd.qualname
      | _ => false)
    | _ => false)
  | _ => false
noncomputable def chkFd (K : Frag) (fd : FuncData) : Bool := fd.closure.isEmpty && fd.globals == mainGlobals && fd.builtins == builtinsNs && !fd.scope.isCoroutine && !fd.scope.isGenerator && (fd.scope.kind == .function) && decide ((fd.scope.names.map (·.1)).Nodup) && (fd.scope.names.all fun p => p.2 != .free) && codeOK K fd
noncomputable def bnd (K : Frag) (a : Addr) (Vs : List Value) : Sem (List (Str × Value)) := bindArgs (fdOf K a) ⟨Vs, []⟩
noncomputable def bndZ (K : Frag) (a : Addr) (Vs : List Value) : List (Str × Value) := (slotsOf (fdOf K a).scope.names).zip Vs
noncomputable def dfl (K : Frag) (T : Addr) : Array Value := match K.lookup T with | some ⟨_, _, .seq items _, _⟩ => items | _ => #[]
noncomputable def isSeq (K : Frag) (T : Addr) : Bool := match K.lookup T with | some ⟨_, _, .seq _ _, _⟩ => true | _ => false
theorem dfl_at {K : Frag} {h : Heap} {T : Addr} (X : K.In h) (e : isSeq K T = true) : ∃ o n, h.get? T = some o ∧ o.data = .seq (dfl K T) n := by
  unfold isSeq at e
  unfold dfl
  split at e
  · rename_i q
    exact ⟨_, _, X _ _ q, rfl⟩
  · cases e

theorem fdAt_of {K : Frag} {a : Addr} (h : (fdAt K a).isSome = true) : ∃ c d sl, K.lookup a = some ⟨c, d, .func (fdOf K a), sl⟩ := by
  unfold fdOf
  unfold fdAt at h ⊢
  split at h
  · rename_i q
    simp only [Option.getD_some]
    exact ⟨_, _, _, q⟩
  · cases h
theorem chk_of {K : Frag} {fd : FuncData} {h : Heap} (X : K.In h) (e : chkFd K fd = true) : fd.closure = [] ∧ fd.globals = mainGlobals ∧ fd.builtins = builtinsNs ∧ fd.scope.isCoroutine = false ∧ fd.scope.isGenerator = false ∧ fd.scope.kind = .function ∧ (fd.scope.names.map (·.1)).Nodup ∧ (∀ p ∈ fd.scope.names, p.2 ≠ .free) ∧ h.CodeRec fd.code fd.qualname := by
  unfold chkFd at e
  simp only [Bool.and_eq_true, Bool.not_eq_true', decide_eq_true_eq, List.all_eq_true, bne_iff_ne, ne_eq, List.isEmpty_iff, beq_iff_eq] at e
  obtain ⟨⟨⟨⟨⟨⟨⟨⟨e1, e2⟩, e3⟩, e4⟩, e5⟩, e6⟩, e7⟩, e8⟩, e9⟩ := e
  refine ⟨e1, e2, e3, e4, e5, by simpa using e6, e7, fun p hp => e8 p hp, ?_⟩
  unfold codeOK at e9
  split at e9
  · rename_i c hc
    split at e9
    · rename_i vs _ hl
      split at e9
      · rename_i q t hv
        have : q = fd.qualname := by simpa using e9
        exact ⟨c, _, vs, t, hc, X _ _ hl, rfl, by rw [hv, this]⟩
      · cases e9
    · cases e9
  · cases e9

theorem forall_of {K : Frag} {C : Addr} {l : List Nat} (h : (l.all fun a => findIn K (.ref C) (aOf a) == some none) = true) : ∀ a ∈ l, findIn K (.ref C) (aOf a) = some none := fun a ha => by
  have := List.all_eq_true.mp h a ha
  simpa using this

theorem look_mem {a k : Nat} : ∀ {l : List (Nat × Nat)}, l.lookup a = some k → (a, k) ∈ l
  | [], h => nomatch h
  | (x, y) :: r, h => by
    rw [List.lookup_cons] at h
    cases hx : a == x with
    | true => rw [hx] at h; cases h; rw [eq_of_beq hx]; exact .head _
    | false => rw [hx] at h; exact .tail _ (look_mem h)
theorem meth_of {K : Frag} {C : Addr} {l : List (Nat × Nat)} {a k : Nat} {f : Addr} (h : (l.all fun p => findIn K (.ref C) (aOf p.1) == (fnAddrs[p.2]?).map fun f => some (.ref f)) = true) (h1 : l.lookup a = some k) (h2 : fnAddrs[k]? = some f) : findIn K (.ref C) (aOf a) = some (some (.ref f)) := by
  have := List.all_eq_true.mp h (a, k) (look_mem h1)
  rw [h2] at this
  simpa using this

/-- P of all lists of n values -/
noncomputable def LenAll : Nat → (List Value → Prop) → Prop
  | 0, P => P []
  | n + 1, P => ∀ v, LenAll n fun l => P (v :: l)
theorem LenAll.get : ∀ {n : Nat} {P : List Value → Prop}, LenAll n P → ∀ l, l.length = n → P l
  | 0, _, h, [], _ => h
  | _ + 1, _, h, v :: l, e => LenAll.get (h v) l (Nat.succ.inj e)
noncomputable def LenTo : Nat → Nat → (List Value → Prop) → Prop
  | m, 0, P => True ∧ LenAll m P
  | m, n + 1, P => LenTo m n P ∧ LenAll (m + (n + 1)) P
theorem LenTo.get : ∀ {m n : Nat} {P : List Value → Prop}, LenTo m n P → ∀ l, m ≤ l.length → l.length ≤ m + n → P l
  | _, 0, _, h, l, e1, e2 => h.2.get l (Nat.le_antisymm e2 e1)
  | m, n + 1, _, h, l, e1, e2 => by
    by_cases q : l.length = m + (n + 1)
    · exact h.2.get l q
    · exact LenTo.get h.1 l e1 (by lia)
noncomputable def AllTo : Nat → (Nat → Prop) → Prop
  | 0, _ => True
  | n + 1, P => AllTo n P ∧ P n
theorem AllTo.get : ∀ {n : Nat} {P : Nat → Prop}, AllTo n P → ∀ k, k < n → P k
  | n + 1, _, h, k, e => by
    by_cases q : k = n
    · exact q ▸ h.2
    · exact AllTo.get h.1 k (by lia)
noncomputable def AllM {α : Type} : List α → (α → Prop) → Prop
  | [], _ => True
  | a :: l, P => P a ∧ AllM l P
theorem AllM.get {α : Type} {P : α → Prop} : ∀ {l : List α}, AllM l P → ∀ a ∈ l, P a
  | _ :: _, h, _, .head _ => h.1
  | _ :: _, h, _, .tail _ q => AllM.get h.2 _ q
noncomputable def fnChk (K : Frag) (k a m nd : Nat) : Bool := (fdAt K a).isSome && chkFd K (fdOf K a) && ((fnOfDef (dOf' k)).np == m) && ((fnOfDef (dOf' k)).dflts.length == nd)
theorem fnOK_plain {prog : Program} {w : World} {base : Heap} {K : Frag} (X : K.In base) {k a m : Nat} (h1 : fnChk K k a m 0 = true) (h3 : (fdOf K a).scope = (dOf' k).2.2) (h4 : (fdOf K a).body = .stmts (dOf' k).2.1)
    (hb : LenAll m fun Vs => bnd K a Vs = pure (bndZ K a Vs)) : FnOK prog w base (fnOfDef (dOf' k)) a := by
  obtain ⟨h1, h6⟩ := Bool.and_eq_true_iff.mp h1
  obtain ⟨h1, h5⟩ := Bool.and_eq_true_iff.mp h1
  obtain ⟨h1, h2⟩ := Bool.and_eq_true_iff.mp h1
  obtain ⟨c, d, sl, hl⟩ := fdAt_of h1
  obtain ⟨e1, e2, e3, e4, e5, e6, e7, e8, e9⟩ := chk_of X h2
  have h6' : (fnOfDef (dOf' k)).dflts = [] := List.eq_nil_of_length_eq_zero (eq_of_beq h6)
  refine ⟨fdOf K a, _, (dOf' k).2.1, X _ _ hl, rfl, e9, h4, e1, e2, e3, e4, e5, e6, e7, e8, by rw [h3]; rfl, by rw [h3]; rfl, fun args vs Vs φ s hv _ rs _ => ?_⟩
  obtain ⟨rfl, q1, q2, _, _⟩ := args_ok hv
  have h5 := eq_of_beq h5
  rw [h6', h5] at q2
  rw [h5] at q1
  rw [h6']
  exact ⟨Vs, by rw [List.drop_nil, List.append_nil]; exact rs, BindsTo.of_eq (hb.get Vs (rs.length ▸ Nat.le_antisymm q1 q2))⟩

theorem fnOK_dflt {prog : Program} {w : World} {base : Heap} {K : Frag} (X : K.In base) {k a m nd T : Nat} (h1 : fnChk K k a m nd = true) (h3 : (fdOf K a).scope = (dOf' k).2.2) (h4 : (fdOf K a).body = .stmts (dOf' k).2.1)
    (h7 : (isSeq K T && ((dfl K T).toList.length == nd) && decide (nd ≤ m)) = true)
    (hv0 : ∀ {φ : Phi} {h : Heap}, VRs φ h (fnOfDef (dOf' k)).dflts (dfl K T).toList)
    (hb : ∀ {s : Shared} {o : Obj} {n : Nat}, s.heap.get? T = some o → o.data = .seq (dfl K T) n → LenTo (m - nd) nd fun Vs => BindsTo s (fdOf K a) ⟨Vs, []⟩ ((slotsOf (fdOf K a).scope.names).zip (Vs ++ (dfl K T).toList.drop (nd - (m - Vs.length))))) : FnOK prog w base (fnOfDef (dOf' k)) a := by
  obtain ⟨h1, h6⟩ := Bool.and_eq_true_iff.mp h1
  obtain ⟨h1, h5⟩ := Bool.and_eq_true_iff.mp h1
  obtain ⟨h1, h2⟩ := Bool.and_eq_true_iff.mp h1
  obtain ⟨h7, h9⟩ := Bool.and_eq_true_iff.mp h7
  obtain ⟨h7, h8⟩ := Bool.and_eq_true_iff.mp h7
  have h9 := of_decide_eq_true h9
  obtain ⟨c, d, sl, hl⟩ := fdAt_of h1
  obtain ⟨e1, e2, e3, e4, e5, e6, e7, e8, e9⟩ := chk_of X h2
  refine ⟨fdOf K a, _, (dOf' k).2.1, X _ _ hl, rfl, e9, h4, e1, e2, e3, e4, e5, e6, e7, e8, by rw [h3]; rfl, by rw [h3]; rfl, fun args vs Vs φ s hv lo rs _ => ?_⟩
  obtain ⟨rfl, q1, q2, _, _⟩ := args_ok hv
  have h5 := eq_of_beq h5
  have h6 := eq_of_beq h6
  rw [h6, h5] at q2
  rw [h5] at q1
  rw [h5, h6]
  obtain ⟨o, n, ho, hs⟩ := dfl_at (X.keeps lo) h7
  have hl := rs.length
  refine ⟨Vs ++ (dfl K T).toList.drop (nd - (m - Vs.length)), ?_, (hb ho hs).get Vs (by lia) (by lia)⟩
  rw [hl]
  exact rs.append (hv0.drop _)

noncomputable def FnGood (prog : Program) (w : World) (base : Heap) (k : Nat) : Prop := ∀ (fn : Fn) (a : Addr), theFn k = some fn → fnAddrs[k]? = some a → FnOK prog w base fn a
theorem fn_end {prog : Program} {w : World} {base : Heap} {k : Nat} {a' : Addr} (h : theFn k = some (fnOfDef (dOf' k))) (e : fnAddrs[k]? = some a') (r : FnOK prog w base (fnOfDef (dOf' k)) a') : FnGood prog w base k := fun fn a hf ha => by
  rw [h] at hf; cases hf
  rw [e] at ha; cases ha
  exact r

noncomputable def clsChk (K : Frag) (c : Nat) (C : Addr) : Bool := plainGet K C "" && hasDictIn K C && ((fieldsOf c).all fun a => findIn K (.ref C) (aOf a) == some none) && (findIn K (.ref C) "__setattr__" == some (some (.builtin "object.__setattr__"))) && plainOver K C && makesIn K C && keepIn K (.ref C) &&
  ((initFn c).all fun k => (fnAddrs[k]?).all fun f => findIn K (.ref C) "__init__" == some (some (.ref f))) && ((methTab c).all fun p => findIn K (.ref C) (aOf p.1) == (fnAddrs[p.2]?).map fun f => some (.ref f))
theorem clsF_of {K : Frag} (hk : ((List.range 8).all fun c => (clsAddrs[c]?).all (clsChk K c)) = true) {c : Nat} {C : Addr} (h : clsAddrs[c]? = some C) : ClsF K c C := by
  have hc := List.all_eq_true.mp hk c (List.mem_range.mpr (List.getElem?_eq_some_iff.mp h).1)
  rw [h] at hc
  obtain ⟨hc, h9⟩ := Bool.and_eq_true_iff.mp (show clsChk K c C = true from hc)
  obtain ⟨hc, h8⟩ := Bool.and_eq_true_iff.mp hc
  obtain ⟨hc, h7⟩ := Bool.and_eq_true_iff.mp hc
  obtain ⟨hc, h6⟩ := Bool.and_eq_true_iff.mp hc
  obtain ⟨hc, h5⟩ := Bool.and_eq_true_iff.mp hc
  obtain ⟨hc, h4⟩ := Bool.and_eq_true_iff.mp hc
  obtain ⟨hc, h3⟩ := Bool.and_eq_true_iff.mp hc
  obtain ⟨h1, h2⟩ := Bool.and_eq_true_iff.mp hc
  refine ⟨h1, h2, forall_of h3, by simpa using h4, h5, h6, fun k f q1 q2 => ?_, fun a k f q1 q2 => meth_of h9 q1 q2, h7⟩
  rw [q1] at h8
  have h8 : ((fnAddrs[k]?).all fun f => findIn K (.ref C) "__init__" == some (some (.ref f))) = true := h8
  rw [q2] at h8
  exact by simpa using h8

noncomputable def GlobOK (K : Frag) (base : Heap) (x : String) (av : AV) : Prop :=
  (∃ V, nsIn K mainGlobals (Str.ofString x) = some (some V) ∧ VR [] base av V) ∨ (∃ V, nsIn K mainGlobals (Str.ofString x) = some none ∧ bootBuiltins (Str.ofString x) = some V ∧ VR [] base av V)

theorem glob_fn {K : Frag} {base : Heap} {x : String} {k : Nat} {a : Addr} (h : nsIn K mainGlobals (Str.ofString x) = some (some (.ref a))) (e : fnAddrs[k]? = some a) : GlobOK K base x (.fn k) := .inl ⟨_, h, a, e, rfl⟩
theorem glob_cls {K : Frag} {base : Heap} {x : String} {k : Nat} {a : Addr} (h : nsIn K mainGlobals (Str.ofString x) = some (some (.ref a))) (e : clsAddrs[k]? = some a) : GlobOK K base x (.cls k) := .inl ⟨_, h, a, e, rfl⟩
theorem glob_bi {K : Frag} {base : Heap} {x : String} {b : BI} (h : nsIn K mainGlobals (Str.ofString x) = some none) (e : bootBuiltins (Str.ofString x) = some (biV b)) : GlobOK K base x (.bi b) := .inr ⟨_, h, e, rfl⟩
theorem own_terminals {w : World} {base : Heap} (X : (hK w.params).In base) : VR [] base (.tup [.str 3, .str 4, .str 5]) (.ref 69) :=
  ⟨by rw [lid_eq]; decide, 69, [.str (sOf 3) 264, .str (sOf 4) 265, .str (sOf 5) 266], rfl, X _ _ (by kernel_rfl), by simp [adrs], _, _, rfl, ⟨by decide, _, rfl⟩, _, _, rfl, ⟨by decide, _, rfl⟩, _, _, rfl, ⟨by decide, _, rfl⟩, rfl⟩
theorem dv_rule {w : World} {φ : Phi} {h : Heap} : VRs φ h (fnOfDef (dOf' 1)).dflts (dfl (hK w.params) 77).toList := by
  have e1 : (fnOfDef (dOf' 1)).dflts = [.int (-1), .none, .int 0, .int 0] := by kernel_rfl
  have e2 : (dfl (hK w.params) 77).toList = [.int (-1) 281, .none, .int 0 282, .int 0 283] := by kernel_rfl
  rw [e1, e2]
  exact ⟨_, _, rfl, ⟨_, rfl⟩, _, _, rfl, rfl, _, _, rfl, ⟨_, rfl⟩, _, _, rfl, ⟨_, rfl⟩, rfl⟩
theorem dv_plain {w : World} {φ : Phi} {h : Heap} : VRs φ h (fnOfDef (dOf' 12)).dflts (dfl (hK w.params) 181).toList := by
  have e1 : (fnOfDef (dOf' 12)).dflts = [.none] := by kernel_rfl
  have e2 : (dfl (hK w.params) 181).toList = [.none] := by kernel_rfl
  rw [e1, e2]
  exact ⟨_, _, rfl, rfl, rfl⟩
/-! printed from here on -/
theorem fnok_0 {prog : Program} {w : World} {base : Heap} (X : (hK w.params).In base) : FnOK prog w base (fnOfDef (dOf' 0)) 68 :=
  fnOK_plain (m := 1) X (by kernel_rfl) (by kernel_rfl) (by kernel_rfl) (fun V0 => (by kernel_rfl : bnd (hK w.params) 68 [V0] = pure (bndZ (hK w.params) 68 [V0])))
theorem fnok_1 {prog : Program} {w : World} {base : Heap} (X : (hK w.params).In base) : FnOK prog w base (fnOfDef (dOf' 1)) 84 :=
  fnOK_dflt (T := 77) (m := 8) (nd := 4) X (by kernel_rfl) (by kernel_rfl) (by kernel_rfl) (by kernel_rfl) dv_rule fun ho hs =>
    ⟨⟨⟨⟨⟨True.intro,
    fun V0 V1 V2 V3 => (BindsTo.of_defaults (T := 77) (by kernel_rfl) ho hs rfl (by kernel_rfl) : BindsTo _ (fdOf (hK w.params) 84) ⟨[V0, V1, V2, V3], []⟩ ((slotsOf (fdOf (hK w.params) 84).scope.names).zip ([V0, V1, V2, V3] ++ (dfl (hK w.params) 77).toList.drop (4 - (8 - 4)))))⟩,
    fun V0 V1 V2 V3 V4 => (BindsTo.of_defaults (T := 77) (by kernel_rfl) ho hs rfl (by kernel_rfl) : BindsTo _ (fdOf (hK w.params) 84) ⟨[V0, V1, V2, V3, V4], []⟩ ((slotsOf (fdOf (hK w.params) 84).scope.names).zip ([V0, V1, V2, V3, V4] ++ (dfl (hK w.params) 77).toList.drop (4 - (8 - 5)))))⟩,
    fun V0 V1 V2 V3 V4 V5 => (BindsTo.of_defaults (T := 77) (by kernel_rfl) ho hs rfl (by kernel_rfl) : BindsTo _ (fdOf (hK w.params) 84) ⟨[V0, V1, V2, V3, V4, V5], []⟩ ((slotsOf (fdOf (hK w.params) 84).scope.names).zip ([V0, V1, V2, V3, V4, V5] ++ (dfl (hK w.params) 77).toList.drop (4 - (8 - 6)))))⟩,
    fun V0 V1 V2 V3 V4 V5 V6 => (BindsTo.of_defaults (T := 77) (by kernel_rfl) ho hs rfl (by kernel_rfl) : BindsTo _ (fdOf (hK w.params) 84) ⟨[V0, V1, V2, V3, V4, V5, V6], []⟩ ((slotsOf (fdOf (hK w.params) 84).scope.names).zip ([V0, V1, V2, V3, V4, V5, V6] ++ (dfl (hK w.params) 77).toList.drop (4 - (8 - 7)))))⟩,
    fun V0 V1 V2 V3 V4 V5 V6 V7 => (BindsTo.of_defaults (T := 77) (by kernel_rfl) ho hs rfl (by kernel_rfl) : BindsTo _ (fdOf (hK w.params) 84) ⟨[V0, V1, V2, V3, V4, V5, V6, V7], []⟩ ((slotsOf (fdOf (hK w.params) 84).scope.names).zip ([V0, V1, V2, V3, V4, V5, V6, V7] ++ (dfl (hK w.params) 77).toList.drop (4 - (8 - 8)))))⟩
theorem fnok_2 {prog : Program} {w : World} {base : Heap} (X : (hK w.params).In base) : FnOK prog w base (fnOfDef (dOf' 2)) 103 :=
  fnOK_plain (m := 7) X (by kernel_rfl) (by kernel_rfl) (by kernel_rfl) (fun V0 V1 V2 V3 V4 V5 V6 => (by kernel_rfl : bnd (hK w.params) 103 [V0, V1, V2, V3, V4, V5, V6] = pure (bndZ (hK w.params) 103 [V0, V1, V2, V3, V4, V5, V6])))
theorem fnok_3 {prog : Program} {w : World} {base : Heap} (X : (hK w.params).In base) : FnOK prog w base (fnOfDef (dOf' 3)) 110 :=
  fnOK_plain (m := 1) X (by kernel_rfl) (by kernel_rfl) (by kernel_rfl) (fun V0 => (by kernel_rfl : bnd (hK w.params) 110 [V0] = pure (bndZ (hK w.params) 110 [V0])))
theorem fnok_4 {prog : Program} {w : World} {base : Heap} (X : (hK w.params).In base) : FnOK prog w base (fnOfDef (dOf' 4)) 117 :=
  fnOK_plain (m := 2) X (by kernel_rfl) (by kernel_rfl) (by kernel_rfl) (fun V0 V1 => (by kernel_rfl : bnd (hK w.params) 117 [V0, V1] = pure (bndZ (hK w.params) 117 [V0, V1])))
theorem fnok_5 {prog : Program} {w : World} {base : Heap} (X : (hK w.params).In base) : FnOK prog w base (fnOfDef (dOf' 5)) 131 :=
  fnOK_plain (m := 2) X (by kernel_rfl) (by kernel_rfl) (by kernel_rfl) (fun V0 V1 => (by kernel_rfl : bnd (hK w.params) 131 [V0, V1] = pure (bndZ (hK w.params) 131 [V0, V1])))
theorem fnok_6 {prog : Program} {w : World} {base : Heap} (X : (hK w.params).In base) : FnOK prog w base (fnOfDef (dOf' 6)) 138 :=
  fnOK_plain (m := 2) X (by kernel_rfl) (by kernel_rfl) (by kernel_rfl) (fun V0 V1 => (by kernel_rfl : bnd (hK w.params) 138 [V0, V1] = pure (bndZ (hK w.params) 138 [V0, V1])))
theorem fnok_7 {prog : Program} {w : World} {base : Heap} (X : (hK w.params).In base) : FnOK prog w base (fnOfDef (dOf' 7)) 145 :=
  fnOK_plain (m := 3) X (by kernel_rfl) (by kernel_rfl) (by kernel_rfl) (fun V0 V1 V2 => (by kernel_rfl : bnd (hK w.params) 145 [V0, V1, V2] = pure (bndZ (hK w.params) 145 [V0, V1, V2])))
theorem fnok_8 {prog : Program} {w : World} {base : Heap} (X : (hK w.params).In base) : FnOK prog w base (fnOfDef (dOf' 8)) 152 :=
  fnOK_plain (m := 2) X (by kernel_rfl) (by kernel_rfl) (by kernel_rfl) (fun V0 V1 => (by kernel_rfl : bnd (hK w.params) 152 [V0, V1] = pure (bndZ (hK w.params) 152 [V0, V1])))
theorem fnok_9 {prog : Program} {w : World} {base : Heap} (X : (hK w.params).In base) : FnOK prog w base (fnOfDef (dOf' 9)) 159 :=
  fnOK_plain (m := 2) X (by kernel_rfl) (by kernel_rfl) (by kernel_rfl) (fun V0 V1 => (by kernel_rfl : bnd (hK w.params) 159 [V0, V1] = pure (bndZ (hK w.params) 159 [V0, V1])))
theorem fnok_10 {prog : Program} {w : World} {base : Heap} (X : (hK w.params).In base) : FnOK prog w base (fnOfDef (dOf' 10)) 166 :=
  fnOK_plain (m := 2) X (by kernel_rfl) (by kernel_rfl) (by kernel_rfl) (fun V0 V1 => (by kernel_rfl : bnd (hK w.params) 166 [V0, V1] = pure (bndZ (hK w.params) 166 [V0, V1])))
theorem fnok_11 {prog : Program} {w : World} {base : Heap} (X : (hK w.params).In base) : FnOK prog w base (fnOfDef (dOf' 11)) 180 :=
  fnOK_plain (m := 2) X (by kernel_rfl) (by kernel_rfl) (by kernel_rfl) (fun V0 V1 => (by kernel_rfl : bnd (hK w.params) 180 [V0, V1] = pure (bndZ (hK w.params) 180 [V0, V1])))
theorem fnok_12 {prog : Program} {w : World} {base : Heap} (X : (hK w.params).In base) : FnOK prog w base (fnOfDef (dOf' 12)) 186 :=
  fnOK_dflt (T := 181) (m := 2) (nd := 1) X (by kernel_rfl) (by kernel_rfl) (by kernel_rfl) (by kernel_rfl) dv_plain fun ho hs =>
    ⟨⟨True.intro,
    fun V0 => (BindsTo.of_defaults (T := 181) (by kernel_rfl) ho hs rfl (by kernel_rfl) : BindsTo _ (fdOf (hK w.params) 186) ⟨[V0], []⟩ ((slotsOf (fdOf (hK w.params) 186).scope.names).zip ([V0] ++ (dfl (hK w.params) 181).toList.drop (1 - (2 - 1)))))⟩,
    fun V0 V1 => (BindsTo.of_defaults (T := 181) (by kernel_rfl) ho hs rfl (by kernel_rfl) : BindsTo _ (fdOf (hK w.params) 186) ⟨[V0, V1], []⟩ ((slotsOf (fdOf (hK w.params) 186).scope.names).zip ([V0, V1] ++ (dfl (hK w.params) 181).toList.drop (1 - (2 - 2)))))⟩
theorem fnok_13 {prog : Program} {w : World} {base : Heap} (X : (hK w.params).In base) : FnOK prog w base (fnOfDef (dOf' 13)) 191 :=
  fnOK_plain (m := 2) X (by kernel_rfl) (by kernel_rfl) (by kernel_rfl) (fun V0 V1 => (by kernel_rfl : bnd (hK w.params) 191 [V0, V1] = pure (bndZ (hK w.params) 191 [V0, V1])))
theorem fnok_14 {prog : Program} {w : World} {base : Heap} (X : (hK w.params).In base) : FnOK prog w base (fnOfDef (dOf' 14)) 198 :=
  fnOK_plain (m := 1) X (by kernel_rfl) (by kernel_rfl) (by kernel_rfl) (fun V0 => (by kernel_rfl : bnd (hK w.params) 198 [V0] = pure (bndZ (hK w.params) 198 [V0])))
theorem fnok_15 {prog : Program} {w : World} {base : Heap} (X : (hK w.params).In base) : FnOK prog w base (fnOfDef (dOf' 15)) 205 :=
  fnOK_plain (m := 3) X (by kernel_rfl) (by kernel_rfl) (by kernel_rfl) (fun V0 V1 V2 => (by kernel_rfl : bnd (hK w.params) 205 [V0, V1, V2] = pure (bndZ (hK w.params) 205 [V0, V1, V2])))
theorem fnok_16 {prog : Program} {w : World} {base : Heap} (X : (hK w.params).In base) : FnOK prog w base (fnOfDef (dOf' 16)) 212 :=
  fnOK_plain (m := 1) X (by kernel_rfl) (by kernel_rfl) (by kernel_rfl) (fun V0 => (by kernel_rfl : bnd (hK w.params) 212 [V0] = pure (bndZ (hK w.params) 212 [V0])))
theorem fnok_17 {prog : Program} {w : World} {base : Heap} (X : (hK w.params).In base) : FnOK prog w base (fnOfDef (dOf' 17)) 219 :=
  fnOK_plain (m := 1) X (by kernel_rfl) (by kernel_rfl) (by kernel_rfl) (fun V0 => (by kernel_rfl : bnd (hK w.params) 219 [V0] = pure (bndZ (hK w.params) 219 [V0])))
theorem fnok_18 {prog : Program} {w : World} {base : Heap} (X : (hK w.params).In base) : FnOK prog w base (fnOfDef (dOf' 18)) 233 :=
  fnOK_plain (m := 4) X (by kernel_rfl) (by kernel_rfl) (by kernel_rfl) (fun V0 V1 V2 V3 => (by kernel_rfl : bnd (hK w.params) 233 [V0, V1, V2, V3] = pure (bndZ (hK w.params) 233 [V0, V1, V2, V3])))
theorem fnok_19 {prog : Program} {w : World} {base : Heap} (X : (hK w.params).In base) : FnOK prog w base (fnOfDef (dOf' 19)) 268 :=
  fnOK_plain (m := 2) X (by kernel_rfl) (by kernel_rfl) (by kernel_rfl) (fun V0 V1 => (by kernel_rfl : bnd (hK w.params) 268 [V0, V1] = pure (bndZ (hK w.params) 268 [V0, V1])))
theorem fnok_20 {prog : Program} {w : World} {base : Heap} (X : (hK w.params).In base) : FnOK prog w base (fnOfDef (dOf' 20)) 275 :=
  fnOK_plain (m := 2) X (by kernel_rfl) (by kernel_rfl) (by kernel_rfl) (fun V0 V1 => (by kernel_rfl : bnd (hK w.params) 275 [V0, V1] = pure (bndZ (hK w.params) 275 [V0, V1])))
theorem fnok_21 {prog : Program} {w : World} {base : Heap} (X : (hK w.params).In base) : FnOK prog w base (fnOfDef (dOf' 21)) 282 :=
  fnOK_plain (m := 2) X (by kernel_rfl) (by kernel_rfl) (by kernel_rfl) (fun V0 V1 => (by kernel_rfl : bnd (hK w.params) 282 [V0, V1] = pure (bndZ (hK w.params) 282 [V0, V1])))
theorem fnok_22 {prog : Program} {w : World} {base : Heap} (X : (hK w.params).In base) : FnOK prog w base (fnOfDef (dOf' 22)) 289 :=
  fnOK_plain (m := 2) X (by kernel_rfl) (by kernel_rfl) (by kernel_rfl) (fun V0 V1 => (by kernel_rfl : bnd (hK w.params) 289 [V0, V1] = pure (bndZ (hK w.params) 289 [V0, V1])))
theorem fnok_23 {prog : Program} {w : World} {base : Heap} (X : (hK w.params).In base) : FnOK prog w base (fnOfDef (dOf' 23)) 303 :=
  fnOK_plain (m := 2) X (by kernel_rfl) (by kernel_rfl) (by kernel_rfl) (fun V0 V1 => (by kernel_rfl : bnd (hK w.params) 303 [V0, V1] = pure (bndZ (hK w.params) 303 [V0, V1])))
theorem fnok_24 {prog : Program} {w : World} {base : Heap} (X : (hK w.params).In base) : FnOK prog w base (fnOfDef (dOf' 24)) 310 :=
  fnOK_plain (m := 2) X (by kernel_rfl) (by kernel_rfl) (by kernel_rfl) (fun V0 V1 => (by kernel_rfl : bnd (hK w.params) 310 [V0, V1] = pure (bndZ (hK w.params) 310 [V0, V1])))
theorem fnok_25 {prog : Program} {w : World} {base : Heap} (X : (hK w.params).In base) : FnOK prog w base (fnOfDef (dOf' 25)) 317 :=
  fnOK_plain (m := 2) X (by kernel_rfl) (by kernel_rfl) (by kernel_rfl) (fun V0 V1 => (by kernel_rfl : bnd (hK w.params) 317 [V0, V1] = pure (bndZ (hK w.params) 317 [V0, V1])))
theorem fnok_26 {prog : Program} {w : World} {base : Heap} (X : (hK w.params).In base) : FnOK prog w base (fnOfDef (dOf' 26)) 331 :=
  fnOK_plain (m := 3) X (by kernel_rfl) (by kernel_rfl) (by kernel_rfl) (fun V0 V1 V2 => (by kernel_rfl : bnd (hK w.params) 331 [V0, V1, V2] = pure (bndZ (hK w.params) 331 [V0, V1, V2])))
theorem fnok_27 {prog : Program} {w : World} {base : Heap} (X : (hK w.params).In base) : FnOK prog w base (fnOfDef (dOf' 27)) 387 :=
  fnOK_plain (m := 2) X (by kernel_rfl) (by kernel_rfl) (by kernel_rfl) (fun V0 V1 => (by kernel_rfl : bnd (hK w.params) 387 [V0, V1] = pure (bndZ (hK w.params) 387 [V0, V1])))
theorem fnok_28 {prog : Program} {w : World} {base : Heap} (X : (hK w.params).In base) : FnOK prog w base (fnOfDef (dOf' 28)) 394 :=
  fnOK_plain (m := 3) X (by kernel_rfl) (by kernel_rfl) (by kernel_rfl) (fun V0 V1 V2 => (by kernel_rfl : bnd (hK w.params) 394 [V0, V1, V2] = pure (bndZ (hK w.params) 394 [V0, V1, V2])))
theorem fnok_29 {prog : Program} {w : World} {base : Heap} (X : (hK w.params).In base) : FnOK prog w base (fnOfDef (dOf' 29)) 401 :=
  fnOK_plain (m := 2) X (by kernel_rfl) (by kernel_rfl) (by kernel_rfl) (fun V0 V1 => (by kernel_rfl : bnd (hK w.params) 401 [V0, V1] = pure (bndZ (hK w.params) 401 [V0, V1])))
theorem fnok_30 {prog : Program} {w : World} {base : Heap} (X : (hK w.params).In base) : FnOK prog w base (fnOfDef (dOf' 30)) 408 :=
  fnOK_plain (m := 1) X (by kernel_rfl) (by kernel_rfl) (by kernel_rfl) (fun V0 => (by kernel_rfl : bnd (hK w.params) 408 [V0] = pure (bndZ (hK w.params) 408 [V0])))
theorem fnok_31 {prog : Program} {w : World} {base : Heap} (X : (hK w.params).In base) : FnOK prog w base (fnOfDef (dOf' 31)) 422 :=
  fnOK_plain (m := 1) X (by kernel_rfl) (by kernel_rfl) (by kernel_rfl) (fun V0 => (by kernel_rfl : bnd (hK w.params) 422 [V0] = pure (bndZ (hK w.params) 422 [V0])))
theorem fnok_32 {prog : Program} {w : World} {base : Heap} (X : (hK w.params).In base) : FnOK prog w base (fnOfDef (dOf' 32)) 436 :=
  fnOK_plain (m := 3) X (by kernel_rfl) (by kernel_rfl) (by kernel_rfl) (fun V0 V1 V2 => (by kernel_rfl : bnd (hK w.params) 436 [V0, V1, V2] = pure (bndZ (hK w.params) 436 [V0, V1, V2])))
theorem fnok_33 {prog : Program} {w : World} {base : Heap} (X : (hK w.params).In base) : FnOK prog w base (fnOfDef (dOf' 33)) 457 :=
  fnOK_plain (m := 2) X (by kernel_rfl) (by kernel_rfl) (by kernel_rfl) (fun V0 V1 => (by kernel_rfl : bnd (hK w.params) 457 [V0, V1] = pure (bndZ (hK w.params) 457 [V0, V1])))
theorem fnok_34 {prog : Program} {w : World} {base : Heap} (X : (hK w.params).In base) : FnOK prog w base (fnOfDef (dOf' 34)) 500 :=
  fnOK_plain (m := 3) X (by kernel_rfl) (by kernel_rfl) (by kernel_rfl) (fun V0 V1 V2 => (by kernel_rfl : bnd (hK w.params) 500 [V0, V1, V2] = pure (bndZ (hK w.params) 500 [V0, V1, V2])))
theorem fnok_35 {prog : Program} {w : World} {base : Heap} (X : (hK w.params).In base) : FnOK prog w base (fnOfDef (dOf' 35)) 507 :=
  fnOK_plain (m := 4) X (by kernel_rfl) (by kernel_rfl) (by kernel_rfl) (fun V0 V1 V2 V3 => (by kernel_rfl : bnd (hK w.params) 507 [V0, V1, V2, V3] = pure (bndZ (hK w.params) 507 [V0, V1, V2, V3])))
theorem fnok_36 {prog : Program} {w : World} {base : Heap} (X : (hK w.params).In base) : FnOK prog w base (fnOfDef (dOf' 36)) 529 :=
  fnOK_plain (m := 1) X (by kernel_rfl) (by kernel_rfl) (by kernel_rfl) (fun V0 => (by kernel_rfl : bnd (hK w.params) 529 [V0] = pure (bndZ (hK w.params) 529 [V0])))
theorem fnok_37 {prog : Program} {w : World} {base : Heap} (X : (hK w.params).In base) : FnOK prog w base (fnOfDef (dOf' 37)) 536 :=
  fnOK_plain (m := 2) X (by kernel_rfl) (by kernel_rfl) (by kernel_rfl) (fun V0 V1 => (by kernel_rfl : bnd (hK w.params) 536 [V0, V1] = pure (bndZ (hK w.params) 536 [V0, V1])))
theorem fnok_38 {prog : Program} {w : World} {base : Heap} (X : (hK w.params).In base) : FnOK prog w base (fnOfDef (dOf' 38)) 541 :=
  fnOK_plain (m := 2) X (by kernel_rfl) (by kernel_rfl) (by kernel_rfl) (fun V0 V1 => (by kernel_rfl : bnd (hK w.params) 541 [V0, V1] = pure (bndZ (hK w.params) 541 [V0, V1])))
theorem fnok_39 {prog : Program} {w : World} {base : Heap} (X : (hK w.params).In base) : FnOK prog w base (fnOfDef (dOf' 39)) 548 :=
  fnOK_plain (m := 1) X (by kernel_rfl) (by kernel_rfl) (by kernel_rfl) (fun V0 => (by kernel_rfl : bnd (hK w.params) 548 [V0] = pure (bndZ (hK w.params) 548 [V0])))
theorem fnok_40 {prog : Program} {w : World} {base : Heap} (X : (hK w.params).In base) : FnOK prog w base (fnOfDef (dOf' 40)) 553 :=
  fnOK_plain (m := 1) X (by kernel_rfl) (by kernel_rfl) (by kernel_rfl) (fun V0 => (by kernel_rfl : bnd (hK w.params) 553 [V0] = pure (bndZ (hK w.params) 553 [V0])))
theorem fnok_41 {prog : Program} {w : World} {base : Heap} (X : (hK w.params).In base) : FnOK prog w base (fnOfDef (dOf' 41)) 558 :=
  fnOK_plain (m := 2) X (by kernel_rfl) (by kernel_rfl) (by kernel_rfl) (fun V0 V1 => (by kernel_rfl : bnd (hK w.params) 558 [V0, V1] = pure (bndZ (hK w.params) 558 [V0, V1])))
theorem fnok_42 {prog : Program} {w : World} {base : Heap} (X : (hK w.params).In base) : FnOK prog w base (fnOfDef (dOf' 42)) 565 :=
  fnOK_plain (m := 3) X (by kernel_rfl) (by kernel_rfl) (by kernel_rfl) (fun V0 V1 V2 => (by kernel_rfl : bnd (hK w.params) 565 [V0, V1, V2] = pure (bndZ (hK w.params) 565 [V0, V1, V2])))
theorem fnok_43 {prog : Program} {w : World} {base : Heap} (X : (hK w.params).In base) : FnOK prog w base (fnOfDef (dOf' 43)) 572 :=
  fnOK_plain (m := 2) X (by kernel_rfl) (by kernel_rfl) (by kernel_rfl) (fun V0 V1 => (by kernel_rfl : bnd (hK w.params) 572 [V0, V1] = pure (bndZ (hK w.params) 572 [V0, V1])))
theorem fnok_44 {prog : Program} {w : World} {base : Heap} (X : (hK w.params).In base) : FnOK prog w base (fnOfDef (dOf' 44)) 577 :=
  fnOK_plain (m := 5) X (by kernel_rfl) (by kernel_rfl) (by kernel_rfl) (fun V0 V1 V2 V3 V4 => (by kernel_rfl : bnd (hK w.params) 577 [V0, V1, V2, V3, V4] = pure (bndZ (hK w.params) 577 [V0, V1, V2, V3, V4])))
theorem fnok_45 {prog : Program} {w : World} {base : Heap} (X : (hK w.params).In base) : FnOK prog w base (fnOfDef (dOf' 45)) 582 :=
  fnOK_plain (m := 1) X (by kernel_rfl) (by kernel_rfl) (by kernel_rfl) (fun V0 => (by kernel_rfl : bnd (hK w.params) 582 [V0] = pure (bndZ (hK w.params) 582 [V0])))
theorem fns_all {prog : Program} {w : World} {base : Heap} (X : (hK w.params).In base) (k : Nat) (fn : Fn) (a : Addr) (hf : theFn k = some fn) (ha : fnAddrs[k]? = some a) : FnOK prog w base fn a :=
  AllTo.get (P := FnGood prog w base) (n := 46) ⟨⟨⟨⟨⟨⟨⟨⟨⟨⟨⟨⟨⟨⟨⟨⟨⟨⟨⟨⟨⟨⟨⟨⟨⟨⟨⟨⟨⟨⟨⟨⟨⟨⟨⟨⟨⟨⟨⟨⟨⟨⟨⟨⟨⟨⟨True.intro, fn_end (by kernel_rfl) rfl (fnok_0 X)⟩, fn_end (by kernel_rfl) rfl (fnok_1 X)⟩, fn_end (by kernel_rfl) rfl (fnok_2 X)⟩, fn_end (by kernel_rfl) rfl (fnok_3 X)⟩, fn_end (by kernel_rfl) rfl (fnok_4 X)⟩, fn_end (by kernel_rfl) rfl (fnok_5 X)⟩, fn_end (by kernel_rfl) rfl (fnok_6 X)⟩, fn_end (by kernel_rfl) rfl (fnok_7 X)⟩, fn_end (by kernel_rfl) rfl (fnok_8 X)⟩, fn_end (by kernel_rfl) rfl (fnok_9 X)⟩, fn_end (by kernel_rfl) rfl (fnok_10 X)⟩, fn_end (by kernel_rfl) rfl (fnok_11 X)⟩, fn_end (by kernel_rfl) rfl (fnok_12 X)⟩, fn_end (by kernel_rfl) rfl (fnok_13 X)⟩, fn_end (by kernel_rfl) rfl (fnok_14 X)⟩, fn_end (by kernel_rfl) rfl (fnok_15 X)⟩, fn_end (by kernel_rfl) rfl (fnok_16 X)⟩, fn_end (by kernel_rfl) rfl (fnok_17 X)⟩, fn_end (by kernel_rfl) rfl (fnok_18 X)⟩, fn_end (by kernel_rfl) rfl (fnok_19 X)⟩, fn_end (by kernel_rfl) rfl (fnok_20 X)⟩, fn_end (by kernel_rfl) rfl (fnok_21 X)⟩, fn_end (by kernel_rfl) rfl (fnok_22 X)⟩, fn_end (by kernel_rfl) rfl (fnok_23 X)⟩, fn_end (by kernel_rfl) rfl (fnok_24 X)⟩, fn_end (by kernel_rfl) rfl (fnok_25 X)⟩, fn_end (by kernel_rfl) rfl (fnok_26 X)⟩, fn_end (by kernel_rfl) rfl (fnok_27 X)⟩, fn_end (by kernel_rfl) rfl (fnok_28 X)⟩, fn_end (by kernel_rfl) rfl (fnok_29 X)⟩, fn_end (by kernel_rfl) rfl (fnok_30 X)⟩, fn_end (by kernel_rfl) rfl (fnok_31 X)⟩, fn_end (by kernel_rfl) rfl (fnok_32 X)⟩, fn_end (by kernel_rfl) rfl (fnok_33 X)⟩, fn_end (by kernel_rfl) rfl (fnok_34 X)⟩, fn_end (by kernel_rfl) rfl (fnok_35 X)⟩, fn_end (by kernel_rfl) rfl (fnok_36 X)⟩, fn_end (by kernel_rfl) rfl (fnok_37 X)⟩, fn_end (by kernel_rfl) rfl (fnok_38 X)⟩, fn_end (by kernel_rfl) rfl (fnok_39 X)⟩, fn_end (by kernel_rfl) rfl (fnok_40 X)⟩, fn_end (by kernel_rfl) rfl (fnok_41 X)⟩, fn_end (by kernel_rfl) rfl (fnok_42 X)⟩, fn_end (by kernel_rfl) rfl (fnok_43 X)⟩, fn_end (by kernel_rfl) rfl (fnok_44 X)⟩, fn_end (by kernel_rfl) rfl (fnok_45 X)⟩ k (List.getElem?_eq_some_iff.mp ha).1 fn a hf ha
theorem cls_chk (w : World) : ((List.range 8).all fun c => (clsAddrs[c]?).all (clsChk (hK w.params) c)) = true := by kernel_rfl
theorem cls_all (w : World) (c : Nat) (C : Addr) (h : clsAddrs[c]? = some C) : ClsF (hK w.params) c C := clsF_of (cls_chk w) h
theorem keep_chk (w : World) : (fnAddrs.all fun a => keepIn (hK w.params) (.ref a) && typeIn (hK w.params) (.ref a) == some (.type "function")) = true := by kernel_rfl
theorem keep_all (w : World) (k : Nat) (a : Addr) (h : fnAddrs[k]? = some a) : keepIn (hK w.params) (.ref a) = true ∧ typeIn (hK w.params) (.ref a) = some (.type "function") := by
  obtain ⟨h1, h2⟩ := Bool.and_eq_true_iff.mp (List.all_eq_true.mp (keep_chk w) a (List.mem_of_getElem? h))
  exact ⟨h1, by simpa using h2⟩
noncomputable def gTab : List (String × AV) := [("bits", .fn 0), ("last_terminal", .fn 11), ("plain_grammar", .fn 12), ("spread", .fn 13), ("nullable", .fn 14), ("first_of", .fn 15), ("first_masks", .fn 16), ("transitive", .fn 17), ("advanced", .fn 23), ("kernels_behind", .fn 24), ("complete_rules", .fn 25), ("build", .fn 31), ("_law_pen", .fn 36), ("_law_draw", .fn 37), ("_law_right", .fn 38), ("_law_pairs", .fn 39), ("_law_empty", .fn 40), ("_law_ends", .fn 41), ("_law_derives", .fn 42), ("_law_heads", .fn 43), ("_law_suffix_fits", .fn 44), ("law", .fn 45), ("Rule", .cls 0), ("Grammar", .cls 1), ("LrState", .cls 2), ("Closer", .cls 3), ("Automaton", .cls 4), ("Builder", .cls 5), ("Path", .cls 6), ("Finder", .cls 7), ("END", .int 0), ("NONE", .int (-1)), ("OWN_TERMINALS", .tup [.str 3, .str 4, .str 5]), ("len", .bi .len), ("range", .bi .range), ("abs", .bi .abs), ("list", .bi .list), ("tuple", .bi .tuple), ("sorted", .bi .sorted), ("isinstance", .bi .isinst)]
theorem globTab_eq : globTab = gTab := by kernel_rfl
theorem glob_all (w : World) {base : Heap} (X : (hK w.params).In base) : ∀ p ∈ globTab, GlobOK (hK w.params) base p.1 p.2 := by
  rw [globTab_eq]
  exact (show AllM gTab (fun p => GlobOK (hK w.params) base p.1 p.2) from ⟨glob_fn (a := 68) (by kernel_rfl) rfl, glob_fn (a := 180) (by kernel_rfl) rfl, glob_fn (a := 186) (by kernel_rfl) rfl, glob_fn (a := 191) (by kernel_rfl) rfl, glob_fn (a := 198) (by kernel_rfl) rfl, glob_fn (a := 205) (by kernel_rfl) rfl, glob_fn (a := 212) (by kernel_rfl) rfl, glob_fn (a := 219) (by kernel_rfl) rfl, glob_fn (a := 303) (by kernel_rfl) rfl, glob_fn (a := 310) (by kernel_rfl) rfl, glob_fn (a := 317) (by kernel_rfl) rfl, glob_fn (a := 422) (by kernel_rfl) rfl, glob_fn (a := 529) (by kernel_rfl) rfl, glob_fn (a := 536) (by kernel_rfl) rfl, glob_fn (a := 541) (by kernel_rfl) rfl, glob_fn (a := 548) (by kernel_rfl) rfl, glob_fn (a := 553) (by kernel_rfl) rfl, glob_fn (a := 558) (by kernel_rfl) rfl, glob_fn (a := 565) (by kernel_rfl) rfl, glob_fn (a := 572) (by kernel_rfl) rfl, glob_fn (a := 577) (by kernel_rfl) rfl, glob_fn (a := 582) (by kernel_rfl) rfl, glob_cls (a := 87) (by kernel_rfl) rfl, glob_cls (a := 169) (by kernel_rfl) rfl, glob_cls (a := 250) (by kernel_rfl) rfl, glob_cls (a := 292) (by kernel_rfl) rfl, glob_cls (a := 369) (by kernel_rfl) rfl, glob_cls (a := 411) (by kernel_rfl) rfl, glob_cls (a := 439) (by kernel_rfl) rfl, glob_cls (a := 518) (by kernel_rfl) rfl, .inl ⟨.int 0 262, by kernel_rfl, ⟨_, rfl⟩⟩, .inl ⟨.int (-1) 491, by kernel_rfl, ⟨_, rfl⟩⟩, .inl ⟨.ref 69, by kernel_rfl, own_terminals X⟩, glob_bi (by kernel_rfl) (by kernel_rfl), glob_bi (by kernel_rfl) (by kernel_rfl), glob_bi (by kernel_rfl) (by kernel_rfl), glob_bi (by kernel_rfl) (by kernel_rfl), glob_bi (by kernel_rfl) (by kernel_rfl), glob_bi (by kernel_rfl) (by kernel_rfl), glob_bi (by kernel_rfl) (by kernel_rfl), True.intro⟩).get
end Mine
end
section
open PySem PySem.W PyProof.Rows PySem.Calls
set_option Elab.async false
set_option maxRecDepth 100000
set_option maxHeartbeats 8000000
namespace Mine
theorem topN_of {prog : Program} {w : World} {base : Heap} {mg mb : Str → Option Value} (X : (hK w.params).In base) (hsys : (base.get? sysModules).isSome = true) (hg : base.Ns mainGlobals mg) (hb : base.Ns builtinsNs mb) (hbb : ∀ x : Str, x ≠ "__name__" → mb x = bootBuiltins x) : TopN prog w base := by
  refine ⟨hsys, fun x av h => ?_⟩
  unfold globOf at h
  obtain ⟨p, hp, rfl⟩ := Option.map_eq_some_iff.mp h
  have hm := List.mem_of_find?_eq_some hp
  have he : Str.ofString p.1 = x := by have := List.find?_some hp; simpa using this
  subst he
  rcases glob_all w X p hm with ⟨V, e, r⟩ | ⟨V, e, eb, r⟩
  · refine ⟨V, r, fun {A E s env pos Q} lo hk hgl hbi hx hno q => ?_⟩
    obtain ⟨n1, _⟩ := Bool.and_eq_true_iff.mp hno
    exact Name_function_global hk hx (loadGlobal_global (env := env) (show s.heap.Ns env.globals mg from hgl ▸ hg.keeps lo) (mg_of X hg e) q) (by simpa using n1)
  · refine ⟨V, r, fun {A E s env pos Q} lo hk hgl hbi hx hno q => ?_⟩
    obtain ⟨n1, _⟩ := Bool.and_eq_true_iff.mp hno
    have hn : Str.ofString p.1 ≠ "__name__" := fun z => by
      rw [z] at e
      have : nsIn (hK w.params) mainGlobals "__name__" = some (some (.str ⟨#[108, 97, 119, 95, 112, 113, 48, 53, 55, 54, 95, 48, 49]⟩ 940)) := by kernel_rfl
      rw [this] at e
      cases e
    exact Name_function_global hk hx (loadGlobal_builtin (env := env) (show s.heap.Ns env.globals mg from hgl ▸ hg.keeps lo) (mg_none_of X hg e) (show s.heap.Ns env.builtins mb from hbi ▸ hb.keeps lo) ((hbb _ hn).trans eb) q) (by simpa using n1)

theorem topC_of {prog : Program} {w : World} {base : Heap} {mg mb : Str → Option Value} (X : (hK w.params).In base) (hsys : (base.get? sysModules).isSome = true) (hg : base.Ns mainGlobals mg) (hb : base.Ns builtinsNs mb) (hbb : ∀ x : Str, x ≠ "__name__" → mb x = bootBuiltins x) (hl : base.NoLimit) : TopC prog w base theFn :=
  { topN_of X hsys hg hb hbb with
    ex := ⟨_, X, cls_all w, keep_all w⟩
    fns := fns_all X
    lim := hl }

theorem WR.start {prog : Program} {w : World} {h : Heap} : WR prog w h [] [] h :=
  ⟨rfl, List.nodup_nil, fun n ao p e _ => by simp at e, fun _ _ e => e, fun a q => by simp [adrs] at q⟩

/-- the law, by what the small interpreter says of it -/
theorem law_of {prog : Program} {w : World} {s₁ : Shared} {mg mb : Str → Option Value} {l : Addr} {vs : List Value} {ns : List Int} {R : Result → Shared → Prop} {N : Nat} (X : (hK w.params).In s₁.heap) (hsys : (s₁.heap.get? sysModules).isSome = true) (hg : s₁.heap.Ns mainGlobals mg) (hb : s₁.heap.Ns builtinsNs mb)
    (hbb : ∀ x : Str, x ≠ "__name__" → mb x = bootBuiltins x) (hlim : s₁.heap.NoLimit) (hL : s₁.heap.IsList l vs.toArray) (hI : IntsAre vs ns) (g : Good callerA N) (he : (mi theFn N).call (.fn 45) [.fl ns] [] fun _ v => v = .bool true)
    (hR : ∀ h' tk, (∀ b o, s₁.heap.get? b = some o → h'.get? b = some o) → R (.ok (.ret (.bool true))) { s₁ with heap := h', toks := tk }) : codeAny (model prog w) callerA (.call (.ref 582) ⟨[.ref l], []⟩) R s₁ := by
  have T : TopC prog w s₁.heap theFn := topC_of X hsys hg hb hbb hlim
  refine (sound_mi T N).f g he (by rfl) (φ := []) ⟨.ref l, [], rfl, ⟨l, vs, rfl, hL, hI, by simp [adrs]⟩, rfl⟩ WR.start fun φ' h' tk V v H' S W r e => ?_
  have e : v = .bool true := e
  subst e
  have r' : V = .bool true := r
  subst r'
  exact hR h' tk W.low
end Mine
open Mine in
theorem Mine.law_end (hlaw : ∀ ns : List Int, ns.length ≤ 63 → (Mine.mi Mine.theFn 200).call (.fn 45) [.fl ns] [] fun _ v => v = .bool true) : PySem.Challenge.rw_pq0576_01.Holds := by
  w_on
  refine holds_law said fun said => ?_
  refine holds_open (q := qv) (loose := looseN) (Xt := Xt0) (XP := XL qv []) (Yf := Hook.obs hHook) (Ya := Hook.val hHook) (YP := Hook.says hHook) (N := 8304) left (Hook.of hHook) (Hook.keeps hHook) (fun s e => xl_of s (Bool.and_eq_true_iff.mp e).1) XL.keeps (by rfl) (by rfl) (by rfl) (fun s e => recFacts_of (Bool.and_eq_true_iff.mp e).2) (by rfl) (by first | assumption | decide +kernel) (by decide +kernel) ⟨rfl, rfl, rfl, rfl, rfl, by decide +kernel⟩ ?hw ?hc
  case hw => w_witness2
  intro w s₀ s₁ mg mb G Y fa o pm cd doc dV kV ho hd hcd hD hmg hg args vals as hpre hlay hrd hwl hlo
  have KX := kIn_of Y
  have X := (Ground.X G).1
  have V := (Ground.X G).2
  try w_nolog (first | (have GL := glob_more (Ground.glob G (by decide +kernel) (by decide +kernel)) V) | (have GL := glob_more (Ground.glob G (by decide +kernel)) V))
  refine Ground.open G ?_
  intro T B D TE TW
  try (refine guard_noD D (by decide +kernel) ?_; clear D)
  obtain ⟨_, _, M⟩ := bmod_of_top T
  have TA := at_of_top T
  have hfa : fa = 582 := by
    have e1 := mg_of KX T.g (n := Str.ofString "law") (v := .ref 582) (by kernel_rfl)
    have e2 : some (Value.ref fa) = some (.ref 582) := hmg.symm.trans e1
    cases e2; rfl
  subst hfa
  try (obtain ⟨_, _, he, B0⟩ := based_of_top T rfl hmg ho hd; have he' : cd = _ := he; subst he'; clear he)
  clear hmg
  have hseer := T.seer (by first | rfl | decide +kernel | kernel_rfl)
  wrow_args hpre hlay hrd hwl hlo
  all_goals (
    first | refine callC_kw (enter_call ?_) | refine enter_call ?_ | refine callC_kw (enter_callW ?_) | refine enter_callW ?_ | w_how)
  w_top on
  try refine codeAny_mono ?_ (fun _ _ g => GoodW.toG g)
  rename_i ns hs hlay0 hL1 hr1 hl2 as1 as2 l vs as3 hL ra w1 r0 hI hr hc1 hc2
  have hlen : ns.length ≤ 63 := by omega
  have he := hlaw ns hlen
  obtain ⟨mm, ⟨om, es, ep, gm, _⟩, _⟩ := hseer.mods
  refine Mine.law_of KX (by rw [gm]; rfl) T.g T.b T.builtins T.nolimit hL hI ⟨rfl, by decide, by decide⟩ he fun h' tk hk => ?_
  refine ⟨.inl ⟨_, .bool true, [], rfl, raisesW_false ?_, .bool true, ?_, unshared_nil⟩, hk, rfl, hg⟩
  · wrow_none_raised
  · first | wrow_post | kc_post
end
theorem PySem.Challenge.cw_pq0576_01_holds : PySem.Challenge.rw_pq0576_01.Holds :=
  Mine.law_end fun _ h => Mine.C.law_mi h
