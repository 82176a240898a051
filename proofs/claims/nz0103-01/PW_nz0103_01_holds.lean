import PyProof.Rows.All
import Wide.All
import OpenK.AllK
import Wide.FinOn
import KE.KItem
import PyProof.TupleOfSeq
import PyProof.ListCopy
import PyProof.Rows.Range3
import PyProof.WalkInts
import PyProof.CallStr
import PyProof.CallFns
import PyProof.AutoListH
import PyProof.DictCalls
import PyProof.DictUpdate
import PyProof.StrCalls5
import PyProof.StrCalls3
import PyProof.StrCalls6
import PyProof.RulesDelMore
import PyProof.EvalArms
import PyProof.Rules3
import PyProof.PureInt
import PyProof.DictTable
import PyProof.TupleIter
import PyProof.RulesMatch
import PyProof.Rules2
import PyProof.WalksMore
import PyProof.StrWalks
import PyProof.RangeFor
import KE.KStateDown
import PyProof.CompFree
import PyProof.CompMap
import PyProof.MakeMany
import PyProof.AutoIntOps
import PyProof.RulesAssignMore
import PyProof.TableCode
import PySem.Challenge.RW_nz0103_01
set_option Elab.async false
set_option maxRecDepth 100000
set_option linter.all false
namespace Mine
set_option backward.match.sparseCases false
open PySem
inductive Ad where
 | kinds | spaces | names | attrs | texts | parents | kids | contents | items | fitems | modes | owners | errors | pending | rules
 | due | active | derrors | dnodes | tree | stack | fmt | builder
 | ch (n : Nat) | dc (n : Nat) | tm (n : Nat)
 deriving DecidableEq
inductive MV where
 | none | bool (b : Bool) | int (i : Int) | str (s : Str)
 | tup (vs : List MV) | lst (vs : List MV) | rng (lo hi st : Int)
 | ref (a : Ad) | fn (i j : Nat) | bi (s : String) | arg (vs : List MV)
inductive MO where
 | list (vs : List MV) | dict (es : List (Str × MV)) | inst (c : Nat) (fs : List (Str × MV))
structure St where
 kinds : Option (List MV) := none
 spaces : Option (List MV) := none
 names : Option (List MV) := none
 attrs : Option (List MV) := none
 texts : Option (List MV) := none
 parents : Option (List MV) := none
 kids : Option (List MV) := none
 contents : Option (List (Str × MV)) := none
 items : Option (List MV) := none
 fitems : Option (List MV) := none
 modes : Option (List MV) := none
 owners : Option (List (Str × MV)) := none
 errors : Option (List MV) := none
 pending : Option (List MV) := none
 rules : Option (List (Str × MV)) := none
 due : Option (List (Str × MV)) := none
 active : Option (List MV) := none
 derrors : Option (List MV) := none
 dnodes : Option (List MV) := none
 tree : Option (List (Str × MV)) := none
 stack : Option (List (Str × MV)) := none
 fmt : Option (List (Str × MV)) := none
 builder : Option (List (Str × MV)) := none
 ch : List (List MV) := []
 dc : List (List MV) := []
 tm : List MO := []
noncomputable def asL : Option (List MV) → Option MO
 | some vs => some (.list vs)
 | none => none
noncomputable def asD : Option (List (Str × MV)) → Option MO
 | some es => some (.dict es)
 | none => none
noncomputable def asI (c : Nat) : Option (List (Str × MV)) → Option MO
 | some es => some (.inst c es)
 | none => none
noncomputable def St.get (s : St) : Ad → Option MO
 | .kinds => asL s.kinds | .spaces => asL s.spaces | .names => asL s.names | .attrs => asL s.attrs | .texts => asL s.texts
 | .parents => asL s.parents | .kids => asL s.kids | .contents => asD s.contents | .items => asL s.items | .fitems => asL s.fitems
 | .modes => asL s.modes | .owners => asD s.owners | .errors => asL s.errors | .pending => asL s.pending | .rules => asD s.rules
 | .due => asD s.due | .active => asL s.active | .derrors => asL s.derrors | .dnodes => asL s.dnodes
 | .tree => asI 53 s.tree | .stack => asI 28 s.stack | .fmt => asI 50 s.fmt | .builder => asI 56 s.builder
 | .ch i => asL s.ch[i]? | .dc i => asL s.dc[i]? | .tm i => s.tm[i]?
noncomputable def putL {α : Type} (l : List α) (i : Nat) (x : α) : Option (List α) := if i < l.length then some (l.set i x) else if i = l.length then some (l ++ [x]) else none
noncomputable def pl {α : Type} (x : Option α) (f : α → St) : Option St := match x with
 | some l => some (f l)
 | none => none
noncomputable def St.put (s : St) (a : Ad) (o : MO) : Option St := match o with
 | .list vs => match a with
  | .kinds => some { s with kinds := some vs } | .spaces => some { s with spaces := some vs } | .names => some { s with names := some vs }
  | .attrs => some { s with attrs := some vs } | .texts => some { s with texts := some vs } | .parents => some { s with parents := some vs }
  | .kids => some { s with kids := some vs } | .items => some { s with items := some vs } | .fitems => some { s with fitems := some vs }
  | .modes => some { s with modes := some vs } | .errors => some { s with errors := some vs } | .pending => some { s with pending := some vs }
  | .active => some { s with active := some vs } | .derrors => some { s with derrors := some vs } | .dnodes => some { s with dnodes := some vs }
  | .ch i => pl (putL s.ch i vs) fun l => { s with ch := l }
  | .dc i => pl (putL s.dc i vs) fun l => { s with dc := l }
  | .tm i => pl (putL s.tm i (.list vs)) fun l => { s with tm := l }
  | _ => none
 | .dict es => match a with
  | .contents => some { s with contents := some es } | .owners => some { s with owners := some es } | .rules => some { s with rules := some es }
  | .due => some { s with due := some es }
  | .tm i => pl (putL s.tm i (.dict es)) fun l => { s with tm := l }
  | _ => none
 | .inst c fs => match a with
  | .tree => if c = 53 then some { s with tree := some fs } else none
  | .stack => if c = 28 then some { s with stack := some fs } else none
  | .fmt => if c = 50 then some { s with fmt := some fs } else none
  | .builder => if c = 56 then some { s with builder := some fs } else none
  | _ => none
noncomputable def St.alloc (s : St) (a : Ad) (o : MO) : Option St := match s.get a with
 | none => s.put a o
 | some _ => none
noncomputable abbrev Loc := List (Str × Option MV)
inductive Fl where
 | next | brk | cont | ret (v : MV)
noncomputable def setL (x : Str) (v : MV) : Loc → Loc
 | [] => [(x, some v)]
 | (y, o) :: r => if y = x then (y, some v) :: r else (y, o) :: setL x v r
noncomputable def getL (x : Str) : Loc → Option MV
 | [] => none
 | (y, o) :: r => if y = x then o else getL x r
noncomputable def lim : Nat := 100000
noncomputable def ob {α β : Type} (x : Option α) (f : α → Option β) : Option β := match x with
 | some a => f a
 | none => none
noncomputable def pb {α β : Type} (x : Option (α × St)) (f : α → St → Option β) : Option β := match x with
 | some (a, s) => f a s
 | none => none
noncomputable def asInt {α : Type} (v : MV) (f : Int → Option α) : Option α := match v with
 | .int i => f i
 | _ => none
noncomputable def asStr {α : Type} (v : MV) (f : Str → Option α) : Option α := match v with
 | .str i => f i
 | _ => none
noncomputable def asLst {α : Type} (v : MV) (f : List MV → Option α) : Option α := match v with
 | .lst i => f i
 | _ => none
noncomputable def asTup {α : Type} (v : MV) (f : List MV → Option α) : Option α := match v with
 | .tup i => f i
 | _ => none
noncomputable def atRef {α : Type} (v : MV) (f : Ad → Option α) : Option α := match v with
 | .ref i => f i
 | _ => none
noncomputable def atList {α : Type} (o : Option MO) (f : List MV → Option α) : Option α := match o with
 | some (.list vs) => f vs
 | _ => none
noncomputable def atDict {α : Type} (o : Option MO) (f : List (Str × MV) → Option α) : Option α := match o with
 | some (.dict vs) => f vs
 | _ => none
noncomputable def arg0 {α : Type} (l : List MV) (x : Option α) : Option α := match l with
 | [] => x
 | _ :: _ => none
noncomputable def argc {α : Type} (l : List MV) (f : MV → List MV → Option α) : Option α := match l with
 | [] => none
 | a :: r => f a r
noncomputable def arg1 {α : Type} (l : List MV) (f : MV → Option α) : Option α := argc l fun a r => arg0 r (f a)
noncomputable def arg2 {α : Type} (l : List MV) (f : MV → MV → Option α) : Option α := argc l fun a r => arg1 r (f a)
noncomputable def rangeUp : Nat → Int → Int → List MV
 | 0, _, _ => []
 | n + 1, lo, st => .int lo :: rangeUp n (lo + st) st
noncomputable def rangeLen (lo hi st : Int) : Nat := if st = 1 then (hi - lo).toNat else if st = -1 then (lo - hi).toNat else 0
noncomputable def rangeItems (lo hi st : Int) : List MV := rangeUp (rangeLen lo hi st) lo st
noncomputable def charsOf (s : Str) : List MV := s.cps.toList.map fun c => .str ⟨#[c]⟩
noncomputable def itemsNow (st : St) : MV → Option (List MV)
 | .tup vs | .lst vs | .arg vs => some vs
 | .ref a => atList (st.get a) some
 | _ => Option.none
noncomputable def pick (vs : List MV) (i : Int) : Option MV :=
 if i.natAbs ≤ lim then (if 0 ≤ i then vs[i.toNat]? else if 0 ≤ i + vs.length then vs[(i + vs.length).toNat]? else Option.none) else Option.none
noncomputable def cut (vs : List MV) (lo hi : Option Int) : List MV :=
 (vs.drop (lo.elim 0 (clipAt vs.length))).take (hi.elim vs.length (clipAt vs.length) - lo.elim 0 (clipAt vs.length))
noncomputable def eqAtom : MV → MV → Option Bool
 | .none, .none => some true
 | .bool a, .bool b => some (decide (a = b))
 | .int a, .int b => some (decide (a = b))
 | .str a, .str b => some (decide (a = b))
 | .none, .str _ | .str _, .none | .none, .int _ | .int _, .none => some false
 | _, _ => Option.none
noncomputable def eqV : Nat → St → MV → MV → Option Bool
 | 0, _, _, _ => Option.none
 | n + 1, st, a, b =>
  match a with
  | .tup xs => asTup b fun ys => eqs (eqV n st) xs ys
  | .lst xs => (match b with
   | .lst ys => if xs.length = ys.length then eqs (eqV n st) xs ys else some false
   | .ref p => atList (st.get p) fun ys => if xs.length = ys.length then eqs (eqV n st) xs ys else some false
   | _ => Option.none)
  | .ref p => atList (st.get p) fun xs => (match b with
   | .lst ys => if xs.length = ys.length then eqs (eqV n st) xs ys else some false
   | .ref q => atList (st.get q) fun ys => if p = q then Option.none else if xs.length = ys.length then eqs (eqV n st) xs ys else some false
   | _ => Option.none)
  | a => eqAtom a b
where
 eqs (e : MV → MV → Option Bool) : List MV → List MV → Option Bool
  | [], ys => some (match ys with | [] => true | _ => false)
  | x :: xs, ys => match ys with
   | [] => some false
   | y :: ys => ob (e x y) fun p => ob (eqs e xs ys) fun q => some (p && q)
noncomputable def inAtoms (x : MV) (ys : List MV) : Option Bool :=
 if ys.all (fun y => (eqAtom y x).isSome) then some (ys.any fun y => eqAtom y x == some true) else none
noncomputable def hasKind (x y : MV) : Bool := match x with
 | .int _ => (match y with | .int _ => true | _ => false)
 | .str _ => (match y with | .str _ => true | _ => false)
 | _ => false
noncomputable def isAtom (x y : MV) : Bool := match x with
 | .int i => (match y with | .int j => decide (j = i) | _ => false)
 | .str s => (match y with | .str r => decide (r = s) | _ => false)
 | _ => false
noncomputable def idxAtoms (x : MV) (ys : List MV) : Option Nat := if ys.all (hasKind x) then ys.findIdx? (isAtom x) else none
noncomputable def getK (x : Str) : List (Str × MV) → Option MV
 | [] => none
 | (y, v) :: r => if y = x then some v else getK x r
noncomputable def putK (x : Str) (v : MV) : List (Str × MV) → List (Str × MV)
 | [] => [(x, v)]
 | (y, u) :: r => if y = x then (y, v) :: r else (y, u) :: putK x v r
noncomputable def strLe (a b : Str) : Bool := !(decide (b.cps.toList < a.cps.toList))
noncomputable def atMO {α : Type} (o : Option MO) (f : List MV → Option α) (g : List (Str × MV) → Option α) : Option α := match o with
 | some (.list vs) => f vs
 | some (.dict es) => g es
 | _ => none
noncomputable def isIn (st : St) (x c : MV) : Option Bool := match c with
 | .ref a => atMO (st.get a) (inAtoms x) fun es => (match x with
  | .str s => some (getK s es).isSome
  | .int _ => (match es with | [] => some false | _ :: _ => Option.none)
  | _ => Option.none)
 | .tup vs => inAtoms x vs
 | .lst vs => inAtoms x vs
 | _ => Option.none
noncomputable def nilD (o : Option MO) : Bool := match o with
 | some (.dict es) => (match es with | [] => true | _ :: _ => false)
 | _ => false
noncomputable def nilDict (st : St) (a : MV) : Bool := match a with
 | .ref p => nilD (st.get p)
 | _ => false
noncomputable def bothNil (st : St) (a b : MV) : Bool := nilDict st a && nilDict st b
noncomputable def isNone (a b : MV) : Option Bool := match b with
 | .none => (match a with
  | .none => some true
  | .str _ => some false
  | _ => Option.none)
 | _ => Option.none
noncomputable def cmp (st : St) (op : CmpOp) (a b : MV) : Option Bool := match op with
 | .Eq => eqV 6 st a b
 | .NotEq => if bothNil st a b = true then some false else ob (eqV 6 st a b) fun r => some (!r)
 | .In => isIn st a b
 | .NotIn => ob (isIn st a b) fun r => some (!r)
 | .Lt => asInt a fun x => asInt b fun y => some (decide (x < y))
 | .LtE => match a with
  | .int x => asInt b fun y => some (decide (x ≤ y))
  | .str x => asStr b fun y => some (strLe x y)
  | _ => Option.none
 | .Gt => asInt a fun x => asInt b fun y => some (decide (y < x))
 | .GtE => asInt a fun x => asInt b fun y => some (decide (y ≤ x))
 | .Is => isNone a b
 | .IsNot => ob (isNone a b) fun r => some (!r)
noncomputable def addOf (a b : MV) : Option MV := match a with
 | .int x => asInt b fun y => some (.int (x + y))
 | .str x => asStr b fun y => if (x ++ y).length ≤ lim then some (.str (x ++ y)) else Option.none
 | .tup x => asTup b fun y => if (x ++ y).length ≤ lim then some (.tup (x ++ y)) else Option.none
 | .lst x => asLst b fun y => if (x ++ y).length ≤ lim then some (.lst (x ++ y)) else Option.none
 | _ => Option.none
noncomputable def binop (op : Operator) (a b : MV) : Option MV := match op with
 | .Add => addOf a b
 | .Sub => asInt a fun x => asInt b fun y => some (.int (x - y))
 | .FloorDiv => asInt a fun x => asInt b fun y => if 0 < y ∧ y < 1000 then some (.int (Int.fdiv x y)) else Option.none
 | .Mod => asInt a fun x => asInt b fun y => if 0 < y ∧ y < 1000 then some (.int (Int.fmod x y)) else Option.none
 | .Mult => asLst a fun x => arg1 x fun x => asInt b fun n => if 0 ≤ n ∧ n ≤ 10000 then some (.lst (List.replicate n.toNat x)) else Option.none
 | _ => Option.none
noncomputable abbrev Pol := Pos → St → Option Ad
structure Fn where
 name : Str
 params : List Str
 defaults : List MV
 body : List Stmt
 scope : Scope
structure Tab where
 fn : Nat → Nat → Option Fn
 cls : Nat → Option (List (Str × Nat))   -- a class's methods: their second index
 glob : Str → Option MV
noncomputable def methAt (x : Str) : List (Str × Nat) → Option Nat
 | [] => none
 | (y, v) :: r => if y = x then some v else methAt x r
noncomputable abbrev Rec := MV → List MV → St → Option (MV × St)
noncomputable def kindAt (x : Str) : List (Str × NameKind) → Option NameKind
 | [] => none
 | (y, k) :: r => if y = x then some k else kindAt x r
noncomputable def lookKind (sc : Scope) (x : Str) : Option NameKind := kindAt x sc.names
noncomputable def okName (x : Str) : Bool := !(decide (x = Str.ofString "__debug__")) && !(decide (x = Str.ofString "__classdict__"))
noncomputable def readName (T : Tab) (sc : Scope) (loc : Loc) (x : Str) : Option MV := if okName x = true then readKind T (lookKind sc x) loc x else Option.none
where readKind (T : Tab) (k : Option NameKind) (loc : Loc) (x : Str) : Option MV := match k with
 | some .local | some .cell | some .free => getL x loc
 | some .globalImplicit => T.glob x
 | _ => Option.none
noncomputable def strMeth (name : Str) (s : Str) (args : List MV) : Option MV :=
 if name = "lower" then arg0 args (if (Txt.lower s).length ≤ lim then some (.str (Txt.lower s)) else Option.none)
 else if name = "split" then arg0 args (if s.length ≤ lim ∧ (Builtin.Str.spaceWords s (s.length + 1)).length ≤ lim then some (.lst ((Txt.words s).map .str)) else Option.none)
 else Option.none
noncomputable def strsOf : List MV → Option (List Str)
 | [] => some []
 | a :: r => asStr a fun s => ob (strsOf r) fun t => some (s :: t)
noncomputable def joinStrs (x : Str) (vs : List MV) : Option Str := ob (strsOf vs) fun ts => if JoinOk x ts = true then some (Txt.join x ts) else none
noncomputable def maxInts : List MV → Option Int
 | [] => Option.none
 | a :: r => asInt a fun i => match r with
  | [] => some i
  | _ :: _ => ob (maxInts r) fun m => some (if i < m then m else i)
noncomputable def giv {α : Type} (v : α) (x : Option St) : Option (α × St) := match x with
 | some s => some (v, s)
 | none => none
noncomputable def listMeth (st : St) (a : Ad) (vs : List MV) (name : Str) (args : List MV) : Option (MV × St) := if vs.length ≤ lim then
 (if name = "append" then arg1 args fun v => giv .none (st.put a (.list (vs ++ [v])))
 else if name = "pop" then arg0 args (ob vs.getLast? fun v => giv v (st.put a (.list vs.dropLast)))
 else if name = "remove" then arg1 args fun v => ob (idxAtoms v vs) fun i => giv .none (st.put a (.list (vs.eraseIdx i)))
 else if name = "insert" then arg2 args fun i v => asInt i fun i => if i = vs.length then giv .none (st.put a (.list (vs ++ [v]))) else Option.none
 else Option.none) else Option.none
noncomputable def updK (es : List (Str × MV)) : List (Str × MV) → List (Str × MV)
 | [] => es
 | (x, v) :: r => updK (putK x v es) r
noncomputable def dictMeth (st : St) (a : Ad) (es : List (Str × MV)) (name : Str) (args : List MV) : Option (MV × St) :=
 if name = "get" then arg2 args fun x d => asStr x fun x => some ((getK x es).getD d, st)
 else if name = "update" then arg1 args fun b => atRef b fun b => atDict (st.get b) fun fs => if a ≠ b ∧ es.length + fs.length ≤ lim then giv .none (st.put a (.dict (updK es fs))) else Option.none
 else Option.none
noncomputable def isCls (c : Nat) : Bool := decide (c = 28) || decide (c = 50) || decide (c = 53) || decide (c = 56)
inductive Me where
 | inst (c j : Nat) | list | dict | lst | str
noncomputable def methKind (T : Tab) (st : St) (o : MV) (name : Str) : Option Me := match o with
 | .ref a => match st.get a with
  | some (.inst c _) => if isCls c = true then ob (T.cls c) fun ms => ob (methAt name ms) fun j => if (T.fn c j).isSome then some (.inst c j) else Option.none else Option.none
  | some (.list _) => if name = "append" ∨ name = "pop" ∨ name = "remove" ∨ name = "insert" then some .list else Option.none
  | some (.dict _) => if name = "get" ∨ name = "update" then some .dict else Option.none
  | none => Option.none
 | .lst _ => if name = "index" then some .lst else Option.none
 | .str _ => if name = "join" ∨ name = "lower" ∨ name = "split" then some .str else Option.none
 | _ => Option.none
noncomputable def methDo (rec : Rec) (k : Me) (st : St) (o : MV) (name : Str) (args : List MV) : Option (MV × St) := match k with
 | .inst c j => rec (.fn c j) (o :: args) st
 | .list => atRef o fun a => atList (st.get a) fun vs => listMeth st a vs name args
 | .dict => atRef o fun a => atDict (st.get a) fun es => dictMeth st a es name args
 | .lst => asLst o fun vs => arg1 args fun v => if vs.length ≤ lim then ob (idxAtoms v vs) fun i => some (.int i, st) else Option.none
 | .str => asStr o fun s => if name = "join" then arg1 args fun b => atRef b fun b => atList (st.get b) fun vs => ob (joinStrs s vs) fun r => some (.str r, st)
  else ob (strMeth name s args) fun v => some (v, st)
noncomputable def lenOf (st : St) (v : MV) : Option Nat := ob (itemsNow st v) fun vs => if vs.length ≤ lim then some vs.length else none
noncomputable def mkRng (a b c : Int) : Option MV := if -100000 ≤ a ∧ a ≤ 100000 ∧ -100000 ≤ b ∧ b ≤ 100000 then some (.rng a b c) else Option.none
noncomputable def builtin (st : St) (id : String) (args : List MV) : Option MV :=
 if id = "len" then arg1 args fun v => ob (lenOf st v) fun n => some (.int n)
 else if id = "range" then argc args fun a r => asInt a fun a => (match r with
  | [] => mkRng 0 a 1
  | b :: r => asInt b fun b => (match r with
   | [] => mkRng a b 1
   | c :: r => arg0 r (asInt c fun c => if c = -1 then mkRng a b c else Option.none)))
 else if id = "list" then arg1 args fun v => (match v with
  | .tup vs => if vs.length ≤ lim then some (.lst vs) else Option.none
  | .lst vs => if vs.length ≤ lim then some (.lst vs) else Option.none
  | _ => Option.none)
 else if id = "tuple" then arg1 args fun v => (match v with
  | .lst vs => if vs.length ≤ lim then some (.tup vs) else Option.none
  | .ref a => atList (st.get a) fun vs => if vs.length ≤ lim then some (.tup vs) else Option.none
  | _ => Option.none)
 else if id = "str" then arg1 args fun v => asInt v fun i => if 0 ≤ i ∧ i < 100 then some (.str (Str.ofString (toString i))) else Option.none
 else if id = "max" then arg1 args fun v => asLst v fun vs => ob (maxInts vs) fun i => some (.int i)
 else if id = "ord" then arg1 args fun v => asStr v fun s => if s = ⟨#[s.cps.getD 0 0]⟩ then some (.int (s.cps.getD 0 0 : Nat)) else Option.none
 else if id = "chr" then arg1 args fun v => asInt v fun i => if 0 ≤ i ∧ i < 128 then some (.str ⟨#[i.toNat]⟩) else Option.none
 else Option.none
noncomputable def callV (rec : Rec) (st : St) (f : MV) (args : List MV) : Option (MV × St) := match f with
 | .bi id => ob (builtin st id args) fun v => some (v, st)
 | .fn _ _ => rec f args st
 | _ => Option.none
noncomputable def subOf (st : St) (o i : MV) : Option MV := match i with
 | .int k => ob (itemsNow st o) fun vs => pick vs k
 | .str x => atRef o fun a => atDict (st.get a) fun es => getK x es
 | _ => Option.none
noncomputable def cutStr (s : Str) (lo hi : Option Int) : Str :=
 if (Builtin.Str.strSliceIndices lo hi 1 s.length).length = s.length then s else ⟨((Builtin.Str.strSliceIndices lo hi 1 s.length).filterMap (s.cps[·]?)).toArray⟩
noncomputable def cutOf (st : St) (o : MV) (lo hi : Option Int) : Option MV := match o with
 | .lst vs => if vs.length ≤ lim then some (.lst (cut vs lo hi)) else Option.none
 | .ref a => atList (st.get a) fun vs => if vs.length ≤ lim then some (.lst (cut vs lo hi)) else Option.none
 | .str s => if (cutStr s lo hi).length ≤ lim then some (.str (cutStr s lo hi)) else Option.none
 | _ => Option.none
noncomputable def constOf : Const → Option MV
 | .none => some .none
 | .bool b => some (.bool b)
 | .int i => some (.int i)
 | .str s => some (.str s)
 | _ => Option.none
noncomputable def intOf : MV → Option Int
 | .int i => some i
 | _ => Option.none
noncomputable def boolOf : MV → Option Bool
 | .bool b => some b
 | _ => Option.none
noncomputable def unOf (op : UnaryOp) (a : MV) : Option MV := match op with
 | .Not => ob (boolOf a) fun b => some (.bool (!b))
 | .USub => asInt a fun i => some (.int (-i))
 | _ => Option.none
noncomputable def fieldNames (c : Nat) : List String :=
 if c = 28 then ["tree", "items"] else if c = 50 then ["tree", "items"]
 else if c = 53 then ["kinds", "spaces", "names", "attrs", "texts", "parents", "children", "contents"]
 else if c = 56 then ["rules", "tree", "stack", "formatting", "mode", "original", "modes", "head", "form", "owners", "is_frameset_ok", "is_scripting", "is_foster", "context", "quirks", "errors", "pending", "wish", "is_skipping", "is_acknowledged", "is_done"]
 else []
noncomputable def fieldOk (c : Nat) (x : Str) : Bool := (fieldNames c).any fun n => decide (x = Str.ofString n)
noncomputable def atInst {α : Type} (o : Option MO) (f : Nat → List (Str × MV) → Option α) : Option α := match o with
 | some (.inst c fs) => f c fs
 | _ => none
noncomputable def attrOf (st : St) (o : MV) (x : Str) : Option MV := atRef o fun a => atInst (st.get a) fun _ fs => getK x fs
noncomputable def setAttrOf (st : St) (o : MV) (x : Str) (v : MV) : Option St := atRef o fun a => atInst (st.get a) fun c fs => if fieldOk c x = true ∧ fs.length ≤ 100 then st.put a (.inst c (putK x v fs)) else Option.none
noncomputable def setSubOf (st : St) (o i v : MV) : Option St := atRef o fun a => match i with
 | .int k => atList (st.get a) fun vs => if (0 ≤ k ∧ k < vs.length) ∧ vs.length ≤ lim then st.put a (.list (vs.set k.toNat v)) else Option.none
 | .str x => atDict (st.get a) fun es => if es.length ≤ lim then st.put a (.dict (putK x v es)) else Option.none
 | _ => Option.none
noncomputable def layList (pol : Pol) (pos : Pos) (vs : List MV) (st : St) : Option (MV × St) := match pol pos st with
 | some a => giv (.ref a) (st.alloc a (.list vs))
 | none => some (.lst vs, st)
noncomputable def layDict (pol : Pol) (pos : Pos) (es : List (Str × MV)) (st : St) : Option (MV × St) := match pol pos st with
 | some a => giv (.ref a) (st.alloc a (.dict es))
 | none => Option.none
noncomputable def baseOk : Expr → Bool
 | .Call (.Name ..) [] [] _ => false
 | _ => true
noncomputable def isComp : Expr → Bool
 | .ListComp .. | .SetComp .. | .DictComp .. => true
 | _ => false
noncomputable def isSeqDisplay : Expr → Bool
 | .Tuple .. | .List .. => true
 | _ => false
noncomputable def storeOk (sc : Scope) (t e : Expr) : Bool := match t with
 | .Name x p => match e with
  | .ListComp _ _ sc' p' => decide (lookKind sc x = some .local) && decide (p.line = p'.line) && !(sc'.names.any fun q => q.1 == x && (q.2 == .local || q.2 == .cell))
  | _ => true
 | .Tuple .. => !isSeqDisplay e
 | .Attribute .. | .Subscript .. => true
 | _ => false
noncomputable def compItems (step : MV → St → Option (Option MV × St)) : List MV → St → Option (List MV × St)
 | [], st => some ([], st)
 | x :: xs, st => pb (step x st) fun r st => pb (compItems step xs st) fun rs st => some ((match r with | some v => v :: rs | none => rs), st)
noncomputable def compRef (step : MV → St → Option (Option MV × St)) (a : Ad) : Nat → Nat → St → Option (List MV × St)
 | 0, _, _ => Option.none
 | n + 1, i, st => atList (st.get a) fun vs => match vs[i]? with
  | none => some ([], st)
  | some x => pb (step x st) fun r st => pb (compRef step a n (i + 1) st) fun rs st => some ((match r with | some v => v :: rs | none => rs), st)
noncomputable def fixedItems : MV → Option (List MV)
 | .tup vs | .lst vs => some vs
 | .rng a b c => if (-100000 ≤ a ∧ a ≤ 100000) ∧ (-100000 ≤ b ∧ b ≤ 100000) ∧ (c = 1 ∨ c = -1) then some (rangeItems a b c) else Option.none
 | .str s => some (charsOf s)
 | _ => Option.none
noncomputable def compSrc (step : MV → St → Option (Option MV × St)) (src : MV) (st : St) : Option (List MV × St) := match src with
 | .ref a => compRef step a 1000 0 st
 | src => ob (fixedItems src) fun vs => compItems step vs st
noncomputable abbrev SR := Option (Fl × Loc × St)
noncomputable def sb (x : SR) (f : Fl → Loc → St → SR) : SR := match x with
 | some (fl, loc, st) => f fl loc st
 | none => none
noncomputable def forItems (step : MV → Loc → St → SR) : List MV → Loc → St → SR
 | [], loc, st => some (.next, loc, st)
 | x :: xs, loc, st => sb (step x loc st) fun fl loc st => match fl with
  | .next | .cont => forItems step xs loc st
  | .brk => some (.next, loc, st)
  | .ret v => some (.ret v, loc, st)
noncomputable def forRef (step : MV → Loc → St → SR) (a : Ad) : Nat → Nat → Loc → St → SR
 | 0, _, _, _ => Option.none
 | n + 1, i, loc, st => atList (st.get a) fun vs => match vs[i]? with
  | none => some (.next, loc, st)
  | some x => sb (step x loc st) fun fl loc st => match fl with
   | .next | .cont => forRef step a n (i + 1) loc st
   | .brk => some (.next, loc, st)
   | .ret v => some (.ret v, loc, st)
noncomputable def forSrc (step : MV → Loc → St → SR) (src : MV) (loc : Loc) (st : St) : SR := match src with
 | .ref a => forRef step a 1000 0 loc st
 | src => ob (fixedItems src) fun vs => forItems step vs loc st
noncomputable def whileLoop (test : Loc → St → Option (Bool × St)) (body : Loc → St → SR) : Nat → Loc → St → SR
 | 0, _, _ => Option.none
 | n + 1, loc, st => match test loc st with
  | none => Option.none
  | some (false, st) => some (.next, loc, st)
  | some (true, st) => sb (body loc st) fun fl loc st => match fl with
   | .next | .cont => whileLoop test body n loc st
   | .brk => some (.next, loc, st)
   | .ret v => some (.ret v, loc, st)
noncomputable def nextOf (x : Option (Loc × St)) : SR := match x with
 | some (loc, st) => some (.next, loc, st)
 | none => none
noncomputable def lb {α : Type} (x : Option (Loc × St)) (f : Loc → St → Option α) : Option α := match x with
 | some (loc, st) => f loc st
 | none => none
noncomputable def turns : Nat := 1000
noncomputable def compLoc (sc : Scope) : Loc → Loc
 | [] => []
 | (x, o) :: r => if lookKind sc x = some .free then (x, o) :: compLoc sc r else compLoc sc r
noncomputable def locInit (_ : Scope) : Loc := []
noncomputable def nodupB : List Str → Bool
 | [] => true
 | x :: r => !(r.any fun y => decide (y = x)) && nodupB r
noncomputable def compOk (sc' sc : Scope) : Bool := decide (sc'.kind = .function) && nodupB (sc'.names.map (·.1)) && sc'.names.all fun p => p.2 != .free || (lookKind sc p.1 == some .cell || lookKind sc p.1 == some .free)
noncomputable def augOp (op : Operator) (a b : Int) : Option MV := match op with
 | .Add => some (.int (a + b))
 | .Sub => some (.int (a - b))
 | _ => Option.none
noncomputable def isLoc (k : Option NameKind) : Bool := match k with
 | some .local | some .cell => true
 | _ => false
noncomputable def strConst : Expr → Option Str
 | .Constant c _ _ => (match c with | .str y => some y | _ => none)
 | _ => none
noncomputable def twoStrs : List Expr → Option (Str × Str)
 | [a, b] => ob (strConst a) fun y => ob (strConst b) fun z => some (y, z)
 | _ => none
noncomputable def replOf (v : MV) (y z : Str) : Option MV := asStr v fun s => if s.length ≤ lim then some (.str (Txt.replace s y z)) else Option.none
noncomputable def constPairs : List (Option Expr) → List Expr → Option (List (Str × MV))
 | [], vs => (match vs with | [] => some [] | _ => Option.none)
 | k :: ks, vs => match k with
  | some k => ob (strConst k) fun x => (match vs with
   | v :: vs => ob (strConst v) fun y => ob (constPairs ks vs) fun es => some ((x, .str y) :: es)
   | [] => Option.none)
  | none => Option.none
section
variable (T : Tab) (pol : Pol) (rec : Rec)
mutual
noncomputable def evE : Expr → Scope → Loc → St → Option (MV × St)
 | .Constant c _ _, _, _, st => ob (constOf c) fun v => some (v, st)
 | .Name x _, sc, loc, st => ob (readName T sc loc x) fun v => some (v, st)
 | .BoolOp op vs _, sc, loc, st => evBool op vs sc loc st
 | .BinOp l op r _, sc, loc, st => pb (evE l sc loc st) fun a st => pb (evE r sc loc st) fun b st => ob (binop op a b) fun v => some (v, st)
 | .UnaryOp op x _, sc, loc, st => pb (evE x sc loc st) fun a st => ob (unOf op a) fun v => some (v, st)
 | .IfExp t b o _, sc, loc, st => pb (evT t sc loc st) fun c st => if c then evE b sc loc st else evE o sc loc st
 | .Dict ks vs pos, sc, loc, st => if ks.length ≤ 15 then pb (evPairs ks (evTh vs sc loc) sc loc st) fun es st => layDict pol pos (updK [] es) st
  else if 17 < ks.length ∧ ks.length ≤ 32 then ob (constPairs ks vs) fun es => layDict pol pos (updK (updK [] (es.take 17)) (updK [] (es.drop 17))) st else Option.none
 | .List es pos, sc, loc, st => if es.length ≤ 1000 then pb (evL es sc loc st) fun vs st => layList pol pos vs st else Option.none
 | .Tuple es _ _, sc, loc, st => if es.length ≤ 1000 then pb (evL es sc loc st) fun vs st => some (.tup vs, st) else Option.none
 | .ListComp elt gens sc' _, sc, loc, st => evComp gens (fun loc st => evE elt sc' loc st) sc' sc loc st
 | .Compare l ops rs _, sc, loc, st => pb (evE l sc loc st) fun a st => evChain a ops rs sc loc st
 | .Call (.Attribute o x ap) args [] p, sc, loc, st => if baseOk o = true ∧ ap.endLine = p.line ∧ args.length < 20 then (match twoStrs args with
   | some (y, z) => if x = "replace" ∧ (y == z) = false ∧ z.length ≤ 14 then pb (evE o sc loc st) fun ov st => ob (replOf ov y z) fun v => some (v, st) else Option.none
   | none => pb (evE o sc loc st) fun ov st => ob (methKind T st ov x) fun k => pb (evL args sc loc st) fun vs st => methDo rec k st ov x vs) else Option.none
 | .Call (.Name f _) args [] _, sc, loc, st => ob (readName T sc loc f) fun fv => pb (evL args sc loc st) fun vs st => callV rec st fv vs
 | .Attribute o x _, sc, loc, st => if baseOk o = true then pb (evE o sc loc st) fun ov st => ob (attrOf st ov x) fun v => some (v, st) else Option.none
 | .Subscript o (.Slice lo hi none _) _, sc, loc, st => pb (evE o sc loc st) fun ov st => pb (evOpt lo sc loc st) fun l st => pb (evOpt hi sc loc st) fun h st => ob (cutOf st ov l h) fun v => some (v, st)
 | .Subscript o i _, sc, loc, st => pb (evE o sc loc st) fun ov st => pb (evE i sc loc st) fun iv st => ob (subOf st ov iv) fun v => some (v, st)
 | _, _, _, _ => Option.none
noncomputable def evOpt : Option Expr → Scope → Loc → St → Option (Option Int × St)
 | none, _, _, st => some (none, st)
 | some e, sc, loc, st => pb (evE e sc loc st) fun v st => ob (intOf v) fun i => some (some i, st)
noncomputable def evL : List Expr → Scope → Loc → St → Option (List MV × St)
 | [], _, _, st => some ([], st)
 | e :: es, sc, loc, st => pb (evE e sc loc st) fun v st => pb (evL es sc loc st) fun vs st => some (v :: vs, st)
noncomputable def evTh : List Expr → Scope → Loc → List (St → Option (MV × St))
 | [], _, _ => []
 | e :: es, sc, loc => (fun st => evE e sc loc st) :: evTh es sc loc
noncomputable def evPairs : List (Option Expr) → List (St → Option (MV × St)) → Scope → Loc → St → Option (List (Str × MV) × St)
 | [], ts, _, _, st => match ts with | [] => some ([], st) | _ => Option.none
 | k :: ks, ts, sc, loc, st => match ts with
  | [] => Option.none
  | v :: vs => pb (evKey k sc loc st) fun kv st => pb (v st) fun vv st => pb (evPairs ks vs sc loc st) fun es st => some ((kv, vv) :: es, st)
noncomputable def evKey : Option Expr → Scope → Loc → St → Option (Str × St)
 | some e, sc, loc, st => pb (evE e sc loc st) fun v st => asStr v fun s => some (s, st)
 | none, _, _, _ => Option.none
noncomputable def evBool : BoolOp → List Expr → Scope → Loc → St → Option (MV × St)
 | _, [], _, _, _ => Option.none
 | _, [e], sc, loc, st => evE e sc loc st
 | op, e :: es, sc, loc, st => pb (evE e sc loc st) fun v st => ob (boolOf v) fun b => match op, b with
  | .And, false | .Or, true => some (.bool b, st)
  | _, _ => evBool op es sc loc st
noncomputable def evChain : MV → List CmpOp → List Expr → Scope → Loc → St → Option (MV × St)
 | a, [op], [r], sc, loc, st => pb (evE r sc loc st) fun b st => ob (cmp st op a b) fun c => some (.bool c, st)
 | a, op :: op' :: ops, r :: rs, sc, loc, st => pb (evE r sc loc st) fun b st => ob (cmp st op a b) fun c => if c then evChain b (op' :: ops) rs sc loc st else some (.bool false, st)
 | _, _, _, _, _, _ => Option.none
noncomputable def evT : Expr → Scope → Loc → St → Option (Bool × St)
 | .UnaryOp .Not x _, sc, loc, st => pb (evT x sc loc st) fun b st => some (!b, st)
 | .BoolOp op vs _, sc, loc, st => evTs op vs sc loc st
 | .Compare l [op] [r] _, sc, loc, st => pb (evE l sc loc st) fun a st => pb (evE r sc loc st) fun b st => ob (cmp st op a b) fun c => some (c, st)
 | .Compare .., _, _, _ => Option.none
 | .IfExp .., _, _, _ => Option.none
 | .Constant c _ _, _, _, st => ob (constOf c) fun v => ob (boolOf v) fun b => some (b, st)
 | .Name x _, sc, loc, st => ob (readName T sc loc x) fun v => ob (boolOf v) fun b => some (b, st)
 | .Call (.Attribute o x ap) args [] p, sc, loc, st => if baseOk o = true ∧ ap.endLine = p.line ∧ args.length < 20 then pb (evE o sc loc st) fun ov st => ob (methKind T st ov x) fun k => pb (evL args sc loc st) fun vs st => pb (methDo rec k st ov x vs) fun v st => ob (boolOf v) fun b => some (b, st) else Option.none
 | .Call (.Name f _) args [] _, sc, loc, st => ob (readName T sc loc f) fun fv => pb (evL args sc loc st) fun vs st => pb (callV rec st fv vs) fun v st => ob (boolOf v) fun b => some (b, st)
 | .Attribute o x _, sc, loc, st => if baseOk o = true then pb (evE o sc loc st) fun ov st => ob (attrOf st ov x) fun v => ob (boolOf v) fun b => some (b, st) else Option.none
 | .Subscript _ (.Slice ..) _, _, _, _ => Option.none
 | .Subscript o i _, sc, loc, st => pb (evE o sc loc st) fun ov st => pb (evE i sc loc st) fun iv st => ob (subOf st ov iv) fun v => ob (boolOf v) fun b => some (b, st)
 | _, _, _, _ => Option.none
noncomputable def evTs : BoolOp → List Expr → Scope → Loc → St → Option (Bool × St)
 | op, [], _, _, st => some ((match op with | .And => true | .Or => false), st)
 | op, e :: es, sc, loc, st => pb (evT e sc loc st) fun b st => match op, b with
  | .And, false => some (false, st)
  | .Or, true => some (true, st)
  | _, _ => evTs op es sc loc st
noncomputable def evComp : List Comprehension → (Loc → St → Option (MV × St)) → Scope → Scope → Loc → St → Option (MV × St)
 | [⟨tgt, iter, ifs, as⟩], elt, sc', sc, loc, st => if as = 0 ∧ compOk sc' sc = true then pb (evE iter sc loc st) fun src st =>
  pb (compSrc (fun x st => lb (evA tgt x sc' (compLoc sc' loc) st) fun loc st => pb (evIfs ifs sc' loc st) fun ok st => if ok then pb (elt loc st) fun v st => some (some v, st) else some (none, st)) src st) fun vs st => if vs.length ≤ lim then some (.lst vs, st) else Option.none else Option.none
 | _, _, _, _, _, _ => Option.none
noncomputable def evIfs : List Expr → Scope → Loc → St → Option (Bool × St)
 | [], _, _, st => some (true, st)
 | e :: es, sc, loc, st => pb (evT e sc loc st) fun b st => if b then evIfs es sc loc st else some (false, st)
noncomputable def evA : Expr → MV → Scope → Loc → St → Option (Loc × St)
 | .Name x _, v, sc, loc, st => if isLoc (lookKind sc x) = true then some (setL x v loc, st) else Option.none
 | .Attribute o x _, v, sc, loc, st => pb (evE o sc loc st) fun ov st => ob (setAttrOf st ov x v) fun st => some (loc, st)
 | .Subscript o i _, v, sc, loc, st => pb (evE o sc loc st) fun ov st => pb (evE i sc loc st) fun iv st => ob (setSubOf st ov iv v) fun st => some (loc, st)
 | .Tuple ts _ _, v, sc, loc, st => asTup v fun vs => evAs ts vs sc loc st
 | _, _, _, _, _ => Option.none
noncomputable def evAs : List Expr → List MV → Scope → Loc → St → Option (Loc × St)
 | [], vs, _, loc, st => match vs with | [] => some (loc, st) | _ => Option.none
 | t :: ts, vs, sc, loc, st => match vs with
  | [] => Option.none
  | v :: vs => lb (evA t v sc loc st) fun loc st => evAs ts vs sc loc st
end
mutual
noncomputable def evS : Stmt → Scope → Loc → St → SR
 | .Expr e _, sc, loc, st => if isComp e = false then pb (evE T pol rec e sc loc st) fun _ st => some (.next, loc, st) else Option.none
 | .Break _, _, loc, st => some (.brk, loc, st)
 | .Return (some e) _, sc, loc, st => pb (evE T pol rec e sc loc st) fun v st => some (.ret v, loc, st)
 | .Return none _, _, loc, st => some (.ret .none, loc, st)
 | .Assign [t] e _, sc, loc, st => if storeOk sc t e = true then pb (evE T pol rec e sc loc st) fun v st => nextOf (evA T pol rec t v sc loc st) else Option.none
 | .AugAssign (.Name x _) op e _, sc, loc, st => ob (readName T sc loc x) fun old => pb (evE T pol rec e sc loc st) fun v st => asInt old fun a => asInt v fun b => ob (augOp op a b) fun r =>
  if lookKind sc x = some .local then some (.next, setL x r loc, st) else Option.none
 | .If t b o _, sc, loc, st => pb (evT T pol rec t sc loc st) fun c st => if c then evSs b sc loc st else evSs o sc loc st
 | .While t b [] _, sc, loc, st => whileLoop (fun loc st => evT T pol rec t sc loc st) (fun loc st => evSs b sc loc st) turns loc st
 | .For tgt it b [] _, sc, loc, st => pb (evE T pol rec it sc loc st) fun src st =>
  forSrc (fun x loc st => lb (evA T pol rec tgt x sc loc st) fun loc st => evSs b sc loc st) src loc st
 | _, _, _, _ => Option.none
noncomputable def evSs : List Stmt → Scope → Loc → St → SR
 | [], _, loc, st => some (.next, loc, st)
 | s :: ss, sc, loc, st => sb (evS s sc loc st) fun fl loc st => match fl with
  | .next => evSs ss sc loc st
  | fl => some (fl, loc, st)
end
end
noncomputable def bindP : List Str → List MV → List MV → Loc → Option Loc
 | [], vs, _, l => match vs with | [] => some l | _ => Option.none
 | p :: ps, vs, ds, l => match vs with
  | v :: vs => bindP ps vs ds (setL p v l)
  | [] => if ps.length + 1 ≤ ds.length then (match ds[ds.length - (ps.length + 1)]? with
   | some d => bindP ps [] ds (setL p d l)
   | none => Option.none) else Option.none
noncomputable def clsAd (i : Nat) : Option Ad := if i = 28 then some .stack else if i = 50 then some .fmt else if i = 53 then some .tree else if i = 56 then some .builder else none
noncomputable def retFl (st : St) (f : Fl) : Option (MV × St) := match f with
 | .ret v => some (v, st)
 | .next => some (.none, st)
 | _ => Option.none
noncomputable def retOf (x : SR) : Option (MV × St) := match x with
 | some (fl, _, st) => retFl st fl
 | none => Option.none
noncomputable def noneThen (a : Ad) (v : MV) (st : St) : Option (MV × St) := match v with
 | .none => some (.ref a, st)
 | _ => Option.none
noncomputable def callN (T : Tab) (pol : Pol) : Nat → Rec
 | 0 => fun _ _ _ => Option.none
 | n + 1 => fun f args st => match f with
  | .fn i j => match T.fn i j with
   | some d => ob (bindP d.params args d.defaults (locInit d.scope)) fun loc => retOf (evSs T pol (callN T pol n) d.body d.scope loc st)
   | none => match j with
    | 0 => ob (T.cls i) fun ms => ob (methAt (Str.ofString "__init__") ms) fun k => ob (clsAd i) fun a => ob (st.alloc a (.inst i [])) fun st =>
     pb (callN T pol n (.fn i k) (.ref a :: args) st) fun v st => noneThen a v st
    | _ => Option.none
  | _ => Option.none
noncomputable def prog : Program := PySem.Challenge.pw_nz0103_01
noncomputable def topS (i : Nat) : Option Stmt := prog.main.body[i]?
noncomputable def defaultOf : Expr → MV
 | .Constant .none _ _ => .none
 | .Constant (.bool b) _ _ => .bool b
 | .Constant (.int i) _ _ => .int i
 | .Constant (.str s) _ _ => .str s
 | .UnaryOp .USub (.Constant (.int i) _ _) _ => .int (-i)
 | .Tuple [] _ _ => .tup []
 | _ => .rng 0 0 0
noncomputable def fnOfStmt : Stmt → Option Fn
 | .FunctionDef name args body _ _ _ scope _ _ _ => some ⟨name, args.args.map (·.arg), args.defaults.map defaultOf, body, scope⟩
 | _ => none
noncomputable def clsB : Stmt → Option (List Stmt)
 | .ClassDef _ _ _ body _ _ _ _ _ _ _ => some body
 | _ => none
noncomputable def methOf (i j : Nat) : Option Fn := ob (topS i) fun s => ob (clsB s) fun b => ob b[j]? fnOfStmt
noncomputable def theFn (i j : Nat) : Option Fn := match j with
 | 0 => ob (topS i) fnOfStmt
 | j + 1 => methOf i j
noncomputable def nameOfStmt : Stmt → Str
 | .FunctionDef name .. => name
 | .ClassDef name .. => name
 | _ => Str.empty
noncomputable def theCls (i : Nat) : Option (List (Str × Nat)) := ob (topS i) fun s => ob (clsB s) fun b => some (b.zipIdx.map fun (s, j) => (nameOfStmt s, j + 1))
noncomputable def globTbl : List (List Nat × MV) := [([108, 101, 110], .bi "len"),
 ([114, 97, 110, 103, 101], .bi "range"),
 ([108, 105, 115, 116], .bi "list"),
 ([116, 117, 112, 108, 101], .bi "tuple"),
 ([115, 116, 114], .bi "str"),
 ([109, 97, 120], .bi "max"),
 ([111, 114, 100], .bi "ord"),
 ([99, 104, 114], .bi "chr"),
 ([115, 118, 103, 95, 97, 116, 116, 114, 95, 119, 111, 114, 100, 115], .fn 2 0),
 ([115, 112, 101, 108, 108, 101, 100], .fn 3 0),
 ([115, 118, 103, 95, 97, 116, 116, 114], .fn 4 0),
 ([109, 97, 116, 104, 95, 97, 116, 116, 114], .fn 5 0),
 ([102, 111, 114, 101, 105, 103, 110, 95, 97, 116, 116, 114], .fn 6 0),
 ([97, 100, 106, 117, 115, 116, 101, 100], .fn 7 0),
 ([105, 115, 95, 117, 112, 112, 101, 114], .fn 9 0),
 ([108, 111, 119, 101, 114], .fn 10 0),
 ([108, 111, 119, 101, 114, 95, 116, 101, 120, 116], .fn 11 0),
 ([105, 109, 112, 108, 105, 101, 100, 95, 110, 97, 109, 101, 115], .fn 16 0),
 ([112, 108, 97, 99, 101, 95, 102, 111, 114], .fn 19 0),
 ([109, 97, 107, 101], .fn 20 0),
 ([105, 110, 115, 101, 114, 116, 95, 101, 108, 101, 109, 101, 110, 116], .fn 21 0),
 ([105, 110, 115, 101, 114, 116, 95, 116, 111, 107, 101, 110], .fn 22 0),
 ([105, 110, 115, 101, 114, 116, 95, 118, 111, 105, 100], .fn 23 0),
 ([97, 115, 115, 111, 99, 105, 97, 116, 101], .fn 24 0),
 ([114, 101, 99, 111, 110, 115, 116, 114, 117, 99, 116], .fn 25 0),
 ([115, 116, 97, 114, 116, 95, 114, 97, 119], .fn 26 0),
 ([79, 112, 101, 110, 83, 116, 97, 99, 107], .fn 28 0),
 ([115, 116, 111, 112, 115, 95, 115, 99, 111, 112, 101], .fn 29 0),
 ([105, 110, 95, 115, 99, 111, 112, 101], .fn 30 0),
 ([112, 111, 112, 95, 105, 109, 112, 108, 105, 101, 100], .fn 31 0),
 ([118, 97, 108, 117, 101, 95, 111, 102], .fn 33 0),
 ([115, 116, 97, 114, 116, 95, 118, 111, 105, 100], .fn 35 0),
 ([115, 116, 97, 114, 116, 95, 105, 110, 112, 117, 116], .fn 36 0),
 ([115, 116, 97, 114, 116, 95, 105, 109, 97, 103, 101], .fn 37 0),
 ([115, 116, 97, 114, 116, 95, 116, 101, 120, 116, 97, 114, 101, 97], .fn 38 0),
 ([115, 116, 97, 114, 116, 95, 114, 97, 119, 95, 112, 97, 114, 116], .fn 39 0),
 ([115, 116, 97, 114, 116, 95, 115, 101, 108, 101, 99, 116], .fn 40 0),
 ([115, 116, 97, 114, 116, 95, 111, 112, 116, 105, 111, 110], .fn 41 0),
 ([115, 116, 97, 114, 116, 95, 114, 117, 98, 121, 95, 112, 97, 114, 116], .fn 42 0),
 ([115, 116, 97, 114, 116, 95, 102, 111, 114, 101, 105, 103, 110], .fn 43 0),
 ([115, 116, 97, 114, 116, 95, 97, 110, 121], .fn 44 0),
 ([105, 115, 95, 109, 105, 115, 112, 108, 97, 99, 101, 100], .fn 45 0),
 ([70, 111, 114, 109, 97, 116, 116, 105, 110, 103], .fn 50 0),
 ([97, 108, 105, 107, 101], .fn 51 0),
 ([84, 114, 101, 101], .fn 53 0),
 ([97, 98, 111, 118, 101], .fn 54 0),
 ([66, 117, 105, 108, 100, 101, 114], .fn 56 0),
 ([105, 115, 95, 104, 116, 109, 108, 95, 116, 117, 114, 110], .fn 57 0),
 ([95, 108, 97, 119, 95, 119, 111, 114, 100, 115], .fn 59 0),
 ([95, 108, 97, 119, 95, 117, 115, 117, 97, 108], .fn 60 0),
 ([95, 108, 97, 119, 95, 109, 111, 100, 101, 115], .fn 61 0),
 ([95, 108, 97, 119, 95, 116, 111, 107, 101, 110], .fn 62 0),
 ([95, 108, 97, 119, 95, 98, 111, 100, 121], .fn 63 0),
 ([95, 108, 97, 119, 95, 115, 101, 101, 110], .fn 64 0),
 ([95, 108, 97, 119, 95, 116, 111, 108, 100], .fn 65 0),
 ([95, 108, 97, 119, 95, 104, 101, 108, 100], .fn 66 0),
 ([95, 108, 97, 119, 95, 112, 117, 116], .fn 67 0),
 ([95, 108, 97, 119, 95, 97, 103, 97, 105, 110], .fn 68 0),
 ([95, 108, 97, 119, 95, 115, 112, 101, 108, 108, 101, 100], .fn 69 0),
 ([95, 108, 97, 119, 95, 114, 117, 98, 121, 95, 100, 117, 101], .fn 70 0),
 ([95, 108, 97, 119, 95, 111, 116, 104, 101, 114, 95, 100, 117, 101], .fn 71 0),
 ([95, 108, 97, 119, 95, 100, 117, 101], .fn 72 0)]
noncomputable def lq : List Nat → List Nat → Bool
 | [], [] => true
 | a :: x, b :: y => match Nat.beq a b with | true => lq x y | false => false
 | _, _ => false
noncomputable def glk (x : List Nat) : List (List Nat × MV) → Option MV
 | [] => none
 | (y, v) :: r => match lq y x with | true => some v | false => glk x r
noncomputable def theGlob (x : Str) : Option MV := glk x.cps.toList globTbl
noncomputable def theTab : Tab := ⟨theFn, theCls, theGlob⟩
theorem szA {a : Nat} : a < 1 + a := Nat.lt_add_of_pos_left Nat.one_pos
theorem szM {x a : Nat} : a < 1 + x + a := Nat.lt_add_of_pos_left (Nat.lt_of_lt_of_le Nat.one_pos (Nat.le_add_right _ _))
theorem szN {x y a : Nat} : a < 1 + x + y + a := Nat.lt_add_of_pos_left (Nat.lt_of_lt_of_le Nat.one_pos (Nat.le_trans (Nat.le_add_right _ _) (Nat.le_add_right _ _)))
theorem pad {a m b : Nat} (h : a < m) : a < m + b := Nat.lt_of_lt_of_le h (Nat.le_add_right _ _)
theorem szc {a m n : Nat} (h : a < m) (e : n = m) : a < n := e ▸ h
theorem sz_BoolOp_vs {op vs p} : sizeOf vs < sizeOf (Expr.BoolOp op vs p) := szc (pad szM) (Expr.BoolOp.sizeOf_spec ..)
theorem sz_BinOp_l {l op r p} : sizeOf l < sizeOf (Expr.BinOp l op r p) := szc (pad (pad (pad szA))) (Expr.BinOp.sizeOf_spec ..)
theorem sz_BinOp_r {l op r p} : sizeOf r < sizeOf (Expr.BinOp l op r p) := szc (pad szN) (Expr.BinOp.sizeOf_spec ..)
theorem sz_UnaryOp_x {op x p} : sizeOf x < sizeOf (Expr.UnaryOp op x p) := szc (pad szM) (Expr.UnaryOp.sizeOf_spec ..)
theorem sz_IfExp_t {t b o p} : sizeOf t < sizeOf (Expr.IfExp t b o p) := szc (pad (pad (pad szA))) (Expr.IfExp.sizeOf_spec ..)
theorem sz_IfExp_b {t b o p} : sizeOf b < sizeOf (Expr.IfExp t b o p) := szc (pad (pad szM)) (Expr.IfExp.sizeOf_spec ..)
theorem sz_IfExp_o {t b o p} : sizeOf o < sizeOf (Expr.IfExp t b o p) := szc (pad szN) (Expr.IfExp.sizeOf_spec ..)
theorem sz_Dict_ks {ks vs p} : sizeOf ks < sizeOf (Expr.Dict ks vs p) := szc (pad (pad szA)) (Expr.Dict.sizeOf_spec ..)
theorem sz_Dict_vs {ks vs p} : sizeOf vs < sizeOf (Expr.Dict ks vs p) := szc (pad szM) (Expr.Dict.sizeOf_spec ..)
theorem sz_List_es {es p} : sizeOf es < sizeOf (Expr.List es p) := szc (pad szA) (Expr.List.sizeOf_spec ..)
theorem sz_Tuple_es {es k p} : sizeOf es < sizeOf (Expr.Tuple es k p) := szc (pad (pad szA)) (Expr.Tuple.sizeOf_spec ..)
theorem sz_ListComp_e {e g sc p} : sizeOf e < sizeOf (Expr.ListComp e g sc p) := szc (pad (pad (pad szA))) (Expr.ListComp.sizeOf_spec ..)
theorem sz_ListComp_g {e g sc p} : sizeOf g < sizeOf (Expr.ListComp e g sc p) := szc (pad (pad szM)) (Expr.ListComp.sizeOf_spec ..)
theorem sz_Compare_l {l ops rs p} : sizeOf l < sizeOf (Expr.Compare l ops rs p) := szc (pad (pad (pad szA))) (Expr.Compare.sizeOf_spec ..)
theorem sz_Compare_rs {l ops rs p} : sizeOf rs < sizeOf (Expr.Compare l ops rs p) := szc (pad szN) (Expr.Compare.sizeOf_spec ..)
theorem sz_Call_f {f a k p} : sizeOf f < sizeOf (Expr.Call f a k p) := szc (pad (pad (pad szA))) (Expr.Call.sizeOf_spec ..)
theorem sz_Call_a {f a k p} : sizeOf a < sizeOf (Expr.Call f a k p) := szc (pad (pad szM)) (Expr.Call.sizeOf_spec ..)
theorem sz_Attribute_o {o x p} : sizeOf o < sizeOf (Expr.Attribute o x p) := szc (pad (pad szA)) (Expr.Attribute.sizeOf_spec ..)
theorem sz_Subscript_o {o i p} : sizeOf o < sizeOf (Expr.Subscript o i p) := szc (pad (pad szA)) (Expr.Subscript.sizeOf_spec ..)
theorem sz_Subscript_i {o i p} : sizeOf i < sizeOf (Expr.Subscript o i p) := szc (pad szM) (Expr.Subscript.sizeOf_spec ..)
theorem sz_Slice_l {l h s p} : sizeOf l < sizeOf (Expr.Slice l h s p) := szc (pad (pad (pad szA))) (Expr.Slice.sizeOf_spec ..)
theorem sz_Slice_h {l h s p} : sizeOf h < sizeOf (Expr.Slice l h s p) := szc (pad (pad szM)) (Expr.Slice.sizeOf_spec ..)
theorem sz_If_b {t b o p} : sizeOf b < sizeOf (Stmt.If t b o p) := szc (pad (pad szM)) (Stmt.If.sizeOf_spec ..)
theorem sz_If_o {t b o p} : sizeOf o < sizeOf (Stmt.If t b o p) := szc (pad szN) (Stmt.If.sizeOf_spec ..)
theorem sz_While_b {t b o p} : sizeOf b < sizeOf (Stmt.While t b o p) := szc (pad (pad szM)) (Stmt.While.sizeOf_spec ..)
theorem sz_For_b {t i b o p} : sizeOf b < sizeOf (Stmt.For t i b o p) := szc (pad (pad szN)) (Stmt.For.sizeOf_spec ..)
theorem sz_mk_t {t i ifs a} : sizeOf t < sizeOf (Comprehension.mk t i ifs a) := szc (pad (pad (pad szA))) (Comprehension.mk.sizeOf_spec ..)
theorem sz_mk_i {t i ifs a} : sizeOf i < sizeOf (Comprehension.mk t i ifs a) := szc (pad (pad szM)) (Comprehension.mk.sizeOf_spec ..)
theorem sz_mk_ifs {t i ifs a} : sizeOf ifs < sizeOf (Comprehension.mk t i ifs a) := szc (pad szN) (Comprehension.mk.sizeOf_spec ..)
theorem sz_some {e : Expr} : sizeOf e < sizeOf (some e) := szc szA (Option.some.sizeOf_spec ..)
theorem sz_sole {c : Comprehension} : sizeOf c < sizeOf [c] := List.sizeOf_lt_of_mem (.head _)
end Mine
namespace Mine
open PySem
noncomputable def lenAt : Option (List MV) → Nat
 | some l => l.length
 | none => 0
noncomputable def thePol : Pol := fun p st =>
 match p.line with
 | 348 => some .kinds | 349 => some .spaces | 350 => some .names | 351 => some .attrs | 352 => some .texts | 353 => some .parents | 354 => some .kids
 | 355 => some .contents | 137 => some .items | 293 => some .fitems | 443 => some .modes | 446 => some .owners | 452 => some .errors | 453 => some .pending
 | 635 => some .rules
 | 644 => match p.col with | 10 => some .due | 37 => some .active | 51 => some .derrors | _ => none
 | 645 => match p.col with | 19 => some .dnodes | 37 => some (.dc 0) | 67 => some (.dc 1) | 97 => some (.dc 2) | _ => none
 | 365 => some (.ch (lenAt st.kids))
 | 568 => match p.col with | 59 => some (.dc (lenAt st.dnodes)) | _ => none
 | 26 | 43 | 427 | 578 | 579 | 6 | 615 | 627 | 628 => some (.tm st.tm.length)
 | 677 => match p.col with | 103 => some (.tm st.tm.length) | _ => none
 | _ => none
noncomputable def st0 : St := {}
noncomputable def runLaw (ns : List Int) : Option MV := (callN theTab thePol 40 (.fn 73 0) [.lst (ns.map .int)] st0).map (·.1)
end Mine
namespace Mine
open PySem PySem.W PySem.Calls PyProof.Rows
theorem noK {α : Type} {P : Prop} {a : α} (h : none = some a) : P := nomatch h
theorem someK {α : Type} {P : α → Prop} {a r : α} (e : some a = some r) (h : P a) : P r := Option.some.inj e ▸ h
theorem ttK {P : Prop} (h : true = false) : P := nomatch h
theorem ffK {P : Prop} (h : false = true) : P := nomatch h
theorem ifE {α : Type} {c : Prop} [Decidable c] {x y : Option α} {r : α} (h : (if c then x else y) = some r) : c ∧ x = some r ∨ ¬ c ∧ y = some r := by
 by_cases hc : c
 ·exact .inl ⟨hc, (if_pos hc).symm.trans h⟩
 ·exact .inr ⟨hc, (if_neg hc).symm.trans h⟩
theorem ifK {α : Type} {c : Prop} [Decidable c] {P : Prop} {x : Option α} {y : α} (h : (if c then x else none) = some y) (k : c → x = some y → P) : P := by
 by_cases hc : c
 ·exact k hc ((if_pos hc).symm.trans h)
 ·exact noK ((if_neg hc).symm.trans h)
theorem ob_inv {α β : Type} {x : Option α} {f : α → Option β} {y : β} (h : ob x f = some y) : ∃ a, x = some a ∧ f a = some y := by
 cases x with
 | none => cases h
 | some a => exact ⟨a, rfl, h⟩
theorem pb_inv {α β : Type} {x : Option (α × St)} {f : α → St → Option β} {y : β} (h : pb x f = some y) : ∃ a st, x = some (a, st) ∧ f a st = some y := by
 cases x with
 | none => cases h
 | some a => exact ⟨a.1, a.2, rfl, h⟩
theorem obK {α β : Type} {P : Prop} {x : Option α} {f : α → Option β} {y : β} (h : ob x f = some y) (k : ∀ a, x = some a → f a = some y → P) : P :=
 let ⟨a, e, h⟩ := ob_inv h; k a e h
theorem pbK {α β : Type} {P : Prop} {x : Option (α × St)} {f : α → St → Option β} {y : β} (h : pb x f = some y) (k : ∀ a st, x = some (a, st) → f a st = some y → P) : P :=
 let ⟨a, st, e, h⟩ := pb_inv h; k a st e h
theorem asIntK {α : Type} {P : Prop} {v : MV} {f : Int → Option α} {r : α} (h : asInt v f = some r) (k : ∀ i, v = .int i → f i = some r → P) : P := by cases v <;> first | exact noK h | exact k _ rfl h
theorem asStrK {α : Type} {P : Prop} {v : MV} {f : Str → Option α} {r : α} (h : asStr v f = some r) (k : ∀ i, v = .str i → f i = some r → P) : P := by cases v <;> first | exact noK h | exact k _ rfl h
theorem asLstK {α : Type} {P : Prop} {v : MV} {f : List MV → Option α} {r : α} (h : asLst v f = some r) (k : ∀ i, v = .lst i → f i = some r → P) : P := by cases v <;> first | exact noK h | exact k _ rfl h
theorem asTupK {α : Type} {P : Prop} {v : MV} {f : List MV → Option α} {r : α} (h : asTup v f = some r) (k : ∀ i, v = .tup i → f i = some r → P) : P := by cases v <;> first | exact noK h | exact k _ rfl h
theorem atRefK {α : Type} {P : Prop} {v : MV} {f : Ad → Option α} {r : α} (h : atRef v f = some r) (k : ∀ i, v = .ref i → f i = some r → P) : P := by cases v <;> first | exact noK h | exact k _ rfl h
theorem atListK {α : Type} {P : Prop} {o : Option MO} {f : List MV → Option α} {r : α} (h : atList o f = some r) (k : ∀ vs, o = some (.list vs) → f vs = some r → P) : P := by rcases o with _ | ⟨_⟩ | ⟨_⟩ | ⟨_, _⟩ <;> first | exact noK h | exact k _ rfl h
theorem atDictK {α : Type} {P : Prop} {o : Option MO} {f : List (Str × MV) → Option α} {r : α} (h : atDict o f = some r) (k : ∀ vs, o = some (.dict vs) → f vs = some r → P) : P := by rcases o with _ | ⟨_⟩ | ⟨_⟩ | ⟨_, _⟩ <;> first | exact noK h | exact k _ rfl h
theorem atInstK {α : Type} {P : Prop} {o : Option MO} {f : Nat → List (Str × MV) → Option α} {r : α} (h : atInst o f = some r) (k : ∀ c vs, o = some (.inst c vs) → f c vs = some r → P) : P := by rcases o with _ | ⟨_⟩ | ⟨_⟩ | ⟨_, _⟩ <;> first | exact noK h | exact k _ _ rfl h
theorem arg0K {α : Type} {P : Prop} {l : List MV} {x : Option α} {r : α} (h : arg0 l x = some r) (k : l = [] → x = some r → P) : P := by cases l <;> first | exact noK h | exact k rfl h
theorem argcK {α : Type} {P : Prop} {l : List MV} {f : MV → List MV → Option α} {r : α} (h : argc l f = some r) (k : ∀ a t, l = a :: t → f a t = some r → P) : P := by cases l <;> first | exact noK h | exact k _ _ rfl h
theorem arg1K {α : Type} {P : Prop} {l : List MV} {f : MV → Option α} {r : α} (h : arg1 l f = some r) (k : ∀ a, l = [a] → f a = some r → P) : P := argcK h fun a _ e h => arg0K h fun e2 h => k a (e.trans (congrArg _ e2)) h
theorem arg2K {α : Type} {P : Prop} {l : List MV} {f : MV → MV → Option α} {r : α} (h : arg2 l f = some r) (k : ∀ a b, l = [a, b] → f a b = some r → P) : P := argcK h fun a _ e h => arg1K h fun b e2 h => k a b (e.trans (congrArg _ e2)) h
theorem givK {α : Type} {P : Prop} {v : α} {x : Option St} {r : α × St} (h : giv v x = some r) (k : ∀ st, x = some st → some (v, st) = some r → P) : P := by
 cases x with
 | none => exact noK h
 | some st => exact k _ rfl h
theorem finK {α β : Type} {P : α → β → Prop} {a v : α} {b w : β} (h : some (a, b) = some (v, w)) (k : P v w) : P a b := by cases h; exact k
theorem obR {α β : Type} {P : Prop} {x : Option α} {f : α → Option β} {y : β} (k : ∀ a, x = some a → f a = some y → P) (h : ob x f = some y) : P := obK h k
theorem pbR {α β : Type} {P : Prop} {x : Option (α × St)} {f : α → St → Option β} {y : β} (k : ∀ a st, x = some (a, st) → f a st = some y → P) (h : pb x f = some y) : P := pbK h k
theorem ifR {α : Type} {c : Prop} [Decidable c] {P : Prop} {x : Option α} {y : α} (k : c → x = some y → P) (h : (if c then x else none) = some y) : P := ifK h k
theorem wpE {α : Type} {M : Model} {A : Around} {t t' : Sem α} {Q : α → Shared → Prop} {E : Value → Shared → Prop} {s : Shared} (e : t = t') (h : wpAny M A t' Q E s) : wpAny M A t Q E s := e ▸ h
noncomputable abbrev Phi := Addr → Option Obj
noncomputable abbrev Mu := Ad → Option (Addr × Addr)
noncomputable def biVal (s : String) : Value := if s = "len" then .builtin "len" else if s = "max" then .builtin "max" else if s = "ord" then .builtin "ord" else if s = "chr" then .builtin "chr" else .type s
mutual
noncomputable def VR (ad : Nat → Nat → Addr) (φ : Phi) (μ : Mu) : MV → Value → Prop
 | .none, v => v = .none
 | .bool b, v => v = .bool b
 | .int i, v => ∃ t, v = .int i t
 | .str x, v => ∃ t, v = .str x t
 | .tup vs, v => ∃ a o ws n, v = .ref a ∧ φ a = some o ∧ o.cls = .type "tuple" ∧ o.data = .seq ws n ∧ VRs ad φ μ vs ws.toList
 | .lst vs, v => ∃ a ws n, v = .ref a ∧ φ a = some ⟨.type "list", none, .seq ws n, #[]⟩ ∧ VRs ad φ μ vs ws.toList
 | .rng lo hi st, v => ∃ a t u w, v = .ref a ∧ φ a = some ⟨.type "range", none, .fields #[.int lo t, .int hi u, .int st w], #[]⟩
 | .ref a, v => ∃ A D, v = .ref A ∧ μ a = some (A, D)
 | .fn i j, v => v = .ref (ad i j)
 | .bi x, v => v = biVal x
 | .arg vs, v => ∃ a o ws n, v = .ref a ∧ φ a = some o ∧ o.cls = .type "list" ∧ o.data = .seq ws n ∧ VRs ad φ μ vs ws.toList
noncomputable def VRs (ad : Nat → Nat → Addr) (φ : Phi) (μ : Mu) : List MV → List Value → Prop
 | [], ws => ws = []
 | v :: vs, ws => ∃ w r, ws = w :: r ∧ VR ad φ μ v w ∧ VRs ad φ μ vs r
end
section
variable {ad : Nat → Nat → Addr} {φ φ' : Phi} {μ μ' : Mu}
mutual
theorem VR.mono (hφ : ∀ a o, φ a = some o → φ' a = some o) (hμ : ∀ a p, μ a = some p → μ' a = some p) : ∀ {v : MV} {w : Value}, VR ad φ μ v w → VR ad φ' μ' v w
 | .none, _, h => h
 | .bool _, _, h => h
 | .int _, _, h => h
 | .str _, _, h => h
 | .tup vs, _, ⟨a, o, ws, n, e, h1, h2, h3, h4⟩ => ⟨a, o, ws, n, e, hφ _ _ h1, h2, h3, VRs.mono hφ hμ (vs := vs) h4⟩
 | .lst vs, _, ⟨a, ws, n, e, h1, h4⟩ => ⟨a, ws, n, e, hφ _ _ h1, VRs.mono hφ hμ (vs := vs) h4⟩
 | .rng .., _, ⟨a, t, u, w, e, h1⟩ => ⟨a, t, u, w, e, hφ _ _ h1⟩
 | .ref _, _, ⟨A, D, e, h⟩ => ⟨A, D, e, hμ _ _ h⟩
 | .fn .., _, h => h
 | .bi _, _, h => h
 | .arg vs, _, ⟨a, o, ws, n, e, h1, h2, h3, h4⟩ => ⟨a, o, ws, n, e, hφ _ _ h1, h2, h3, VRs.mono hφ hμ (vs := vs) h4⟩
theorem VRs.mono (hφ : ∀ a o, φ a = some o → φ' a = some o) (hμ : ∀ a p, μ a = some p → μ' a = some p) : ∀ {vs : List MV} {ws : List Value}, VRs ad φ μ vs ws → VRs ad φ' μ' vs ws
 | [], _, h => h
 | v :: _, _, ⟨w, r, e, h1, h2⟩ => ⟨w, r, e, VR.mono hφ hμ (v := v) h1, VRs.mono hφ hμ h2⟩
end
theorem VRs.nil : VRs ad φ μ [] [] := rfl
theorem VRs.cons {v : MV} {vs : List MV} {w : Value} {ws : List Value} (h : VR ad φ μ v w) (h' : VRs ad φ μ vs ws) : VRs ad φ μ (v :: vs) (w :: ws) := ⟨w, ws, rfl, h, h'⟩
theorem VRs.length : ∀ {vs : List MV} {ws : List Value}, VRs ad φ μ vs ws → ws.length = vs.length
 | [], _, h => by subst h; rfl
 | _ :: _, _, ⟨_, _, e, _, h⟩ => by subst e; simp only [List.length_cons, VRs.length h]
theorem VRs.append : ∀ {vs vs' : List MV} {ws ws' : List Value}, VRs ad φ μ vs ws → VRs ad φ μ vs' ws' → VRs ad φ μ (vs ++ vs') (ws ++ ws')
 | [], _, _, _, h, h' => by subst h; exact h'
 | _ :: _, _, _, _, ⟨w, r, e, h1, h2⟩, h' => by subst e; exact ⟨w, _, rfl, h1, VRs.append h2 h'⟩
theorem VRs.get : ∀ {vs : List MV} {ws : List Value}, VRs ad φ μ vs ws → ∀ {i : Nat} {v : MV}, vs[i]? = some v → ∃ w, ws[i]? = some w ∧ VR ad φ μ v w
 | [], _, _, _, _, e => by simp at e
 | _ :: _, _, ⟨w, r, e, h1, h2⟩, 0, v, e' => by subst e; simp only [List.getElem?_cons_zero, Option.some.injEq] at e' ⊢; subst e'; exact ⟨w, rfl, h1⟩
 | _ :: _, _, ⟨w, r, e, h1, h2⟩, i + 1, v, e' => by subst e; simp only [List.getElem?_cons_succ] at e' ⊢; exact VRs.get h2 e'
theorem VRs.take : ∀ {vs : List MV} {ws : List Value} (n : Nat), VRs ad φ μ vs ws → VRs ad φ μ (vs.take n) (ws.take n)
 | _, _, 0, _ => rfl
 | [], _, _ + 1, h => by subst h; rfl
 | _ :: _, _, n + 1, ⟨w, r, e, h1, h2⟩ => by subst e; exact ⟨w, _, rfl, h1, VRs.take n h2⟩
theorem VRs.drop : ∀ {vs : List MV} {ws : List Value} (n : Nat), VRs ad φ μ vs ws → VRs ad φ μ (vs.drop n) (ws.drop n)
 | _, _, 0, h => h
 | [], _, _ + 1, h => by subst h; rfl
 | _ :: _, _, n + 1, ⟨w, r, e, h1, h2⟩ => by subst e; exact VRs.drop n h2
theorem VRs.set : ∀ {vs : List MV} {ws : List Value} (n : Nat) {v : MV} {w : Value}, VRs ad φ μ vs ws → VR ad φ μ v w → VRs ad φ μ (vs.set n v) (ws.set n w)
 | [], _, _, _, _, h, _ => by subst h; rfl
 | _ :: _, _, 0, v, w, ⟨_, r, e, h1, h2⟩, h => by subst e; exact ⟨w, r, rfl, h, h2⟩
 | _ :: _, _, n + 1, _, _, ⟨w, r, e, h1, h2⟩, h => by subst e; exact ⟨w, _, rfl, h1, VRs.set n h2 h⟩
theorem VRs.eraseIdx : ∀ {vs : List MV} {ws : List Value} (n : Nat), VRs ad φ μ vs ws → VRs ad φ μ (vs.eraseIdx n) (ws.eraseIdx n)
 | [], _, _, h => by subst h; rfl
 | _ :: _, _, 0, ⟨_, r, e, h1, h2⟩ => by subst e; exact h2
 | _ :: _, _, n + 1, ⟨w, r, e, h1, h2⟩ => by subst e; exact ⟨w, _, rfl, h1, VRs.eraseIdx n h2⟩
theorem VRs.replicate {v : MV} {w : Value} (h : VR ad φ μ v w) : ∀ n, VRs ad φ μ (List.replicate n v) (List.replicate n w)
 | 0 => rfl
 | n + 1 => ⟨w, _, rfl, h, VRs.replicate h n⟩
end
structure Wld where
 P : Program
 w : World
 K : Frag
 h₀ : Heap
 p : Program
 loose : List Str
 mg : Str → Option Value
 mb : Str → Option Value
 ad : Nat → Nat → Addr
 T : Tab
 pol : Pol
 g₀ : Array GenState
 os₀ : OsState
 X : K.In h₀
 R : TopRead p loose mg mb h₀
noncomputable def Own (μ : Mu) (b : Addr) : Prop := ∃ a A D, μ a = some (A, D) ∧ (b = A ∨ b = D)
noncomputable def KV (Ω : Wld) (φ : Phi) (μ : Mu) : List (Str × MV) → List (Str × Value) → Prop
 | [], kvs => kvs = []
 | (x, v) :: r, kvs => ∃ w t, kvs = (x, w) :: t ∧ VR Ω.ad φ μ v w ∧ KV Ω φ μ r t
theorem KV.mono {Ω : Wld} {φ φ' : Phi} {μ μ' : Mu} (hφ : ∀ a o, φ a = some o → φ' a = some o) (hμ : ∀ a p, μ a = some p → μ' a = some p) : ∀ {fs : List (Str × MV)} {es : List (Str × Value)}, KV Ω φ μ fs es → KV Ω φ' μ' fs es
 | [], _, h => h
 | _ :: _, _, ⟨w, t, h1, h4, h5⟩ => ⟨w, t, h1, VR.mono hφ hμ h4, KV.mono hφ hμ h5⟩
noncomputable def OptR (Ω : Wld) (φ : Phi) (μ : Mu) : Option MV → Option Value → Prop
 | none, r => r = none
 | some v, r => ∃ w, r = some w ∧ VR Ω.ad φ μ v w
theorem OptR.mono {Ω : Wld} {φ φ' : Phi} {μ μ' : Mu} (hφ : ∀ a o, φ a = some o → φ' a = some o) (hμ : ∀ a p, μ a = some p → μ' a = some p) : ∀ {x : Option MV} {y : Option Value}, OptR Ω φ μ x y → OptR Ω φ' μ' x y
 | none, _, h => h
 | some _, _, ⟨w, e, h⟩ => ⟨w, e, VR.mono hφ hμ h⟩
noncomputable def InstD (Ω : Wld) (φ : Phi) (μ : Mu) (h : Heap) (D : Addr) (fs : List (Str × MV)) : Prop :=
 ∃ o es ep, h.get? D = some o ∧ o.data = .dict es ep ∧ StrKeys es ∧ es.size = fs.length ∧ ∀ x, OptR Ω φ μ (getK x fs) (nsFind es x)
noncomputable def ObjAt (Ω : Wld) (φ : Phi) (μ : Mu) (h : Heap) (A D : Addr) : MO → Prop
 | .list vs => D = A ∧ ∃ ws n, h.get? A = some ⟨.type "list", none, .seq ws n, #[]⟩ ∧ VRs Ω.ad φ μ vs ws.toList
 | .dict es => D = A ∧ ∃ kvs, h.DictOf (strKind Ω.P Ω.w) A kvs ∧ KV Ω φ μ es kvs
 | .inst c fs => A ≠ D ∧ h.get? A = some (instObj (Ω.ad c 0) D) ∧ (∀ p ∈ fs, fieldOk c p.1 = true) ∧ InstD Ω φ μ h D fs
structure Inv (Ω : Wld) (φ : Phi) (μ : Mu) (st : St) (s : Shared) : Prop where
 base : ∀ a o, Ω.h₀.get? a = some o → φ a = some o
 fro : ∀ a o, φ a = some o → s.heap.get? a = some o
 own : ∀ a o, st.get a = some o → ∃ A D, μ a = some (A, D) ∧ ObjAt Ω φ μ s.heap A D o
 inj : ∀ a b A D A' D', μ a = some (A, D) → μ b = some (A', D') → a ≠ b → A ≠ A' ∧ A ≠ D' ∧ D ≠ A' ∧ D ≠ D'
 off : ∀ a A D, μ a = some (A, D) → φ A = none ∧ φ D = none ∧ A < s.heap.objs.size ∧ D < s.heap.objs.size
 up : ∀ b, Own μ b → Ω.h₀.objs.size ≤ b
 base_le : Ω.h₀.objs.size ≤ s.heap.objs.size
 gens : s.gens = Ω.g₀
 os : s.os = Ω.os₀
 dom : ∀ a p, μ a = some p → (st.get a).isSome = true
structure Ext (φ : Phi) (μ : Mu) (h : Heap) (φ' : Phi) (μ' : Mu) (h' : Heap) : Prop where
 fro : ∀ a o, φ a = some o → φ' a = some o
 froN : ∀ a o, φ' a = some o → φ a = some o ∨ h.objs.size ≤ a
 mu : ∀ a p, μ a = some p → μ' a = some p
 ownN : ∀ b, Own μ' b → Own μ b ∨ h.objs.size ≤ b
 keep : ∀ b o, h.get? b = some o → ¬ Own μ b → h'.get? b = some o
 size : h.objs.size ≤ h'.objs.size
theorem Ext.refl {φ : Phi} {μ : Mu} {h : Heap} : Ext φ μ h φ μ h := ⟨fun _ _ e => e, fun _ _ e => .inl e, fun _ _ e => e, fun _ e => .inl e, fun _ _ e _ => e, Nat.le_refl _⟩
theorem Ext.trans {φ φ₁ φ₂ : Phi} {μ μ₁ μ₂ : Mu} {h h₁ h₂ : Heap} (x : Ext φ μ h φ₁ μ₁ h₁) (y : Ext φ₁ μ₁ h₁ φ₂ μ₂ h₂) : Ext φ μ h φ₂ μ₂ h₂ := by
 refine ⟨fun a o e => y.fro a o (x.fro a o e), fun a o e => ?_, fun a p e => y.mu a p (x.mu a p e), fun b e => ?_, fun b o e n => y.keep b o (x.keep b o e n) fun q => ?_, Nat.le_trans x.size y.size⟩
 ·rcases y.froN a o e with q | q
  ·exact x.froN a o q
  ·exact .inr (Nat.le_trans x.size q)
 ·rcases y.ownN b e with q | q
  ·exact x.ownN b q
  ·exact .inr (Nat.le_trans x.size q)
 ·rcases x.ownN b q with q | q
  ·exact n q
  ·exact absurd (Heap.lt_size e) (Nat.not_lt.mpr q)
section
variable {Ω : Wld} {φ φ' : Phi} {μ μ' : Mu} {st : St} {s : Shared}
theorem InstD.keep {h h' : Heap} {D : Addr} {fs : List (Str × MV)} (x : InstD Ω φ μ h D fs) (k : ∀ o, h.get? D = some o → h'.get? D = some o) : InstD Ω φ μ h' D fs :=
 let ⟨o, es, n, e, r⟩ := x; ⟨o, es, n, k _ e, r⟩
theorem InstD.mono {h : Heap} {D : Addr} {fs : List (Str × MV)} (x : InstD Ω φ μ h D fs) (hφ : ∀ a o, φ a = some o → φ' a = some o) (hμ : ∀ a p, μ a = some p → μ' a = some p) : InstD Ω φ' μ' h D fs :=
 let ⟨o, es, n, e, r1, r2, r3, r4⟩ := x; ⟨o, es, n, e, r1, r2, r3, fun x => (r4 x).mono hφ hμ⟩
theorem ObjAt.keep {h h' : Heap} {A D : Addr} {o : MO} (x : ObjAt Ω φ μ h A D o) (k : ∀ b o, (b = A ∨ b = D) → h.get? b = some o → h'.get? b = some o) : ObjAt Ω φ μ h' A D o := by
 cases o with
 | list vs => obtain ⟨e, ws, n, g, r⟩ := x; exact ⟨e, ws, n, k _ _ (.inl rfl) g, r⟩
 | dict es => obtain ⟨e, kvs, d, r⟩ := x; obtain ⟨o, ho, hd⟩ := Heap.dictOf_iff.mp d; exact ⟨e, kvs, Heap.dictOf_iff.mpr ⟨o, k _ _ (.inl rfl) ho, hd⟩, r⟩
 | inst c fs => obtain ⟨n, e, f, r⟩ := x; exact ⟨n, k _ _ (.inl rfl) e, f, r.keep fun o => k _ o (.inr rfl)⟩
theorem ObjAt.mono {h : Heap} {A D : Addr} {o : MO} (x : ObjAt Ω φ μ h A D o) (hφ : ∀ a o, φ a = some o → φ' a = some o) (hμ : ∀ a p, μ a = some p → μ' a = some p) : ObjAt Ω φ' μ' h A D o := by
 cases o with
 | list vs => obtain ⟨e, ws, n, g, r⟩ := x; exact ⟨e, ws, n, g, r.mono hφ hμ⟩
 | dict es => obtain ⟨e, kvs, d, r⟩ := x; exact ⟨e, kvs, d, r.mono hφ hμ⟩
 | inst c fs => obtain ⟨n, e, f, r⟩ := x; exact ⟨n, e, f, r.mono hφ hμ⟩
theorem Inv.K (I : Inv Ω φ μ st s) : ∀ b o, Ω.h₀.get? b = some o → s.heap.get? b = some o := fun b o e => I.fro b o (I.base b o e)
theorem Inv.X (I : Inv Ω φ μ st s) : Ω.K.In s.heap := Ω.X.keeps I.K
theorem Inv.keep (I : Inv Ω φ μ st s) {h' : Heap} {tk : Nat} (k : ∀ b o, s.heap.get? b = some o → ((∃ o, φ b = some o) ∨ Own μ b) → h'.get? b = some o) (hs : s.heap.objs.size ≤ h'.objs.size) : Inv Ω φ μ st { s with heap := h', toks := tk } := by
 refine ⟨I.base, fun a o e => k a o (I.fro a o e) (.inl ⟨o, e⟩), fun a o e => ?_, I.inj, fun a A D e => ?_, I.up, ?_, I.gens, I.os, I.dom⟩
 ·obtain ⟨A, D, m, x⟩ := I.own a o e
  exact ⟨A, D, m, x.keep fun b o q e => k b o e (.inr ⟨a, A, D, m, q⟩)⟩
 ·obtain ⟨a1, a2, a3, a4⟩ := I.off a A D e
  exact ⟨a1, a2, Nat.lt_of_lt_of_le a3 hs, Nat.lt_of_lt_of_le a4 hs⟩
 ·exact Nat.le_trans I.base_le hs
theorem Inv.tok (I : Inv Ω φ μ st s) (tk : Nat) : Inv Ω φ μ st { s with toks := tk } := I.keep (h' := s.heap) (fun _ _ e _ => e) (Nat.le_refl _)
theorem Inv.push (I : Inv Ω φ μ st s) (o : Obj) (tk : Nat) : Inv Ω φ μ st { s with heap := s.heap.push o, toks := tk } :=
 I.keep (fun _ _ e _ => Heap.get?_push_of_some _ e) (by rw [Heap.size_push]; exact Nat.le_succ _)
theorem Ext.push {h : Heap} (o : Obj) : Ext φ μ h φ μ (h.push o) :=
 ⟨fun _ _ e => e, fun _ _ e => .inl e, fun _ _ e => e, fun _ e => .inl e, fun _ _ e _ => Heap.get?_push_of_some _ e, by rw [Heap.size_push]; exact Nat.le_succ _⟩
theorem Ext.keeps {h h' : Heap} (k : ∀ b o, h.get? b = some o → h'.get? b = some o) (hs : h.objs.size ≤ h'.objs.size) : Ext φ μ h φ μ h' :=
 ⟨fun _ _ e => e, fun _ _ e => .inl e, fun _ _ e => e, fun _ e => .inl e, fun _ _ e _ => k _ _ e, hs⟩
theorem Inv.keeps (I : Inv Ω φ μ st s) {h' : Heap} {tk : Nat} (k : ∀ b o, s.heap.get? b = some o → h'.get? b = some o) (hs : s.heap.objs.size ≤ h'.objs.size) : Inv Ω φ μ st { s with heap := h', toks := tk } :=
 I.keep (fun _ _ e _ => k _ _ e) hs
noncomputable def putF {α β : Type} [DecidableEq α] (f : α → Option β) (a : α) (b : β) : α → Option β := fun x => if x = a then some b else f x
theorem putF_self {α β : Type} [DecidableEq α] (f : α → Option β) (a : α) (b : β) : putF f a b a = some b := if_pos rfl
theorem putF_ne {α β : Type} [DecidableEq α] (f : α → Option β) {a x : α} (b : β) (h : x ≠ a) : putF f a b x = f x := if_neg h
theorem Inv.new_none (I : Inv Ω φ μ st s) : φ s.heap.objs.size = none := by
 cases q : φ s.heap.objs.size with
 | none => rfl
 | some o => exact absurd (Heap.lt_size (I.fro _ _ q)) (Nat.lt_irrefl _)
theorem Inv.phi_lt (I : Inv Ω φ μ st s) {a : Addr} {o : Obj} (e : φ a = some o) : a < s.heap.objs.size := Heap.lt_size (I.fro _ _ e)
theorem Inv.own_lt (I : Inv Ω φ μ st s) {b : Addr} (e : Own μ b) : b < s.heap.objs.size := by
 obtain ⟨a, A, D, m, q⟩ := e
 obtain ⟨_, _, x, y⟩ := I.off a A D m
 rcases q with rfl | rfl <;> assumption
theorem Inv.own_off (I : Inv Ω φ μ st s) {b : Addr} (e : Own μ b) : φ b = none := by
 obtain ⟨a, A, D, m, q⟩ := e
 obtain ⟨x, y, _, _⟩ := I.off a A D m
 rcases q with rfl | rfl <;> assumption
theorem Inv.freeze (I : Inv Ω φ μ st s) (o : Obj) (tk : Nat) (hf : o.isFreed = false) :
  Inv Ω (putF φ s.heap.objs.size o) μ st { s with heap := s.heap.push o, toks := tk } ∧ Ext φ μ s.heap (putF φ s.heap.objs.size o) μ (s.heap.push o) := by
 have hφ : ∀ a o', φ a = some o' → putF φ s.heap.objs.size o a = some o' := fun a o' e => by
  rw [putF_ne _ _ (Nat.ne_of_lt (I.phi_lt e))]; exact e
 refine ⟨⟨fun a o' e => hφ a o' (I.base a o' e), fun a o' e => ?_, fun a o' e => ?_, I.inj, fun a A D e => ?_, I.up, ?_, I.gens, I.os, I.dom⟩, ⟨hφ, fun a o' e => ?_, fun _ _ e => e, fun _ e => .inl e, fun _ _ e _ => Heap.get?_push_of_some _ e, by rw [Heap.size_push]; exact Nat.le_succ _⟩⟩
 ·unfold putF at e
  split at e
  ·rename_i q; cases e; subst q; exact Heap.get?_push_size _ hf
  ·exact Heap.get?_push_of_some _ (I.fro a o' e)
 ·obtain ⟨A, D, m, x⟩ := I.own a o' e
  exact ⟨A, D, m, (x.keep fun b o q e => Heap.get?_push_of_some _ e).mono hφ fun _ _ e => e⟩
 ·obtain ⟨a1, a2, a3, a4⟩ := I.off a A D e
  refine ⟨(putF_ne _ _ (Nat.ne_of_lt a3)).trans a1, (putF_ne _ _ (Nat.ne_of_lt a4)).trans a2, ?_, ?_⟩ <;> show _ < (s.heap.push o).objs.size <;> rw [Heap.size_push] <;> apply Nat.lt_succ_of_lt <;> assumption
 ·show _ ≤ (s.heap.push o).objs.size
  rw [Heap.size_push]; exact Nat.le_succ_of_le I.base_le
 ·unfold putF at e
  split at e
  ·rename_i q; exact .inr (Nat.le_of_eq q.symm)
  ·exact .inl e
theorem putL_get {α : Type} {l l' : List α} {i : Nat} {x : α} (h : putL l i x = some l') : l'[i]? = some x ∧ ∀ j, j ≠ i → l'[j]? = l[j]? := by
 unfold putL at h
 split at h
 ·rename_i hi
  cases h
  exact ⟨by rw [List.getElem?_set_self hi], fun j hj => List.getElem?_set_ne (Ne.symm hj)⟩
 ·split at h
  ·rename_i hi
   cases h
   subst hi
   refine ⟨by simp, fun j hj => ?_⟩
   rcases Nat.lt_or_gt_of_ne hj with q | q
   ·rw [List.getElem?_append_left q]
   ·rw [List.getElem?_eq_none (by simp; lia), List.getElem?_eq_none (by lia)]
  ·first | exact noK h | exact ffK h | cases h
noncomputable def adS : List Ad := [.kinds, .spaces, .names, .attrs, .texts, .parents, .kids, .contents, .items, .fitems, .modes, .owners, .errors, .pending, .rules, .due, .active, .derrors, .dnodes, .tree, .stack, .fmt, .builder]
theorem map_eq {α β : Type} {f g : α → β} : ∀ {l : List α}, l.map f = l.map g → ∀ x ∈ l, f x = g x
 | _ :: _, e, _, .head _ => (List.cons.inj e).1
 | _ :: _, e, _, .tail _ h => map_eq (List.cons.inj e).2 _ h
noncomputable def Put (st st' : St) (a : Ad) (o : MO) : Prop := st'.get a = some o ∧ ∀ b, b ≠ a → st'.get b = st.get b
theorem put_of {st x st' : St} {a : Ad} {o : MO} (h : some x = some st') (k : Put st x a o) : Put st st' a o := by cases h; exact k
theorem adS_or (b : Ad) : b ∈ adS ∨ (∃ i, b = .ch i) ∨ (∃ i, b = .dc i) ∨ ∃ i, b = .tm i := by
 cases b with
 | ch i => exact .inr (.inl ⟨i, rfl⟩)
 | dc i => exact .inr (.inr (.inl ⟨i, rfl⟩))
 | tm i => exact .inr (.inr (.inr ⟨i, rfl⟩))
 | _ => exact .inl (by decide)
theorem put_simple {st x : St} {a : Ad} {o : MO} (h0 : x.get a = some o) (h1 : (adS.filter fun b => !decide (b = a)).map x.get = (adS.filter fun b => !decide (b = a)).map st.get) (h2 : x.ch = st.ch) (h3 : x.dc = st.dc) (h4 : x.tm = st.tm) : Put st x a o := by
 refine ⟨h0, fun b hb => ?_⟩
 rcases adS_or b with h | ⟨i, rfl⟩ | ⟨i, rfl⟩ | ⟨i, rfl⟩
 ·exact map_eq h1 b (List.mem_filter.mpr ⟨h, by simp [hb]⟩)
 ·show asL x.ch[i]? = asL st.ch[i]?
  rw [h2]
 ·show asL x.dc[i]? = asL st.dc[i]?
  rw [h3]
 ·show x.tm[i]? = st.tm[i]?
  rw [h4]
theorem pl_inv {α : Type} {x : Option α} {f : α → St} {r : St} (h : pl x f = some r) : ∃ l, x = some l ∧ r = f l := by
 cases x with
 | none => exact noK h
 | some l => cases h; exact ⟨l, rfl, rfl⟩
theorem put_all {st st' : St} {a : Ad} {o : MO} : st.put a o = some st' → Put st st' a o := by
 cases o with
 | list vs =>
  cases a with
  | ch i =>
   intro h
   obtain ⟨l, q, rfl⟩ := pl_inv h
   refine ⟨congrArg asL (putL_get q).1, fun b hb => ?_⟩
   cases b <;> first | rfl | exact congrArg asL ((putL_get q).2 _ fun e => hb (by rw [e]))
  | dc i =>
   intro h
   obtain ⟨l, q, rfl⟩ := pl_inv h
   refine ⟨congrArg asL (putL_get q).1, fun b hb => ?_⟩
   cases b <;> first | rfl | exact congrArg asL ((putL_get q).2 _ fun e => hb (by rw [e]))
  | tm i =>
   intro h
   obtain ⟨l, q, rfl⟩ := pl_inv h
   refine ⟨(putL_get q).1, fun b hb => ?_⟩
   cases b <;> first | rfl | exact (putL_get q).2 _ fun e => hb (by rw [e])
  | _ => first | exact fun h => noK h | exact fun h => put_of h (put_simple rfl rfl rfl rfl rfl)
 | dict es =>
  cases a with
  | tm i =>
   intro h
   obtain ⟨l, q, rfl⟩ := pl_inv h
   refine ⟨(putL_get q).1, fun b hb => ?_⟩
   cases b <;> first | rfl | exact (putL_get q).2 _ fun e => hb (by rw [e])
  | _ => first | exact fun h => noK h | exact fun h => put_of h (put_simple rfl rfl rfl rfl rfl)
 | inst c fs =>
  cases a <;> first | exact fun h => noK h | (refine fun h => ifK h fun hc h => ?_; subst hc; exact put_of h (put_simple rfl rfl rfl rfl rfl))
theorem get_put_self {st st' : St} {a : Ad} {o : MO} (h : st.put a o = some st') : st'.get a = some o := (put_all h).1
theorem get_put_ne {st st' : St} {a b : Ad} {o : MO} (h : st.put a o = some st') (hb : b ≠ a) : st'.get b = st.get b := (put_all h).2 b hb
theorem Inv.free (I : Inv Ω φ μ st s) {a : Ad} (h : st.get a = none) : μ a = none := by
 cases q : μ a with
 | none => rfl
 | some p => have := I.dom a p q; rw [h] at this; cases this
theorem alloc_free {a : Ad} {o : MO} {st' : St} (h : st.alloc a o = some st') : st.get a = none ∧ st.put a o = some st' := by
 unfold St.alloc at h
 split at h
 ·exact ⟨‹_›, h⟩
 ·first | exact noK h | exact ffK h | cases h
theorem Own.put {μ : Mu} {a : Ad} {A D b : Addr} : Own (putF μ a (A, D)) b → Own μ b ∨ b = A ∨ b = D := by
 rintro ⟨c, C, E, m, q⟩
 unfold putF at m
 split at m
 ·cases m; exact .inr q
 ·exact .inl ⟨c, C, E, m, q⟩
theorem Inv.alloc1 (I : Inv Ω φ μ st s) {st' : St} {a : Ad} {o : MO} {ob : Obj} (tk : Nat) (ha : st.alloc a o = some st')
  (hob : ∀ μ', (∀ a p, μ a = some p → μ' a = some p) → ObjAt Ω φ μ' (s.heap.push ob) s.heap.objs.size s.heap.objs.size o) :
  Inv Ω φ (putF μ a (s.heap.objs.size, s.heap.objs.size)) st' { s with heap := s.heap.push ob, toks := tk } ∧ Ext φ μ s.heap φ (putF μ a (s.heap.objs.size, s.heap.objs.size)) (s.heap.push ob) := by
 have hm : μ a = none := I.free (alloc_free ha).1
 unfold St.alloc at ha
 split at ha
 ·rename_i hg
  have hμ : ∀ b p, μ b = some p → putF μ a (s.heap.objs.size, s.heap.objs.size) b = some p := fun b p e => by
   rw [putF_ne _ _ (fun q => by rw [q, hm] at e; cases e)]; exact e
  refine ⟨⟨I.base, fun a o' e => Heap.get?_push_of_some _ (I.fro a o' e), fun b o' e => ?_, fun b c A D A' D' mb mc hbc => ?_, fun b A D mb => ?_, fun b e => ?_, ?_, I.gens, I.os, fun b p e => ?_⟩,
   ⟨fun _ _ e => e, fun _ _ e => .inl e, hμ, fun b e => ?_, fun _ _ e _ => Heap.get?_push_of_some _ e, by rw [Heap.size_push]; exact Nat.le_succ _⟩⟩
  ·by_cases hb : b = a
   ·subst hb
    rw [get_put_self ha] at e
    cases e
    exact ⟨_, _, putF_self _ _ _, hob _ hμ⟩
   ·rw [get_put_ne ha hb] at e
    obtain ⟨A, D, m, x⟩ := I.own b o' e
    exact ⟨A, D, hμ _ _ m, (x.keep fun b o q e => Heap.get?_push_of_some _ e).mono (fun _ _ e => e) hμ⟩
  ·unfold putF at mb mc
   split at mb
   ·rename_i q
    split at mc
    ·rename_i q'; exact absurd (q.trans q'.symm) hbc
    ·first | exact noK mb | exact ffK mb | cases mb
     obtain ⟨_, _, x, y⟩ := I.off c A' D' mc
     have x := Nat.ne_of_gt x
     have y := Nat.ne_of_gt y
     exact ⟨x, y, x, y⟩
   ·split at mc
    ·first | exact noK mc | exact ffK mc | cases mc
     obtain ⟨_, _, x, y⟩ := I.off b A D mb
     have x := Nat.ne_of_lt x
     have y := Nat.ne_of_lt y
     exact ⟨x, x, y, y⟩
    ·exact I.inj b c A D A' D' mb mc hbc
  ·unfold putF at mb
   split at mb
   ·first | exact noK mb | exact ffK mb | cases mb
    refine ⟨I.new_none, I.new_none, ?_, ?_⟩ <;> show _ < (s.heap.push ob).objs.size <;> rw [Heap.size_push] <;> exact Nat.lt_succ_self _
   ·obtain ⟨x, y, z, w⟩ := I.off b A D mb
    refine ⟨x, y, ?_, ?_⟩ <;> show _ < (s.heap.push ob).objs.size <;> rw [Heap.size_push] <;> apply Nat.lt_succ_of_lt <;> assumption
  ·have hb := I.base_le
   rcases Own.put e with q | q | q
   ·exact I.up b q
   ·rw [q]; exact hb
   ·rw [q]; exact hb
  ·show _ ≤ (s.heap.push ob).objs.size
   rw [Heap.size_push]; exact Nat.le_succ_of_le I.base_le
  ·by_cases hb : b = a
   ·subst hb; rw [get_put_self ha]; rfl
   ·rw [get_put_ne ha hb]
    rw [putF_ne _ _ hb] at e
    exact I.dom b p e
  ·rcases Own.put e with q | q | q
   ·exact .inl q
   ·exact .inr (Nat.le_of_eq q.symm)
   ·exact .inr (Nat.le_of_eq q.symm)
 ·first | exact noK ha | exact ffK ha | cases ha
theorem Inv.upd (I : Inv Ω φ μ st s) {st' : St} {a : Ad} {A D b : Addr} {o : MO} {h' : Heap} (tk : Nat) (hp : st.put a o = some st') (hm : μ a = some (A, D)) (hb : b = A ∨ b = D)
  (hs : Heap.SameBut b s.heap h') (ho : ObjAt Ω φ μ h' A D o) :
  Inv Ω φ μ st' { s with heap := h', toks := tk } ∧ Ext φ μ s.heap φ μ h' := by
 have hown : Own μ b := ⟨a, A, D, hm, hb⟩
 refine ⟨⟨I.base, fun c oc e => (hs.2 c fun q => ?_).trans (I.fro c oc e), fun c oc e => ?_, I.inj, fun c C E mc => ?_, I.up, ?_, I.gens, I.os, fun c p e => ?_⟩,
  ⟨fun _ _ e => e, fun _ _ e => .inl e, fun _ _ e => e, fun _ e => .inl e, fun c oc e n => (hs.2 c fun q => n (q ▸ hown)).trans e, Nat.le_of_eq hs.1.symm⟩⟩
 ·rw [q, I.own_off hown] at e; cases e
 ·by_cases hc : c = a
  ·subst hc
   rw [get_put_self hp] at e
   cases e
   exact ⟨A, D, hm, ho⟩
  ·rw [get_put_ne hp hc] at e
   obtain ⟨C, E, mc, x⟩ := I.own c oc e
   refine ⟨C, E, mc, x.keep fun d od hd e => (hs.2 d fun q => ?_).trans e⟩
   obtain ⟨n1, n2, n3, n4⟩ := I.inj c a C E A D mc hm hc
   rw [q] at hd
   rcases hd with rfl | rfl <;> rcases hb with rfl | rfl <;> first | exact n1 rfl | exact n2 rfl | exact n3 rfl | exact n4 rfl
 ·obtain ⟨x, y, z, w⟩ := I.off c C E mc
  exact ⟨x, y, hs.1 ▸ z, hs.1 ▸ w⟩
 ·show _ ≤ h'.objs.size
  rw [hs.1]; exact I.base_le
 ·by_cases hc : c = a
  ·subst hc; rw [get_put_self hp]; rfl
  ·rw [get_put_ne hp hc]; exact I.dom c p e
end
end Mine
namespace Mine
open PySem PySem.W PySem.Calls PyProof.Rows PySem.SeqAt
structure Room (n : Nat) (A : Around) : Prop where
 hh : A.handled = none
 d : A.depth + 3 * n + 20 < 1000
 u : A.units + 10 * n + 200 < 9900
theorem Room.cl {n : Nat} {A : Around} (R : Room n A) (k : Nat) (hk : k ≤ 100) : A.units + k < cLine := by
 have := R.u
 show A.units + k < 9900
 lia
theorem Room.in1 {n : Nat} {A : Around} (R : Room n A) : A.in1.handled = none := R.hh
structure FrOk (Ω : Wld) (φ : Phi) (μ : Mu) (h : Heap) (env : Env) (loc : Loc) : Prop where
 kind : env.scope.kind = .function
 gl : env.globals = mainGlobals
 bu : env.builtins = builtinsNs
 lo : ∃ m, h.Ns env.locals m ∧ ∀ x v, env.kindOf x = some .local → getL x loc = some v → ∃ V, m x = some V ∧ VR Ω.ad φ μ v V
 cel : ∀ x v, (env.kindOf x = some .cell ∨ env.kindOf x = some .free) → getL x loc = some v → ∃ c V, env.cells.lookup x = some c ∧ h.IsCell c (some V) ∧ VR Ω.ad φ μ v V
 has : ∀ x, env.kindOf x = some .cell → ∃ c ov, env.cells.lookup x = some c ∧ h.IsCell c ov
 offL : φ env.locals = none ∧ ¬ Own μ env.locals
 offC : ∀ x c, env.cells.lookup x = some c → φ c = none ∧ ¬ Own μ c ∧ c ≠ env.locals ∧ c < h.objs.size
 dis : ∀ x y c, env.cells.lookup x = some c → env.cells.lookup y = some c → x = y
section
variable {Ω : Wld} {φ φ' : Phi} {μ μ' : Mu} {h h' : Heap} {env : Env} {loc : Loc}
theorem FrOk.lt (F : FrOk Ω φ μ h env loc) : env.locals < h.objs.size := let ⟨_, n, _⟩ := F.lo; n.lt
theorem Ext.offA (x : Ext φ μ h φ' μ' h') {a : Addr} (hl : a < h.objs.size) (e : φ a = none ∧ ¬ Own μ a) : φ' a = none ∧ ¬ Own μ' a := by
 refine ⟨?_, fun q => ?_⟩
 ·cases q : φ' a with
  | none => rfl
  | some o =>
   rcases x.froN a o q with z | z
   ·rw [e.1] at z; cases z
   ·exact absurd hl (Nat.not_lt.mpr z)
 ·rcases x.ownN a q with z | z
  ·exact e.2 z
  ·exact absurd hl (Nat.not_lt.mpr z)
theorem FrOk.ext (F : FrOk Ω φ μ h env loc) (x : Ext φ μ h φ' μ' h') : FrOk Ω φ' μ' h' env loc := by
 obtain ⟨m, ⟨o, es, ep, ho, r⟩, hm⟩ := F.lo
 refine ⟨F.kind, F.gl, F.bu, ⟨m, ⟨o, es, ep, x.keep _ _ ho F.offL.2, r⟩, fun y v k e => ?_⟩, fun y v k e => ?_, fun y k => ?_, x.offA F.lt F.offL, fun y c e => ?_, F.dis⟩
 ·obtain ⟨V, e1, e2⟩ := hm y v k e
  exact ⟨V, e1, e2.mono x.fro x.mu⟩
 ·obtain ⟨c, V, e1, ⟨oc, hc, hd⟩, e2⟩ := F.cel y v k e
  exact ⟨c, V, e1, ⟨oc, x.keep _ _ hc (F.offC y c e1).2.1, hd⟩, e2.mono x.fro x.mu⟩
 ·obtain ⟨c, ov, e1, ⟨oc, hc, hd⟩⟩ := F.has y k
  exact ⟨c, ov, e1, ⟨oc, x.keep _ _ hc (F.offC y c e1).2.1, hd⟩⟩
 ·obtain ⟨a1, a2, a3, a4⟩ := F.offC y c e
  obtain ⟨b1, b2⟩ := x.offA a4 ⟨a1, a2⟩
  exact ⟨b1, b2, a3, Nat.lt_of_lt_of_le a4 x.size⟩
end
theorem dec_beq {α : Type} [DecidableEq α] (a b : α) : decide (a = b) = (a == b) := by by_cases h : a = b <;> simp [h]
theorem kindAt_eq (x : Str) : ∀ l : List (Str × NameKind), kindAt x l = l.lookup x
 | [] => rfl
 | (y, k) :: r => by
  unfold kindAt
  rw [List.lookup_cons]
  by_cases e : y = x
  ·subst e; simp
  ·have : (x == y) = false := by simpa using fun q => e q.symm
   rw [if_neg e, this]; exact kindAt_eq x r
section
variable {Ω : Wld} {φ : Phi} {μ : Mu} {st : St} {s : Shared} {A : Around}
theorem isTuple_of {h : Heap} (k : ∀ a o, φ a = some o → h.get? a = some o) {a : Addr} {o : Obj} {ws : Array Value} {n : Nat} (e : φ a = some o) (c : o.cls = .type "tuple") (d : o.data = .seq ws n) : h.IsTuple a ws := ⟨o, k _ _ e, c, n, d⟩
theorem isList_of {h : Heap} {a : Addr} {ws : Array Value} {n : Nat} (e : h.get? a = some ⟨.type "list", none, .seq ws n, #[]⟩) : h.IsList a ws := ⟨_, e, rfl, n, rfl⟩
theorem asList (I : Inv Ω φ μ st s) {v : MV} {V : Value} (r : VR Ω.ad φ μ v V) {vs : List MV} (e : v = .lst vs ∨ ∃ a, v = .ref a ∧ st.get a = some (.list vs)) :
  ∃ a ws n, V = .ref a ∧ s.heap.get? a = some ⟨.type "list", none, .seq ws n, #[]⟩ ∧ VRs Ω.ad φ μ vs ws.toList := by
 rcases e with rfl | ⟨a, rfl, g⟩
 ·obtain ⟨a, ws, n, e, h, q⟩ := r
  exact ⟨a, ws, n, e, I.fro _ _ h, q⟩
 ·obtain ⟨A, D, rfl, m⟩ := r
  obtain ⟨A', D', m', o⟩ := I.own a _ g
  rw [m] at m'
  cases m'
  obtain ⟨rfl, ws, n, h, q⟩ := o
  exact ⟨D, ws, n, rfl, h, q⟩
theorem eqAtom_elim {P : MV → MV → Bool → Prop} {a b : MV} {r : Bool} (e : eqAtom a b = some r) (h1 : P .none .none true) (h2 : ∀ x y, P (.bool x) (.bool y) (decide (x = y))) (h3 : ∀ x y, P (.int x) (.int y) (decide (x = y)))
  (h4 : ∀ x y, P (.str x) (.str y) (decide (x = y))) (h5 : ∀ x, P .none (.str x) false) (h6 : ∀ x, P (.str x) .none false) (h7 : ∀ x, P .none (.int x) false) (h8 : ∀ x, P (.int x) .none false) : P a b r := by
 cases a <;> first
  | exact noK e
  | (cases b <;> first | exact noK e | exact someK e h1 | exact someK e (h2 _ _) | exact someK e (h3 _ _) | exact someK e (h4 _ _) | exact someK e (h5 _) | exact someK e (h6 _) | exact someK e (h7 _) | exact someK e (h8 _))
theorem eqAtom_sound {a b : MV} {V W : Value} {r : Bool} (e : eqAtom a b = some r) (ra : VR Ω.ad φ μ a V) (rb : VR Ω.ad φ μ b W) : EqAt A s V W r := by
 revert ra rb
 refine eqAtom_elim (P := fun a b r => VR Ω.ad φ μ a V → VR Ω.ad φ μ b W → EqAt A s V W r) e ?_ (fun x y => ?_) (fun x y => ?_) (fun x y => ?_) (fun x => ?_) (fun x => ?_) (fun x => ?_) (fun x => ?_)
 ·rintro rfl rfl; exact EqAt.same _
 ·rintro rfl rfl; rw [dec_beq]; exact EqAt.bool_bool _ _
 ·rintro ⟨t, rfl⟩ ⟨u, rfl⟩; rw [dec_beq]; exact EqAt.int_int _ _ _ _
 ·rintro ⟨t, rfl⟩ ⟨u, rfl⟩; rw [dec_beq]; exact EqAt.str_str _ _ _ _
 ·rintro rfl ⟨u, rfl⟩; exact EqAt.none_str _ _
 ·rintro ⟨u, rfl⟩ rfl; exact EqAt.str_none _ _
 ·rintro rfl ⟨u, rfl⟩; exact EqAt.none_int _ _
 ·rintro ⟨u, rfl⟩ rfl; exact EqAt.int_none _ _
theorem eqAtom_rc {a b : MV} {V W : Value} {r : Bool} (e : eqAtom a b = some r) (ra : VR Ω.ad φ μ a V) (rb : VR Ω.ad φ μ b W) : RcAt A s V W r ∧ RcNeAt A s V W (!r) := by
 revert ra rb
 refine eqAtom_elim (P := fun a b r => VR Ω.ad φ μ a V → VR Ω.ad φ μ b W → RcAt A s V W r ∧ RcNeAt A s V W (!r)) e ?_ (fun x y => ?_) (fun x y => ?_) (fun x y => ?_) (fun x => ?_) (fun x => ?_) (fun x => ?_) (fun x => ?_)
 ·rintro rfl rfl; exact ⟨RcAt.none_none, RcNeAt.none_none⟩
 ·rintro rfl rfl; rw [dec_beq]; exact ⟨RcAt.bool_bool _ _, RcNeAt.bool_bool _ _⟩
 ·rintro ⟨t, rfl⟩ ⟨u, rfl⟩; rw [dec_beq]; exact ⟨RcAt.int_int _ _ _ _, RcNeAt.int_int _ _ _ _⟩
 ·rintro ⟨t, rfl⟩ ⟨u, rfl⟩; rw [dec_beq]; exact ⟨RcAt.str_str _ _ _ _, RcNeAt.str_str _ _ _ _⟩
 ·rintro rfl ⟨u, rfl⟩; exact ⟨RcAt.none_str _ _, RcNeAt.none_str _ _⟩
 ·rintro ⟨u, rfl⟩ rfl; exact ⟨RcAt.str_none _ _, RcNeAt.str_none _ _⟩
 ·rintro rfl ⟨u, rfl⟩; exact ⟨RcAt.none_int _ _, RcNeAt.none_int _ _⟩
 ·rintro ⟨u, rfl⟩ rfl; exact ⟨RcAt.int_none _ _, RcNeAt.int_none _ _⟩
theorem eqAtom_same {a b : MV} {V : Value} {r : Bool} (e : eqAtom a b = some r) (ra : VR Ω.ad φ μ a V) (rb : VR Ω.ad φ μ b V) : r = true := by
 revert ra rb
 refine eqAtom_elim (P := fun a b r => VR Ω.ad φ μ a V → VR Ω.ad φ μ b V → r = true) e (fun _ _ => rfl) (fun x y => ?_) (fun x y => ?_) (fun x y => ?_) (fun x => ?_) (fun x => ?_) (fun x => ?_) (fun x => ?_)
 ·rintro rfl rb; exact decide_eq_true (Value.bool.inj rb)
 ·rintro ⟨t, rfl⟩ ⟨u, q⟩; exact decide_eq_true (Value.int.inj q).1
 ·rintro ⟨t, rfl⟩ ⟨u, q⟩; exact decide_eq_true (Value.str.inj q).1
 ·rintro rfl ⟨u, q⟩; exact nomatch q
 ·rintro ⟨u, rfl⟩ q; exact nomatch (q : Value.str _ _ = Value.none)
 ·rintro rfl ⟨u, q⟩; exact nomatch q
 ·rintro ⟨u, rfl⟩ q; exact nomatch (q : Value.int _ _ = Value.none)
theorem eqs_sound {e : MV → MV → Option Bool} (H : ∀ x y b V W, e x y = some b → VR Ω.ad φ μ x V → VR Ω.ad φ μ y W → EqAt A s V W b) :
  ∀ {xs ys : List MV} {vs ws : List Value} {r : Bool}, eqV.eqs e xs ys = some r → VRs Ω.ad φ μ xs vs → VRs Ω.ad φ μ ys ws →
   ∃ f : Nat → Bool, (∀ j (h1 : j < vs.length) (h2 : j < ws.length), EqAt A s vs[j] ws[j] (f j)) ∧ r = ((List.range (min vs.length ws.length)).all f && vs.length == ws.length)
 | [], ys, vs, ws, r, h, rx, ry => by
  subst rx
  refine ⟨fun _ => true, fun j h1 => absurd h1 (Nat.not_lt_zero _), ?_⟩
  cases ys with
  | nil => subst ry; exact (Option.some.inj h).symm
  | cons y ys => obtain ⟨w, t, rfl, _, _⟩ := ry; exact (Option.some.inj h).symm
 | x :: xs, [], vs, ws, r, h, rx, ry => by
  subst ry
  obtain rfl : false = r := Option.some.inj h
  obtain ⟨w, t, rfl, _, _⟩ := rx
  refine ⟨fun _ => true, fun j _ h2 => absurd h2 (Nat.not_lt_zero _), ?_⟩
  simp
 | x :: xs, y :: ys, _, _, r, h, ⟨v, vs, ev, rx, rxs⟩, ⟨w, ws, ew, ry, rys⟩ => by
  subst ev ew
  refine obK h fun p hp h => obK h fun q hq h => ?_
  obtain rfl : (p && q) = r := Option.some.inj h
  obtain ⟨f, hf, rfl⟩ := eqs_sound H hq rxs rys
  refine ⟨fun j => match j with | 0 => p | j + 1 => f j, fun j h1 h2 => ?_, ?_⟩
  ·cases j with
   | zero => exact H _ _ _ _ _ hp rx ry
   | succ j => exact hf j (Nat.lt_of_succ_lt_succ h1) (Nat.lt_of_succ_lt_succ h2)
  ·have e1 : min (v :: vs).length (w :: ws).length = min vs.length ws.length + 1 := Nat.succ_min_succ _ _
   rw [e1, List.range_succ_eq_map, List.all_cons, List.all_map, Bool.and_assoc]
   congr 2
   simp only [List.length_cons, Nat.add_left_inj, beq_iff_eq]
   by_cases q : vs.length = ws.length <;> simp [q]
theorem eqs_same {e : MV → MV → Option Bool} (H : ∀ x y b V, e x y = some b → VR Ω.ad φ μ x V → VR Ω.ad φ μ y V → b = true) :
  ∀ {xs ys : List MV} {vs : List Value} {r : Bool}, eqV.eqs e xs ys = some r → VRs Ω.ad φ μ xs vs → VRs Ω.ad φ μ ys vs → r = true
 | [], ys, vs, r, h, rx, ry => by
  subst rx
  cases ys with
  | nil => exact (Option.some.inj h).symm
  | cons y ys => obtain ⟨w, t, e, _⟩ := ry; cases e
 | x :: xs, [], vs, r, h, rx, ry => by
  subst ry
  obtain ⟨w, t, e, _⟩ := rx; cases e
 | x :: xs, y :: ys, _, r, h, ⟨v, vs, ev, rx, rxs⟩, ⟨w, ws, ew, ry, rys⟩ => by
  subst ev
  cases ew
  exact obK h fun p hp h => obK h fun q hq h => (Option.some.inj h).symm.trans (congr (congrArg and (H _ _ _ _ hp rx ry)) (eqs_same H hq rxs rys))
theorem ldK {α : Type} {P : Prop} {o : Option MO} {f : List MV → Option α} {g : List (Str × MV) → Option α} {r : α} (e : atMO o f g = some r) (k : ∀ vs, o = some (.list vs) → f vs = some r → P) (l : ∀ vs, o = some (.dict vs) → g vs = some r → P) : P := by
 rcases o with _ | ⟨_⟩ | ⟨_⟩ | ⟨_, _⟩ <;> first | exact noK e | exact k _ rfl e | exact l _ rfl e
theorem eqV_elim {P : MV → MV → Prop} {n : Nat} {a b : MV} {r : Bool} (h : eqV (n + 1) st a b = some r) (tup : ∀ xs ys, eqV.eqs (eqV n st) xs ys = some r → P (.tup xs) (.tup ys))
  (lists : ∀ xs ys, (if xs.length = ys.length then eqV.eqs (eqV n st) xs ys else some false) = some r →
    (a = .lst xs ∨ ∃ p, a = .ref p ∧ st.get p = some (.list xs)) → (b = .lst ys ∨ ∃ p, b = .ref p ∧ st.get p = some (.list ys)) → P a b)
  (atom : eqAtom a b = some r → P a b) : P a b := by
 cases a with
 | tup xs => exact asTupK h fun ys e h => e ▸ tup _ _ h
 | lst xs =>
  clear tup atom
  cases b <;> first
   | exact noK h
   | exact lists _ _ h (.inl rfl) (.inl rfl)
   | exact atListK h fun ys g h => lists _ _ h (.inl rfl) (.inr ⟨_, rfl, g⟩)
 | ref p =>
  refine atListK h fun xs g h => ?_
  clear tup atom
  cases b <;> first
   | exact noK h
   | exact lists _ _ h (.inr ⟨_, rfl, g⟩) (.inl rfl)
   | exact atListK h fun ys g2 h => (ifE h).elim (fun z => noK z.2) fun z => lists _ _ z.2 (.inr ⟨_, rfl, g⟩) (.inr ⟨_, rfl, g2⟩)
 | _ => exact atom h
theorem itemsNow_elim {P : MV → Prop} {a : MV} {vs : List MV} (h : itemsNow st a = some vs) (tup : P (.tup vs)) (arg : P (.arg vs)) (ls : (a = .lst vs ∨ ∃ p, a = .ref p ∧ st.get p = some (.list vs)) → P a) : P a := by
 cases a <;> first
  | exact noK h
  | exact Option.some.inj h ▸ tup
  | exact Option.some.inj h ▸ arg
  | exact ls (.inl (congrArg _ (Option.some.inj h)))
  | exact atListK h fun ys g h => ls (.inr ⟨_, rfl, Option.some.inj h ▸ g⟩)
theorem eqV_same (I : Inv Ω φ μ st s) : ∀ (n : Nat) {a b : MV} {V : Value} {r : Bool}, eqV n st a b = some r → VR Ω.ad φ μ a V → VR Ω.ad φ μ b V → r = true
 | 0, _, _, _, _, h, _, _ => by cases h
 | n + 1, a, b, V, r, h, ra, rb => by
  have H := fun x y b V => eqV_same I n (a := x) (b := y) (r := b) (V := V)
  have lists : ∀ {xs ys : List MV} {r : Bool}, (if xs.length = ys.length then eqV.eqs (eqV n st) xs ys else some false) = some r →
    (a = .lst xs ∨ ∃ p, a = .ref p ∧ st.get p = some (.list xs)) → (b = .lst ys ∨ ∃ p, b = .ref p ∧ st.get p = some (.list ys)) → r = true := by
   intro xs ys r h ea eb
   obtain ⟨a1, ws1, n1, e1, h1, q1⟩ := asList I ra ea
   obtain ⟨a2, ws2, n2, e2, h2, q2⟩ := asList I rb eb
   cases Value.ref.inj (e1.symm.trans e2)
   cases Option.some.inj (h1.symm.trans h2)
   exact (ifE h).elim (fun k => eqs_same H k.2 q1 q2) fun k => absurd (q1.length.symm.trans q2.length) k.1
  revert ra rb
  refine eqV_elim (P := fun a b => VR Ω.ad φ μ a V → VR Ω.ad φ μ b V → r = true) h (fun xs ys h ra rb => ?_) (fun xs ys h ea eb _ _ => lists h ea eb) (fun h ra rb => eqAtom_same h ra rb)
  obtain ⟨a1, o1, ws1, n1, e1, h1, c1, d1, q1⟩ := ra
  obtain ⟨a2, o2, ws2, n2, e2, h2, c2, d2, q2⟩ := rb
  cases Value.ref.inj (e1.symm.trans e2)
  cases Option.some.inj (h1.symm.trans h2)
  cases d1.symm.trans d2
  exact eqs_same H h q1 q2
theorem range_all_min {n m : Nat} {f : Nat → Bool} (h : n = m) : ((List.range (min n m)).all f && n == m) = (List.range n).all f := by
 subst h; simp
theorem eqV_sound (I : Inv Ω φ μ st s) : ∀ (n : Nat) (A : Around) {a b : MV} {V W : Value} {r : Bool}, eqV n st a b = some r → VR Ω.ad φ μ a V → VR Ω.ad φ μ b W → A.units + n < cLine →
  EqAt A s V W r ∧ RcAt A s V W r ∧ RcNeAt A s V W (!r)
 | 0, _, _, _, _, _, _, h, _, _, _ => by cases h
 | n + 1, A, a, b, V, W, r, h, ra, rb, hu => by
  have hsame : V = W → r = true := fun e => eqV_same I (n + 1) h ra (e ▸ rb)
  have fin : ∀ {l b : Addr}, V = .ref l → W = .ref b → (RcAt A s V W r ∧ RcNeAt A s V W (!r)) → EqAt A s V W r ∧ RcAt A s V W r ∧ RcNeAt A s V W (!r) := by
   intro l b e1 e2 z
   refine ⟨?_, z⟩
   by_cases q : l = b
   ·have e : V = W := by rw [e1, e2, q]
    rw [hsame e, e]; exact EqAt.same _
   ·subst e1 e2; exact EqAt.of_refs q z.1
  have H := fun x y b V W (e : eqV n st x y = some b) r1 r2 => (eqV_sound I n A.in1 (a := x) (b := y) (V := V) (W := W) e r1 r2 (by show A.units + 1 + n < cLine; lia)).1
  have hu' : A.units < cLine := by lia
  have lists : ∀ {xs ys : List MV}, (if xs.length = ys.length then eqV.eqs (eqV n st) xs ys else some false) = some r →
    (a = .lst xs ∨ ∃ p, a = .ref p ∧ st.get p = some (.list xs)) → (b = .lst ys ∨ ∃ p, b = .ref p ∧ st.get p = some (.list ys)) → EqAt A s V W r ∧ RcAt A s V W r ∧ RcNeAt A s V W (!r) := by
   intro xs ys h ea eb
   obtain ⟨a1, ws1, n1, e1, h1, q1⟩ := asList I ra ea
   obtain ⟨a2, ws2, n2, e2, h2, q2⟩ := asList I rb eb
   refine fin e1 e2 ?_
   subst e1 e2
   split at h
   ·rename_i hl
    obtain ⟨f, hf, rfl⟩ := eqs_sound (A := A.in1) H h q1 q2
    have hsz : ws1.size = ws2.size := by
     have := q1.length; have := q2.length; simp only [Array.length_toList] at *; lia
    have hsz' : ws1.toList.length = ws2.toList.length := by simpa using hsz
    rw [range_all_min hsz']
    have hf' : ∀ j (h1 : j < ws1.size) (h2 : j < ws2.size), EqAt A.in1 s ws1[j] ws2[j] (f j) := fun j h1 h2 => by
     have z := hf j (by simpa using h1) (by simpa using h2)
     rwa [Array.getElem_toList, Array.getElem_toList] at z
    rw [Array.length_toList]
    exact ⟨RcAt.lists (isList_of h1) (isList_of h2) hsz hu' hf', RcNeAt.lists (isList_of h1) (isList_of h2) hsz hu' hf'⟩
   ·rename_i hl
    cases h
    have hsz : (ws1.size != ws2.size) = true := by
     have := q1.length; have := q2.length; simp only [Array.length_toList] at *
     simp only [bne_iff_ne, ne_eq]; lia
    exact ⟨RcAt.lists_lengths (isList_of h1) (isList_of h2) hsz hu', RcNeAt.lists_lengths (isList_of h1) (isList_of h2) hsz hu'⟩
  revert ra rb
  refine eqV_elim (P := fun a b => VR Ω.ad φ μ a V → VR Ω.ad φ μ b W → EqAt A s V W r ∧ RcAt A s V W r ∧ RcNeAt A s V W (!r)) h (fun xs ys h ra rb => ?_) (fun xs ys h ea eb _ _ => lists h ea eb) (fun h ra rb => ⟨eqAtom_sound h ra rb, eqAtom_rc h ra rb⟩)
  obtain ⟨a1, o1, ws1, n1, e1, h1, c1, d1, q1⟩ := ra
  obtain ⟨a2, o2, ws2, n2, e2, h2, c2, d2, q2⟩ := rb
  refine fin e1 e2 ?_
  subst e1 e2
  obtain ⟨f, hf, rfl⟩ := eqs_sound (A := A.in1) H h q1 q2
  have hf' : ∀ j (h1 : j < ws1.size) (h2 : j < ws2.size), EqAt A.in1 s ws1[j] ws2[j] (f j) := fun j h1 h2 => by
   have z := hf j (by simpa using h1) (by simpa using h2)
   rwa [Array.getElem_toList, Array.getElem_toList] at z
  rw [Array.length_toList, Array.length_toList]
  exact ⟨RcAt.tuples (isTuple_of I.fro h1 c1 d1) (isTuple_of I.fro h2 c2 d2) hu' hf', RcNeAt.tuples (isTuple_of I.fro h1 c1 d1) (isTuple_of I.fro h2 c2 d2) hu' hf'⟩
end
end Mine
namespace Mine
open PySem PySem.W PySem.Calls PyProof.Rows PySem.SeqAt
noncomputable def Ans (Ω : Wld) (φ : Phi) (μ : Mu) (h : Heap) (st' : St) (v : MV) (Q : Value → Shared → Prop) : Prop :=
 ∀ V s' φ' μ', Ext φ μ h φ' μ' s'.heap → Inv Ω φ' μ' st' s' → VR Ω.ad φ' μ' v V → Q V s'
section
variable {Ω : Wld} {φ : Phi} {μ : Mu} {st st' : St} {s : Shared} {A : Around} {n : Nat} {Q : Value → Shared → Prop} {E : Value → Shared → Prop} {v : MV}
theorem Ans.here {V : Value} (k : Ans Ω φ μ s.heap st v Q) (I : Inv Ω φ μ st s) (r : VR Ω.ad φ μ v V) : Q V s := k V s φ μ .refl I r
theorem Ans.tok {V : Value} {tk : Nat} (k : Ans Ω φ μ s.heap st v Q) (I : Inv Ω φ μ st s) (r : VR Ω.ad φ μ v V) : Q V { s with toks := tk } := k V _ φ μ .refl (I.tok tk) r
theorem Ans.int {i : Int} {t tk : Nat} (k : Ans Ω φ μ s.heap st (.int i) Q) (I : Inv Ω φ μ st s) : Q (.int i t) { s with toks := tk } := k.tok I ⟨t, rfl⟩
theorem Ans.str {x : Str} {t tk : Nat} (k : Ans Ω φ μ s.heap st (.str x) Q) (I : Inv Ω φ μ st s) : Q (.str x t) { s with toks := tk } := k.tok I ⟨t, rfl⟩
theorem Ans.bool {b : Bool} (k : Ans Ω φ μ s.heap st (.bool b) Q) (I : Inv Ω φ μ st s) : Q (.bool b) s := k.here I rfl
theorem Ans.list {vs : List MV} {ws : Array Value} {m : Nat} {tk : Nat} (k : Ans Ω φ μ s.heap st (.lst vs) Q) (I : Inv Ω φ μ st s) (r : VRs Ω.ad φ μ vs ws.toList) :
  Q (.ref s.heap.objs.size) { s with heap := s.heap.push ⟨.type "list", none, .seq ws m, #[]⟩, toks := tk } := by
 obtain ⟨J, x⟩ := I.freeze ⟨.type "list", none, .seq ws m, #[]⟩ tk rfl
 exact k _ _ _ _ x J ⟨_, ws, m, rfl, putF_self _ _ _, r.mono x.fro x.mu⟩
theorem Ans.tuple {vs : List MV} {ws : Array Value} {m : Nat} {tk : Nat} (k : Ans Ω φ μ s.heap st (.tup vs) Q) (I : Inv Ω φ μ st s) (r : VRs Ω.ad φ μ vs ws.toList) :
  Q (.ref s.heap.objs.size) { s with heap := s.heap.push ⟨.type "tuple", none, .seq ws m, #[]⟩, toks := tk } := by
 obtain ⟨J, x⟩ := I.freeze ⟨.type "tuple", none, .seq ws m, #[]⟩ tk rfl
 exact k _ _ _ _ x J ⟨_, _, ws, m, rfl, putF_self _ _ _, rfl, rfl, r.mono x.fro x.mu⟩
theorem truthy_sound {b : Bool} {V : Value} {QB : Bool → Shared → Prop} {M : Model} (r : VR Ω.ad φ μ (.bool b) V) (h : QB b s) : wpAny M A (truthy V) QB E s := by
 cases (show V = .bool b from r)
 exact wpAny_truthy_bool h
theorem asTuple (I : Inv Ω φ μ st s) {vs : List MV} {V : Value} (r : VR Ω.ad φ μ (.tup vs) V) : ∃ a o ws n, V = .ref a ∧ φ a = some o ∧ o.cls = .type "tuple" ∧ o.data = .seq ws n ∧ s.heap.get? a = some o ∧ VRs Ω.ad φ μ vs ws.toList := by
 obtain ⟨a, o, ws, n, e, h, c, d, q⟩ := r
 exact ⟨a, o, ws, n, e, h, c, d, I.fro _ _ h, q⟩
theorem str_len (x y : Str) : (x ++ y).length = x.length + y.length := by
 show (x.cps ++ y.cps).size = _
 rw [Array.size_append]; rfl
theorem foldl_one (w : Value) : ∀ n (acc : Array Value), (List.foldl (fun x1 x2 => x1 ++ x2) acc (List.replicate n #[w])).toList = acc.toList ++ List.replicate n w
 | 0, acc => by simp
 | n + 1, acc => by rw [List.replicate_succ, List.foldl_cons, foldl_one w n]; simp [List.replicate_succ]
theorem binop_elim {P : Operator → MV → MV → MV → Prop} {op : Operator} {a b : MV} (e : binop op a b = some v) (h1 : ∀ x y, P .Add (.int x) (.int y) (.int (x + y))) (h2 : ∀ x y, P .Sub (.int x) (.int y) (.int (x - y))) (h3 : ∀ x y, (0 < y ∧ y < 1000) → P .FloorDiv (.int x) (.int y) (.int (Int.fdiv x y)))
  (h4 : ∀ x y, (0 < y ∧ y < 1000) → P .Mod (.int x) (.int y) (.int (Int.fmod x y))) (h5 : ∀ x y : Str, (x ++ y).length ≤ lim → P .Add (.str x) (.str y) (.str (x ++ y))) (h6 : ∀ x y, (x ++ y).length ≤ lim → P .Add (.tup x) (.tup y) (.tup (x ++ y)))
  (h7 : ∀ x y, (x ++ y).length ≤ lim → P .Add (.lst x) (.lst y) (.lst (x ++ y))) (h8 : ∀ x n, (0 ≤ n ∧ n ≤ 10000) → P .Mult (.lst [x]) (.int n) (.lst (List.replicate n.toNat x))) : P op a b v := by
 cases op with
 | Add =>
  clear h2 h3 h4 h8
  cases a with
  | int x => exact asIntK e fun y q e => q ▸ someK e (h1 _ _)
  | str x => exact asStrK e fun y q e => ifK e fun h e => q ▸ someK e (h5 _ _ h)
  | tup x => exact asTupK e fun y q e => ifK e fun h e => q ▸ someK e (h6 _ _ h)
  | lst x => exact asLstK e fun y q e => ifK e fun h e => q ▸ someK e (h7 _ _ h)
  | _ => exact noK e
 | Sub => exact asIntK e fun x p e => asIntK e fun y q e => p ▸ q ▸ someK e (h2 _ _)
 | FloorDiv => exact asIntK e fun x p e => asIntK e fun y q e => ifK e fun h e => p ▸ q ▸ someK e (h3 _ _ h)
 | Mod => exact asIntK e fun x p e => asIntK e fun y q e => ifK e fun h e => p ▸ q ▸ someK e (h4 _ _ h)
 | Mult => exact asLstK e fun x p e => arg1K e fun x o e => asIntK e fun y q e => ifK e fun h e => p ▸ o ▸ q ▸ someK e (h8 _ _ h)
 | _ => exact noK e
theorem binop_sound {op : Operator} {a b : MV} {V W : Value} (e : binop op a b = some v) (I : Inv Ω φ μ st s) (ra : VR Ω.ad φ μ a V) (rb : VR Ω.ad φ μ b W) (k : Ans Ω φ μ s.heap st v Q) :
  wpAny (model Ω.P Ω.w) A (binaryOp op V W) Q E s := by
 revert ra rb k
 refine binop_elim (P := fun op a b v => VR Ω.ad φ μ a V → VR Ω.ad φ μ b W → Ans Ω φ μ s.heap st v Q → wpAny (model Ω.P Ω.w) A (binaryOp op V W) Q E s) e (fun x y => ?_) (fun x y => ?_) (fun x y h => ?_) (fun x y h => ?_) (fun x y h => ?_) (fun x y h => ?_) (fun x y h => ?_) (fun x n h => ?_)
 ·rintro ⟨t, rfl⟩ ⟨u, rfl⟩ k
  exact P.add_int (k.int I)
 ·rintro ⟨t, rfl⟩ ⟨u, rfl⟩ k
  exact P.sub_int (k.int I)
 ·rintro ⟨t, rfl⟩ ⟨u, rfl⟩ k
  exact PyProof.Rows.floordiv_int (by lia) (k.int I) (.inl (PyProof.noPylong_small (by lia)))
 ·rintro ⟨t, rfl⟩ ⟨u, rfl⟩ k
  exact PyProof.Rows.mod_int' (by lia) (k.int I)
 ·rintro ⟨t, rfl⟩ ⟨u, rfl⟩ k
  refine PyProof.Rows.add_str (fun t' tk => k.str I) ?_
  rw [str_len] at h
  exact Nat.le_trans h (by decide)
 ·intro ra rb k
  obtain ⟨a1, o1, ws1, n1, rfl, _, c1, d1, h1, q1⟩ := asTuple I ra
  obtain ⟨a2, o2, ws2, n2, rfl, _, c2, d2, h2, q2⟩ := asTuple I rb
  obtain ⟨cl1, dd1, da1, sl1⟩ := o1
  obtain ⟨cl2, dd2, da2, sl2⟩ := o2
  simp only at c1 d1 c2 d2
  subst c1 d1 c2 d2
  have l1 := q1.length
  have l2 := q2.length
  rw [List.length_append] at h
  have hl : lim ≤ sizeLine := by decide
  by_cases z1 : ws1.isEmpty = true
  ·refine concat_meets ⟨_, h1, rfl⟩ ⟨_, h2, rfl⟩ noFill_tuple_add seq_tuple_add PySem.F.slot_tuple_add PySem.F.entry_tuple_add (PySem.F.args_tuple_add_2 _ _) (tuple_addW0 a1 a2 ws1 ws2 n1 n2 dd1 dd2 sl1 sl2 z1) ⟨h1, h2, ?_⟩
   refine k.tok I ?_
   have : ws1 = #[] := by simpa using z1
   subst this
   cases x with
   | nil => exact rb
   | cons _ _ => simp at l1
  ·by_cases z2 : ws2.isEmpty = true
   ·refine concat_meets ⟨_, h1, rfl⟩ ⟨_, h2, rfl⟩ noFill_tuple_add seq_tuple_add PySem.F.slot_tuple_add PySem.F.entry_tuple_add (PySem.F.args_tuple_add_2 _ _) (tuple_addW1 a1 a2 ws1 ws2 n1 n2 dd1 dd2 sl1 sl2 z1 z2) ⟨h1, h2, ?_⟩
    refine k.tok I ?_
    have : ws2 = #[] := by simpa using z2
    subst this
    cases y with
    | nil => rw [List.append_nil]; exact ra
    | cons _ _ => simp at l2
   ·refine concat_meets ⟨_, h1, rfl⟩ ⟨_, h2, rfl⟩ noFill_tuple_add seq_tuple_add PySem.F.slot_tuple_add PySem.F.entry_tuple_add (PySem.F.args_tuple_add_2 _ _) (tuple_addW2 a1 a2 ws1 ws2 n1 n2 dd1 dd2 sl1 sl2 z1 z2 (by simp only [Array.length_toList] at l1 l2; lia)) ⟨h1, h2, ?_⟩
    refine k.tuple I ?_
    rw [Array.toList_append]; exact q1.append q2
 ·intro ra rb k
  obtain ⟨a1, ws1, n1, rfl, h1, q1⟩ := ra
  obtain ⟨a2, ws2, n2, rfl, h2, q2⟩ := rb
  have l1 := q1.length
  have l2 := q2.length
  rw [List.length_append] at h
  have hl : lim ≤ sizeLine := by decide
  refine PySem.P.add_list (I.fro _ _ h1) (I.fro _ _ h2) ?_ (by simp only [Array.length_toList] at l1 l2; lia)
  refine k.list I ?_
  rw [Array.toList_append]; exact q1.append q2
 ·intro ra rb k
  obtain ⟨a1, ws1, n1, rfl, h1, q1⟩ := ra
  obtain ⟨u, rfl⟩ := rb
  obtain ⟨w, r, e1, rw1, rnil⟩ := q1
  cases (show r = [] from rnil)
  have e2 : ws1 = #[w] := Array.ext' (by simpa using e1)
  subst e2
  refine wpAny_binaryOp_repeat_ref (T := "list") (U := "int") (by decide) ⟨_, I.fro _ _ h1, rfl⟩ (fun s' => typeIs_int s' _ u) noFill_list_mul F.fills_int_mul F.slot_int_rmul repeat_list F.slot_int_index.lookup
   (call_meets F.slot_int_rmul (typeIs_int s _ u) F.entry_int_rmul (F.args_int_rmul_2 _ _) (int___rmul___int_list _ u a1 #[w] n1)
    ⟨I.fro _ _ h1, rfl, ⟨_, I.fro _ _ h1, rfl⟩, call_meets F.slot_list_mul ⟨_, I.fro _ _ h1, rfl⟩ F.entry_list_mul (F.args_list_mul_2 _ _)
     (AutoListH.list___mul___list_int_3 a1 #[w] n1 _ u (by simp [Builtin.List.listFitsIndex]; lia) (by rw [show (#[w] : Array Value).size = 1 from rfl]; lia) (by rw [show (#[w] : Array Value).size = 1 from rfl]; simp [Builtin.List.listTooLong, sizeLine]; lia))
     ⟨I.fro _ _ h1, ?_⟩⟩)
  refine k.list I ?_
  rw [foldl_one]
  exact VRs.replicate rw1 _
end
end Mine
namespace Mine
open PySem PySem.W PySem.Calls PyProof.Rows PySem.SeqAt
noncomputable def valEq (x : MV) (v : Value) : Bool := match x with
 | .none => (match v with | .none => true | _ => false)
 | .bool a => (match v with | .bool b => decide (b = a) | _ => false)
 | .int i => (match v with | .int j _ => decide (j = i) | _ => false)
 | .str s => (match v with | .str r _ => decide (r = s) | _ => false)
 | _ => false
section
variable {Ω : Wld} {φ : Phi} {μ : Mu} {st st' : St} {s : Shared} {A : Around} {n : Nat} {Q : Value → Shared → Prop} {E : Value → Shared → Prop} {v : MV}
theorem valEq_of {y x : MV} {Y : Value} {b : Bool} (e : eqAtom y x = some b) (r : VR Ω.ad φ μ y Y) : valEq x Y = b := by
 revert r
 refine eqAtom_elim (P := fun y x b => VR Ω.ad φ μ y Y → valEq x Y = b) e ?_ (fun x y => ?_) (fun x y => ?_) (fun x y => ?_) (fun x => ?_) (fun x => ?_) (fun x => ?_) (fun x => ?_)
 ·rintro rfl; rfl
 ·rintro rfl; rfl
 ·rintro ⟨t, rfl⟩; rfl
 ·rintro ⟨t, rfl⟩; rfl
 ·rintro rfl; rfl
 ·rintro ⟨t, rfl⟩; rfl
 ·rintro rfl; rfl
 ·rintro ⟨t, rfl⟩; rfl
theorem VRs.mem : ∀ {vs : List MV} {ws : List Value}, VRs Ω.ad φ μ vs ws → ∀ {w : Value}, w ∈ ws → ∃ v, v ∈ vs ∧ VR Ω.ad φ μ v w
 | [], _, h, w, m => by subst h; cases m
 | v :: vs, _, ⟨w', r, e, h1, h2⟩, w, m => by
  subst e
  rcases List.mem_cons.mp m with rfl | m
  ·exact ⟨v, .head _, h1⟩
  ·obtain ⟨v', m', q⟩ := VRs.mem h2 m
   exact ⟨v', .tail _ m', q⟩
theorem any_eq {x : MV} : ∀ {vs : List MV} {ws : List Value}, VRs Ω.ad φ μ vs ws → (vs.all fun y => (eqAtom y x).isSome) = true → ws.any (valEq x) = vs.any fun y => eqAtom y x == some true
 | [], _, h, _ => by subst h; rfl
 | y :: vs, _, ⟨w', r, e, h1, h2⟩, ha => by
  subst e
  rw [List.all_cons, Bool.and_eq_true] at ha
  obtain ⟨b, hb⟩ := Option.isSome_iff_exists.mp ha.1
  rw [List.any_cons, List.any_cons, any_eq h2 ha.2, valEq_of hb h1, hb]
  cases b <;> rfl
theorem inAtoms_sound {x : MV} {X : Value} {vs : List MV} {ws : Array Value} {r : Bool} (e : inAtoms x vs = some r) (rx : VR Ω.ad φ μ x X) (q : VRs Ω.ad φ μ vs ws.toList) :
  (∀ y, y ∈ ws → EqAt A s y X (valEq x y)) ∧ ws.any (valEq x) = r := by
 refine ifK e fun ha e => ⟨fun y hy => ?_, ?_⟩
 ·obtain ⟨v, hv, rv⟩ := q.mem (Array.mem_toList_iff.mpr hy)
  obtain ⟨b, hb⟩ := Option.isSome_iff_exists.mp (List.all_eq_true.mp ha v hv)
  rw [valEq_of hb rv]
  exact eqAtom_sound hb rv rx
 ·rw [← Array.any_toList]; exact (any_eq q ha).trans (Option.some.inj e)
theorem KV.value : ∀ {es : List (Str × MV)} {kvs : List (Str × Value)}, KV Ω φ μ es kvs → ∀ x, OptR Ω φ μ (getK x es) (valueAt kvs x)
 | [], _, h, x => by subst h; rfl
 | (y, v) :: es, _, ⟨w, t, e, h1, h2⟩, x => by
  subst e
  show OptR Ω φ μ (if y = x then some v else getK x es) ((match decide (y = x) with | true => some (y, w) | false => List.find? (fun kv : Str × Value => decide (kv.1 = x)) t).map fun kv : Str × Value => kv.2)
  by_cases q : y = x
  ·rw [if_pos q, decide_eq_true q]; exact ⟨w, rfl, h1⟩
  ·rw [if_neg q, decide_eq_false q]; exact KV.value h2 x
theorem KV.length : ∀ {es : List (Str × MV)} {kvs : List (Str × Value)}, KV Ω φ μ es kvs → kvs.length = es.length
 | [], _, h => by subst h; rfl
 | (y, v) :: es, _, ⟨w, t, e, h1, h2⟩ => by subst e; simp only [List.length_cons, KV.length h2]
theorem OptR.isSome : ∀ {x : Option MV} {y : Option Value}, OptR Ω φ μ x y → y.isSome = x.isSome
 | none, _, h => by rw [show _ = none from h]; rfl
 | some _, _, ⟨w, e, _⟩ => by rw [e]; rfl
theorem asDict (I : Inv Ω φ μ st s) {a : Ad} {V : Value} (r : VR Ω.ad φ μ (.ref a) V) {es : List (Str × MV)} (g : st.get a = some (.dict es)) :
  ∃ A kvs, V = .ref A ∧ s.heap.DictOf (strKind Ω.P Ω.w) A kvs ∧ KV Ω φ μ es kvs ∧ μ a = some (A, A) := by
 obtain ⟨A, D, rfl, m⟩ := r
 obtain ⟨A', D', m', o⟩ := I.own a _ g
 rw [m] at m'
 cases m'
 obtain ⟨rfl, kvs, d, q⟩ := o
 exact ⟨D, kvs, rfl, d, q, m⟩
theorem Inv.notMods (I : Inv Ω φ μ st s) {A : Addr} (h : Own μ A) : (A == sysModules) = false := by
 have := I.up A h
 have g := Ω.R.g.lt
 have : sysModules < A := Nat.lt_of_lt_of_le (Nat.lt_trans (by decide) g) this
 simpa using Nat.ne_of_gt this
theorem own_of {a : Ad} {A D : Addr} (m : μ a = some (A, D)) : Own μ A := ⟨a, A, D, m, .inl rfl⟩
theorem dictOf_nil_int {h : Heap} {A : Addr} {P : Program} {w : World} (d : h.DictOf (strKind P w) A []) : h.DictOf (intKind P w) A [] := by
 obtain ⟨o, es, ep, ho, hx, hd, hk, hp, hn⟩ := d
 have e : es.toList = [] := by cases q : es.toList with | nil => rfl | cons a b => rw [q] at hp; cases hp
 have e' : es = #[] := Array.ext' (by simpa using e)
 subst e'
 exact ⟨o, #[], ep, ho, hx, hd, fun _ hm => by simp at hm, (by first | trivial | exact True.intro | constructor | simp [Pairs]), .nil⟩
theorem isIn_elim {P : MV → MV → Bool → Prop} {x c : MV} {r : Bool} (e : isIn st x c = some r) (ls : ∀ vs, inAtoms x vs = some r → (c = .lst vs ∨ ∃ a, c = .ref a ∧ st.get a = some (.list vs)) → P x c r)
    (tp : ∀ vs, inAtoms x vs = some r → P x (.tup vs) r) (ds : ∀ a es y, st.get a = some (.dict es) → P (.str y) (.ref a) (getK y es).isSome) (di : ∀ a i, st.get a = some (.dict []) → P (.int i) (.ref a) false) : P x c r := by
  cases c <;> first
    | exact noK e
    | exact tp _ e
    | exact ls _ e (.inl rfl)
    | (clear tp
       refine ldK e (fun vs g e => ls _ e (.inr ⟨_, rfl, g⟩)) fun es g e => ?_
       clear ls
       cases x <;> first
         | exact noK e
         | exact someK e (ds _ _ _ g)
         | (clear ds
            cases es <;> first
              | exact noK e
              | exact someK e (di _ _ g)))
theorem isIn_sound {x c : MV} {X C : Value} {r : Bool} (e : isIn st x c = some r) (I : Inv Ω φ μ st s) (rx : VR Ω.ad φ μ x X) (rc : VR Ω.ad φ μ c C) :
  (∀ {Q : Value → Shared → Prop}, (∀ tk, Q (.bool r) { s with toks := tk }) → wpAny (model Ω.P Ω.w) A (compareOp .In X C) Q E s) ∧
  (∀ {Q : Value → Shared → Prop}, (∀ tk, Q (.bool (!r)) { s with toks := tk }) → wpAny (model Ω.P Ω.w) A (compareOp .NotIn X C) Q E s) := by
 revert rx rc
 refine isIn_elim (P := fun x c r => VR Ω.ad φ μ x X → VR Ω.ad φ μ c C → (∀ {Q : Value → Shared → Prop}, (∀ tk, Q (.bool r) { s with toks := tk }) → wpAny (model Ω.P Ω.w) A (compareOp .In X C) Q E s) ∧
  (∀ {Q : Value → Shared → Prop}, (∀ tk, Q (.bool (!r)) { s with toks := tk }) → wpAny (model Ω.P Ω.w) A (compareOp .NotIn X C) Q E s)) e (fun vs e g rx rc => ?_) (fun vs e rx rc => ?_) (fun a es y g rx rc => ?_) (fun a i g rx rc => ?_)
 ·obtain ⟨a, ws, n, rfl, h, q⟩ := asList I rc g
  obtain ⟨h1, h2⟩ := inAtoms_sound (A := A.in1) (s := s) e rx q
  exact ⟨fun k => in_listAt _ (isList_of h) h1 (h2 ▸ k s.toks), fun k => notIn_listAt _ (isList_of h) h1 (h2 ▸ k s.toks)⟩
 ·obtain ⟨a, o, ws, n, rfl, h, hc, hd, ho, q⟩ := asTuple I rc
  obtain ⟨h1, h2⟩ := inAtoms_sound (A := A.in1) (s := s) e rx q
  exact ⟨fun k => in_tupleAt _ (isTuple_of I.fro h hc hd) h1 (h2 ▸ k s.toks), fun k => notIn_tupleAt _ (isTuple_of I.fro h hc hd) h1 (h2 ▸ k s.toks)⟩
 ·obtain ⟨A', kvs, rfl, d, q, m⟩ := asDict I rc g
  have nm := I.notMods (own_of m)
  obtain ⟨t, rfl⟩ := rx
  have hs := (q.value y).isSome
  exact ⟨fun k => wpAny_in_of (strKind_is _ _ _ t) nm d.mapOf (hs ▸ k _), fun k => wpAny_notIn_of (strKind_is _ _ _ t) nm d.mapOf (hs ▸ k _)⟩
 ·obtain ⟨A', kvs, rfl, d, q, m⟩ := asDict I rc g
  have nm := I.notMods (own_of m)
  obtain ⟨t, rfl⟩ := rx
  obtain rfl : kvs = [] := q
  exact ⟨fun k => wpAny_in_of (intKind_is Ω.P Ω.w _ t) nm (dictOf_nil_int d).mapOf (k _), fun k => wpAny_notIn_of (intKind_is Ω.P Ω.w _ t) nm (dictOf_nil_int d).mapOf (k _)⟩
theorem nilDict_elim {a : MV} (e : nilDict st a = true) : ∃ p, a = .ref p ∧ st.get p = some (.dict []) := by
  cases a <;> first
    | exact ffK e
    | (rename_i p
       refine ⟨p, rfl, ?_⟩
       revert e
       show nilD (st.get p) = true → _
       generalize st.get p = x
       rcases x with _ | ⟨_⟩ | ⟨_ | _⟩ | ⟨_, _⟩ <;> first
         | exact fun e => ffK e
         | exact fun e => rfl)
theorem bothNil_elim {a b : MV} (e : bothNil st a b = true) : ∃ p q, a = .ref p ∧ b = .ref q ∧ st.get p = some (.dict []) ∧ st.get q = some (.dict []) :=
 let ⟨h1, h2⟩ := (Bool.and_eq_true _ _).mp e; let ⟨p, a1, g1⟩ := nilDict_elim h1; let ⟨q, a2, g2⟩ := nilDict_elim h2; ⟨p, q, a1, a2, g1, g2⟩
theorem ints2 {P : MV → MV → Bool → Prop} {f : Int → Int → Bool} {a b : MV} {r : Bool} (k : ∀ x y, P (.int x) (.int y) (f x y)) (e : (asInt a fun x => asInt b fun y => some (f x y)) = some r) : P a b r := asIntK e fun x p e => asIntK e fun y q e => p ▸ q ▸ someK e (k _ _)
theorem isNone_elim {P : MV → MV → Bool → Prop} {a b : MV} {r : Bool} (e : isNone a b = some r) (k : P .none .none true) (l : ∀ x, P (.str x) .none false) : P a b r := by
  cases b <;> first
    | exact noK e
    | (cases a <;> first
       | exact noK e
       | exact someK e k
       | exact someK e (l _))
noncomputable abbrev CmpAt (Ω : Wld) (φ : Phi) (μ : Mu) (s : Shared) (A : Around) (V W : Value) (Q : Value → Shared → Prop) (E : Value → Shared → Prop) (op : CmpOp) (a b : MV) (r : Bool) : Prop :=
 VR Ω.ad φ μ a V → VR Ω.ad φ μ b W → (∀ tk, Q (.bool r) { s with toks := tk }) → wpAny (model Ω.P Ω.w) A (compareOp op V W) Q E s
theorem cmp_sound {op : CmpOp} {a b : MV} {V W : Value} {r : Bool} (e : cmp st op a b = some r) (I : Inv Ω φ μ st s) (ra : VR Ω.ad φ μ a V) (rb : VR Ω.ad φ μ b W) (hu : A.units + 10 < cLine)
  (k : ∀ tk, Q (.bool r) { s with toks := tk }) : wpAny (model Ω.P Ω.w) A (compareOp op V W) Q E s := by
 have K := fun op (h : CmpAt Ω φ μ s A V W Q E op a b r) => h ra rb k
 cases op
 ·exact cmp_ofEq ((eqV_sound I 6 A e ra rb (by lia)).2.1 _ _ _ _ (k s.toks))
 ·refine (ifE e).elim (fun e => ?_) fun e => obK e.2 fun q h e => ?_
  ·obtain ⟨p, q, rfl, rfl, g1, g2⟩ := bothNil_elim e.1
   obtain rfl : false = r := Option.some.inj e.2
   obtain ⟨A1, kv1, rfl, d1, q1, m1⟩ := asDict I ra g1
   obtain ⟨A2, kv2, rfl, d2, q2, m2⟩ := asDict I rb g2
   obtain rfl : kv1 = [] := q1
   obtain rfl : kv2 = [] := q2
   exact keq_ne (r := true) (I.notMods (own_of m1)) (I.notMods (own_of m2)) d1 d2 (by lia) (fun _ => .nil) (k s.toks)
  ·obtain rfl : (!q) = r := Option.some.inj e
   exact cmp_ofNotEq ((eqV_sound I 6 A h ra rb (by lia)).2.2 _ _ _ _ (k s.toks))
 ·exact K _ (ints2 (P := CmpAt Ω φ μ s A V W Q E .Lt) (by rintro x y ⟨t, rfl⟩ ⟨u, rfl⟩ k; exact PySem.P.lt_int (k s.toks)) e)
 ·cases a with
  | int x => refine asIntK e fun y q e => ?_; obtain ⟨t, rfl⟩ := ra; obtain ⟨u, rfl⟩ := q ▸ rb; obtain rfl := Option.some.inj e; exact PySem.P.le_int (k s.toks)
  | str x => refine asStrK e fun y q e => ?_; obtain ⟨t, rfl⟩ := ra; obtain ⟨u, rfl⟩ := q ▸ rb; obtain rfl := Option.some.inj e; exact PySem.P.le_str (k s.toks)
  | _ => exact noK e
 ·exact K _ (ints2 (P := CmpAt Ω φ μ s A V W Q E .Gt) (by rintro x y ⟨t, rfl⟩ ⟨u, rfl⟩ k; exact PySem.P.gt_int (k s.toks)) e)
 ·exact K _ (ints2 (P := CmpAt Ω φ μ s A V W Q E .GtE) (by rintro x y ⟨t, rfl⟩ ⟨u, rfl⟩ k; exact PySem.P.ge_int (k s.toks)) e)
 ·refine K _ (isNone_elim (P := CmpAt Ω φ μ s A V W Q E .Is) e ?_ ?_)
  ·rintro rfl rfl k; exact wpAny_is_self rfl (k s.toks)
  ·rintro x ⟨t, rfl⟩ rfl k; exact wpAny_is_other rfl (fun h => nomatch h) (k s.toks)
 ·refine obK e fun q h e => K _ ?_
  obtain rfl : (!q) = r := Option.some.inj e
  refine isNone_elim (P := fun a b q => CmpAt Ω φ μ s A V W Q E .IsNot a b (!q)) h ?_ ?_
  ·rintro rfl rfl k; exact wpAny_isNot_self rfl (k s.toks)
  ·rintro x ⟨t, rfl⟩ rfl k; exact wpAny_isNot_other rfl (fun h => nomatch h) (k s.toks)
 ·exact (isIn_sound e I ra rb).1 k
 ·refine obK e fun q h e => ?_
  obtain rfl : (!q) = r := Option.some.inj e
  exact (isIn_sound h I ra rb).2 k
end
end Mine
namespace Mine
open PySem PySem.W PySem.Calls PyProof.Rows PySem.SeqAt
theorem wpAny_toks {α : Type} {M : Model} {A : Around} {t : Sem α} {Q : α → Shared → Prop} {E : Value → Shared → Prop} {s : Shared} {n : Nat} (hn : n ≤ s.toks)
  (h : wpAny M A t (fun a s' => n ≤ s'.toks → Q a s') E s) : wpAny M A t Q E s := PySem.wpAny_with_toks hn (wpAny_mono h (fun _ _ x => x) fun _ _ x _ => x)
section
variable {Ω : Wld} {φ : Phi} {μ : Mu} {st st' : St} {s : Shared} {A : Around} {n : Nat} {Q : Value → Shared → Prop} {E : Value → Shared → Prop} {v : MV}
theorem pick_some {vs : List MV} {i : Int} (h : pick vs i = some v) : i.natAbs ≤ lim ∧ ∃ j, seqIndex? i vs.length = some j ∧ vs[j]? = some v ∧ (if 0 ≤ i then i.toNat else (i + vs.length).toNat) = j ∧ (i < 0 → -(vs.length : Int) ≤ i) := by
 refine ifK h fun hl h => ⟨hl, ?_⟩
 rcases ifE h with ⟨h0, h⟩ | ⟨h0, h⟩
 ·have hlt := (List.getElem?_eq_some_iff.mp h).1
  refine ⟨i.toNat, ?_, h, if_pos h0, fun q => by lia⟩
  unfold seqIndex?
  simp only [show ¬ i < 0 by lia, if_false]
  rw [if_pos (by simp; lia)]
 ·refine ifK h fun h1 h => ?_
  have hlt := (List.getElem?_eq_some_iff.mp h).1
  refine ⟨(i + vs.length).toNat, ?_, h, if_neg h0, fun q => by lia⟩
  unfold seqIndex?
  simp only [show i < 0 by lia, if_true]
  rw [if_pos (by simp; lia)]
theorem itemList_sound {vs : List MV} {a : Addr} {ws : Array Value} {i : Int} {t : Tok} (e : pick vs i = some v) (hg : s.heap.IsList a ws) (q : VRs Ω.ad φ μ vs ws.toList)
  (k : ∀ V, VR Ω.ad φ μ v V → Q V s) : wpAny (model Ω.P Ω.w) A (getItem (.ref a) (.int i t)) Q E s := by
 obtain ⟨hl, j, hj, hv, hj', hneg⟩ := pick_some e
 obtain ⟨V, hV, rV⟩ := q.get hv
 have hlen := q.length
 rw [Array.length_toList] at hlen
 have hll : lim = 100000 := rfl
 by_cases h0 : 0 ≤ i
 ·rw [if_pos h0] at hj'
  refine wpAny_getItem_list hg h0 (by lia) (x := V) ?_ (k V rV)
  rw [hj', ← Array.getElem?_toList]; exact hV
 ·rw [if_neg h0] at hj'
  refine wpAny_getItem_list_neg hg (by lia) (by rw [hlen]; exact hneg (by lia)) (by lia) (x := V) ?_ (k V rV)
  rw [hlen, hj', ← Array.getElem?_toList]; exact hV
theorem itemTuple_sound {vs : List MV} {a : Addr} {o : Obj} {ws : Array Value} {m : Nat} {i : Int} {t : Tok} (e : pick vs i = some v) (hg : s.heap.get? a = some o) (hc : o.cls = .type "tuple") (hd : o.data = .seq ws m) (q : VRs Ω.ad φ μ vs ws.toList)
  (k : ∀ V, VR Ω.ad φ μ v V → Q V s) : wpAny (model Ω.P Ω.w) A (getItem (.ref a) (.int i t)) Q E s := by
 obtain ⟨hl, j, hj, hv, hj', hneg⟩ := pick_some e
 obtain ⟨V, hV, rV⟩ := q.get hv
 have hlen := q.length
 rw [Array.length_toList] at hlen
 have hll : lim = 100000 := rfl
 refine PyProof.Rows.getItem_tuple (items := ws) ⟨o, hg, hc, m, hd⟩ (by lia) (by lia) (j := j) (by rw [hlen]; exact hj) (x := V) ?_ (k V rV)
 rw [← Array.getElem?_toList]; exact hV
theorem sub_sound {value slice : Expr} {a b : MV} {V W : Value} (e : subOf st a b = some v) (I : Inv Ω φ μ st s) (ra : VR Ω.ad φ μ a V) (rb : VR Ω.ad φ μ b W)
  (hs : ∀ o i, subscripted slice false o i = operate [o, i] (getItem o i)) (k : Ans Ω φ μ s.heap st v Q) :
  wpAny (model Ω.P Ω.w) A (subscriptTail value slice V W) Q E s := by
 cases b with
 | int i =>
  obtain ⟨t, rfl⟩ := rb
  refine obK e fun vs h e => ?_
  revert ra
  refine itemsNow_elim (P := fun a => VR Ω.ad φ μ a V → wpAny (model Ω.P Ω.w) A (subscriptTail value slice V (.int i t)) Q E s) h (fun ra => ?_) (fun ra => ?_) (fun g ra => ?_)
  ·obtain ⟨a, o, ws, m, rfl, h1, hc, hd, hg, q⟩ := asTuple I ra
   exact tail_any (isTuple_of I.fro h1 hc hd).typeIs PyProof.Rows.slot_tuple_getitem.lookup (itemTuple_sound e hg hc hd q fun V r => k.here I r) (hs _ _)
  ·obtain ⟨a, o, ws, m, rfl, h1, hc, hd, q⟩ := ra
   have hg : s.heap.IsList a ws := ⟨o, I.fro _ _ h1, hc, m, hd⟩
   exact tail_any hg.typeIs PySem.slot_list_getitem.lookup (itemList_sound e hg q fun V r => k.here I r) (hs _ _)
  ·obtain ⟨a, ws, m, rfl, hg, q⟩ := asList I ra g
   exact tail_any (isList_of hg).typeIs PySem.slot_list_getitem.lookup (itemList_sound e (isList_of hg) q fun V r => k.here I r) (hs _ _)
 | str x =>
  obtain ⟨t, rfl⟩ := rb
  refine atRefK e fun a ha e => atDictK e fun es g e => ?_
  obtain ⟨A', kvs, rfl, d, q, m⟩ := asDict I (ha ▸ ra) g
  have r := q.value x
  rw [e] at r
  obtain ⟨w, hw, rw⟩ := r
  exact tail_any d.typeIs PySem.slot_dict_getitem.lookup (wpAny_getItem_of (strKind_is _ _ _ t) d.mapOf hw (k.tok I rw)) (hs _ _)
 | _ => exact noK e
theorem subscripted_of {slice : Expr} (h : ∀ lo hi q, slice = .Slice lo hi none q → False) (o i : Value) : subscripted slice false o i = operate [o, i] (getItem o i) := by
 cases slice with
 | Slice lo hi step q =>
  cases step with
  | none => exact (h _ _ _ rfl).elim
  | some w => rfl
 | _ => rfl
theorem cut_eq (vs : List MV) (lo hi : Option Int) : cut vs lo hi = (vs.drop (lo.elim 0 (clipAt vs.length))).take (hi.elim vs.length (clipAt vs.length) - lo.elim 0 (clipAt vs.length)) := rfl
end
end Mine
namespace Mine
open PySem PySem.W PySem.Calls PyProof.Rows PySem.SeqAt
noncomputable def PartR : Option Int → Value → Prop
 | none, v => v = .none
 | some i, v => ∃ t, v = .int i t
theorem PartR.isPart {x : Option Int} {v : Value} (h : PartR x v) : IsPart v x := by
 cases x with
 | none => cases (show v = .none from h); exact .none
 | some i => obtain ⟨t, rfl⟩ := h; exact .int i t
theorem PartR.partValue {x : Option Int} {v : Value} (h : PartR x v) : ∃ l, v = partValue l ∧ l.map (·.1) = x := by
 cases x with
 | none => cases (show v = .none from h); exact ⟨none, rfl, rfl⟩
 | some i => obtain ⟨t, rfl⟩ := h; exact ⟨some (i, t), rfl, rfl⟩
section
variable {Ω : Wld} {φ : Phi} {μ : Mu} {st st' : St} {s : Shared} {A : Around} {n : Nat} {Q : Value → Shared → Prop} {E : Value → Shared → Prop} {v : MV}
theorem Ans.push {o : Obj} {tk : Nat} (k : Ans Ω φ μ s.heap st' v Q) : Ans Ω φ μ ({ s with heap := s.heap.push o, toks := tk } : Shared).heap st' v Q :=
 fun V s' φ' μ' x J r => k V s' φ' μ' ((Ext.push o).trans x) J r
theorem cutList_sound {vs : List MV} {a sl : Addr} {ws : Array Value} {m : Nat} {lo hi : Option Int} {L U : Value} (I : Inv Ω φ μ st s) (hg : s.heap.get? a = some ⟨.type "list", none, .seq ws m, #[]⟩) (q : VRs Ω.ad φ μ vs ws.toList)
  (hl : vs.length ≤ lim) (hs : s.heap.IsSliceOf sl L U .none) (pl : PartR lo L) (pu : PartR hi U) (k : Ans Ω φ μ s.heap st (.lst (cut vs lo hi)) Q) : wpAny (model Ω.P Ω.w) A (getItem (.ref a) (.ref sl)) Q E s := by
 have hlen := q.length
 rw [Array.length_toList] at hlen
 have h1 : lim ≤ sizeLine := by decide
 refine wpAny_getItem_list_slice (isList_of hg) hs pl.isPart pu.isPart .none (by simp) ?_ (by lia)
 refine k.list I ?_
 rw [slicePick_plain, cut_eq, ← hlen]
 exact VRs.take _ (VRs.drop _ q)
theorem cut_sound {value : Expr} {lo hi : Option Expr} {p : Pos} {a : MV} {V L U : Value} {l u : Option Int} (e : cutOf st a l u = some v) (I : Inv Ω φ μ st s) (ra : VR Ω.ad φ μ a V) (pl : PartR l L) (pu : PartR u U) (k : Ans Ω φ μ s.heap st v Q) :
  wpAny (model Ω.P Ω.w) A (subscriptTail value (.Slice lo hi none p) V (.ref s.heap.objs.size)) Q E { s with heap := s.heap.push { cls := .type "slice", data := .fields #[L, U, .none] } } := by
 have J : Inv Ω φ μ st { s with heap := s.heap.push { cls := .type "slice", data := .fields #[L, U, .none] } } := I.push _ s.toks
 have k' : Ans Ω φ μ ({ s with heap := s.heap.push { cls := .type "slice", data := .fields #[L, U, .none] } } : Shared).heap st v Q := Ans.push (tk := s.toks) k
 have hsl := Heap.IsSliceOf.new s.heap L U .none
 have go : ∀ vs, (a = .lst vs ∨ ∃ p, a = .ref p ∧ st.get p = some (.list vs)) → (if vs.length ≤ lim then some (MV.lst (cut vs l u)) else none) = some v → wpAny (model Ω.P Ω.w) A (subscriptTail value (.Slice lo hi none p) V (.ref s.heap.objs.size)) Q E { s with heap := s.heap.push { cls := .type "slice", data := .fields #[L, U, .none] } } := fun vs g e => ifK e fun h e => by
  obtain rfl : .lst (cut vs l u) = v := Option.some.inj e
  obtain ⟨a, ws, m, rfl, hg, q⟩ := asList J ra g
  exact tail_any (isList_of hg).typeIs PySem.slot_list_getitem.lookup (cutList_sound J hg q h hsl pl pu k') rfl
 cases a with
 | lst vs => exact go _ (.inl rfl) e
 | ref p => exact atListK e fun vs g e => go _ (.inr ⟨_, rfl, g⟩) e
 | str x =>
  clear go
  refine ifK e fun hl e => ?_
  obtain rfl : .str (cutStr x l u) = v := Option.some.inj e
  obtain ⟨t, rfl⟩ := ra
  obtain ⟨l', rfl, hl'⟩ := pl.partValue
  obtain ⟨u', rfl, hu'⟩ := pu.partValue
  refine tail_any (typeIs_str _ x t) F.slot_str_getitem.lookup (wpAny_getItem_str_slice (l := l') (u := u') (st := none) ⟨_, Heap.get?_push_size _ rfl, rfl, rfl⟩ rfl ?_) rfl
  have hle : lim ≤ sizeLine := by decide
  unfold sliceMade slicePicked
  simp only [hl', hu', Option.map_none, Option.getD_none, beq_self_eq_true, Bool.true_and]
  unfold cutStr at k'
  by_cases hc : (Builtin.Str.strSliceIndices l u 1 x.length).length = x.length
  ·rw [if_pos hc] at k'
   rw [if_pos (by simpa using hc)]
   exact k'.here J ⟨t, rfl⟩
  ·rw [if_neg hc] at k'
   rw [if_neg (by simpa using hc)]
   unfold cutStr at hl
   rw [if_neg hc] at hl
   exact ⟨Nat.le_trans hl hle, k'.str J⟩
 | _ => exact noK e
end
end Mine
namespace Mine
open PySem PySem.W PySem.Calls PyProof.Rows PySem.SeqAt
structure ClsOk (Ω : Wld) (c : Nat) : Prop where
 ga : findIn Ω.K (.ref (Ω.ad c 0)) "__getattribute__" = some (some (.builtin "object.__getattribute__"))
 gx : findIn Ω.K (.ref (Ω.ad c 0)) "__getattr__" = some none
 hd : hasDictIn Ω.K (Ω.ad c 0) = true
 ov : plainOver Ω.K (Ω.ad c 0) = true
 sa : findIn Ω.K (.ref (Ω.ad c 0)) "__setattr__" = some (some (.builtin "object.__setattr__"))
 made : makesIn Ω.K (Ω.ad c 0) = true
 fld : ∀ x, fieldOk c x = true → findIn Ω.K (.ref (Ω.ad c 0)) x = some none
 mth : ∀ ms x j, Ω.T.cls c = some ms → methAt x ms = some j → (Ω.T.fn c j).isSome = true →
  findIn Ω.K (.ref (Ω.ad c 0)) x = some (some (.ref (Ω.ad c j))) ∧ typeIn Ω.K (.ref (Ω.ad c j)) = some (.type "function") ∧ fieldOk c x = false
theorem fieldOk_cls {c : Nat} {x : Str} (h : fieldOk c x = true) : isCls c = true := by
 unfold fieldOk fieldNames at h
 unfold isCls
 by_cases h1 : c = 28
 ·subst h1; rfl
 by_cases h2 : c = 50
 ·subst h2; rfl
 by_cases h3 : c = 53
 ·subst h3; rfl
 by_cases h4 : c = 56
 ·subst h4; rfl
 rw [if_neg h1, if_neg h2, if_neg h3, if_neg h4] at h
 cases h
section
variable {Ω : Wld} {φ : Phi} {μ : Mu} {st st' : St} {s : Shared} {A : Around} {n : Nat} {Q : Value → Shared → Prop} {E : Value → Shared → Prop} {v : MV}
theorem asInst (I : Inv Ω φ μ st s) {a : Ad} {V : Value} (r : VR Ω.ad φ μ (.ref a) V) {c : Nat} {fs : List (Str × MV)} (g : st.get a = some (.inst c fs)) :
  ∃ A D, V = .ref A ∧ A ≠ D ∧ s.heap.get? A = some (instObj (Ω.ad c 0) D) ∧ (∀ p ∈ fs, fieldOk c p.1 = true) ∧ InstD Ω φ μ s.heap D fs ∧ μ a = some (A, D) := by
 obtain ⟨A, D, rfl, m⟩ := r
 obtain ⟨A', D', m', o⟩ := I.own a _ g
 rw [m] at m'
 cases m'
 obtain ⟨h1, h2, h3, h4⟩ := o
 exact ⟨A, D, rfl, h1, h2, h3, h4, m⟩
theorem getK_mem : ∀ {x : Str} {fs : List (Str × MV)} {v : MV}, getK x fs = some v → (x, v) ∈ fs
 | x, [], v, h => by cases h
 | x, (y, u) :: r, v, h => by
  rcases ifE h with ⟨q, e⟩ | ⟨_, e⟩
  ·exact q ▸ Option.some.inj e ▸ .head _
  ·exact .tail _ (getK_mem e)
theorem lookIn_of {o : Obj} {es : Array DictEntry} {ep : Nat} (hd : o.data = .dict es ep) (hk : StrKeys es) (x : Str) : lookIn x o = some (nsFind es x) := by
 have hr : es.toList.any (·.refKey) = false := by
  rw [List.any_eq_false]
  intro e he
  obtain ⟨n, t, h⟩ := hk e (Array.mem_toList_iff.mp he)
  simp [DictEntry.refKey, h]
 unfold lookIn nsFind findBy
 rw [hd]
 dsimp only
 rw [← Array.find?_toList]
 cases q : es.toList.find? (·.key.isStr x) with
 | some e => simp [q]
 | none => simp [q, hr]
theorem instAt_of {A D C : Addr} {o : Obj} (h1 : s.heap.get? A = some (instObj C D)) (h2 : s.heap.get? D = some o) : InstAt s.heap A (instObj C D) C (some o) := ⟨h1, rfl, rfl, h2⟩
theorem handed_bi (x : String) : handedIn (biVal x) = true := by
 unfold biVal
 repeat' split
 all_goals first | rfl | decide
theorem handed_of {V : Value} (r : VR Ω.ad φ μ v V) : handedIn V = true := by
 cases v with
 | none => obtain rfl : V = _ := r; rfl
 | bool b => obtain rfl : V = _ := r; rfl
 | int i => obtain ⟨t, rfl⟩ := r; rfl
 | str x => obtain ⟨t, rfl⟩ := r; rfl
 | tup vs => obtain ⟨a, _, _, _, rfl, _⟩ := r; rfl
 | lst vs => obtain ⟨a, _, _, rfl, _⟩ := r; rfl
 | rng x y z => obtain ⟨a, _, _, _, rfl, _⟩ := r; rfl
 | ref a => obtain ⟨a, _, rfl, _⟩ := r; rfl
 | fn i j => obtain rfl : V = _ := r; rfl
 | bi x => obtain rfl : V = _ := r; exact handed_bi x
 | arg vs => obtain ⟨a, _, _, _, rfl, _⟩ := r; rfl
theorem attr_sound {expr : Bool} {a : MV} {x : Str} {V : Value} (hC : ∀ c, isCls c = true → ClsOk Ω c) (e : attrOf st a x = some v) (I : Inv Ω φ μ st s) (ra : VR Ω.ad φ μ a V) (k : Ans Ω φ μ s.heap st v Q) :
  wpAny (model Ω.P Ω.w) A (getAttr V x expr) Q E s := by
 refine atRefK e fun a ha e => atInstK e fun c fs g e => ?_
 obtain ⟨X, D, rfl, hne, hX, hf, ⟨o, es, ep, ho, hd, hk, hz, hv⟩, m⟩ := asInst I (ha ▸ ra) g
 have ok := hf _ (getK_mem e)
 have C := hC c (fieldOk_cls ok)
 have r := hv x
 rw [e] at r
 obtain ⟨w, hw, rw⟩ := r
 exact get_value I.X (instAt_of hX ho) C.ga (findObj_own C.hd (C.fld _ ok) rfl (by rw [lookIn_of hd hk, hw])) (handed_of rw) (k.tok I rw)
theorem getK_putK (x : Str) (v : MV) : ∀ (fs : List (Str × MV)) (y : Str), getK y (putK x v fs) = if y = x then some v else getK y fs
 | [], y => by
  show (if x = y then some v else none) = if y = x then some v else none
  by_cases h : y = x
  ·rw [if_pos h, if_pos h.symm]
  ·rw [if_neg h, if_neg fun q => h q.symm]
 | (z, u) :: r, y => by
  show getK y (if z = x then (z, v) :: r else (z, u) :: putK x v r) = if y = x then some v else if z = y then some u else getK y r
  by_cases hz : z = x
  ·subst hz
   rw [if_pos rfl]
   show (if z = y then some v else getK y r) = _
   by_cases h : y = z
   ·rw [if_pos h, if_pos h.symm]
   ·rw [if_neg h, if_neg (fun q => h q.symm), if_neg (fun q => h q.symm)]
  ·rw [if_neg hz]
   show (if z = y then some u else getK y (putK x v r)) = _
   by_cases h : z = y
   ·rw [if_pos h, if_neg (fun q => hz (h.trans q)), if_pos h]
   ·rw [if_neg h, if_neg h]; exact getK_putK x v r y
theorem putK_length (x : Str) (v : MV) : ∀ (fs : List (Str × MV)), (putK x v fs).length = if (getK x fs).isSome then fs.length else fs.length + 1
 | [] => rfl
 | (z, u) :: r => by
  show (if z = x then (z, v) :: r else (z, u) :: putK x v r).length = if (if z = x then some u else getK x r).isSome then _ else _
  by_cases hz : z = x
  ·rw [if_pos hz, if_pos hz]; rfl
  ·rw [if_neg hz, if_neg hz]
   show (putK x v r).length + 1 = _
   rw [putK_length x v r]
   cases (getK x r).isSome <;> rfl
theorem putK_mem {x : Str} {v : MV} : ∀ {fs : List (Str × MV)} {p : Str × MV}, p ∈ putK x v fs → p.1 = x ∨ ∃ q ∈ fs, q.1 = p.1
 | [], p, h => .inl (congrArg Prod.fst (List.mem_singleton.mp h))
 | (z, u) :: r, p, h => by
  by_cases q : z = x
  ·replace h : p ∈ (z, v) :: r := (if_pos q : (if z = x then (z, v) :: r else (z, u) :: putK x v r) = _) ▸ h
   rcases List.mem_cons.mp h with rfl | h
   ·exact .inl q
   ·exact .inr ⟨p, .tail _ h, rfl⟩
  ·replace h : p ∈ (z, u) :: putK x v r := (if_neg q : (if z = x then (z, v) :: r else (z, u) :: putK x v r) = _) ▸ h
   rcases List.mem_cons.mp h with rfl | h
   ·exact .inr ⟨_, .head _, rfl⟩
   ·rcases putK_mem h with q | ⟨q, hq, e⟩
    ·exact .inl q
    ·exact .inr ⟨q, .tail _ hq, e⟩
theorem wpAny_nsSetN {M : Model} {a : Addr} {o : Obj} {es : Array DictEntry} {ep : Nat} {name : Str} {v : Value} {QU : Unit → Shared → Prop} (ho : s.heap.get? a = some o) (hd : o.data = .dict es ep) (hk : StrKeys es)
  (hQ : ∀ h' o' es' ep', h'.get? a = some o' → o'.data = .dict es' ep' → StrKeys es' → es'.size = (if (nsFind es name).isSome then es.size else es.size + 1) → (∀ x, nsFind es' x = if x = name then some v else nsFind es x) → Heap.SameBut a s.heap h' →
   QU () { s with heap := h', toks := s.toks + 1 }) : wpAny M A (nsSet a name v) QU E s := fun Γ p _ => by
 simp only [nsSet, strHash, Sem.wp_bind', Sem.wp_cmd_ask, Sem.wp_pure', Sem.wp_cmd_mkText]
 rw [Sem.wp_loadPart_of M Γ _ p { s with toks := s.toks + 1 } (o := o) _ ho]
 have hany : es.any (·.refKey) = false := by
  rw [Array.any_eq_false']; intro e he; obtain ⟨n, t, h⟩ := hk e he; simp [DictEntry.refKey, h]
 simp only [hd, aRefKeyMayBeTheName_eq, aRefKeyMayBeTheNameByArray, hany, Bool.and_false, Bool.false_eq_true, if_false, Sem.wp_cmd_updatePart]
 refine ⟨by rw [ho]; rfl, ?_⟩
 obtain ⟨c, d, dt, sl⟩ := o
 subst hd
 have hf := findBy_of_findIdx? (fun n v => v.isStr n) es name
 cases hi : es.findIdx? (·.key.isStr name) with
 | some i =>
  have hs : (nsFind es name).isSome = true := by
   show (findBy (fun n v => v.isStr n) es name).isSome = true
   rw [hf, hi]
   have hlt := (Array.findIdx?_eq_some_iff_findIdx_eq.mp hi).1
   simp [hlt]
  refine hQ _ _ _ ep (Heap.get?_update_self _ ho (by simp only [Obj.putName_eq, Obj.putNameByArray, hi]; rfl)) (by simp only [Obj.putName_eq, Obj.putNameByArray, hi]; rfl) (hk.modify _ _) ?_ (fun x => ?_) (Heap.SameBut.update ..)
  ·rw [hs, if_pos rfl, Array.size_modify]
  ·exact findBy_modify (fun n v => v.isStr n) Value.isStr_inj es name x v i hi
 | none =>
  have hs : (nsFind es name).isSome = false := by
   show (findBy (fun n v => v.isStr n) es name).isSome = false
   rw [hf, hi]; rfl
  refine hQ _ _ _ (ep + 1) (Heap.get?_update_self _ ho (by simp only [Obj.putName_eq, Obj.putNameByArray, hi]; rfl)) (by simp only [Obj.putName_eq, Obj.putNameByArray, hi]; rfl) (hk.push _ _ _ _) ?_ (fun x => ?_) (Heap.SameBut.update ..)
  ·rw [hs, if_neg Bool.false_ne_true, Array.size_push]
  ·exact findBy_push (fun n v => v.isStr n) es name x _ _ v (fun y => by
    show (name == y) = decide (y = name)
    by_cases h : y = name
    ·subst h; simp
    ·have : ¬ name = y := fun e => h e.symm
     simp [h, this]) hi
theorem setattr_sound {a : MV} {x : Str} {V W : Value} {QU : Unit → Shared → Prop} (hC : ∀ c, isCls c = true → ClsOk Ω c) (e : setAttrOf st a x v = some st') (I : Inv Ω φ μ st s) (ra : VR Ω.ad φ μ a V) (rv : VR Ω.ad φ μ v W)
  (k : ∀ h' tk, Inv Ω φ μ st' { s with heap := h', toks := tk } → Ext φ μ s.heap φ μ h' → QU () { s with heap := h', toks := tk }) :
  wpAny (model Ω.P Ω.w) A (setAttr V x W) QU E s := by
 refine atRefK e fun a ha e => atInstK e fun c fs g e => ifK e fun hok e => ?_
 obtain ⟨X, D, rfl, hne, hX, hf, ⟨o, es, ep, ho, hd, hk, hz, hv⟩, m⟩ := asInst I (ha ▸ ra) g
 have C := hC c (fieldOk_cls hok.1)
 have In := instAt_of hX ho
 refine set_plain I.X In C.sa (osa_open (s := { s with toks := s.toks + 1 }) I.X In C.ov (r := none) (by unfold takerIn; rw [C.fld _ hok.1]; rfl) fun b => ?_)
 obtain ⟨cd, hc, hd'⟩ := any_some C.hd
 refine wpAny_bind (wpAny_pure (wpAny_bind (wpAny_bind (wpAny_loadPart hX (wpAny_bind ((show Looks (model Ω.P Ω.w) ({ s with toks := s.toks + 1 } : Shared).heap (classData (Ω.ad c 0)) cd from looks_clsIn I.X hc).here ?_))))))
 rw [hd']
 refine wpAny_pure (a := some D) (wpAny_bind (wpAny_pure (wpAny_bind ?_)))
 refine wpAny_nsSetN (s := { s with toks := s.toks + 1 }) ho hd hk fun h' o' es' ep' ho' hd'' hk' hz' hv' hs => ?_
 have hll : sizeLine = 16777216 := sizeLine_eq
 refine wpAny_bind (wpAny_lookBehind ho' (by rw [hd'']; exact pastItsLine_dict (by rw [hz']; split <;> lia)) ?_)
 have hr := hv x
 have hob : ObjAt Ω φ μ h' X D (.inst c (putK x v fs)) := by
  refine ⟨hne, (hs.2 _ hne).trans hX, fun p hp => ?_, ⟨o', es', ep', ho', hd'', hk', ?_, fun y => ?_⟩⟩
  ·rcases putK_mem hp with q | ⟨q, hq, eq⟩
   ·rw [q]; exact hok.1
   ·rw [← eq]; exact hf q hq
  ·rw [hz', putK_length, hz, hr.isSome]
  ·rw [hv', getK_putK]
   split
   ·exact ⟨W, rfl, rv⟩
   ·exact hv y
 obtain ⟨J, ex⟩ := I.upd (s.toks + 1 + 1) e m (.inr rfl) hs hob
 exact wpAny_pure (k _ _ J ex)
end
end Mine
namespace Mine
open PySem PySem.W PySem.Calls PyProof.Rows PySem.SeqAt
section
variable {Ω : Wld} {φ : Phi} {μ : Mu} {st st' : St} {s : Shared} {A : Around} {n : Nat} {Q : Value → Shared → Prop} {QU : Unit → Shared → Prop} {E : Value → Shared → Prop} {v : MV}
theorem asOwnList (I : Inv Ω φ μ st s) {a : Ad} {V : Value} (r : VR Ω.ad φ μ (.ref a) V) {vs : List MV} (g : st.get a = some (.list vs)) :
  ∃ A ws n, V = .ref A ∧ s.heap.get? A = some ⟨.type "list", none, .seq ws n, #[]⟩ ∧ VRs Ω.ad φ μ vs ws.toList ∧ μ a = some (A, A) := by
 obtain ⟨A, D, rfl, m⟩ := r
 obtain ⟨A', D', m', o⟩ := I.own a _ g
 rw [m] at m'
 cases m'
 obtain ⟨rfl, ws, n, h, q⟩ := o
 exact ⟨D, ws, n, rfl, h, q, m⟩
theorem Inv.listUpd (I : Inv Ω φ μ st s) {a : Ad} {X : Addr} {ws : Array Value} {m : Nat} {vs' : List MV} {f : Array Value → Array Value} (tk : Nat) (hm : μ a = some (X, X)) (hg : s.heap.get? X = some ⟨.type "list", none, .seq ws m, #[]⟩)
  (hp : st.put a (.list vs') = some st') (r : VRs Ω.ad φ μ vs' (f ws).toList) :
  Inv Ω φ μ st' { s with heap := s.heap.update X (Obj.mapSeq f), toks := tk } ∧ Ext φ μ s.heap φ μ (s.heap.update X (Obj.mapSeq f)) :=
 I.upd tk hp hm (.inl rfl) (Heap.SameBut.update ..) ⟨rfl, f ws, _, Heap.get?_update_self _ hg rfl, r⟩
theorem stored_cons {y x : Str} {u w : Value} {r : List (Str × Value)} (hn : y ∉ r.map (·.1)) :
  stored ((y, u) :: r) x w = if y = x then (y, w) :: r else (y, u) :: stored r x w := by
 unfold stored
 by_cases h : y = x
 ·subst h
  rw [if_pos rfl, if_pos (by simp)]
  simp only [List.map_cons, if_pos]
  congr 1
  refine (List.map_congr_left fun kv hkv => ?_).trans (List.map_id _)
  rw [if_neg (fun (e : kv.1 = y) => hn (e ▸ List.mem_map_of_mem hkv))]; rfl
 ·rw [if_neg h]
  simp only [List.any_cons, decide_eq_false h, Bool.false_or, List.map_cons, if_neg h]
  split <;> rfl
theorem KV.stored {x : Str} {v : MV} {w : Value} (rv : VR Ω.ad φ μ v w) : ∀ {es : List (Str × MV)} {kvs : List (Str × Value)}, KV Ω φ μ es kvs → (kvs.map (·.1)).Nodup → KV Ω φ μ (putK x v es) (PySem.stored kvs x w)
 | [], _, h, _ => by subst h; exact ⟨w, [], rfl, rv, rfl⟩
 | (y, u) :: es, _, ⟨u', t, e, h1, h2⟩, hn => by
  subst e
  rw [List.map_cons, List.nodup_cons] at hn
  rw [stored_cons hn.1]
  show KV Ω φ μ (if y = x then _ else _) _
  by_cases h : y = x
  ·rw [if_pos h, if_pos h]; exact ⟨w, t, rfl, rv, h2⟩
  ·rw [if_neg h, if_neg h]; exact ⟨u', _, rfl, h1, KV.stored rv h2 hn.2⟩
theorem dictOf_nodup {h : Heap} {D : Addr} {kvs : List (Str × Value)} (d : h.DictOf (strKind Ω.P Ω.w) D kvs) : (kvs.map (·.1)).Nodup := by
 obtain ⟨o, es, ep, _, _, _, _, _, hn⟩ := d
 exact hn
theorem setsub_sound {a b : MV} {V W U : Value} (e : setSubOf st a b v = some st') (I : Inv Ω φ μ st s) (ra : VR Ω.ad φ μ a V) (rb : VR Ω.ad φ μ b W) (rv : VR Ω.ad φ μ v U)
  (k : ∀ h' tk, Inv Ω φ μ st' { s with heap := h', toks := tk } → Ext φ μ s.heap φ μ h' → QU () { s with heap := h', toks := tk }) :
  wpAny (model Ω.P Ω.w) A (setItem V W U) QU E s := by
 refine atRefK e fun a ha e => ?_
 cases b with
 | int i =>
  refine atListK e fun vs g e => ifK e fun hk e => ?_
  obtain ⟨X, ws, m, rfl, hg, q, hm⟩ := asOwnList I (ha ▸ ra) g
  obtain ⟨t, rfl⟩ := rb
  have hlen := q.length
  rw [Array.length_toList] at hlen
  obtain ⟨hk, hlim⟩ := hk
  obtain ⟨J, x⟩ := I.listUpd (f := fun xs => xs.setIfInBounds (Int.toNat _) U) s.toks hm hg e (by rw [Array.toList_setIfInBounds]; exact q.set _ rv)
  have hll : lim = 100000 := rfl
  exact ki_setAt hg hk.1 (by lia) (by lia) (k _ _ J x)
 | str x =>
  refine atDictK e fun es g e => ifK e fun hl e => ?_
  obtain ⟨X, kvs, rfl, d, q, hm⟩ := asDict I (ha ▸ ra) g
  obtain ⟨t, rfl⟩ := rb
  have hlen := q.length
  have hll : lim ≤ sizeLine := by decide
  refine wpAny_setItem_pairs (strKind_is _ _ _ t) d (fun h' d' hs => ?_) (by lia)
  obtain ⟨J, x⟩ := I.upd (s.toks + 1) e hm (.inl rfl) hs ⟨rfl, _, d', q.stored rv (dictOf_nodup d)⟩
  exact k _ _ J x
 | _ => exact noK e
theorem Inv.adopt (I : Inv Ω φ μ st s) {h' : Heap} {X D : Addr} {a : Ad} {o : MO} (tk : Nat) (ha : st.alloc a o = some st') (hX : φ X = none ∧ ¬ Own μ X) (hD : φ D = none ∧ ¬ Own μ D) (hbX : Ω.h₀.objs.size ≤ X) (hbD : Ω.h₀.objs.size ≤ D)
  (hlX : X < s.heap.objs.size) (hlD : D < s.heap.objs.size) (hz : h'.objs.size = s.heap.objs.size) (hs : ∀ b, b ≠ X → b ≠ D → h'.get? b = s.heap.get? b)
  (hob : ∀ μ', (∀ a p, μ a = some p → μ' a = some p) → ObjAt Ω φ μ' h' X D o) :
  Inv Ω φ (putF μ a (X, D)) st' { s with heap := h', toks := tk } ∧ ∀ {φ₀ : Phi} {μ₀ : Mu} {h : Heap}, Ext φ₀ μ₀ h φ μ s.heap → h.objs.size ≤ X → h.objs.size ≤ D → Ext φ₀ μ₀ h φ (putF μ a (X, D)) h' := by
 have hm : μ a = none := I.free (alloc_free ha).1
 have ha' := (alloc_free ha).2
 have hμ : ∀ b p, μ b = some p → putF μ a (X, D) b = some p := fun b p e => by
  rw [putF_ne _ _ (fun q => by rw [q, hm] at e; cases e)]; exact e
 have hk : ∀ b o, s.heap.get? b = some o → ((∃ o, φ b = some o) ∨ Own μ b) → h'.get? b = some o := fun b o e q => by
  have n1 : b ≠ X := fun z => by
   subst z
   rcases q with ⟨o, q⟩ | q
   ·rw [hX.1] at q; cases q
   ·exact hX.2 q
  have n2 : b ≠ D := fun z => by
   subst z
   rcases q with ⟨o, q⟩ | q
   ·rw [hD.1] at q; cases q
   ·exact hD.2 q
  rw [hs b n1 n2]; exact e
 have apart : ∀ b C E, μ b = some (C, E) → C ≠ X ∧ C ≠ D ∧ E ≠ X ∧ E ≠ D := fun b C E e =>
  ⟨fun q => hX.2 ⟨b, C, E, e, .inl q.symm⟩, fun q => hD.2 ⟨b, C, E, e, .inl q.symm⟩, fun q => hX.2 ⟨b, C, E, e, .inr q.symm⟩, fun q => hD.2 ⟨b, C, E, e, .inr q.symm⟩⟩
 refine ⟨⟨I.base, fun a o e => hk _ _ (I.fro a o e) (.inl ⟨o, e⟩), fun b o' e => ?_, fun b c A D' A' D'' mb mc hbc => ?_, fun b A D' mb => ?_, fun b e => ?_, ?_, I.gens, I.os, fun b p e => ?_⟩, fun x h1 h2 => ⟨x.fro, x.froN, fun a p e => hμ _ _ (x.mu a p e), fun b e => ?_, fun b o e n => ?_, by rw [hz]; exact x.size⟩⟩
 ·by_cases hb : b = a
  ·subst hb
   rw [get_put_self ha'] at e
   cases e
   exact ⟨_, _, putF_self _ _ _, hob _ hμ⟩
  ·rw [get_put_ne ha' hb] at e
   obtain ⟨C, E, m, x⟩ := I.own b o' e
   exact ⟨C, E, hμ _ _ m, (x.keep fun d od hd e => hk _ _ e (.inr ⟨b, C, E, m, hd⟩)).mono (fun _ _ e => e) hμ⟩
 ·unfold putF at mb mc
  split at mb
  ·rename_i q
   split at mc
   ·rename_i q'; exact absurd (q.trans q'.symm) hbc
   ·first | exact noK mb | exact ffK mb | cases mb
    obtain ⟨a1, a2, a3, a4⟩ := apart _ _ _ mc
    exact ⟨a1.symm, a3.symm, a2.symm, a4.symm⟩
  ·split at mc
   ·first | exact noK mc | exact ffK mc | cases mc
    exact apart _ _ _ mb
   ·exact I.inj b c A D' A' D'' mb mc hbc
 ·unfold putF at mb
  split at mb
  ·first | exact noK mb | exact ffK mb | cases mb
   exact ⟨hX.1, hD.1, hz ▸ hlX, hz ▸ hlD⟩
  ·obtain ⟨x, y, z, w⟩ := I.off b A D' mb
   exact ⟨x, y, hz ▸ z, hz ▸ w⟩
 ·rcases Own.put e with q | q | q
  ·exact I.up b q
  ·rw [q]; exact hbX
  ·rw [q]; exact hbD
 ·show _ ≤ h'.objs.size
  rw [hz]; exact I.base_le
 ·by_cases hb : b = a
  ·subst hb; rw [get_put_self ha']; rfl
  ·rw [get_put_ne ha' hb]
   rw [putF_ne _ _ hb] at e
   exact I.dom b p e
 ·rcases Own.put e with q | q | q
  ·exact x.ownN b q
  ·exact .inr (q ▸ h1)
  ·exact .inr (q ▸ h2)
 ·have hlt := Heap.lt_size e
  rw [hs b (Nat.ne_of_lt (Nat.lt_of_lt_of_le hlt h1)) (Nat.ne_of_lt (Nat.lt_of_lt_of_le hlt h2))]
  exact x.keep b o e n
theorem Inv.new_off (I : Inv Ω φ μ st s) {b : Addr} (h : s.heap.objs.size ≤ b) : φ b = none ∧ ¬ Own μ b := by
 refine ⟨?_, fun q => absurd (I.own_lt q) (Nat.not_lt.mpr h)⟩
 cases q : φ b with
 | none => rfl
 | some o => exact absurd (I.phi_lt q) (Nat.not_lt.mpr h)
theorem layList_sound {pol : Pol} {pos : Pos} {vs : List MV} {ws : Array Value} {m : Nat} {tk : Nat} (e : layList pol pos vs st = some (v, st')) (I : Inv Ω φ μ st s) (r : VRs Ω.ad φ μ vs ws.toList) (k : Ans Ω φ μ s.heap st' v Q) :
  Q (.ref s.heap.objs.size) { s with heap := s.heap.push ⟨.type "list", none, .seq ws m, #[]⟩, toks := tk } := by
 unfold layList at e
 generalize pol pos st = o at e
 cases o with
 | some a =>
  refine givK e fun st₁ ha e => ?_
  cases e
  obtain ⟨J, x⟩ := I.alloc1 (ob := ⟨.type "list", none, .seq ws m, #[]⟩) tk ha fun μ' hμ => ⟨rfl, ws, m, Heap.get?_push_size _ rfl, r.mono (fun _ _ e => e) hμ⟩
  exact k _ _ _ _ x J ⟨_, _, rfl, putF_self _ _ _⟩
 | none =>
  cases e
  exact k.list I r
noncomputable def KVs (Ω : Wld) (φ : Phi) (μ : Mu) : List (Str × MV) → List (Value × Value) → Prop
 | [], ws => ws = []
 | (x, v) :: r, ws => ∃ t w q, ws = (.str x t, w) :: q ∧ VR Ω.ad φ μ v w ∧ KVs Ω φ μ r q
theorem KVs.carries : ∀ {es : List (Str × MV)} {ws : List (Value × Value)}, KVs Ω φ μ es ws → ∃ kvs, Carries (strKind Ω.P Ω.w) ws kvs ∧ KV Ω φ μ es kvs ∧ kvs.length = ws.length
 | [], _, h => by subst h; exact ⟨[], trivial, rfl, rfl⟩
 | (x, v) :: es, _, ⟨t, w, q, e, h1, h2⟩ => by
  subst e
  obtain ⟨kvs, a, b, c⟩ := KVs.carries h2
  exact ⟨(x, w) :: kvs, ⟨strKind_is _ _ _ t, rfl, a⟩, ⟨w, kvs, rfl, h1, b⟩, by simp only [List.length_cons, c]⟩
theorem stored_nodup {x : Str} {w : Value} : ∀ {kvs : List (Str × Value)}, (kvs.map (·.1)).Nodup → ((PySem.stored kvs x w).map (·.1)).Nodup ∧ ∀ y, y ∈ (PySem.stored kvs x w).map (·.1) → y = x ∨ y ∈ kvs.map (·.1)
 | [], _ => by
  refine ⟨by simp [PySem.stored], fun y hy => ?_⟩
  simp [PySem.stored] at hy; exact .inl hy
 | (y, u) :: r, hn => by
  rw [List.map_cons, List.nodup_cons] at hn
  rw [stored_cons hn.1]
  split
  ·exact ⟨by rw [List.map_cons, List.nodup_cons]; exact hn, fun z hz => .inr hz⟩
  ·rename_i hne
   obtain ⟨h1, h2⟩ := stored_nodup (x := x) (w := w) hn.2
   refine ⟨?_, fun z hz => ?_⟩
   ·rw [List.map_cons, List.nodup_cons]
    refine ⟨fun hm => ?_, h1⟩
    rcases h2 _ hm with q | q
    ·exact hne q
    ·exact hn.1 q
   ·rcases List.mem_cons.mp hz with rfl | hz
    ·exact .inr (.head _)
    ·rcases h2 _ hz with q | q
     ·exact .inl q
     ·exact .inr (.tail _ q)
theorem KV.merged : ∀ {more : List (Str × MV)} {kvm : List (Str × Value)} {es : List (Str × MV)} {kvs : List (Str × Value)}, KV Ω φ μ es kvs → (kvs.map (·.1)).Nodup → KV Ω φ μ more kvm → KV Ω φ μ (updK es more) (PySem.merged kvs kvm)
 | [], _, es, kvs, h, _, hm => by subst hm; exact h
 | (x, v) :: more, _, es, kvs, h, hn, ⟨w, t, e, h1, h2⟩ => by
  subst e
  exact show KV Ω φ μ (updK (putK x v es) more) (PySem.merged (PySem.stored kvs x w) t) from KV.merged (KV.stored h1 h hn) (stored_nodup hn).1 h2
theorem layDict_sound {pol : Pol} {pos : Pos} {es : List (Str × MV)} {kvs : List (Str × Value)} {X : Addr} {h' : Heap} {h₀ : Heap} {φ₀ : Phi} {μ₀ : Mu} {tk : Nat} (e : layDict pol pos es st = some (v, st')) (I : Inv Ω φ μ st s) (x : Ext φ₀ μ₀ h₀ φ μ s.heap)
  (hX : φ X = none ∧ ¬ Own μ X) (h1 : h₀.objs.size ≤ X) (h2 : Ω.h₀.objs.size ≤ X) (h3 : X < s.heap.objs.size) (d : h'.DictOf (strKind Ω.P Ω.w) X kvs) (hs : Heap.SameBut X s.heap h') (q : KV Ω φ μ es kvs)
  (k : Ans Ω φ₀ μ₀ h₀ st' v Q) : Q (.ref X) { s with heap := h', toks := tk } := by
 unfold layDict at e
 generalize pol pos st = o at e
 cases o with
 | some a =>
  refine givK e fun st₁ ha e => ?_
  cases e
  obtain ⟨J, y⟩ := I.adopt tk ha hX hX h2 h2 h3 h3 hs.1 (fun b n _ => hs.2 b n) (o := .dict es) fun μ' hμ => ⟨rfl, kvs, d, q.mono (fun _ _ e => e) hμ⟩
  exact k _ _ _ _ (y x h1 h1) J ⟨_, _, rfl, putF_self _ _ _⟩
 | none => exact noK e
end
end Mine
namespace Mine
open PySem PySem.W PySem.Calls PyProof.Rows PySem.SeqAt
theorem Runs.sizes {M : Model} {Γ : Ctx} {p : Pos} {t : Sem Fin} {fs : List Frame} {s s' : Shared} {e : End} (h : Runs M Γ p t fs s e s') : s.heap.objs.size ≤ s'.heap.objs.size := by
 induction h
 all_goals first
  | exact Nat.le_refl _
  | assumption
  | exact Nat.le_trans (Nat.le_of_eq (Heap.size_after_update ..).symm) (by assumption)
  | exact Nat.le_trans (Nat.le_of_lt (Nat.lt_of_lt_of_eq (Nat.lt_succ_self _) (Heap.size_push ..).symm)) (by assumption)
  | (rename_i i1 i2; exact Nat.le_trans i1 i2)
  | (rename_i i1 _ i2; exact Nat.le_trans i1 i2)
  | (rename_i _ _ i1 i2; exact Nat.le_trans i1 i2)
  | skip
theorem Wakes.sizes {M : Model} {Γ : Ctx} {p : Pos} {g : Nat} {r : Resume} {s s' : Shared} {res : GenResult} (h : Wakes M Γ p g r s res s') : s.heap.objs.size ≤ s'.heap.objs.size := by
 have go : ∀ {c : Code} {q : Pos} {k : Sem Fin} {fs : List Frame} {Γ' : Ctx}, (∃ e₁ s₁, Runs M Γ' q k fs (s.setGen g .running) e₁ s₁ ∧ e₁.quiet = true ∧ res = e₁.result ∧ s' = s₁.setGen g e₁.genState) → s.heap.objs.size ≤ s'.heap.objs.size := fun h => by
  obtain ⟨e, s₁, h1, _, _, rfl⟩ := h
  exact show s.heap.objs.size ≤ s₁.heap.objs.size from (show (s.setGen g .running).heap.objs.size ≤ s₁.heap.objs.size from Runs.sizes h1)
 have same : s' = s → s.heap.objs.size ≤ s'.heap.objs.size := fun e => e ▸ Nat.le_refl _
 unfold Wakes at h
 generalize s.gens[g]? = o at h
 cases o with
 | none => exact h.elim
 | some x =>
  cases x with
  | fresh c => cases r with
   | send v => cases v <;> first | exact same h.2 | exact go (c := c) h
   | throw x => exact h.2 ▸ Nat.le_refl _
  | suspended k₀ l c₀ p₀ fs cl => exact go (c := c₀) h
  | _ => exact same h.2
theorem wp_sizes {α : Type} {M : Model} {Γ : Ctx} {Q : α → Pos → Shared → Prop} {E : Value → Pos → Shared → Prop} (n : Nat) (t : Sem α) : ∀ (p : Pos) (s : Shared), n ≤ s.heap.objs.size →
  Sem.wp M Γ t (fun a p s' => n ≤ s'.heap.objs.size → Q a p s') E p s → Sem.wp M Γ t Q E p s := by
 induction t with
 | pure x => exact fun p s hn h => h hn
 | raise v => exact fun p s hn h => h
 | unsupported | finish | yield | fork | await | register => exact fun p s hn h => h
 | rule _ k ih | «at» _ k ih | loadIfAlive _ k ih | point _ k ih | ask k ih | os _ _ k ih | handled _ k ih | newGen _ k ih | stack k ih | thread k ih | fresh k ih => exact fun p s hn h => ih _ _ _ (by exact hn) h
 | alloc o k ih => exact fun p s hn h => ih _ _ _ (Nat.le_trans hn (Nat.le_of_lt (Nat.lt_of_lt_of_eq (Nat.lt_succ_self _) (Heap.size_push ..).symm))) h
 | load a _ k ih | genState a k ih => exact fun p s hn h => h.elim fun o h => ⟨o, h.1, ih _ _ _ hn h.2⟩
 | update a _ f k ih => exact fun p s hn h => ⟨h.1, ih _ _ _ (Nat.le_trans hn (Nat.le_of_eq (Heap.size_after_update ..).symm)) h.2⟩
 | choose _ _ k ih => exact fun p s hn h => ⟨h.1, ih _ _ _ hn h.2⟩
 | call c h g l k ih => exact fun p s hn h => h.elim fun r h => h.elim fun s' h => ⟨r, s', h.1, ih _ _ _ (Nat.le_trans hn (Runs.sizes h.1)) h.2⟩
 | resume g r l k ih => exact fun p s hn h => h.elim fun r h => h.elim fun s' h => ⟨r, s', h.1, ih _ _ _ (Nat.le_trans hn (Wakes.sizes h.1)) h.2⟩
theorem wpAny_sizes {α : Type} {M : Model} {A : Around} {t : Sem α} {Q : α → Shared → Prop} {E : Value → Shared → Prop} {s : Shared} {n : Nat} (hn : n ≤ s.heap.objs.size)
  (h : wpAny M A t (fun a s' => n ≤ s'.heap.objs.size → Q a s') E s) : wpAny M A t Q E s := fun Γ p hΓ => wp_sizes n t p s hn (h Γ p hΓ)
theorem wpAny_collect_seqZ {prog : Program} {w : World} {A : Around} {E : Value → Shared → Prop} {s : Shared} {Q : List Value → Shared → Prop} (it : Addr) {T : String} {o : Obj} {items : Array Value} {n : Nat} (hT : T = "list" ∨ T = "tuple")
  (ho : s.heap.get? it = some o) (hc : o.cls = .type T) (hd : o.data = .seq items n)
  (hQ : ∀ h', (∀ b o', s.heap.get? b = some o' → h'.get? b = some o') → s.heap.objs.size ≤ h'.objs.size → Q items.toList { s with heap := h' }) (hsz : items.size ≤ sizeLine) :
  wpAny (model prog w) A (collect (.ref it)) Q E s :=
 wpAny_sizes (Nat.le_refl _) (wpAny_collect_seq it hT ho hc hd (fun h' hk hz => hQ h' hk hz) hsz)
theorem meets_tuple_list (l : Addr) (o : Obj) (items : Array Value) (n : Nat) (hc : o.cls = .type "list") (hd : o.data = .seq items n) (hsz : items.size ≤ sizeLine) :
  Meets (Builtin.«tuple.__new__» ⟨[.type "tuple", .ref l], []⟩)
   (fun _ R s => s.heap.get? l = some o ∧ ∀ h' : Heap, (∀ b o', s.heap.get? b = some o' → h'.get? b = some o') → s.heap.objs.size ≤ h'.objs.size → R (.ok (.ret (.ref h'.objs.size))) { s with heap := h'.push { cls := .type "tuple", data := .seq items } }) :=
 .of_wp fun prog w A R s h => by
  obtain ⟨hp, g, d, tk, os⟩ := s; obtain ⟨ht, h⟩ := h
  have hsub := sub_tuple_self
  have hinit := init_tuple_lookup
  have hmh := madeHere_tuple
  have hT : Shared.TypeIs ⟨hp, g, d, tk, os⟩ (.ref l) "list" := ⟨o, ht, hc⟩
  wp_walk using AutoSeq1.wpAny_loadPart' ht, wpAny_typeOf hT, wpAny_collect_seqZ (hsz := hsz) l (.inl rfl) ht hc hd
  intro h' hk hz
  show wpAny _ _ (Builtin.Tuple.tupleExact items.toList.toArray >>= fun v => ret v) _ _ _
  unfold Builtin.Tuple.tupleExact
  refine wpAny_bind (wpAny_newObj_type ?_ (by show items.toList.toArray.size ≤ sizeLine; simpa using hsz))
  refine wpAny_pure ⟨_, rfl, ?_⟩
  have e : items.toList.toArray = items := by simp
  rw [e]
  exact h h' hk hz
section
variable {Ω : Wld} {φ : Phi} {μ : Mu} {st st' : St} {s : Shared} {A : Around} {n : Nat} {Q : Value → Shared → Prop} {QU : Unit → Shared → Prop} {E : Value → Shared → Prop} {v : MV}
theorem call_tuple_list' {l : Addr} {items : Array Value} (hl : s.heap.IsList l items)
  (h : ∀ h' : Heap, (∀ b o', s.heap.get? b = some o' → h'.get? b = some o') → s.heap.objs.size ≤ h'.objs.size → Q (.ref h'.objs.size) { s with heap := h'.push { cls := .type "tuple", data := .seq items } })
  (hsz : items.size ≤ sizeLine) : wpAny (model Ω.P Ω.w) A (call (.type "tuple") [.ref l]) Q E s := by
 obtain ⟨o, ho, hc, n, hd⟩ := hl
 exact callType_new PySem.F.called_tuple (by decide) (PySem.F.typeCall_tuple_1 _) (PySem.F.newCall_tuple_1 _) (fun obj => PySem.F.args_object_init_2 obj _) PySem.F.entry_tuple_new
  (meets_tuple_list l o items n hc hd hsz) ⟨ho, fun h' hk hz => ⟨⟨_, Heap.get?_push_size _ rfl, rfl⟩, h h' hk hz⟩⟩
theorem Ans.fresh {h' : Heap} {X : Addr} {o : Obj} {tk : Nat} {V : Value} (k : Ans Ω φ μ s.heap st v Q) (I : Inv Ω φ μ st s) (hk : ∀ b o', s.heap.get? b = some o' → h'.get? b = some o') (hX : s.heap.objs.size ≤ X) (ho : h'.get? X = some o)
  (r : ∀ φ', (∀ a o, φ a = some o → φ' a = some o) → φ' X = some o → VR Ω.ad φ' μ v V) : Q V { s with heap := h', toks := tk } := by
 have hlt := Heap.lt_size ho
 have hφ : ∀ a o', φ a = some o' → putF φ X o a = some o' := fun a o' e => by
  rw [putF_ne _ _ (Nat.ne_of_lt (Nat.lt_of_lt_of_le (I.phi_lt e) hX))]; exact e
 have hz : s.heap.objs.size ≤ h'.objs.size := Nat.le_trans hX (Nat.le_of_lt hlt)
 have J : Inv Ω (putF φ X o) μ st { s with heap := h', toks := tk } := by
  refine ⟨fun a o' e => hφ a o' (I.base a o' e), fun a o' e => ?_, fun a o' e => ?_, I.inj, fun a A D e => ?_, I.up, Nat.le_trans I.base_le hz, I.gens, I.os, I.dom⟩
  ·unfold putF at e
   split at e
   ·rename_i q; cases e; subst q; exact ho
   ·exact hk _ _ (I.fro a o' e)
  ·obtain ⟨A, D, m, x⟩ := I.own a o' e
   exact ⟨A, D, m, (x.keep fun b o q e => hk _ _ e).mono hφ fun _ _ e => e⟩
  ·obtain ⟨a1, a2, a3, a4⟩ := I.off a A D e
   exact ⟨(putF_ne _ _ (Nat.ne_of_lt (Nat.lt_of_lt_of_le a3 hX))).trans a1, (putF_ne _ _ (Nat.ne_of_lt (Nat.lt_of_lt_of_le a4 hX))).trans a2, Nat.lt_of_lt_of_le a3 hz, Nat.lt_of_lt_of_le a4 hz⟩
 refine k V _ (putF φ X o) μ ⟨hφ, fun a o' e => ?_, fun _ _ e => e, fun _ e => .inl e, fun b o e _ => hk _ _ e, hz⟩ J (r _ hφ (putF_self _ _ _))
 unfold putF at e
 split at e
 ·rename_i q; exact .inr (q ▸ hX)
 ·exact .inl e
theorem maxInts_all : ∀ {vs : List MV} {m : Int}, maxInts vs = some m → ∃ is : List Int, vs = is.map .int ∧ m ∈ is ∧ ∀ i ∈ is, i ≤ m
 | [], _, h => noK h
 | [x], m, h => asIntK h fun i p h => ⟨[i], p ▸ rfl, (Option.some.inj h) ▸ .head _, fun j hj => Int.le_of_eq ((List.mem_singleton.mp hj).trans (Option.some.inj h))⟩
 | x :: y :: r, m, h => asIntK h fun i p h => obK h fun q hq h => by
  obtain ⟨is, e, hm, hle⟩ := maxInts_all hq
  obtain rfl : (if i < q then q else i) = m := Option.some.inj h
  refine ⟨i :: is, by rw [List.map_cons, ← e, p], ?_, ?_⟩
  ·split
   ·exact .tail _ hm
   ·exact .head _
  ·intro j hj
   rcases List.mem_cons.mp hj with rfl | hj
   ·split <;> lia
   ·have := hle j hj
    split <;> lia
theorem ints_of : ∀ {is : List Int} {ws : List Value}, VRs Ω.ad φ μ (is.map .int) ws → ∃ xs : List (Int × Tok), ws = xs.map (fun p => .int p.1 p.2) ∧ xs.map (·.1) = is
 | [], _, h => by cases (show _ = [] from h); exact ⟨[], rfl, rfl⟩
 | i :: is, _, ⟨w, r, e, ⟨t, h1⟩, h2⟩ => by
  obtain ⟨xs, rfl, h3⟩ := ints_of h2
  subst e h1
  exact ⟨(i, t) :: xs, rfl, by rw [List.map_cons, h3]⟩
theorem argBest_max (f : Nat → Int) : ∀ k, argBest (fun i j => decide (f i > f j)) k ≤ k ∧ ∀ j, j ≤ k → f j ≤ f (argBest (fun i j => decide (f i > f j)) k)
 | 0 => ⟨Nat.le_refl _, fun j hj => by cases Nat.le_zero.mp hj; exact Int.le_refl _⟩
 | k + 1 => by
  obtain ⟨h1, h2⟩ := argBest_max f k
  unfold argBest
  by_cases h : f (k + 1) > f (argBest (fun i j => decide (f i > f j)) k)
  ·rw [if_pos (by simpa using h)]
   refine ⟨Nat.le_refl _, fun j hj => ?_⟩
   rcases Nat.lt_or_ge j (k + 1) with q | q
   ·have := h2 j (by lia); lia
   ·cases Nat.le_antisymm hj q; exact Int.le_refl _
  ·rw [if_neg (by simpa using h)]
   refine ⟨by lia, fun j hj => ?_⟩
   rcases Nat.lt_or_ge j (k + 1) with q | q
   ·exact h2 j (by lia)
   ·cases Nat.le_antisymm hj q; lia
theorem numAt_mem {xs : List (Int × Tok)} {j : Nat} (h : j < xs.length) : numAt xs.toArray j ∈ xs.map (·.1) := by
 unfold numAt
 rw [show xs.toArray[j]? = some xs[j] by simp [h]]
 simp only [Option.map_some, Option.getD_some]
 exact List.mem_map_of_mem (List.getElem_mem _)
theorem builtin_elim {P : String → List MV → MV → Prop} {id : String} {args : List MV} {v : MV} (e0 : builtin st id args = some v) (h1 : ∀ a n, lenOf st a = some n → P "len" [a] (.int n)) (h2 : ∀ n, P "range" [.int n] (.rng 0 n 1)) (h3 : ∀ a b, P "range" [.int a, .int b] (.rng a b 1))
  (h4 : ∀ a b c, c = -1 → (-100000 ≤ a ∧ a ≤ 100000 ∧ -100000 ≤ b ∧ b ≤ 100000) → P "range" [.int a, .int b, .int c] (.rng a b c)) (h5 : ∀ vs, vs.length ≤ lim → P "list" [.tup vs] (.lst vs)) (h6 : ∀ vs, vs.length ≤ lim → P "list" [.lst vs] (.lst vs))
  (h7 : ∀ vs, vs.length ≤ lim → P "tuple" [.lst vs] (.tup vs)) (h8 : ∀ a vs, st.get a = some (.list vs) → vs.length ≤ lim → P "tuple" [.ref a] (.tup vs)) (h9 : ∀ i : Int, (0 ≤ i ∧ i < 100) → P "str" [.int i] (.str (Str.ofString (toString i))))
  (h10 : ∀ vs i, maxInts vs = some i → P "max" [.lst vs] (.int i)) (h11 : ∀ x : Str, x = ⟨#[x.cps.getD 0 0]⟩ → P "ord" [.str x] (.int (x.cps.getD 0 0 : Nat))) (h12 : ∀ i : Int, (0 ≤ i ∧ i < 128) → P "chr" [.int i] (.str ⟨#[i.toNat]⟩)) : P id args v := by
 rcases ifE e0 with ⟨rfl, e⟩ | ⟨_, e1⟩
 ·exact arg1K e fun a p e => obK e fun n h e => p ▸ someK e (h1 _ _ h)
 rcases ifE e1 with ⟨rfl, e⟩ | ⟨_, e2⟩
 ·clear e0 e1 h1 h5 h6 h7 h8 h9 h10 h11 h12
  refine argcK e fun a r p e => asIntK e fun a q e => ?_
  subst p q
  cases r with
  | nil => exact ifK e fun _ e => someK e (h2 _)
  | cons b r =>
   refine asIntK e fun b q e => ?_
   subst q
   cases r with
   | nil => exact ifK e fun _ e => someK e (h3 _ _)
   | cons c r => exact arg0K e fun p e => asIntK e fun c q e => p ▸ q ▸ ifK e fun hc e => ifK e fun hb e => someK e (h4 _ _ _ hc hb)
 rcases ifE e2 with ⟨rfl, e⟩ | ⟨_, e3⟩
 ·clear e0 e1 e2 h1 h2 h3 h4 h7 h8 h9 h10 h11 h12
  refine arg1K e fun a p e => p ▸ ?_
  clear p
  cases a <;> first | exact noK e | exact ifK e fun hl e => someK e (h5 _ hl) | exact ifK e fun hl e => someK e (h6 _ hl)
 rcases ifE e3 with ⟨rfl, e⟩ | ⟨_, e4⟩
 ·clear e0 e1 e2 e3 h1 h2 h3 h4 h5 h6 h9 h10 h11 h12
  refine arg1K e fun a p e => p ▸ ?_
  clear p
  cases a <;> first | exact noK e | exact ifK e fun hl e => someK e (h7 _ hl) | exact atListK e fun vs g e => ifK e fun hl e => someK e (h8 _ _ g hl)
 rcases ifE e4 with ⟨rfl, e⟩ | ⟨_, e5⟩
 ·exact arg1K e fun a p e => asIntK e fun i q e => p ▸ q ▸ ifK e fun h e => someK e (h9 _ h)
 rcases ifE e5 with ⟨rfl, e⟩ | ⟨_, e6⟩
 ·exact arg1K e fun a p e => asLstK e fun i q e => p ▸ q ▸ obK e fun i h e => someK e (h10 _ _ h)
 rcases ifE e6 with ⟨rfl, e⟩ | ⟨_, e7⟩
 ·exact arg1K e fun a p e => asStrK e fun i q e => p ▸ q ▸ ifK e fun h e => someK e (h11 _ h)
 rcases ifE e7 with ⟨rfl, e⟩ | ⟨_, e8⟩
 ·exact arg1K e fun a p e => asIntK e fun i q e => p ▸ q ▸ ifK e fun h e => someK e (h12 _ h)
 exact noK e8
theorem lenOf_list (I : Inv Ω φ μ st s) {a : MV} {V : Value} {n : Nat} (e : lenOf st a = some n) (ra : VR Ω.ad φ μ a V) :
  ∃ b o ws m, V = .ref b ∧ s.heap.get? b = some o ∧ (o.cls = .type "list" ∨ o.cls = .type "tuple") ∧ o.data = .seq ws m ∧ ws.size = n ∧ n ≤ lim := by
 refine obK e fun vs h1 h2 => ifK h2 fun hl h3 => ?_
 cases Option.some.inj h3
 have fin : ∀ {ws : Array Value}, VRs Ω.ad φ μ vs ws.toList → ws.size = vs.length := fun q => Array.length_toList ▸ q.length
 revert ra
 refine itemsNow_elim (P := fun a => VR Ω.ad φ μ a V → ∃ b o ws m, V = .ref b ∧ s.heap.get? b = some o ∧ (o.cls = .type "list" ∨ o.cls = .type "tuple") ∧ o.data = .seq ws m ∧ ws.size = vs.length ∧ vs.length ≤ lim) h1 (fun ra => ?_) (fun ra => ?_) fun g ra => ?_
 ·obtain ⟨b, o, ws, m, e1, _, hc, hd, hg, q⟩ := asTuple I ra; exact ⟨b, o, ws, m, e1, hg, .inr hc, hd, fin q, hl⟩
 ·obtain ⟨b, o, ws, m, e1, hg, hc, hd, q⟩ := ra; exact ⟨b, o, ws, m, e1, I.fro _ _ hg, .inl hc, hd, fin q, hl⟩
 ·obtain ⟨b, ws, m, e1, hg, q⟩ := asList I ra g; exact ⟨b, _, ws, m, e1, hg, .inl rfl, rfl, fin q, hl⟩
theorem max_sound (hh : A.handled = none) {vs : List MV} {m : Int} (hm : maxInts vs = some m) (I : Inv Ω φ μ st s) {V : Value} (ra : VR Ω.ad φ μ (.lst vs) V) (k : Ans Ω φ μ s.heap st (.int m) Q) : wpAny (model Ω.P Ω.w) A (call (.builtin "max") [V]) Q E s := by
 obtain ⟨is, rfl, hmem, hle⟩ := maxInts_all hm
 obtain ⟨a, ws, c, rfl, hg, q⟩ := asList I ra (.inl rfl)
 obtain ⟨xs, hxs, hxi⟩ := ints_of q
 have hws : ws = intItems xs.toArray := by
  apply Array.ext'
  rw [hxs]; unfold intItems; simp
 subst hws
 have hpos : 0 < xs.length := by
  rw [← hxi] at hmem
  cases xs with
  | nil => simp at hmem
  | cons => simp
 refine wpAny_sizes (Nat.le_refl _) (max_intList hh (isList_of hg) (by simpa using hpos) fun w h' tk hw hk hz => ?_)
 have hb := argBest_max (numAt xs.toArray) (xs.toArray.size - 1)
 obtain ⟨t, rfl⟩ := intItems_at hw
 have hval : numAt xs.toArray (argBest (fun i j => decide (numAt xs.toArray i > numAt xs.toArray j)) (xs.toArray.size - 1)) = m := by
  apply Int.le_antisymm
  ·apply hle
   have hlt : argBest (fun i j => decide (numAt xs.toArray i > numAt xs.toArray j)) (xs.toArray.size - 1) < xs.length := by
    have := hb.1
    simp only [List.size_toArray] at this ⊢
    lia
   rw [← hxi]
   exact numAt_mem hlt
  ·rw [← hxi] at hmem
   obtain ⟨p, hp, rfl⟩ := List.mem_map.mp hmem
   obtain ⟨j, hj, rfl⟩ := List.getElem_of_mem hp
   have := hb.2 j (by simp only [List.size_toArray]; lia)
   refine Int.le_trans (Int.le_of_eq ?_) this
   unfold numAt
   simp [hj]
 rw [hval]
 exact k _ _ φ μ (Ext.keeps hk hz) (I.keeps hk hz) ⟨t, rfl⟩
theorem builtin_sound {id : String} {args : List MV} {Vs : List Value} (hh : A.handled = none) (e : builtin st id args = some v) (I : Inv Ω φ μ st s) (r : VRs Ω.ad φ μ args Vs) (k : Ans Ω φ μ s.heap st v Q) :
  wpAny (model Ω.P Ω.w) A (call (biVal id) Vs) Q E s := by
 have hll : lim = 100000 := rfl
 have hsl : sizeLine = 16777216 := sizeLine_eq
 revert r k
 refine builtin_elim (P := fun id args v => VRs Ω.ad φ μ args Vs → Ans Ω φ μ s.heap st v Q → wpAny (model Ω.P Ω.w) A (call (biVal id) Vs) Q E s) e (fun a n h => ?_) (fun n => ?_) (fun a b => ?_) (fun a b c hc hb => ?_) (fun vs hl => ?_) (fun vs hl => ?_) (fun vs hl => ?_)
  (fun a vs g hl => ?_) (fun i hi => ?_) (fun vs m hm => ?_) (fun x hx => ?_) (fun i hi => ?_)
 ·rintro ⟨V, _, rfl, ra, rfl⟩ k
  obtain ⟨b, o, ws, m, rfl, hg, hc, hd, rfl, hl⟩ := lenOf_list I h ra
  rcases hc with hc | hc
  ·exact Calls.call_len_list ⟨o, hg, hc, m, hd⟩ (by lia) (k.int I)
  ·exact PyProof.Rows.len_tuple (items := ws) ⟨o, hg, hc, m, hd⟩ (by lia) (k.int I)
 ·rintro ⟨V, _, rfl, ⟨t, rfl⟩, rfl⟩ k
  exact call_range_1 (k.fresh I (fun b o e => Heap.get?_push_of_some _ e) (Nat.le_refl _) (Heap.get?_push_size _ rfl) fun φ' _ h => ⟨_, _, _, _, rfl, h⟩)
 ·rintro ⟨V, _, rfl, ⟨t, rfl⟩, U, _, rfl, ⟨u, rfl⟩, rfl⟩ k
  exact call_range_2 (k.fresh I (fun b o e => Heap.get?_push_of_some _ e) (Nat.le_refl _) (Heap.get?_push_size _ rfl) fun φ' _ h => ⟨_, _, _, _, rfl, h⟩)
 ·rintro ⟨V, _, rfl, ⟨t, rfl⟩, U, _, rfl, ⟨u, rfl⟩, Y, _, rfl, ⟨y, rfl⟩, rfl⟩ k
  refine call_range_3 (by lia) ?_ (.inl (PyProof.noPylong_small (by lia)))
  exact k.fresh I (fun b o e => Heap.get?_push_of_some _ e) (Nat.le_refl _) (Heap.get?_push_size _ rfl) fun φ' _ h => ⟨_, _, _, _, rfl, h⟩
 ·rintro ⟨V, _, rfl, ra, rfl⟩ k
  obtain ⟨a, o, ws, m, rfl, _, hc, hd, hg, q⟩ := asTuple I ra
  have hlen := q.length
  rw [Array.length_toList] at hlen
  exact call_list_seq a (.inr rfl) hg hc hd (fun h' c' hk hn => k.fresh I hk (Nat.le_refl _) hn fun φ' hφ h => ⟨_, _, _, rfl, h, q.mono hφ fun _ _ e => e⟩) (by lia)
 ·rintro ⟨V, _, rfl, ra, rfl⟩ k
  obtain ⟨a, ws, m, rfl, hg, q⟩ := asList I ra (.inl rfl)
  have hlen := q.length
  rw [Array.length_toList] at hlen
  exact call_list_seq a (.inl rfl) hg rfl rfl (fun h' c' hk hn => k.fresh I hk (Nat.le_refl _) hn fun φ' hφ h => ⟨_, _, _, rfl, h, q.mono hφ fun _ _ e => e⟩) (by lia)
 ·rintro ⟨V, _, rfl, ra, rfl⟩ k
  obtain ⟨a, ws, m, rfl, hg, q⟩ := asList I ra (.inl rfl)
  have hlen := q.length
  rw [Array.length_toList] at hlen
  exact call_tuple_list' (isList_of hg) (fun h' hk hz => k.fresh I (fun b o e => Heap.get?_push_of_some _ (hk b o e)) hz (Heap.get?_push_size _ rfl) fun φ' hφ h => ⟨_, _, _, _, rfl, h, rfl, rfl, q.mono hφ fun _ _ e => e⟩) (by lia)
 ·rintro ⟨V, _, rfl, ra, rfl⟩ k
  obtain ⟨a, ws, m, rfl, hg, q⟩ := asList I ra (.inr ⟨_, rfl, g⟩)
  have hlen := q.length
  rw [Array.length_toList] at hlen
  exact call_tuple_list' (isList_of hg) (fun h' hk hz => k.fresh I (fun b o e => Heap.get?_push_of_some _ (hk b o e)) hz (Heap.get?_push_size _ rfl) fun φ' hφ h => ⟨_, _, _, _, rfl, h, rfl, rfl, q.mono hφ fun _ _ e => e⟩) (by lia)
 ·rintro ⟨V, _, rfl, ⟨t, rfl⟩, rfl⟩ k
  refine P.str_of_int ?_ (k.str I)
  have : i.natAbs < 2 ^ 7 := by lia
  by_cases h0 : i.natAbs = 0
  ·rw [h0]; decide
  ·have := (Nat.log2_lt h0).mpr this
   lia
 ·rintro ⟨V, _, rfl, ra, rfl⟩ k
  exact max_sound hh hm I ra k
 ·rintro ⟨V, _, rfl, ⟨t, rfl⟩, rfl⟩ k
  rw [hx]
  exact P.ord_of_char (k.int I)
 ·rintro ⟨V, _, rfl, ⟨t, rfl⟩, rfl⟩ k
  exact P.chr_of_int (by simp; lia) (k.str I)
end
end Mine
namespace Mine
open PySem PySem.W PySem.Calls PyProof.Rows PySem.SeqAt PySem.MeetsSeq
noncomputable def listId (x : Str) : String := if x = "append" then "list.append" else if x = "pop" then "list.pop" else if x = "remove" then "list.remove" else "list.insert"
noncomputable def dictId (x : Str) : String := if x = "get" then "dict.get" else "dict.update"
noncomputable def strId (x : Str) : String := if x = "join" then "str.join" else if x = "lower" then "str.lower" else "str.split"
noncomputable def methFn (Ω : Wld) (k : Me) (x : Str) : Value := match k with
 | .inst c j => .ref (Ω.ad c j)
 | .list => .builtin (listId x)
 | .dict => .builtin (dictId x)
 | .lst => .builtin "list.index"
 | .str => .builtin (strId x)
section
variable {Ω : Wld} {φ : Phi} {μ : Mu} {st st' : St} {s : Shared} {A : Around} {n : Nat} {Q : Value → Shared → Prop} {QU : Unit → Shared → Prop} {E : Value → Shared → Prop} {v : MV}
theorem listGet {x : Str} {a : Addr} {ws : Array Value} {m : Nat} {pl : Sem Bool} {QP : Value × List Value → Shared → Prop} (hg : s.heap.get? a = some ⟨.type "list", none, .seq ws m, #[]⟩)
  (hx : x = "append" ∨ x = "pop" ∨ x = "remove" ∨ x = "insert") (h : QP (.builtin (listId x), [.ref a]) s) : wpAny (model Ω.P Ω.w) A (getMethod (.ref a) x pl) QP E s := by
 have hd : s.heap.NoDictAt (.ref a) := ⟨_, hg, rfl⟩
 rcases hx with rfl | rfl | rfl | rfl
 ·exact getMethod_list_of PySem.F.slot_list_append PySem.F.type_list_append (isList_of hg) hd h
 ·exact getMethod_list_of PySem.F.slot_list_pop PySem.F.type_list_pop (isList_of hg) hd h
 ·exact getMethod_list_of PySem.F.slot_list_remove PySem.F.type_list_remove (isList_of hg) hd h
 ·exact getMethod_list_of PySem.F.slot_list_insert PySem.F.type_list_insert (isList_of hg) hd h
theorem methKind_elim {T : Tab} {o : MV} {x : Str} {k : Me} {P : MV → Me → Prop} (e : methKind T st o x = some k)
  (h1 : ∀ a c fs ms j, st.get a = some (.inst c fs) → isCls c = true → T.cls c = some ms → methAt x ms = some j → (T.fn c j).isSome = true → P (.ref a) (.inst c j))
  (h2 : ∀ a vs, st.get a = some (.list vs) → (x = "append" ∨ x = "pop" ∨ x = "remove" ∨ x = "insert") → P (.ref a) .list) (h3 : ∀ a es, st.get a = some (.dict es) → (x = "get" ∨ x = "update") → P (.ref a) .dict)
  (h4 : ∀ vs, x = "index" → P (.lst vs) .lst) (h5 : ∀ y, (x = "join" ∨ x = "lower" ∨ x = "split") → P (.str y) .str) : P o k := by
 cases o with
 | ref a =>
  unfold methKind at e
  dsimp only at e
  generalize g : st.get a = q at e
  cases q with
  | none => exact noK e
  | some o =>
   cases o with
   | inst c fs => exact ifK e fun hc e => obK e fun ms h e => obK e fun j hj e => ifK e fun hf e => someK e (h1 a c fs ms j g hc h hj hf)
   | list vs => exact ifK e fun hn e => someK e (h2 a vs g hn)
   | dict es => exact ifK e fun hn e => someK e (h3 a es g hn)
 | lst vs => exact ifK e fun hn e => someK e (h4 vs hn)
 | str y => exact ifK e fun hn e => someK e (h5 y hn)
 | _ => exact noK e
theorem methKind_sound {ov : MV} {V : Value} {x : Str} {k : Me} {pl : Sem Bool} {QP : Value × List Value → Shared → Prop} (hC : ∀ c, isCls c = true → ClsOk Ω c) (e : methKind Ω.T st ov x = some k) (I : Inv Ω φ μ st s) (r : VR Ω.ad φ μ ov V)
  (h : QP (methFn Ω k x, [V]) s) : wpAny (model Ω.P Ω.w) A (getMethod V x pl) QP E s := by
 revert r h
 refine methKind_elim (P := fun ov k => VR Ω.ad φ μ ov V → QP (methFn Ω k x, [V]) s → wpAny (model Ω.P Ω.w) A (getMethod V x pl) QP E s) e (fun a c fs ms j g hc hms hj hf => ?_) (fun a vs g hx => ?_) (fun a es g hx => ?_) (fun vs hx => ?_) (fun y hx => ?_)
 ·intro r h
  obtain ⟨X, D, rfl, hne, hX, hok, ⟨o, es, ep, ho, hd, hk, hz, hv⟩, m⟩ := asInst I r g
  have C := hC c hc
  obtain ⟨h1, h2, h3⟩ := C.mth ms x j hms hj hf
  have hn : getK x fs = none := by
   cases q : getK x fs with
   | none => rfl
   | some v => exact ffK (h3.symm.trans (hok _ (getK_mem q)))
  refine method_fn I.X (instAt_of hX ho) C.ga C.gx h1 h2 ?_ h
  have r := hv x
  rw [hn] at r
  show (lookIn x o).map (·.isSome) = some false
  rw [lookIn_of hd hk, show nsFind es x = none from r]; rfl
 ·intro r h
  obtain ⟨a, ws, m, rfl, hg, q⟩ := asList I r (.inr ⟨_, rfl, g⟩)
  exact listGet hg hx h
 ·intro r h
  obtain ⟨X, kvs, rfl, d, q, m⟩ := asDict I r g
  rcases hx with rfl | rfl
  ·exact getMethod_builtin d.typeIs PySem.F.plainAttrs_dict PySem.F.slot_dict_get PySem.F.type_dict_get d.mapOf.noDict h
  ·exact getMethod_builtin d.typeIs PySem.F.plainAttrs_dict PySem.F.slot_dict_update PySem.F.type_dict_update d.mapOf.noDict h
 ·intro r h
  subst hx
  obtain ⟨a, ws, m, rfl, hg, q⟩ := asList I r (.inl rfl)
  exact getMethod_list_of PySem.F.slot_list_index PySem.F.type_list_index (isList_of hg) ⟨_, hg, rfl⟩ h
 ·rintro ⟨t, rfl⟩ h
  rcases hx with rfl | rfl | rfl
  ·exact GM.join h
  ·exact GM.lower h
  ·exact GM.split h
theorem hasKind_eq {x y : MV} {X Y : Value} (hk : hasKind x y = true) (rx : VR Ω.ad φ μ x X) (ry : VR Ω.ad φ μ y Y) : EqGives Y X (valEq x Y) ∧ valEq x Y = isAtom x y := by
  cases x <;> first
    | exact ffK hk
    | (cases y <;> first
       | exact ffK hk
       | (obtain ⟨t, rfl⟩ := rx
          obtain ⟨u, rfl⟩ := ry
          refine ⟨?_, rfl⟩
          show EqGives _ _ (decide _)
          rw [dec_beq]
          first | exact MeetsSeq.EqGives.int _ _ _ _ | (rw [← str_beq]; exact SeqRoads2.EqGives.str _ _ _ _)))
theorem idx_sound {x : MV} {X : Value} {vs : List MV} {ws : Array Value} {i : Nat} (e : idxAtoms x vs = some i) (rx : VR Ω.ad φ μ x X) (q : VRs Ω.ad φ μ vs ws.toList) :
  ∃ hi : i < ws.size, (∀ y, y ∈ ws → EqGives y X (valEq x y)) ∧ valEq x ws[i] = true ∧ ∀ m (hm : m < ws.size), m < i → valEq x ws[m] = false := by
 refine ifK e fun ha e => ?_
 have hlen := q.length
 rw [Array.length_toList] at hlen
 have hat : ∀ j (h1 : j < ws.size) (h2 : j < vs.length), valEq x ws[j] = isAtom x vs[j] := fun j h1 h2 => by
  obtain ⟨w, hw, rw⟩ := q.get (List.getElem?_eq_getElem h2)
  have : ws[j] = w := by
   rw [Array.getElem?_toList, Array.getElem?_eq_getElem h1] at hw
   exact Option.some.inj hw
  rw [this]
  exact (hasKind_eq (List.all_eq_true.mp ha _ (List.getElem_mem h2)) rx rw).2
 obtain ⟨hi, h1, h2⟩ := List.findIdx?_eq_some_iff_getElem.mp e
 refine ⟨by lia, fun y hy => ?_, ?_, fun m hm hmi => ?_⟩
 ·obtain ⟨v, hv, rv⟩ := q.mem (Array.mem_toList_iff.mpr hy)
  exact (hasKind_eq (List.all_eq_true.mp ha v hv) rx rv).1
 ·rw [hat i (by lia) hi]; exact h1
 ·rw [hat m hm (by lia)]
  have := h2 m (by lia)
  simpa using this
theorem fits_small {n : Nat} (h : n ≤ 100000) : ¬ (!Builtin.List.listFitsIndex (n : Int)) = true := by
 have : Builtin.List.listFitsIndex (n : Int) = true := by
  unfold Builtin.List.listFitsIndex
  rw [Bool.and_eq_true]
  exact ⟨decide_eq_true (by lia), decide_eq_true (by lia)⟩
 rw [this]; exact Bool.false_ne_true
theorem take_all (xs : Array Value) : xs.extract 0 xs.size = xs := by simp
theorem listMeth_elim {P : Str → List MV → MV × St → Prop} {a : Ad} {x : Str} {vs args : List MV} {r : MV × St} (e0 : listMeth st a vs x args = some r) (h1 : ∀ w st₁, vs.length ≤ lim → st.put a (.list (vs ++ [w])) = some st₁ → P "append" [w] (.none, st₁))
  (h2 : ∀ z st₁, vs.length ≤ lim → vs.getLast? = some z → st.put a (.list vs.dropLast) = some st₁ → P "pop" [] (z, st₁)) (h3 : ∀ w i st₁, vs.length ≤ lim → idxAtoms w vs = some i → st.put a (.list (vs.eraseIdx i)) = some st₁ → P "remove" [w] (.none, st₁))
  (h4 : ∀ (i : Int) w st₁, (i = vs.length ∧ vs.length ≤ lim) → st.put a (.list (vs ++ [w])) = some st₁ → P "insert" [.int i, w] (.none, st₁)) : P x args r := by
 refine ifK e0 fun hl e => ?_
 clear e0
 rcases ifE e with ⟨rfl, e⟩ | ⟨_, e⟩
 ·exact arg1K e fun w p e => givK e fun st₁ g e => p ▸ someK e (h1 w st₁ hl g)
 rcases ifE e with ⟨rfl, e⟩ | ⟨_, e⟩
 ·exact arg0K e fun p e => obK e fun z hz e => givK e fun st₁ g e => p ▸ someK e (h2 z st₁ hl hz g)
 rcases ifE e with ⟨rfl, e⟩ | ⟨_, e⟩
 ·exact arg1K e fun w p e => obK e fun i hi e => givK e fun st₁ g e => p ▸ someK e (h3 w i st₁ hl hi g)
 rcases ifE e with ⟨rfl, e⟩ | ⟨_, e⟩
 ·exact arg2K e fun i w p e => asIntK e fun i q e => ifK e fun hi e => givK e fun st₁ g e => p ▸ q ▸ someK e (h4 i w st₁ ⟨hi, hl⟩ g)
 exact noK e
theorem listMeth_sound {a : Ad} {V : Value} {x : Str} {vs args : List MV} {Vs : List Value} (hx : x = "append" ∨ x = "pop" ∨ x = "remove" ∨ x = "insert") (e : listMeth st a vs x args = some (v, st')) (g : st.get a = some (.list vs)) (I : Inv Ω φ μ st s)
  (r : VR Ω.ad φ μ (.ref a) V) (ra : VRs Ω.ad φ μ args Vs) (k : Ans Ω φ μ s.heap st' v Q) : wpAny (model Ω.P Ω.w) A (call (.builtin (listId x)) (V :: Vs)) Q E s := by
 have hll : lim = 100000 := rfl
 have hsl : sizeLine = 16777216 := sizeLine_eq
 obtain ⟨X, ws, m, rfl, hg, q, hm⟩ := asOwnList I r g
 have hlen : ws.size = vs.length := Array.length_toList ▸ q.length
 have hT : s.TypeIs (.ref X) "list" := ⟨_, hg, rfl⟩
 have fin : ∀ {vs' : List MV} {f : Array Value → Array Value} {W : Value} {u : MV} {st₁ : St}, st.put a (.list vs') = some st₁ → Ans Ω φ μ s.heap st₁ u Q → VRs Ω.ad φ μ vs' (f ws).toList → VR Ω.ad φ μ u W → Q W { s with heap := s.heap.update X (Obj.mapSeq f) } := by
  intro vs' f W u st₁ hp k hr hv
  obtain ⟨J, y⟩ := I.listUpd s.toks hm hg hp hr
  exact k _ _ φ μ y J hv
 clear r g hx
 revert ra k
 refine listMeth_elim (P := fun x args r => VRs Ω.ad φ μ args Vs → Ans Ω φ μ s.heap r.2 r.1 Q → wpAny (model Ω.P Ω.w) A (call (.builtin (listId x)) (.ref X :: Vs)) Q E s) e (fun w st₁ hl hp => ?_) (fun z st₁ hl hz hp => ?_) (fun w i st₁ hl hi hp => ?_) (fun i w st₁ h2 hp => ?_)
 ·rintro ⟨W, _, rfl, rw, rfl⟩ k
  refine call_meets PySem.F.slot_list_append hT PySem.F.entry_list_append (PySem.F.args_list_append_2 _ _) (list_append X ws m W (by lia)) ⟨hg, ?_⟩
  exact fin hp k (by rw [Array.toList_push]; exact q.append ⟨W, [], rfl, rw, rfl⟩) rfl
 ·rintro rfl k
  have hne : vs ≠ [] := fun h => by rw [h] at hz; cases hz
  have hlast : vs[vs.length - 1]? = some z := by rw [← List.getLast?_eq_getElem?]; exact hz
  obtain ⟨W, hW, rW⟩ := q.get hlast
  have hpos : 0 < vs.length := List.length_pos_iff.mpr hne
  refine call_meets PySem.F.slot_list_pop hT PySem.F.entry_list_pop (PySem.F.args_list_pop_1 _) (list_pop_last X ws m W (by rw [← Array.getElem?_toList, hlen]; exact hW) (by lia)) ⟨hg, ?_⟩
  refine fin hp k ?_ rW
  rw [show (ws.eraseIdxIfInBounds (ws.size - 1)).toList = ws.toList.eraseIdx (ws.size - 1) by simp, hlen, show vs.dropLast = vs.eraseIdx (vs.length - 1) by rw [List.eraseIdx_length_sub_one]]
  exact q.eraseIdx _
 ·rintro ⟨W, _, rfl, rw, rfl⟩ k
  obtain ⟨hlt, h1, h2, h3⟩ := idx_sound hi rw q
  refine call_meets PySem.F.slot_list_remove hT PySem.F.entry_list_remove (PySem.F.args_list_remove_2 _ _) (list_remove X ws m W _ h1 i hlt h2 h3 (by lia)) ⟨hg, ?_⟩
  refine fin hp k ?_ rfl
  rw [show (ws.eraseIdxIfInBounds i).toList = ws.toList.eraseIdx i by simp]
  exact q.eraseIdx _
 ·obtain ⟨rfl, h2⟩ := h2
  rintro ⟨U, _, rfl, ⟨t, rfl⟩, W, _, rfl, rw, rfl⟩ k
  have hlim : vs.length ≤ 100000 := hll ▸ h2
  have hz : ws.size ≤ sizeLine := by lia
  have hfi := fits_small hlim
  generalize hix : ((vs.length : Nat) : Int) = i at hfi ⊢
  have hmeet := PySem.AutoSeq1.list_insert_list_int_val_1 X ws m i t W hfi hz
  refine call_meets PySem.F.slot_list_insert hT PySem.F.entry_list_insert (PySem.F.args_list_insert_3 _ _ _) hmeet ⟨hg, ?_⟩
  refine fin hp k ?_ rfl
  subst hix
  have e1 : (if ((vs.length : Nat) : Int) < (0 : Int) then (((vs.length : Nat) : Int) + ((ws.size : Nat) : Int)).toNat else min (Int.toNat ((vs.length : Nat) : Int)) ws.size) = ws.size := by
   rw [if_neg (by lia), Int.toNat_natCast, hlen, Nat.min_self]
  dsimp only
  rw [e1]
  have e2 : ((ws.extract 0 ws.size).push W ++ ws.extract ws.size).toList = ws.toList ++ [W] := by simp
  rw [e2]
  exact q.append ⟨W, [], rfl, rw, rfl⟩
theorem dictMeth_elim {P : Str → List MV → MV × St → Prop} {a : Ad} {x : Str} {es : List (Str × MV)} {args : List MV} {r : MV × St} (e0 : dictMeth st a es x args = some r) (h1 : ∀ y d, P "get" [.str y, d] ((getK y es).getD d, st))
  (h2 : ∀ b fs st₁, st.get b = some (.dict fs) → (a ≠ b ∧ es.length + fs.length ≤ lim) → st.put a (.dict (updK es fs)) = some st₁ → P "update" [.ref b] (.none, st₁)) : P x args r := by
 rcases ifE e0 with ⟨rfl, e⟩ | ⟨_, e⟩
 ·exact arg2K e fun x d p e => asStrK e fun y q e => p ▸ q ▸ someK e (h1 y d)
 rcases ifE e with ⟨rfl, e⟩ | ⟨_, e⟩
 ·exact arg1K e fun x p e => atRefK e fun b q e => atDictK e fun fs g e => ifK e fun hh e => givK e fun st₁ g2 e => p ▸ q ▸ someK e (h2 b fs st₁ g hh g2)
 exact noK e
theorem dictMeth_sound {a : Ad} {V : Value} {x : Str} {es : List (Str × MV)} {args : List MV} {Vs : List Value} (hx : x = "get" ∨ x = "update") (e : dictMeth st a es x args = some (v, st')) (g : st.get a = some (.dict es)) (I : Inv Ω φ μ st s)
  (r : VR Ω.ad φ μ (.ref a) V) (ra : VRs Ω.ad φ μ args Vs) (k : Ans Ω φ μ s.heap st' v Q) : wpAny (model Ω.P Ω.w) A (call (.builtin (dictId x)) (V :: Vs)) Q E s := by
 have hll : lim = 100000 := rfl
 have hsl : sizeLine = 16777216 := sizeLine_eq
 obtain ⟨X, kvs, rfl, d, q, hm⟩ := asDict I r g
 have hX := I.notMods (own_of hm)
 clear r g hx
 revert ra k
 refine dictMeth_elim (P := fun x args r => VRs Ω.ad φ μ args Vs → Ans Ω φ μ s.heap r.2 r.1 Q → wpAny (model Ω.P Ω.w) A (call (.builtin (dictId x)) (.ref X :: Vs)) Q E s) e (fun y dv => ?_) (fun b fs st₁ g2 hab hp => ?_)
 ·rintro ⟨U, _, rfl, ⟨t, rfl⟩, W, _, rfl, rw, rfl⟩ k
  refine call_meetsIn PySem.F.slot_dict_get d.typeIs PySem.F.entry_dict_get (PySem.F.args_dict_get_3 _ _ _) (meets_dict_get_default (strKind Ω.P Ω.w) X (strKind_is _ _ _ t) hX W) ⟨_, d.mapOf, ?_⟩
  refine k.tok I ?_
  have hv := q.value y
  show VR Ω.ad φ μ ((getK y es).getD dv) _
  cases z : getK y es with
  | none => rw [z] at hv; rw [show valueAt kvs y = none from hv]; exact rw
  | some u => rw [z] at hv; obtain ⟨w, hw, rw'⟩ := hv; rw [hw]; exact rw'
 ·rintro ⟨W, _, rfl, rw, rfl⟩ k
  obtain ⟨Y, kv2, rfl, d2, q2, hm2⟩ := asDict I rw g2
  have hne : X ≠ Y := (I.inj _ _ _ _ _ _ hm hm2 hab.1).1
  refine call_meetsIn PySem.F.slot_dict_update d.typeIs PySem.F.entry_dict_update (PySem.F.args_dict_update_2 _ _) (meets_dict_update (strKind Ω.P Ω.w) X Y hne (I.notMods (own_of hm2))) ⟨kvs, kv2, d, d2, ?_, fun h' d' _ hs => ?_⟩
  ·rw [q.length, q2.length]; lia
  ·obtain ⟨J, y⟩ := I.upd s.toks hp hm (.inl rfl) hs ⟨rfl, _, d', q.merged (dictOf_nodup d) q2⟩
   exact k _ _ φ μ y J rfl
theorem strs_of : ∀ {vs : List MV} {ts : List Str} {ws : List Value}, strsOf vs = some ts → VRs Ω.ad φ μ vs ws → ∃ l : List (Str × Tok), ws = strValues l ∧ l.map (·.1) = ts
 | [], _, _, e, h => by cases e; obtain rfl : _ = [] := h; exact ⟨[], rfl, rfl⟩
 | v :: vs, ts, _, e, ⟨w, r, eq, h1, h2⟩ => asStrK e fun x p e => obK e fun t ht e => by
  obtain rfl : x :: t = ts := Option.some.inj e
  obtain ⟨l, rfl, h3⟩ := strs_of ht h2
  obtain ⟨u, rfl⟩ := p ▸ h1
  subst eq
  exact ⟨(_, u) :: l, rfl, by rw [List.map_cons, h3]⟩
theorem strs_VR : ∀ {l : List (Str × Tok)} {ts : List Str}, l.map (·.1) = ts → VRs Ω.ad φ μ (ts.map .str) (strValues l)
 | [], _, h => by subst h; rfl
 | (x, t) :: l, _, h => by subst h; exact ⟨_, _, rfl, ⟨t, rfl⟩, strs_VR rfl⟩
theorem join_inv {y : Str} {vs : List MV} {r : Str} (h : joinStrs y vs = some r) : ∃ ts, strsOf vs = some ts ∧ JoinOk y ts = true ∧ r = Txt.join y ts :=
 obK h fun ts h1 h => ifK h fun h2 h => ⟨ts, h1, h2, (Option.some.inj h).symm⟩
noncomputable def strDo (st : St) (y x : Str) (args : List MV) : Option (MV × St) := if x = "join" then arg1 args fun b => atRef b fun b => atList (st.get b) fun vs => ob (joinStrs y vs) fun r => some (.str r, st)
  else ob (strMeth x y args) fun v => some (v, st)
theorem strDo_elim {P : Str → List MV → MV × St → Prop} {x y : Str} {args : List MV} {r : MV × St} (e0 : strDo st y x args = some r) (h1 : ∀ b vs ts, st.get b = some (.list vs) → strsOf vs = some ts → JoinOk y ts = true → P "join" [.ref b] (.str (Txt.join y ts), st))
  (h2 : (Txt.lower y).length ≤ lim → P "lower" [] (.str (Txt.lower y), st)) (h3 : (y.length ≤ lim ∧ (Builtin.Str.spaceWords y (y.length + 1)).length ≤ lim) → P "split" [] (.lst ((Txt.words y).map .str), st)) : P x args r := by
 rcases ifE e0 with ⟨rfl, e⟩ | ⟨_, e⟩
 ·refine arg1K e fun x p e => atRefK e fun b q e => atListK e fun vs g e => obK e fun z hz e => ?_
  obtain ⟨ts, a1, a2, rfl⟩ := join_inv hz
  exact p ▸ q ▸ someK e (h1 b vs ts g a1 a2)
 refine obK e fun w hw e3 => someK e3 ?_
 clear e3 e e0 h1
 rcases ifE hw with ⟨rfl, e⟩ | ⟨_, e4⟩
 ·exact arg0K e fun p e => ifK e fun hl e => p ▸ someK (P := fun w => P "lower" [] (w, st)) e (h2 hl)
 clear hw
 rcases ifE e4 with ⟨rfl, e⟩ | ⟨_, e5⟩
 ·exact arg0K e fun p e => ifK e fun hl e => p ▸ someK (P := fun w => P "split" [] (w, st)) e (h3 hl)
 exact noK e5
theorem strDo_sound {x y : Str} {t : Tok} {args : List MV} {Vs : List Value} (e : strDo st y x args = some (v, st')) (I : Inv Ω φ μ st s)
  (ra : VRs Ω.ad φ μ args Vs) (k : Ans Ω φ μ s.heap st' v Q) : wpAny (model Ω.P Ω.w) A (call (.builtin (strId x)) (.str y t :: Vs)) Q E s := by
 have hll : lim = 100000 := rfl
 have hsl : sizeLine = 16777216 := sizeLine_eq
 revert ra k
 refine strDo_elim (P := fun x args r => VRs Ω.ad φ μ args Vs → Ans Ω φ μ s.heap r.2 r.1 Q → wpAny (model Ω.P Ω.w) A (call (.builtin (strId x)) (.str y t :: Vs)) Q E s) e (fun b vs ts g hts hok => ?_) (fun hz => ?_) (fun hz => ?_)
 ·rintro ⟨W, _, rfl, rw, rfl⟩ k
  obtain ⟨X, ws, m, rfl, hg, q⟩ := asList I rw (.inr ⟨_, rfl, g⟩)
  obtain ⟨l, hl, hlt⟩ := strs_of hts q
  have hws : ws = (strValues l).toArray := Array.ext' (by simpa using hl)
  subst hws
  exact SC.join (isList_of hg) hlt hok fun t' tk => k.str I
 ·rintro rfl k
  exact SC.lower (by simp [Builtin.Str.tooLong]; lia) (k.str I)
 ·rintro rfl k
  refine call_meets F.slot_str_split (typeIs_str _ _ _) F.entry_str_split (F.args_str_split_1 _) (meets_str_split_space y t (by lia) (by lia)) ?_
  cases hw : Builtin.Str.spaceWords y (y.length + 1) == [(0, y.length)]
  ·simp only [Bool.false_eq_true, if_false]
   rw [strsFrom_eq]
   exact k.list I (strs_VR ((numbered_texts _ _).trans (if_neg (ne_true_of_eq_false hw)).symm))
  ·simp only [if_true]
   exact k.list (tk := s.toks) I (strs_VR (l := [(y, t)]) (if_pos hw).symm)
theorem methDo_sound {rec : Rec} {k : Me} {ov : MV} {x : Str} {args : List MV} {V : Value} {Vs : List Value} {st₀ : St} {T : Tab} (hk : methKind T st₀ ov x = some k) (e : methDo rec k st ov x args = some (v, st')) (I : Inv Ω φ μ st s)
  (r : VR Ω.ad φ μ ov V) (ra : VRs Ω.ad φ μ args Vs) (kk : Ans Ω φ μ s.heap st' v Q)
  (hrec : ∀ c j, k = .inst c j → rec (.fn c j) (ov :: args) st = some (v, st') → wpAny (model Ω.P Ω.w) A (call (.ref (Ω.ad c j)) (V :: Vs)) Q E s) :
  wpAny (model Ω.P Ω.w) A (call (methFn Ω k x) (V :: Vs)) Q E s := by
 have hkind : (k = .list → x = "append" ∨ x = "pop" ∨ x = "remove" ∨ x = "insert") ∧ (k = .dict → x = "get" ∨ x = "update") :=
  methKind_elim (P := fun _ k => (k = .list → x = "append" ∨ x = "pop" ∨ x = "remove" ∨ x = "insert") ∧ (k = .dict → x = "get" ∨ x = "update")) hk (fun _ _ _ _ _ _ _ _ _ _ => ⟨fun h => (nomatch h), fun h => (nomatch h)⟩) (fun _ _ _ h => ⟨fun _ => h, fun h => (nomatch h)⟩) (fun _ _ _ h => ⟨fun h => (nomatch h), fun _ => h⟩)
   (fun _ _ => ⟨fun h => (nomatch h), fun h => (nomatch h)⟩) (fun _ _ => ⟨fun h => (nomatch h), fun h => (nomatch h)⟩)
 clear hk
 cases k with
 | inst c j => exact hrec c j rfl e
 | list => exact atRefK e fun a p e => atListK e fun vs g e => listMeth_sound (hkind.1 rfl) e g I (p ▸ r) ra kk
 | dict => exact atRefK e fun a p e => atDictK e fun vs g e => dictMeth_sound (hkind.2 rfl) e g I (p ▸ r) ra kk
 | lst =>
  refine asLstK e fun vs p e => arg1K e fun w p2 e => ifK e fun hl e => obK e fun i hi e9 => ?_
  clear hkind hrec
  subst p p2
  obtain ⟨W, _, rfl, rw, rfl⟩ := ra
  obtain ⟨X, ws, m, rfl, hg, q⟩ := asList I r (.inl rfl)
  have hlen : ws.size = vs.length := Array.length_toList ▸ q.length
  have hll : lim = 100000 := rfl
  obtain ⟨hlt, h1, h2, h3⟩ := idx_sound hi rw q
  exact call_meets PySem.F.slot_list_index ⟨_, hg, rfl⟩ PySem.F.entry_list_index (PySem.F.args_list_index_2 _ _) (list_index X ws m W _ h1 i hlt (by lia) h2 h3) ⟨hg, (finK (P := fun v st' => Ans Ω φ μ s.heap st' v Q) e9 kk).int I⟩
 | str =>
  refine asStrK e fun y p e => ?_
  subst p
  obtain ⟨t, rfl⟩ := r
  exact strDo_sound e I ra kk
end
end Mine
namespace Mine
open PySem PySem.W PySem.Calls PyProof.Rows PySem.SeqAt
noncomputable def GlobOk (Ω : Wld) : Prop := ∀ x v, Ω.T.glob x = some v → (∃ i, v = .fn i 0 ∧ nsIn Ω.K mainGlobals x = some (some (.ref (Ω.ad i 0))) ∧ keepIn Ω.K (.ref (Ω.ad i 0)) = true) ∨
 (∃ b, v = .bi b ∧ nsIn Ω.K mainGlobals x = some none ∧ bootBuiltins x = some (biVal b) ∧ x ≠ "__name__")
noncomputable def KindOk (sc : Scope) (env : Env) : Prop := ∀ x k, lookKind sc x = some k → env.kindOf x = some (if k = .free then .cell else k)
structure ExtF (sc : Scope) (env : Env) (φ : Phi) (μ : Mu) (h : Heap) (φ' : Phi) (μ' : Mu) (h' : Heap) : Prop where
 fro : ∀ a o, φ a = some o → φ' a = some o
 froN : ∀ a o, φ' a = some o → φ a = some o ∨ h.objs.size ≤ a
 mu : ∀ a p, μ a = some p → μ' a = some p
 ownN : ∀ b, Own μ' b → Own μ b ∨ h.objs.size ≤ b
 keep : ∀ b o, h.get? b = some o → ¬ Own μ b → b ≠ env.locals → (∀ x c, lookKind sc x = some .cell → env.cells.lookup x = some c → b ≠ c) → h'.get? b = some o
 size : h.objs.size ≤ h'.objs.size
theorem Ext.f {sc : Scope} {env : Env} {φ : Phi} {μ : Mu} {h : Heap} {φ' : Phi} {μ' : Mu} {h' : Heap} (x : Ext φ μ h φ' μ' h') : ExtF sc env φ μ h φ' μ' h' := ⟨x.fro, x.froN, x.mu, x.ownN, fun b o e n _ _ => x.keep b o e n, x.size⟩
theorem ExtF.refl {sc : Scope} {env : Env} {φ : Phi} {μ : Mu} {h : Heap} : ExtF sc env φ μ h φ μ h := Ext.refl.f
theorem ExtF.trans {sc : Scope} {env : Env} {φ φ₁ φ₂ : Phi} {μ μ₁ μ₂ : Mu} {h h₁ h₂ : Heap} (x : ExtF sc env φ μ h φ₁ μ₁ h₁) (y : ExtF sc env φ₁ μ₁ h₁ φ₂ μ₂ h₂) : ExtF sc env φ μ h φ₂ μ₂ h₂ := by
 refine ⟨fun a o e => y.fro a o (x.fro a o e), fun a o e => ?_, fun a p e => y.mu a p (x.mu a p e), fun b e => ?_, fun b o e n n1 n2 => y.keep b o (x.keep b o e n n1 n2) (fun q => ?_) n1 n2, Nat.le_trans x.size y.size⟩
 ·rcases y.froN a o e with q | q
  ·exact x.froN a o q
  ·exact .inr (Nat.le_trans x.size q)
 ·rcases y.ownN b e with q | q
  ·exact x.ownN b q
  ·exact .inr (Nat.le_trans x.size q)
 ·rcases x.ownN b q with q | q
  ·exact n q
  ·exact absurd (Heap.lt_size e) (Nat.not_lt.mpr q)
section
variable {Ω : Wld} {φ : Phi} {μ : Mu} {st st' : St} {s : Shared} {A : Around} {n : Nat} {Q : Value → Shared → Prop} {QU : Unit → Shared → Prop} {E : Value → Shared → Prop} {v : MV} {env : Env} {loc loc' : Loc} {sc : Scope}
noncomputable def AnsE (Ω : Wld) (φ : Phi) (μ : Mu) (h : Heap) (st' : St) (v : MV) (Q : Value → Shared → Prop) : Prop :=
 ∀ V s' φ' μ', Ext φ μ h φ' μ' s'.heap → Inv Ω φ' μ' st' s' → 1 ≤ s'.toks → VR Ω.ad φ' μ' v V → Q V s'
theorem AnsE.op {h : Heap} (k : AnsE Ω φ μ h st' v Q) : Ans Ω φ μ h st' v (fun V s' => 1 ≤ s'.toks → Q V s') := fun V s' φ' μ' x J r t => k V s' φ' μ' x J t r
theorem AnsE.after {φ₁ : Phi} {μ₁ : Mu} {h h₁ : Heap} (k : AnsE Ω φ μ h st' v Q) (x : Ext φ μ h φ₁ μ₁ h₁) : AnsE Ω φ₁ μ₁ h₁ st' v Q := fun V s' φ' μ' y J t r => k V s' φ' μ' (x.trans y) J t r
theorem AnsE.here {V : Value} (k : AnsE Ω φ μ s.heap st v Q) (I : Inv Ω φ μ st s) (t : 1 ≤ s.toks) (r : VR Ω.ad φ μ v V) : Q V s := k V s φ μ .refl I t r
theorem opE {t : Sem Value} {M : Model} (ht : 1 ≤ s.toks) (k : AnsE Ω φ μ s.heap st' v Q) (h : ∀ {Q' : Value → Shared → Prop}, Ans Ω φ μ s.heap st' v Q' → wpAny M A t Q' E s) : wpAny M A t Q E s :=
 wpAny_toks ht (h k.op)
noncomputable def AnsB (Ω : Wld) (φ : Phi) (μ : Mu) (h : Heap) (st' : St) (b : Bool) (QB : Bool → Shared → Prop) : Prop :=
 ∀ s' φ' μ', Ext φ μ h φ' μ' s'.heap → Inv Ω φ' μ' st' s' → 1 ≤ s'.toks → QB b s'
theorem AnsB.fin {h : Heap} {b b' : Bool} {st₂ : St} {QB : Bool → Shared → Prop} (e : some (b', st₂) = some (b, st')) (k : AnsB Ω φ μ h st' b QB) : AnsB Ω φ μ h st₂ b' QB := by cases e; exact k
theorem AnsB.after {φ₁ : Phi} {μ₁ : Mu} {h h₁ : Heap} {b : Bool} {QB : Bool → Shared → Prop} (k : AnsB Ω φ μ h st' b QB) (x : Ext φ μ h φ₁ μ₁ h₁) : AnsB Ω φ₁ μ₁ h₁ st' b QB := fun s' φ' μ' y J t => k s' φ' μ' (x.trans y) J t
noncomputable def AnsV (Ω : Wld) (φ : Phi) (μ : Mu) (h : Heap) (st' : St) (vs : List MV) (QV : List Value → Shared → Prop) : Prop :=
 ∀ Vs s' φ' μ', Ext φ μ h φ' μ' s'.heap → Inv Ω φ' μ' st' s' → 1 ≤ s'.toks → VRs Ω.ad φ' μ' vs Vs → QV Vs s'
theorem AnsE.fin {h : Heap} {w : MV} {st₂ : St} (e : some (w, st₂) = some (v, st')) (k : AnsE Ω φ μ h st' v Q) : AnsE Ω φ μ h st₂ w Q := by cases e; exact k
theorem AnsV.fin {h : Heap} {ws vs : List MV} {st₂ : St} {QV : List Value → Shared → Prop} (e : some (ws, st₂) = some (vs, st')) (k : AnsV Ω φ μ h st' vs QV) : AnsV Ω φ μ h st₂ ws QV := by cases e; exact k
noncomputable def AnsL (Ω : Wld) (sc : Scope) (env : Env) (φ : Phi) (μ : Mu) (h : Heap) (st' : St) (loc' : Loc) (QU : Unit → Shared → Prop) : Prop :=
 ∀ s' φ' μ', ExtF sc env φ μ h φ' μ' s'.heap → Inv Ω φ' μ' st' s' → FrOk Ω φ' μ' s'.heap env loc' → 1 ≤ s'.toks → QU () s'
theorem AnsL.fin {h : Heap} {sc : Scope} {env : Env} {l loc' : Loc} {st₂ : St} {QU : Unit → Shared → Prop} (e : some (l, st₂) = some (loc', st')) (k : AnsL Ω sc env φ μ h st' loc' QU) : AnsL Ω sc env φ μ h st₂ l QU := by cases e; exact k
theorem AnsL.after {φ₁ : Phi} {μ₁ : Mu} {h h₁ : Heap} (k : AnsL Ω sc env φ μ h st' loc' QU) (x : ExtF sc env φ μ h φ₁ μ₁ h₁) : AnsL Ω sc env φ₁ μ₁ h₁ st' loc' QU := fun s' φ' μ' y J F t => k s' φ' μ' (x.trans y) J F t
noncomputable def FlR (Ω : Wld) (φ : Phi) (μ : Mu) : Fl → Flow → Prop
 | .next, f => f = .next
 | .brk, f => f = .brk
 | .cont, f => f = .cont
 | .ret v, f => ∃ V, f = .ret V ∧ VR Ω.ad φ μ v V
noncomputable def AnsF (Ω : Wld) (sc : Scope) (env : Env) (φ : Phi) (μ : Mu) (h : Heap) (st' : St) (loc' : Loc) (fl : Fl) (QF : Flow → Shared → Prop) : Prop :=
 ∀ f s' φ' μ', ExtF sc env φ μ h φ' μ' s'.heap → Inv Ω φ' μ' st' s' → FrOk Ω φ' μ' s'.heap env loc' → 1 ≤ s'.toks → FlR Ω φ' μ' fl f → QF f s'
theorem AnsF.fin {h : Heap} {sc : Scope} {env : Env} {l loc' : Loc} {fl fl' : Fl} {st₂ : St} {QF : Flow → Shared → Prop} (e : some (fl', l, st₂) = some (fl, loc', st')) (k : AnsF Ω sc env φ μ h st' loc' fl QF) : AnsF Ω sc env φ μ h st₂ l fl' QF := by cases e; exact k
theorem AnsF.after {φ₁ : Phi} {μ₁ : Mu} {h h₁ : Heap} {fl : Fl} {QF : Flow → Shared → Prop} (k : AnsF Ω sc env φ μ h st' loc' fl QF) (x : ExtF sc env φ μ h φ₁ μ₁ h₁) : AnsF Ω sc env φ₁ μ₁ h₁ st' loc' fl QF := fun f s' φ' μ' y J F t r => k f s' φ' μ' (x.trans y) J F t r
theorem kindOf_eq (hs : env.scope = sc) (x : Str) : env.kindOf x = lookKind sc x := by
 subst hs
 unfold lookKind
 rw [kindAt_eq]; rfl
theorem KindOk.of (hs : env.scope = sc) (hf : ∀ x, lookKind sc x ≠ some .free) : KindOk sc env := fun x k h => by
 rw [if_neg (fun (e : k = .free) => hf x (e ▸ h))]; exact (kindOf_eq hs x).trans h
theorem KindOk.is {x : Str} {k : NameKind} (hs : KindOk sc env) (h : lookKind sc x = some k) (hk : k ≠ .free) : env.kindOf x = some k := by
 have := hs x k h
 rwa [if_neg hk] at this
theorem okName_of {x : Str} (h : okName x = true) : (x == ("__debug__" : Str)) = false ∧ (x == ("__classdict__" : Str)) = false := by
 unfold okName at h
 rw [Bool.and_eq_true, Bool.not_eq_true', Bool.not_eq_true', decide_eq_false_iff_not, decide_eq_false_iff_not] at h
 exact ⟨beq_eq_false_iff_ne.mpr h.1, beq_eq_false_iff_ne.mpr h.2⟩
theorem load_sound {x : Str} (G : GlobOk Ω) (e : readName Ω.T sc loc x = some v) (hs : KindOk sc env) (I : Inv Ω φ μ st s) (F : FrOk Ω φ μ s.heap env loc) (k : Ans Ω φ μ s.heap st v Q) :
  wpAny (model Ω.P Ω.w) A (loadName env x) Q E s := by
 refine ifK e fun ho e => ?_
 generalize hl : lookKind sc x = kk at e
 cases kk with
 | none => exact noK e
 | some kk =>
  cases kk with
  | «local» =>
   have hk := hs.is hl (by decide)
   obtain ⟨m, hn, hm⟩ := F.lo
   obtain ⟨V, hV, rV⟩ := hm x v hk e
   exact wpAny_loadName_local F.kind hk hn hV (k.here I rV)
  | cell =>
   have hk := hs.is hl (by decide)
   obtain ⟨c, V, hc, hi, rV⟩ := F.cel x v (.inl hk) e
   exact wpAny_loadName_cell F.kind hk hc hi (k.here I rV)
  | free =>
   have hk : env.kindOf x = some .cell := hs x _ hl
   obtain ⟨c, V, hc, hi, rV⟩ := F.cel x v (.inl hk) e
   exact wpAny_loadName_cell F.kind hk hc hi (k.here I rV)
  | globalImplicit =>
   have hk := hs.is hl (by decide)
   have go : wpAny (model Ω.P Ω.w) A (loadGlobal env x) Q E s := by
    have hg : s.heap.Ns env.globals Ω.mg := by rw [F.gl]; exact Ω.R.g.keeps I.K
    have hb : s.heap.Ns env.builtins Ω.mb := by rw [F.bu]; exact Ω.R.b.keeps I.K
    rcases G x v e with ⟨i, rfl, h3, _⟩ | ⟨b, rfl, h3, h4, h5⟩
    ·exact loadGlobal_global hg (mg_of Ω.X Ω.R.g h3) (k.here I rfl)
    ·exact loadGlobal_builtin hg (mg_none_of Ω.X Ω.R.g h3) hb ((Ω.R.builtins x h5).trans h4) (k.here I rfl)
   unfold loadName
   simp only [Env.blockKind, F.kind, hk, ScopeKind.isAnnotationScope, Bool.false_and, Bool.false_eq_true, if_false]
   exact go
  | _ => exact noK e
theorem name_sound {x : Str} {pos : Pos} (G : GlobOk Ω) (e : readName Ω.T sc loc x = some v) (hs : KindOk sc env) (I : Inv Ω φ μ st s) (F : FrOk Ω φ μ s.heap env loc) (k : Ans Ω φ μ s.heap st v Q) :
  wpAny (model Ω.P Ω.w) A (eval (.Name x pos) env) Q E s := by
 exact wpAny_Name (load_sound G e hs I F k) (okName_of (ifK e fun h _ => h)).1
theorem getL_setL (x : Str) (v : MV) : ∀ (l : Loc) (y : Str), getL y (setL x v l) = if y = x then some v else getL y l
 | [], y => by
  show (if x = y then some v else none) = if y = x then some v else none
  by_cases h : y = x
  ·rw [if_pos h, if_pos h.symm]
  ·rw [if_neg h, if_neg fun q => h q.symm]
 | (z, u) :: r, y => by
  show getL y (if z = x then (z, some v) :: r else (z, u) :: setL x v r) = if y = x then some v else if z = y then u else getL y r
  by_cases hz : z = x
  ·subst hz
   rw [if_pos rfl]
   show (if z = y then some v else getL y r) = _
   by_cases h : y = z
   ·rw [if_pos h, if_pos h.symm]
   ·rw [if_neg h, if_neg (fun q => h q.symm), if_neg (fun q => h q.symm)]
  ·rw [if_neg hz]
   show (if z = y then u else getL y (setL x v r)) = _
   by_cases h : z = y
   ·rw [if_pos h, if_neg (fun q => hz (h.trans q)), if_pos h]
   ·rw [if_neg h, if_neg h]; exact getL_setL x v r y
theorem Inv.frame (I : Inv Ω φ μ st s) {h' : Heap} {b : Addr} (tk : Nat) (hs : Heap.SameBut b s.heap h') (hb : φ b = none ∧ ¬ Own μ b) : Inv Ω φ μ st { s with heap := h', toks := tk } :=
 I.keep (fun c o e q => by
  rw [hs.2 c fun z => ?_]; exact e
  subst z
  rcases q with ⟨o, q⟩ | q
  ·rw [hb.1] at q; cases q
  ·exact hb.2 q) (Nat.le_of_eq hs.1.symm)
theorem store_sound {x : Str} {V : Value} (hk : lookKind sc x = some .local ∨ lookKind sc x = some .cell) (hs : KindOk sc env) (I : Inv Ω φ μ st s) (F : FrOk Ω φ μ s.heap env loc) (ht : 1 ≤ s.toks) (r : VR Ω.ad φ μ v V)
  (k : AnsL Ω sc env φ μ s.heap st (setL x v loc) QU) : wpAny (model Ω.P Ω.w) A (storeName env x V) QU E s := by
 rcases hk with hk | hk
 ·have hx := hs.is hk (by decide)
  obtain ⟨m, hn, hm⟩ := F.lo
  refine wpAny_storeName_local (hp := by rw [F.kind]; rfl) hx hn fun h' hn' hsb => ?_
  refine k _ φ μ ⟨fun _ _ e => e, fun _ _ e => .inl e, fun _ _ e => e, fun _ e => .inl e, fun b o e _ n1 _ => (hsb.2 b n1).trans e, Nat.le_of_eq hsb.1.symm⟩ (I.frame _ hsb F.offL) ?_ (Nat.le_succ_of_le ht)
  refine ⟨F.kind, F.gl, F.bu, ⟨_, hn', fun y u hy e => ?_⟩, fun y u hy e => ?_, fun y hy => ?_, F.offL, fun y c e => ?_, F.dis⟩
  ·rw [getL_setL] at e
   by_cases q : y = x
   ·rw [if_pos q] at e ⊢
    cases e
    exact ⟨V, rfl, r⟩
   ·rw [if_neg q] at e ⊢
    exact hm y u hy e
  ·rw [getL_setL] at e
   by_cases q : y = x
   ·subst q; rw [hx] at hy; rcases hy with hy | hy <;> cases hy
   ·rw [if_neg q] at e
    obtain ⟨c, W, h1, ⟨oc, h2, h3⟩, h4⟩ := F.cel y u hy e
    exact ⟨c, W, h1, ⟨oc, (hsb.2 c (F.offC y c h1).2.2.1).trans h2, h3⟩, h4⟩
  ·obtain ⟨c, ov, h1, ⟨oc, h2, h3⟩⟩ := F.has y hy
   exact ⟨c, ov, h1, ⟨oc, (hsb.2 c (F.offC y c h1).2.2.1).trans h2, h3⟩⟩
  ·obtain ⟨a1, a2, a3, a4⟩ := F.offC y c e
   exact ⟨a1, a2, a3, hsb.1 ▸ a4⟩
 ·have hx := hs.is hk (by decide)
  obtain ⟨c, ov, hc, hi⟩ := F.has x hx
  obtain ⟨c1, c2, c3, c4⟩ := F.offC x c hc
  refine wpAny_storeName_cell F.kind hx hc hi fun h' hi' hsb => ?_
  refine k _ φ μ ⟨fun _ _ e => e, fun _ _ e => .inl e, fun _ _ e => e, fun _ e => .inl e, fun b o e _ _ n2 => (hsb.2 b (n2 x c hk hc)).trans e, Nat.le_of_eq hsb.1.symm⟩ (I.frame s.toks hsb ⟨c1, c2⟩) ?_ ht
  obtain ⟨m, ⟨o, es, ep, ho, rest⟩, hm⟩ := F.lo
  refine ⟨F.kind, F.gl, F.bu, ⟨m, ⟨o, es, ep, (hsb.2 _ c3.symm).trans ho, rest⟩, fun y u hy e => ?_⟩, fun y u hy e => ?_, fun y hy => ?_, F.offL, fun y c' e => ?_, F.dis⟩
  ·rw [getL_setL] at e
   by_cases q : y = x
   ·subst q; rw [hx] at hy; cases hy
   ·rw [if_neg q] at e
    exact hm y u hy e
  ·rw [getL_setL] at e
   by_cases q : y = x
   ·subst q
    rw [if_pos rfl] at e
    cases e
    exact ⟨c, V, hc, hi', r⟩
   ·rw [if_neg q] at e
    obtain ⟨c', W, h1, ⟨oc, h2, h3⟩, h4⟩ := F.cel y u hy e
    have hne : c' ≠ c := fun z => q (F.dis y x c (z ▸ h1) hc)
    exact ⟨c', W, h1, ⟨oc, (hsb.2 c' hne).trans h2, h3⟩, h4⟩
  ·by_cases q : y = x
   ·subst q; exact ⟨c, some V, hc, hi'⟩
   ·obtain ⟨c', ov', h1, ⟨oc, h2, h3⟩⟩ := F.has y hy
    have hne : c' ≠ c := fun z => q (F.dis y x c (z ▸ h1) hc)
    exact ⟨c', ov', h1, ⟨oc, (hsb.2 c' hne).trans h2, h3⟩⟩
  ·obtain ⟨a1, a2, a3, a4⟩ := F.offC y c' e
   exact ⟨a1, a2, a3, hsb.1 ▸ a4⟩
end
structure Ok (Ω : Wld) (rec : Rec) (n : Nat) : Prop where
 cls : ∀ c, isCls c = true → ClsOk Ω c
 glob : GlobOk Ω
 keep : ∀ {i j : Nat} {args : List MV} {st : St} {r : MV × St}, rec (.fn i j) args st = some r → keepIn Ω.K (.ref (Ω.ad i j)) = true
 call : ∀ {i j args st v st'}, rec (.fn i j) args st = some (v, st') → ∀ {A : Around} {Vs : List Value} {s : Shared} {φ : Phi} {μ : Mu} {Q : Value → Shared → Prop} {E : Value → Shared → Prop}, Room n A → Inv Ω φ μ st s → 1 ≤ s.toks → VRs Ω.ad φ μ args Vs →
  AnsE Ω φ μ s.heap st' v Q → wpAny (model Ω.P Ω.w) A (PySem.call (.ref (Ω.ad i j)) Vs) Q E s
noncomputable def PE (Ω : Wld) (rec : Rec) (n : Nat) (e : Expr) : Prop := ∀ {sc : Scope} {loc : Loc} {st : St} {v : MV} {st' : St}, evE Ω.T Ω.pol rec e sc loc st = some (v, st') → ∀ {A : Around} {env : Env} {s : Shared} {φ : Phi} {μ : Mu} {Q : Value → Shared → Prop} {E : Value → Shared → Prop},
 Room n A → KindOk sc env → Inv Ω φ μ st s → FrOk Ω φ μ s.heap env loc → 1 ≤ s.toks → AnsE Ω φ μ s.heap st' v Q → wpAny (model Ω.P Ω.w) A (eval e env) Q E s
noncomputable def PT (Ω : Wld) (rec : Rec) (n : Nat) (e : Expr) : Prop := ∀ {sc : Scope} {loc : Loc} {st : St} {b : Bool} {st' : St}, evT Ω.T Ω.pol rec e sc loc st = some (b, st') → ∀ {A : Around} {env : Env} {s : Shared} {φ : Phi} {μ : Mu} {QB : Bool → Shared → Prop} {E : Value → Shared → Prop},
 Room n A → KindOk sc env → Inv Ω φ μ st s → FrOk Ω φ μ s.heap env loc → 1 ≤ s.toks → AnsB Ω φ μ s.heap st' b QB → wpAny (model Ω.P Ω.w) A (isTrue e env (eval e env)) QB E s
noncomputable def PA (Ω : Wld) (rec : Rec) (n : Nat) (e : Expr) : Prop := ∀ {sc : Scope} {loc : Loc} {st : St} {v : MV} {loc' : Loc} {st' : St}, evA Ω.T Ω.pol rec e v sc loc st = some (loc', st') → ∀ {A : Around} {env : Env} {s : Shared} {φ : Phi} {μ : Mu} {V : Value} {QU : Unit → Shared → Prop} {E : Value → Shared → Prop},
 Room n A → KindOk sc env → Inv Ω φ μ st s → FrOk Ω φ μ s.heap env loc → 1 ≤ s.toks → VR Ω.ad φ μ v V → AnsL Ω sc env φ μ s.heap st' loc' QU → wpAny (model Ω.P Ω.w) A (assign e env V) QU E s
structure Good (Ω : Wld) (rec : Rec) (n : Nat) (e : Expr) : Prop where
 E : PE Ω rec n e
 T : PT Ω rec n e
 A : PA Ω rec n e
end Mine
namespace Mine
open PySem PySem.W PySem.Calls PyProof.Rows PySem.SeqAt
section
variable {Ω : Wld} {rec : Rec} {n : Nat}
theorem e_const {c : Const} {k : Nat} {p : Pos} : PE Ω rec n (.Constant c k p) := by
 intro sc loc st v st' h A env s φ μ Q E R hs I F ht kk
 revert h
 refine obR fun w h1 h => ?_
 first | replace kk := kk.fin h | replace k := k.fin h | cases h
 refine opE ht kk fun k => ?_
 cases c <;> first
  | exact noK h1
  | (obtain rfl := Option.some.inj h1; first | exact fun _ _ _ => k.here I rfl | exact fun _ _ _ => k.int I | exact fun _ _ _ => k.str I)
theorem e_name (O : Ok Ω rec n) {x : Str} {p : Pos} : PE Ω rec n (.Name x p) := by
 intro sc loc st v st' h A env s φ μ Q E R hs I F ht kk
 revert h
 refine obR fun w h1 h => ?_
 first | replace kk := kk.fin h | replace k := k.fin h | cases h
 exact opE ht kk fun k => name_sound O.glob h1 hs I F k
theorem e_binop {l r : Expr} {op : Operator} {p : Pos} (Hl : PE Ω rec n l) (Hr : PE Ω rec n r) : PE Ω rec n (.BinOp l op r p) := by
 intro sc loc st v st' h A env s φ μ Q E R hs I F ht kk
 revert h
 refine pbR fun a st₁ h1 h => ?_
 revert h
 refine pbR fun b st₂ h2 h => ?_
 revert h
 refine obR fun w h3 h => ?_
 first | replace kk := kk.fin h | replace k := k.fin h | cases h
 first | refine wpE (arm_eval_BinOp ..) ?_ | rw [arm_eval_BinOp]
 refine wpAny_bind (Hl h1 R hs I F ht fun V₁ s₁ φ₁ μ₁ x₁ I₁ t₁ r₁ => wpAny_bind (wpAny_holding (Hr h2 R hs I₁ (F.ext x₁) t₁ fun V₂ s₂ φ₂ μ₂ x₂ I₂ t₂ r₂ => wpAny_bind (wpAny_standAt (wpAny_operating ?_)))))
 exact opE t₂ (kk.after (x₁.trans x₂)) fun k => binop_sound h3 I₂ (r₁.mono x₂.fro x₂.mu) r₂ k
theorem boolOf_eq {v : MV} {b : Bool} (h : boolOf v = some b) : v = .bool b := by
 cases v <;> first | exact noK h | exact congrArg _ (Option.some.inj h)
theorem e_unary {x : Expr} {op : UnaryOp} {p : Pos} (Hx : PE Ω rec n x) : PE Ω rec n (.UnaryOp op x p) := by
 intro sc loc st v st' h A env s φ μ Q E R hs I F ht kk
 revert h
 refine pbR fun a st₁ h1 h => ?_
 first | refine wpE (arm_eval_UnaryOp ..) ?_ | rw [arm_eval_UnaryOp]
 refine wpAny_bind (Hx h1 R hs I F ht fun V₁ s₁ φ₁ μ₁ x₁ I₁ t₁ r₁ => wpAny_bind (wpAny_standAt (wpAny_holding ?_)))
 refine obK h fun w h2 h => ?_
 replace kk := kk.fin h
 cases op with
 | Not =>
  refine obK h2 fun b h3 h4 => ?_
  obtain rfl := boolOf_eq h3
  obtain rfl := Option.some.inj h4
  obtain rfl : V₁ = .bool _ := r₁
  exact not_value (wpAny_truthy_bool ((kk.after x₁).here I₁ t₁ rfl))
 | USub =>
  refine asIntK h2 fun i h3 h4 => ?_
  obtain rfl := h3
  obtain rfl := Option.some.inj h4
  obtain ⟨t, rfl⟩ := r₁
  exact opE t₁ (kk.after x₁) fun k => PySem.P.neg_int (k.int I₁)
 | _ => exact noK h2
theorem e_ifexp {t b o : Expr} {p : Pos} (Ht : PT Ω rec n t) (Hb : PE Ω rec n b) (Ho : PE Ω rec n o) : PE Ω rec n (.IfExp t b o p) := by
 intro sc loc st v st' h A env s φ μ Q E R hs I F ht kk
 revert h
 refine pbR fun c st₁ h1 h => ?_
 first | refine wpE (arm_eval_IfExp ..) ?_ | rw [arm_eval_IfExp]
 refine wpAny_bind (Ht h1 R hs I F ht fun s₁ φ₁ μ₁ x₁ I₁ t₁ => ?_)
 cases c
 ·exact Ho h R hs I₁ (F.ext x₁) t₁ (kk.after x₁)
 ·exact Hb h R hs I₁ (F.ext x₁) t₁ (kk.after x₁)
theorem notStar {e : Expr} {sc : Scope} {loc : Loc} {st : St} {r : MV × St} (h : evE Ω.T Ω.pol rec e sc loc st = some r) : ∀ x p, e ≠ .Starred x p := by
 rintro x p rfl
 first | replace kk := kk.fin h | replace k := k.fin h | cases h
theorem starEach_cons {e : Expr} {es : List Expr} {env : Env} (h : ∀ x p, e ≠ .Starred x p) : starEach (e :: es) env = (false, eval e env) :: starEach es env := by
 cases e <;> first | rfl | exact absurd rfl (h _ _)
noncomputable def PL (Ω : Wld) (rec : Rec) (n : Nat) (es : List Expr) : Prop := ∀ {sc : Scope} {loc : Loc} {st : St} {vs : List MV} {st' : St}, evL Ω.T Ω.pol rec es sc loc st = some (vs, st') → ∀ {A : Around} {env : Env} {s : Shared} {φ : Phi} {μ : Mu} {QV : List Value → Shared → Prop} {E : Value → Shared → Prop} {pos : Pos},
  Room n A → KindOk sc env → Inv Ω φ μ st s → FrOk Ω φ μ s.heap env loc → 1 ≤ s.toks → AnsV Ω φ μ s.heap st' vs QV → wpAny (model Ω.P Ω.w) A (spliced (backTo pos (starEach es env))) QV E s
theorem evL_sound {es : List Expr} (H : ∀ e ∈ es, PE Ω rec n e) : PL Ω rec n es := by
 induction es with
 | nil =>
  intro sc loc st vs st' h A env s φ μ QV E pos R hs I F ht k
  replace k := k.fin h
  exact spliced_nil (k _ _ φ μ .refl I ht rfl)
 | cons e es ih =>
  intro sc loc st vs st' h A env s φ μ QV E pos R hs I F ht k
  revert h
  refine pbR fun v st₁ h1 h => ?_
  revert h
  refine pbR fun ws st₂ h2 h => ?_
  replace k := k.fin h
  rw [starEach_cons (notStar h1)]
  refine spliced_cons (H e (.head _) h1 R hs I F ht fun V₁ s₁ φ₁ μ₁ x₁ I₁ t₁ r₁ => ?_)
  exact ih (fun e he => H e (.tail _ he)) h2 R hs I₁ (F.ext x₁) t₁ fun Vs s₂ φ₂ μ₂ x₂ I₂ t₂ r₂ => k _ _ φ₂ μ₂ (x₁.trans x₂) I₂ t₂ ⟨V₁, Vs, rfl, r₁.mono x₂.fro x₂.mu, r₂⟩
theorem lim_len : ∀ {es : List Expr} {sc : Scope} {loc : Loc} {st : St} {vs : List MV} {st' : St}, evL Ω.T Ω.pol rec es sc loc st = some (vs, st') → vs.length = es.length
 | [], sc, loc, st, vs, st', h => by cases h; rfl
 | e :: es, sc, loc, st, vs, st', h => by
  revert h
  refine pbR fun v st₁ h1 h => ?_
  revert h
  refine pbR fun ws st₂ h2 h => ?_
  first | replace kk := kk.fin h | replace k := k.fin h | cases h
  rw [List.length_cons, List.length_cons, lim_len h2]
theorem e_list {es : List Expr} {p : Pos} (H : ∀ e ∈ es, PE Ω rec n e) : PE Ω rec n (.List es p) := by
 intro sc loc st v st' h A env s φ μ Q E R hs I F ht kk
 revert h
 refine ifR fun hl h => ?_
 revert h
 refine pbR fun vs st₁ h1 h => ?_
 refine wpAny_List (evL_sound H h1 R hs I F ht fun Vs s₁ φ₁ μ₁ x₁ I₁ t₁ r₁ => ⟨?_, ?_⟩)
 ·have := r₁.length
  have h2 := lim_len h1
  rw [sizeLine_eq]; lia
 ·exact layList_sound (tk := s₁.toks) (m := 0) h I₁ (by simpa using r₁) (kk.after x₁).op t₁
theorem e_tuple {es : List Expr} {j : Nat} {p : Pos} (H : ∀ e ∈ es, PE Ω rec n e) : PE Ω rec n (.Tuple es j p) := by
 intro sc loc st v st' h A env s φ μ Q E R hs I F ht kk
 revert h
 refine ifR fun hl h => ?_
 revert h
 refine pbR fun vs st₁ h1 h => ?_
 first | replace kk := kk.fin h | replace k := k.fin h | cases h
 refine wpAny_Tuple (evL_sound H h1 R hs I F ht fun Vs s₁ φ₁ μ₁ x₁ I₁ t₁ r₁ => ⟨?_, ?_⟩)
 ·have := r₁.length
  have h2 := lim_len h1
  rw [sizeLine_eq]; lia
 ·exact (kk.after x₁).op.tuple (tk := s₁.toks) (m := 0) I₁ (by simpa using r₁) t₁
theorem attributeBase_ok {o : Expr} (h : baseOk o = true) (x : Str) (env : Env) (whole : Sem Value) : attributeBase o x env whole = whole := by
 cases o with
 | Call f args kws p =>
  cases f with
  | Name y q =>
   cases args with
   | nil =>
    cases kws with
    | nil => exact ffK h
    | cons _ _ => rfl
   | cons _ _ => rfl
  | _ => rfl
 | _ => rfl
theorem e_attr (O : Ok Ω rec n) {o : Expr} {x : Str} {p : Pos} (Ho : PE Ω rec n o) : PE Ω rec n (.Attribute o x p) := by
 intro sc loc st v st' h A env s φ μ Q E R hs I F ht kk
 revert h
 refine ifR fun hb h => ?_
 revert h
 refine pbR fun a st₁ h1 h => ?_
 revert h
 refine obR fun w h2 h => ?_
 first | replace kk := kk.fin h | replace k := k.fin h | cases h
 refine Attribute_any_ (Ho h1 R hs I F ht fun V₁ s₁ φ₁ μ₁ x₁ I₁ t₁ r₁ => ?_) (by rw [arm_eval_Attribute, attributeBase_ok hb])
 exact opE t₁ (kk.after x₁) fun k => attr_sound O.cls h2 I₁ r₁ k
theorem e_sub {o i : Expr} {p : Pos} (Ho : PE Ω rec n o) (Hi : PE Ω rec n i) (hn : ∀ lo hi q, i = .Slice lo hi none q → False) : PE Ω rec n (.Subscript o i p) := by
  intro sc loc st v st' h A env s φ μ Q E R hs I F ht kk
  have h : pb (evE Ω.T Ω.pol rec o sc loc st) (fun ov st => pb (evE Ω.T Ω.pol rec i sc loc st) fun iv st => ob (subOf st ov iv) fun v => some (v, st)) = some (v, st') := by
    rw [← h]; symm
    cases i <;> first
      | rfl
      | (rename_i lo hi step q
         cases step with
         | none => exact (hn _ _ _ rfl).elim
         | some w => rfl)
  revert h
  refine pbR fun a st₁ h1 h => ?_
  revert h
  refine pbR fun b st₂ h2 h => ?_
  revert h
  refine obR fun w h3 h => ?_
  first | replace kk := kk.fin h | replace k := k.fin h | cases h
  refine Subscript_ (Ho h1 R hs I F ht fun V₁ s₁ φ₁ μ₁ x₁ I₁ t₁ r₁ => Hi h2 R hs I₁ (F.ext x₁) t₁ fun V₂ s₂ φ₂ μ₂ x₂ I₂ t₂ r₂ => ?_)
  exact opE t₂ (kk.after (x₁.trans x₂)) fun k => sub_sound h3 I₂ (r₁.mono x₂.fro x₂.mu) r₂ (subscripted_of hn) k
theorem intOf_eq {v : MV} {i : Int} (h : intOf v = some i) : v = .int i := by cases v <;> first | exact noK h | exact congrArg _ (Option.some.inj h)
theorem part_sound {e : Option Expr} (H : ∀ x, e = some x → PE Ω rec n x) {sc : Scope} {loc : Loc} {st : St} {i : Option Int} {st' : St} (h : evOpt Ω.T Ω.pol rec e sc loc st = some (i, st')) {A : Around} {env : Env} {s : Shared} {φ : Phi} {μ : Mu} {Q : Value → Shared → Prop} {E : Value → Shared → Prop}
  (R : Room n A) (hs : KindOk sc env) (I : Inv Ω φ μ st s) (F : FrOk Ω φ μ s.heap env loc) (ht : 1 ≤ s.toks)
  (k : ∀ V s' φ' μ', Ext φ μ s.heap φ' μ' s'.heap → Inv Ω φ' μ' st' s' → 1 ≤ s'.toks → PartR i V → Q V s') : wpAny (model Ω.P Ω.w) A (evalPart e env) Q E s := by
 cases e with
 | none =>
  first | replace kk := kk.fin h | replace k := k.fin h | cases h
  exact wpAny_pure (k _ _ φ μ .refl I ht rfl)
 | some x =>
  revert h
  refine pbR fun v st₁ h1 h => ?_
  revert h
  refine obR fun j h2 h => ?_
  first | replace kk := kk.fin h | replace k := k.fin h | cases h
  obtain rfl := intOf_eq h2
  exact H x rfl h1 R hs I F ht fun V₁ s₁ φ₁ μ₁ x₁ I₁ t₁ r₁ => k _ _ φ₁ μ₁ x₁ I₁ t₁ r₁
theorem e_slice {o : Expr} {lo hi : Option Expr} {q p : Pos} (Ho : PE Ω rec n o) (Hl : ∀ x, lo = some x → PE Ω rec n x) (Hh : ∀ x, hi = some x → PE Ω rec n x) : PE Ω rec n (.Subscript o (.Slice lo hi none q) p) := by
 intro sc loc st v st' h A env s φ μ Q E R hs I F ht kk
 revert h
 refine pbR fun a st₁ h1 h => ?_
 revert h
 refine pbR fun l st₂ h2 h => ?_
 revert h
 refine pbR fun u st₃ h3 h => ?_
 revert h
 refine obR fun w h4 h => ?_
 first | replace kk := kk.fin h | replace k := k.fin h | cases h
 refine Subscript_ (Ho h1 R hs I F ht fun V₁ s₁ φ₁ μ₁ x₁ I₁ t₁ r₁ => wpAny_Slice (part_sound Hl h2 R hs I₁ (F.ext x₁) t₁ fun V₂ s₂ φ₂ μ₂ x₂ I₂ t₂ r₂ => part_sound Hh h3 R hs I₂ (F.ext (x₁.trans x₂)) t₂ fun V₃ s₃ φ₃ μ₃ x₃ I₃ t₃ r₃ => ?_))
 refine wpAny_pure ?_
 exact wpAny_toks t₃ (cut_sound h4 I₃ (r₁.mono (x₂.trans x₃).fro (x₂.trans x₃).mu) r₂ r₃ (kk.after ((x₁.trans x₂).trans x₃)).op)
noncomputable def PBo (Ω : Wld) (rec : Rec) (n : Nat) (op : BoolOp) (es : List Expr) : Prop := ∀ {sc : Scope} {loc : Loc} {st : St} {v : MV} {st' : St}, evBool Ω.T Ω.pol rec op es sc loc st = some (v, st') → ∀ {A : Around} {env : Env} {s : Shared} {φ : Phi} {μ : Mu} {Q : Value → Shared → Prop} {E : Value → Shared → Prop} {pos : Pos},
  Room n A → KindOk sc env → Inv Ω φ μ st s → FrOk Ω φ μ s.heap env loc → 1 ≤ s.toks → AnsE Ω φ μ s.heap st' v Q → wpAny (model Ω.P Ω.w) A (boolOp pos op (evalEach es env)) Q E s
theorem evBool_sound {op : BoolOp} {es : List Expr} (H : ∀ e ∈ es, PE Ω rec n e) : PBo Ω rec n op es := by
 induction es with
 | nil => exact fun h => noK h
 | cons e es ih =>
  cases es with
  | nil => exact fun h _ _ _ _ _ _ _ _ R hs I F ht k => H e (.head _) h R hs I F ht k
  | cons e' es => ?_
  intro sc loc st v st' h A env s φ μ Q E pos R hs I F ht k
  revert h
  refine pbR fun w st₁ h1 h => ?_
  revert h
  refine obR fun b h2 h => ?_
  have := boolOf_eq h2
  subst this
  show wpAny _ _ (eval e env >>= fun v => standAt pos >>= fun _ => holding [v] (truthy v) >>= fun t => match op, t with
   | .And, false | .Or, true => pure v
   | _, _ => boolOp pos op (evalEach (e' :: es) env)) Q E s
  refine wpAny_bind (H e (.head _) h1 R hs I F ht fun V₁ s₁ φ₁ μ₁ x₁ I₁ t₁ r₁ => wpAny_bind (wpAny_standAt (wpAny_bind (wpAny_holding ?_))))
  obtain rfl : V₁ = .bool b := r₁
  refine wpAny_truthy_bool ?_
  have rest := fun h => ih (fun e he => H e (.tail _ he)) (st := st₁) (v := v) (st' := st') (pos := pos) (E := E) h R hs I₁ (F.ext x₁) t₁ (k.after x₁)
  cases op <;> cases b <;> first
   | exact rest h
   | exact wpAny_pure (((k.fin h).after x₁).here I₁ t₁ rfl)
theorem notSet {e : Expr} {sc : Scope} {loc : Loc} {st : St} {r : MV × St} (h : evE Ω.T Ω.pol rec e sc loc st = some r) (op : CmpOp) : behindInMarks op e = false := by
 cases e <;> first | rfl | exact noK h
theorem marked_eq {e : Expr} {op : CmpOp} {t : Sem Value} (h : behindInMarks op e = false) : markedBehindIn op e t = t := by
 unfold markedBehindIn
 rw [h]
theorem Room.u6 {A : Around} (R : Room n A) : A.units + 10 < cLine := R.cl 10 (by lia)
noncomputable def PCh (Ω : Wld) (rec : Rec) (n : Nat) (ops : List CmpOp) (rs : List Expr) : Prop := ∀ {a : MV} {sc : Scope} {loc : Loc} {st : St} {v : MV} {st' : St}, evChain Ω.T Ω.pol rec a ops rs sc loc st = some (v, st') → ∀ {A : Around} {env : Env} {s : Shared} {φ : Phi} {μ : Mu} {V : Value} {Q : Value → Shared → Prop} {E : Value → Shared → Prop} {pos : Pos},
  Room n A → KindOk sc env → Inv Ω φ μ st s → FrOk Ω φ μ s.heap env loc → 1 ≤ s.toks → VR Ω.ad φ μ a V → AnsE Ω φ μ s.heap st' v Q → wpAny (model Ω.P Ω.w) A (compareChain pos V ops (markedEach ops rs (evalEach rs env))) Q E s
theorem evChain_sound {ops : List CmpOp} {rs : List Expr} (H : ∀ e ∈ rs, PE Ω rec n e) : PCh Ω rec n ops rs := by
 induction rs generalizing ops with
 | nil => cases ops with
  | nil => exact fun h => noK h
  | cons op ops => cases ops <;> exact fun h => noK h
 | cons r rs ih => cases ops with
  | nil => exact fun h => noK h
  | cons op ops => cases ops with
   | nil => cases rs with
    | nil =>
     intro a sc loc st v st' h A env s φ μ V Q E pos R hs I F ht ra k
     revert h
     refine pbR fun b st₁ h1 h => ?_
     revert h
     refine obR fun c h2 h => ?_
     replace k := k.fin h
     show wpAny _ _ (compareChain pos V [op] [markedBehindIn op r (eval r env)]) Q E s
     rw [marked_eq (notSet h1 op)]
     refine wpAny_bind (wpAny_holding (H r (.head _) h1 R hs I F ht fun V₁ s₁ φ₁ μ₁ x₁ I₁ t₁ r₁ => wpAny_bind (wpAny_standAt (wpAny_operating ?_))))
     exact wpAny_toks t₁ (cmp_sound h2 I₁ (ra.mono x₁.fro x₁.mu) r₁ R.u6 fun tk => (k.after x₁).op.tok I₁ rfl)
    | cons _ _ => exact fun h => noK h
   | cons op' ops =>
    intro a sc loc st v st' h A env s φ μ V Q E pos R hs I F ht ra k
    revert h
    refine pbR fun b st₁ h1 h => ?_
    revert h
    refine obR fun c h2 h => ?_
    show wpAny _ _ (holding [V] (eval r env) >>= fun rv => standAt pos >>= fun _ => holding [V, rv] (compareOp op V rv) >>= fun c => release [V, rv] [c] >>= fun _ => holding [c, rv] (truthy c) >>= fun t =>
     if t = true then compareChain pos rv (op' :: ops) (markedEach (op' :: ops) rs (evalEach rs env)) else pure c) Q E s
    refine wpAny_bind (wpAny_holding (H r (.head _) h1 R hs I F ht fun V₁ s₁ φ₁ μ₁ x₁ I₁ t₁ r₁ => wpAny_bind (wpAny_standAt (wpAny_bind (wpAny_holding ?_)))))
    refine wpAny_toks t₁ (cmp_sound h2 I₁ (ra.mono x₁.fro x₁.mu) r₁ R.u6 fun tk tpos => wpAny_bind (wpAny_release (wpAny_bind (wpAny_holding (wpAny_truthy_bool ?_)))))
    cases c
    ·exact wpAny_pure (AnsE.here (s := { s₁ with toks := tk }) ((k.fin h).after x₁) (I₁.tok tk) tpos rfl)
    ·exact ih (fun e he => H e (.tail _ he)) h R hs (I₁.tok tk) (F.ext x₁) tpos r₁ (k.after x₁)
end
end Mine
namespace Mine
open PySem PySem.W PySem.Calls PyProof.Rows PySem.SeqAt
section
variable {Ω : Wld} {rec : Rec} {n : Nat}
theorem noStars : ∀ {es : List Expr} {sc : Scope} {loc : Loc} {st : St} {r : List MV × St}, evL Ω.T Ω.pol rec es sc loc st = some r → ∀ e ∈ es, ∀ x p, e ≠ .Starred x p
 | [], _, _, _, _, _, _, h => by cases h
 | e :: es, sc, loc, st, r, h, e', he => by
  revert h
  refine pbR fun v st₁ h1 h => ?_
  revert h
  refine pbR fun ws st₂ h2 h => ?_
  rcases List.mem_cons.mp he with rfl | he
  ·exact notStar h1
  ·exact noStars h2 e' he
theorem starEach_map : ∀ {es : List Expr} {env : Env}, (∀ e ∈ es, ∀ x p, e ≠ .Starred x p) → starEach es env = es.map fun e => (false, eval e env)
 | [], _, _ => rfl
 | e :: es, env, h => by rw [starEach_cons (h e (.head _)), starEach_map fun e he => h e (.tail _ he)]; rfl
theorem backTo_map {es : List Expr} {env : Env} {pos : Pos} (h : ∀ e ∈ es, ∀ x p, e ≠ .Starred x p) : backTo pos (starEach es env) = es.map fun e => (false, eval e env) := by
 rw [starEach_map h]
 unfold backTo
 rw [List.map_map]
 rfl
theorem map_any {es : List Expr} {env : Env} : (es.map fun e => ((false, eval e env) : Bool × Sem Value)).any (·.1) = false := by
 induction es with
 | nil => rfl
 | cons e es ih => simp [ih]
theorem evalArgs_of {M : Model} {A : Around} {E : Value → Shared → Prop} {s : Shared} {f : Value} {es : List Expr} {env : Env} {QA : Args → Shared → Prop}
  (h : wpAny M A (spliced (es.map fun e => ((false, eval e env) : Bool × Sem Value))) (fun vs s' => QA ⟨vs, []⟩ s') E s) : wpAny M A (evalArgs f true (es.map fun e => ((false, eval e env) : Bool × Sem Value)) []) QA E s := by
 cases es with
 | nil =>
  unfold evalArgs
  refine wpAny_bind ?_
  refine wpAny_bind (m := spliced []) (wpAny_mono h (fun vs s' h' => wpAny_pure ?_) fun _ _ x => x)
  refine wpAny_holding ?_
  exact wpAny_bind (wpAny_pure (wpAny_bind (wpAny_pure (wpAny_pure h'))))
 | cons e es => exact evalArgs_plain h
theorem callWith_val {fv : MV} {V : Value} {φ : Phi} {μ : Mu} {A : Around} {E Q : Value → Shared → Prop} {s : Shared} {pos : Pos} {first : List Value} {es : List Expr} {env : Env} (r : VR Ω.ad φ μ fv V)
  (hk : (∃ i j, fv = .fn i j ∧ keepIn Ω.K V = true) ∨ ∃ b, fv = .bi b) (h : wpAny (model Ω.P Ω.w) A (spliced (es.map fun e => ((false, eval e env) : Bool × Sem Value))) (fun Vs s₁ => Ω.K.In s₁.heap ∧ wpAny (model Ω.P Ω.w) A (call V (first ++ Vs)) Q E s₁) E s) :
  wpAny (model Ω.P Ω.w) A (callWith pos V first (es.map fun e => ((false, eval e env) : Bool × Sem Value)) []) Q E s := by
 rcases hk with ⟨i, j, rfl, hk⟩ | ⟨b, rfl⟩
 ·exact callWith_of (P := Ω.K.In) (by rw [map_any]; rfl) (fun h X => keeps_K hk h X) (evalArgs_of h)
 ·obtain rfl : V = biVal b := r
  have h' : wpAny (model Ω.P Ω.w) A (spliced (es.map fun e => ((false, eval e env) : Bool × Sem Value))) (fun Vs s₁ => wpAny (model Ω.P Ω.w) A (call (biVal b) (first ++ Vs)) Q E s₁) E s := wpAny_mono h (fun _ _ z => z.2) fun _ _ z => z
  have hb : (∃ id, biVal b = .builtin id) ∨ ∃ T, biVal b = .type T := by
   unfold biVal
   repeat' split
   all_goals first | exact .inl ⟨_, rfl⟩ | exact .inr ⟨_, rfl⟩
  rcases hb with ⟨id, hb⟩ | ⟨T, hb⟩
  ·rw [hb] at h' ⊢; exact callWith_builtin map_any (evalArgs_of h')
  ·rw [hb] at h' ⊢; exact PySem.callWith_type map_any (evalArgs_of h')
theorem callV_sound (O : Ok Ω rec n) {fv : MV} {args : List MV} {V : Value} {Vs : List Value} {st st' : St} {v : MV} {A : Around} {s : Shared} {φ : Phi} {μ : Mu} {Q E : Value → Shared → Prop} (e : callV rec st fv args = some (v, st')) (R : Room n A) (I : Inv Ω φ μ st s) (ht : 1 ≤ s.toks)
  (r : VR Ω.ad φ μ fv V) (ra : VRs Ω.ad φ μ args Vs) (k : AnsE Ω φ μ s.heap st' v Q) : wpAny (model Ω.P Ω.w) A (call V Vs) Q E s := by
 cases fv with
 | bi id =>
  refine obK e fun w h1 h => ?_
  replace k := k.fin h
  obtain rfl : V = biVal _ := r
  exact opE ht k fun k => builtin_sound R.hh h1 I ra k
 | fn i j =>
  obtain rfl : V = .ref (Ω.ad _ _) := r
  exact O.call e R I ht ra k
 | _ => exact noK e
theorem callV_keep (O : Ok Ω rec n) {fv : MV} {args : List MV} {V : Value} {st : St} {r : MV × St} {φ : Phi} {μ : Mu} (e : callV rec st fv args = some r) (rv : VR Ω.ad φ μ fv V) :
  (∃ i j, fv = .fn i j ∧ keepIn Ω.K V = true) ∨ ∃ b, fv = .bi b := by
 cases fv with
 | bi id => exact .inr ⟨_, rfl⟩
 | fn i j =>
  obtain rfl : V = .ref (Ω.ad _ _) := rv
  exact .inl ⟨_, _, rfl, O.keep e⟩
 | _ => exact noK e
theorem callName_sound (O : Ok Ω rec n) {f : Str} {q p : Pos} {args : List Expr} (H : ∀ e ∈ args, PE Ω rec n e) {sc : Scope} {loc : Loc} {st st₁ st' : St} {fv v : MV} {vs : List MV} (h1 : readName Ω.T sc loc f = some fv) (h2 : evL Ω.T Ω.pol rec args sc loc st = some (vs, st₁)) (h3 : callV rec st₁ fv vs = some (v, st'))
  {A : Around} {env : Env} {s : Shared} {φ : Phi} {μ : Mu} {Q E : Value → Shared → Prop} (R : Room n A) (hs : KindOk sc env) (I : Inv Ω φ μ st s) (F : FrOk Ω φ μ s.heap env loc) (ht : 1 ≤ s.toks) (kk : AnsE Ω φ μ s.heap st' v Q) :
  wpAny (model Ω.P Ω.w) A (eval (.Call (.Name f q) args [] p) env) Q E s := by
 show wpAny _ _ (eval (.Name f q) env >>= fun V => callWith p V [] (backTo p (starEach args env)) []) Q E s
 refine wpAny_bind (wpAny_toks ht (name_sound O.glob h1 hs I F fun V₁ s₁ φ₁ μ₁ x₁ I₁ r₁ t₁ => ?_))
 rw [backTo_map (noStars h2)]
 refine callWith_val r₁ (callV_keep O h3 r₁) ?_
 rw [← backTo_map (pos := p) (noStars h2)]
 refine evL_sound H h2 R hs I₁ (F.ext x₁) t₁ fun Vs s₂ φ₂ μ₂ x₂ I₂ t₂ r₂ => ⟨I₂.X, ?_⟩
 exact callV_sound O h3 R I₂ t₂ (r₁.mono x₂.fro x₂.mu) r₂ (kk.after (x₁.trans x₂))
theorem callMeth_eval {o : Expr} {x : Str} {ap p : Pos} {args : List Expr} {M : Model} {A : Around} {env : Env} {s : Shared} {Q E : Value → Shared → Prop} (hb : baseOk o = true) (hl : ap.endLine = p.line) (hn : args.length < 20) (hst : ∀ e ∈ args, ∀ x p, e ≠ .Starred x p)
  (h : wpAny M A (eval o env) (fun ov s₁ => ∀ pl : Sem Bool, wpAny M A (getMethod ov x pl) (fun fx s₂ => wpAny M A (callWith p fx.1 fx.2 (args.map fun e => ((false, eval e env) : Bool × Sem Value)) []) Q E s₂) E s₁) E s) :
  wpAny M A (eval (.Call (.Attribute o x ap) args [] p) env) Q E s := by
 rw [arm_eval_Call, attributeBase_ok hb, backTo_map hst]
 refine wpAny_bind (wpAny_mono h (fun ov s₁ h₁ => wpAny_bind (wpAny_standAt ?_)) fun _ _ z => z)
 show wpAny M A (methodCall o x ap p env ov (args.length + 0) (args.map fun e => ((false, eval e env) : Bool × Sem Value)) []) Q E s₁
 have hform : methodCallForm (args.length + 0) (args.map fun e => ((false, eval e env) : Bool × Sem Value)) [] = true := by
  unfold methodCallForm
  have : (args.map fun e => ((false, eval e env) : Bool × Sem Value)).all (!·.1) = true := by simp
  rw [this]
  simp; lia
 unfold methodCall
 rw [hform]
 refine wpAny_bind (wpAny_holding ?_)
 unfold calleeOf
 rw [if_pos rfl]
 refine wpAny_mono (h₁ _) (fun fx s₂ h₂ => ?_) fun _ _ z => z
 have hpos : methodCallPos true o env ap p = pure p := by
  unfold methodCallPos
  rw [if_pos (by simp [hl])]
 rw [hpos]
 exact wpAny_bind (wpAny_pure h₂)
theorem callMeth_sound (O : Ok Ω rec n) {o : Expr} {x : Str} {ap p : Pos} {args : List Expr} (Ho : PE Ω rec n o) (H : ∀ e ∈ args, PE Ω rec n e) (hb : baseOk o = true) (hl : ap.endLine = p.line) (hn : args.length < 20) {sc : Scope} {loc : Loc} {st st₁ st₂ st' : St} {ov v : MV} {k : Me} {vs : List MV}
  (h1 : evE Ω.T Ω.pol rec o sc loc st = some (ov, st₁)) (h2 : methKind Ω.T st₁ ov x = some k) (h3 : evL Ω.T Ω.pol rec args sc loc st₁ = some (vs, st₂)) (h4 : methDo rec k st₂ ov x vs = some (v, st'))
  {A : Around} {env : Env} {s : Shared} {φ : Phi} {μ : Mu} {Q E : Value → Shared → Prop} (R : Room n A) (hs : KindOk sc env) (I : Inv Ω φ μ st s) (F : FrOk Ω φ μ s.heap env loc) (ht : 1 ≤ s.toks) (kk : AnsE Ω φ μ s.heap st' v Q) :
  wpAny (model Ω.P Ω.w) A (eval (.Call (.Attribute o x ap) args [] p) env) Q E s := by
 refine callMeth_eval hb hl hn (noStars h3) (Ho h1 R hs I F ht fun V₁ s₁ φ₁ μ₁ x₁ I₁ t₁ r₁ pl => methKind_sound O.cls h2 I₁ r₁ ?_)
 have args_ : ∀ {Q' : List Value → Shared → Prop}, AnsV Ω φ₁ μ₁ s₁.heap st₂ vs Q' → wpAny (model Ω.P Ω.w) A (spliced (args.map fun e => ((false, eval e env) : Bool × Sem Value))) Q' E s₁ := fun k => by
  rw [← backTo_map (pos := p) (noStars h3)]
  exact evL_sound H h3 R hs I₁ (F.ext x₁) t₁ k
 have fin : ∀ Vs s₂ φ₂ μ₂, Ext φ₁ μ₁ s₁.heap φ₂ μ₂ s₂.heap → Inv Ω φ₂ μ₂ st₂ s₂ → 1 ≤ s₂.toks → VRs Ω.ad φ₂ μ₂ vs Vs → wpAny (model Ω.P Ω.w) A (call (methFn Ω k x) ([V₁] ++ Vs)) Q E s₂ := fun Vs s₂ φ₂ μ₂ x₂ I₂ t₂ r₂ =>
  wpAny_toks t₂ (methDo_sound h2 h4 I₂ (r₁.mono x₂.fro x₂.mu) r₂ (kk.after (x₁.trans x₂)).op fun c j _ e => wpAny_mono (O.call e R I₂ t₂ ⟨V₁, Vs, rfl, r₁.mono x₂.fro x₂.mu, r₂⟩ (kk.after (x₁.trans x₂))) (fun _ _ z _ => z) fun _ _ z => z)
 cases k with
 | inst c j =>
  refine callWith_val (fv := .fn c j) (φ := φ₁) (μ := μ₁) rfl (.inl ⟨c, j, rfl, ?_⟩) (args_ fun Vs s₂ φ₂ μ₂ x₂ I₂ t₂ r₂ => ⟨I₂.X, fin Vs s₂ φ₂ μ₂ x₂ I₂ t₂ r₂⟩)
  exact O.keep (show rec (.fn c j) (ov :: vs) st₂ = _ from h4)
 | list => exact callWith_builtin map_any (evalArgs_of (args_ fun Vs s₂ φ₂ μ₂ x₂ I₂ t₂ r₂ => fin Vs s₂ φ₂ μ₂ x₂ I₂ t₂ r₂))
 | dict => exact callWith_builtin map_any (evalArgs_of (args_ fun Vs s₂ φ₂ μ₂ x₂ I₂ t₂ r₂ => fin Vs s₂ φ₂ μ₂ x₂ I₂ t₂ r₂))
 | lst => exact callWith_builtin map_any (evalArgs_of (args_ fun Vs s₂ φ₂ μ₂ x₂ I₂ t₂ r₂ => fin Vs s₂ φ₂ μ₂ x₂ I₂ t₂ r₂))
 | str => exact callWith_builtin map_any (evalArgs_of (args_ fun Vs s₂ φ₂ μ₂ x₂ I₂ t₂ r₂ => fin Vs s₂ φ₂ μ₂ x₂ I₂ t₂ r₂))
theorem strConst_eq {e : Expr} {y : Str} (h : strConst e = some y) : ∃ k p, e = .Constant (.str y) k p := by
 cases e with
 | Constant c k p =>
  cases c with
  | str z => exact ⟨k, p, by rw [Option.some.inj h]⟩
  | _ => exact noK h
 | _ => exact noK h
theorem twoStrs_eq {args : List Expr} {y z : Str} (h : twoStrs args = some (y, z)) : ∃ k1 p1 k2 p2, args = [.Constant (.str y) k1 p1, .Constant (.str z) k2 p2] := by
 cases args with
 | nil => exact noK h
 | cons a r => cases r with
  | nil => exact noK h
  | cons b r => cases r with
   | nil =>
    obtain ⟨y', h1, h⟩ := ob_inv h
    obtain ⟨z', h2, h⟩ := ob_inv h
    obtain ⟨k1, p1, rfl⟩ := strConst_eq h1
    obtain ⟨k2, p2, rfl⟩ := strConst_eq h2
    have e := Option.some.inj h
    obtain rfl : y' = y := congrArg Prod.fst e
    obtain rfl : z' = z := congrArg Prod.snd e
    exact ⟨k1, p1, k2, p2, rfl⟩
   | cons _ _ => exact noK h
theorem repl_sound {o : Expr} {ap p : Pos} {args : List Expr} {y z : Str} (Ho : PE Ω rec n o) (hb : baseOk o = true) (hl : ap.endLine = p.line) (ha : twoStrs args = some (y, z)) (hyz : (y == z) = false) (hz : z.length ≤ 14) {sc : Scope} {loc : Loc} {st st' : St} {ov v : MV}
  (h1 : evE Ω.T Ω.pol rec o sc loc st = some (ov, st')) (h2 : replOf ov y z = some v)
  {A : Around} {env : Env} {s : Shared} {φ : Phi} {μ : Mu} {Q E : Value → Shared → Prop} (R : Room n A) (hs : KindOk sc env) (I : Inv Ω φ μ st s) (F : FrOk Ω φ μ s.heap env loc) (ht : 1 ≤ s.toks) (kk : AnsE Ω φ μ s.heap st' v Q) :
  wpAny (model Ω.P Ω.w) A (eval (.Call (.Attribute o "replace" ap) args [] p) env) Q E s := by
 obtain ⟨k1, p1, k2, p2, rfl⟩ := twoStrs_eq ha
 refine callMeth_eval hb hl (by simp) (fun e he x p => by simp at he; rcases he with rfl | rfl <;> simp) (Ho h1 R hs I F ht fun V₁ s₁ φ₁ μ₁ x₁ I₁ t₁ r₁ pl => ?_)
 refine asStrK h2 fun a p h2 => ifK h2 fun hlen h2 => ?_
 obtain rfl := Option.some.inj h2
 obtain ⟨t, rfl⟩ := p ▸ r₁
 refine GM.replace (callWith_builtin map_any (evalArgs_of ?_))
 refine spliced_cons ?_
 show wpAny _ _ (mkText y) _ E s₁
 refine wpAny_mkText (spliced_cons ?_)
 show wpAny _ _ (mkText z) _ E _
 refine wpAny_mkText (spliced_nil ?_)
 have hll : lim = 100000 := rfl
 refine wpAny_toks (n := 1) (by show 1 ≤ s₁.toks + 1 + 1; lia) (SC.replace (by show s₁.toks ≠ 0; lia) (by show s₁.toks + 1 ≠ 0; lia) (by show s₁.toks ≠ s₁.toks + 1; lia) hyz ?_ fun t' tk hpos => ?_)
 ·have : (a.length + 1) * z.length ≤ (a.length + 1) * 14 := Nat.mul_le_mul_left _ hz
  lia
 ·exact (kk.after x₁) _ _ φ₁ μ₁ .refl (I₁.tok tk) hpos ⟨t', rfl⟩
end
end Mine
namespace Mine
open PySem PySem.W PySem.Calls PyProof.Rows PySem.SeqAt
section
variable {Ω : Wld} {rec : Rec} {n : Nat}
theorem e_call (O : Ok Ω rec n) {f : Expr} {args : List Expr} {kws : List Keyword} {p : Pos} (Hf : ∀ o x q, f = .Attribute o x q → PE Ω rec n o) (H : ∀ e ∈ args, PE Ω rec n e) : PE Ω rec n (.Call f args kws p) := by
 intro sc loc st v st' h A env s φ μ Q E R hs I F ht kk
 cases kws with
 | cons k ks => cases f <;> exact noK h
 | nil =>
  cases f <;> first | exact noK h | skip
  ·-- attribute
   rename_i o x ap
   revert h
   refine ifR fun hc h' => ?_
   revert h'; intro h
   obtain ⟨hb, hl, hn⟩ := hc
   generalize hz : twoStrs args = q at h
   cases q with
   | some q =>
    obtain ⟨y, z⟩ := q
    refine ifK h fun hc h9 => ?_
    clear h
    obtain ⟨rfl, h2, h3⟩ := hc
    refine pbK h9 fun ov st₁ h4 h => obK h fun w h5 h => ?_
    exact repl_sound (Hf _ _ _ rfl) hb hl hz h2 h3 h4 h5 R hs I F ht (kk.fin h)
   | none =>
    revert h
    refine pbR fun ov st₁ h1 h => ?_
    revert h
    refine obR fun k h2 h => ?_
    revert h
    refine pbR fun vs st₂ h3 h => ?_
    exact callMeth_sound O (Hf _ _ _ rfl) H hb hl hn h1 h2 h3 h R hs I F ht kk
  ·rename_i f q
   revert h
   refine obR fun fv h1 h => ?_
   revert h
   refine pbR fun vs st₁ h2 h => ?_
   exact callName_sound O H h1 h2 h R hs I F ht kk
theorem isTrue_val {e : Expr} {b : Bool} {st' : St} {A : Around} {env : Env} {s : Shared} {φ : Phi} {μ : Mu} {QB : Bool → Shared → Prop} {E : Value → Shared → Prop} (k : AnsB Ω φ μ s.heap st' b QB)
  (h : ∀ {Q' : Value → Shared → Prop}, AnsE Ω φ μ s.heap st' (.bool b) Q' → wpAny (model Ω.P Ω.w) A (eval e env) Q' E s)
  (he : isTrue e env (eval e env) = (do let v ← eval e env; standAt e.pos; holding [v] (truthy v))) : wpAny (model Ω.P Ω.w) A (isTrue e env (eval e env)) QB E s := by
 refine wpAny_isTrue_value (h fun V s' φ' μ' x J t r => ?_) he
 obtain rfl : V = .bool b := r
 exact wpAny_truthy_bool (k _ φ' μ' x J t)
noncomputable def PTs (Ω : Wld) (rec : Rec) (n : Nat) (op : BoolOp) (es : List Expr) : Prop := ∀ {sc : Scope} {loc : Loc} {st : St} {b : Bool} {st' : St}, evTs Ω.T Ω.pol rec op es sc loc st = some (b, st') → ∀ {A : Around} {env : Env} {s : Shared} {φ : Phi} {μ : Mu} {QB : Bool → Shared → Prop} {E : Value → Shared → Prop},
  Room n A → KindOk sc env → Inv Ω φ μ st s → FrOk Ω φ μ s.heap env loc → 1 ≤ s.toks → AnsB Ω φ μ s.heap st' b QB → wpAny (model Ω.P Ω.w) A (allTrue op es env) QB E s
theorem evTs_sound {op : BoolOp} {es : List Expr} (H : ∀ e ∈ es, PT Ω rec n e) : PTs Ω rec n op es := by
 induction es with
 | nil =>
  intro sc loc st b st' h A env s φ μ QB E R hs I F ht k
  replace k := k.fin h
  refine wpE (arm_allTrue_nil ..) ?_
  refine wpAny_pure ?_
  cases op <;> exact k _ φ μ .refl I ht
 | cons e es ih =>
  intro sc loc st b st' h A env s φ μ QB E R hs I F ht k
  revert h
  refine pbR fun c st₁ h1 h => ?_
  refine wpE (arm_allTrue_cons ..) ?_
  refine wpAny_bind (H e (.head _) h1 R hs I F ht fun s₁ φ₁ μ₁ x₁ I₁ t₁ => ?_)
  have rest := fun h => ih (fun e he => H e (.tail _ he)) (st := st₁) (b := b) (st' := st') (E := E) h R hs I₁ (F.ext x₁) t₁ (k.after x₁)
  cases op <;> cases c <;> first
   | exact rest h
   | exact wpAny_pure (((k.fin h).after x₁) _ _ _ .refl I₁ t₁)
theorem t_const {c : Const} {j : Nat} {p : Pos} : PT Ω rec n (.Constant c j p) := by
 intro sc loc st b st' h A env s φ μ QB E R hs I F ht k
 revert h
 refine obR fun w h1 h => ?_
 obtain ⟨c', h2, h⟩ := ob_inv h
 first | replace kk := kk.fin h | replace k := k.fin h | cases h
 cases boolOf_eq h2
 exact isTrue_val k (fun k => e_const (rec := rec) (by show ob _ _ = _; rw [h1]; rfl) R hs I F ht k) rfl
theorem t_name (O : Ok Ω rec n) {x : Str} {p : Pos} : PT Ω rec n (.Name x p) := by
 intro sc loc st b st' h A env s φ μ QB E R hs I F ht k
 revert h
 refine obR fun w h1 h => ?_
 obtain ⟨c', h2, h⟩ := ob_inv h
 first | replace kk := kk.fin h | replace k := k.fin h | cases h
 cases boolOf_eq h2
 exact isTrue_val k (fun k => e_name O (by show ob _ _ = _; rw [h1]; rfl) R hs I F ht k) rfl
theorem t_attr (O : Ok Ω rec n) {o : Expr} {x : Str} {p : Pos} (Ho : PE Ω rec n o) : PT Ω rec n (.Attribute o x p) := by
 intro sc loc st b st' h A env s φ μ QB E R hs I F ht k
 revert h
 refine ifR fun hb h => ?_
 revert h
 refine pbR fun ov st₁ h1 h => ?_
 revert h
 refine obR fun w h2 h => ?_
 obtain ⟨c', h3, h⟩ := ob_inv h
 first | replace kk := kk.fin h | replace k := k.fin h | cases h
 cases boolOf_eq h3
 exact isTrue_val k (fun k => e_attr O Ho (by show ite _ _ _ = _; rw [if_pos hb, h1]; show ob _ _ = _; rw [h2]; rfl) R hs I F ht k) rfl
theorem t_sub {o i : Expr} {p : Pos} (Ho : PE Ω rec n o) (Hi : PE Ω rec n i) : PT Ω rec n (.Subscript o i p) := by
 intro sc loc st b st' h A env s φ μ QB E R hs I F ht k
 have hn : ∀ lo hi q, i = .Slice lo hi none q → False := by
  rintro lo hi q rfl
  first | replace kk := kk.fin h | replace k := k.fin h | cases h
 have h : pb (evE Ω.T Ω.pol rec o sc loc st) (fun ov st => pb (evE Ω.T Ω.pol rec i sc loc st) fun iv st => ob (subOf st ov iv) fun v => ob (boolOf v) fun b => some (b, st)) = some (b, st') := by
  rw [← h]; symm
  cases i <;> first
   | rfl
   | exact noK h
 revert h
 refine pbR fun a st₁ h1 h => ?_
 revert h
 refine pbR fun c st₂ h2 h => ?_
 revert h
 refine obR fun w h3 h => ?_
 revert h
 refine obR fun d h4 h => ?_
 first | replace kk := kk.fin h | replace k := k.fin h | cases h
 cases boolOf_eq h4
 refine isTrue_val k (fun k => e_sub Ho Hi hn ?_ R hs I F ht k) rfl
 have : evE Ω.T Ω.pol rec (.Subscript o i p) sc loc st = pb (evE Ω.T Ω.pol rec o sc loc st) (fun ov st => pb (evE Ω.T Ω.pol rec i sc loc st) fun iv st => ob (subOf st ov iv) fun v => some (v, st)) := by
  cases i with
  | Slice lo hi step q =>
   cases step with
   | none => exact (hn _ _ _ rfl).elim
   | some w => rfl
  | _ => rfl
 rw [this, h1]
 show pb (evE Ω.T Ω.pol rec i sc loc st₁) _ = _
 rw [h2]
 show ob (subOf _ a c) _ = _
 rw [h3]; rfl
theorem t_not {op : UnaryOp} {x : Expr} {p : Pos} (Hx : PT Ω rec n x) : PT Ω rec n (.UnaryOp op x p) := by
 intro sc loc st b st' h A env s φ μ QB E R hs I F ht k
 cases op <;> first | exact noK h | skip
 revert h
 refine pbR fun c st₁ h1 h => ?_
 first | replace kk := kk.fin h | replace k := k.fin h | cases h
 exact wpAny_isTrue_Not (Hx h1 R hs I F ht fun s₁ φ₁ μ₁ x₁ I₁ t₁ => k s₁ φ₁ μ₁ x₁ I₁ t₁)
theorem t_bool {op : BoolOp} {es : List Expr} {p : Pos} (H : ∀ e ∈ es, PT Ω rec n e) : PT Ω rec n (.BoolOp op es p) := by
 intro sc loc st b st' h A env s φ μ QB E R hs I F ht k
 exact wpAny_isTrue_BoolOp (evTs_sound H h R hs I F ht k)
theorem t_cmp1 {l r : Expr} {op : CmpOp} {p : Pos} (Hl : PE Ω rec n l) (Hr : PE Ω rec n r) : PT Ω rec n (.Compare l [op] [r] p) := by
 intro sc loc st b st' h A env s φ μ QB E R hs I F ht k
 revert h
 refine pbR fun a st₁ h1 h => ?_
 revert h
 refine pbR fun c st₂ h2 h => ?_
 revert h
 refine obR fun w h3 h => ?_
 first | replace kk := kk.fin h | replace k := k.fin h | cases h
 refine wpAny_isTrue_Compare1 (Hl h1 R hs I F ht fun V₁ s₁ φ₁ μ₁ x₁ I₁ t₁ r₁ => Hr h2 R hs I₁ (F.ext x₁) t₁ fun V₂ s₂ φ₂ μ₂ x₂ I₂ t₂ r₂ => ?_) (notSet h2 op)
 exact wpAny_toks t₂ (cmp_sound h3 I₂ (r₁.mono x₂.fro x₂.mu) r₂ R.u6 fun tk tpos => wpAny_truthy_bool (k.after (x₁.trans x₂) _ φ₂ μ₂ .refl (I₂.tok tk) tpos))
theorem t_cmp {l : Expr} {ops : List CmpOp} {rs : List Expr} {p : Pos} (Hl : PE Ω rec n l) (H : ∀ r ∈ rs, PE Ω rec n r) : PT Ω rec n (.Compare l ops rs p) := by
 match ops, rs, H with
 | [op], [r], H => exact @t_cmp1 Ω rec n l r op p Hl (H r (.head _))
 | [], _, _ => intro sc loc st b st' h; exact noK h
 | [_], [], _ => intro sc loc st b st' h; exact noK h
 | [_], _ :: _ :: _, _ => intro sc loc st b st' h; exact noK h
 | _ :: _ :: _, _, _ => intro sc loc st b st' h; exact noK h
theorem t_call (O : Ok Ω rec n) {f : Expr} {args : List Expr} {kws : List Keyword} {p : Pos} (Hf : ∀ o x q, f = .Attribute o x q → PE Ω rec n o) (H : ∀ e ∈ args, PE Ω rec n e) : PT Ω rec n (.Call f args kws p) := by
 intro sc loc st b st' h A env s φ μ QB E R hs I F ht kk
 cases kws with
 | cons k ks => cases f <;> exact noK h
 | nil =>
  cases f <;> first | exact noK h | skip
  ·rename_i o x ap
   revert h
   refine ifR fun hc h => ?_
   obtain ⟨hb, hl, hn⟩ := hc
   revert h
   refine pbR fun ov st₁ h1 h => ?_
   revert h
   refine obR fun k h2 h => ?_
   revert h
   refine pbR fun vs st₂ h3 h => ?_
   revert h
   refine pbR fun w st₃ h4 h => ?_
   revert h
   refine obR fun d h5 h => ?_
   first | replace kk := kk.fin h | replace k := k.fin h | cases h
   cases boolOf_eq h5
   exact isTrue_val kk (fun k => callMeth_sound O (Hf _ _ _ rfl) H hb hl hn h1 h2 h3 h4 R hs I F ht k) rfl
  ·rename_i f q
   revert h
   refine obR fun fv h1 h => ?_
   revert h
   refine pbR fun vs st₁ h2 h => ?_
   revert h
   refine pbR fun w st₃ h4 h => ?_
   revert h
   refine obR fun d h5 h => ?_
   first | replace kk := kk.fin h | replace k := k.fin h | cases h
   cases boolOf_eq h5
   exact isTrue_val kk (fun k => callName_sound O H h1 h2 h4 R hs I F ht k) rfl
theorem lb_inv {α : Type} {x : Option (Loc × St)} {f : Loc → St → Option α} {y : α} (h : lb x f = some y) : ∃ l st, x = some (l, st) ∧ f l st = some y := by
 cases x with
 | none => cases h
 | some a => exact ⟨a.1, a.2, rfl, h⟩
theorem isLoc_or {k : Option NameKind} (h : isLoc k = true) : k = some .local ∨ k = some .cell := by
 rcases k with _ | k
 ·exact ffK h
 ·cases k <;> first | exact ffK h | exact .inl rfl | exact .inr rfl
theorem a_name {x : Str} {p : Pos} : PA Ω rec n (.Name x p) := by
 intro sc loc st v loc' st' h A env s φ μ V QU E R hs I F ht r k
 refine ifK h fun hk h => wpE (arm_assign_Name ..) ?_
 replace k := k.fin h
 exact wpAny_bind (wpAny_standAt (wpAny_bindName (store_sound (isLoc_or hk) hs I F ht r k)))
theorem a_attr (O : Ok Ω rec n) {o : Expr} {x : Str} {p : Pos} (Ho : PE Ω rec n o) : PA Ω rec n (.Attribute o x p) := by
 intro sc loc st v loc' st' h A env s φ μ V QU E R hs I F ht r k
 revert h
 refine pbR fun ov st₁ h1 h => ?_
 revert h
 refine obR fun st₂ h2 h => ?_
 first | replace kk := kk.fin h | replace k := k.fin h | cases h
 first | refine wpE (arm_assign_Attribute ..) ?_ | rw [arm_assign_Attribute]
 refine wpAny_bind (wpAny_holding (Ho h1 R hs I F ht fun V₁ s₁ φ₁ μ₁ x₁ I₁ t₁ r₁ => wpAny_bind (wpAny_standAt (wpAny_bind (wpAny_holding ?_)))))
 exact wpAny_toks t₁ (setattr_sound O.cls h2 I₁ r₁ (r.mono x₁.fro x₁.mu) fun h' tk J y tpos => wpAny_release (k _ φ₁ μ₁ (x₁.trans y).f J (F.ext (x₁.trans y)) tpos))
theorem a_sub {o i : Expr} {p : Pos} (Ho : PE Ω rec n o) (Hi : PE Ω rec n i) : PA Ω rec n (.Subscript o i p) := by
 intro sc loc st v loc' st' h A env s φ μ V QU E R hs I F ht r k
 revert h
 refine pbR fun ov st₁ h1 h => ?_
 revert h
 refine pbR fun iv st₂ h2 h => ?_
 revert h
 refine obR fun st₃ h3 h => ?_
 first | replace kk := kk.fin h | replace k := k.fin h | cases h
 first | refine wpE (arm_assign_Subscript ..) ?_ | rw [arm_assign_Subscript]
 refine wpAny_bind (wpAny_holding (Ho h1 R hs I F ht fun V₁ s₁ φ₁ μ₁ x₁ I₁ t₁ r₁ => wpAny_bind (wpAny_holding (Hi h2 R hs I₁ (F.ext x₁) t₁ fun V₂ s₂ φ₂ μ₂ x₂ I₂ t₂ r₂ => wpAny_bind (wpAny_standAt (wpAny_bind (wpAny_holding ?_)))))))
 exact wpAny_toks t₂ (setsub_sound h3 I₂ (r₁.mono x₂.fro x₂.mu) r₂ (r.mono (x₁.trans x₂).fro (x₁.trans x₂).mu) fun h' tk J y tpos => wpAny_release (k _ φ₂ μ₂ ((x₁.trans x₂).trans y).f J (F.ext ((x₁.trans x₂).trans y)) tpos))
theorem evA_notStar {t : Expr} {v : MV} {sc : Scope} {loc : Loc} {st : St} {r : Loc × St} (h : evA Ω.T Ω.pol rec t v sc loc st = some r) : ∀ x p, t ≠ .Starred x p := by
 rintro x p rfl
 first | replace kk := kk.fin h | replace k := k.fin h | cases h
theorem assignEach_cons {t : Expr} {ts : List Expr} {env : Env} (h : ∀ x p, t ≠ .Starred x p) : assignEach (t :: ts) env = (false, assign t env) :: assignEach ts env := by
 cases t <;> first | rfl | exact absurd rfl (h _ _)
theorem evAs_len : ∀ {ts : List Expr} {vs : List MV} {sc : Scope} {loc : Loc} {st : St} {r : Loc × St} {env : Env}, evAs Ω.T Ω.pol rec ts vs sc loc st = some r → (assignEach ts env).length = vs.length ∧ (assignEach ts env).findIdx? (·.1) = none
 | [], [], sc, loc, st, r, env, h => ⟨rfl, rfl⟩
 | [], _ :: _, sc, loc, st, r, env, h => noK h
 | t :: ts, [], sc, loc, st, r, env, h => noK h
 | t :: ts, v :: vs, sc, loc, st, r, env, h => by
  obtain ⟨l, st₁, h1, h⟩ := lb_inv h
  obtain ⟨a, b⟩ := evAs_len (env := env) h
  rw [assignEach_cons (evA_notStar h1)]
  refine ⟨by rw [List.length_cons, List.length_cons, a], ?_⟩
  rw [List.findIdx?_cons]
  simp [b]
noncomputable def PAs (Ω : Wld) (rec : Rec) (n : Nat) (ts : List Expr) (vs : List MV) : Prop := ∀ {sc : Scope} {loc : Loc} {st : St} {loc' : Loc} {st' : St}, evAs Ω.T Ω.pol rec ts vs sc loc st = some (loc', st') → ∀ {A : Around} {env : Env} {s : Shared} {φ : Phi} {μ : Mu} {Vs : List Value} {QU : Unit → Shared → Prop} {E : Value → Shared → Prop},
  Room n A → KindOk sc env → Inv Ω φ μ st s → FrOk Ω φ μ s.heap env loc → 1 ≤ s.toks → VRs Ω.ad φ μ vs Vs → AnsL Ω sc env φ μ s.heap st' loc' QU → wpAny (model Ω.P Ω.w) A (assignInOrder ((assignEach ts env).map (·.2)) Vs) QU E s
theorem evAs_sound {ts : List Expr} (H : ∀ t ∈ ts, PA Ω rec n t) {vs : List MV} : PAs Ω rec n ts vs := by
 induction ts generalizing vs with
 | nil =>
  cases vs with
  | nil =>
   intro sc loc st loc' st' h A env s φ μ Vs QU E R hs I F ht r k
   replace k := k.fin h
   obtain rfl : Vs = [] := r
   exact wpAny_assignInOrder_none (k _ φ μ .refl I F ht)
  | cons _ _ => exact fun h => noK h
 | cons t ts ih =>
  cases vs with
  | nil => exact fun h => noK h
  | cons v vs => ?_
  intro sc loc st loc' st' h A env s φ μ _ QU E R hs I F ht r k
  obtain ⟨V, Vs, rfl, r, rs⟩ := r
  obtain ⟨l, st₁, h1, h⟩ := lb_inv h
  rw [assignEach_cons (evA_notStar h1)]
  refine wpAny_assignInOrder_more (H t (.head _) h1 R hs I F ht r fun s₁ φ₁ μ₁ x₁ I₁ F₁ t₁ => ?_)
  exact ih (fun t ht => H t (.tail _ ht)) h R hs I₁ F₁ t₁ (rs.mono x₁.fro x₁.mu) (k.after x₁)
theorem a_tuple {ts : List Expr} {j : Nat} {p : Pos} (H : ∀ t ∈ ts, PA Ω rec n t) : PA Ω rec n (.Tuple ts j p) := by
 intro sc loc st v loc' st' h A env s φ μ V QU E R hs I F ht r k
 refine asTupK h fun vs p h => ?_
 obtain ⟨a, o, ws, m, rfl, _, hc, hd, hg, q⟩ := asTuple I (p ▸ r)
 obtain ⟨h1, h2⟩ := evAs_len (env := env) h
 have hlen := q.length
 rw [Array.length_toList] at hlen
 first | refine wpE (arm_assign_Tuple ..) ?_ | rw [arm_assign_Tuple]
 refine wpAny_bind (wpAny_standAt ?_)
 unfold unpack
 rw [h2, show (assignEach ts env).length = ws.size from h1.trans hlen.symm]
 refine wpAny_bind (wpAny_holding (wpAny_toks ht (wpAny_sizes (Nat.le_refl _) (wpAny_unpackItems_tuple R.hh ⟨o, hg, hc, m, hd⟩ fun h' hk hz tpos => ?_))))
 have keep : ∀ b o, s.heap.get? b = some o → h'.get? b = some o := fun b o e => hk b o (Nat.ne_of_lt (Heap.lt_size e)) e
 have x : Ext φ μ s.heap φ μ h' := Ext.keeps keep hz
 exact evAs_sound H h R hs (I.keeps keep hz (tk := s.toks)) (F.ext x) tpos q (k.after x.f)
end
end Mine
namespace Mine
open PySem PySem.W PySem.Calls PyProof.Rows PySem.SeqAt
section
variable {Ω : Wld} {rec : Rec} {n : Nat}
theorem evPairs_shape : ∀ {ks : List (Option Expr)} {vs : List Expr} {sc : Scope} {loc : Loc} {st : St} {r : List (Str × MV) × St}, evPairs Ω.T Ω.pol rec ks (evTh Ω.T Ω.pol rec vs sc loc) sc loc st = some r → ks.all (·.isSome) = true ∧ ks.length = vs.length
 | [], [], _, _, _, _, _ => ⟨rfl, rfl⟩
 | [], v :: vs, _, _, _, _, h => noK h
 | k :: ks, [], _, _, _, _, h => noK h
 | k :: ks, v :: vs, sc, loc, st, r, h => by
  revert h
  refine pbR fun x st₁ h1 h => ?_
  revert h
  refine pbR fun w st₂ h2 h => ?_
  revert h
  refine pbR fun es st₃ h3 h => ?_
  obtain ⟨a, b⟩ := evPairs_shape h3
  cases k with
  | none => exact noK h1
  | some k => exact ⟨by simp [a], by simp [b]⟩
noncomputable def PPs (Ω : Wld) (rec : Rec) (n : Nat) (ks : List (Option Expr)) (vs : List Expr) : Prop := ∀ {sc : Scope} {loc : Loc} {st : St} {es : List (Str × MV)} {st' : St}, evPairs Ω.T Ω.pol rec ks (evTh Ω.T Ω.pol rec vs sc loc) sc loc st = some (es, st') →
  ∀ {A : Around} {env : Env} {s : Shared} {φ : Phi} {μ : Mu} {QP : List (Value × Value) → Shared → Prop} {E : Value → Shared → Prop} {pos : Pos}, Room n A → KindOk sc env → Inv Ω φ μ st s → FrOk Ω φ μ s.heap env loc → 1 ≤ s.toks →
  (∀ ws s' φ' μ', Ext φ μ s.heap φ' μ' s'.heap → Inv Ω φ' μ' st' s' → 1 ≤ s'.toks → KVs Ω φ' μ' es ws → QP ws s') → wpAny (model Ω.P Ω.w) A (evalPairs (pairTrees ks vs env pos)) QP E s
theorem evPairs_sound {ks : List (Option Expr)} {vs : List Expr} (Hk : ∀ k, some k ∈ ks → PE Ω rec n k) (Hv : ∀ e ∈ vs, PE Ω rec n e) : PPs Ω rec n ks vs := by
 induction ks generalizing vs with
 | nil =>
  cases vs with
  | nil =>
   intro sc loc st es st' h A env s φ μ QP E pos R hs I F ht k
   obtain ⟨rfl, rfl⟩ := Prod.mk.inj (Option.some.inj h)
   exact pairTrees_nil_walk (k _ _ φ μ .refl I ht rfl)
  | cons _ _ => exact fun h => noK h
 | cons k ks ih =>
  cases vs with
  | nil => exact fun h => noK h
  | cons v vs => ?_
  cases k with
  | none => exact fun h => noK h
  | some k => ?_
  intro sc loc st es st' h A env s φ μ QP E pos R hs I F ht kk
  revert h
  refine pbR fun x st₁ h1 h => ?_
  revert h
  refine pbR fun w st₂ h2 h => ?_
  refine pbK h fun es' st₃ h3 h => ?_
  obtain ⟨rfl, rfl⟩ := Prod.mk.inj (Option.some.inj h)
  revert h1
  refine pbR fun kv st₄ h4 h1 => ?_
  refine asStrK h1 fun y p h1 => ?_
  obtain ⟨rfl, rfl⟩ := Prod.mk.inj (Option.some.inj h1)
  refine pairTrees_cons_walk (Hk k (.head _) h4 R hs I F ht fun V₁ s₁ φ₁ μ₁ x₁ I₁ t₁ r₁ => Hv v (.head _) h2 R hs I₁ (F.ext x₁) t₁ fun V₂ s₂ φ₂ μ₂ x₂ I₂ t₂ r₂ => ?_)
  obtain ⟨t, rfl⟩ := p ▸ r₁
  refine ih (fun k hk => Hk k (.tail _ hk)) (fun v hv => Hv v (.tail _ hv)) h3 R hs I₂ (F.ext (x₁.trans x₂)) t₂ fun ws s₃ φ₃ μ₃ x₃ I₃ t₃ r₃ => ?_
  exact kk _ _ φ₃ μ₃ ((x₁.trans x₂).trans x₃) I₃ t₃ ⟨t, V₂, ws, rfl, r₂.mono x₃.fro x₃.mu, r₃⟩
theorem fresh_off {φ φ₁ : Phi} {μ μ₁ : Mu} {st : St} {s s₁ : Shared} {o : Obj} (I : Inv Ω φ μ st s) (x : Ext φ μ (s.heap.push o) φ₁ μ₁ s₁.heap) : (φ₁ s.heap.objs.size = none ∧ ¬ Own μ₁ s.heap.objs.size) ∧ s.heap.objs.size < s₁.heap.objs.size := by
 have hlt : s.heap.objs.size < (s.heap.push o).objs.size := by rw [Heap.size_push]; exact Nat.lt_succ_self _
 exact ⟨x.offA hlt (I.new_off (Nat.le_refl _)), Nat.lt_of_lt_of_le hlt x.size⟩
theorem e_dictShort {ks : List (Option Expr)} {vs : List Expr} {p : Pos} (Hk : ∀ k, some k ∈ ks → PE Ω rec n k) (Hv : ∀ e ∈ vs, PE Ω rec n e) {sc : Scope} {loc : Loc} {st st₁ st' : St} {es : List (Str × MV)} {v : MV} (hl : ks.length ≤ 15)
  (h1 : evPairs Ω.T Ω.pol rec ks (evTh Ω.T Ω.pol rec vs sc loc) sc loc st = some (es, st₁)) (h2 : layDict Ω.pol p (updK [] es) st₁ = some (v, st')) {A : Around} {env : Env} {s : Shared} {φ : Phi} {μ : Mu} {Q E : Value → Shared → Prop}
  (R : Room n A) (hs : KindOk sc env) (I : Inv Ω φ μ st s) (F : FrOk Ω φ μ s.heap env loc) (ht : 1 ≤ s.toks) (kk : AnsE Ω φ μ s.heap st' v Q) : wpAny (model Ω.P Ω.w) A (eval (.Dict ks vs p) env) Q E s := by
 obtain ⟨ha, hlen⟩ := evPairs_shape h1
 have J : Inv Ω φ μ st { s with heap := s.heap.push { cls := .type "dict", data := .dict #[] } } := I.push _ s.toks
 have x0 : Ext φ μ s.heap φ μ (s.heap.push { cls := .type "dict", data := .dict #[] }) := .push _
 have d0 : (s.heap.push { cls := .type "dict", data := .dict #[] }).DictOf (strKind Ω.P Ω.w) s.heap.objs.size [] := .new _
 cases ks with
 | nil =>
  cases vs with
  | cons => simp at hlen
  | nil =>
   cases h1
   refine wpAny_Dict_empty ?_
   obtain ⟨off, hlt⟩ := fresh_off (s₁ := { s with heap := s.heap.push { cls := .type "dict", data := .dict #[] } }) I .refl
   exact layDict_sound (tk := s.toks) h2 J x0 off (Nat.le_refl _) I.base_le hlt d0 (.refl _ _) rfl kk.op ht
 | cons k ks =>
  refine wpAny_Dict_walk (knd := strKind Ω.P Ω.w) ha hlen (by simp) hl ?_
  refine evPairs_sound Hk Hv h1 R hs J (F.ext x0) ht fun ws s₁ φ₁ μ₁ x₁ I₁ t₁ r₁ => ?_
  obtain ⟨kvs, hc, q, _⟩ := r₁.carries
  obtain ⟨off, hlt⟩ := fresh_off I x₁
  have d1 : s₁.heap.DictOf (strKind Ω.P Ω.w) s.heap.objs.size [] := by
   obtain ⟨o, ho, hd⟩ := Heap.dictOf_iff.mp d0
   have off0 := I.new_off (Nat.le_refl s.heap.objs.size)
   exact Heap.dictOf_iff.mpr ⟨o, x₁.keep _ _ ho off0.2, hd⟩
  refine ⟨kvs, hc, d1, fun h' d' hs' => ?_⟩
  exact layDict_sound (tk := s₁.toks + ws.length) h2 I₁ (x0.trans x₁) off (Nat.le_refl _) I.base_le hlt d' hs' (KV.merged (es := []) (kvs := []) rfl List.nodup_nil q) kk.op (Nat.le_trans t₁ (Nat.le_add_right _ _))
end
end Mine
namespace Mine
open PySem PySem.W PySem.Calls PyProof.Rows PySem.SeqAt
structure Hold (Ω : Wld) (sc : Scope) (env : Env) (φb : Phi) (μb : Mu) (hb : Heap) (it : Addr) (loc : Loc) (st : St) (φ : Phi) (μ : Mu) (s : Shared) : Prop where
 x : ExtF sc env φb μb hb φ μ s.heap
 I : Inv Ω φ μ st s
 F : FrOk Ω φ μ s.heap env loc
 t : 1 ≤ s.toks
 itb : hb.objs.size ≤ it
 off : φ it = none ∧ ¬ Own μ it
 lt : it < s.heap.objs.size
 ne : it ≠ env.locals ∧ ∀ x c, env.cells.lookup x = some c → it ≠ c
section
variable {Ω : Wld} {rec : Rec} {n : Nat} {sc : Scope} {env : Env} {φb : Phi} {μb : Mu} {hb : Heap} {it : Addr} {loc loc' : Loc} {st st' : St} {φ φ' : Phi} {μ μ' : Mu} {s s' : Shared} {E : Value → Shared → Prop} {A : Around}
theorem ExtF.offA {h h' : Heap} (x : ExtF sc env φ μ h φ' μ' h') {a : Addr} (hl : a < h.objs.size) (e : φ a = none ∧ ¬ Own μ a) : φ' a = none ∧ ¬ Own μ' a := by
 refine ⟨?_, fun q => ?_⟩
 ·cases q : φ' a with
  | none => rfl
  | some o =>
   rcases x.froN a o q with z | z
   ·rw [e.1] at z; cases z
   ·exact absurd hl (Nat.not_lt.mpr z)
 ·rcases x.ownN a q with z | z
  ·exact e.2 z
  ·exact absurd hl (Nat.not_lt.mpr z)
theorem FrOk.but (F : FrOk Ω φ μ s.heap env loc) {h' : Heap} (hk : ∀ b o, b ≠ it → s.heap.get? b = some o → h'.get? b = some o) (hz : s.heap.objs.size ≤ h'.objs.size) (h1 : it ≠ env.locals) (h2 : ∀ x c, env.cells.lookup x = some c → it ≠ c) : FrOk Ω φ μ h' env loc := by
 obtain ⟨m, ⟨o, es, ep, ho, r⟩, hm⟩ := F.lo
 refine ⟨F.kind, F.gl, F.bu, ⟨m, ⟨o, es, ep, hk _ _ (Ne.symm h1) ho, r⟩, hm⟩, fun y v k e => ?_, fun y k => ?_, F.offL, fun y c e => ?_, F.dis⟩
 ·obtain ⟨c, V, e1, ⟨oc, hc, hd⟩, e2⟩ := F.cel y v k e
  exact ⟨c, V, e1, ⟨oc, hk _ _ (Ne.symm (h2 y c e1)) hc, hd⟩, e2⟩
 ·obtain ⟨c, ov, e1, ⟨oc, hc, hd⟩⟩ := F.has y k
  exact ⟨c, ov, e1, ⟨oc, hk _ _ (Ne.symm (h2 y c e1)) hc, hd⟩⟩
 ·obtain ⟨a1, a2, a3, a4⟩ := F.offC y c e
  exact ⟨a1, a2, a3, Nat.lt_of_lt_of_le a4 hz⟩
theorem Hold.turn (H : Hold Ω sc env φb μb hb it loc st φ μ s) {h' : Heap} {tk : Nat} (hk : ∀ b o, b ≠ it → s.heap.get? b = some o → h'.get? b = some o) (hz : s.heap.objs.size ≤ h'.objs.size) (ht : 1 ≤ tk) :
  Hold Ω sc env φb μb hb it loc st φ μ { s with heap := h', toks := tk } := by
 refine ⟨⟨H.x.fro, H.x.froN, H.x.mu, H.x.ownN, fun b o e n n1 n2 => ?_, Nat.le_trans H.x.size hz⟩, H.I.keep (fun b o e q => hk b o (fun z => ?_) e) hz, H.F.but hk hz H.ne.1 H.ne.2, ht, H.itb, H.off, Nat.lt_of_lt_of_le H.lt hz, H.ne⟩
 ·exact hk b o (Nat.ne_of_lt (Nat.lt_of_lt_of_le (Heap.lt_size e) H.itb)) (H.x.keep b o e n n1 n2)
 ·subst z
  rcases q with ⟨o, q⟩ | q
  ·rw [H.off.1] at q; cases q
  ·exact H.off.2 q
theorem Hold.body (H : Hold Ω sc env φb μb hb it loc st φ μ s) (x : ExtF sc env φ μ s.heap φ' μ' s'.heap) (I : Inv Ω φ' μ' st' s') (F : FrOk Ω φ' μ' s'.heap env loc') (t : 1 ≤ s'.toks) : Hold Ω sc env φb μb hb it loc' st' φ' μ' s' :=
 ⟨H.x.trans x, I, F, t, H.itb, x.offA H.lt H.off, Nat.lt_of_lt_of_le H.lt x.size, H.ne⟩
theorem Hold.kept (H : Hold Ω sc env φb μb hb it loc st φ μ s) (x : ExtF sc env φ μ s.heap φ' μ' s'.heap) {b : Addr} (hb : b = it ∨ ∃ o, φ b = some o) (I : Inv Ω φ' μ' st' s') : ∀ o, s.heap.get? b = some o → s'.heap.get? b = some o := fun o e => by
 rcases hb with rfl | ⟨o', q⟩
 ·exact x.keep _ o e H.off.2 H.ne.1 fun y c _ h => H.ne.2 y c h
 ·have h1 := H.I.fro _ _ q
  rw [h1] at e
  cases e
  exact I.fro _ _ (x.fro _ _ q)
theorem rangeUp_get : ∀ (k : Nat) (lo st : Int) (i : Nat), i < k → (rangeUp k lo st)[i]? = some (.int (lo + i * st))
 | 0, _, _, _, h => absurd h (Nat.not_lt_zero _)
 | k + 1, lo, st, 0, _ => congrArg (fun i => some (MV.int i)) (show lo = lo + 0 * st by rw [Int.zero_mul, Int.add_zero])
 | k + 1, lo, st, i + 1, h => (rangeUp_get k (lo + st) st i (Nat.lt_of_succ_lt_succ h)).trans (congrArg (fun i => some (MV.int i)) (by rw [Int.natCast_add, Int.add_mul]; lia))
theorem rangeUp_length : ∀ (k : Nat) (lo st : Int), (rangeUp k lo st).length = k
 | 0, _, _ => rfl
 | k + 1, lo, st => congrArg (· + 1) (rangeUp_length k _ _)
noncomputable def Plainer (h : Heap) (it : Addr) : Prop := ∃ o T, h.get? it = some o ∧ o.cls = .type T ∧ ["enumerate", "zip", "dict_itemiterator", "dict_reverseitemiterator", "odict_iterator", "itertools.zip_longest", "itertools.pairwise"].contains T = false
theorem letOwned {target : Expr} {v : Value} {QU : Unit → Shared → Prop} (h : Plainer s.heap it) (q : QU () s) : wpAny (model Ω.P Ω.w) A (letOwnedTupleGo target (.ref it) v) QU E s := by
 obtain ⟨⟨cl, dd, da, sl⟩, T, ho, hc, hT⟩ := h
 dsimp only at hc
 subst hc
 have go : ∀ (r : Addr), wpAny (model Ω.P Ω.w) A (do
   let o ← load it
   match o.cls, o.data with
   | .type n, .fields vs =>
    if ["enumerate", "zip", "dict_itemiterator", "dict_reverseitemiterator", "odict_iterator", "itertools.zip_longest", "itertools.pairwise"].contains n && vs[0]? == some (rawInt r) then
     rule "for.unpacks-the-owned-tuple"
     updateField it 0 .none
   | _, _ => pure ()) QU E s := fun r => wpAny_bind (wpAny_load ho (by
  cases da with
  | fields vs =>
   show wpAny _ _ (if (List.contains _ T && _) = true then _ else _) _ _ _
   rw [hT]
   exact wpAny_pure q
  | _ => exact wpAny_pure q))
 cases target <;> first
  | exact wpAny_pure q
  | (cases v <;> first | exact wpAny_pure q | exact go _)
structure Walked (Ω : Wld) (φ : Phi) (μ : Mu) (it : Addr) (vs : List MV) (fp : List Addr) (P : Nat → Value → Prop) (St : Nat → Heap → Prop) : Prop where
 walks : ∀ A : Around, A.handled = none → Walks Ω.P Ω.w A it fp [it] vs.length P St
 fp : ∀ b ∈ fp, b = it ∨ ∃ o, φ b = some o
 item : ∀ i v, P i v → ∃ m, vs[i]? = some m ∧ VR Ω.ad φ μ m v
 plain : ∀ i h, St i h → Plainer h it
theorem VRs.at_ {vs : List MV} {ws : Array Value} (q : VRs Ω.ad φ μ vs ws.toList) {i : Nat} {v : Value} (hv : ws[i]? = some v) : ∃ m, vs[i]? = some m ∧ VR Ω.ad φ μ m v := by
 have hlt := (Array.getElem?_eq_some_iff.mp hv).1
 have hl : i < vs.length := by rw [← q.length, Array.length_toList]; exact hlt
 obtain ⟨w, hw, rw⟩ := q.get (List.getElem?_eq_getElem hl)
 rw [Array.getElem?_toList, hv] at hw
 exact ⟨_, List.getElem?_eq_getElem hl, Option.some.inj hw ▸ rw⟩
theorem fp_two {x a b : Addr} {o : Obj} (hf : φ a = some o) (hb : b ∈ [x, a]) : b = x ∨ ∃ o, φ b = some o := by
 rcases List.mem_cons.mp hb with h | h
 ·exact .inl h
 ·exact .inr ⟨o, List.mem_singleton.mp h ▸ hf⟩
theorem range_facts {a b c : Int} (hc : (-100000 ≤ a ∧ a ≤ 100000) ∧ (-100000 ≤ b ∧ b ≤ 100000) ∧ (c = 1 ∨ c = -1)) : Builtin.Range.rangeSize a b c = ((rangeItems a b c).length : Int) ∧ Builtin.Range.small a b c = true := by
 obtain ⟨h1, h2, rfl | rfl⟩ := hc
 ·exact ⟨(rangeSize_nat a b).trans (congrArg _ (rangeUp_length _ _ _).symm), small_one (Int.le_trans (by decide) h1.1) (Int.lt_of_le_of_lt h1.2 (by decide)) (Int.le_trans (by decide) h2.1) (Int.lt_of_le_of_lt h2.2 (by decide))⟩
 ·exact ⟨(rangeSize_downNat a b).trans (congrArg _ (rangeUp_length _ _ _).symm), small_down (Int.le_trans (by decide) h1.1) (Int.lt_of_le_of_lt h1.2 (by decide)) (Int.le_trans (by decide) h2.1) (Int.lt_of_le_of_lt h2.2 (by decide))⟩
theorem iter_sound {src : MV} {vs : List MV} {V : Value} {Q : Value → Shared → Prop} (hh : A.handled = none) (e : fixedItems src = some vs) (I : Inv Ω φ μ st s) (r : VR Ω.ad φ μ src V)
  (k : ∀ o fp P St, Walked Ω φ μ s.heap.objs.size vs fp P St → St 0 (s.heap.push o) → Q (.ref s.heap.objs.size) { s with heap := s.heap.push o }) : wpAny (model Ω.P Ω.w) A (pyIter V) Q E s := by
 cases src <;> first | exact noK e | skip
 ·obtain rfl := Option.some.inj e
  obtain ⟨t, rfl⟩ := r
  rename_i x
  have hlen : (charsOf x).length = x.cps.size := by simp [charsOf]
  have it_ : ∀ i v, SignAt x i v → ∃ m, (charsOf x)[i]? = some m ∧ VR Ω.ad φ μ m v := fun i v hv => by
   obtain ⟨c, u, hc, rfl⟩ := hv
   refine ⟨.str ⟨#[c]⟩, ?_, ⟨u, rfl⟩⟩
   unfold charsOf
   rw [List.getElem?_map, Array.getElem?_toList, hc]; rfl
  cases ha : x.cps.all (· < 128)
  ·exact wpAny_pyIter_wide ha (k _ _ _ _ ⟨fun A hA => hlen ▸ Walks.strWide hA _ x t, fun b hb => .inl (List.mem_singleton.mp hb), it_, fun i h hst => by obtain ⟨o, ho, hc, _⟩ := hst; exact ⟨o, _, ho, hc, by decide⟩⟩ ⟨_, Heap.get?_push_size _ rfl, rfl, rfl⟩)
  ·exact wpAny_pyIter_ascii ha (k _ _ _ _ ⟨fun A hA => hlen ▸ Walks.strAscii hA _ x t, fun b hb => .inl (List.mem_singleton.mp hb), it_, fun i h hst => by obtain ⟨o, ho, hc, _⟩ := hst; exact ⟨o, _, ho, hc, by decide⟩⟩ ⟨_, Heap.get?_push_size _ rfl, rfl, rfl⟩)
 ·obtain rfl := Option.some.inj e
  obtain ⟨a, o, ws, m, rfl, hf, hc, hd, hg, q⟩ := asTuple I r
  have hT := isTuple_of I.fro hf hc hd
  have hlen : ws.size = _ := Array.length_toList ▸ q.length
  exact wpAny_pyIter_tuple hT (k _ [s.heap.objs.size, a] (fun i v => ws[i]? = some v) _ ⟨fun A hA => hlen ▸ Walks.tuple hA _ a (Nat.ne_of_lt (Heap.lt_size hg)) ws, fun b hb => fp_two hf hb, fun i v hv => q.at_ hv, fun i h hst => let ⟨⟨o, ho, hc, _⟩, _⟩ := hst; ⟨o, _, ho, hc, by decide⟩⟩ ⟨⟨_, Heap.get?_push_size _ rfl, rfl, rfl⟩, hT.push _⟩)
 ·obtain rfl := Option.some.inj e
  obtain ⟨a, ws, m, rfl, hf, q⟩ := r
  have hg := I.fro _ _ hf
  have hT := isList_of hg
  have hlen : ws.size = _ := Array.length_toList ▸ q.length
  exact wpAny_pyIter_list hT (k _ [s.heap.objs.size, a] (fun i v => ws[i]? = some v) _ ⟨fun A hA => hlen ▸ Walks.list hA _ a (Nat.ne_of_lt (Heap.lt_size hg)) ws, fun b hb => fp_two hf hb, fun i v hv => q.at_ hv, fun i h hst => let ⟨⟨o, ho, hc, _⟩, _⟩ := hst; ⟨o, _, ho, hc, by decide⟩⟩ ⟨⟨_, Heap.get?_push_size _ rfl, rfl, rfl⟩, hT.push _⟩)
 ·rename_i a b c
  refine ifK e fun hc e => ?_
  obtain rfl := Option.some.inj e
  obtain ⟨x, t, u, w, rfl, hf⟩ := r
  have hg := I.fro _ _ hf
  obtain ⟨hn, hsm⟩ := range_facts hc
  refine wpAny_pyIter_range hg hsm (k _ [s.heap.objs.size] (fun i v => i < (rangeItems a b c).length ∧ ∃ t, v = .int (a + i * c) t) _ ⟨fun A hA => (Walks.range hA _ a c (rangeItems a b c).length).bound, fun b hb => .inl (List.mem_singleton.mp hb), fun i v hv => ?_, fun i h hst => ⟨_, _, hst, rfl, by decide⟩⟩ ?_)
  ·obtain ⟨hi, t, rfl⟩ := hv
   refine ⟨_, rangeUp_get _ _ _ i ?_, ⟨t, rfl⟩⟩
   have := hi
   unfold rangeItems at this
   rwa [rangeUp_length] at this
  ·show IsRangeIter _ _ _ _ _
   rw [hn]
   simpa using Heap.get?_push_size _ rfl
end
end Mine
namespace Mine
open PySem PySem.W PySem.Calls PyProof.Rows PySem.SeqAt
section
variable {Ω : Wld} {rec : Rec} {n : Nat} {sc : Scope} {env : Env} {φb : Phi} {μb : Mu} {hb : Heap} {it : Addr} {loc loc' : Loc} {st st' : St} {φ φ' : Phi} {μ μ' : Mu} {s s' : Shared} {E : Value → Shared → Prop} {A : Around}
theorem codeAny_forLoopT {prog : Program} {w : World} {R : Result → Shared → Prop} {target : Expr} {it : Value} {body : List Stmt} {env : Env} (I : Nat → Shared → Prop)
  (turn : ∀ n s (E1 : Value → Shared → Prop), I n s → wpAny (model prog w) A (pyNext it) (fun r s₁ => match r with
   | none => R (.ok .next) s₁
   | some v => wpAny (model prog w) A (letOwnedTupleGo target it v) (fun _ s₁ => wpAny (model prog w) A (assign target env v) (fun _ s₂ => wpAny (model prog w) A (execs body env) (fun f s₃ => match f with
     | .next | .cont => ∃ m, m < n ∧ I m s₃
     | .brk => R (.ok .next) s₃
     | .ret v => R (.ok (.ret v)) s₃) E1 s₂) E1 s₁) E1 s₁) E1 s)
  (n : Nat) (h : I n s) : codeAny (model prog w) A (.forLoop target it body [] env) R s := by
 refine codeAny_loop' rfl I (fun n s hI => ?_) n h
 show wpAny _ _ ((forTurn target it body [] env).onRaise (fun x => do noteFrame x env; theTreesLotGoes x)) _ _ s
 refine wpAny_noted ?_
 simp only [forTurn]
 refine wpAny_bind (wpAny_standAt (wpAny_bind (wpAny_onRaise (wpAny_mono (turn n s (notedBy (model prog w) A env fun e s' => R (.error e) s') hI) (fun r s₁ h₁ => ?_) fun _ _ h' => wpAny_standAt h'))))
 cases r with
 | none => exact wpAny_pure (.inr ⟨rfl, codeAny_block (wpAny_pure h₁)⟩)
 | some v =>
  refine wpAny_bind (wpAny_mono h₁ (fun _ s₁' h₁ => ?_) fun _ _ h' => h')
  refine wpAny_bind (wpAny_mono h₁ (fun _ s₂ h₂ => wpAny_bind (wpAny_mono h₂ (fun f s₃ h₃ => ?_) fun _ _ h' => h')) fun _ _ h' => h')
  cases f with
  | next => exact wpAny_pure (.inl ⟨rfl, h₃⟩)
  | cont => exact wpAny_pure (.inl ⟨rfl, h₃⟩)
  | brk => exact wpAny_pure h₃
  | ret v => exact wpAny_pure h₃
theorem hold_item {φ₀ : Phi} {μ₀ : Mu} {vs : List MV} {fp : List Addr} {P : Nat → Value → Prop} {St : Nat → Heap → Prop} {i : Nat} {x : MV} {Q : Option Value → Shared → Prop} (hh : A.handled = none) (W : Walked Ω φ₀ μ₀ it vs fp P St) (hφ : ∀ a o, φ₀ a = some o → φ a = some o) (hμ : ∀ a p, μ₀ a = some p → μ a = some p)
  (H : Hold Ω sc env φb μb hb it loc st φ μ s) (h : St i s.heap) (hx : vs[i]? = some x)
  (k : ∀ V s', VR Ω.ad φ μ x V → Hold Ω sc env φb μb hb it loc st φ μ s' → St (i + 1) s'.heap → Q (some V) s') : wpAny (model Ω.P Ω.w) A (pyNext (.ref it)) Q E s := by
 have hlt := (List.getElem?_eq_some_iff.mp hx).1
 refine wpAny_toks H.t (wpAny_sizes (Nat.le_refl _) ((W.walks A hh).item i s _ E hlt h fun v h' tk hp hst hk hz ht => ?_))
 obtain ⟨m, hm, r⟩ := W.item i v hp
 rw [hx] at hm
 cases hm
 exact k v _ (r.mono hφ hμ) (H.turn (fun b o e => hk b o (fun q => e (List.mem_singleton.mp q))) hz ht) hst
theorem hold_done {φ₀ : Phi} {μ₀ : Mu} {vs : List MV} {fp : List Addr} {P : Nat → Value → Prop} {St : Nat → Heap → Prop} {Q : Option Value → Shared → Prop} (hh : A.handled = none) (W : Walked Ω φ₀ μ₀ it vs fp P St)
  (H : Hold Ω sc env φb μb hb it loc st φ μ s) (h : St vs.length s.heap) (k : ∀ s', Hold Ω sc env φb μb hb it loc st φ μ s' → Q none s') : wpAny (model Ω.P Ω.w) A (pyNext (.ref it)) Q E s := by
 refine wpAny_toks H.t (wpAny_sizes (Nat.le_refl _) ((W.walks A hh).done s _ E h fun h' tk hk hz ht => ?_))
 exact k _ (H.turn (fun b o e => hk b o (fun q => e (List.mem_singleton.mp q))) hz ht)
theorem sb_inv {x : SR} {f : Fl → Loc → St → SR} {y : Fl × Loc × St} (h : sb x f = some y) : ∃ fl l st, x = some (fl, l, st) ∧ f fl l st = some y := by
 cases x with
 | none => cases h
 | some a => exact ⟨a.1, a.2.1, a.2.2, rfl, h⟩
noncomputable def PSs (Ω : Wld) (rec : Rec) (n : Nat) (ss : List Stmt) : Prop := ∀ {sc : Scope} {loc : Loc} {st : St} {fl : Fl} {loc' : Loc} {st' : St}, evSs Ω.T Ω.pol rec ss sc loc st = some (fl, loc', st') → ∀ {A : Around} {env : Env} {s : Shared} {φ : Phi} {μ : Mu} {QF : Flow → Shared → Prop} {E : Value → Shared → Prop},
 Room n A → KindOk sc env → Inv Ω φ μ st s → FrOk Ω φ μ s.heap env loc → 1 ≤ s.toks → AnsF Ω sc env φ μ s.heap st' loc' fl QF → wpAny (model Ω.P Ω.w) A (execs ss env) QF E s
noncomputable def forStep (Ω : Wld) (rec : Rec) (target : Expr) (body : List Stmt) (sc : Scope) : MV → Loc → St → SR := fun x loc st => lb (evA Ω.T Ω.pol rec target x sc loc st) fun loc st => evSs Ω.T Ω.pol rec body sc loc st
theorem turn_body {target : Expr} {body : List Stmt} (HA : PA Ω rec n target) (HB : PSs Ω rec n body) {x : MV} {V : Value} {fl : Fl} (R : Room n A) (hs : KindOk sc env) (H : Hold Ω sc env φb μb hb it loc st φ μ s) (hp : Plainer s.heap it)
  (e : forStep Ω rec target body sc x loc st = some (fl, loc', st')) (r : VR Ω.ad φ μ x V) {QF : Flow → Shared → Prop}
  (k : ∀ f s' φ' μ', ExtF sc env φ μ s.heap φ' μ' s'.heap → Hold Ω sc env φb μb hb it loc' st' φ' μ' s' → FlR Ω φ' μ' fl f → QF f s') :
  wpAny (model Ω.P Ω.w) A (letOwnedTupleGo target (.ref it) V) (fun _ s₁ => wpAny (model Ω.P Ω.w) A (assign target env V) (fun _ s₂ => wpAny (model Ω.P Ω.w) A (execs body env) QF E s₂) E s₁) E s := by
 obtain ⟨l, st₁, h1, h2⟩ := lb_inv e
 refine letOwned hp (HA h1 R hs H.I H.F H.t r fun s₁ φ₁ μ₁ x₁ I₁ F₁ t₁ => HB h2 R hs I₁ F₁ t₁ fun f s₂ φ₂ μ₂ x₂ I₂ F₂ t₂ r₂ => ?_)
 exact k f s₂ φ₂ μ₂ (x₁.trans x₂) (H.body (x₁.trans x₂) I₂ F₂ t₂) r₂
theorem flow_end {N : Prop} {QF : Flow → Shared → Prop} {fl₁ fl : Fl} {f : Flow} {l loc' : Loc} {st₁ st' : St} {x : SR}
  (h : (match fl₁ with | .next | .cont => x | .brk => some (.next, l, st₁) | .ret v => some (.ret v, l, st₁)) = some (fl, loc', st')) (r₂ : FlR Ω φ μ fl₁ f)
  (y : ExtF sc env φb μb hb φ μ s.heap) (I : Inv Ω φ μ st₁ s) (F : FrOk Ω φ μ s.heap env l) (t : 1 ≤ s.toks) (nxt : x = some (fl, loc', st') → N) (k : AnsF Ω sc env φb μb hb st' loc' fl QF) :
  match (generalizing := false) f with | .next | .cont => N | .brk => QF .next s | .ret v => QF (.ret v) s := by
 cases fl₁ with
 | next => obtain rfl : f = .next := r₂; exact nxt h
 | cont => obtain rfl : f = .cont := r₂; exact nxt h
 | brk => obtain rfl : f = .brk := r₂; exact (k.fin h) _ _ φ μ y I F t rfl
 | ret v => obtain ⟨V', rfl, r₃⟩ := r₂; exact (k.fin h) _ _ φ μ y I F t ⟨V', rfl, r₃⟩
inductive ItI (Ω : Wld) (rec : Rec) (target : Expr) (body : List Stmt) (sc : Scope) (env : Env) (φb : Phi) (μb : Mu) (hb : Heap) (it : Addr) (r : Fl × Loc × St) (φ₀ : Phi) (μ₀ : Mu) (vs : List MV) (Sx : Nat → Heap → Prop) (m : Nat) (s : Shared) : Prop
 | mk (i : Nat) (loc : Loc) (st : St) (φ : Phi) (μ : Mu) (hi : i ≤ vs.length) (hm : m = vs.length - i) (hφ : ∀ a o, φ₀ a = some o → φ a = some o) (hμ : ∀ a p, μ₀ a = some p → μ a = some p) (H : Hold Ω sc env φb μb hb it loc st φ μ s) (h : Sx i s.heap)
  (e : forItems (forStep Ω rec target body sc) (vs.drop i) loc st = some r) : ItI Ω rec target body sc env φb μb hb it r φ₀ μ₀ vs Sx m s
theorem forItems_run {target : Expr} {body : List Stmt} (HA : PA Ω rec n target) (HB : PSs Ω rec n body) {φ₀ : Phi} {μ₀ : Mu} {vs : List MV} {fp : List Addr} {P : Nat → Value → Prop} {St : Nat → Heap → Prop} {i : Nat} {fl : Fl} {R : Result → Shared → Prop} (Rm : Room n A) (hs : KindOk sc env)
  (W : Walked Ω φ₀ μ₀ it vs fp P St) (hφ : ∀ a o, φ₀ a = some o → φ a = some o) (hμ : ∀ a p, μ₀ a = some p → μ a = some p) (H : Hold Ω sc env φb μb hb it loc st φ μ s) (h : St i s.heap) (hi : i ≤ vs.length)
  (e : forItems (forStep Ω rec target body sc) (vs.drop i) loc st = some (fl, loc', st'))
  (k : AnsF Ω sc env φb μb hb st' loc' fl fun f s' => R (.ok f) s') :
  codeAny (model Ω.P Ω.w) A (.forLoop target (.ref it) body [] env) R s := by
 refine codeAny_forLoopT (ItI Ω rec target body sc env φb μb hb it (fl, loc', st') φ₀ μ₀ vs St) (fun m s E1 hI => ?_) (vs.length - i) ⟨i, loc, st, φ, μ, hi, rfl, hφ, hμ, H, h, e⟩
 obtain ⟨i, loc, st, φ, μ, hi, rfl, hφ, hμ, H, h, e⟩ := hI
 rcases Nat.lt_or_ge i vs.length with hlt | hge
 ·have hx : vs[i]? = some vs[i] := List.getElem?_eq_getElem hlt
  rw [List.drop_eq_getElem_cons hlt] at e
  obtain ⟨fl₁, l₁, st₁, h1, h2⟩ := sb_inv e
  refine hold_item Rm.hh W hφ hμ H h hx fun V s₁ r H₁ h₁ => ?_
  refine turn_body HA HB Rm hs H₁ (W.plain _ _ h₁) h1 r fun f s₂ φ₂ μ₂ x₂ H₂ r₂ => ?_
  have h₂ : St (i + 1) s₂.heap := (W.walks A Rm.hh).frame _ _ _ h₁ fun b hb => H₁.kept x₂ ((W.fp b hb).imp id fun ⟨o, q⟩ => ⟨o, hφ _ _ q⟩) H₂.I
  exact flow_end h2 r₂ H₂.x H₂.I H₂.F H₂.t (fun e => ⟨vs.length - (i + 1), by lia, i + 1, l₁, st₁, φ₂, μ₂, hlt, rfl, fun a o q => x₂.fro _ _ (hφ a o q), fun a p q => x₂.mu _ _ (hμ a p q), H₂, h₂, e⟩) k
 ·obtain rfl := Nat.le_antisymm hi hge
  rw [List.drop_length] at e
  exact hold_done Rm.hh W H h fun s' H' => (k.fin e) _ _ φ μ H'.x H'.I H'.F H'.t rfl
end
end Mine
namespace Mine
open PySem PySem.W PySem.Calls PyProof.Rows PySem.SeqAt
section
variable {Ω : Wld} {rec : Rec} {n : Nat} {sc : Scope} {env : Env} {φb : Phi} {μb : Mu} {hb : Heap} {it : Addr} {loc loc' : Loc} {st st' : St} {φ φ' : Phi} {μ μ' : Mu} {s s' : Shared} {E : Value → Shared → Prop} {A : Around}
theorem listIter_kept (H : Hold Ω sc env φb μb hb it loc st φ μ s) (x : ExtF sc env φ μ s.heap φ' μ' s'.heap) (I : Inv Ω φ' μ' st' s') {X : Addr} {i : Nat} (h : s.heap.IsListIter it X i) : s'.heap.IsListIter it X i := by
 obtain ⟨o, ho, r⟩ := h
 exact ⟨o, H.kept x (.inl rfl) I _ ho, r⟩
theorem listIter_plain {h : Heap} {X : Addr} {i : Nat} (x : h.IsListIter it X i) : Plainer h it := by
 obtain ⟨o, ho, hc, _⟩ := x
 exact ⟨o, _, ho, hc, by decide⟩
theorem ref_item {a : Ad} {X : Addr} {vs : List MV} {i : Nat} {x : MV} {Q : Option Value → Shared → Prop} (H : Hold Ω sc env φb μb hb it loc st φ μ s) (h : s.heap.IsListIter it X i) (hm : μ a = some (X, X)) (g : st.get a = some (.list vs)) (hx : vs[i]? = some x)
  (k : ∀ V s', VR Ω.ad φ μ x V → Hold Ω sc env φb μb hb it loc st φ μ s' → s'.heap.IsListIter it X (i + 1) → Q (some V) s') : wpAny (model Ω.P Ω.w) A (pyNext (.ref it)) Q E s := by
 obtain ⟨A', D', m', ⟨e, ws, c, hg, q⟩⟩ := H.I.own a _ g
 rw [hm] at m'
 cases m'
 obtain ⟨V, hV, rV⟩ := q.get hx
 refine wpAny_toks H.t (wpAny_pyNext_list_item h (isList_of hg) (x := V) (by rw [← Array.getElem?_toList]; exact hV) fun h' hit hs ht => ?_)
 exact k V _ rV (H.turn (tk := s.toks) (fun b o nb e => (hs.2 b nb).trans e) (Nat.le_of_eq hs.1.symm) ht) hit
theorem ref_done {a : Ad} {X : Addr} {vs : List MV} {i : Nat} {Q : Option Value → Shared → Prop} (hh : A.handled = none) (H : Hold Ω sc env φb μb hb it loc st φ μ s) (h : s.heap.IsListIter it X i) (hm : μ a = some (X, X)) (g : st.get a = some (.list vs)) (hx : vs[i]? = none)
  (k : ∀ s', Hold Ω sc env φb μb hb it loc st φ μ s' → Q none s') : wpAny (model Ω.P Ω.w) A (pyNext (.ref it)) Q E s := by
 obtain ⟨A', D', m', ⟨e, ws, c, hg, q⟩⟩ := H.I.own a _ g
 rw [hm] at m'
 cases m'
 have hlen := q.length
 rw [Array.length_toList] at hlen
 refine wpAny_toks H.t (wpAny_sizes (Nat.le_refl _) (wpAny_pyNext_list_end hh h (isList_of hg) ?_ fun h' hs hz ht => ?_))
 ·rw [Array.getElem?_eq_none_iff, hlen]
  exact List.getElem?_eq_none_iff.mp hx
 ·exact k _ (H.turn (tk := s.toks) (fun b o nb e => hs b o nb e) hz ht)
inductive RfI (Ω : Wld) (rec : Rec) (target : Expr) (body : List Stmt) (sc : Scope) (env : Env) (φb : Phi) (μb : Mu) (hb : Heap) (it : Addr) (r : Fl × Loc × St) (a : Ad) (X : Addr) (m : Nat) (s : Shared) : Prop
 | mk (i : Nat) (loc : Loc) (st : St) (φ : Phi) (μ : Mu) (hm : μ a = some (X, X)) (H : Hold Ω sc env φb μb hb it loc st φ μ s) (h : s.heap.IsListIter it X i) (e : forRef (forStep Ω rec target body sc) a m i loc st = some r) : RfI Ω rec target body sc env φb μb hb it r a X m s
theorem forRef_run {target : Expr} {body : List Stmt} (HA : PA Ω rec n target) (HB : PSs Ω rec n body) {a : Ad} {X : Addr} {fuel i : Nat} {fl : Fl} {R : Result → Shared → Prop} (Rm : Room n A) (hs : KindOk sc env)
  (hm : μ a = some (X, X)) (H : Hold Ω sc env φb μb hb it loc st φ μ s) (h : s.heap.IsListIter it X i)
  (e : forRef (forStep Ω rec target body sc) a fuel i loc st = some (fl, loc', st'))
  (k : AnsF Ω sc env φb μb hb st' loc' fl fun f s' => R (.ok f) s') :
  codeAny (model Ω.P Ω.w) A (.forLoop target (.ref it) body [] env) R s := by
 refine codeAny_forLoopT (RfI Ω rec target body sc env φb μb hb it (fl, loc', st') a X) (fun m s E1 hI => ?_) fuel ⟨i, loc, st, φ, μ, hm, H, h, e⟩
 obtain ⟨i, loc, st, φ, μ, hm, H, h, e⟩ := hI
 cases m with
 | zero => exact noK e
 | succ m =>
  refine atListK e fun vs g e => ?_
  generalize hx : vs[i]? = y at e
  cases y with
  | none => exact ref_done Rm.hh H h hm g hx fun s' H' => (k.fin e) _ _ φ μ H'.x H'.I H'.F H'.t rfl
  | some x =>
   obtain ⟨fl₁, l₁, st₁, h1, h2⟩ := sb_inv e
   refine ref_item H h hm g hx fun V s₁ r H₁ h₁ => ?_
   refine turn_body HA HB Rm hs H₁ (listIter_plain h₁) h1 r fun f s₂ φ₂ μ₂ x₂ H₂ r₂ => ?_
   exact flow_end h2 r₂ H₂.x H₂.I H₂.F H₂.t (fun e => ⟨m, Nat.lt_succ_self m, i + 1, l₁, st₁, φ₂, μ₂, x₂.mu _ _ hm, H₂, listIter_kept H₁ x₂ H₂.I h₁, e⟩) k
theorem Hold.start (I : Inv Ω φ μ st s) (F : FrOk Ω φ μ s.heap env loc) (t : 1 ≤ s.toks) (o : Obj) : Hold Ω sc env φ μ s.heap s.heap.objs.size loc st φ μ { s with heap := s.heap.push o } :=
 have x : Ext φ μ s.heap φ μ (s.heap.push o) := .push o
 ⟨x.f, I.push o s.toks, F.ext x, t, Nat.le_refl _, I.new_off (Nat.le_refl _), by show _ < (s.heap.push o).objs.size; rw [Heap.size_push]; exact Nat.lt_succ_self _,
  (Nat.ne_of_lt F.lt).symm, fun x c h => (Nat.ne_of_lt (F.offC x c h).2.2.2).symm⟩
theorem notSetIter {e : Expr} {sc : Scope} {loc : Loc} {st : St} {r : MV × St} (h : evE Ω.T Ω.pol rec e sc loc st = some r) (env : Env) (x : Value) : foldedSetIterable e env x = pure x := by
 cases e <;> first | rfl | exact noK h
theorem forSrc_or {step : MV → Loc → St → SR} {src : MV} {r : Fl × Loc × St} (h : forSrc step src loc st = some r) : (∃ a, src = .ref a ∧ forRef step a 1000 0 loc st = some r) ∨ (ob (fixedItems src) fun vs => forItems step vs loc st) = some r := by
 cases src <;> first | exact .inr h | exact .inl ⟨_, rfl, h⟩
theorem s_for {target iter : Expr} {body : List Stmt} {p : Pos} (HA : PA Ω rec n target) (HI : PE Ω rec n iter) (HB : PSs Ω rec n body) {src : MV} {st₁ : St} {fl : Fl} (h1 : evE Ω.T Ω.pol rec iter sc loc st = some (src, st₁))
  (h2 : forSrc (forStep Ω rec target body sc) src loc st₁ = some (fl, loc', st')) {QF : Flow → Shared → Prop} (R : Room n A) (hs : KindOk sc env) (I : Inv Ω φ μ st s) (F : FrOk Ω φ μ s.heap env loc) (ht : 1 ≤ s.toks)
  (k : AnsF Ω sc env φ μ s.heap st' loc' fl QF) : wpAny (model Ω.P Ω.w) A (exec (.For target iter body [] p) env) QF E s := by
 refine wpAny_For (HI h1 R hs I F ht fun V₁ s₁ φ₁ μ₁ x₁ I₁ t₁ r₁ => ?_) (notSetIter h1 env)
 have F₁ := F.ext x₁
 rcases forSrc_or h2 with ⟨a, rfl, h2⟩ | h2
 ·obtain ⟨vs, g⟩ : ∃ vs, st₁.get a = some (.list vs) := atListK h2 fun vs g _ => ⟨vs, g⟩
  obtain ⟨X, ws, c, rfl, hl, q, hm⟩ := asOwnList I₁ r₁ g
  refine wpAny_pyIter_list (isList_of hl) ?_
  refine forRef_run HA HB R hs hm (Hold.start I₁ F₁ t₁ _) ⟨_, Heap.get?_push_size _ rfl, rfl, rfl⟩ h2 fun f s' φ' μ' x J G t r => k f s' φ' μ' (x₁.f.trans x) J G t r
 ·revert h2
  refine obR fun vs h3 h4 => ?_
  refine iter_sound R.hh h3 I₁ r₁ fun o fp P St W h0 => ?_
  refine forItems_run HA HB R hs W (fun _ _ e => e) (fun _ _ e => e) (Hold.start I₁ F₁ t₁ o) h0 (Nat.zero_le _) h4 fun f s' φ' μ' x J G t r => k f s' φ' μ' (x₁.f.trans x) J G t r
inductive WhI (Ω : Wld) (rec : Rec) (test : Expr) (body : List Stmt) (sc : Scope) (env : Env) (φ : Phi) (μ : Mu) (s : Shared) (r : Fl × Loc × St) (m : Nat) (s₁ : Shared) : Prop
 | mk (loc : Loc) (st : St) (φ₁ : Phi) (μ₁ : Mu) (x : ExtF sc env φ μ s.heap φ₁ μ₁ s₁.heap) (I : Inv Ω φ₁ μ₁ st s₁) (F : FrOk Ω φ₁ μ₁ s₁.heap env loc) (t : 1 ≤ s₁.toks)
  (e : whileLoop (fun loc st => evT Ω.T Ω.pol rec test sc loc st) (fun loc st => evSs Ω.T Ω.pol rec body sc loc st) m loc st = some r) : WhI Ω rec test body sc env φ μ s r m s₁
theorem whileK {test : Loc → St → Option (Bool × St)} {body : Loc → St → SR} {m : Nat} {r : Fl × Loc × St} (h : whileLoop test body (m + 1) loc st = some r) :
  (∃ st₁, test loc st = some (false, st₁) ∧ some (.next, loc, st₁) = some r) ∨ ∃ st₁, test loc st = some (true, st₁) ∧ (sb (body loc st₁) fun fl loc st => match fl with
   | .next | .cont => whileLoop test body m loc st
   | .brk => some (.next, loc, st)
   | .ret v => some (.ret v, loc, st)) = some r := by
 revert h
 show (match test loc st with
  | none => Option.none
  | some (false, st) => some (.next, loc, st)
  | some (true, st) => sb (body loc st) fun fl loc st => match fl with
   | .next | .cont => whileLoop test body m loc st
   | .brk => some (.next, loc, st)
   | .ret v => some (.ret v, loc, st)) = some r → _
 generalize test loc st = x
 rcases x with _ | ⟨_ | _, st₁⟩
 ·exact fun h => noK h
 ·exact fun h => .inl ⟨_, rfl, h⟩
 ·exact fun h => .inr ⟨_, rfl, h⟩
theorem s_while {test : Expr} {body : List Stmt} {p : Pos} (HT : PT Ω rec n test) (HB : PSs Ω rec n body) {fl : Fl} (h : whileLoop (fun loc st => evT Ω.T Ω.pol rec test sc loc st) (fun loc st => evSs Ω.T Ω.pol rec body sc loc st) turns loc st = some (fl, loc', st'))
  {QF : Flow → Shared → Prop} (R : Room n A) (hs : KindOk sc env) (I : Inv Ω φ μ st s) (F : FrOk Ω φ μ s.heap env loc) (ht : 1 ≤ s.toks) (k : AnsF Ω sc env φ μ s.heap st' loc' fl QF) : wpAny (model Ω.P Ω.w) A (exec (.While test body [] p) env) QF E s := by
 refine wpAny_While ?_
 refine codeAny_whileLoop (WhI Ω rec test body sc env φ μ s (fl, loc', st')) (fun m s₁ hI => ?_) turns ⟨loc, st, φ, μ, .refl, I, F, ht, h⟩
 obtain ⟨loc, st, φ₁, μ₁, x₁, I₁, F₁, t₁, h⟩ := hI
 cases m with
 | zero => exact noK h
 | succ m =>
  rcases whileK h with ⟨st₁, h1, h⟩ | ⟨st₁, h1, h⟩
  ·refine HT h1 R hs I₁ F₁ t₁ fun s₂ φ₂ μ₂ x₂ I₂ t₂ => ?_
   rw [if_neg Bool.false_ne_true]
   exact wpAny_pure ((k.fin h) _ _ φ₂ μ₂ (x₁.trans x₂.f) I₂ (F₁.ext x₂) t₂ rfl)
  ·obtain ⟨fl₁, l₁, st₂, h2, h3⟩ := sb_inv h
   refine HT h1 R hs I₁ F₁ t₁ fun s₂ φ₂ μ₂ x₂ I₂ t₂ => ?_
   rw [if_pos rfl]
   refine HB h2 R hs I₂ (F₁.ext x₂) t₂ fun f s₃ φ₃ μ₃ x₃ I₃ F₃ t₃ r₃ => ?_
   exact flow_end h3 r₃ ((x₁.trans x₂.f).trans x₃) I₃ F₃ t₃ (fun e => ⟨m, Nat.lt_succ_self m, l₁, st₂, φ₃, μ₃, (x₁.trans x₂.f).trans x₃, I₃, F₃, t₃, e⟩) k
end
end Mine
namespace Mine
open PySem PySem.W PySem.Calls PyProof.Rows PySem.SeqAt
theorem nodupB_of : ∀ {l : List Str}, nodupB l = true → l.Nodup
 | [], _ => List.nodup_nil
 | x :: r, h => by
  replace h : (!(r.any fun y => decide (y = x)) && nodupB r) = true := h
  rw [Bool.and_eq_true, Bool.not_eq_true'] at h
  rw [List.nodup_cons]
  refine ⟨fun hm => ?_, nodupB_of h.2⟩
  have := List.any_eq_false.mp h.1 x hm
  simp at this
theorem lookup_of_mem {α : Type} : ∀ {l : List (Str × α)} {x : Str} {k : α}, (l.map (·.1)).Nodup → (x, k) ∈ l → l.lookup x = some k
 | [], _, _, _, h => by cases h
 | (y, j) :: r, x, k, hn, h => by
  rw [List.map_cons, List.nodup_cons] at hn
  rcases List.mem_cons.mp h with e | h
  ·cases e; simp [List.lookup_cons]
  ·have hm : x ∈ r.map (·.1) := List.mem_map.mpr ⟨(x, k), h, rfl⟩
   have hne : x ≠ y := fun e => hn.1 (e ▸ hm)
   rw [List.lookup_cons, beq_false_of_ne hne]
   exact lookup_of_mem hn.2 h
theorem lookKind_mem {sc : Scope} {x : Str} {k : NameKind} (h : lookKind sc x = some k) : (x, k) ∈ sc.names := by
 unfold lookKind at h
 rw [kindAt_eq] at h
 exact mem_of_lookup h
theorem lookKind_of {sc : Scope} (hn : (sc.names.map (·.1)).Nodup) {x : Str} {k : NameKind} (h : (x, k) ∈ sc.names) : lookKind sc x = some k := by
 unfold lookKind
 rw [kindAt_eq]
 exact lookup_of_mem hn h
theorem cellsFrom_other : ∀ (names : List (Str × NameKind)) (n : Nat) (acc : List (Str × Addr)) (x : Str), (x, NameKind.cell) ∉ names → (cellsFrom n names acc).lookup x = acc.lookup x
 | [], _, _, _, _ => rfl
 | (y, k) :: r, n, acc, x, h => by
  unfold cellsFrom
  have hr : (x, NameKind.cell) ∉ r := fun q => h (.tail _ q)
  split
  ·rename_i hk
   rw [cellsFrom_other r _ _ x hr]
   have hne : x ≠ y := fun e => h (by rw [e, ← (beq_iff_eq.mp hk)]; exact .head _)
   rw [List.lookup_cons, beq_false_of_ne hne]
  ·exact cellsFrom_other r _ _ x hr
noncomputable def addCell (x : Str) (c : Option Addr) (acc : List (Str × Addr)) : List (Str × Addr) := match c with
 | some c => (x, c) :: acc
 | none => acc
noncomputable def takeCells (env : Env) : List (Str × NameKind) → List (Str × Addr) → List (Str × Addr)
 | [], acc => acc
 | (x, k) :: r, acc => takeCells env r (if k == .free then addCell x (env.cells.lookup x) acc else acc)
theorem closure_go {env : Env} (f : Str × NameKind → List (Str × Addr) → Sem (ForInStep (List (Str × Addr))))
  (hf : ∀ x k acc, f (x, k) acc = if (k == NameKind.free) = true then (do let c ← cellOf env x; pure (.yield ((x, c) :: acc))) else pure (.yield acc)) :
  ∀ (names : List (Str × NameKind)) (acc : List (Str × Addr)), (∀ x, (x, NameKind.free) ∈ names → (env.cells.lookup x).isSome = true) → forIn names acc f = pure (takeCells env names acc)
 | [], acc, _ => by rw [List.forIn_nil]; rfl
 | (x, k) :: r, acc, h => by
  rw [List.forIn_cons, hf]
  show _ = pure (takeCells env r (if (k == NameKind.free) = true then _ else _))
  by_cases hk : (k == NameKind.free) = true
  ·rw [if_pos hk, if_pos hk]
   have hs := h x (by rw [← beq_iff_eq.mp hk]; exact .head _)
   obtain ⟨c, hc⟩ := Option.isSome_iff_exists.mp hs
   unfold cellOf
   rw [hc]
   show forIn r ((x, c) :: acc) f = _
   exact closure_go f hf r _ fun y hy => h y (.tail _ hy)
  ·rw [if_neg hk, if_neg hk]
   show forIn r acc f = _
   exact closure_go f hf r _ fun y hy => h y (.tail _ hy)
theorem closureFor_eq {scope : Scope} {env : Env} (h : ∀ x, (x, NameKind.free) ∈ scope.names → (env.cells.lookup x).isSome = true) : closureFor scope env = pure (takeCells env scope.names []) := by
 unfold closureFor
 dsimp only
 rw [closure_go _ (fun _ _ _ => rfl) scope.names [] h]
 rfl
theorem takeCells_mem {env : Env} : ∀ (names : List (Str × NameKind)) (acc : List (Str × Addr)) (x : Str) (c : Addr), (x, c) ∈ takeCells env names acc → (x, c) ∈ acc ∨ ((x, NameKind.free) ∈ names ∧ env.cells.lookup x = some c)
 | [], _, _, _, h => .inl h
 | (y, k) :: r, acc, x, c, h => by
  rcases takeCells_mem r _ x c h with q | q
  ·by_cases hk : (k == NameKind.free) = true
   ·rw [if_pos hk] at q
    cases hc : env.cells.lookup y with
    | none => rw [hc] at q; exact .inl q
    | some c' =>
     rw [hc] at q
     rcases List.mem_cons.mp q with e | q
     ·cases e; exact .inr ⟨by rw [beq_iff_eq.mp hk]; exact .head _, hc⟩
     ·exact .inl q
   ·rw [if_neg hk] at q; exact .inl q
  ·exact .inr ⟨.tail _ q.1, q.2⟩
theorem takeCells_lookup {env : Env} {x : Str} {c : Addr} (hc : env.cells.lookup x = some c) : ∀ (names : List (Str × NameKind)) (acc : List (Str × Addr)), ((x, NameKind.free) ∈ names ∨ acc.lookup x = some c) → (takeCells env names acc).lookup x = some c
 | [], acc, h => by
  rcases h with h | h
  ·first | exact noK h | exact ffK h | cases h
  ·exact h
 | (y, k) :: r, acc, h => by
  refine takeCells_lookup hc r _ ?_
  by_cases hk : (k == NameKind.free) = true
  ·rw [if_pos hk]
   by_cases hy : x = y
   ·subst hy
    rw [hc]
    exact .inr (by show List.lookup x ((x, c) :: acc) = _; rw [List.lookup_cons, beq_self_eq_true])
   ·refine h.imp (fun h => ?_) fun h => ?_
    ·rcases List.mem_cons.mp h with e | h
     ·cases e; exact absurd rfl hy
     ·exact h
    ·cases env.cells.lookup y with
     | none => exact h
     | some c' => show List.lookup x ((y, c') :: acc) = _; rw [List.lookup_cons, beq_false_of_ne hy]; exact h
  ·rw [if_neg hk]
   refine h.imp (fun h => ?_) id
   rcases List.mem_cons.mp h with e | h
   ·cases e; exact absurd rfl hk
   ·exact h
theorem pushCells_size : ∀ (names : List (Str × NameKind)) (h : Heap), h.objs.size ≤ (pushCells h names).objs.size
 | [], _ => Nat.le_refl _
 | (_, k) :: r, h => by
  unfold pushCells
  split
  ·exact Nat.le_trans (by rw [Heap.size_push]; exact Nat.le_succ _) (pushCells_size r _)
  ·exact pushCells_size r h
end Mine
namespace Mine
open PySem PySem.W PySem.Calls PyProof.Rows PySem.SeqAt
section
variable {Ω : Wld} {rec : Rec} {n : Nat} {sc : Scope} {env : Env} {φb : Phi} {μb : Mu} {hb : Heap} {it D : Addr} {loc loc' loc₀ : Loc} {st st' : St} {φ φ' : Phi} {μ μ' : Mu} {s s' : Shared} {E : Value → Shared → Prop} {A : Around} {b : Bool}
noncomputable def testF (env : Env) : Expr → Bool → Sem (ForInStep Bool) := fun c r => if r = true then do let ok ← isTrue c env (eval c env); pure (ForInStep.yield ok) else pure (ForInStep.yield r)
theorem tests_false {M : Model} {QB : Bool → Shared → Prop} (h : QB false s) : ∀ es : List Expr, wpAny M A (forIn es false (testF env)) QB E s
 | [] => wpAny_pure h
 | e :: es => by
  rw [List.forIn_cons]
  unfold testF
  rw [if_neg Bool.false_ne_true]
  exact wpAny_bind (wpAny_pure (tests_false h es))
noncomputable def PIf (Ω : Wld) (rec : Rec) (n : Nat) (sc : Scope) (env : Env) (A : Around) (es : List Expr) : Prop := ∀ {st : St} {b : Bool} {st' : St} {loc : Loc}, evIfs Ω.T Ω.pol rec es sc loc st = some (b, st') → ∀ {s : Shared} {φ : Phi} {μ : Mu} {QB : Bool → Shared → Prop} {E : Value → Shared → Prop},
  Room n A → KindOk sc env → Inv Ω φ μ st s → FrOk Ω φ μ s.heap env loc → 1 ≤ s.toks → AnsB Ω φ μ s.heap st' b QB → wpAny (model Ω.P Ω.w) A (forIn es true (testF env)) QB E s
theorem evIfs_sound {es : List Expr} (H : ∀ e ∈ es, PT Ω rec n e) : PIf Ω rec n sc env A es := by
 induction es with
 | nil =>
  intro st b st' loc h s φ μ QB E R hs I F ht k
  exact wpAny_pure ((k.fin h) _ φ μ .refl I ht)
 | cons e es ih =>
  intro st b st' loc h s φ μ QB E R hs I F ht k
  revert h
  refine pbR fun c st₁ h1 h => ?_
  rw [List.forIn_cons]
  unfold testF
  rw [if_pos rfl]
  refine wpAny_bind (wpAny_bind (H e (.head _) h1 R hs I F ht fun s₁ φ₁ μ₁ x₁ I₁ t₁ => wpAny_pure ?_))
  cases c
  ·exact tests_false ((k.fin h).after x₁ _ _ _ .refl I₁ t₁) es
  ·exact ih (fun e he => H e (.tail _ he)) h R hs I₁ (F.ext x₁) t₁ (k.after x₁)
theorem Hold.touch (H : Hold Ω sc env φb μb hb it loc st φ μ s) {h' : Heap} {tk : Nat} (hk : ∀ b o, b ≠ D → s.heap.get? b = some o → h'.get? b = some o) (hz : s.heap.objs.size ≤ h'.objs.size) (ht : 1 ≤ tk) (hD : hb.objs.size ≤ D) (off : φ D = none ∧ ¬ Own μ D)
  (ne : D ≠ env.locals ∧ ∀ x c, env.cells.lookup x = some c → D ≠ c) : Hold Ω sc env φb μb hb it loc st φ μ { s with heap := h', toks := tk } := by
 refine ⟨⟨H.x.fro, H.x.froN, H.x.mu, H.x.ownN, fun b o e n n1 n2 => ?_, Nat.le_trans H.x.size hz⟩, H.I.keep (fun b o e q => hk b o (fun z => ?_) e) hz, H.F.but hk hz ne.1 ne.2, ht, H.itb, H.off, Nat.lt_of_lt_of_le H.lt hz, H.ne⟩
 ·exact hk b o (Nat.ne_of_lt (Nat.lt_of_lt_of_le (Heap.lt_size e) hD)) (H.x.keep b o e n n1 n2)
 ·subst z
  rcases q with ⟨o, q⟩ | q
  ·rw [off.1] at q; cases q
  ·exact off.2 q
structure AccAt (Ω : Wld) (env : Env) (hb : Heap) (it D : Addr) (done : List MV) (φ : Phi) (μ : Mu) (h : Heap) : Prop where
 at_ : ∃ ws m, h.get? D = some ⟨.type "list", none, .seq ws m, #[]⟩ ∧ VRs Ω.ad φ μ done ws.toList
 hb : hb.objs.size ≤ D
 off : φ D = none ∧ ¬ Own μ D
 lt : D < h.objs.size
 ne : D ≠ env.locals ∧ ∀ x c, env.cells.lookup x = some c → D ≠ c
 it : D ≠ it
theorem AccAt.f (a : AccAt Ω env hb it D done φ μ s.heap) (x : ExtF sc env φ μ s.heap φ' μ' s'.heap) : AccAt Ω env hb it D done φ' μ' s'.heap := by
 obtain ⟨ws, m, hg, r⟩ := a.at_
 exact ⟨⟨ws, m, x.keep _ _ hg a.off.2 a.ne.1 (fun y c _ h => a.ne.2 y c h), r.mono x.fro x.mu⟩, a.hb, x.offA a.lt a.off, Nat.lt_of_lt_of_le a.lt x.size, a.ne, a.it⟩
noncomputable def FreeLoc (sc : Scope) (loc : Loc) : Prop := ∀ x v, getL x loc = some v → lookKind sc x = some .free
theorem FrOk.reset (hs : KindOk sc env) (hf : FreeLoc sc loc₀) (F₀ : FrOk Ω φ μ s.heap env loc₀) (x : ExtF sc env φ μ s.heap φ' μ' s'.heap) (F : FrOk Ω φ' μ' s'.heap env loc) : FrOk Ω φ' μ' s'.heap env loc₀ := by
 obtain ⟨m, hn, _⟩ := F.lo
 refine ⟨F.kind, F.gl, F.bu, ⟨m, hn, fun y v hk e => ?_⟩, fun y v hk e => ?_, F.has, F.offL, F.offC, F.dis⟩
 ·have := hs y _ (hf y v e)
  rw [hk] at this; cases this
 ·obtain ⟨c, V, h1, ⟨oc, h2, h3⟩, h4⟩ := F₀.cel y v hk e
  obtain ⟨a1, a2, a3, a4⟩ := F₀.offC y c h1
  refine ⟨c, V, h1, ⟨oc, x.keep _ _ h2 a2 a3 (fun z c' hz hc q => ?_), h3⟩, h4.mono x.fro x.mu⟩
  subst q
  have := F₀.dis y z c h1 hc
  subst this
  rw [hf y v e] at hz; cases hz
noncomputable def compStep (Ω : Wld) (rec : Rec) (tgt elt : Expr) (ifs : List Expr) (sc : Scope) (loc₀ : Loc) : MV → St → Option (Option MV × St) := fun x st =>
 lb (evA Ω.T Ω.pol rec tgt x sc loc₀ st) fun loc st => pb (evIfs Ω.T Ω.pol rec ifs sc loc st) fun ok st => if ok then pb (evE Ω.T Ω.pol rec elt sc loc st) fun v st => some (some v, st) else some (none, st)
noncomputable def more (r : Option MV) (rs : List MV) : List MV := match r with | some v => v :: rs | none => rs
noncomputable def moreR (done : List MV) : Option MV → List MV
 | some v => done ++ [v]
 | none => done
theorem comp_turn {tgt elt : Expr} {ifs : List Expr} (HA : PA Ω rec n tgt) (HT : ∀ e ∈ ifs, PT Ω rec n e) (HE : PE Ω rec n elt) {x : MV} {V : Value} {r : Option MV} {done : List MV} (R : Room n A) (hs : KindOk sc env) (hf : FreeLoc sc loc₀) (hd : done.length ≤ lim)
  (H : Hold Ω sc env φb μb hb it loc₀ st φ μ s) (a : AccAt Ω env hb it D done φ μ s.heap) (hp : Plainer s.heap it) (e : compStep Ω rec tgt elt ifs sc loc₀ x st = some (r, st')) (rx : VR Ω.ad φ μ x V) {QU : Shared → Prop}
  (k : ∀ s' φ' μ', (∀ b, (b = it ∨ ∃ o, φ b = some o) → ∀ o, s.heap.get? b = some o → s'.heap.get? b = some o) → (∀ a o, φ a = some o → φ' a = some o) → (∀ a p, μ a = some p → μ' a = some p) → Hold Ω sc env φb μb hb it loc₀ st' φ' μ' s' → AccAt Ω env hb it D (moreR done r) φ' μ' s'.heap → QU s') :
  wpAny (model Ω.P Ω.w) A (letOwnedTupleGo tgt (.ref it) V) (fun _ s₁ => wpAny (model Ω.P Ω.w) A (assign tgt env V) (fun _ s₂ => wpAny (model Ω.P Ω.w) A (forIn ifs true (testF env)) (fun ok s₃ =>
   if ok = true then wpAny (model Ω.P Ω.w) A (eval elt env) (fun W s₄ => wpAny (model Ω.P Ω.w) A (call (.builtin "list.append") [.ref D, W]) (fun _ s₅ => QU s₅) E s₄) E s₃ else QU s₃) E s₂) E s₁) E s := by
 obtain ⟨l, st₁, h1, h2⟩ := lb_inv e
 revert h2
 refine pbR fun ok st₂ h3 h4 => ?_
 refine letOwned hp (HA h1 R hs H.I H.F H.t rx fun s₁ φ₁ μ₁ x₁ I₁ F₁ t₁ => evIfs_sound HT h3 R hs I₁ F₁ t₁ fun s₂ φ₂ μ₂ x₂ I₂ t₂ => ?_)
 have y₂ := x₁.trans x₂.f
 have F₂ := F₁.ext x₂
 cases ok with
 | false =>
  obtain ⟨rfl, rfl⟩ := Prod.mk.inj (Option.some.inj h4)
  rw [if_neg Bool.false_ne_true]
  exact k _ φ₂ μ₂ (fun b hb => H.kept y₂ hb I₂) y₂.fro y₂.mu (H.body y₂ I₂ (FrOk.reset hs hf H.F y₂ F₂) t₂) (a.f y₂)
 | true =>
  revert h4
  refine pbR fun v st₃ h5 h6 => ?_
  obtain ⟨rfl, rfl⟩ := Prod.mk.inj (Option.some.inj h6)
  rw [if_pos rfl]
  refine HE h5 R hs I₂ F₂ t₂ fun W s₃ φ₃ μ₃ x₃ I₃ t₃ r₃ => ?_
  have y₃ := y₂.trans x₃.f
  have H₃ := H.body y₃ I₃ (FrOk.reset hs hf H.F y₃ (F₂.ext x₃)) t₃
  have a₃ := a.f y₃
  obtain ⟨ws, m, hg, q⟩ := a₃.at_
  have hlen := q.length
  rw [Array.length_toList] at hlen
  have hll : lim = 100000 := rfl
  have hsl : sizeLine = 16777216 := sizeLine_eq
  refine wpAny_toks t₃ (call_meets PySem.F.slot_list_append ⟨_, hg, rfl⟩ PySem.F.entry_list_append (PySem.F.args_list_append_2 _ _) (list_append D ws m W (by lia)) ⟨hg, fun t₄ => ?_⟩)
  have sb : Heap.SameBut D s₃.heap (s₃.heap.update D (Obj.mapSeq fun x => x.push W)) := Heap.SameBut.update ..
  refine k _ φ₃ μ₃ (fun b hb o e => ?_) y₃.fro y₃.mu (H₃.touch (tk := s₃.toks) (fun b o nb e => (sb.2 b nb).trans e) (Nat.le_of_eq sb.1.symm) t₄ a₃.hb a₃.off a₃.ne) ⟨⟨_, _, Heap.get?_update_self _ hg rfl, ?_⟩, a₃.hb, a₃.off, sb.1 ▸ a₃.lt, a₃.ne, a₃.it⟩
  ·refine (sb.2 b fun z => ?_).trans (H.kept y₃ hb I₃ o e)
   subst z
   rcases hb with z | ⟨o', z⟩
   ·exact a.it z
   ·rw [a.off.1] at z; cases z
  ·show VRs Ω.ad φ₃ μ₃ (done ++ [v]) (ws.push W).toList
   rw [Array.toList_push]
   exact q.append ⟨W, [], rfl, r₃, rfl⟩
end
end Mine
namespace Mine
open PySem PySem.W PySem.Calls PyProof.Rows PySem.SeqAt
section
variable {Ω : Wld} {rec : Rec} {n : Nat} {sc : Scope} {env : Env} {φb : Phi} {μb : Mu} {hb : Heap} {it D : Addr} {loc loc' loc₀ : Loc} {st st' : St} {φ φ' : Phi} {μ μ' : Mu} {s s' : Shared} {E : Value → Shared → Prop} {A : Around} {b : Bool}
theorem codeAny_compLoopT {prog : Program} {w : World} {R : Result → Shared → Prop} {elt target iter : Expr} {ifs : List Expr} {scope : Scope} {pos : Pos} {it acc : Value} {env : Env} (I : Nat → Shared → Prop)
  (turn : ∀ n s (E1 : Value → Shared → Prop), I n s → wpAny (model prog w) A (pyNext it) (fun r s₁ => match r with
   | none => R (.ok .next) s₁
   | some v => wpAny (model prog w) A (letOwnedTupleGo target it v) (fun _ s₁ => wpAny (model prog w) A (assign target env v) (fun _ s₂ => wpAny (model prog w) A (forIn ifs true (testF env)) (fun ok s₃ =>
      if ok = true then wpAny (model prog w) A (eval elt env) (fun x s₄ => wpAny (model prog w) A (call (.builtin "list.append") [acc, x]) (fun _ s₅ => ∃ m, m < n ∧ I m s₅) E1 s₄) E1 s₃
      else ∃ m, m < n ∧ I m s₃) E1 s₂) E1 s₁) E1 s₁) E1 s)
  (n : Nat) (h : I n s) : codeAny (model prog w) A (.compLoop (.ListComp elt [⟨target, iter, ifs, 0⟩] scope pos) 0 it acc env) R s := by
 refine codeAny_loop rfl I (fun n s hI => ?_) n h
 show wpAny _ A ((compTurn (.ListComp elt [⟨target, iter, ifs, 0⟩] scope pos) 0 it acc env).onRaise (fun x => do noteFrame x env; theTreesLotGoes x)) _ _ s
 refine wpAny_noted ?_
 rw [compTurn_list]
 refine wpAny_bind (wpAny_standAt (wpAny_bind (wpAny_mono (turn n s (notedBy (model prog w) A env fun e s' => R (.error e) s') hI) (fun r s₁ h₁ => ?_) fun _ _ h' => h')))
 cases r with
 | none => exact wpAny_pure h₁
 | some v =>
  refine wpAny_bind (wpAny_mono h₁ (fun _ s₁' h₁ => ?_) fun _ _ h' => h')
  refine wpAny_bind (wpAny_mono h₁ (fun _ s₂ h₂ => wpAny_bind (wpAny_mono h₂ (fun ok s₃ h₃ => ?_) fun _ _ h' => h')) fun _ _ h' => h')
  cases ok with
  | false => exact wpAny_pure ⟨rfl, h₃⟩
  | true =>
   rw [if_pos rfl] at h₃
   exact wpAny_bind (wpAny_bind (wpAny_mono h₃ (fun x s₄ h₄ => wpAny_bind (wpAny_mono h₄ (fun _ s₅ h₅ => wpAny_pure (wpAny_pure ⟨rfl, h₅⟩)) fun _ _ h' => h')) fun _ _ h' => h'))
theorem more_eq (done : List MV) (r : Option MV) (rs : List MV) : moreR done r ++ rs = done ++ more r rs := by
 cases r with
 | none => rfl
 | some v => exact List.append_assoc done [v] rs
noncomputable def CompEnd (Ω : Wld) (sc : Scope) (env : Env) (φb : Phi) (μb : Mu) (hb : Heap) (it D : Addr) (loc₀ : Loc) (st' : St) (vs : List MV) (R : Result → Shared → Prop) : Prop :=
 ∀ s' φ' μ', Hold Ω sc env φb μb hb it loc₀ st' φ' μ' s' → AccAt Ω env hb it D vs φ' μ' s'.heap → R (.ok .next) s'
inductive CiI (Ω : Wld) (rec : Rec) (tgt elt : Expr) (ifs : List Expr) (sc : Scope) (env : Env) (φb : Phi) (μb : Mu) (hb : Heap) (it D : Addr) (loc₀ : Loc) (st' : St) (R : Result → Shared → Prop) (φ₀ : Phi) (μ₀ : Mu) (vs : List MV) (Sx : Nat → Heap → Prop) (m : Nat) (s : Shared) : Prop
 | mk (i : Nat) (st : St) (φ : Phi) (μ : Mu) (done rs : List MV) (hi : i ≤ vs.length) (hm : m = vs.length - i) (hφ : ∀ a o, φ₀ a = some o → φ a = some o) (hμ : ∀ a p, μ₀ a = some p → μ a = some p) (H : Hold Ω sc env φb μb hb it loc₀ st φ μ s) (a : AccAt Ω env hb it D done φ μ s.heap) (h : Sx i s.heap)
  (e : compItems (compStep Ω rec tgt elt ifs sc loc₀) (vs.drop i) st = some (rs, st')) (hl : (done ++ rs).length ≤ lim) (k : CompEnd Ω sc env φb μb hb it D loc₀ st' (done ++ rs) R) : CiI Ω rec tgt elt ifs sc env φb μb hb it D loc₀ st' R φ₀ μ₀ vs Sx m s
inductive CrI (Ω : Wld) (rec : Rec) (tgt elt : Expr) (ifs : List Expr) (sc : Scope) (env : Env) (φb : Phi) (μb : Mu) (hb : Heap) (it D : Addr) (loc₀ : Loc) (st' : St) (R : Result → Shared → Prop) (al : Ad) (X : Addr) (m : Nat) (s : Shared) : Prop
 | mk (i : Nat) (st : St) (φ : Phi) (μ : Mu) (done rs : List MV) (hm : μ al = some (X, X)) (H : Hold Ω sc env φb μb hb it loc₀ st φ μ s) (a : AccAt Ω env hb it D done φ μ s.heap) (h : s.heap.IsListIter it X i)
  (e : compRef (compStep Ω rec tgt elt ifs sc loc₀) al m i st = some (rs, st')) (hl : (done ++ rs).length ≤ lim) (k : CompEnd Ω sc env φb μb hb it D loc₀ st' (done ++ rs) R) : CrI Ω rec tgt elt ifs sc env φb μb hb it D loc₀ st' R al X m s
theorem AccAt.turn {done : List MV} {h' : Heap} (a : AccAt Ω env hb it D done φ μ s.heap) (hk : ∀ b o, b ≠ it → s.heap.get? b = some o → h'.get? b = some o) (hz : s.heap.objs.size ≤ h'.objs.size) : AccAt Ω env hb it D done φ μ h' :=
 ⟨let ⟨ws, m, hg, q⟩ := a.at_; ⟨ws, m, hk _ _ a.it hg, q⟩, a.hb, a.off, Nat.lt_of_lt_of_le a.lt hz, a.ne, a.it⟩
theorem comp_e {x : Option (Option MV × St)} {f : St → Option (List MV × St)} {P : List MV → Prop} {Z : Prop} {done rs : List MV} (e : (pb x fun r st => pb (f st) fun rs st => some ((match r with | some v => v :: rs | none => rs), st)) = some (rs, st')) (h : P (done ++ rs))
  (k : ∀ r st₁ rs', x = some (r, st₁) → f st₁ = some (rs', st') → P (moreR done r ++ rs') → Z) : Z :=
 pbK e fun r st₁ h1 h2 => pbK h2 fun rs' st₂ h3 h4 => k r st₁ rs' h1 (h3.trans (congrArg (fun q : List MV × St => some (rs', q.2)) (Option.some.inj h4))) (by rw [more_eq]; exact (show more r rs' = rs from congrArg Prod.fst (Option.some.inj h4)).symm ▸ h)
theorem comp_fin {done rs : List MV} {R : Result → Shared → Prop} (e : some (([] : List MV), st) = some (rs, st')) (k : CompEnd Ω sc env φb μb hb it D loc₀ st' (done ++ rs) R) (H : Hold Ω sc env φb μb hb it loc₀ st φ μ s) (a : AccAt Ω env hb it D done φ μ s.heap) : R (.ok .next) s := by
 cases e
 exact k _ φ μ H ((List.append_nil done).symm ▸ a)
theorem compItems_run {tgt elt iter : Expr} {ifs : List Expr} {scope : Scope} {pos : Pos} (HA : PA Ω rec n tgt) (HT : ∀ e ∈ ifs, PT Ω rec n e) (HE : PE Ω rec n elt) {φ₀ : Phi} {μ₀ : Mu} {vs done rs : List MV} {fp : List Addr} {P : Nat → Value → Prop} {St : Nat → Heap → Prop} {i : Nat} {R : Result → Shared → Prop}
  (Rm : Room n A) (hs : KindOk sc env) (hf : FreeLoc sc loc₀) (W : Walked Ω φ₀ μ₀ it vs fp P St) (hφ : ∀ a o, φ₀ a = some o → φ a = some o) (hμ : ∀ a p, μ₀ a = some p → μ a = some p) (H : Hold Ω sc env φb μb hb it loc₀ st φ μ s) (a : AccAt Ω env hb it D done φ μ s.heap) (h : St i s.heap) (hi : i ≤ vs.length)
  (e : compItems (compStep Ω rec tgt elt ifs sc loc₀) (vs.drop i) st = some (rs, st')) (hl : (done ++ rs).length ≤ lim) (k : CompEnd Ω sc env φb μb hb it D loc₀ st' (done ++ rs) R) :
  codeAny (model Ω.P Ω.w) A (.compLoop (.ListComp elt [⟨tgt, iter, ifs, 0⟩] scope pos) 0 (.ref it) (.ref D) env) R s := by
 refine codeAny_compLoopT (CiI Ω rec tgt elt ifs sc env φb μb hb it D loc₀ st' R φ₀ μ₀ vs St) (fun m s E1 hI => ?_) (vs.length - i) ⟨i, st, φ, μ, done, rs, hi, rfl, hφ, hμ, H, a, h, e, hl, k⟩
 obtain ⟨i, st, φ, μ, done, rs, hi, rfl, hφ, hμ, H, a, h, e, hl, k⟩ := hI
 rcases Nat.lt_or_ge i vs.length with hlt | hge
 ·have hx : vs[i]? = some vs[i] := List.getElem?_eq_getElem hlt
  rw [List.drop_eq_getElem_cons hlt] at e
  have hdl : done.length ≤ lim := Nat.le_trans (Nat.le_add_right _ _) (List.length_append ▸ hl)
  refine comp_e (P := fun l => l.length ≤ lim ∧ CompEnd Ω sc env φb μb hb it D loc₀ st' l R) e ⟨hl, k⟩ fun r st₁ rs' h1 h3 kl => ?_
  refine wpAny_toks H.t (wpAny_sizes (Nat.le_refl _) ((W.walks A Rm.hh).item i s _ E1 hlt h fun v h' tk hp hst hk hz ht => ?_))
  obtain ⟨m, hm, rv⟩ := W.item i v hp
  rw [hx] at hm
  cases hm
  have hkk : ∀ b o, b ≠ it → s.heap.get? b = some o → h'.get? b = some o := fun b o e => hk b o (fun q => e (List.mem_singleton.mp q))
  refine comp_turn HA HT HE Rm hs hf hdl (H.turn (tk := tk) hkk hz ht) (a.turn hkk hz) (W.plain _ _ hst) h1 (rv.mono hφ hμ) fun s₂ φ₂ μ₂ kept fφ fμ H₂ a₂ => ?_
  have h₂ : St (i + 1) s₂.heap := (W.walks A Rm.hh).frame _ _ _ hst fun b hb => kept b ((W.fp b hb).imp id fun ⟨o, q⟩ => ⟨o, hφ _ _ q⟩)
  exact ⟨vs.length - (i + 1), by lia, i + 1, st₁, φ₂, μ₂, moreR done r, rs', hlt, rfl, fun a o q => fφ _ _ (hφ a o q), fun a p q => fμ _ _ (hμ a p q), H₂, a₂, h₂, h3, kl.1, kl.2⟩
 ·obtain rfl := Nat.le_antisymm hi hge
  rw [List.drop_length] at e
  refine wpAny_toks H.t (wpAny_sizes (Nat.le_refl _) ((W.walks A Rm.hh).done s _ E1 h fun h' tk hk hz ht => ?_))
  exact comp_fin e k (H.turn (tk := tk) (fun b o e => hk b o (fun q => e (List.mem_singleton.mp q))) hz ht) (a.turn (fun b o e => hk b o (fun q => e (List.mem_singleton.mp q))) hz)
theorem compRef_run {tgt elt iter : Expr} {ifs : List Expr} {scope : Scope} {pos : Pos} (HA : PA Ω rec n tgt) (HT : ∀ e ∈ ifs, PT Ω rec n e) (HE : PE Ω rec n elt) {al : Ad} {X : Addr} {done rs : List MV} {fuel i : Nat} {R : Result → Shared → Prop}
  (Rm : Room n A) (hs : KindOk sc env) (hf : FreeLoc sc loc₀) (hm : μ al = some (X, X)) (H : Hold Ω sc env φb μb hb it loc₀ st φ μ s) (a : AccAt Ω env hb it D done φ μ s.heap) (h : s.heap.IsListIter it X i)
  (e : compRef (compStep Ω rec tgt elt ifs sc loc₀) al fuel i st = some (rs, st')) (hl : (done ++ rs).length ≤ lim) (k : CompEnd Ω sc env φb μb hb it D loc₀ st' (done ++ rs) R) :
  codeAny (model Ω.P Ω.w) A (.compLoop (.ListComp elt [⟨tgt, iter, ifs, 0⟩] scope pos) 0 (.ref it) (.ref D) env) R s := by
 refine codeAny_compLoopT (CrI Ω rec tgt elt ifs sc env φb μb hb it D loc₀ st' R al X) (fun m s E1 hI => ?_) fuel ⟨i, st, φ, μ, done, rs, hm, H, a, h, e, hl, k⟩
 obtain ⟨i, st, φ, μ, done, rs, hm, H, a, h, e, hl, k⟩ := hI
 cases m with
 | zero => exact noK e
 | succ m =>
  refine atListK e fun vs g e => ?_
  obtain ⟨A', D', m', ⟨eq, ws, c, hg, q⟩⟩ := H.I.own al _ g
  cases Option.some.inj (hm.symm.trans m')
  generalize hx : vs[i]? = y at e
  cases y with
  | none =>
   refine wpAny_toks H.t (wpAny_sizes (Nat.le_refl _) (wpAny_pyNext_list_end Rm.hh h (isList_of hg) ?_ fun h' hsb hz ht => ?_))
   ·rw [Array.getElem?_eq_none_iff, ← Array.length_toList, q.length]
    exact List.getElem?_eq_none_iff.mp hx
   ·exact comp_fin e k (H.turn (tk := s.toks) (fun b o nb e => hsb b o nb e) hz ht) (a.turn (fun b o nb e => hsb b o nb e) hz)
  | some x =>
   have hdl : done.length ≤ lim := Nat.le_trans (Nat.le_add_right _ _) (List.length_append ▸ hl)
   refine comp_e (P := fun l => l.length ≤ lim ∧ CompEnd Ω sc env φb μb hb it D loc₀ st' l R) e ⟨hl, k⟩ fun r st₁ rs' h1 h3 kl => ?_
   obtain ⟨V, hV, rV⟩ := q.get hx
   refine wpAny_toks H.t (wpAny_pyNext_list_item h (isList_of hg) (x := V) (by rw [← Array.getElem?_toList]; exact hV) fun h' hit hsb ht => ?_)
   have hkk : ∀ b o, b ≠ it → s.heap.get? b = some o → h'.get? b = some o := fun b o nb e => (hsb.2 b nb).trans e
   refine comp_turn HA HT HE Rm hs hf hdl (H.turn (tk := s.toks) hkk (Nat.le_of_eq hsb.1.symm) ht) (a.turn hkk (Nat.le_of_eq hsb.1.symm)) (listIter_plain hit) h1 rV fun s₂ φ₂ μ₂ kept fφ fμ H₂ a₂ => ?_
   have h₂ : s₂.heap.IsListIter it X (i + 1) := let ⟨o, ho, r⟩ := hit; ⟨o, kept it (.inl rfl) o ho, r⟩
   exact ⟨m, Nat.lt_succ_self m, i + 1, st₁, φ₂, μ₂, moreR done r, rs', fμ _ _ hm, H₂, a₂, h₂, h3, kl.1, kl.2⟩
end
end Mine
namespace Mine
open PySem PySem.W PySem.Calls PyProof.Rows PySem.SeqAt
theorem cellsFrom_append : ∀ (names : List (Str × NameKind)) (n : Nat) (acc : List (Str × Addr)), cellsFrom n names acc = cellsFrom n names [] ++ acc
 | [], _, _ => rfl
 | (x, k) :: r, n, acc => by
  unfold cellsFrom
  split
  ·rw [cellsFrom_append r (n + 1) ((x, n) :: acc), cellsFrom_append r (n + 1) [(x, n)], List.append_assoc]; rfl
  ·exact cellsFrom_append r n acc
theorem cellsFrom_kind : ∀ (names : List (Str × NameKind)) (n : Nat) (acc : List (Str × Addr)) (x : Str) (c : Addr), (x, c) ∈ cellsFrom n names acc → (x, NameKind.cell) ∈ names ∨ (x, c) ∈ acc
 | [], _, _, _, _, h => .inr h
 | (y, k) :: r, n, acc, x, c, h => by
  unfold cellsFrom at h
  split at h
  ·rename_i hk
   rcases cellsFrom_kind r _ _ x c h with q | q
   ·exact .inl (.tail _ q)
   ·rcases List.mem_cons.mp q with e | q
    ·cases e; left; rw [← beq_iff_eq.mp hk]; exact .head _
    ·exact .inr q
  ·rcases cellsFrom_kind r _ _ x c h with q | q
   ·exact .inl (.tail _ q)
   ·exact .inr q
theorem cellsFrom_get : ∀ (names : List (Str × NameKind)) (n : Nat) (acc : List (Str × Addr)) (x : Str), (x, NameKind.cell) ∈ names ∨ (acc.lookup x).isSome = true → ((cellsFrom n names acc).lookup x).isSome = true
 | [], _, _, _, h => by
  rcases h with h | h
  ·first | exact noK h | exact ffK h | cases h
  ·exact h
 | (y, k) :: r, n, acc, x, h => by
  unfold cellsFrom
  have step : ∀ acc', (((x, NameKind.cell) ∈ r) ∨ (acc'.lookup x).isSome = true) → ∀ n, ((cellsFrom n r acc').lookup x).isSome = true := fun acc' h n => cellsFrom_get r n acc' x h
  split
  ·rename_i hk
   refine step _ ?_ _
   by_cases hy : x = y
   ·subst hy; right; simp [List.lookup_cons]
   ·rcases h with h | h
    ·rcases List.mem_cons.mp h with e | h
     ·cases e; exact absurd rfl hy
     ·exact .inl h
    ·right; rw [List.lookup_cons, beq_false_of_ne hy]; exact h
  ·rename_i hk
   refine step _ ?_ _
   rcases h with h | h
   ·rcases List.mem_cons.mp h with e | h
    ·cases e; exact absurd rfl hk
    ·exact .inl h
   ·exact .inr h
theorem relabel_lookup {sc : Scope} {env : Env} (hk : env.scope.kind = .function) : ∀ (names : List (Str × NameKind)) (x : Str),
  (names.map fun (n, k) => if (k == NameKind.free && env.scope.kind == .function && env.kindOf n == some .cell) then (n, NameKind.cell) else (n, k)).lookup x = (names.lookup x).map fun k => if k = .free ∧ env.kindOf x = some .cell then .cell else k
 | [], _ => rfl
 | (y, k) :: r, x => by
  rw [List.map_cons]
  have hh : (if (k == NameKind.free && env.scope.kind == .function && env.kindOf y == some .cell) = true then (y, NameKind.cell) else (y, k)) = (y, if k = .free ∧ env.kindOf y = some .cell then .cell else k) := by
   by_cases h1 : k = .free
   ·by_cases h2 : env.kindOf y = some .cell
    ·simp [h1, h2, hk]
    ·simp [h1, h2]
   ·simp [h1]
  show List.lookup x ((if (k == NameKind.free && env.scope.kind == .function && env.kindOf y == some .cell) = true then (y, NameKind.cell) else (y, k)) :: _) = _
  rw [hh, List.lookup_cons, List.lookup_cons]
  cases hxy : x == y with
  | true => have := beq_iff_eq.mp hxy; subst this; rfl
  | false => exact relabel_lookup (sc := sc) hk r x
section
variable {Ω : Wld} {rec : Rec} {n : Nat} {sc sc' : Scope} {env : Env} {loc loc' loc₀ : Loc} {st st' : St} {φ φ' : Phi} {μ μ' : Mu} {s s' : Shared} {E : Value → Shared → Prop} {A : Around}
theorem newEnv_comp {M : Model} {cl : List (Str × Addr)} {globals : Addr} {qual : Str} {builtins : Addr} {Q : Env → Shared → Prop}
  (hQ : Q (newEnv sc' s.heap.objs.size globals (cellsFrom (s.heap.objs.size + 1) sc'.names cl) qual none .none (some env) builtins) { s with heap := pushCells (s.heap.push { cls := .type "dict", data := .dict #[] }) sc'.names }) :
  wpAny M A (newFunctionEnv sc' globals cl [] qual none .none (some env) builtins) Q E s := by
 simp only [newFunctionEnv, Option.isSome_some, if_true]
 refine wpAny_bind (wpAny_alloc ?_)
 refine wpAny_bind (wpAny_layCells _ (fun name kind cells => by cases hkc : kind == NameKind.cell <;> simp [hkc]) _ _ _ _ ?_)
 rw [show ({ s with heap := s.heap.push { cls := .type "dict", data := .dict #[] } } : Shared).heap.objs.size = s.heap.objs.size + 1 from Heap.size_push ..]
 refine wpAny_bind ?_
 rw [List.forIn_nil]
 exact wpAny_pure (wpAny_pure hQ)
theorem getL_compLoc {x : Str} {v : MV} : ∀ {loc : Loc}, getL x (compLoc sc' loc) = some v → lookKind sc' x = some .free ∧ getL x loc = some v
 | [], h => by cases h
 | (y, o) :: r, h => by
  by_cases hy : lookKind sc' y = some .free
  ·replace h : (if y = x then o else getL x (compLoc sc' r)) = some v := (congrArg (getL x) (if_pos hy)).symm.trans h
   show _ ∧ (if y = x then o else getL x r) = some v
   by_cases e : y = x
   ·subst e; rw [if_pos rfl] at h ⊢; exact ⟨hy, h⟩
   ·rw [if_neg e] at h ⊢; exact getL_compLoc h
  ·obtain ⟨h1, h2⟩ := getL_compLoc ((congrArg (getL x) (if_neg hy)).symm.trans h)
   exact ⟨h1, (if_neg (fun (e : y = x) => hy (e ▸ h1))).trans h2⟩
theorem compOk_of (h : compOk sc' sc = true) : sc'.kind = .function ∧ (sc'.names.map (·.1)).Nodup ∧ ∀ x, lookKind sc' x = some .free → lookKind sc x = some .cell ∨ lookKind sc x = some .free := by
 unfold compOk at h
 rw [Bool.and_eq_true, Bool.and_eq_true, decide_eq_true_eq] at h
 refine ⟨h.1.1, nodupB_of h.1.2, fun x hx => ?_⟩
 have := List.all_eq_true.mp h.2 _ (lookKind_mem hx)
 simpa using this
theorem comp_frame (hc : compOk sc' sc = true) (hs : KindOk sc env) (I : Inv Ω φ μ st s) (F : FrOk Ω φ μ s.heap env loc) {h₄ : Heap} {C : Addr} {q : Str} {b : Addr} (hC : s.heap.objs.size ≤ C) {h₃ : Heap} (hh₃ : h₃.objs.size = C) (hk₃ : ∀ b o, s.heap.get? b = some o → h₃.get? b = some o)
  (hh : h₄ = pushCells (h₃.push { cls := .type "dict", data := .dict #[] }) sc'.names) {cenv : Env} (he : cenv = { newEnv sc' C env.globals (cellsFrom (C + 1) sc'.names (takeCells env sc'.names [])) q none .none (some env) b with scope := relabel sc' env }) :
  KindOk sc' cenv ∧ FrOk Ω φ μ h₄ cenv (compLoc sc' loc) ∧ (∀ x c, cenv.cells.lookup x = some c → (C < c ∧ c < h₄.objs.size) ∨ (lookKind sc' x = some .free ∧ c < s.heap.objs.size)) := by
 obtain ⟨hfun, hnd, hfree⟩ := compOk_of hc
 have hloc : cenv.locals = C := by rw [he]; rfl
 have hcells : cenv.cells = cellsFrom (C + 1) sc'.names [] ++ takeCells env sc'.names [] := by rw [he]; exact cellsFrom_append _ _ _
 have hkinds : ∀ x, cenv.kindOf x = (lookKind sc' x).map fun k => if k = .free ∧ env.kindOf x = some .cell then .cell else k := fun x => by
  have e1 : cenv.kindOf x = (relabel sc' env).names.lookup x := by rw [he]; rfl
  rw [e1]
  unfold lookKind
  rw [kindAt_eq]
  exact relabel_lookup (sc := sc') F.kind _ x
 have hfc : ∀ x, lookKind sc' x = some .free → env.kindOf x = some .cell := fun x hx => by
  rcases hfree x hx with h | h
  ·exact hs x _ h
  ·exact hs x _ h
 have ok := cellsFrom_ok sc'.names (h₃.push { cls := .type "dict", data := .dict #[] }) (C + 1) [] ⟨fun _ _ hm => (nomatch hm), List.Pairwise.nil⟩ (by rw [Heap.size_push, hh₃]; exact Nat.le_refl _)
 rw [Heap.size_push, hh₃, ← hh] at ok
 have hk₄ : ∀ b o, s.heap.get? b = some o → h₄.get? b = some o := fun b o e => by rw [hh]; exact pushCells_keeps _ _ b o (Heap.get?_push_of_some _ (hk₃ b o e))
 have split : ∀ x c, cenv.cells.lookup x = some c → ((x, c) ∈ cellsFrom (C + 1) sc'.names [] ∧ lookKind sc' x = some .cell) ∨ (lookKind sc' x = some .free ∧ env.cells.lookup x = some c) := fun x c h => by
  rw [hcells] at h
  rcases List.mem_append.mp (mem_of_lookup h) with q | q
  ·rcases cellsFrom_kind _ _ _ _ _ q with z | z
   ·exact .inl ⟨q, lookKind_of hnd z⟩
   ·first | exact noK z | exact ffK z | cases z
  ·rcases takeCells_mem _ _ _ _ q with z | z
   ·first | exact noK z | exact ffK z | cases z
   ·exact .inr ⟨lookKind_of hnd z.1, z.2⟩
 have freeCell : ∀ x c, lookKind sc' x = some .free → env.cells.lookup x = some c → cenv.cells.lookup x = some c := fun x c h1 h2 => by
  rw [hcells, List.lookup_append]
  have : (cellsFrom (C + 1) sc'.names []).lookup x = none := by
   rw [cellsFrom_other _ _ _ _ (fun hm => by rw [lookKind_of hnd hm] at h1; cases h1)]; rfl
  rw [this, Option.none_or]
  exact takeCells_lookup h2 _ _ (.inl (lookKind_mem h1))
 have hsz : h₃.objs.size + 1 ≤ h₄.objs.size := by
  rw [hh]
  refine Nat.le_trans ?_ (pushCells_size _ _)
  rw [Heap.size_push]; exact Nat.le_refl _
 refine ⟨fun x k hx => ?_, ⟨?_, ?_, ?_, ⟨fun _ => none, ?_, fun x v hk e => ?_⟩, fun x v hk e => ?_, fun x hk => ?_, ?_, fun x c h => ?_, fun x y c h1 h2 => ?_⟩, fun x c h => ?_⟩
 ·rw [hkinds, hx]
  by_cases hf : k = .free
  ·subst hf
   simp [hfc x hx]
  ·simp [hf]
 ·rw [he]; exact hfun
 ·rw [he]; exact F.gl
 ·rw [he]; exact F.bu
 ·rw [hloc, hh, ← hh₃]
  exact (Heap.Ns.new h₃ (.type "dict")).keeps (pushCells_keeps _ _)
 ·obtain ⟨h1, _⟩ := getL_compLoc e
  rw [hkinds, h1] at hk
  simp [hfc x h1] at hk
 ·obtain ⟨h1, h2⟩ := getL_compLoc e
  obtain ⟨c, V, e1, ⟨oc, hoc, hd⟩, e2⟩ := F.cel x v (.inl (hfc x h1)) h2
  exact ⟨c, V, freeCell x c h1 e1, ⟨oc, hk₄ _ _ hoc, hd⟩, e2⟩
 ·rw [hkinds] at hk
  cases hx : lookKind sc' x with
  | none => rw [hx] at hk; cases hk
  | some k =>
   rw [hx] at hk
   by_cases hf : k = .free
   ·subst hf
    obtain ⟨c, ov, e1, ⟨oc, hoc, hd⟩⟩ := F.has x (hfc x hx)
    exact ⟨c, ov, freeCell x c hx e1, ⟨oc, hk₄ _ _ hoc, hd⟩⟩
   ·have hcell : k = .cell := by simpa [hf] using hk
    subst hcell
    obtain ⟨c, hc'⟩ := Option.isSome_iff_exists.mp (cellsFrom_get sc'.names (C + 1) [] x (.inl (lookKind_mem hx)))
    refine ⟨c, none, ?_, (ok.empty x c (mem_of_lookup hc')).1⟩
    rw [hcells, List.lookup_append, hc']; rfl
 ·rw [hloc]; exact I.new_off hC
 ·rcases split x c h with ⟨q, _⟩ | ⟨_, q⟩
  ·have := ok.empty x c q
   have h1 : s.heap.objs.size ≤ c := by have := this.2; lia
   refine ⟨(I.new_off h1).1, (I.new_off h1).2, ?_, this.1.lt⟩
   rw [hloc]; exact Nat.ne_of_gt this.2
  ·obtain ⟨a1, a2, a3, a4⟩ := F.offC x c q
   have a5 : c < C := Nat.lt_of_lt_of_le a4 hC
   refine ⟨a1, a2, by rw [hloc]; exact Nat.ne_of_lt a5, Nat.lt_of_lt_of_le a5 ?_⟩
   exact Nat.le_trans (Nat.le_of_eq hh₃.symm) (Nat.le_of_succ_le hsz)
 ·rcases split x c h1 with ⟨q1, _⟩ | ⟨_, q1⟩ <;> rcases split y c h2 with ⟨q2, _⟩ | ⟨_, q2⟩
  ·exact name_of_addr ok.apart q1 q2
  ·exact absurd (Nat.lt_of_lt_of_le (F.offC y c q2).2.2.2 hC) (Nat.not_lt.mpr (Nat.le_of_succ_le (ok.empty x c q1).2))
  ·exact absurd (Nat.lt_of_lt_of_le (F.offC x c q1).2.2.2 hC) (Nat.not_lt.mpr (Nat.le_of_succ_le (ok.empty y c q2).2))
  ·exact F.dis x y c q1 q2
 ·rcases split x c h with ⟨q, _⟩ | ⟨q0, q⟩
  ·have := ok.empty x c q
   exact .inl ⟨this.2, this.1.lt⟩
  ·exact .inr ⟨q0, (F.offC x c q).2.2.2⟩
end
end Mine
namespace Mine
open PySem PySem.W PySem.Calls PyProof.Rows PySem.SeqAt
section
variable {Ω : Wld} {rec : Rec} {n : Nat} {sc sc' : Scope} {env cenv : Env} {loc loc' loc₀ : Loc} {st st' : St} {φ φ' φb : Phi} {μ μ' μb : Mu} {s s' : Shared} {E : Value → Shared → Prop} {A : Around} {hb : Heap}
theorem ExtF.toExt (x : ExtF sc' cenv φb μb hb φ μ s.heap) (h1 : hb.objs.size ≤ cenv.locals) (h2 : ∀ x c, lookKind sc' x = some .cell → cenv.cells.lookup x = some c → hb.objs.size ≤ c) : Ext φb μb hb φ μ s.heap :=
 ⟨x.fro, x.froN, x.mu, x.ownN, fun b o e n => x.keep b o e n (Nat.ne_of_lt (Nat.lt_of_lt_of_le (Heap.lt_size e) h1)) fun y c hy hc => Nat.ne_of_lt (Nat.lt_of_lt_of_le (Heap.lt_size e) (h2 y c hy hc)), x.size⟩
theorem Inv.freezeAt (I : Inv Ω φ μ st s) {D : Addr} {o : Obj} (hg : s.heap.get? D = some o) (off : φ D = none ∧ ¬ Own μ D) :
  Inv Ω (putF φ D o) μ st s ∧ (∀ a o', φ a = some o' → putF φ D o a = some o') ∧ ∀ {φ₀ : Phi} {μ₀ : Mu} {h₀ : Heap}, Ext φ₀ μ₀ h₀ φ μ s.heap → h₀.objs.size ≤ D → Ext φ₀ μ₀ h₀ (putF φ D o) μ s.heap := by
 have hφ : ∀ a o', φ a = some o' → putF φ D o a = some o' := fun a o' e => by
  rw [putF_ne _ _ (fun q => by rw [q, off.1] at e; cases e)]; exact e
 refine ⟨⟨fun a o' e => hφ a o' (I.base a o' e), fun a o' e => ?_, fun a o' e => ?_, I.inj, fun a A D' e => ?_, I.up, I.base_le, I.gens, I.os, I.dom⟩, hφ, fun x hD => ⟨fun a o' e => hφ _ _ (x.fro a o' e), fun a o' e => ?_, x.mu, x.ownN, x.keep, x.size⟩⟩
 ·unfold putF at e
  split at e
  ·rename_i q; cases e; subst q; exact hg
  ·exact I.fro a o' e
 ·obtain ⟨A, D', m, z⟩ := I.own a o' e
  exact ⟨A, D', m, z.mono hφ fun _ _ e => e⟩
 ·obtain ⟨a1, a2, a3, a4⟩ := I.off a A D' e
  have n1 : A ≠ D := fun q => off.2 ⟨a, A, D', e, .inl q.symm⟩
  have n2 : D' ≠ D := fun q => off.2 ⟨a, A, D', e, .inr q.symm⟩
  exact ⟨(putF_ne _ _ n1).trans a1, (putF_ne _ _ n2).trans a2, a3, a4⟩
 ·unfold putF at e
  split at e
  ·rename_i q; exact .inr (q ▸ hD)
  ·exact x.froN a o' e
theorem compSrc_or {step : MV → St → Option (Option MV × St)} {src : MV} {r : List MV × St} (h : compSrc step src st = some r) : (∃ a, src = .ref a ∧ compRef step a 1000 0 st = some r) ∨ (ob (fixedItems src) fun vs => compItems step vs st) = some r := by
 cases src <;> first | exact .inr h | exact .inl ⟨_, rfl, h⟩
theorem comp_sound {tgt iter elt : Expr} {ifs : List Expr} {p p' : Pos} (HI : PE Ω rec n iter) (HA : PA Ω rec n tgt) (HT : ∀ e ∈ ifs, PT Ω rec n e) (HE : PE Ω rec n elt) {v : MV} {as : Int}
  (h : evComp Ω.T Ω.pol rec [⟨tgt, iter, ifs, as⟩] (fun loc st => evE Ω.T Ω.pol rec elt sc' loc st) sc' sc loc st = some (v, st')) (R : Room n A) (hs : KindOk sc env) (I : Inv Ω φ μ st s) (F : FrOk Ω φ μ s.heap env loc) (ht : 1 ≤ s.toks)
  {use : Option (Value → Sem Unit)} {Q : Value → Shared → Prop}
  (K : ∀ s' φ' μ' C D, Ext φ μ s.heap φ' μ' s'.heap → Inv Ω φ' μ' st' s' → 1 ≤ s'.toks → VR Ω.ad φ' μ' v (.ref D) → (∃ m, s'.heap.Ns C m) → (φ' C = none ∧ ¬ Own μ' C) → s.heap.objs.size ≤ C → compPost (model Ω.P Ω.w) A E use Q (.ref D) C (.ok .next) s') :
  wpAny (model Ω.P Ω.w) A (comprehension (.ListComp elt [⟨tgt, iter, ifs, as⟩] sc' p) sc' env p' (newList []) false (firstIter [⟨tgt, iter, ifs, as⟩] env) use) Q E s := by
 revert h
 refine ifR fun hc h' => ?_
 revert h'; intro h
 obtain ⟨rfl, hc⟩ := hc
 revert h
 refine pbR fun src st₁ h1 h => ?_
 revert h
 refine pbR fun vs st₂ h2 h => ?_
 ·refine ifK h fun hlim h => ?_
  obtain ⟨rfl, rfl⟩ := Prod.mk.inj (Option.some.inj h)
  obtain ⟨hfun, hnd, hfree⟩ := compOk_of hc
  have hfc : ∀ x, (x, NameKind.free) ∈ sc'.names → (env.cells.lookup x).isSome = true := fun x hx => by
   have hk : env.kindOf x = some .cell := by
    rcases hfree x (lookKind_of hnd hx) with z | z
    ·exact hs x _ z
    ·exact hs x _ z
   obtain ⟨c, ov, e1, _⟩ := F.has x hk
   rw [e1]; rfl
  refine wpAny_comprehension_free (g := ⟨tgt, iter, ifs, 0⟩) (gs := []) rfl (notSetIter h1 env) (closureFor_eq hfc) hfun (fun x hx hl => by obtain ⟨x, k⟩ := x; exact lookup_of_mem hnd (hl ▸ hx)) ?_
  refine HI h1 R hs I F ht fun V₁ s₁ φ₁ μ₁ x₁ I₁ t₁ r₁ => ?_
  have F₁ := F.ext x₁
  have rest : ∀ (o : Obj) (Rn : ∀ cenv : Env, ∀ (s₄ : Shared) (D : Addr), KindOk sc' cenv → FreeLoc sc' (compLoc sc' loc) → Hold Ω sc' cenv φ₁ μ₁ s₁.heap s₁.heap.objs.size (compLoc sc' loc) st₁ φ₁ μ₁ s₄ → AccAt Ω cenv s₁.heap s₁.heap.objs.size D [] φ₁ μ₁ s₄.heap →
    (∀ b o', (s₁.heap.push o).get? b = some o' → s₄.heap.get? b = some o') → ∀ RR : Result → Shared → Prop, CompEnd Ω sc' cenv φ₁ μ₁ s₁.heap s₁.heap.objs.size D (compLoc sc' loc) st₂ vs RR →
    codeAny (model Ω.P Ω.w) A (.compLoop (.ListComp elt [⟨tgt, iter, ifs, 0⟩] sc' p) 0 (.ref s₁.heap.objs.size) (.ref D) cenv) RR s₄ ∧
    ∀ E', wpAny (model Ω.P Ω.w) A (pyIter (.ref s₁.heap.objs.size)) (fun it' s' => it' = .ref s₁.heap.objs.size ∧ s' = s₄) E' s₄),
    wpAny (model Ω.P Ω.w) A (newList []) (fun acc s₃ => wpAny (model Ω.P Ω.w) A (newFunctionEnv sc' env.globals (takeCells env sc'.names []) [] env.qual none .none (some env)) (fun cenv s₄ =>
     codeAny (model Ω.P Ω.w) A (.compStart (.ListComp elt [⟨tgt, iter, ifs, 0⟩] sc' p) 0 (.ref s₁.heap.objs.size) acc { cenv with scope := relabel sc' env }) (compPost (model Ω.P Ω.w) A E use Q acc cenv.locals) s₄) E s₃) E { s₁ with heap := s₁.heap.push o } := by
   intro o Rn
   refine wpAny_newList ?_
   have hsz3 : ((s₁.heap.push o).push { cls := .type "list", data := .seq ([] : List Value).toArray }).objs.size = s₁.heap.objs.size + 1 + 1 := by rw [Heap.size_push, Heap.size_push]
   have ho3 : ∀ b o', (s₁.heap.push o).get? b = some o' → ((s₁.heap.push o).push { cls := .type "list", data := .seq ([] : List Value).toArray }).get? b = some o' := fun b o' e => Heap.get?_push_of_some _ e
   have hl3 : ((s₁.heap.push o).push { cls := .type "list", data := .seq ([] : List Value).toArray }).get? (s₁.heap.objs.size + 1) = some ⟨.type "list", none, .seq #[] 0, #[]⟩ := by rw [← Heap.size_push s₁.heap o]; exact Heap.get?_push_size _ rfl
   show wpAny _ _ (newFunctionEnv _ _ _ _ _ _ _ _ _) (fun cenv s₄ => codeAny (model Ω.P Ω.w) A (.compStart _ 0 _ (.ref (s₁.heap.push o).objs.size) _) (compPost (model Ω.P Ω.w) A E use Q (.ref (s₁.heap.push o).objs.size) cenv.locals) s₄) E { s₁ with heap := (s₁.heap.push o).push { cls := .type "list", data := .seq ([] : List Value).toArray } }
   rw [show (s₁.heap.push o).objs.size = s₁.heap.objs.size + 1 from Heap.size_push ..]
   generalize (s₁.heap.push o).push { cls := .type "list", data := .seq ([] : List Value).toArray } = h₃ at hsz3 ho3 hl3 ⊢
   have hk3 : ∀ b o', s₁.heap.get? b = some o' → h₃.get? b = some o' := fun b o' e => ho3 b o' (Heap.get?_push_of_some _ e)
   refine newEnv_comp ?_
   have keep4 : ∀ b o', h₃.get? b = some o' → (pushCells (h₃.push { cls := .type "dict", data := .dict #[] }) sc'.names).get? b = some o' := fun b o' e => pushCells_keeps _ _ b o' (Heap.get?_push_of_some _ e)
   have sz4 : s₁.heap.objs.size + 1 + 1 + 1 ≤ (pushCells (h₃.push { cls := .type "dict", data := .dict #[] }) sc'.names).objs.size := by
    refine Nat.le_trans ?_ (pushCells_size _ _)
    rw [Heap.size_push, hsz3]; exact Nat.le_refl _
   obtain ⟨K1, K2, K3⟩ := comp_frame hc hs I₁ F₁ (C := s₁.heap.objs.size + 1 + 1) (q := env.qual) (b := builtinsNs) (by lia) hsz3 hk3 rfl rfl
   show codeAny _ _ _ _ _
   rw [show ({ s₁ with heap := h₃ } : Shared).heap.objs.size = s₁.heap.objs.size + 1 + 1 from hsz3]
   show codeAny _ _ _ _ { s₁ with heap := pushCells (h₃.push { cls := .type "dict", data := .dict #[] }) sc'.names }
   generalize pushCells (h₃.push { cls := .type "dict", data := .dict #[] }) sc'.names = h₄ at keep4 sz4 K2 K3 ⊢
   have sz5 : s₁.heap.objs.size ≤ h₄.objs.size := Nat.le_trans (Nat.le_add_right _ 3) sz4
   have xk : Ext φ₁ μ₁ s₁.heap φ₁ μ₁ h₄ := Ext.keeps (fun b o' e => keep4 b o' (hk3 b o' e)) sz5
   have noc : ∀ D, s₁.heap.objs.size ≤ D → D < s₁.heap.objs.size + 1 + 1 → ∀ (x : Str) (c : Addr), (cellsFrom (s₁.heap.objs.size + 1 + 1 + 1) sc'.names (takeCells env sc'.names [])).lookup x = some c → D ≠ c := fun D h1 h2 x c hc' => by
    rcases K3 x c hc' with ⟨q, _⟩ | ⟨_, q⟩
    ·exact Nat.ne_of_lt (Nat.lt_trans h2 q)
    ·exact Nat.ne_of_gt (Nat.lt_of_lt_of_le q h1)
   have l1 : s₁.heap.objs.size < s₁.heap.objs.size + 1 + 1 := Nat.lt_of_lt_of_le (Nat.lt_succ_self _) (Nat.le_succ _)
   obtain ⟨run, self⟩ := Rn _ { s₁ with heap := h₄ } (s₁.heap.objs.size + 1) K1 (fun x v e => (getL_compLoc e).1)
    ⟨xk.f, I₁.keeps (tk := s₁.toks) (fun b o' e => keep4 b o' (hk3 b o' e)) sz5, K2, t₁, Nat.le_refl _, I₁.new_off (Nat.le_refl _), Nat.lt_of_lt_of_le (Nat.lt_of_lt_of_le l1 (Nat.le_succ _)) sz4, Nat.ne_of_lt l1, noc _ (Nat.le_refl _) l1⟩
    ⟨⟨#[], 0, keep4 _ _ hl3, rfl⟩, Nat.le_succ _, I₁.new_off (Nat.le_succ _), Nat.lt_of_lt_of_le (Nat.lt_of_lt_of_le (Nat.lt_succ_self _) (Nat.le_succ _)) sz4, ⟨Nat.ne_of_lt (Nat.lt_succ_self _), noc _ (Nat.le_succ _) (Nat.lt_succ_self _)⟩, Nat.ne_of_gt (Nat.lt_succ_self _)⟩
    (fun b o' e => keep4 b o' (ho3 b o' e))
    (compPost (model Ω.P Ω.w) A E use Q (.ref (s₁.heap.objs.size + 1)) (s₁.heap.objs.size + 1 + 1)) (fun s' φ' μ' H' a' => by
     obtain ⟨ws, m, hg, q⟩ := a'.at_
     obtain ⟨J, hφ, xx⟩ := H'.I.freezeAt hg a'.off
     have x2 : Ext φ₁ μ₁ s₁.heap φ' μ' s'.heap := H'.x.toExt (Nat.le_add_right _ 2) fun y c hy hc' => by
      rcases K3 y c hc' with ⟨q, _⟩ | ⟨q, _⟩
      ·exact Nat.le_trans (Nat.le_add_right _ 2) (Nat.le_of_lt q)
      ·rw [hy] at q; cases q
     obtain ⟨mm, hns, _⟩ := H'.F.lo
     refine K s' _ μ' _ _ (x₁.trans (xx x2 a'.hb)) J H'.t ⟨_, ws, m, rfl, putF_self _ _ _, q.mono hφ fun _ _ e => e⟩ ⟨mm, hns⟩ ⟨?_, H'.F.offL.2⟩ (Nat.le_trans x₁.size (Nat.le_add_right _ 2))
     refine (putF_ne _ _ (Ne.symm a'.ne.1)).trans H'.F.offL.1)
   exact codeAny_compStart_list run (wpAny_mono (self _) (fun it' s' h => by obtain ⟨rfl, rfl⟩ := h; exact run) fun _ _ z => z)
  rcases compSrc_or h2 with ⟨a, rfl, h2⟩ | h2
  ·obtain ⟨ws, g⟩ : ∃ ws, st₁.get a = some (.list ws) := atListK h2 fun vs g _ => ⟨vs, g⟩
   obtain ⟨X, wa, c, rfl, hl, q, hm⟩ := asOwnList I₁ r₁ g
   refine wpAny_pyIter_list (isList_of hl) (rest _ fun cenv s₄ D K1 hf H a kp RR k => ?_)
   have hit : s₄.heap.IsListIter s₁.heap.objs.size X 0 := ⟨_, kp _ _ (Heap.get?_push_size _ rfl), rfl, rfl⟩
   exact ⟨compRef_run HA HT HE R K1 hf hm H a hit h2 hlim k, fun E' => wpAny_pyIter_listiter hit ⟨rfl, rfl⟩⟩
  ·revert h2
   refine obR fun is h3 h4 => ?_
   refine iter_sound R.hh h3 I₁ r₁ fun o fp P St W h0 => rest o fun cenv s₄ D K1 hf H a kp RR k => ?_
   have hst : St 0 s₄.heap := (W.walks A R.hh).frame _ _ _ h0 fun b _ o' e => kp b o' e
   exact ⟨compItems_run HA HT HE R K1 hf W (fun _ _ e => e) (fun _ _ e => e) H a hst (Nat.zero_le _) h4 hlim k, fun E' => (W.walks A R.hh).self 0 s₄ _ E' hst ⟨rfl, rfl⟩⟩
end
end Mine
namespace Mine
open PySem PySem.W PySem.Calls PyProof.Rows PySem.SeqAt
section
variable {Ω : Wld} {rec : Rec} {n : Nat} {sc sc' : Scope} {env cenv : Env} {loc loc' loc₀ : Loc} {st st' : St} {φ φ' φb : Phi} {μ μ' μb : Mu} {s s' : Shared} {E : Value → Shared → Prop} {A : Around} {hb : Heap}
theorem Ext.but {h h' : Heap} {C : Addr} (x : Ext φ μ h φ' μ' s.heap) (hs : Heap.SameBut C s.heap h') (hC : h.objs.size ≤ C) : Ext φ μ h φ' μ' h' :=
 ⟨x.fro, x.froN, x.mu, x.ownN, fun b o e n => (hs.2 b (Nat.ne_of_lt (Nat.lt_of_lt_of_le (Heap.lt_size e) hC))).trans (x.keep b o e n), hs.1 ▸ x.size⟩
theorem evComp_shape {gens : List Comprehension} {elt : Loc → St → Option (MV × St)} {r : MV × St} (h : evComp Ω.T Ω.pol rec gens elt sc' sc loc st = some r) : ∃ tgt iter ifs, gens = [⟨tgt, iter, ifs, 0⟩] := by
 cases gens with
 | nil => cases h
 | cons g gs =>
  cases gs with
  | nil =>
   obtain ⟨tgt, iter, ifs, as⟩ := g
   exact ifK h fun hc _ => ⟨tgt, iter, ifs, by rw [hc.1]⟩
  | cons g' gs =>
   have : evComp Ω.T Ω.pol rec (g :: g' :: gs) elt sc' sc loc st = none := by cases g; rfl
   rw [this] at h; cases h
theorem e_comp {elt : Expr} {gens : List Comprehension} {p : Pos} (HE : PE Ω rec n elt) (HG : ∀ tgt iter ifs, gens = [⟨tgt, iter, ifs, 0⟩] → PE Ω rec n iter ∧ PA Ω rec n tgt ∧ ∀ e ∈ ifs, PT Ω rec n e) : PE Ω rec n (.ListComp elt gens sc' p) := by
 intro sc loc st v st' h A env s φ μ Q E R hs I F ht k
 obtain ⟨tgt, iter, ifs, rfl⟩ := evComp_shape h
 obtain ⟨H1, H2, H3⟩ := HG _ _ _ rfl
 first | refine wpE (eval_ListComp ..) ?_ | rw [eval_ListComp]
 refine comp_sound H1 H2 H3 HE h R hs I F ht fun s' φ' μ' C D x J t r hC off hle => ?_
 obtain ⟨m, hm⟩ := hC
 exact ⟨m, hm, fun h' hsb => k _ _ φ' μ' (x.but hsb hle) (J.frame s'.toks hsb off) t r⟩
noncomputable def PS (Ω : Wld) (rec : Rec) (n : Nat) (c : Stmt) : Prop := ∀ {sc : Scope} {loc : Loc} {st : St} {fl : Fl} {loc' : Loc} {st' : St}, evS Ω.T Ω.pol rec c sc loc st = some (fl, loc', st') → ∀ {A : Around} {env : Env} {s : Shared} {φ : Phi} {μ : Mu} {QF : Flow → Shared → Prop} {E : Value → Shared → Prop},
 Room n A → KindOk sc env → Inv Ω φ μ st s → FrOk Ω φ μ s.heap env loc → 1 ≤ s.toks → AnsF Ω sc env φ μ s.heap st' loc' fl QF → wpAny (model Ω.P Ω.w) A (exec c env) QF E s
theorem swaps_not {e : Expr} {t : Option Expr} {l : Nat} (h : isComp e = false) (env : Env) : swapsWith e t l env = pure false := by
 cases e <;> first | rfl | exact ttK h
theorem s_expr {e : Expr} {p : Pos} (H : PE Ω rec n e) : PS Ω rec n (.Expr e p) := by
 intro sc loc st fl loc' st' h A env s φ μ QF E R hs I F ht k
 revert h
 refine ifR fun hc h => ?_
 revert h
 refine pbR fun v st₁ h1 h => ?_
 first | replace kk := kk.fin h | replace k := k.fin h | cases h
 refine wpAny_Expr_any (H h1 R hs I F ht fun V₁ s₁ φ₁ μ₁ x₁ I₁ t₁ r₁ => k _ _ φ₁ μ₁ x₁.f I₁ (F.ext x₁) t₁ rfl) ?_ (swaps_not hc env)
 unfold interactive
 rw [F.kind]; rfl
theorem s_break {p : Pos} : PS Ω rec n (.Break p) := by
 intro sc loc st fl loc' st' h A env s φ μ QF E R hs I F ht k
 first | replace kk := kk.fin h | replace k := k.fin h | cases h
 exact wpAny_Break (k _ _ φ μ .refl I F ht rfl)
theorem s_return {e : Option Expr} {p : Pos} (H : ∀ x, e = some x → PE Ω rec n x) : PS Ω rec n (.Return e p) := by
 intro sc loc st fl loc' st' h A env s φ μ QF E R hs I F ht k
 cases e with
 | none =>
  first | replace kk := kk.fin h | replace k := k.fin h | cases h
  exact wpAny_Return_none (k _ _ φ μ .refl I F ht ⟨.none, rfl, rfl⟩)
 | some x =>
  revert h
  refine pbR fun v st₁ h1 h => ?_
  first | replace kk := kk.fin h | replace k := k.fin h | cases h
  exact wpAny_Return_some (H x rfl h1 R hs I F ht fun V₁ s₁ φ₁ μ₁ x₁ I₁ t₁ r₁ => k _ _ φ₁ μ₁ x₁.f I₁ (F.ext x₁) t₁ ⟨V₁, rfl, r₁⟩)
theorem s_if {t : Expr} {b o : List Stmt} {p : Pos} (HT : PT Ω rec n t) (HB : PSs Ω rec n b) (HO : PSs Ω rec n o) : PS Ω rec n (.If t b o p) := by
 intro sc loc st fl loc' st' h A env s φ μ QF E R hs I F ht k
 revert h
 refine pbR fun c st₁ h1 h => ?_
 refine wpAny_If (HT h1 R hs I F ht fun s₁ φ₁ μ₁ x₁ I₁ t₁ => ?_)
 cases c
 ·exact HO h R hs I₁ (F.ext x₁) t₁ (k.after x₁.f)
 ·exact HB h R hs I₁ (F.ext x₁) t₁ (k.after x₁.f)
theorem s_aug (O : Ok Ω rec n) {x : Str} {q p : Pos} {op : Operator} {e : Expr} (H : PE Ω rec n e) : PS Ω rec n (.AugAssign (.Name x q) op e p) := by
 intro sc loc st fl loc' st' h A env s φ μ QF E R hs I F ht k
 revert h
 refine obR fun old h1 h => ?_
 revert h
 refine pbR fun v st₁ h2 h => ?_
 refine wpAny_AugAssign_Name (wpAny_toks ht (load_sound O.glob h1 hs I F fun V₁ s₁ φ₁ μ₁ x₁ I₁ r₁ t₁ => H h2 R hs I₁ (F.ext x₁) t₁ fun V₂ s₂ φ₂ μ₂ x₂ I₂ t₂ r₂ => ?_))
 refine asIntK h fun i p1 h => asIntK h fun j p2 h => obK h fun r h3 h => ifK h fun hl h => ?_
 replace k := k.fin h
 obtain ⟨t, rfl⟩ := p1 ▸ r₁
 obtain ⟨u, rfl⟩ := p2 ▸ r₂
 have fin : ∀ (i : Int), r = .int i → 1 ≤ s₂.toks + 1 → wpAny (model Ω.P Ω.w) A (storeName env x (.int i s₂.toks)) (fun _ => QF .next) E { s₂ with toks := s₂.toks + 1 } := fun i hr tpos => by
  subst hr
  exact store_sound (v := MV.int i) (.inl hl) hs (I₂.tok _) (F.ext (x₁.trans x₂)) tpos ⟨_, rfl⟩ fun s₃ φ₃ μ₃ x₃ I₃ F₃ t₃ => k _ _ φ₃ μ₃ ((x₁.trans x₂).f.trans x₃) I₃ F₃ t₃ rfl
 cases op with
 | Add => exact AutoIntOps.iadd_0 (fin _ (Option.some.inj h3).symm (Nat.le_add_left 1 _))
 | Sub => exact AutoIntOps.isub_0 (fin _ (Option.some.inj h3).symm (Nat.le_add_left 1 _))
 | _ => exact noK h3
theorem evA_stores {t : Expr} {v : MV} {r : Loc × St} (h : evA Ω.T Ω.pol rec t v sc loc st = some r) : (assignEach [t] env).map (·.2) = [assign t env] := by
 rw [assignEach_cons (evA_notStar h)]; rfl
theorem comp_cases {e : Expr} {r : MV × St} (hc : isComp e = true) (h : evE Ω.T Ω.pol rec e sc loc st = some r) : ∃ elt gens sc' q, e = .ListComp elt gens sc' q := by
 cases e <;> first | exact ffK hc | exact noK h | exact ⟨_, _, _, _, rfl⟩
theorem swapped_none {t e : Expr} (h : storeOk sc t e = true) (env : Env) : swappedStores [t] e env = pure none := by
 cases t <;> first | exact ffK h | rfl | (cases e <;> first | rfl | exact ffK h)
theorem swaps_name {x : Str} {px q : Pos} {elt : Expr} {gens : List Comprehension} {l : Nat} (hst : storeOk sc (.Name x px) (.ListComp elt gens sc' q) = true) (hs : KindOk sc env) (hk : env.scope.kind = .function) : lookKind sc x = some .local ∧ swapsWithSole [.Name x px] (.ListComp elt gens sc' q) l env = pure true := by
 have hst : (decide (lookKind sc x = some .local) && decide (px.line = q.line) && !(sc'.names.any fun q => q.1 == x && (q.2 == .local || q.2 == .cell))) = true := hst
 simp only [Bool.and_eq_true, decide_eq_true_eq, Bool.not_eq_true'] at hst
 obtain ⟨⟨hl, hline⟩, hnot⟩ := hst
 refine ⟨hl, ?_⟩
 have hk' : env.kindOf x = some .local := hs.is hl (by decide)
 show (pure (env.blockKind == .function && env.kindOf x == some .local && px.line == q.line && !(sc'.names.any fun (n, k) => n == x && (k == .local || k == .cell))) : Sem Bool) = pure true
 have hb : env.blockKind = .function := by unfold Env.blockKind; rw [hk]; rfl
 have hnot' : (sc'.names.any fun (n, k) => n == x && (k == .local || k == .cell)) = false := hnot
 rw [hb, hk', hline, hnot']
 simp
theorem storeOk_cases {t e : Expr} (h : storeOk sc t e = true) : (∃ x p, t = .Name x p) ∨ ∀ (l : Nat) (env : Env), swapsWithSole [t] e l env = pure false := by
 cases t <;> first | exact ffK h | exact .inl ⟨_, _, rfl⟩ | exact .inr fun l env => by cases e <;> rfl
theorem useComp {elt tgt iter : Expr} {ifs : List Expr} {q : Pos} {u : Value → Sem Unit} : evalThenUse (.ListComp elt [⟨tgt, iter, ifs, 0⟩] sc' q) env u =
  (comprehension (.ListComp elt [⟨tgt, iter, ifs, 0⟩] sc' q) sc' env (firstIterPos [⟨tgt, iter, ifs, 0⟩] q) (newList []) false (firstIter [⟨tgt, iter, ifs, 0⟩] env) (some u) >>= fun _ => pure ()) := rfl
theorem nextK {P : Prop} {x : Option (Loc × St)} {r : Fl × Loc × St} (h : nextOf x = some r) (k : ∀ l st, x = some (l, st) → some (.next, l, st) = some r → P) : P := by
 rcases x with _ | ⟨l, st⟩
 ·exact noK h
 ·exact k _ _ rfl h
theorem s_assign {t e : Expr} {p : Pos} (HA : PA Ω rec n t) (H : PE Ω rec n e) (HC : ∀ elt gens sc' q, e = .ListComp elt gens sc' q → PE Ω rec n elt ∧ ∀ tgt iter ifs, gens = [⟨tgt, iter, ifs, 0⟩] → PE Ω rec n iter ∧ PA Ω rec n tgt ∧ ∀ e ∈ ifs, PT Ω rec n e) : PS Ω rec n (.Assign [t] e p) := by
 intro sc loc st fl loc' st' h A env s φ μ QF E R hs I F ht k
 revert h
 refine ifR fun hst h => ?_
 revert h
 refine pbR fun v st₁ h1 h => ?_
 ·refine nextK h fun l₂ st₂ h2 h => ?_
  replace k := k.fin h
  have plain : swapsWithSole [t] e p.line env = pure false → wpAny (model Ω.P Ω.w) A (exec (.Assign [t] e p) env) QF E s := fun hw1 => by
   refine wpAny_Assign_stores (H h1 R hs I F ht fun V₁ s₁ φ₁ μ₁ x₁ I₁ t₁ r₁ => ?_) hw1 (swapped_none hst env)
   rw [evA_stores h2]
   exact HA h2 R hs I₁ (F.ext x₁) t₁ r₁ fun s₂ φ₂ μ₂ x₂ I₂ F₂ t₂ => k _ _ φ₂ μ₂ (x₁.f.trans x₂) I₂ F₂ t₂ rfl
  rcases storeOk_cases hst with ⟨x, px, rfl⟩ | hno
  ·by_cases hcomp : isComp e = true
   ·obtain ⟨elt, gens, sc', q, rfl⟩ := comp_cases hcomp h1
    obtain ⟨hl, hsw⟩ := swaps_name (l := p.line) hst hs F.kind
    obtain ⟨tgt, iter, ifs, rfl⟩ := evComp_shape h1
    obtain ⟨HE, HG⟩ := HC _ _ _ _ rfl
    obtain ⟨G1, G2, G3⟩ := HG _ _ _ rfl
    rw [arm_exec_Assign, hsw]
    refine wpAny_bind (wpAny_standAt (wpAny_bind (wpAny_pure ?_)))
    rw [if_pos rfl]
    refine wpAny_bind ?_
    rw [useComp]
    refine wpAny_bind (comp_sound G1 G2 G3 HE h1 R hs I F ht fun s₁ φ₁ μ₁ C D x₁ I₁ t₁ r₁ hC off hle => ?_)
    unfold compPost
    rw [evA_stores h2]
    show wpAny _ _ (assign (.Name x px) env (.ref D)) _ E s₁
    refine HA h2 R hs I₁ (F.ext x₁) t₁ r₁ fun s₂ φ₂ μ₂ x₂ I₂ F₂ t₂ => ?_
    obtain ⟨m, hm⟩ := hC
    have hne : C ≠ env.locals ∧ ∀ y c, env.cells.lookup y = some c → C ≠ c := ⟨Nat.ne_of_gt (Nat.lt_of_lt_of_le F.lt hle), fun y c hy => Nat.ne_of_gt (Nat.lt_of_lt_of_le (F.offC y c hy).2.2.2 hle)⟩
    have hm₂ : s₂.heap.Ns C m := by
     obtain ⟨o, es, ep, ho, r⟩ := hm
     exact ⟨o, es, ep, x₂.keep _ _ ho off.2 hne.1 (fun y c _ hy => hne.2 y c hy), r⟩
    refine ⟨m, hm₂, fun h' hsb => wpAny_pure (wpAny_pure ?_)⟩
    have offC := x₂.offA hm.lt off
    have xx := (x₁.f (sc := sc) (env := env)).trans x₂
    refine k _ _ φ₂ μ₂ ⟨xx.fro, xx.froN, xx.mu, xx.ownN, fun b o e n n1 n2 => (hsb.2 b ?_).trans (xx.keep b o e n n1 n2), hsb.1 ▸ xx.size⟩
     (I₂.frame s₂.toks hsb offC) (F₂.but (fun b o nb e => (hsb.2 b nb).trans e) (Nat.le_of_eq hsb.1.symm) hne.1 hne.2) t₂ rfl
    exact Nat.ne_of_lt (Nat.lt_of_lt_of_le (Heap.lt_size e) hle)
   ·exact plain (by unfold swapsWithSole; exact swaps_not (by simpa using hcomp) env)
  ·exact plain (hno _ _)
end
end Mine
namespace Mine
open PySem PySem.W PySem.Calls PyProof.Rows PySem.SeqAt
section
variable {Ω : Wld} {rec : Rec} {n : Nat}
noncomputable def LongDict (Ω : Wld) (rec : Rec) (n : Nat) : Prop := ∀ {ks : List (Option Expr)} {vs : List Expr} {p : Pos} {sc : Scope} {loc : Loc} {st st' : St} {es : List (Str × MV)} {v : MV}, 17 < ks.length → ks.length ≤ 32 → constPairs ks vs = some es → layDict Ω.pol p (updK (updK [] (es.take 17)) (updK [] (es.drop 17))) st = some (v, st') →
 ∀ {A : Around} {env : Env} {s : Shared} {φ : Phi} {μ : Mu} {Q E : Value → Shared → Prop}, Room n A → KindOk sc env → Inv Ω φ μ st s → FrOk Ω φ μ s.heap env loc → 1 ≤ s.toks → AnsE Ω φ μ s.heap st' v Q → wpAny (model Ω.P Ω.w) A (eval (.Dict ks vs p) env) Q E s
theorem e_dict (L : LongDict Ω rec n) {ks : List (Option Expr)} {vs : List Expr} {p : Pos} (Hk : ∀ k, some k ∈ ks → PE Ω rec n k) (Hv : ∀ e ∈ vs, PE Ω rec n e) : PE Ω rec n (.Dict ks vs p) := by
 intro sc loc st v st' h A env s φ μ Q E R hs I F ht kk
 rcases ifE h with ⟨hl, h⟩ | ⟨_, h⟩
 ·revert h
  refine pbR fun es st₁ h1 h2 => ?_
  exact e_dictShort Hk Hv hl h1 h2 R hs I F ht kk
 ·revert h
  refine ifR fun hl h => ?_
  revert h
  refine obR fun es h1 h2 => ?_
  exact L hl.1 hl.2 h1 h2 R hs I F ht kk
theorem e_compare {l : Expr} {ops : List CmpOp} {rs : List Expr} {p : Pos} (Hl : PE Ω rec n l) (H : ∀ e ∈ rs, PE Ω rec n e) : PE Ω rec n (.Compare l ops rs p) := by
 intro sc loc st v st' h A env s φ μ Q E R hs I F ht kk
 revert h
 refine pbR fun a st₁ h1 h2 => ?_
 show wpAny _ _ (eval l env >>= fun a => compareChain p a ops (markedEach ops rs (evalEach rs env))) Q E s
 exact wpAny_bind (Hl h1 R hs I F ht fun V₁ s₁ φ₁ μ₁ x₁ I₁ t₁ r₁ => evChain_sound H h2 R hs I₁ (F.ext x₁) t₁ r₁ (kk.after x₁))
theorem e_boolop {op : BoolOp} {es : List Expr} {p : Pos} (H : ∀ e ∈ es, PE Ω rec n e) : PE Ω rec n (.BoolOp op es p) := by
 intro sc loc st v st' h A env s φ μ Q E R hs I F ht kk
 show wpAny _ _ (boolOp p op (evalEach es env)) Q E s
 exact evBool_sound H h R hs I F ht kk
noncomputable def GB' (Ω : Wld) (rec : Rec) (n : Nat) (e : Expr) : Prop := ∀ e', sizeOf e' < sizeOf e → Good Ω rec n e'
theorem pe_vac {e : Expr} (h : ∀ sc loc st, evE Ω.T Ω.pol rec e sc loc st = none) : PE Ω rec n e := fun h' => noK ((h _ _ _).symm.trans h')
theorem pt_vac {e : Expr} (h : ∀ sc loc st, evT Ω.T Ω.pol rec e sc loc st = none) : PT Ω rec n e := fun h' => noK ((h _ _ _).symm.trans h')
theorem pa_vac {e : Expr} (h : ∀ v sc loc st, evA Ω.T Ω.pol rec e v sc loc st = none) : PA Ω rec n e := fun h' => noK ((h _ _ _ _).symm.trans h')
theorem ps_vac {c : Stmt} (h : ∀ sc loc st, evS Ω.T Ω.pol rec c sc loc st = none) : PS Ω rec n c := fun h' => noK ((h _ _ _).symm.trans h')
theorem pe_step (O : Ok Ω rec n) (L : LongDict Ω rec n) (e : Expr) (IH : GB' Ω rec n e) : PE Ω rec n e := by
 cases e with
 | BoolOp op es p => exact @e_boolop Ω rec n op es p fun e he => (IH e (Nat.lt_trans (List.sizeOf_lt_of_mem he) sz_BoolOp_vs)).E
 | BinOp l op r p => exact @e_binop Ω rec n l r op p (IH l sz_BinOp_l).E (IH r sz_BinOp_r).E
 | UnaryOp op x p => exact @e_unary Ω rec n x op p (IH x sz_UnaryOp_x).E
 | IfExp t b o p => exact @e_ifexp Ω rec n t b o p (IH t sz_IfExp_t).T (IH b sz_IfExp_b).E (IH o sz_IfExp_o).E
 | Dict ks vs p =>
  refine @e_dict Ω rec n L ks vs p (fun k hk => (IH k ?_).E) fun e he => (IH e (Nat.lt_trans (List.sizeOf_lt_of_mem he) sz_Dict_vs)).E
  exact Nat.lt_trans (Nat.lt_trans sz_some (List.sizeOf_lt_of_mem hk)) sz_Dict_ks
 | ListComp elt gens sc' p =>
  refine @e_comp Ω rec n sc' elt gens p (IH elt sz_ListComp_e).E fun tgt iter ifs hg => ?_
  subst hg
  refine ⟨(IH iter (Nat.lt_trans (Nat.lt_trans sz_mk_i sz_sole) sz_ListComp_g)).E, (IH tgt (Nat.lt_trans (Nat.lt_trans sz_mk_t sz_sole) sz_ListComp_g)).A, fun e he => (IH e ?_).T⟩
  exact Nat.lt_trans (Nat.lt_trans (Nat.lt_trans (List.sizeOf_lt_of_mem he) sz_mk_ifs) sz_sole) sz_ListComp_g
 | Compare l ops rs p => exact @e_compare Ω rec n l ops rs p (IH l sz_Compare_l).E fun e he => (IH e (Nat.lt_trans (List.sizeOf_lt_of_mem he) sz_Compare_rs)).E
 | Call f args kws p =>
  refine @e_call Ω rec n O f args kws p (fun o x q hf => (IH o ?_).E) fun e he => (IH e (Nat.lt_trans (List.sizeOf_lt_of_mem he) sz_Call_a)).E
  exact Nat.lt_trans (hf ▸ sz_Attribute_o) sz_Call_f
 | Constant c k p => exact @e_const Ω rec n c k p
 | Attribute o x p => exact @e_attr Ω rec n O o x p (IH o sz_Attribute_o).E
 | Subscript o i p =>
  rcases Classical.em (∃ lo hi q, i = .Slice lo hi none q) with hi | hi
  ·obtain ⟨lo, hi, q, rfl⟩ := hi
   refine @e_slice Ω rec n o lo hi q p (IH o sz_Subscript_o).E (fun x hx => (IH x ?_).E) fun x hx => (IH x ?_).E
   ·exact Nat.lt_trans (Nat.lt_trans (hx ▸ sz_some) sz_Slice_l) sz_Subscript_i
   ·exact Nat.lt_trans (Nat.lt_trans (hx ▸ sz_some) sz_Slice_h) sz_Subscript_i
  ·exact @e_sub Ω rec n o i p (IH o sz_Subscript_o).E (IH i sz_Subscript_i).E fun lo hi' q h => hi ⟨lo, hi', q, h⟩
 | Name x p => exact @e_name Ω rec n O x p
 | List es p => exact @e_list Ω rec n es p fun e he => (IH e (Nat.lt_trans (List.sizeOf_lt_of_mem he) sz_List_es)).E
 | Tuple es k p => exact @e_tuple Ω rec n es k p fun e he => (IH e (Nat.lt_trans (List.sizeOf_lt_of_mem he) sz_Tuple_es)).E
 | _ => exact pe_vac fun _ _ _ => rfl
theorem pt_step (O : Ok Ω rec n) (e : Expr) (IH : GB' Ω rec n e) : PT Ω rec n e := by
 cases e with
 | BoolOp op es p => exact @t_bool Ω rec n op es p fun e he => (IH e (Nat.lt_trans (List.sizeOf_lt_of_mem he) sz_BoolOp_vs)).T
 | UnaryOp op x p => exact @t_not Ω rec n op x p (IH x sz_UnaryOp_x).T
 | Compare l ops rs p => exact @t_cmp Ω rec n l ops rs p (IH l sz_Compare_l).E fun e he => (IH e (Nat.lt_trans (List.sizeOf_lt_of_mem he) sz_Compare_rs)).E
 | Call f args kws p =>
  refine @t_call Ω rec n O f args kws p (fun o x q hf => (IH o ?_).E) fun e he => (IH e (Nat.lt_trans (List.sizeOf_lt_of_mem he) sz_Call_a)).E
  exact Nat.lt_trans (hf ▸ sz_Attribute_o) sz_Call_f
 | Constant c k p => exact @t_const Ω rec n c k p
 | Attribute o x p => exact @t_attr Ω rec n O o x p (IH o sz_Attribute_o).E
 | Subscript o i p => exact @t_sub Ω rec n o i p (IH o sz_Subscript_o).E (IH i sz_Subscript_i).E
 | Name x p => exact @t_name Ω rec n O x p
 | _ => exact pt_vac fun _ _ _ => rfl
theorem pa_step (O : Ok Ω rec n) (e : Expr) (IH : GB' Ω rec n e) : PA Ω rec n e := by
 cases e with
 | Attribute o x p => exact @a_attr Ω rec n O o x p (IH o sz_Attribute_o).E
 | Subscript o i p => exact @a_sub Ω rec n o i p (IH o sz_Subscript_o).E (IH i sz_Subscript_i).E
 | Name x p => exact @a_name Ω rec n x p
 | Tuple es k p => exact @a_tuple Ω rec n es k p fun e he => (IH e (Nat.lt_trans (List.sizeOf_lt_of_mem he) sz_Tuple_es)).A
 | _ => exact pa_vac fun _ _ _ _ => rfl
theorem good_le (O : Ok Ω rec n) (L : LongDict Ω rec n) : ∀ (k : Nat) (e : Expr), sizeOf e < k → Good Ω rec n e
 | 0, _, h => absurd h (Nat.not_lt_zero _)
 | k + 1, e, h => by
  have IH : GB' Ω rec n e := fun e' h' => good_le O L k e' (Nat.lt_of_lt_of_le h' (Nat.le_of_lt_succ h))
  exact ⟨pe_step O L e IH, pt_step O e IH, pa_step O e IH⟩
theorem good (O : Ok Ω rec n) (L : LongDict Ω rec n) (e : Expr) : Good Ω rec n e := good_le O L (sizeOf e + 1) e (Nat.lt_succ_self _)
theorem ss_nil : PSs Ω rec n [] := by
 intro sc loc st fl loc' st' h A env s φ μ QF E R hs I F ht k
 first | replace kk := kk.fin h | replace k := k.fin h | cases h
 exact wpAny_execs_nil (k _ _ φ μ .refl I F ht rfl)
theorem ss_cons {c : Stmt} {cs : List Stmt} (H : PS Ω rec n c) (HS : PSs Ω rec n cs) : PSs Ω rec n (c :: cs) := by
 intro sc loc st fl loc' st' h A env s φ μ QF E R hs I F ht k
 obtain ⟨fl₁, l₁, st₁, h1, h2⟩ := sb_inv h
 refine wpAny_execs_cons (H h1 R hs I F ht fun f s₁ φ₁ μ₁ x₁ I₁ F₁ t₁ r₁ => ?_)
 cases fl₁ with
 | next => obtain rfl : f = .next := r₁; exact HS h2 R hs I₁ F₁ t₁ (k.after x₁)
 | brk => obtain rfl : f = .brk := r₁; exact (k.fin h2) _ _ φ₁ μ₁ x₁ I₁ F₁ t₁ rfl
 | cont => obtain rfl : f = .cont := r₁; exact (k.fin h2) _ _ φ₁ μ₁ x₁ I₁ F₁ t₁ rfl
 | ret v => obtain ⟨V, rfl, r₂⟩ := r₁; exact (k.fin h2) _ _ φ₁ μ₁ x₁ I₁ F₁ t₁ ⟨V, rfl, r₂⟩
theorem ps_step (O : Ok Ω rec n) (L : LongDict Ω rec n) (c : Stmt) (IH : ∀ cs : List Stmt, sizeOf cs < sizeOf c → PSs Ω rec n cs) : PS Ω rec n c := by
 have G := good O L
 cases c with
 | Expr e p => exact @s_expr Ω rec n e p (G e).E
 | Break p => exact @s_break Ω rec n p
 | Return e p => exact @s_return Ω rec n e p fun x _ => (G x).E
 | Assign ts e p =>
  match ts with
  | [] => exact @ps_vac Ω rec n _ fun _ _ _ => rfl
  | [t] => exact @s_assign Ω rec n t e p (G t).A (G e).E fun elt gens sc' q _ => ⟨(G elt).E, fun tgt iter ifs _ => ⟨(G iter).E, (G tgt).A, fun e _ => (G e).T⟩⟩
  | _ :: _ :: _ => exact @ps_vac Ω rec n _ fun _ _ _ => rfl
 | AugAssign t op e p =>
  cases t with
  | Name x q => exact @s_aug Ω rec n O x q p op e (G e).E
  | _ => exact @ps_vac Ω rec n _ fun _ _ _ => rfl
 | If t b o p => exact @s_if Ω rec n t b o p (G t).T (IH b sz_If_b) (IH o sz_If_o)
 | While t b o p =>
  cases o with
  | nil =>
   intro sc loc st fl loc' st' h A env s φ μ QF E R hs I F ht k
   exact s_while (G t).T (IH b sz_While_b) h R hs I F ht k
  | cons _ _ => exact @ps_vac Ω rec n _ fun _ _ _ => rfl
 | For t i b o p =>
  cases o with
  | nil =>
   intro sc loc st fl loc' st' h A env s φ μ QF E R hs I F ht k
   revert h
   refine pbR fun src st₁ h1 h => ?_
   exact s_for (G t).A (G i).E (IH b sz_For_b) h1 h R hs I F ht k
  | cons _ _ => exact @ps_vac Ω rec n _ fun _ _ _ => rfl
 | _ => exact @ps_vac Ω rec n _ fun _ _ _ => rfl
theorem goodSs_le (O : Ok Ω rec n) (L : LongDict Ω rec n) (k : Nat) : ∀ cs : List Stmt, sizeOf cs < k → PSs Ω rec n cs := by
 induction k with
 | zero => exact fun cs h => absurd h (Nat.not_lt_zero _)
 | succ k ih =>
  intro cs h
  cases cs with
  | nil => exact @ss_nil Ω rec n
  | cons c cs =>
   have h1 : PS Ω rec n c := @ps_step Ω rec n O L c fun cs' h' => ih cs' (Nat.lt_of_lt_of_le (Nat.lt_trans h' (List.sizeOf_lt_of_mem (.head _))) (Nat.le_of_lt_succ h))
   have h2 : PSs Ω rec n cs := ih cs (Nat.lt_of_lt_of_le (szc (szM) (List.cons.sizeOf_spec ..)) (Nat.le_of_lt_succ h))
   exact @ss_cons Ω rec n c cs h1 h2
theorem goodSs (O : Ok Ω rec n) (L : LongDict Ω rec n) (cs : List Stmt) : PSs Ω rec n cs := goodSs_le O L (sizeOf cs + 1) cs (Nat.lt_succ_self _)
end
end Mine
namespace Mine
open PySem PySem.W PySem.Calls PyProof.Rows PySem.SeqAt
noncomputable def addAll (slots : List (Str × Value)) : List (Str × Value) → List (Str × Value)
 | [] => slots
 | (x, d) :: r => if (slots.lookup x).isNone then addAll (slots ++ [(x, d)]) r else addAll slots r
theorem addAll_go (f : Str × Value → List (Str × Value) → Sem (ForInStep (List (Str × Value)))) (hf : ∀ x d s, f (x, d) s = if (s.lookup x).isNone = true then pure (.yield (s ++ [(x, d)])) else pure (.yield s)) :
  ∀ (L slots : List (Str × Value)), forIn L slots f = pure (addAll slots L)
 | [], slots => by rw [List.forIn_nil]; rfl
 | (x, d) :: r, slots => by
  rw [List.forIn_cons, hf]
  unfold addAll
  split
  ·show forIn r _ f = _
   exact addAll_go f hf r _
  ·show forIn r _ f = _
   exact addAll_go f hf r _
theorem lookup_some_of_mem {x : Str} : ∀ {l : List (Str × Value)}, x ∈ l.map (·.1) → (l.lookup x).isSome = true
 | [], h => by cases h
 | (y, v) :: r, h => by
  rw [List.lookup_cons]
  cases hxy : x == y with
  | true => rfl
  | false =>
   rcases List.mem_cons.mp h with e | h
   ·rw [e] at hxy; simp at hxy
   ·exact lookup_some_of_mem h
theorem lookup_none_of_not {x : Str} : ∀ {l : List (Str × Value)}, x ∉ l.map (·.1) → l.lookup x = none
 | [], _ => rfl
 | (y, v) :: r, h => by
  simp only [List.map_cons, List.mem_cons, not_or] at h
  rw [List.lookup_cons, beq_false_of_ne h.1]
  exact lookup_none_of_not h.2
theorem addAll_old : ∀ (L L2 slots : List (Str × Value)), (∀ x ∈ L.map (·.1), x ∈ slots.map (·.1)) → addAll slots (L ++ L2) = addAll slots L2
 | [], _, _, _ => rfl
 | (x, d) :: r, L2, slots, h => by
  have h1 := lookup_some_of_mem (h x (.head _))
  show (if (slots.lookup x).isNone = true then _ else _) = _
  rw [if_neg (by rw [Option.isNone_iff_eq_none]; intro e; rw [e] at h1; cases h1)]
  exact addAll_old r L2 slots fun y hy => h y (.tail _ hy)
theorem addAll_new : ∀ (L slots : List (Str × Value)), (L.map (·.1)).Nodup → (∀ x ∈ L.map (·.1), x ∉ slots.map (·.1)) → addAll slots L = slots ++ L
 | [], slots, _, _ => by simp [addAll]
 | (x, d) :: r, slots, hn, h => by
  rw [List.map_cons, List.nodup_cons] at hn
  have h1 := lookup_none_of_not (h x (.head _))
  show (if (slots.lookup x).isNone = true then _ else _) = _
  rw [if_pos (by rw [h1]; rfl), addAll_new r _ hn.2 fun y hy => ?_]
  ·simp
  ·rw [List.map_append, List.mem_append, not_or]
   refine ⟨h y (.tail _ hy), fun hm => ?_⟩
   simp at hm
   exact hn.1 (hm ▸ hy)
theorem zip_names : ∀ (P : List Str) (vs : List Value), ((P.zip vs).map (·.1)) = P.take vs.length
 | [], _ => by simp
 | p :: P, [] => by simp
 | p :: P, v :: vs => by simp [zip_names P vs]
theorem zip_take : ∀ (P : List Str) (vs : List Value), P.zip vs = (P.take vs.length).zip vs
 | [], _ => by simp
 | p :: P, [] => by simp
 | p :: P, v :: vs => by simp [← zip_take P vs]
theorem ar1 {p v d : Nat} (h2 : p ≤ v + d) (h3 : d ≤ p) : p - d + (v + d - p) = v := by
 rw [← Nat.add_sub_assoc h2, Nat.add_left_comm, Nat.sub_add_cancel h3, Nat.add_sub_cancel]
theorem ar2 {p v d i : Nat} (h2 : p ≤ v + d) (h3 : d ≤ p) (hi : i < min (v + d - p) (p - (p - d))) : p - d + i < min v p := by
 rw [Nat.sub_sub_self h3] at hi
 have a := Nat.add_lt_add_left (Nat.lt_min.mp hi).1 (p - d)
 have b := Nat.add_lt_add_left (Nat.lt_min.mp hi).2 (p - d)
 rw [ar1 h2 h3] at a
 rw [Nat.sub_add_cancel h3] at b
 exact Nat.lt_min.mpr ⟨a, b⟩
theorem ar3 {p v d i : Nat} (h2 : p ≤ v + d) (hi : i < min (p - d) p) : i < min v p :=
 Nat.lt_min.mpr ⟨Nat.lt_of_lt_of_le (Nat.lt_min.mp hi).1 (Nat.sub_le_of_le_add h2), (Nat.lt_min.mp hi).2⟩
theorem ar4 {p v d : Nat} (h1 : v ≤ p) (h2 : p ≤ v + d) : v + (d - (v + d - p)) = p := by
 rw [← Nat.add_sub_assoc (Nat.sub_le_of_le_add (Nat.add_comm d p ▸ Nat.add_le_add_right h1 d)), Nat.sub_sub_self h2]
theorem slots_eq {P : List Str} {vs ds : List Value} (hnd : P.Nodup) (h1 : vs.length ≤ P.length) (h2 : P.length ≤ vs.length + ds.length) (h3 : ds.length ≤ P.length) :
  addAll (P.zip vs) ((P.drop (P.length - ds.length)).zip ds) = P.zip (vs ++ ds.drop (vs.length + ds.length - P.length)) := by
 have hsplit : (P.drop (P.length - ds.length)).zip ds = ((P.drop (P.length - ds.length)).take (vs.length + ds.length - P.length)).zip (ds.take (vs.length + ds.length - P.length)) ++ (P.drop vs.length).zip (ds.drop (vs.length + ds.length - P.length)) := by
  have e1 : P.drop (P.length - ds.length) = (P.drop (P.length - ds.length)).take (vs.length + ds.length - P.length) ++ P.drop vs.length := by
   conv => lhs; rw [← List.take_append_drop (vs.length + ds.length - P.length) (P.drop (P.length - ds.length))]
   rw [List.drop_drop, ar1 h2 h3]
  have e2 : ds = ds.take (vs.length + ds.length - P.length) ++ ds.drop (vs.length + ds.length - P.length) := (List.take_append_drop _ _).symm
  conv => lhs; rw [e1]; rhs; rw [e2]
  rw [List.zip_append (by rw [List.length_take, List.length_take, List.length_drop, Nat.sub_sub_self h3])]
 rw [hsplit, addAll_old, addAll_new]
 ·have e3 : P.zip (vs ++ ds.drop (vs.length + ds.length - P.length)) = (P.take vs.length ++ P.drop vs.length).zip (vs ++ ds.drop (vs.length + ds.length - P.length)) := by rw [List.take_append_drop]
  rw [e3, List.zip_append (List.length_take_of_le h1)]
  congr 1
  exact zip_take P vs
 ·rw [zip_names]
  exact List.Nodup.sublist (List.take_sublist _ _) (List.Nodup.sublist (List.drop_sublist _ _) hnd)
 ·intro x hx hx'
  rw [zip_names] at hx hx'
  have hnd' : (P.take vs.length ++ P.drop vs.length).Nodup := by rw [List.take_append_drop]; exact hnd
  exact (List.nodup_append.mp hnd').2.2 x hx' x (List.mem_of_mem_take hx) rfl
 ·intro x hx
  rw [zip_names] at hx ⊢
  have := List.mem_of_mem_take hx
  rw [List.mem_take_iff_getElem] at this
  obtain ⟨i, hi, rfl⟩ := this
  rw [List.mem_take_iff_getElem]
  simp only [List.length_drop] at hi
  refine ⟨P.length - ds.length + i, ar2 h2 h3 hi, ?_⟩
  rw [List.getElem_drop]
theorem filter_zip : ∀ {P : List Str} {ws : List Value}, P.Nodup → ws.length = P.length → ∀ (pre : List (Str × Value)), (∀ x ∈ P, x ∉ pre.map (·.1)) → (P.filterMap fun n => ((pre ++ P.zip ws).lookup n).map (n, ·)) = P.zip ws
 | [], ws, _, _, _, _ => by simp
 | p :: P, [], _, h, _, _ => by simp at h
 | p :: P, w :: ws, hn, h, pre, hp => by
  rw [List.nodup_cons] at hn
  have h0 : (pre ++ (p, w) :: P.zip ws).lookup p = some w := by
   rw [List.lookup_append, lookup_none_of_not (hp p (.head _)), Option.none_or, List.lookup_cons, beq_self_eq_true]
  rw [List.zip_cons_cons, List.filterMap_cons, h0]
  show (p, w) :: _ = _
  congr 1
  have ih := filter_zip (P := P) (ws := ws) hn.2 (by simpa using h) (pre ++ [(p, w)]) fun x hx => by
   rw [List.map_append, List.mem_append, not_or]
   refine ⟨hp x (.tail _ hx), fun hm => ?_⟩
   simp at hm
   exact hn.1 (hm ▸ hx)
  rw [List.append_assoc] at ih
  exact ih
theorem bind_simple {s : Shared} {fd : FuncData} {P : List Str} (h1 : fd.params.posonlyargs = []) (h2 : fd.params.args.map (·.arg) = P) (h3 : fd.params.kwonlyargs = []) (h4 : fd.params.vararg = none) (h5 : fd.params.kwarg = none) (hnd : P.Nodup) {ds vs : List Value}
  (hd : ∀ (M : Model) (A : Around) (E : Value → Shared → Prop) (Q : Option (Array Value) → Shared → Prop), (∀ x, (x.getD #[]).toList = ds → Q x s) → wpAny M A (seqItems? fd.defaults) Q E s)
  (l1 : vs.length ≤ P.length) (l2 : P.length ≤ vs.length + ds.length) (l3 : ds.length ≤ P.length) : BindsTo s fd ⟨vs, []⟩ (P.zip (vs ++ ds.drop (vs.length + ds.length - P.length))) := by
 intro M A E Q hQ
 have hdrop : ds.drop (ds.length - P.length) = ds := by rw [Nat.sub_eq_zero_of_le l3]; rfl
 have c1 : ¬ (decide (vs.length > P.length) && (none : Option Arg).isNone) = true := by rw [decide_eq_false (Nat.not_lt.mpr l1)]; exact Bool.false_ne_true
 have c2 : ¬ (!((P.take (P.length - (ds.drop (ds.length - P.length)).length)).filter (fun n => ((P.zip vs).lookup n).isNone)).isEmpty) = true := by
  rw [hdrop, List.filter_eq_nil_iff.mpr fun n hn => ?_]
  ·exact Bool.false_ne_true
  ·have : n ∈ (P.zip vs).map (·.1) := by
    rw [zip_names, List.mem_take_iff_getElem]
    rw [List.mem_take_iff_getElem] at hn
    obtain ⟨i, hi, rfl⟩ := hn
    exact ⟨i, ar3 l2 hi, rfl⟩
   have h := lookup_some_of_mem this
   rw [Option.isNone_iff_eq_none]
   intro e; rw [e] at h; cases h
 have hf : ((P ++ []).filterMap fun n => ((addAll (P.zip vs) ((P.drop (P.length - (ds.drop (ds.length - P.length)).length)).zip (ds.drop (ds.length - P.length)))).lookup n).map (n, ·)) = P.zip (vs ++ ds.drop (vs.length + ds.length - P.length)) := by
  rw [hdrop, slots_eq hnd l1 l2 l3, List.append_nil]
  exact filter_zip hnd (by rw [List.length_append, List.length_drop]; exact ar4 l1 l2) [] fun x _ h => nomatch h
 rw [← hf] at hQ
 clear hf hdrop l1 l2 l3 hnd
 obtain ⟨nm, qn, ⟨po, ar, va, ko, kd, kw, df⟩, bd, sc, gl, cl, de, ke, dc, pm, an, co, ct, bu⟩ := fd
 dsimp only at h1 h2 h3 h4 h5 hd
 subst h1 h2 h3 h4 h5
 unfold bindArgs
 refine wpAny_bind (wpE (List.forIn_nil ..) (wpAny_pure (wpAny_bind (hd _ _ _ _ fun x hx => ?_))))
 clear hd
 subst hx
 refine wpE (if_neg c1) (wpE (if_neg c2) (wpAny_bind (wpE (addAll_go _ (fun _ _ _ => rfl) _ _) (wpAny_pure (wpAny_bind (wpE (List.forIn_nil ..) (wpAny_pure (wpE (if_neg Bool.false_ne_true) (wpAny_pure hQ)))))))))
end Mine
namespace Mine
open PySem PySem.W PySem.Calls PyProof.Rows PySem.SeqAt
structure FnOk (Ω : Wld) (i j : Nat) (d : Fn) : Prop where
 fd : ∃ o fd, Ω.h₀.get? (Ω.ad i j) = some o ∧ o.data = .func fd ∧ fd.body = .stmts d.body ∧ fd.scope = d.scope ∧ fd.globals = mainGlobals ∧ fd.closure = [] ∧ fd.builtins = builtinsNs ∧ Ω.h₀.CodeRec fd.code fd.qualname ∧
  fd.params.posonlyargs = [] ∧ fd.params.args.map (·.arg) = d.params ∧ fd.params.kwonlyargs = [] ∧ fd.params.vararg = none ∧ fd.params.kwarg = none ∧
  ((fd.defaults = .none ∧ d.defaults = []) ∨ ∃ T o ws m, fd.defaults = .ref T ∧ Ω.h₀.get? T = some o ∧ o.data = .seq ws m ∧ VRs Ω.ad (fun a => Ω.h₀.get? a) (fun _ => none) d.defaults ws.toList)
 kind : d.scope.kind = .function
 co : d.scope.isCoroutine = false
 gen : d.scope.isGenerator = false
 nodup : (d.scope.names.map (·.1)).Nodup
 nofree : ∀ x ∈ d.scope.names, x.2 ≠ .free
 parms : d.params.Nodup ∧ ∀ x ∈ d.params, lookKind d.scope x = some .local ∨ lookKind d.scope x = some .cell
 dfl : d.defaults.length ≤ d.params.length
 keep : keepIn Ω.K (.ref (Ω.ad i j)) = true
structure Facts (Ω : Wld) : Prop where
 cls : ∀ c, isCls c = true → ClsOk Ω c
 glob : GlobOk Ω
 fn : ∀ i j d, Ω.T.fn i j = some d → FnOk Ω i j d
 keepC : ∀ c, isCls c = true → keepIn Ω.K (.ref (Ω.ad c 0)) = true
 init : ∀ c ms k, isCls c = true → Ω.T.cls c = some ms → methAt (Str.ofString "__init__") ms = some k → (Ω.T.fn c k).isSome = true
noncomputable def foldL (l : Loc) : List (Str × MV) → Loc
 | [] => l
 | (x, v) :: r => foldL (setL x v l) r
theorem bindP_eq : ∀ {P : List Str} {args ds : List MV} {l l' : Loc}, bindP P args ds l = some l' → args.length ≤ P.length ∧ P.length ≤ args.length + ds.length ∧ l' = foldL l (P.zip (args ++ ds.drop (args.length + ds.length - P.length)))
 | [], [], ds, l, l', h => ⟨Nat.le_refl _, Nat.zero_le _, (Option.some.inj h).symm⟩
 | [], _ :: _, ds, l, l', h => noK h
 | p :: ps, v :: vs, ds, l, l', h => by
  obtain ⟨a, b, c⟩ := bindP_eq (show bindP ps vs ds (setL p v l) = some l' from h)
  refine ⟨Nat.succ_le_succ a, Nat.succ_add vs.length ds.length ▸ Nat.succ_le_succ b, ?_⟩
  rw [c, show (v :: vs).length + ds.length - (p :: ps).length = vs.length + ds.length - ps.length from Nat.succ_add vs.length ds.length ▸ Nat.succ_sub_succ _ _]
  rfl
 | p :: ps, [], ds, l, l', h => by
  refine ifK h fun hl h => ?_
  have hlt : ds.length - (ps.length + 1) < ds.length := Nat.sub_lt (Nat.lt_of_lt_of_le (Nat.succ_pos _) hl) (Nat.succ_pos _)
  have hd : ds[ds.length - (ps.length + 1)]? = some (ds[ds.length - (ps.length + 1)]'hlt) := List.getElem?_eq_getElem hlt
  generalize ds[ds.length - (ps.length + 1)]? = y at h hd
  subst hd
  obtain ⟨a, b, c⟩ := bindP_eq (show bindP ps [] ds (setL p _ l) = some l' from h)
  refine ⟨Nat.zero_le _, Nat.le_trans hl (Nat.le_of_eq (Nat.zero_add _).symm), ?_⟩
  rw [c]
  show foldL _ (ps.zip (ds.drop (0 + ds.length - ps.length))) = foldL l ((p :: ps).zip (ds.drop (0 + ds.length - (ps.length + 1))))
  rw [Nat.zero_add, List.drop_eq_getElem_cons hlt, show ds.length - (ps.length + 1) + 1 = ds.length - ps.length by lia]
  rfl
section
variable {Ω : Wld} {φ : Phi} {μ : Mu} {kindOf : Str → Option NameKind}
theorem fold_rel : ∀ {P : List Str} {ms : List MV} {Vs : List Value} {l : Loc} {m cm : Str → Option Value}, VRs Ω.ad φ μ ms Vs → (∀ x ∈ P, kindOf x = some .local ∨ kindOf x = some .cell) →
  (∀ x v, getL x l = some v → (kindOf x = some .local → ∃ V, m x = some V ∧ VR Ω.ad φ μ v V) ∧ (kindOf x = some .cell → ∃ V, cm x = some V ∧ VR Ω.ad φ μ v V)) →
  ∀ x v, getL x (foldL l (P.zip ms)) = some v → (kindOf x = some .local → ∃ V, bindL kindOf (P.zip Vs) m x = some V ∧ VR Ω.ad φ μ v V) ∧ (kindOf x = some .cell → ∃ V, bindC kindOf (P.zip Vs) cm x = some V ∧ VR Ω.ad φ μ v V)
 | [], _, _, _, _, _, _, _, h => h
 | p :: P, [], Vs, l, m, cm, r, _, h => by
  obtain rfl : Vs = [] := r
  exact h
 | p :: P, w :: ms, _, l, m, cm, ⟨W, Vs, e, r, rs⟩, hk, h => by
  subst e
  rw [List.zip_cons_cons, List.zip_cons_cons]
  show ∀ x v, getL x (foldL (setL p w l) (P.zip ms)) = some v → (kindOf x = some .local → ∃ V, bindL kindOf (P.zip Vs) (if kindOf p = some .local then fun y => if y = p then some W else m y else m) x = some V ∧ VR Ω.ad φ μ v V) ∧
   (kindOf x = some .cell → ∃ V, bindC kindOf (P.zip Vs) (if kindOf p = some .local then cm else fun y => if y = p then some W else cm y) x = some V ∧ VR Ω.ad φ μ v V)
  refine fold_rel rs (fun x hx => hk x (.tail _ hx)) fun x v hx => ?_
  rw [getL_setL] at hx
  by_cases hp : x = p
  ·subst hp
   rw [if_pos rfl] at hx
   cases hx
   refine ⟨fun hl => ⟨W, ?_, r⟩, fun hc => ⟨W, ?_, r⟩⟩
   ·rw [if_pos hl]; simp
   ·rw [if_neg (by rw [hc]; decide)]; simp
  ·rw [if_neg hp] at hx
   obtain ⟨a, b⟩ := h x v hx
   refine ⟨fun hl => ?_, fun hc => ?_⟩
   ·obtain ⟨V, e, q⟩ := a hl
    refine ⟨V, ?_, q⟩
    split
    ·simp [hp, e]
    ·exact e
   ·obtain ⟨V, e, q⟩ := b hc
    refine ⟨V, ?_, q⟩
    split
    ·exact e
    ·simp [hp, e]
end
end Mine
namespace Mine
open PySem PySem.W PySem.Calls PyProof.Rows PySem.SeqAt
noncomputable def Ends1 {α : Type} (t : Sem α) : Prop := ∀ {M : Model} {Γ : Ctx} {Q : α → Pos → Shared → Prop} {E : Value → Pos → Shared → Prop} {p : Pos} {s : Shared}, Sem.wp M Γ t (fun a p s' => 1 ≤ s'.toks → Q a p s') E p s → Sem.wp M Γ t Q E p s
theorem Ends1.l {α β : Type} {t : Sem α} {f : α → Sem β} (h : Ends1 t) : Ends1 (t >>= f) := fun {M Γ Q E p s} W => by
 have W : Sem.wp M Γ (t.bind f) (fun a p s' => 1 ≤ s'.toks → Q a p s') E p s := W
 show Sem.wp M Γ (t.bind f) Q E p s
 rw [Sem.wp_bind] at W ⊢
 exact h (Sem.wp_mono M Γ t (fun a p s' w ht => Sem.wp_mono M Γ (f a) (fun _ _ _ z => z.2 z.1) (fun _ _ _ z => z.2) _ _ (Sem.wp_toks M Γ 1 (f a) _ _ p s' ht w)) (fun _ _ _ e => e) _ _ W)
theorem Ends1.r {α β : Type} {t : Sem α} {f : α → Sem β} (h : ∀ a, Ends1 (f a)) : Ends1 (t >>= f) := fun {M Γ Q E p s} W => by
 have W : Sem.wp M Γ (t.bind f) (fun a p s' => 1 ≤ s'.toks → Q a p s') E p s := W
 show Sem.wp M Γ (t.bind f) Q E p s
 rw [Sem.wp_bind] at W ⊢
 exact Sem.wp_mono M Γ t (fun a p s' w => h a w) (fun _ _ _ e => e) _ _ W
theorem fresh_ends : Ends1 fresh := fun {M Γ Q E p s} W => (show 1 ≤ s.toks + 1 → Q s.toks p { s with toks := s.toks + 1 } from W) (Nat.succ_le_succ (Nat.zero_le _))
theorem mkText_ends (x : Str) : Ends1 (mkText x) := fresh_ends.l
theorem nsSet_ends (a : Addr) (x : Str) (v : Value) : Ends1 (nsSet a x v) := Ends1.r fun _ => Ends1.l (mkText_ends x)
theorem storeName_ends {env : Env} {x : Str} {v : Value} (hl : env.kindOf x = some .local) (hk : env.scope.kind = .function) : Ends1 (storeName env x v) := by
 unfold storeName
 rw [hl, hk]
 exact nsSet_ends _ _ _
theorem fenv_ends {scope : Scope} {globals : Addr} {x : Str} {v : Value} {r : List (Str × Value)} {qual : Str} {func : Option Addr} {code : Value} {builtins : Addr} (hl : scope.names.lookup x = some .local) (hk : scope.kind = .function) :
  Ends1 (newFunctionEnv scope globals [] ((x, v) :: r) qual func code none builtins) := by
 unfold newFunctionEnv
 refine Ends1.r fun L => Ends1.r fun C => Ends1.l (Ends1.l (Ends1.l (storeName_ends ?_ ?_)))
 ·exact hl
 ·exact hk
theorem fenv_toks {M : Model} {A : Around} {s : Shared} {Q : Env → Shared → Prop} {E : Value → Shared → Prop} {scope : Scope} {globals : Addr} {binds : List (Str × Value)} {qual : Str} {func : Option Addr} {code : Value} {builtins : Addr}
  (h : 1 ≤ s.toks ∨ ∃ x v r, binds = (x, v) :: r ∧ scope.names.lookup x = some .local) (hk : scope.kind = .function)
  (W : wpAny M A (newFunctionEnv scope globals [] binds qual func code none builtins) (fun env s' => 1 ≤ s'.toks → Q env s') E s) : wpAny M A (newFunctionEnv scope globals [] binds qual func code none builtins) Q E s := by
 rcases h with h | ⟨x, v, r, rfl, hl⟩
 ·exact wpAny_toks h W
 ·exact fun Γ p hΓ => fenv_ends hl hk (W Γ p hΓ)
section
variable {Ω : Wld} {rec : Rec} {n : Nat} {φ φ' : Phi} {μ μ' : Mu} {st st' : St} {s s' : Shared} {E : Value → Shared → Prop} {A : Around}
theorem fn_frame {d : Fn} {i j : Nat} (D : FnOk Ω i j d) (I : Inv Ω φ μ st s) {a : Addr} {q : Str} {code : Value} {env : Env} (he : env = newEnv d.scope s.heap.objs.size mainGlobals (cellsFrom (s.heap.objs.size + 1) d.scope.names []) q (some a) code none builtinsNs)
  {ms : List MV} {Vs : List Value} (r : VRs Ω.ad φ μ ms Vs) {s₂ : Shared} (x : InCallC s env.locals (bindL env.kindOf (d.params.zip Vs) fun _ => none) env.cells (bindC env.kindOf (d.params.zip Vs) fun _ => none) s₂) :
  KindOk d.scope env ∧ FrOk Ω φ μ s₂.heap env (foldL [] (d.params.zip ms)) ∧ Ext φ μ s.heap φ μ s₂.heap ∧ Inv Ω φ μ st s₂ ∧ s.heap.objs.size ≤ env.locals ∧ ∀ y c, env.cells.lookup y = some c → s.heap.objs.size ≤ c := by
 have hloc : env.locals = s.heap.objs.size := by rw [he]; rfl
 have hsc : env.scope = d.scope := by rw [he]; rfl
 have hcells : env.cells = cellsFrom (s.heap.objs.size + 1) d.scope.names [] := by rw [he]; rfl
 have hk := fun y => kindOf_eq hsc y
 have hnf : ∀ y, lookKind d.scope y ≠ some .free := fun y hy => D.nofree _ (lookKind_mem hy) rfl
 have hlt := x.toInCall.ns.lt
 have hsz : s.heap.objs.size ≤ s₂.heap.objs.size := by rw [hloc] at hlt; exact Nat.le_of_lt hlt
 obtain ⟨h', tk, rfl, keep⟩ := x.done
 have above : ∀ y c, env.cells.lookup y = some c → env.locals < c := fun y c h => x.above y c (mem_of_lookup h)
 have rel := fold_rel (kindOf := env.kindOf) (l := []) (m := fun _ => none) (cm := fun _ => none) r (fun y hy => by rw [hk y]; exact D.parms.2 y hy) (fun y v h => by cases h)
 refine ⟨KindOk.of hsc hnf, ⟨?_, ?_, ?_, ⟨_, x.toInCall.ns, fun y v hl e => (rel y v e).1 hl⟩, fun y v hc e => ?_, fun y hc => ?_, ?_, fun y c h => ?_, fun y z c h1 h2 => ?_⟩, Ext.keeps keep hsz, I.keeps keep hsz, Nat.le_of_eq hloc.symm, fun y c h => ?_⟩
 ·rw [hsc]; exact D.kind
 ·rw [he]; rfl
 ·rw [he]; rfl
 ·have hc : env.kindOf y = some .cell := by
   rcases hc with h | h
   ·exact h
   ·rw [hk] at h; exact absurd h (hnf y)
  obtain ⟨V, e1, e2⟩ := (rel y v e).2 hc
  obtain ⟨c, hc'⟩ := Option.isSome_iff_exists.mp (cellsFrom_get d.scope.names (s.heap.objs.size + 1) [] y (.inl (lookKind_mem (by rw [← hk]; exact hc))))
  have hl : env.cells.lookup y = some c := by rw [hcells]; exact hc'
  exact ⟨c, V, hl, e1 ▸ x.cell y c hl, e2⟩
 ·obtain ⟨c, hc'⟩ := Option.isSome_iff_exists.mp (cellsFrom_get d.scope.names (s.heap.objs.size + 1) [] y (.inl (lookKind_mem (by rw [← hk]; exact hc))))
  have hl : env.cells.lookup y = some c := by rw [hcells]; exact hc'
  exact ⟨c, _, hl, x.cell y c hl⟩
 ·rw [hloc]; exact I.new_off (Nat.le_refl _)
 ·have h1 := above y c h
  have h2 : s.heap.objs.size ≤ c := by rw [← hloc]; exact Nat.le_of_lt h1
  exact ⟨(I.new_off h2).1, (I.new_off h2).2, Nat.ne_of_gt h1, (x.cell y c h).lt⟩
 ·exact name_of_addr x.apart (mem_of_lookup h1) (mem_of_lookup h2)
 ·rw [← hloc]; exact Nat.le_of_lt (above y c h)
theorem Room.deep {env : Env} (R : Room (n + 1) A) : Room n (A.deeper env) := by
 obtain ⟨a, b, c⟩ := R
 exact ⟨a, by show A.depth + 1 + 3 * n + 20 < 1000; lia, by show A.units + 3 + 10 * n + 200 < 9900; lia⟩
theorem Room.new {C : Addr} {rest : List Value} (R : Room (n + 1) A) : Room n (A.under (.builtin "type.__call__" ⟨.ref C :: rest, []⟩)) := by
 obtain ⟨a, b, c⟩ := R
 refine ⟨a, ?_, ?_⟩
 ·show A.depth + (Code.builtin "type.__call__" ⟨.ref C :: rest, []⟩).weight + 3 * n + 20 < 1000
  rw [show (Code.builtin "type.__call__" ⟨.ref C :: rest, []⟩).weight = 1 from rfl]; lia
 ·show A.units + (Code.builtin "type.__call__" ⟨.ref C :: rest, []⟩).cUnits + 10 * n + 200 < 9900
  rw [show (Code.builtin "type.__call__" ⟨.ref C :: rest, []⟩).cUnits = 1 from rfl]; lia
noncomputable def PC (Ω : Wld) (n : Nat) : Prop := ∀ {i j : Nat} {args : List MV} {st : St} {v : MV} {st' : St}, callN Ω.T Ω.pol n (.fn i j) args st = some (v, st') → ∀ {A : Around} {Vs : List Value} {s : Shared} {φ : Phi} {μ : Mu} {R : Result → Shared → Prop}, Room n A → Inv Ω φ μ st s → 1 ≤ s.toks → VRs Ω.ad φ μ args Vs →
  AnsE Ω φ μ s.heap st' v (fun V s' => R (.ok (.ret V)) s') → codeAny (model Ω.P Ω.w) A (.call (.ref (Ω.ad i j)) ⟨Vs, []⟩) R s
theorem cls_of {i : Nat} {a : Ad} (h : clsAd i = some a) : isCls i = true := by
 unfold isCls
 unfold clsAd at h
 rcases ifE h with ⟨e, _⟩ | ⟨_, h⟩
 ·subst e; rfl
 rcases ifE h with ⟨e, _⟩ | ⟨_, h⟩
 ·subst e; rfl
 rcases ifE h with ⟨e, _⟩ | ⟨_, h⟩
 ·subst e; rfl
 rcases ifE h with ⟨e, _⟩ | ⟨_, h⟩
 ·subst e; rfl
 exact noK h
section
variable {T : Tab} {pol : Pol} {i j : Nat} {args : List MV} {st : St}
theorem callN_s {d : Fn} (h : T.fn i j = some d) : callN T pol (n + 1) (.fn i j) args st = ob (bindP d.params args d.defaults (locInit d.scope)) fun loc => retOf (evSs T pol (callN T pol n) d.body d.scope loc st) := by
 show (match T.fn i j with
  | some d => ob (bindP d.params args d.defaults (locInit d.scope)) fun loc => retOf (evSs T pol (callN T pol n) d.body d.scope loc st)
  | none => _) = _
 rw [h]
theorem callN_z (h : T.fn i 0 = none) : callN T pol (n + 1) (.fn i 0) args st = ob (T.cls i) fun ms => ob (methAt (Str.ofString "__init__") ms) fun k => ob (clsAd i) fun a => ob (st.alloc a (.inst i [])) fun st =>
  pb (callN T pol n (.fn i k) (.ref a :: args) st) fun v st => noneThen a v st := by
 show (match T.fn i 0 with
  | some d => ob (bindP d.params args d.defaults (locInit d.scope)) fun loc => retOf (evSs T pol (callN T pol n) d.body d.scope loc st)
  | none => _) = _
 rw [h]; rfl
theorem callN_ns (h : T.fn i (j + 1) = none) : callN T pol (n + 1) (.fn i (j + 1)) args st = none := by
 show (match T.fn i (j + 1) with
  | some d => ob (bindP d.params args d.defaults (locInit d.scope)) fun loc => retOf (evSs T pol (callN T pol n) d.body d.scope loc st)
  | none => _) = _
 rw [h]; rfl
end
theorem callN_keep (Fa : Facts Ω) {i j : Nat} {args : List MV} {st : St} {r : MV × St} (h : callN Ω.T Ω.pol n (.fn i j) args st = some r) : keepIn Ω.K (.ref (Ω.ad i j)) = true := by
 cases n with
 | zero => cases h
 | succ n =>
  cases hd : Ω.T.fn i j with
  | some d => exact (Fa.fn _ _ _ hd).keep
  | none =>
   cases j with
   | succ j => exact noK ((callN_ns hd).symm.trans h)
   | zero =>
    refine obK ((callN_z hd).symm.trans h) fun ms h1 h => ?_
    revert h
    refine obR fun k h2 h => ?_
    revert h
    refine obR fun a h3 h => ?_
    exact Fa.keepC i (cls_of h3)
theorem Ok.of (Fa : Facts Ω) (H : PC Ω n) : Ok Ω (callN Ω.T Ω.pol n) n :=
 ⟨Fa.cls, Fa.glob, fun h => callN_keep Fa h, by
  intro i j args st v st' h A Vs s φ μ Q E R I ht r k
  exact wpAny_call (H h R I ht r fun V s' φ' μ' x J t rv => k V s' φ' μ' x J t rv)⟩
theorem fn_sound (Fa : Facts Ω) (L : LongDict Ω (callN Ω.T Ω.pol n) n) (H : PC Ω n) {i j : Nat} {d : Fn} (hd : Ω.T.fn i j = some d) {args : List MV} {v : MV} {l : Loc} (h1 : bindP d.params args d.defaults (locInit d.scope) = some l)
  (h2 : retOf (evSs Ω.T Ω.pol (callN Ω.T Ω.pol n) d.body d.scope l st) = some (v, st')) {Vs : List Value} {R : Result → Shared → Prop} (Rm : Room (n + 1) A) (I : Inv Ω φ μ st s) (ht : 1 ≤ s.toks ∨ ∃ x xs V Vs', d.params = x :: xs ∧ d.scope.names.lookup x = some .local ∧ Vs = V :: Vs') (r : VRs Ω.ad φ μ args Vs)
  (k : AnsE Ω φ μ s.heap st' v (fun V s' => R (.ok (.ret V)) s')) : codeAny (model Ω.P Ω.w) A (.call (.ref (Ω.ad i j)) ⟨Vs, []⟩) R s := by
 have D := Fa.fn i j d hd
 obtain ⟨o, fd, ho, hdat, hbody, hscope, hglob, hclo, hbi, hcode, p1, p2, p3, p4, p5, hdef⟩ := D.fd
 obtain ⟨b1, b2, rfl⟩ := bindP_eq h1
 have hlen := r.length
 have hdv : ∃ ds : List Value, VRs Ω.ad φ μ d.defaults ds ∧ ∀ (M : Model) (A : Around) (E : Value → Shared → Prop) (Q : Option (Array Value) → Shared → Prop), (∀ x, (x.getD #[]).toList = ds → Q x s) → wpAny M A (seqItems? fd.defaults) Q E s := by
  rcases hdef with ⟨e1, e2⟩ | ⟨T, o', ws, m, e1, e2, e3, e4⟩
  ·refine ⟨[], by rw [e2]; rfl, fun M A E Q hQ => ?_⟩
   rw [e1]
   exact wpAny_pure (hQ none rfl)
  ·refine ⟨ws.toList, e4.mono (fun a o q => I.base a o q) (fun a p q => by cases q), fun M A E Q hQ => ?_⟩
   rw [e1]
   exact wpAny_seqItems (I.K _ _ e2) e3 (hQ (some ws) rfl)
 obtain ⟨ds, rd, hseq⟩ := hdv
 have hdl := rd.length
 have hb := bind_simple p1 p2 p3 p4 p5 D.parms.1 hseq (vs := Vs) (by lia) (by lia) (by have := D.dfl; lia)
 have hg := I.K _ _ ho
 refine codeAny_call_function (by have := Rm.d; show A.depth < 1000; lia) hg hdat (by rw [hscope]; exact D.co) (by rw [hscope]; exact D.gen) hbody (hcode.keeps I.K) (hb _ _ _ _ ?_)
 rw [hscope, hglob, hclo, hbi]
 have hpar : ∀ x ∈ d.params.zip (Vs ++ ds.drop (Vs.length + ds.length - d.params.length)), d.scope.names.lookup x.1 = some .local ∨ (d.scope.names.lookup x.1 = some .cell ∧ ((cellsFrom (s.heap.objs.size + 1) d.scope.names []).lookup x.1).isSome = true) := fun x hx => by
  have hm : x.1 ∈ d.params := (List.of_mem_zip hx).1
  have e : lookKind d.scope x.1 = d.scope.names.lookup x.1 := by unfold lookKind; rw [kindAt_eq]
  rcases D.parms.2 x.1 hm with q | q
  ·exact .inl (e ▸ q)
  ·exact .inr ⟨e ▸ q, cellsFrom_get _ _ _ _ (.inl (lookKind_mem q))⟩
 refine fenv_toks (ht.imp id ?_) D.kind (wpAny_newFunctionEnv_cells D.kind hpar fun env he s₂ x t₂ => ?_)
 ·rintro ⟨x, xs, V, Vs', e1, e2, e3⟩
  rw [e1, e3]
  exact ⟨x, V, _, rfl, e2⟩
 have rf : VRs Ω.ad φ μ (args ++ d.defaults.drop (args.length + d.defaults.length - d.params.length)) (Vs ++ ds.drop (Vs.length + ds.length - d.params.length)) := by
  rw [hlen, hdl]
  exact r.append (rd.drop _)
 obtain ⟨hko, Fr, xx, J, hl1, hl2⟩ := fn_frame D I he rf x
 refine ⟨(Ω.R.nolimit.keeps I.K).keeps x.toInCall.keep, codeAny_func ?_⟩
 generalize h3 : evSs Ω.T Ω.pol (callN Ω.T Ω.pol n) d.body d.scope _ st = z at h2
 rcases z with _ | ⟨fl, l', st₂⟩
 ·exact noK h2
 refine goodSs (Ok.of Fa H) L d.body h3 Rm.deep hko J Fr t₂ fun f s₃ φ₃ μ₃ x₃ J₃ F₃ t₃ r₃ => ?_
 have y := ((xx.f (sc := d.scope) (env := env)).trans x₃).toExt hl1 fun y c _ h => hl2 y c h
 cases fl with
 | ret w =>
  obtain ⟨V, rfl, rv⟩ := r₃
  exact (k.fin h2) V s₃ φ₃ μ₃ y J₃ t₃ rv
 | next =>
  obtain rfl : f = .next := r₃
  exact (k.fin h2) .none s₃ φ₃ μ₃ y J₃ t₃ rfl
 | _ => exact noK h2
theorem make_sound (Fa : Facts Ω) (H : PC Ω n) {i k : Nat} {ms : List (Str × Nat)} {a : Ad} {args : List MV} {v v' : MV} {st₁ st₂ : St} (hc : isCls i = true) (h1 : Ω.T.cls i = some ms) (h2 : methAt (Str.ofString "__init__") ms = some k) (h3 : st.alloc a (.inst i []) = some st₁)
  (h4 : callN Ω.T Ω.pol n (.fn i k) (.ref a :: args) st₁ = some (v', st₂)) (h5 : noneThen a v' st₂ = some (v, st')) {Vs : List Value} {R : Result → Shared → Prop} (Rm : Room (n + 1) A) (I : Inv Ω φ μ st s) (ht : 1 ≤ s.toks) (r : VRs Ω.ad φ μ args Vs)
  (kk : AnsE Ω φ μ s.heap st' v (fun V s' => R (.ok (.ret V)) s')) : codeAny (model Ω.P Ω.w) A (.call (.ref (Ω.ad i 0)) ⟨Vs, []⟩) R s := by
 have C := Fa.cls i hc
 obtain ⟨m1, m2, m3⟩ := C.mth ms _ k h1 h2 (Fa.init i ms k hc h1 h2)
 obtain ⟨h, g, d, tk, os⟩ := s
 refine make_core (init := .ref (Ω.ad i k)) (makes_of I.X C.made) (looks_findIn I.X m1) (fun self => bind_fn I.X self m2) (.inl rfl) ?_
 have sz1 : (h.push emptyDict).objs.size = h.objs.size + 1 := Heap.size_push ..
 have sz2 : ((h.push emptyDict).push (instObj (Ω.ad i 0) h.objs.size)).objs.size = h.objs.size + 1 + 1 := by rw [Heap.size_push, sz1]
 have keep : ∀ b o, h.get? b = some o → ((h.push emptyDict).push (instObj (Ω.ad i 0) h.objs.size)).get? b = some o := fun b o e => Heap.get?_push_of_some _ (Heap.get?_push_of_some _ e)
 have x0 : Ext φ μ h φ μ ((h.push emptyDict).push (instObj (Ω.ad i 0) h.objs.size)) := Ext.keeps keep (by rw [sz2]; lia)
 have J0 : Inv Ω φ μ st { (⟨h, g, d, tk, os⟩ : Shared) with heap := (h.push emptyDict).push (instObj (Ω.ad i 0) h.objs.size), toks := tk } := I.keeps (tk := tk) keep (by show h.objs.size ≤ _; rw [sz2]; lia)
 have hX := I.new_off (b := h.objs.size + 1) (by show h.objs.size ≤ _; lia)
 have hD := I.new_off (b := h.objs.size) (Nat.le_refl _)
 have hbase : Ω.h₀.objs.size ≤ h.objs.size := I.base_le
 obtain ⟨J1, y⟩ := J0.adopt (h' := (h.push emptyDict).push (instObj (Ω.ad i 0) h.objs.size)) tk h3 hX hD (by lia) hbase (by show _ < ((h.push emptyDict).push _).objs.size; rw [sz2]; lia) (by show _ < ((h.push emptyDict).push _).objs.size; rw [sz2]; lia) rfl (fun _ _ _ => rfl) (o := .inst i []) fun μ' hμ =>
  ⟨Nat.succ_ne_self _, by rw [← sz1]; exact Heap.get?_push_size _ rfl, (fun p hp => by cases hp), ⟨emptyDict, #[], 0, Heap.get?_push_of_some _ (Heap.get?_push_size _ rfl), rfl, fun e he => by simp at he, rfl, fun x => rfl⟩⟩
 have x1 := y x0 (by lia) (Nat.le_refl _)
 refine H h4 Rm.new J1 ht ⟨.ref (h.objs.size + 1), Vs, rfl, ⟨_, _, rfl, putF_self _ _ _⟩, r.mono x1.fro x1.mu⟩ fun V s' φ' μ' x J t rv => ?_
 obtain ⟨rfl, h5⟩ : v' = .none ∧ some (MV.ref a, st₂) = some (v, st') := by cases v' <;> first | exact noK h5 | exact ⟨rfl, h5⟩
 exact ⟨rv, (kk.fin h5) _ s' φ' μ' (x1.trans x) J t ⟨_, _, rfl, x.mu _ _ (putF_self _ _ _)⟩⟩
theorem callN_sound (Fa : Facts Ω) (L : ∀ n, LongDict Ω (callN Ω.T Ω.pol n) n) : ∀ n, PC Ω n := by
 intro n
 induction n with
 | zero => intro i j args st v st' h; cases h
 | succ n ih =>
  intro i j args st v st' h A Vs s φ μ R Rm I ht r k
  cases hd : Ω.T.fn i j with
  | some d =>
   refine obK ((callN_s hd).symm.trans h) fun l h1 h2 => ?_
   exact fn_sound Fa (L n) ih hd h1 h2 Rm I (.inl ht) r k
  | none =>
   cases j with
   | succ j => exact noK ((callN_ns hd).symm.trans h)
   | zero =>
    refine obK ((callN_z hd).symm.trans h) fun ms h1 h => ?_
    revert h
    refine obR fun m h2 h => ?_
    revert h
    refine obR fun a h3 h => ?_
    revert h
    refine obR fun st₁ h4 h => ?_
    revert h
    refine pbR fun v' st₂ h5 h6 => ?_
    exact make_sound Fa ih (cls_of h3) h1 h2 h4 h5 h6 Rm I ht r k
end
end Mine
namespace Mine
open PySem PySem.W PySem.Calls PyProof.Rows PySem.SeqAt
section
variable {P : Program} {w : World} {A : Around} {E : Value → Shared → Prop} {s : Shared}
theorem dictPut_str {d : Addr} {kvs : List (Str × Value)} {k : Str} {key v : Value} {Q : Unit → Shared → Prop} (hkey : (strKind P w).is k key = true) (hm : s.heap.DictOf (strKind P w) d kvs)
  (hQ : ∀ h', h'.DictOf (strKind P w) d (stored kvs k v) → Heap.SameBut d s.heap h' → Q () { s with heap := h' }) (hsz : kvs.length ≤ sizeLine) :
  wpAny (model P w) A (dictPut d ((strKind P w).hash k) key v) Q E s := by
 obtain ⟨o, es, ep, ho, hc, hd, hk, hp, hn⟩ := hm
 have hl : es.toList.length = kvs.length := hp.length
 have hes : es.size ≤ sizeLine := by rw [Array.length_toList] at hl; lia
 have hidx : (es.findIdx? fun e => (strKind P w).is k e.key) = kvs.findIdx? fun kv => decide (kv.1 = k) := by
  rw [← hp.findIdx k]; obtain ⟨l⟩ := es; simp
 unfold dictPut
 refine wpAny_bind (wpAny_dictFind_of hkey ho hd hk ?_)
 cases hi : es.findIdx? fun e => (strKind P w).is k e.key with
 | some i =>
  have hany := any_of_findIdx_some (hidx ▸ hi)
  refine wpAny_updateDict ho hd (hQ _ ⟨_, _, ep, Heap.get?_update_self _ ho (Obj.isFreed_of_dict (Obj.data_mapDict hd _)), hc.mapDict _, Obj.data_mapDict hd _, hk.modify _ _, ?_, ?_⟩ (Heap.SameBut.update ..))
  ·have hl' : (es.toList.findIdx? fun e => (strKind P w).is k e.key) = some i := by rw [← hi]; obtain ⟨l⟩ := es; simp
   have h2 := hp.modify hn hl' v
   unfold stored
   rw [if_pos hany]
   obtain ⟨l⟩ := es
   simpa using h2
  ·unfold stored
   rw [if_pos hany, keys_map_store]; exact hn
 | none =>
  have hnot : k ∉ kvs.map (·.1) := not_mem_of_findIdx_none (hidx ▸ hi)
  have hany : ¬ (kvs.any fun kv => decide (kv.1 = k)) = true := fun q => by
   obtain ⟨kv, h1, h2⟩ := List.any_eq_true.mp q
   exact hnot (List.mem_map.mpr ⟨kv, h1, of_decide_eq_true h2⟩)
  have hnd := (stored_nodup (x := k) (w := v) hn).1
  refine wpAny_updateDictKeys (hz := hes) ho hd (hQ _ ⟨_, _, ep + 1, Heap.get?_update_self _ ho (Obj.isFreed_of_dict (Obj.data_mapDictKeys hd _)), hc.mapDictKeys _, Obj.data_mapDictKeys hd _, hk.push hkey _, ?_, hnd⟩ (Heap.SameBut.update ..))
  have h2 := hp.append hkey ((strKind P w).hash k) v
  unfold stored
  rw [if_neg hany]
  obtain ⟨l⟩ := es
  simpa using h2
theorem isSub_dict : isSubtype (.type "dict") (.type "dict") = pure true := by rw [isSubtype_type]; kernel_rfl
theorem merge_str {d o : Addr} {kvs more : List (Str × Value)} {Q : Unit → Shared → Prop} (hdo : d ≠ o) (hoS : (o == sysModules) = false) (hd : s.heap.DictOf (strKind P w) d kvs) (hne : kvs ≠ []) (ho : s.heap.DictOf (strKind P w) o more)
  (hQ : ∀ h', h'.DictOf (strKind P w) d (merged kvs more) → Heap.SameBut d s.heap h' → Q () { s with heap := h' }) (hsz : kvs.length + more.length ≤ sizeLine) :
  wpAny (model P w) A (mergeMapping d (.ref o) false) Q E s := by
 obtain ⟨od, esd, epd, hod, hcd, hdd, hkd, hpd, hnd⟩ := id hd
 obtain ⟨oo, eso, epo, hoo, hco, hdo', hko, hpo, hno⟩ := id ho
 have hlen : more.length = eso.size := by rw [← hpo.length]; simp
 unfold mergeMapping
 refine wpAny_bind (m := isInstance (.ref o) (.type "dict")) (wpAny_isInstance ho.typeIs isSub_dict ?_)
 rw [if_pos rfl]
 refine wpAny_bind (wpAny_specialOf ho.typeIs PySem.F.slot_dict_iter.lookup ?_)
 rw [show ((some (Value.builtin "dict.__iter__") : Option Value) == some (.builtin "dict.__iter__")) = true from by simp]
 refine wpAny_bind (wpAny_pure ?_)
 dsimp only
 rw [if_neg (by rw [hoS]; exact Bool.false_ne_true)]
 refine wpAny_bind (wpAny_dictEntries hod hdd ?_)
 have hemp : ¬ (esd.isEmpty = true) := fun h => by
  have h0 : esd = #[] := Array.isEmpty_iff.mp h
  have h1 := hpd.length
  rw [h0] at h1
  exact hne (List.length_eq_zero_iff.mp (by simpa using h1.symm))
 rw [if_neg hemp]
 refine wpAny_bind (wpAny_dictEntries hoo hdo' ?_)
 refine wpAny_bind (wpAny_dictEpoch hoo hdo' ?_)
 refine wpAny_bind ?_
 refine wpAny_forIn_list _
  (fun rest _ s' => ∃ h' i, s' = { s with heap := h' } ∧ rest = (List.range eso.size).drop i ∧ i ≤ eso.size ∧ h'.DictOf (strKind P w) d (merged kvs (more.take i)) ∧ h'.get? o = some oo ∧ Heap.SameBut d s.heap h') _ ?_ ?_ _ _
  ⟨s.heap, 0, rfl, by simp, Nat.zero_le _, by simpa [merged] using hd, hoo, Heap.SameBut.refl _ _⟩
 ·rintro x rest b s' ⟨h', i, rfl, hr, hi, hd', hoo', hs'⟩
  have hlt : i < eso.size := by
   rcases Nat.lt_or_ge i eso.size with h | h
   ·exact h
   ·rw [List.drop_eq_nil_of_le (by simpa using h)] at hr; cases hr
  have hlt' : i < (List.range eso.size).length := by simpa using hlt
  rw [List.drop_eq_getElem_cons hlt'] at hr
  obtain ⟨hx, hrest⟩ := List.cons.inj hr
  have hx : x = i := by rw [hx]; simp
  subst hx
  refine wpAny_bind (wpAny_dictEntries hoo' hdo' ?_)
  rw [Array.getElem?_eq_getElem hlt]
  obtain ⟨kv, hkv⟩ : ∃ kv, more[x]? = some kv := ⟨more[x]'(by rw [hlen]; exact hlt), List.getElem?_eq_getElem _⟩
  obtain ⟨k, v⟩ := kv
  obtain ⟨hkey, hval⟩ := hpo.get? (e := eso[x]) (by simp [hlt]) hkv
  obtain ⟨k', hkey', hhash⟩ := hko eso[x] (Array.getElem_mem hlt)
  have hkk : k' = k := (strKind P w).inj _ _ _ hkey' hkey
  subst hkk
  have hmx : (merged kvs (more.take x)).length ≤ sizeLine := by
   have e1 := merged_length_le kvs (more.take x)
   have e2 : (more.take x).length ≤ more.length := by rw [List.length_take]; lia
   lia
  dsimp only
  refine wpAny_bind (wpAny_holding ?_)
  rw [if_neg Bool.false_ne_true, hhash, hval]
  refine dictPut_str hkey hd' (fun h'' hd'' hs'' => ?_) hmx
  have hoo'' : h''.get? o = some oo := (hs''.2 o (Ne.symm hdo)).trans hoo'
  refine wpAny_bind (wpAny_dictEpoch hoo'' hdo' ?_)
  rw [if_neg (by simp)]
  exact wpAny_pure ⟨h'', x + 1, rfl, hrest, hlt, by rw [merged_take_succ kvs more x (k', v) hkv]; exact hd'', hoo'', hs'.trans hs''⟩
 ·rintro b s' ⟨h', i, rfl, hr, hi, hd', hoo', hs'⟩
  have hin : i = eso.size := by
   rcases Nat.lt_or_ge i eso.size with h | h
   ·rw [List.drop_eq_getElem_cons (by simpa using h)] at hr; cases hr
   ·exact Nat.le_antisymm hi h
  refine wpAny_pure (hQ h' ?_ hs')
  rw [hin, ← hlen, List.take_length] at hd'; exact hd'
end
end Mine
namespace Mine
open PySem PySem.W PySem.Calls PyProof.Rows PySem.SeqAt
noncomputable abbrev Pr := Sem Value × Sem Value
theorem gatherR (f : (Option (Sem Value) × Sem Value) → (Option Addr × List Pr) → Sem (ForInStep (Option Addr × List Pr))) (main : Option Addr)
  (hf : ∀ (p : Pr) (run : List Pr), run.length + 1 < 17 → f (some p.1, p.2) (main, run) = pure (.yield (main, run ++ [p]))) (rest : List (Option (Sem Value) × Sem Value)) :
  ∀ (items run : List Pr), run.length + items.length < 17 → forIn (items.map (fun p => (some p.1, p.2)) ++ rest) (main, run) f = forIn rest (main, run ++ items) f
 | [], run, _ => by simp
 | p :: items, run, h => by
  rw [List.map_cons, List.cons_append, List.forIn_cons, hf p run (by simp at h; lia), pure_bind]
  have ih := gatherR f main hf rest items (run ++ [p]) (by simp at h ⊢; lia)
  simpa using ih
section
variable {P : Program} {w : World} {A : Around} {E : Value → Shared → Prop} {s : Shared}
theorem display_long {X Y : List Pr} {a : Pr} {Q : Value → Shared → Prop} (hX : X.length = 16) (hY : Y.length < 17) (hY0 : Y ≠ [])
  (h : wpAny (model P w) A (subDict (X ++ [a])) (fun d s₁ => wpAny (model P w) A (subDict Y) (fun sub s₂ => ∀ E', wpAny (model P w) A (mergeMapping d (.ref sub) false) (fun _ s₃ => Q (.ref d) s₃) E' s₂) E s₁) E s) :
  wpAny (model P w) A (dictDisplay ((X ++ a :: Y).map fun p => (some p.1, p.2))) Q E s := by
 unfold dictDisplay
 dsimp only
 rw [List.map_append, gatherR _ none (fun p run h => by
  have hne : ((run ++ [(p.1, p.2)]).length == 17) = false := by simp; lia
  simp only [hne, Bool.false_eq_true, if_false]) _ X [] (by simp; lia), List.nil_append, List.map_cons, List.forIn_cons]
 dsimp only
 have h17 : ((X ++ [(a.1, a.2)]).length == 17) = true := by simp [hX]
 have hne : (X ++ [(a.1, a.2)]).isEmpty = false := by simp
 rw [if_pos h17, hne]
 simp only [Bool.false_eq_true, if_false]
 refine wpAny_bind (wpAny_bind ?_)
 refine wpAny_bind (wpAny_bind (wpAny_mono h (fun d s₁ h₁ => wpAny_pure (wpAny_pure ?_)) fun _ _ z => z))
 dsimp only
 have hg := fun (f : (Option (Sem Value) × Sem Value) → (Option Addr × List Pr) → Sem (ForInStep (Option Addr × List Pr))) (hf : ∀ (p : Pr) (run : List Pr), run.length + 1 < 17 → f (some p.1, p.2) (some d, run) = pure (.yield (some d, run ++ [p]))) =>
  gatherR f (some d) hf [] Y [] (by simpa using hY)
 simp only [List.append_nil, List.forIn_nil, List.nil_append] at hg
 rw [hg _ (fun p run h => by
  have hne : ((run ++ [(p.1, p.2)]).length == 17) = false := by simp; lia
  simp only [hne, Bool.false_eq_true, if_false])]
 refine wpAny_bind (wpAny_pure ?_)
 have hY1 : Y.isEmpty = false := by cases Y with | nil => exact absurd rfl hY0 | cons _ _ => rfl
 refine wpAny_pure ?_
 dsimp only
 rw [hY1]
 simp only [Bool.false_eq_true, if_false]
 refine wpAny_bind (wpAny_bind (wpAny_holding (wpAny_mono h₁ (fun sub s₂ h₂ => ?_) fun _ _ z => z)))
 refine wpAny_bind (wpAny_onRaise (wpAny_holding (wpAny_mono (h₂ _) (fun _ s₃ h₃ => ?_) fun _ _ z => z)))
 exact wpAny_pure (wpAny_pure h₃)
inductive CP : List (Option Expr) → List Expr → List (Str × MV) → Prop
 | nil : CP [] [] []
 | cons (x y : Str) (k1 : Nat) (p1 : Pos) (k2 : Nat) (p2 : Pos) (ks : List (Option Expr)) (vs : List Expr) (es : List (Str × MV)) (h : CP ks vs es) : CP (some (.Constant (.str x) k1 p1) :: ks) (.Constant (.str y) k2 p2 :: vs) ((x, .str y) :: es)
theorem cp_of : ∀ (ks : List (Option Expr)) (vs : List Expr) {es : List (Str × MV)}, constPairs ks vs = some es → CP ks vs es
 | [], [], _, h => Option.some.inj h ▸ .nil
 | [], _ :: _, _, h => noK h
 | none :: _, _, _, h => noK h
 | some k :: ks, [], _, h => obK (x := strConst k) h fun _ _ h => noK h
 | some k :: ks, v :: vs, _, h => obK (x := strConst k) h fun x hx h2 => obK (x := strConst v) h2 fun y hy h3 => obK (x := constPairs ks vs) h3 fun es he h4 => by
  obtain ⟨k1, p1, rfl⟩ := strConst_eq hx
  obtain ⟨k2, p2, rfl⟩ := strConst_eq hy
  exact Option.some.inj h4 ▸ .cons x y k1 p1 k2 p2 ks vs es (cp_of ks vs he)
theorem const_pairs {Ω : Wld} {φ : Phi} {μ : Mu} {env : Env} {p : Pos} {A : Around} {E : Value → Shared → Prop} {d : Addr} {ks : List (Option Expr)} {vs : List Expr} {es : List (Str × MV)} (h : CP ks vs es) : ∀ (s : Shared) (acc : List (Str × Value)) (Q : PUnit → Shared → Prop), s.heap.DictOf (strKind Ω.P Ω.w) d acc → acc.length + es.length ≤ sizeLine →
  (∀ h' kvs tk, KV Ω φ μ es kvs → h'.DictOf (strKind Ω.P Ω.w) d (merged acc kvs) → Heap.SameBut d s.heap h' → s.toks ≤ tk → Q ⟨⟩ { s with heap := h', toks := tk }) →
  wpAny (model Ω.P Ω.w) A (forIn (pairTrees ks vs env p) PUnit.unit fun (x : Pr) (_ : PUnit) => (do let kv ← x.1; let vv ← holding [kv] x.2; holding [kv, vv] (dictSet d kv vv); pure (ForInStep.yield PUnit.unit) : Sem (ForInStep PUnit))) Q E s := by
 induction h with
 | nil =>
  intro s acc Q hd hz k
  exact wpAny_pure (k s.heap [] s.toks rfl (by simpa [merged] using hd) (Heap.SameBut.refl _ _) (Nat.le_refl _))
 | cons x y j q j' q' ks vs' es _ ih =>
  intro s acc Q hd hz k
  show wpAny _ _ (forIn ((eval (.Constant (.str x) j q) env, do let x ← eval (.Constant (.str y) j' q') env; standAt p; pure x) :: pairTrees ks vs' env p) _ _) Q E s
  rw [List.forIn_cons]
  rw [List.length_cons] at hz
  refine wpAny_bind (wpAny_bind (show wpAny _ _ (mkText x) _ _ _ from wpAny_mkText (wpAny_bind (wpAny_holding (wpAny_bind (show wpAny _ _ (mkText y) _ _ _ from wpAny_mkText (wpAny_bind (wpAny_standAt (wpAny_pure ?_)))))))))
  refine wpAny_bind (wpAny_holding (wpAny_dictSet_pairs (hsz := by lia) (strKind_is _ _ x _) hd fun h₁ d₁ s₁ => wpAny_pure ?_))
  refine ih _ (stored acc x (.str y (s.toks + 1))) Q d₁ (by have := stored_length_le acc x (.str y (s.toks + 1)); lia) fun h' kvs tk q' d' s' ht => ?_
  exact k h' ((x, .str y (s.toks + 1)) :: kvs) tk ⟨_, kvs, rfl, ⟨_, rfl⟩, q'⟩ d' (s₁.trans s') (Nat.le_trans (by lia) ht)
theorem CP.take {ks : List (Option Expr)} {vs : List Expr} {es : List (Str × MV)} (h : CP ks vs es) : ∀ n : Nat, CP (ks.take n) (vs.take n) (es.take n) ∧ CP (ks.drop n) (vs.drop n) (es.drop n) := by
 induction h with
 | nil => intro n; cases n <;> exact ⟨.nil, .nil⟩
 | cons x y k1 p1 k2 p2 ks vs es h ih =>
  intro n
  cases n with
  | zero => exact ⟨.nil, .cons x y k1 p1 k2 p2 ks vs es h⟩
  | succ n => exact ⟨.cons x y k1 p1 k2 p2 _ _ _ (ih n).1, (ih n).2⟩
theorem CP.len {ks : List (Option Expr)} {vs : List Expr} {es : List (Str × MV)} (h : CP ks vs es) {env : Env} {p : Pos} : ks.all (·.isSome) = true ∧ ks.length = vs.length ∧ es.length = ks.length ∧ (pairTrees ks vs env p).length = ks.length := by
 induction h with
 | nil => exact ⟨rfl, rfl, rfl, rfl⟩
 | cons x y k1 p1 k2 p2 ks vs es h ih => exact ⟨ih.1, congrArg Nat.succ ih.2.1, congrArg Nat.succ ih.2.2.1, congrArg Nat.succ ih.2.2.2⟩
theorem pairTrees_take : ∀ {ks : List (Option Expr)} {vs : List Expr} {env : Env} {p : Pos} (n : Nat), ks.all (·.isSome) = true → (pairTrees ks vs env p).take n = pairTrees (ks.take n) (vs.take n) env p ∧ (pairTrees ks vs env p).drop n = pairTrees (ks.drop n) (vs.drop n) env p
 | _, _, _, _, 0, _ => ⟨rfl, rfl⟩
 | [], vs, _, _, n + 1, _ => by simp [pairTrees]
 | kx :: ks, [], _, _, n + 1, _ => by
  cases kx <;> simp [pairTrees]
 | none :: ks, v :: vs, _, _, n + 1, h => by simp at h
 | some k :: ks, v :: vs, env, p, n + 1, h => by
  obtain ⟨a, b⟩ := pairTrees_take (vs := vs) (env := env) (p := p) n (by simpa using h)
  exact ⟨by simp only [pairTrees, List.take_succ_cons, a], by simpa [pairTrees] using b⟩
theorem updK_append (a b : List (Str × MV)) : ∀ c : List (Str × MV), updK c (a ++ b) = updK (updK c a) b := by
 induction a with
 | nil => intro c; rfl
 | cons x a ih => intro c; exact ih _
end
end Mine
namespace Mine
open PySem PySem.W PySem.Calls PyProof.Rows PySem.SeqAt
section
variable {Ω : Wld} {φ : Phi} {μ : Mu} {env : Env} {p : Pos} {A : Around} {E : Value → Shared → Prop} {s : Shared}
theorem subLong {ks : List (Option Expr)} {vs : List Expr} {es : List (Str × MV)} {Q : Addr → Shared → Prop} (h : CP ks vs es) (hn : ¬ ks.length ≤ 15) (hz : es.length ≤ 100)
  (k : ∀ h' kvs tk, KV Ω φ μ es kvs → h'.DictOf (strKind Ω.P Ω.w) s.heap.objs.size (merged [] kvs) → Heap.SameBut s.heap.objs.size (s.heap.push { cls := .type "dict", data := .dict #[] }) h' → s.toks ≤ tk → Q s.heap.objs.size { s with heap := h', toks := tk }) :
  wpAny (model Ω.P Ω.w) A (subDict (pairTrees ks vs env p)) Q E s := by
 obtain ⟨h1, h2, h3, h4⟩ := h.len (env := env) (p := p)
 unfold subDict
 refine wpAny_bind (wpAny_alloc (wpAny_bind (wpAny_holding ?_)))
 rw [if_neg (by rw [h4]; exact hn)]
 refine wpAny_bind (wpAny_rule ?_)
 refine wpAny_bind (const_pairs (φ := φ) (μ := μ) h _ [] _ (.new _) (by rw [sizeLine_eq]; simp; lia) fun h' kvs tk q d' s' ht => ?_)
 exact wpAny_pure (wpAny_pure (k h' kvs tk q d' s' ht))
theorem const_eval {ks : List (Option Expr)} {vs : List Expr} {es : List (Str × MV)} (h : CP ks vs es) : ∀ (s : Shared) (Q : List (Value × Value) → Shared → Prop), (∀ ws tk, KVs Ω φ μ es ws → s.toks ≤ tk → Q ws { s with toks := tk }) → wpAny (model Ω.P Ω.w) A (evalPairs (pairTrees ks vs env p)) Q E s := by
 induction h with
 | nil => exact fun s Q k => pairTrees_nil_walk (k [] s.toks rfl (Nat.le_refl _))
 | cons x y j q j' q' ks vs es _ ih =>
  intro s Q k
  refine pairTrees_cons_walk (show wpAny _ _ (mkText x) _ _ _ from wpAny_mkText (show wpAny _ _ (mkText y) _ _ _ from wpAny_mkText ?_))
  exact ih _ _ fun ws tk q ht => k _ tk ⟨_, _, ws, rfl, ⟨_, rfl⟩, q⟩ (Nat.le_trans (by lia) ht)
theorem longDict {rec : Rec} {n : Nat} : LongDict Ω rec n := by
 intro ks vs p sc loc st st' es v hl1 hl2 h1 h2 A env s φ μ Q E R hs I F ht kk
 have h1 := cp_of ks vs h1
 obtain ⟨c1, c2, c3, c4⟩ := h1.len (env := env) (p := p)
 obtain ⟨a1, b1⟩ := h1.take 17
 obtain ⟨a2, b2⟩ := pairTrees_take (vs := vs) (env := env) (p := p) 17 c1
 rw [arm_eval_Dict, zip_pairTrees ks vs env p c1 c2]
 have hlt : 16 < (pairTrees ks vs env p).length := by rw [c4]; lia
 have hsplit : pairTrees ks vs env p = (pairTrees ks vs env p).take 16 ++ (pairTrees ks vs env p)[16] :: pairTrees (ks.drop 17) (vs.drop 17) env p := by
  rw [← b2, ← List.drop_eq_getElem_cons hlt, List.take_append_drop]
 have h17 : (pairTrees ks vs env p).take 16 ++ [(pairTrees ks vs env p)[16]] = pairTrees (ks.take 17) (vs.take 17) env p := by
  rw [← a2, ← List.take_append_getElem hlt]
 have hyl : (pairTrees (ks.drop 17) (vs.drop 17) env p).length = ks.length - 17 := by rw [← b2, List.length_drop, c4]
 refine wpAny_bind (wpAny_standAt ?_)
 rw [hsplit]
 have hy0 : pairTrees (ks.drop 17) (vs.drop 17) env p ≠ [] := fun e => by
  rw [e] at hyl
  simp at hyl
  lia
 refine display_long (by rw [List.length_take]; lia) (by rw [hyl]; lia) hy0 ?_
 rw [h17]
 refine subLong (φ := φ) (μ := μ) a1 (by rw [List.length_take]; lia) (by rw [List.length_take]; lia) fun h1' kv1 tk1 q1 d1 s1 t1 => ?_
 have sz1 : h1'.objs.size = s.heap.objs.size + 1 := by rw [s1.1, Heap.size_push]
 refine wpAny_subDict (knd := strKind Ω.P Ω.w) (by rw [hyl]; lia) (const_eval (φ := φ) (μ := μ) b1 _ _ fun ws tk2 q2 t2 => ?_)
 obtain ⟨kv2, hc2, q2', hl2'⟩ := q2.carries
 refine ⟨kv2, hc2, .new _, fun h2' d2 s2 E' => ?_⟩
 have sz2 : h2'.objs.size = s.heap.objs.size + 1 + 1 := by
  rw [s2.1]
  show (h1'.push _).objs.size = _
  rw [Heap.size_push, sz1]
 have hne : s.heap.objs.size ≠ h1'.objs.size := by rw [sz1]; exact Nat.ne_of_lt (Nat.lt_succ_self _)
 have d1' : h2'.DictOf (strKind Ω.P Ω.w) s.heap.objs.size (merged [] kv1) := by
  refine Heap.DictOf.sameBut ?_ s2 hne
  obtain ⟨o, ho, hd⟩ := Heap.dictOf_iff.mp d1
  exact Heap.dictOf_iff.mpr ⟨o, Heap.get?_push_of_some _ ho, hd⟩
 have keep : ∀ b o, s.heap.get? b = some o → h2'.get? b = some o := fun b o e => by
  have hb := Heap.lt_size e
  have n1 : b ≠ h1'.objs.size := by rw [sz1]; exact Nat.ne_of_lt (Nat.lt_succ_of_lt hb)
  rw [s2.2 b n1]
  refine Heap.get?_push_of_some _ ?_
  rw [s1.2 b (Nat.ne_of_lt hb)]
  exact Heap.get?_push_of_some _ e
 have l1 := q1.length
 have l2 := q2'.length
 have le1 : (es.take 17).length = 17 := by rw [List.length_take]; lia
 have le2 : (es.drop 17).length ≤ 15 := by rw [List.length_drop]; lia
 have hkv1 : merged [] kv1 ≠ [] := fun e => by
  have hm : KV Ω φ μ (updK [] (es.take 17)) (merged [] kv1) := KV.merged (es := []) (kvs := []) rfl List.nodup_nil q1
  have := hm.length
  rw [e] at this
  have hpos : 0 < (updK [] (es.take 17)).length := by
   cases hes : es.take 17 with
   | nil => rw [hes] at le1; cases le1
   | cons x r =>
    have grow : ∀ (r c : List (Str × MV)), 0 < c.length → 0 < (updK c r).length := fun r => by
     induction r with
     | nil => exact fun c h => h
     | cons y r ih => exact fun c h => ih _ (by rw [putK_length]; split <;> lia)
    exact grow r _ (by rw [putK_length]; simp [getK])
  simp at this
  lia
 have hsl : sizeLine = 16777216 := sizeLine_eq
 refine merge_str hne (by
   have hb : Ω.h₀.objs.size ≤ h1'.objs.size := by rw [sz1]; exact Nat.le_succ_of_le I.base_le
   have g := Ω.R.g.lt
   have : sysModules < h1'.objs.size := Nat.lt_of_lt_of_le (Nat.lt_trans (by decide) g) hb
   simpa using Nat.ne_of_gt this) d1' hkv1 d2 (fun h3 d3 s3 => ?_) ?_
 ·have J : Inv Ω φ μ st { s with heap := h2', toks := tk2 + ws.length } := I.keeps keep (by rw [sz2]; lia)
  have x0 : Ext φ μ s.heap φ μ h2' := Ext.keeps keep (by rw [sz2]; lia)
  have hm2 : KV Ω φ μ (updK [] (es.drop 17)) (merged [] kv2) := KV.merged (es := []) (kvs := []) rfl List.nodup_nil q2'
  have hm1 : KV Ω φ μ (updK [] (es.take 17)) (merged [] kv1) := KV.merged (es := []) (kvs := []) rfl List.nodup_nil q1
  have hm := KV.merged hm1 (dictOf_nodup d1') hm2
  exact layDict_sound (s := { s with heap := h2', toks := tk2 + ws.length }) (tk := tk2 + ws.length) h2 J x0 (I.new_off (Nat.le_refl _)) (Nat.le_refl _) I.base_le (by show _ < h2'.objs.size; rw [sz2]; exact Nat.lt_succ_of_lt (Nat.lt_succ_self _)) d3 s3 hm kk.op (by
   have t2' : tk1 ≤ tk2 := t2
   show 1 ≤ tk2 + ws.length
   lia)
 ·have e1 := merged_length_le [] kv1
  have e2 := merged_length_le [] kv2
  simp only [List.length_nil] at e1 e2
  lia
end
end Mine
namespace Mine
open PySem
noncomputable def adTab : List ((Nat × Nat) × Nat) := [((0, 0), 21), ((2, 0), 28), ((3, 0), 35), ((4, 0), 42), ((5, 0), 49), ((6, 0), 56), ((7, 0), 63), ((9, 0), 70), ((10, 0), 77), ((11, 0), 84), ((13, 0), 91), ((14, 0), 98), ((15, 0), 105), ((16, 0), 112), ((18, 0), 119), ((19, 0), 127), ((20, 0), 135), ((21, 0), 144), ((22, 0), 151), ((23, 0), 158), ((24, 0), 165), ((25, 0), 172), ((26, 0), 179), ((28, 1), 193), ((28, 2), 200), ((28, 3), 207), ((28, 4), 214), ((28, 5), 221), ((28, 6), 228), ((28, 7), 235), ((28, 8), 242), ((28, 9), 249), ((28, 10), 256), ((28, 11), 263), ((28, 12), 270), ((28, 13), 277), ((28, 0), 280), ((29, 0), 291), ((30, 0), 299), ((31, 0), 307), ((33, 0), 314), ((35, 0), 321), ((36, 0), 328), ((37, 0), 335), ((38, 0), 342), ((39, 0), 349), ((40, 0), 356), ((41, 0), 363), ((42, 0), 370), ((43, 0), 377), ((44, 0), 384), ((45, 0), 391), ((47, 1), 405), ((47, 0), 408), ((48, 0), 421), ((50, 1), 437), ((50, 2), 444), ((50, 3), 451), ((50, 4), 458), ((50, 5), 465), ((50, 6), 472), ((50, 7), 479), ((50, 8), 486), ((50, 9), 493), ((50, 10), 500), ((50, 0), 503), ((51, 0), 514), ((53, 1), 528), ((53, 2), 537), ((53, 3), 546), ((53, 4), 553), ((53, 5), 560), ((53, 6), 567), ((53, 7), 575), ((53, 8), 582), ((53, 9), 589), ((53, 10), 596), ((53, 11), 603), ((53, 12), 610), ((53, 13), 617), ((53, 14), 624), ((53, 0), 627), ((54, 0), 638), ((56, 1), 653), ((56, 2), 660), ((56, 3), 667), ((56, 4), 674), ((56, 5), 681), ((56, 6), 688), ((56, 7), 695), ((56, 8), 702), ((56, 0), 705), ((57, 0), 716), ((59, 0), 723), ((60, 0), 730), ((61, 0), 737), ((62, 0), 744), ((63, 0), 751), ((64, 0), 758), ((65, 0), 763), ((66, 0), 768), ((67, 0), 776), ((68, 0), 781), ((69, 0), 786), ((70, 0), 791), ((71, 0), 796), ((72, 0), 803), ((73, 0), 808)]
noncomputable def theAd (i j : Nat) : Addr := match adTab.lookup (i, j) with
 | some a => a
 | none => 0
end Mine
namespace Mine
open PySem
structure B where
 kinds : List MV
 spaces : List MV
 names : List MV
 attrs : List MV
 texts : List MV
 parents : List MV
 kids : List MV
 items : List MV
 fitems : List MV
 errors : List MV
 mode : MV
 original : MV
 wish : MV
 ok : MV
 skip : MV
 ack : MV
 ch : List (List MV)
structure D where
 due : List (Str × MV)
 active : List MV
 derrors : List MV
 dnodes : List MV
 dc : List (List MV)
noncomputable abbrev os (s : String) : Str := Str.ofString s
noncomputable def treeF : List (Str × MV) := [(os "kinds", .ref .kinds), (os "spaces", .ref .spaces), (os "names", .ref .names), (os "attrs", .ref .attrs), (os "texts", .ref .texts), (os "parents", .ref .parents), (os "children", .ref .kids), (os "contents", .ref .contents)]
noncomputable def stackF : List (Str × MV) := [(os "tree", .ref .tree), (os "items", .ref .items)]
noncomputable def fmtF : List (Str × MV) := [(os "tree", .ref .tree), (os "items", .ref .fitems)]
noncomputable def bldF (b : B) : List (Str × MV) := [(os "rules", .ref .rules), (os "tree", .ref .tree), (os "stack", .ref .stack), (os "formatting", .ref .fmt), (os "mode", b.mode), (os "original", b.original), (os "modes", .ref .modes),
 (os "head", .int (-1)), (os "form", .int (-1)), (os "owners", .ref .owners), (os "is_frameset_ok", b.ok), (os "is_scripting", .bool true), (os "is_foster", .bool false), (os "context", .int (-1)), (os "quirks", .str (os "no-quirks")),
 (os "errors", .ref .errors), (os "pending", .ref .pending), (os "wish", b.wish), (os "is_skipping", b.skip), (os "is_acknowledged", b.ack), (os "is_done", .bool false)]
noncomputable def rulesF : List (Str × MV) := ["in body", "in table", "in caption", "in table body", "in row", "in cell", "in template", "in column group"].map fun x => (os x, .fn 63 0)
noncomputable def W (b : B) (d : D) (tm : List MO) : St :=
  { kinds := some b.kinds, spaces := some b.spaces, names := some b.names, attrs := some b.attrs, texts := some b.texts, parents := some b.parents, kids := some b.kids, contents := some [],
    items := some b.items, fitems := some b.fitems, modes := some [], owners := some [], errors := some b.errors, pending := some [], rules := some rulesF,
    due := some d.due, active := some d.active, derrors := some d.derrors, dnodes := some d.dnodes, tree := some treeF, stack := some stackF, fmt := some fmtF, builder := some (bldF b),
    ch := b.ch, dc := d.dc, tm := tm }
theorem ofString_inj (a b : String) : (Str.ofString a = Str.ofString b) = (a = b) := by
 apply propext
 constructor
 ·intro h
  rw [Str.ofString_eq_toList, Str.ofString_eq_toList] at h
  have h2 : (a.toList.map Char.toNat) = (b.toList.map Char.toNat) := by
   have := congrArg (fun s => s.cps.toList) h
   simpa using this
  have h3 : a.toList = b.toList := by
   have inj : ∀ (l m : List Char), l.map Char.toNat = m.map Char.toNat → l = m := by
    intro l
    induction l with
    | nil => intro m h; cases m with | nil => rfl | cons _ _ => cases h
    | cons c r ih =>
     intro m h
     cases m with
     | nil => cases h
     | cons e q =>
      simp only [List.map_cons, List.cons.injEq] at h
      rw [ih q h.2]
      have : c = e := Char.ext (UInt32.toNat_inj.mp h.1)
      rw [this]
   exact inj _ _ h2
  rw [← String.ofList_toList (s := a), ← String.ofList_toList (s := b), h3]
 ·intro h; rw [h]
theorem gW_kinds (b d tm) : (W b d tm).get .kinds = some (.list b.kinds) := rfl
theorem pW_kinds (b d tm vs) : (W b d tm).put .kinds (.list vs) = some (W { b with kinds := vs } d tm) := rfl
theorem gW_spaces (b d tm) : (W b d tm).get .spaces = some (.list b.spaces) := rfl
theorem pW_spaces (b d tm vs) : (W b d tm).put .spaces (.list vs) = some (W { b with spaces := vs } d tm) := rfl
theorem gW_names (b d tm) : (W b d tm).get .names = some (.list b.names) := rfl
theorem pW_names (b d tm vs) : (W b d tm).put .names (.list vs) = some (W { b with names := vs } d tm) := rfl
theorem gW_attrs (b d tm) : (W b d tm).get .attrs = some (.list b.attrs) := rfl
theorem pW_attrs (b d tm vs) : (W b d tm).put .attrs (.list vs) = some (W { b with attrs := vs } d tm) := rfl
theorem gW_texts (b d tm) : (W b d tm).get .texts = some (.list b.texts) := rfl
theorem pW_texts (b d tm vs) : (W b d tm).put .texts (.list vs) = some (W { b with texts := vs } d tm) := rfl
theorem gW_parents (b d tm) : (W b d tm).get .parents = some (.list b.parents) := rfl
theorem pW_parents (b d tm vs) : (W b d tm).put .parents (.list vs) = some (W { b with parents := vs } d tm) := rfl
theorem gW_kids (b d tm) : (W b d tm).get .kids = some (.list b.kids) := rfl
theorem pW_kids (b d tm vs) : (W b d tm).put .kids (.list vs) = some (W { b with kids := vs } d tm) := rfl
theorem gW_items (b d tm) : (W b d tm).get .items = some (.list b.items) := rfl
theorem pW_items (b d tm vs) : (W b d tm).put .items (.list vs) = some (W { b with items := vs } d tm) := rfl
theorem gW_fitems (b d tm) : (W b d tm).get .fitems = some (.list b.fitems) := rfl
theorem pW_fitems (b d tm vs) : (W b d tm).put .fitems (.list vs) = some (W { b with fitems := vs } d tm) := rfl
theorem gW_errors (b d tm) : (W b d tm).get .errors = some (.list b.errors) := rfl
theorem pW_errors (b d tm vs) : (W b d tm).put .errors (.list vs) = some (W { b with errors := vs } d tm) := rfl
theorem gW_active (b d tm) : (W b d tm).get .active = some (.list d.active) := rfl
theorem pW_active (b d tm vs) : (W b d tm).put .active (.list vs) = some (W b { d with active := vs } tm) := rfl
theorem gW_derrors (b d tm) : (W b d tm).get .derrors = some (.list d.derrors) := rfl
theorem pW_derrors (b d tm vs) : (W b d tm).put .derrors (.list vs) = some (W b { d with derrors := vs } tm) := rfl
theorem gW_dnodes (b d tm) : (W b d tm).get .dnodes = some (.list d.dnodes) := rfl
theorem pW_dnodes (b d tm vs) : (W b d tm).put .dnodes (.list vs) = some (W b { d with dnodes := vs } tm) := rfl
theorem gW_due (b d tm) : (W b d tm).get .due = some (.dict d.due) := rfl
theorem pW_due (b d tm es) : (W b d tm).put .due (.dict es) = some (W b { d with due := es } tm) := rfl
theorem gW_contents (b d tm) : (W b d tm).get .contents = some (.dict []) := rfl
theorem gW_owners (b d tm) : (W b d tm).get .owners = some (.dict []) := rfl
theorem gW_rules (b d tm) : (W b d tm).get .rules = some (.dict rulesF) := rfl
theorem gW_tree (b d tm) : (W b d tm).get .tree = some (.inst 53 treeF) := rfl
theorem gW_stack (b d tm) : (W b d tm).get .stack = some (.inst 28 stackF) := rfl
theorem gW_fmt (b d tm) : (W b d tm).get .fmt = some (.inst 50 fmtF) := rfl
theorem gW_builder (b d tm) : (W b d tm).get .builder = some (.inst 56 (bldF b)) := rfl
theorem gW_ch (b d tm i) : (W b d tm).get (.ch i) = asL b.ch[i]? := rfl
theorem gW_dc (b d tm i) : (W b d tm).get (.dc i) = asL d.dc[i]? := rfl
theorem gW_tm (b d tm i) : (W b d tm).get (.tm i) = tm[i]? := rfl
theorem treeF_eq : treeF = [(os "kinds", .ref .kinds), (os "spaces", .ref .spaces), (os "names", .ref .names), (os "attrs", .ref .attrs), (os "texts", .ref .texts), (os "parents", .ref .parents), (os "children", .ref .kids), (os "contents", .ref .contents)] := rfl
theorem ob_some {α β : Type} (a : α) (f : α → Option β) : ob (some a) f = f a := rfl
theorem pb_some {α β : Type} (a : α) (s : St) (f : α → St → Option β) : pb (some (a, s)) f = f a s := rfl
theorem sb_some (fl : Fl) (l : Loc) (s : St) (f : Fl → Loc → St → SR) : sb (some (fl, l, s)) f = f fl l s := rfl
theorem callN_fn {T : Tab} {pol : Pol} {n i j : Nat} {d : Fn} (h : T.fn i j = some d) (args : List MV) (st : St) :
 callN T pol (n+1) (.fn i j) args st = ob (bindP d.params args d.defaults (locInit d.scope)) fun loc => retOf (evSs T pol (callN T pol n) d.body d.scope loc st) := by
 simp only [callN, h]
theorem giv_some {α : Type} (v : α) (s : St) : giv v (some s) = some (v, s) := rfl
theorem cls28 : theTab.cls 28 = some [(os "__init__", 1), (os "push", 2), (os "pop", 3), (os "current", 4), (os "many", 5), (os "has", 6), (os "remove", 7), (os "place", 8), (os "put_at", 9), (os "name", 10), (os "has_name", 11), (os "pop_until", 12), (os "pop_to", 13)] := by rfl
theorem callN_fn0 {T : Tab} {pol : Pol} {n i j : Nat} {d : Fn} (h : T.fn i j = some d) (args : List MV) (st : St) {l : Loc} (hb : bindP d.params args d.defaults [] = some l) :
 callN T pol (n+1) (.fn i j) args st = retOf (evSs T pol (callN T pol n) d.body d.scope l st) := by
 rw [callN_fn h]; unfold locInit; rw [hb]; rfl
end Mine
namespace Mine
open PySem
inductive Yes {α : Type} (x : Option α) (K : α → Prop) : Prop
 | mk (a : α) (h : x = some a) (k : K a)
inductive Yes2 {α : Type} (x : Option (α × St)) (K : α → St → Prop) : Prop
 | mk (a : α) (s : St) (h : x = some (a, s)) (k : K a s)
inductive Yes3 (x : SR) (K : Fl → Loc → St → Prop) : Prop
 | mk (fl : Fl) (l : Loc) (s : St) (h : x = some (fl, l, s)) (k : K fl l s)
inductive YesL (x : Option (Loc × St)) (K : Loc → St → Prop) : Prop
 | mk (l : Loc) (s : St) (h : x = some (l, s)) (k : K l s)
noncomputable def cob {α : Type} (x : Option α) (K : α → Prop) : Prop := match x with
 | some a => K a
 | none => False
inductive cIf (c : Bool) (A B : Prop) : Prop
 | mk (h1 : c = true → A) (h2 : c = false → B)
noncomputable def cGo (c : Prop) [Decidable c] (K : Prop) : Prop := match decide c with
 | true => K
 | false => False
theorem cGo_and {c : Prop} [Decidable c] {K : Prop} (h : cGo c K) : c ∧ K := by
 revert h
 unfold cGo
 by_cases hc : c
 ·rw [decide_eq_true hc]; exact fun h => ⟨hc, h⟩
 ·rw [decide_eq_false hc]; exact fun h => h.elim
theorem cob_yes {α : Type} {x : Option α} {K : α → Prop} (h : cob x K) : Yes x K := by
 cases x with
 | none => exact h.elim
 | some a => exact ⟨a, rfl, h⟩
theorem yes_ob {α β : Type} {x : Option α} {f : α → Option β} {K : β → Prop} (h : Yes x fun a => Yes (f a) K) : Yes (ob x f) K := by
 obtain ⟨a, rfl, b, e, k⟩ := h
 exact ⟨b, e, k⟩
theorem yes_ob2 {α β : Type} {x : Option α} {f : α → Option (β × St)} {K : β → St → Prop} (h : Yes x fun a => Yes2 (f a) K) : Yes2 (ob x f) K := by
 obtain ⟨a, rfl, b, s, e, k⟩ := h
 exact ⟨b, s, e, k⟩
theorem yes_pb {α β : Type} {x : Option (α × St)} {f : α → St → Option (β × St)} {K : β → St → Prop} (h : Yes2 x fun a s => Yes2 (f a s) K) : Yes2 (pb x f) K := by
 obtain ⟨a, s, rfl, b, s', e, k⟩ := h
 exact ⟨b, s', e, k⟩
theorem yes_pb3 {α : Type} {x : Option (α × St)} {f : α → St → SR} {K : Fl → Loc → St → Prop} (h : Yes2 x fun a s => Yes3 (f a s) K) : Yes3 (pb x f) K := by
 obtain ⟨a, s, rfl, b, l, s', e, k⟩ := h
 exact ⟨b, l, s', e, k⟩
theorem yes_pbL {α : Type} {x : Option (α × St)} {f : α → St → Option (Loc × St)} {K : Loc → St → Prop} (h : Yes2 x fun a s => YesL (f a s) K) : YesL (pb x f) K := by
 obtain ⟨a, s, rfl, l, s', e, k⟩ := h
 exact ⟨l, s', e, k⟩
theorem yes_obL {α : Type} {x : Option α} {f : α → Option (Loc × St)} {K : Loc → St → Prop} (h : Yes x fun a => YesL (f a) K) : YesL (ob x f) K := by
 obtain ⟨a, rfl, l, s', e, k⟩ := h
 exact ⟨l, s', e, k⟩
theorem yes_ob3 {α : Type} {x : Option α} {f : α → SR} {K : Fl → Loc → St → Prop} (h : Yes x fun a => Yes3 (f a) K) : Yes3 (ob x f) K := by
 obtain ⟨a, rfl, b, l, s', e, k⟩ := h
 exact ⟨b, l, s', e, k⟩
theorem yes_lb {x : Option (Loc × St)} {f : Loc → St → Option (Loc × St)} {K : Loc → St → Prop} (h : YesL x fun l s => YesL (f l s) K) : YesL (lb x f) K := by
 obtain ⟨l, s, rfl, l', s', e, k⟩ := h
 exact ⟨l', s', e, k⟩
theorem yes_lb3 {x : Option (Loc × St)} {f : Loc → St → SR} {K : Fl → Loc → St → Prop} (h : YesL x fun l s => Yes3 (f l s) K) : Yes3 (lb x f) K := by
 obtain ⟨l, s, rfl, fl, l', s', e, k⟩ := h
 exact ⟨fl, l', s', e, k⟩
theorem yes_sb {x : SR} {f : Fl → Loc → St → SR} {K : Fl → Loc → St → Prop} (h : Yes3 x fun fl l s => Yes3 (f fl l s) K) : Yes3 (sb x f) K := by
 obtain ⟨fl, l, s, rfl, fl', l', s', e, k⟩ := h
 exact ⟨fl', l', s', e, k⟩
theorem yes_next {x : Option (Loc × St)} {K : Fl → Loc → St → Prop} (h : YesL x fun l s => K .next l s) : Yes3 (nextOf x) K := by
 obtain ⟨l, s, rfl, k⟩ := h
 exact ⟨.next, l, s, rfl, k⟩
theorem Yes.mono {α : Type} {x : Option α} {K K' : α → Prop} (h : Yes x K) (m : ∀ a, K a → K' a) : Yes x K' := by
 obtain ⟨a, e, k⟩ := h
 exact ⟨a, e, m _ k⟩
theorem Yes2.mono {α : Type} {x : Option (α × St)} {K K' : α → St → Prop} (h : Yes2 x K) (m : ∀ a s, K a s → K' a s) : Yes2 x K' := by
 obtain ⟨a, s, e, k⟩ := h
 exact ⟨a, s, e, m _ _ k⟩
theorem Yes3.mono {x : SR} {K K' : Fl → Loc → St → Prop} (h : Yes3 x K) (m : ∀ a l s, K a l s → K' a l s) : Yes3 x K' := by
 obtain ⟨a, l, s, e, k⟩ := h
 exact ⟨a, l, s, e, m _ _ _ k⟩
theorem YesL.mono {x : Option (Loc × St)} {K K' : Loc → St → Prop} (h : YesL x K) (m : ∀ l s, K l s → K' l s) : YesL x K' := by
 obtain ⟨l, s, e, k⟩ := h
 exact ⟨l, s, e, m _ _ k⟩
noncomputable def cInt2 (a b : MV) (k : Int → Int → Prop) (d : Prop) : Prop := match a with
 | .int x => (match b with
  | .int y => k x y
  | _ => d)
 | _ => d
noncomputable def cBin (op : Operator) (a b : MV) (K : MV → Prop) : Prop := match op with
 | .Add => cInt2 a b (fun x y => K (.int (x + y))) (Yes (binop .Add a b) K)
 | .Sub => cInt2 a b (fun x y => K (.int (x - y))) (Yes (binop .Sub a b) K)
 | op => Yes (binop op a b) K
noncomputable def cCmp (st : St) (op : CmpOp) (a b : MV) (K : Bool → Prop) : Prop := match op with
 | .Eq | .NotEq => match a with
  | .lst _ | .tup _ | .ref _ => Yes (cmp st op a b) K
  | _ => cob (cmp st op a b) K
 | .In | .NotIn => match b with
  | .tup _ => cob (cmp st op a b) K
  | _ => Yes (cmp st op a b) K
 | _ => cob (cmp st op a b) K
noncomputable def cSub (st : St) (o i : MV) (K : MV → Prop) : Prop := match i with
 | .str _ => match o with
  | .ref .rules | .ref (.tm _) => Yes (subOf st o i) K
  | _ => cob (subOf st o i) K
 | _ => Yes (subOf st o i) K
noncomputable def cMeth (rec : Rec) (k : Me) (st : St) (o : MV) (name : Str) (args : List MV) (K : MV → St → Prop) : Prop := match k with
 | .inst c j => Yes2 (rec (.fn c j) (o :: args) st) K
 | k => Yes2 (methDo rec k st o name args) K
noncomputable def cCall (rec : Rec) (st : St) (f : MV) (args : List MV) (K : MV → St → Prop) : Prop := match f with
 | .bi id => Yes (builtin st id args) fun v => K v st
 | .fn i j => Yes2 (rec (.fn i j) args st) K
 | _ => False
noncomputable def cNot (v : MV) (K : MV → Prop) : Prop := match v with
 | .bool b => K (.bool (!b))
 | _ => False
noncomputable def cNeg (v : MV) (K : MV → Prop) : Prop := match v with
 | .int i => K (.int (-i))
 | _ => False
noncomputable def cOut (op : BoolOp) (b : Bool) (go : Prop) (out : Bool → Prop) : Prop := match op with
 | .And => cIf b go (out false)
 | .Or => cIf b (out true) go
noncomputable def cKind (T : Tab) (st : St) (o : MV) (x : Str) (K : Me → Prop) : Prop := match o with
 | .ref (.tm _) | .ref (.ch _) | .ref (.dc _) => Yes (methKind T st o x) K
 | _ => cob (methKind T st o x) K
theorem cKind_yes {T : Tab} {st : St} {o : MV} {x : Str} {K : Me → Prop} (h : cKind T st o x K) : Yes (methKind T st o x) K := by
  cases o <;> first
    | exact cob_yes h
    | (rename_i a
       cases a <;> first | exact cob_yes h | exact h)
theorem cInt2_yes {a b : MV} {x : Option MV} {f : Int → Int → MV} {K : MV → Prop} (e : ∀ i j, a = .int i → b = .int j → x = some (f i j)) (h : cInt2 a b (fun i j => K (f i j)) (Yes x K)) : Yes x K := by
 cases a <;> first
  | exact h
  | (cases b <;> first | exact h | exact ⟨_, e _ _ rfl rfl, h⟩)
theorem cBin_yes {op : Operator} {a b : MV} {K : MV → Prop} (h : cBin op a b K) : Yes (binop op a b) K := by
 cases op <;> first
  | exact h
  | exact cInt2_yes (fun _ _ p q => p ▸ q ▸ rfl) h
theorem cCmp_yes {st : St} {op : CmpOp} {a b : MV} {K : Bool → Prop} (h : cCmp st op a b K) : Yes (cmp st op a b) K := by
 cases op <;> first
  | exact cob_yes h
  | (cases a <;> first | exact cob_yes h | exact h)
  | (cases b <;> first | exact cob_yes h | exact h)
theorem cSub_yes {st : St} {o i : MV} {K : MV → Prop} (h : cSub st o i K) : Yes (subOf st o i) K := by
  cases i <;> first
    | exact h
    | (cases o <;> first
       | exact cob_yes h
       | (rename_i a
          cases a <;> first | exact cob_yes h | exact h))
theorem cMeth_yes {rec : Rec} {k : Me} {st : St} {o : MV} {name : Str} {args : List MV} {K : MV → St → Prop} (h : cMeth rec k st o name args K) : Yes2 (methDo rec k st o name args) K := by
 cases k <;> exact h
theorem cCall_yes {rec : Rec} {st : St} {f : MV} {args : List MV} {K : MV → St → Prop} (h : cCall rec st f args K) : Yes2 (callV rec st f args) K := by
 cases f <;> first
  | exact h.elim
  | exact yes_ob2 (h.mono fun _ k => ⟨_, _, rfl, k⟩)
  | exact h
theorem cIf_cases {c : Bool} {A B : Prop} (h : cIf c A B) : (c = true ∧ A) ∨ (c = false ∧ B) := by
 obtain ⟨h1, h2⟩ := h
 cases c
 ·exact .inr ⟨rfl, h2 rfl⟩
 ·exact .inl ⟨rfl, h1 rfl⟩
theorem cIf.f {A B : Prop} (h : cIf false A B) : B := by
 obtain ⟨_, h2⟩ := h
 exact h2 rfl
theorem cIf.t {A B : Prop} (h : cIf true A B) : A := by
 obtain ⟨h1, _⟩ := h
 exact h1 rfl
section
variable (T : Tab) (pol : Pol) (rec : Rec)
mutual
noncomputable def cE : Expr → Scope → Loc → St → (MV → St → Prop) → Prop
 | .Constant c _ _, _, _, st, K => cob (constOf c) fun v => K v st
 | .Name x _, sc, loc, st, K => cob (readName T sc loc x) fun v => K v st
 | .BoolOp op vs _, sc, loc, st, K => cBool op vs sc loc st K
 | .BinOp l op r _, sc, loc, st, K => cE l sc loc st fun a st => cE r sc loc st fun b st => cBin op a b fun v => K v st
 | .UnaryOp .Not x _, sc, loc, st, K => cE x sc loc st fun a st => cNot a fun v => K v st
 | .UnaryOp .USub x _, sc, loc, st, K => cE x sc loc st fun a st => cNeg a fun v => K v st
 | .IfExp t b o _, sc, loc, st, K => cT t sc loc st fun c st => cIf c (cE b sc loc st K) (cE o sc loc st K)
 | .List es pos, sc, loc, st, K => cGo (es.length ≤ 1000) (cL es sc loc st fun vs st => Yes2 (layList pol pos vs st) K)
 | .Tuple es _ _, sc, loc, st, K => cGo (es.length ≤ 1000) (cL es sc loc st fun vs st => K (.tup vs) st)
 | .Compare l [op] [r] _, sc, loc, st, K => cE l sc loc st fun a st => cE r sc loc st fun b st => cCmp st op a b fun c => K (.bool c) st
 | .Call (.Attribute o x ap) args [] p, sc, loc, st, K => cGo (baseOk o = true ∧ ap.endLine = p.line ∧ args.length < 20) (match twoStrs args with
   | some (y, z) => cGo (x = "replace" ∧ (y == z) = false ∧ z.length ≤ 14) (cE o sc loc st fun ov st => Yes (replOf ov y z) fun v => K v st)
   | none => cE o sc loc st fun ov st => cKind T st ov x fun k => cL args sc loc st fun vs st => cMeth rec k st ov x vs K)
 | .Call (.Name f _) args [] _, sc, loc, st, K => cob (readName T sc loc f) fun fv => cL args sc loc st fun vs st => cCall rec st fv vs K
 | .Attribute o x _, sc, loc, st, K => cGo (baseOk o = true) (cE o sc loc st fun ov st => cob (attrOf st ov x) fun v => K v st)
 | .Subscript o (.Slice lo hi none _) _, sc, loc, st, K => cE o sc loc st fun ov st => cOpt lo sc loc st fun l st => cOpt hi sc loc st fun h st => Yes (cutOf st ov l h) fun v => K v st
 | .Subscript o (.Slice lo hi (some s) p) q, sc, loc, st, K => Yes2 (evE T pol rec (.Subscript o (.Slice lo hi (some s) p) q) sc loc st) K
 | .Subscript o i _, sc, loc, st, K => cE o sc loc st fun ov st => cE i sc loc st fun iv st => cSub st ov iv fun v => K v st
 | e, sc, loc, st, K => Yes2 (evE T pol rec e sc loc st) K
noncomputable def cOpt : Option Expr → Scope → Loc → St → (Option Int → St → Prop) → Prop
 | none, _, _, st, K => K none st
 | some e, sc, loc, st, K => cE e sc loc st fun v st => cob (intOf v) fun i => K (some i) st
noncomputable def cL : List Expr → Scope → Loc → St → (List MV → St → Prop) → Prop
 | [], _, _, st, K => K [] st
 | e :: es, sc, loc, st, K => cE e sc loc st fun v st => cL es sc loc st fun vs st => K (v :: vs) st
noncomputable def cBool : BoolOp → List Expr → Scope → Loc → St → (MV → St → Prop) → Prop
 | _, [], _, _, _, _ => False
 | _, [e], sc, loc, st, K => cE e sc loc st K
 | op, e :: es, sc, loc, st, K => cE e sc loc st fun v st => cob (boolOf v) fun b => cOut op b (cBool op es sc loc st K) (fun b => K (.bool b) st)
noncomputable def cT : Expr → Scope → Loc → St → (Bool → St → Prop) → Prop
 | .UnaryOp .Not x _, sc, loc, st, K => cT x sc loc st fun b st => K (!b) st
 | .BoolOp op vs _, sc, loc, st, K => cTs op vs sc loc st K
 | .Compare l [op] [r] _, sc, loc, st, K => cE l sc loc st fun a st => cE r sc loc st fun b st => cCmp st op a b fun c => K c st
 | .Constant c _ _, _, _, st, K => cob (constOf c) fun v => cob (boolOf v) fun b => K b st
 | .Name x _, sc, loc, st, K => cob (readName T sc loc x) fun v => cob (boolOf v) fun b => K b st
 | .Call (.Attribute o x ap) args [] p, sc, loc, st, K => cGo (baseOk o = true ∧ ap.endLine = p.line ∧ args.length < 20) (cE o sc loc st fun ov st => cKind T st ov x fun k => cL args sc loc st fun vs st => cMeth rec k st ov x vs fun v st => cob (boolOf v) fun b => K b st)
 | .Call (.Name f _) args [] _, sc, loc, st, K => cob (readName T sc loc f) fun fv => cL args sc loc st fun vs st => cCall rec st fv vs fun v st => cob (boolOf v) fun b => K b st
 | .Attribute o x _, sc, loc, st, K => cGo (baseOk o = true) (cE o sc loc st fun ov st => cob (attrOf st ov x) fun v => cob (boolOf v) fun b => K b st)
 | .Subscript _ (.Slice ..) _, _, _, _, _ => False
 | .Subscript o i _, sc, loc, st, K => cE o sc loc st fun ov st => cE i sc loc st fun iv st => cSub st ov iv fun v => cob (boolOf v) fun b => K b st
 | _, _, _, _, _ => False
noncomputable def cTs : BoolOp → List Expr → Scope → Loc → St → (Bool → St → Prop) → Prop
 | op, [], _, _, st, K => K (match op with | .And => true | .Or => false) st
 | op, e :: es, sc, loc, st, K => cT e sc loc st fun b st => cOut op b (cTs op es sc loc st K) (fun b => K b st)
end
mutual
noncomputable def cA : Expr → MV → Scope → Loc → St → (Loc → St → Prop) → Prop
 | .Name x _, v, sc, loc, st, K => match lookKind sc x with
  | some .local | some .cell => K (setL x v loc) st
  | _ => False
 | .Attribute o x _, v, sc, loc, st, K => cE T pol rec o sc loc st fun ov st => Yes (setAttrOf st ov x v) fun st => K loc st
 | .Subscript o i _, v, sc, loc, st, K => cE T pol rec o sc loc st fun ov st => cE T pol rec i sc loc st fun iv st => Yes (setSubOf st ov iv v) fun st => K loc st
 | .Tuple ts _ _, v, sc, loc, st, K => match v with
  | .tup vs => cAs ts vs sc loc st K
  | _ => False
 | _, _, _, _, _, _ => False
noncomputable def cAs : List Expr → List MV → Scope → Loc → St → (Loc → St → Prop) → Prop
 | [], vs, _, loc, st, K => match vs with | [] => K loc st | _ => False
 | t :: ts, vs, sc, loc, st, K => match vs with
  | [] => False
  | v :: vs => cA t v sc loc st fun loc st => cAs ts vs sc loc st K
end
noncomputable def cThen (go : Loc → St → Prop) (K : Fl → Loc → St → Prop) (fl : Fl) (loc : Loc) (st : St) : Prop := match fl with
 | .next => go loc st
 | fl => K fl loc st
noncomputable def cAug (sc : Scope) (op : Operator) (x : Str) (old v : MV) (loc : Loc) (K : Loc → Prop) : Prop := match old, v with
 | .int a, .int b => cob (augOp op a b) fun r => match lookKind sc x with
  | some .local => K (setL x r loc)
  | _ => False
 | _, _ => False
noncomputable def testOf (t : Expr) (sc : Scope) (loc : Loc) (st : St) : Option (Bool × St) := evT T pol rec t sc loc st
noncomputable def bodyOf (b : List Stmt) (sc : Scope) (loc : Loc) (st : St) : SR := evSs T pol rec b sc loc st
noncomputable def stepOf (tgt : Expr) (b : List Stmt) (sc : Scope) (x : MV) (loc : Loc) (st : St) : SR := lb (evA T pol rec tgt x sc loc st) fun loc st => evSs T pol rec b sc loc st
mutual
noncomputable def cS : Stmt → Scope → Loc → St → (Fl → Loc → St → Prop) → Prop
 | .Expr e _, sc, loc, st, K => cGo (isComp e = false) (cE T pol rec e sc loc st fun _ st => K .next loc st)
 | .Break _, _, loc, st, K => K .brk loc st
 | .Return (some e) _, sc, loc, st, K => cE T pol rec e sc loc st fun v st => K (.ret v) loc st
 | .Return none _, _, loc, st, K => K (.ret .none) loc st
 | .Assign [t] e _, sc, loc, st, K => cGo (storeOk sc t e = true) (cE T pol rec e sc loc st fun v st => cA T pol rec t v sc loc st fun loc st => K .next loc st)
 | .AugAssign (.Name x _) op e _, sc, loc, st, K => cob (readName T sc loc x) fun old => cE T pol rec e sc loc st fun v st => cAug sc op x old v loc fun loc => K .next loc st
 | .If t b o _, sc, loc, st, K => cT T pol rec t sc loc st fun c st => cIf c (cSs b sc loc st K) (cSs o sc loc st K)
 | .While t b [] _, sc, loc, st, K => Yes3 (whileLoop (testOf T pol rec t sc) (bodyOf T pol rec b sc) turns loc st) K
 | .For tgt it b [] _, sc, loc, st, K => cE T pol rec it sc loc st fun src st => Yes3 (forSrc (stepOf T pol rec tgt b sc) src loc st) K
 | _, _, _, _, _ => False
noncomputable def cSs : List Stmt → Scope → Loc → St → (Fl → Loc → St → Prop) → Prop
 | [], _, loc, st, K => K .next loc st
 | s :: ss, sc, loc, st, K => match ss with
  | [] => cS s sc loc st K
  | _ => cS s sc loc st fun fl loc st => cThen (fun loc st => cSs ss sc loc st K) K fl loc st
end
end
end Mine
namespace Mine
open PySem
section
variable {T : Tab} {pol : Pol} {rec : Rec}
structure GoodC (T : Tab) (pol : Pol) (rec : Rec) (e : Expr) : Prop where
 E : ∀ {sc loc st K}, cE T pol rec e sc loc st K → Yes2 (evE T pol rec e sc loc st) K
 B : ∀ {sc loc st K}, cT T pol rec e sc loc st K → Yes2 (evT T pol rec e sc loc st) K
 A : ∀ {v sc loc st K}, cA T pol rec e v sc loc st K → YesL (evA T pol rec e v sc loc st) K
theorem yes2_ok {α : Type} {K : α → St → Prop} {a : α} {s : St} (k : K a s) : Yes2 (some (a, s)) K := ⟨a, s, rfl, k⟩
theorem cL_yes {sc : Scope} {loc : Loc} : ∀ (es : List Expr) (_ : ∀ e ∈ es, GoodC T pol rec e) {st : St} {K : List MV → St → Prop}, cL T pol rec es sc loc st K → Yes2 (evL T pol rec es sc loc st) K
 | [], _, _, _, h => ⟨_, _, rfl, h⟩
 | e :: es, G, _, _, h => yes_pb (((G e (.head _)).E h).mono fun _ _ h => yes_pb ((cL_yes es (fun e' m => G e' (.tail _ m)) h).mono fun _ _ k => yes2_ok k))
theorem cOpt_yes {sc : Scope} {loc : Loc} (o : Option Expr) (G : ∀ e, o = some e → GoodC T pol rec e) {st : St} {K : Option Int → St → Prop} (h : cOpt T pol rec o sc loc st K) : Yes2 (evOpt T pol rec o sc loc st) K := by
 cases o with
 | none => exact ⟨_, _, rfl, h⟩
 | some e => exact yes_pb (((G e rfl).E h).mono fun _ _ h => yes_ob2 ((cob_yes h).mono fun _ k => yes2_ok k))
theorem cOut_bool {op : BoolOp} {b : Bool} {go : Prop} {out : Bool → Prop} (h : cOut op b go out) : (((op = .And ∧ b = false) ∨ (op = .Or ∧ b = true)) ∧ out b) ∨ (((op = .And ∧ b = true) ∨ (op = .Or ∧ b = false)) ∧ go) := by
 cases op <;> cases b
 ·exact .inl ⟨.inl ⟨rfl, rfl⟩, cIf.f h⟩
 ·exact .inr ⟨.inl ⟨rfl, rfl⟩, cIf.t h⟩
 ·exact .inr ⟨.inr ⟨rfl, rfl⟩, cIf.f h⟩
 ·exact .inl ⟨.inr ⟨rfl, rfl⟩, cIf.t h⟩
theorem cBool_yes {sc : Scope} {loc : Loc} {op : BoolOp} : ∀ (es : List Expr) (_ : ∀ e ∈ es, GoodC T pol rec e) {st : St} {K : MV → St → Prop}, cBool T pol rec op es sc loc st K → Yes2 (evBool T pol rec op es sc loc st) K
 | [], _, _, _, h => h.elim
 | [e], G, _, _, h => (G e (.head _)).E h
 | e :: e' :: es, G, _, _, h => yes_pb (((G e (.head _)).E h).mono fun v s h => yes_ob2 ((cob_yes h).mono fun b h => by
   rcases cOut_bool h with ⟨⟨rfl, rfl⟩ | ⟨rfl, rfl⟩, k⟩ | ⟨⟨rfl, rfl⟩ | ⟨rfl, rfl⟩, k⟩
   ·exact yes2_ok k
   ·exact yes2_ok k
   ·exact cBool_yes (e' :: es) (fun e' m => G e' (.tail _ m)) k
   ·exact cBool_yes (e' :: es) (fun e' m => G e' (.tail _ m)) k))
theorem cTs_yes {sc : Scope} {loc : Loc} {op : BoolOp} : ∀ (es : List Expr) (_ : ∀ e ∈ es, GoodC T pol rec e) {st : St} {K : Bool → St → Prop}, cTs T pol rec op es sc loc st K → Yes2 (evTs T pol rec op es sc loc st) K
 | [], _, _, _, h => ⟨_, _, rfl, h⟩
 | e :: es, G, _, _, h => yes_pb (((G e (.head _)).B h).mono fun v s h => by
   rcases cOut_bool h with ⟨⟨rfl, rfl⟩ | ⟨rfl, rfl⟩, k⟩ | ⟨⟨rfl, rfl⟩ | ⟨rfl, rfl⟩, k⟩
   ·exact yes2_ok k
   ·exact yes2_ok k
   ·exact cTs_yes es (fun e' m => G e' (.tail _ m)) k
   ·exact cTs_yes es (fun e' m => G e' (.tail _ m)) k)
theorem yes_if {α : Type} {c : Prop} [Decidable c] {x : Option (α × St)} {K : α → St → Prop} (h : c ∧ Yes2 x K) : Yes2 (if c then x else none) K := by rw [if_pos h.1]; exact h.2
noncomputable def GB (T : Tab) (pol : Pol) (rec : Rec) (e : Expr) : Prop := ∀ e', sizeOf e' < sizeOf e → GoodC T pol rec e'
theorem GB.l {e : Expr} (IH : GB T pol rec e) (es : List Expr) (hs : sizeOf es < sizeOf e) : ∀ e' ∈ es, GoodC T pol rec e' := fun e' m => IH e' (Nat.lt_trans (List.sizeOf_lt_of_mem m) hs)
theorem cE_step (e : Expr) (IH : GB T pol rec e) {sc : Scope} {loc : Loc} {st : St} {K : MV → St → Prop} (h : cE T pol rec e sc loc st K) : Yes2 (evE T pol rec e sc loc st) K := by
 cases e with
 | Constant c k p => exact yes_ob2 ((cob_yes h).mono fun v k => yes2_ok k)
 | Name x p => exact yes_ob2 ((cob_yes h).mono fun v k => yes2_ok k)
 | BoolOp op vs p => exact cBool_yes vs (IH.l vs sz_BoolOp_vs) h
 | BinOp l op r p => exact yes_pb (((IH l sz_BinOp_l).E h).mono fun _ _ h => yes_pb (((IH r sz_BinOp_r).E h).mono fun _ _ h => yes_ob2 ((cBin_yes h).mono fun _ k => yes2_ok k)))
 | UnaryOp op x p =>
  cases op with
  | Not => exact yes_pb (((IH x sz_UnaryOp_x).E h).mono fun a s h => by cases a <;> first | exact yes2_ok h | exact h.elim)
  | USub => exact yes_pb (((IH x sz_UnaryOp_x).E h).mono fun a s h => by cases a <;> first | exact yes2_ok h | exact h.elim)
  | _ => exact h
 | IfExp t b o p => exact yes_pb (((IH t sz_IfExp_t).B h).mono fun c s h => by
   cases c
   ·exact (IH o sz_IfExp_o).E h.f
   ·exact (IH b sz_IfExp_b).E h.t)
 | List es p => exact yes_if ⟨(cGo_and h).1, yes_pb (cL_yes es (IH.l es sz_List_es) (cGo_and h).2)⟩
 | Tuple es k p => exact yes_if ⟨(cGo_and h).1, yes_pb ((cL_yes es (IH.l es sz_Tuple_es) (cGo_and h).2).mono fun _ _ k => yes2_ok k)⟩
 | Compare l ops rs p =>
  match ops, rs, h, IH.l rs sz_Compare_rs with
  | [op], [r], h, G => exact yes_pb (((IH l sz_Compare_l).E h).mono fun _ _ h => yes_pb (((G r (.head _)).E h).mono fun _ _ h => yes_ob2 ((cCmp_yes h).mono fun _ k => yes2_ok k)))
  | [], _, h, _ | [_], [], h, _ | _ :: _ :: _, [], h, _ | [_], _ :: _ :: _, h, _ | _ :: _ :: _, _ :: _, h, _ => exact h
 | Call f args kw p =>
  cases f with
  | Attribute o x ap =>
   cases kw with
   | cons _ _ => exact h
   | nil =>
    have Go := IH o (Nat.lt_trans sz_Attribute_o sz_Call_f)
    have Ga := IH.l args sz_Call_a
    refine yes_if ⟨(cGo_and h).1, ?_⟩
    have h2 := (cGo_and h).2
    revert h2
    cases twoStrs args with
    | some q => exact fun h2 => yes_if ⟨(cGo_and h2).1, yes_pb ((Go.E (cGo_and h2).2).mono fun _ _ h => yes_ob2 (h.mono fun _ k => yes2_ok k))⟩
    | none => exact fun h2 => yes_pb ((Go.E h2).mono fun _ _ h => yes_ob2 ((cKind_yes h).mono fun _ h => yes_pb ((cL_yes args Ga h).mono fun _ _ h => cMeth_yes h)))
  | Name f q =>
   cases kw with
   | cons _ _ => exact h
   | nil => exact yes_ob2 ((cob_yes h).mono fun _ h => yes_pb ((cL_yes args (IH.l args sz_Call_a) h).mono fun _ _ h => cCall_yes h))
  | _ => exact h
 | Attribute o x p => exact yes_if ⟨(cGo_and h).1, yes_pb (((IH o sz_Attribute_o).E (cGo_and h).2).mono fun _ _ h => yes_ob2 ((cob_yes h).mono fun _ k => yes2_ok k))⟩
 | Subscript o i p =>
  have Go := IH o sz_Subscript_o
  have Gi := IH i sz_Subscript_i
  cases i with
  | Slice lo hi s q =>
   have Gl : ∀ e, lo = some e → GoodC T pol rec e := fun e q => IH e (Nat.lt_trans (Nat.lt_trans (q ▸ sz_some) sz_Slice_l) sz_Subscript_i)
   have Gh : ∀ e, hi = some e → GoodC T pol rec e := fun e q => IH e (Nat.lt_trans (Nat.lt_trans (q ▸ sz_some) sz_Slice_h) sz_Subscript_i)
   cases s with
   | some s => exact h
   | none => exact yes_pb ((Go.E h).mono fun _ _ h => yes_pb ((cOpt_yes lo Gl h).mono fun _ _ h => yes_pb ((cOpt_yes hi Gh h).mono fun _ _ h => yes_ob2 (h.mono fun _ k => yes2_ok k))))
  | _ => exact yes_pb ((Go.E h).mono fun _ _ h => yes_pb ((Gi.E h).mono fun _ _ h => yes_ob2 ((cSub_yes h).mono fun _ k => yes2_ok k)))
 | _ => exact h
theorem cT_step (e : Expr) (IH : GB T pol rec e) {sc : Scope} {loc : Loc} {st : St} {K : Bool → St → Prop} (h : cT T pol rec e sc loc st K) : Yes2 (evT T pol rec e sc loc st) K := by
 cases e with
 | Constant c k p => exact yes_ob2 ((cob_yes h).mono fun v h => yes_ob2 ((cob_yes h).mono fun _ k => yes2_ok k))
 | Name x p => exact yes_ob2 ((cob_yes h).mono fun v h => yes_ob2 ((cob_yes h).mono fun _ k => yes2_ok k))
 | BoolOp op vs p => exact cTs_yes vs (IH.l vs sz_BoolOp_vs) h
 | UnaryOp op x p =>
  cases op with
  | Not => exact yes_pb (((IH x sz_UnaryOp_x).B h).mono fun a s h => yes2_ok h)
  | _ => exact h.elim
 | Compare l ops rs p =>
  match ops, rs, h, IH.l rs sz_Compare_rs with
  | [op], [r], h, G => exact yes_pb (((IH l sz_Compare_l).E h).mono fun _ _ h => yes_pb (((G r (.head _)).E h).mono fun _ _ h => yes_ob2 ((cCmp_yes h).mono fun _ k => yes2_ok k)))
  | [], _, h, _ | [_], [], h, _ | _ :: _ :: _, [], h, _ | [_], _ :: _ :: _, h, _ | _ :: _ :: _, _ :: _, h, _ => exact h.elim
 | Call f args kw p =>
  cases f with
  | Attribute o x ap =>
   cases kw with
   | cons _ _ => exact h.elim
   | nil =>
    exact yes_if ⟨(cGo_and h).1, yes_pb (((IH o (Nat.lt_trans sz_Attribute_o sz_Call_f)).E (cGo_and h).2).mono fun _ _ h => yes_ob2 ((cKind_yes h).mono fun _ h => yes_pb ((cL_yes args (IH.l args sz_Call_a) h).mono fun _ _ h => yes_pb ((cMeth_yes h).mono fun _ _ h => yes_ob2 ((cob_yes h).mono fun _ k => yes2_ok k)))))⟩
  | Name f q =>
   cases kw with
   | cons _ _ => exact h.elim
   | nil => exact yes_ob2 ((cob_yes h).mono fun _ h => yes_pb ((cL_yes args (IH.l args sz_Call_a) h).mono fun _ _ h => yes_pb ((cCall_yes h).mono fun _ _ h => yes_ob2 ((cob_yes h).mono fun _ k => yes2_ok k))))
  | _ => exact h.elim
 | Attribute o x p => exact yes_if ⟨(cGo_and h).1, yes_pb (((IH o sz_Attribute_o).E (cGo_and h).2).mono fun _ _ h => yes_ob2 ((cob_yes h).mono fun _ h => yes_ob2 ((cob_yes h).mono fun _ k => yes2_ok k)))⟩
 | Subscript o i p =>
  have Go := IH o sz_Subscript_o
  have Gi := IH i sz_Subscript_i
  cases i with
  | Slice lo hi s q => exact h.elim
  | _ => exact yes_pb ((Go.E h).mono fun _ _ h => yes_pb ((Gi.E h).mono fun _ _ h => yes_ob2 ((cSub_yes h).mono fun _ h => yes_ob2 ((cob_yes h).mono fun _ k => yes2_ok k))))
 | _ => exact h.elim
theorem yesL_ok {K : Loc → St → Prop} {l : Loc} {s : St} (k : K l s) : YesL (some (l, s)) K := ⟨l, s, rfl, k⟩
theorem locCell_and {k : Option NameKind} {P : Prop} (h : match k with | some .local | some .cell => P | _ => False) : isLoc k = true ∧ P := by
 rcases k with _ | k
 ·exact h.elim
 ·cases k <;> first | exact h.elim | exact ⟨rfl, h⟩
theorem loc_and {k : Option NameKind} {P : Prop} (h : match k with | some .local => P | _ => False) : k = some .local ∧ P := by
 rcases k with _ | k
 ·exact h.elim
 ·cases k <;> first | exact h.elim | exact ⟨rfl, h⟩
theorem yes_ifL {c : Prop} [Decidable c] {x : Option (Loc × St)} {K : Loc → St → Prop} (h : c ∧ YesL x K) : YesL (if c then x else none) K := by rw [if_pos h.1]; exact h.2
theorem cA_step (e : Expr) (IH : GB T pol rec e) {v : MV} {sc : Scope} {loc : Loc} {st : St} {K : Loc → St → Prop} (h : cA T pol rec e v sc loc st K) : YesL (evA T pol rec e v sc loc st) K := by
 cases e with
 | Name x p =>
  exact yes_ifL ⟨(locCell_and h).1, yesL_ok (locCell_and h).2⟩
 | Attribute o x p => exact yes_pbL (((IH o sz_Attribute_o).E h).mono fun _ _ h => yes_obL (h.mono fun _ k => yesL_ok k))
 | Subscript o i p => exact yes_pbL (((IH o sz_Subscript_o).E h).mono fun _ _ h => yes_pbL (((IH i sz_Subscript_i).E h).mono fun _ _ h => yes_obL (h.mono fun _ k => yesL_ok k)))
 | Tuple ts k p =>
  have G : ∀ e' ∈ ts, GoodC T pol rec e' := fun e' m => IH e' (Nat.lt_trans (List.sizeOf_lt_of_mem m) sz_Tuple_es)
  have go : ∀ (ts : List Expr) (_ : ∀ e' ∈ ts, GoodC T pol rec e') (vs : List MV) {loc : Loc} {st : St} {K : Loc → St → Prop}, cAs T pol rec ts vs sc loc st K → YesL (evAs T pol rec ts vs sc loc st) K := by
   intro ts
   induction ts with
   | nil => intro _ vs loc st K h; cases vs with | nil => exact yesL_ok h | cons _ _ => exact h.elim
   | cons t ts ih => intro G vs loc st K h; cases vs with | nil => exact h.elim | cons v vs => exact yes_lb (((G t (.head _)).A h).mono fun _ _ h => ih (fun e' m => G e' (.tail _ m)) vs h)
  cases v with
  | tup vs => exact go ts G vs h
  | _ => exact h.elim
 | _ => exact h.elim
theorem goodC_le : ∀ (k : Nat) (e : Expr), sizeOf e < k → GoodC T pol rec e
 | 0, _, h => absurd h (Nat.not_lt_zero _)
 | k + 1, e, h => by
  have IH : GB T pol rec e := fun e' h' => goodC_le k e' (Nat.lt_of_lt_of_le h' (Nat.le_of_lt_succ h))
  exact ⟨cE_step e IH, cT_step e IH, cA_step e IH⟩
theorem goodC (e : Expr) : GoodC T pol rec e := goodC_le (sizeOf e + 1) e (Nat.lt_succ_self _)
theorem yes3_ok {K : Fl → Loc → St → Prop} {fl : Fl} {l : Loc} {s : St} (k : K fl l s) : Yes3 (some (fl, l, s)) K := ⟨fl, l, s, rfl, k⟩
theorem yes_if3 {c : Prop} [Decidable c] {x : SR} {K : Fl → Loc → St → Prop} (h : c ∧ Yes3 x K) : Yes3 (if c then x else none) K := by rw [if_pos h.1]; exact h.2
theorem cAug_yes {sc : Scope} {op : Operator} {x : Str} {old v : MV} {loc : Loc} {s : St} {K : Fl → Loc → St → Prop} (h : cAug sc op x old v loc fun loc => K .next loc s) :
    Yes3 (asInt old fun a => asInt v fun b => ob (augOp op a b) fun r => if lookKind sc x = some .local then some (.next, setL x r loc, s) else none) K := by
  cases old <;> first
    | exact h.elim
    | (cases v <;> first
       | exact h.elim
       | exact yes_ob3 ((cob_yes h).mono fun r h => yes_if3 ⟨(loc_and h).1, yes3_ok (loc_and h).2⟩))
theorem cSs_of (k : Nat) (H : ∀ c : Stmt, sizeOf c < k → ∀ {sc loc st K}, cS T pol rec c sc loc st K → Yes3 (evS T pol rec c sc loc st) K) : ∀ cs : List Stmt, sizeOf cs < k → ∀ {sc loc st K}, cSs T pol rec cs sc loc st K → Yes3 (evSs T pol rec cs sc loc st) K
 | [], _, _, _, _, _, h => yes3_ok h
 | [c], hk, _, _, _, _, h => yes_sb ((H c (Nat.lt_trans (List.sizeOf_lt_of_mem (.head _)) hk) h).mono fun fl l s h => by cases fl <;> exact yes3_ok h)
 | c :: d :: cs, hk, _, _, _, _, h => yes_sb ((H c (Nat.lt_trans (List.sizeOf_lt_of_mem (.head _)) hk) h).mono fun fl l s h => by
   cases fl with
   | next => exact cSs_of k H (d :: cs) (Nat.lt_trans (szc szM (List.cons.sizeOf_spec ..)) hk) h
   | _ => exact yes3_ok h)
theorem cS_le : ∀ (k : Nat) (c : Stmt), sizeOf c < k → ∀ {sc loc st K}, cS T pol rec c sc loc st K → Yes3 (evS T pol rec c sc loc st) K
 | 0, _, h => absurd h (Nat.not_lt_zero _)
 | k + 1, c, hk => by
  have IH := cSs_of (T := T) (pol := pol) (rec := rec) k (cS_le k)
  rename_i sc loc st K
  intro h
  cases c with
  | Expr e p => exact yes_if3 ⟨(cGo_and h).1, yes_pb3 (((goodC e).E (cGo_and h).2).mono fun _ _ k => yes3_ok k)⟩
  | Break p => exact yes3_ok h
  | Return e p =>
   cases e with
   | none => exact yes3_ok h
   | some e => exact yes_pb3 (((goodC e).E h).mono fun _ _ k => yes3_ok k)
  | Assign ts e p =>
   match ts, h with
   | [t], h => exact yes_if3 ⟨(cGo_and h).1, yes_pb3 (((goodC e).E (cGo_and h).2).mono fun _ _ h => yes_next ((goodC t).A h))⟩
   | [], h | _ :: _ :: _, h => exact h.elim
  | AugAssign t op e p =>
   cases t with
   | Name x q => exact yes_ob3 ((cob_yes h).mono fun old h => yes_pb3 (((goodC e).E h).mono fun v s h => cAug_yes h))
   | _ => exact h.elim
  | If t b o p => exact yes_pb3 (((goodC t).B h).mono fun c s h => by
    cases c
    ·exact IH o (Nat.lt_of_lt_of_le sz_If_o (Nat.le_of_lt_succ hk)) h.f
    ·exact IH b (Nat.lt_of_lt_of_le sz_If_b (Nat.le_of_lt_succ hk)) h.t)
  | While t b o p =>
   cases o with
   | nil => exact h
   | cons _ _ => exact h.elim
  | For t i b o p =>
   cases o with
   | nil => exact yes_pb3 ((goodC i).E h)
   | cons _ _ => exact h.elim
  | _ => exact h.elim
theorem cSs_yes {cs : List Stmt} {sc : Scope} {loc : Loc} {st : St} {K : Fl → Loc → St → Prop} (h : cSs T pol rec cs sc loc st K) : Yes3 (evSs T pol rec cs sc loc st) K := cSs_of (sizeOf cs + 1) (fun c _ => cS_le _ c (Nat.lt_succ_self _)) cs (Nat.lt_succ_self _) h
noncomputable def loopK (go : Loc → St → Prop) (K : Fl → Loc → St → Prop) (fl : Fl) (loc : Loc) (st : St) : Prop := match fl with
 | .next | .cont => go loc st
 | .brk => K .next loc st
 | .ret v => K (.ret v) loc st
theorem while_turn {t : Expr} {b : List Stmt} {sc : Scope} {n : Nat} {loc : Loc} {st : St} {K : Fl → Loc → St → Prop}
  (h : cT T pol rec t sc loc st fun c st => cIf c (cSs T pol rec b sc loc st (loopK (fun loc st => Yes3 (whileLoop (testOf T pol rec t sc) (bodyOf T pol rec b sc) n loc st) K) K)) (K .next loc st)) :
  Yes3 (whileLoop (testOf T pol rec t sc) (bodyOf T pol rec b sc) (n + 1) loc st) K := by
 obtain ⟨c, s, e, k⟩ := (goodC t).B h
 show Yes3 (match testOf T pol rec t sc loc st with | none => _ | some (false, st) => _ | some (true, st) => _) K
 rw [testOf, e]
 cases c with
 | false => exact yes3_ok k.f
 | true =>
  refine yes_sb ((cSs_yes k.t).mono fun fl l s k => ?_)
  cases fl with
  | next => exact k
  | cont => exact k
  | brk => exact yes3_ok k
  | ret v => exact yes3_ok k
theorem whileLoop_mono {t : Loc → St → Option (Bool × St)} {b : Loc → St → SR} : ∀ {m m' : Nat} {l : Loc} {s : St} {r : Fl × Loc × St}, m ≤ m' → whileLoop t b m l s = some r → whileLoop t b m' l s = some r
 | 0, _, _, _, _, _, h => by cases h
 | m + 1, m', l, s, r, hm, h => by
  obtain ⟨q, rfl⟩ : ∃ q, m' = q + 1 := ⟨m' - 1, by lia⟩
  revert h
  show (match t l s with | none => none | some (false, st) => some (Fl.next, l, st) | some (true, st) => sb (b l st) _) = _ → (match t l s with | none => none | some (false, st) => some (Fl.next, l, st) | some (true, st) => sb (b l st) _) = _
  cases t l s with
  | none => exact id
  | some w =>
   obtain ⟨c, s⟩ := w
   cases c with
   | false => exact id
   | true =>
    show sb (b l s) _ = _ → sb (b l s) _ = _
    cases b l s with
    | none => exact id
    | some w =>
     obtain ⟨f, l, s⟩ := w
     cases f with
     | next => exact whileLoop_mono (by lia)
     | cont => exact whileLoop_mono (by lia)
     | brk => exact id
     | ret v => exact id
theorem while_more {t : Loc → St → Option (Bool × St)} {b : Loc → St → SR} {m m' : Nat} {l : Loc} {s : St} {K : Fl → Loc → St → Prop} (hm : m ≤ m') (h : Yes3 (whileLoop t b m l s) K) : Yes3 (whileLoop t b m' l s) K := by
 obtain ⟨f, l', s', e, k⟩ := h
 exact ⟨f, l', s', whileLoop_mono hm e, k⟩
theorem step_yes {tgt : Expr} {b : List Stmt} {sc : Scope} {x : MV} {loc : Loc} {st : St} {K : Fl → Loc → St → Prop} (h : cA T pol rec tgt x sc loc st fun loc st => cSs T pol rec b sc loc st K) : Yes3 (stepOf T pol rec tgt b sc x loc st) K :=
 yes_lb3 (((goodC tgt).A h).mono fun _ _ k => cSs_yes k)
theorem for_nil {step : MV → Loc → St → SR} {loc : Loc} {st : St} {K : Fl → Loc → St → Prop} (k : K .next loc st) : Yes3 (forItems step [] loc st) K := yes3_ok k
theorem for_cons {tgt : Expr} {b : List Stmt} {sc : Scope} {x : MV} {xs : List MV} {loc : Loc} {st : St} {K : Fl → Loc → St → Prop}
  (h : cA T pol rec tgt x sc loc st fun loc st => cSs T pol rec b sc loc st (loopK (fun loc st => Yes3 (forItems (stepOf T pol rec tgt b sc) xs loc st) K) K)) :
  Yes3 (forItems (stepOf T pol rec tgt b sc) (x :: xs) loc st) K := by
 refine yes_sb ((step_yes h).mono fun fl l s k => ?_)
 cases fl with
 | next => exact k
 | cont => exact k
 | brk => exact yes3_ok k
 | ret v => exact yes3_ok k
theorem for_fixed {step : MV → Loc → St → SR} {src : MV} {vs : List MV} {loc : Loc} {st : St} {K : Fl → Loc → St → Prop} (hs : fixedItems src = some vs) (h : Yes3 (forItems step vs loc st) K) : Yes3 (forSrc step src loc st) K := by
 cases src with
 | ref a => cases hs
 | _ => exact yes_ob3 (f := fun vs => forItems step vs loc st) ⟨vs, hs, h⟩
theorem forRef_turn {step : MV → Loc → St → SR} {a : Ad} {vs : List MV} {n i : Nat} {loc : Loc} {st : St} {K : Fl → Loc → St → Prop} {x : MV} (hg : st.get a = some (.list vs)) (hx : vs[i]? = some x)
  (h : Yes3 (step x loc st) (loopK (fun loc st => Yes3 (forRef step a n (i + 1) loc st) K) K)) : Yes3 (forRef step a (n + 1) i loc st) K := by
 show Yes3 (atList (st.get a) _) K
 rw [hg]
 show Yes3 (match vs[i]? with | none => _ | some x => _) K
 rw [hx]
 refine yes_sb (h.mono fun fl l s k => ?_)
 cases fl with
 | next => exact k
 | cont => exact k
 | brk => exact yes3_ok k
 | ret v => exact yes3_ok k
theorem forRef_end {step : MV → Loc → St → SR} {a : Ad} {vs : List MV} {n i : Nat} {loc : Loc} {st : St} {K : Fl → Loc → St → Prop} (hg : st.get a = some (.list vs)) (hx : vs[i]? = none) (k : K .next loc st) : Yes3 (forRef step a (n + 1) i loc st) K := by
 show Yes3 (atList (st.get a) _) K
 rw [hg]
 show Yes3 (match vs[i]? with | none => _ | some x => _) K
 rw [hx]
 exact yes3_ok k
noncomputable def cIfs (T : Tab) (pol : Pol) (rec : Rec) : List Expr → Scope → Loc → St → (Bool → St → Prop) → Prop
 | [], _, _, st, K => K true st
 | e :: es, sc, loc, st, K => cT T pol rec e sc loc st fun b st => cIf b (cIfs T pol rec es sc loc st K) (K false st)
theorem cIfs_yes {sc : Scope} {loc : Loc} : ∀ (es : List Expr) {st : St} {K : Bool → St → Prop}, cIfs T pol rec es sc loc st K → Yes2 (evIfs T pol rec es sc loc st) K
 | [], _, _, h => yes2_ok h
 | e :: es, _, _, h => yes_pb (((goodC e).B h).mono fun b s h => by
   cases b
   ·exact yes2_ok h.f
   ·exact cIfs_yes es h.t)
noncomputable def compStepC (T : Tab) (pol : Pol) (rec : Rec) (elt tgt : Expr) (ifs : List Expr) (sc' : Scope) (loc : Loc) (x : MV) (st : St) : Option (Option MV × St) :=
 lb (evA T pol rec tgt x sc' (compLoc sc' loc) st) fun loc st => pb (evIfs T pol rec ifs sc' loc st) fun ok st => if ok then pb (evE T pol rec elt sc' loc st) fun v st => some (some v, st) else some (none, st)
noncomputable def cStep (T : Tab) (pol : Pol) (rec : Rec) (elt tgt : Expr) (ifs : List Expr) (sc' : Scope) (loc : Loc) (x : MV) (st : St) (K : Option MV → St → Prop) : Prop :=
 cA T pol rec tgt x sc' (compLoc sc' loc) st fun loc st => cIfs T pol rec ifs sc' loc st fun ok st => cIf ok (cE T pol rec elt sc' loc st fun v st => K (some v) st) (K none st)
theorem cStep_yes {elt tgt : Expr} {ifs : List Expr} {sc' : Scope} {loc : Loc} {x : MV} {st : St} {K : Option MV → St → Prop} (h : cStep T pol rec elt tgt ifs sc' loc x st K) : Yes2 (compStepC T pol rec elt tgt ifs sc' loc x st) K := by
 obtain ⟨l, s, e, k⟩ := (goodC tgt).A h
 unfold compStepC
 rw [e]
 refine yes_pb ((cIfs_yes ifs k).mono fun ok s h => ?_)
 cases ok with
 | false => exact yes2_ok h.f
 | true => exact yes_pb (((goodC elt).E h.t).mono fun _ _ k => yes2_ok k)
theorem comp_rule {elt tgt iter : Expr} {ifs : List Expr} {sc' : Scope} {p : Pos} {as : Int} {sc : Scope} {loc : Loc} {st : St} {K : MV → St → Prop}
  (h : cGo (as = 0 ∧ compOk sc' sc = true) (cE T pol rec iter sc loc st fun src st => Yes2 (compSrc (compStepC T pol rec elt tgt ifs sc' loc) src st) fun vs st => vs.length ≤ lim ∧ K (.lst vs) st)) :
  Yes2 (evE T pol rec (.ListComp elt [⟨tgt, iter, ifs, as⟩] sc' p) sc loc st) K :=
 yes_if ⟨(cGo_and h).1, yes_pb (((goodC iter).E (cGo_and h).2).mono fun _ _ h => yes_pb (h.mono fun _ _ k => yes_if ⟨k.1, yes2_ok k.2⟩))⟩
theorem comp_nil {step : MV → St → Option (Option MV × St)} {st : St} {K : List MV → St → Prop} (k : K [] st) : Yes2 (compItems step [] st) K := yes2_ok k
noncomputable def addO (r : Option MV) (rs : List MV) : List MV := match r with | some v => v :: rs | none => rs
theorem comp_cons {step : MV → St → Option (Option MV × St)} {x : MV} {xs : List MV} {st : St} {K : List MV → St → Prop} (h : Yes2 (step x st) fun r st => Yes2 (compItems step xs st) fun rs st => K (addO r rs) st) : Yes2 (compItems step (x :: xs) st) K :=
 yes_pb (h.mono fun _ _ h => yes_pb (h.mono fun _ _ k => yes2_ok k))
theorem comp_fixed {step : MV → St → Option (Option MV × St)} {src : MV} {vs : List MV} {st : St} {K : List MV → St → Prop} (hs : fixedItems src = some vs) (h : Yes2 (compItems step vs st) K) : Yes2 (compSrc step src st) K := by
 cases src with
 | ref a => cases hs
 | _ => exact yes_ob2 (f := fun vs => compItems step vs st) ⟨vs, hs, h⟩
theorem dict_rule {ks : List (Option Expr)} {vs : List Expr} {p : Pos} {sc : Scope} {loc : Loc} {st : St} {K : MV → St → Prop}
  (h : cGo (ks.length ≤ 15) (Yes2 (evPairs T pol rec ks (evTh T pol rec vs sc loc) sc loc st) fun es st => Yes2 (layDict pol p (updK [] es) st) K)) :
  Yes2 (evE T pol rec (.Dict ks vs p) sc loc st) K := by
 show Yes2 (if _ then _ else _) K
 rw [if_pos (cGo_and h).1]
 exact yes_pb (cGo_and h).2
theorem pairs_nil {sc : Scope} {loc : Loc} {st : St} {K : List (Str × MV) → St → Prop} (k : K [] st) : Yes2 (evPairs T pol rec [] (evTh T pol rec [] sc loc) sc loc st) K := yes2_ok k
theorem pairs_cons {c : Str} {kk : Nat} {kp : Pos} {ks : List (Option Expr)} {v : Expr} {vs : List Expr} {sc : Scope} {loc : Loc} {st : St} {K : List (Str × MV) → St → Prop}
  (h : cE T pol rec v sc loc st fun vv st => Yes2 (evPairs T pol rec ks (evTh T pol rec vs sc loc) sc loc st) fun es st => K ((c, vv) :: es) st) :
  Yes2 (evPairs T pol rec (some (.Constant (.str c) kk kp) :: ks) (evTh T pol rec (v :: vs) sc loc) sc loc st) K :=
 yes_pb (x := evKey T pol rec (some (.Constant (.str c) kk kp)) sc loc st)
  (f := fun kv st => pb (evE T pol rec v sc loc st) fun vv st => pb (evPairs T pol rec ks (evTh T pol rec vs sc loc) sc loc st) fun es st => some ((kv, vv) :: es, st))
  ⟨c, st, rfl, yes_pb (((goodC v).E h).mono fun _ _ h => yes_pb (h.mono fun _ _ k => yes2_ok k))⟩
end
end Mine
namespace Mine
open PySem
@[irreducible] noncomputable def C (n : Nat) : Rec := callN theTab thePol n
noncomputable def fnB (i j : Nat) : List Stmt := match theFn i j with | some d => d.body | none => []
noncomputable def fnS (i j : Nat) : Scope := match theFn i j with | some d => d.scope | none => ⟨.function, [], false, false, []⟩
noncomputable def bindF (i j : Nat) (args : List MV) : Option Loc := match theFn i j with | some d => bindP d.params args d.defaults [] | none => none
noncomputable def retK (K : MV → St → Prop) (fl : Fl) (st : St) : Prop := match fl with
 | .ret v => K v st
 | .next => K .none st
 | _ => False
theorem call_def {n i j : Nat} {args : List MV} {l : Loc} {st : St} {K : MV → St → Prop} (hb : bindF i j args = some l)
  (k : cSs theTab thePol (C n) (fnB i j) (fnS i j) l st fun fl _ st => retK K fl st) : Yes2 (C (n+1) (.fn i j) args st) K := by
 obtain ⟨fl, l', s', e, k⟩ := cSs_yes k
 revert e hb
 unfold fnB fnS bindF
 cases h : theFn i j with
 | none => exact fun h => by cases h
 | some d =>
  intro (hb : bindP d.params args d.defaults [] = some l) (e : evSs theTab thePol (C n) d.body d.scope l st = some (fl, l', s'))
  have e' : C (n + 1) = callN theTab thePol (n + 1) := by unfold C; rfl
  rw [e', callN_fn (T := theTab) h]
  unfold locInit
  rw [hb]
  show Yes2 (retOf (evSs ..)) K
  have e2 : callN theTab thePol n = C n := by unfold C; rfl
  rw [e2, e]
  cases fl with
  | next => exact yes2_ok k
  | ret v => exact yes2_ok k
  | brk => exact k.elim
  | cont => exact k.elim
noncomputable def argL (l : List (String × MV)) : Loc := l.map fun p => (Str.ofString p.1, some p.2)
structure Nd where
 sp : Str
 nm : Str
 att : List (Str × Str)
 par : Int
 kids : List Nat
structure A where
 N : List Nd
 o : List Nat
 f : List Nat
 e : List (Str × Str)
 mode : Str
 orig : Str
 wish : Str
 ok : Bool
 skip : Bool
 ack : Bool
noncomputable def A.sN (a : A) (x : List Nd) : A := { a with N := x }
noncomputable def A.so (a : A) (x : List Nat) : A := { a with o := x }
noncomputable def A.sf (a : A) (x : List Nat) : A := { a with f := x }
noncomputable def A.se (a : A) (x : List (Str × Str)) : A := { a with e := x }
noncomputable def A.smode (a : A) (x : Str) : A := { a with mode := x }
noncomputable def A.sorig (a : A) (x : Str) : A := { a with orig := x }
noncomputable def A.swish (a : A) (x : Str) : A := { a with wish := x }
noncomputable def A.sok (a : A) (x : Bool) : A := { a with ok := x }
noncomputable def A.sskip (a : A) (x : Bool) : A := { a with skip := x }
noncomputable def A.sack (a : A) (x : Bool) : A := { a with ack := x }
noncomputable def B.kinds' (b : B) (x : List MV) : B := { b with kinds := x }
noncomputable def B.spaces' (b : B) (x : List MV) : B := { b with spaces := x }
noncomputable def B.names' (b : B) (x : List MV) : B := { b with names := x }
noncomputable def B.attrs' (b : B) (x : List MV) : B := { b with attrs := x }
noncomputable def B.texts' (b : B) (x : List MV) : B := { b with texts := x }
noncomputable def B.parents' (b : B) (x : List MV) : B := { b with parents := x }
noncomputable def B.kids' (b : B) (x : List MV) : B := { b with kids := x }
noncomputable def B.ch' (b : B) (x : List (List MV)) : B := { b with ch := x }
noncomputable abbrev sv (s : String) : MV := .str (Str.ofString s)
noncomputable abbrev nv (k : Nat) : MV := .int (k : Int)
noncomputable def pairV (p : Str × Str) : MV := .tup [.str p.1, .str p.2]
noncomputable abbrev atV (l : List (Str × Str)) : MV := .lst (l.map pairV)
noncomputable def kidsV (x : Nd) : List MV := x.kids.map nv
noncomputable def toB (a : A) : B where
 kinds := sv "document" :: List.replicate (a.N.length - 1) (sv "element")
 spaces := a.N.map fun x => .str x.sp
 names := a.N.map fun x => .str x.nm
 attrs := a.N.map fun x => atV x.att
 texts := List.replicate a.N.length (sv "")
 parents := a.N.map fun x => .int x.par
 kids := (List.range a.N.length).map fun i => .ref (.ch i)
 items := a.o.map nv
 fitems := a.f.map nv
 errors := a.e.map pairV
 mode := .str a.mode
 original := .str a.orig
 wish := .str a.wish
 ok := .bool a.ok
 skip := .bool a.skip
 ack := .bool a.ack
 ch := a.N.map kidsV
noncomputable def dnV : Nat → List Nd → List MV
 | _, [] => []
 | i, x :: r => .tup [.str x.sp, .str x.nm, atV x.att, .int x.par, .ref (.dc i)] :: dnV (i + 1) r
noncomputable def moreA (a : A) : List (Str × MV) := [(os "mode", .str a.mode), (os "original", .str a.orig), (os "wish", .str a.wish), (os "ok", .bool a.ok), (os "skip", .bool a.skip), (os "ack", .bool a.ack)]
noncomputable def toDx (a : A) (x : List (Str × MV)) : D where
 due := (os "open", .lst (a.o.map nv)) :: (os "active", .ref .active) :: (os "errors", .ref .derrors) :: (os "nodes", .ref .dnodes) :: x
 active := a.f.map nv
 derrors := a.e.map pairV
 dnodes := dnV 0 a.N
 dc := a.N.map kidsV
noncomputable abbrev U (a : A) (d : D) (tm : List MO) : St := W (toB a) d tm
noncomputable abbrev X (b : B) (a : A) (tm : List MO) : St := W b (toDx a (moreA a)) tm
section
variable {rec : Rec} {K : MV → St → Prop} {st st' : St} {a : Ad} {vs : List MV} {v : MV}
theorem methDo_list (hg : st.get a = some (.list vs)) (x : Str) (args : List MV) : methDo rec .list st (.ref a) x args = listMeth st a vs x args := by
 show atList (st.get a) _ = _
 rw [hg]
 rfl
theorem str_ne {x y : String} (h : x ≠ y) : ¬ Str.ofString x = Str.ofString y := by rw [ofString_inj]; exact h
theorem l_append (hg : st.get a = some (.list vs)) (h : vs.length ≤ lim) (hp : st.put a (.list (vs ++ [v])) = some st') (k : K .none st') : Yes2 (methDo rec .list st (.ref a) (Str.ofString "append") [v]) K :=
 ⟨_, _, (methDo_list hg _ _).trans ((if_pos h).trans ((if_pos rfl).trans (congrArg (giv MV.none) hp))), k⟩
theorem l_pop (hg : st.get a = some (.list (vs ++ [v]))) (h : vs.length < lim) (hp : st.put a (.list vs) = some st') (k : K v st') : Yes2 (methDo rec .list st (.ref a) (Str.ofString "pop") []) K := by
 refine ⟨_, _, (methDo_list hg _ _).trans ((if_pos (by rw [List.length_append]; exact h)).trans ((if_neg (str_ne (by decide))).trans ((if_pos rfl).trans ?_))), k⟩
 show ob _ _ = _
 rw [List.getLast?_concat, List.dropLast_concat, hp]
 rfl
theorem l_insert {i : Int} (hg : st.get a = some (.list vs)) (hi : i = vs.length) (h : vs.length ≤ lim) (hp : st.put a (.list (vs ++ [v])) = some st') (k : K .none st') : Yes2 (methDo rec .list st (.ref a) (Str.ofString "insert") [.int i, v]) K :=
 ⟨_, _, (methDo_list hg _ _).trans ((if_pos h).trans ((if_neg (str_ne (by decide))).trans ((if_neg (str_ne (by decide))).trans ((if_neg (str_ne (by decide))).trans ((if_pos rfl).trans ((if_pos hi).trans (congrArg (giv MV.none) hp))))))), k⟩
theorem l_remove {i : Nat} (hg : st.get a = some (.list vs)) (h : vs.length ≤ lim) (hi : idxAtoms v vs = some i) (hp : st.put a (.list (vs.eraseIdx i)) = some st') (k : K .none st') : Yes2 (methDo rec .list st (.ref a) (Str.ofString "remove") [v]) K := by
 refine ⟨_, _, (methDo_list hg _ _).trans ((if_pos h).trans ((if_neg (str_ne (by decide))).trans ((if_neg (str_ne (by decide))).trans ((if_pos rfl).trans ?_)))), k⟩
 show ob _ _ = _
 rw [hi]
 exact congrArg (giv MV.none) hp
end
theorem subOf_list {st : St} {a : Ad} {vs : List MV} (hg : st.get a = some (.list vs)) (i : Int) : subOf st (.ref a) (.int i) = pick vs i := by
 show ob (atList (st.get a) some) _ = _
 rw [hg]
 rfl
theorem pick_nat {vs : List MV} {v : MV} {k : Nat} (hx : vs[k]? = some v) (hk : k ≤ lim) : pick vs k = some v :=
 (if_pos (show (k : Int).natAbs ≤ lim from hk)).trans ((if_pos (Int.natCast_nonneg k)).trans hx)
theorem l_sub {K : MV → Prop} {st : St} {a : Ad} {vs : List MV} {v : MV} {i : Int} {k : Nat} (hg : st.get a = some (.list vs)) (hi : i = k) (hx : vs[k]? = some v) (hk : k ≤ lim) (kk : K v) : Yes (subOf st (.ref a) (.int i)) K := by
 subst hi
 exact ⟨v, (subOf_list hg _).trans (pick_nat hx hk), kk⟩
theorem l_len {K : MV → Prop} {st : St} {a : Ad} {vs : List MV} (hg : st.get a = some (.list vs)) (h : vs.length ≤ lim) (kk : K (.int vs.length)) : Yes (builtin st "len" [.ref a]) K := by
 refine ⟨_, (if_pos rfl).trans ?_, kk⟩
 have e : lenOf st (.ref a) = some vs.length := by
  show ob (atList (st.get a) some) _ = _
  rw [hg]
  exact if_pos h
 show ob _ _ = _
 rw [e]
 rfl
theorem v_len {K : MV → Prop} {st : St} {vs : List MV} (h : vs.length ≤ lim) (kk : K (.int vs.length)) : Yes (builtin st "len" [.lst vs]) K := by
 refine ⟨_, (if_pos rfl).trans ?_, kk⟩
 have e : lenOf st (.lst vs) = some vs.length := if_pos h
 show ob _ _ = _
 rw [e]
 rfl
theorem l_set {K : St → Prop} {st st' : St} {a : Ad} {vs : List MV} {v : MV} {i : Int} {k : Nat} (hg : st.get a = some (.list vs)) (hi : i = k) (hk : k < vs.length) (h : vs.length ≤ lim) (hp : st.put a (.list (vs.set k v)) = some st') (kk : K st') : Yes (setSubOf st (.ref a) (.int i) v) K := by
 subst hi
 refine ⟨_, ?_, kk⟩
 show atList (st.get a) _ = _
 rw [hg]
 exact (if_pos ⟨⟨Int.natCast_nonneg k, Int.ofNat_lt.mpr hk⟩, h⟩).trans hp
theorem eqNum (a n : Nat) : eqAtom (nv a) (nv n) = some (decide (a = n)) := by
 show some (decide ((a : Int) = n)) = _
 simp only [Int.ofNat_inj]
theorem in_nums (n : Nat) (l : List Nat) : inAtoms (nv n) (l.map nv) = some (decide (n ∈ l)) := by
 unfold inAtoms
 have h : (l.map nv).all (fun y => (eqAtom y (nv n)).isSome) = true := by rw [List.all_map]; exact List.all_eq_true.mpr fun _ _ => rfl
 rw [if_pos h]
 congr 1
 clear h
 induction l with
 | nil => rfl
 | cons a r ih =>
  rw [List.map_cons, List.any_cons, ih, eqNum]
  by_cases e : n = a
  ·subst e; simp
  ·have : ¬ a = n := fun h => e h.symm
   simp [e, this]
theorem idx_nums {n : Nat} : ∀ {l : List Nat}, n ∈ l → ∃ i, idxAtoms (nv n) (l.map nv) = some i ∧ (l.map nv).eraseIdx i = (l.erase n).map nv := by
 intro l h
 have hall : ∀ l : List Nat, (l.map nv).all (hasKind (nv n)) = true := by intro l; rw [List.all_map]; exact List.all_eq_true.mpr fun _ _ => rfl
 unfold idxAtoms
 rw [if_pos (hall l)]
 induction l with
 | nil => cases h
 | cons a r ih =>
  simp only [List.map_cons, List.findIdx?_cons]
  by_cases e : a = n
  ·subst e
   refine ⟨0, ?_, ?_⟩
   ·exact if_pos (decide_eq_true rfl)
   ·simp
  ·have hm : n ∈ r := by
    cases h with
    | head => exact absurd rfl e
    | tail _ m => exact m
   obtain ⟨i, h1, h2⟩ := ih hm
   refine ⟨i + 1, ?_, ?_⟩
   ·have : isAtom (nv n) (nv a) = false := decide_eq_false fun h => e (Int.ofNat_inj.mp h)
    rw [this, h1]; rfl
   ·rw [List.erase_cons_tail (by simpa using e)]
    simp [h2]
theorem in_items {K : Bool → Prop} {st : St} {ad : Ad} {n : Nat} {l : List Nat} (hg : st.get ad = some (.list (l.map nv))) (kk : K (decide (n ∈ l))) : Yes (cmp st .In (nv n) (.ref ad)) K := by
 refine ⟨_, ?_, kk⟩
 show atMO (st.get ad) _ _ = _
 rw [hg]
 exact in_nums n l
end Mine
namespace Mine
open PySem
theorem map_one {α β : Type} (f : α → β) (l : List α) (x : α) : l.map f ++ [f x] = (l ++ [x]).map f := by simp
section
variable {rec : Rec} {K : MV → St → Prop} {a : A} {d : D} {tm : List MO} {k : Nat}
theorem o_push (h : a.o.length ≤ lim) (kk : K .none (U (a.so (a.o ++ [k])) d tm)) : Yes2 (methDo rec .list (U a d tm) (.ref .items) (Str.ofString "append") [nv k]) K :=
 l_append (vs := a.o.map nv) rfl (by simpa using h) (by rw [map_one]; rfl) kk
theorem o_pop {r : List Nat} (e : a.o = r ++ [k]) (h : r.length < lim) (kk : K (nv k) (U (a.so (r)) d tm)) : Yes2 (methDo rec .list (U a d tm) (.ref .items) (Str.ofString "pop") []) K :=
 l_pop (vs := r.map nv) (v := nv k) (by show some (MO.list (a.o.map nv)) = _; rw [e, ← map_one]) (by simpa using h) rfl kk
theorem o_rem (hm : k ∈ a.o) (h : a.o.length ≤ lim) (kk : K .none (U (a.so (a.o.erase k)) d tm)) : Yes2 (methDo rec .list (U a d tm) (.ref .items) (Str.ofString "remove") [nv k]) K := by
 obtain ⟨i, h1, h2⟩ := idx_nums hm
 exact l_remove (vs := a.o.map nv) rfl (by simpa using h) h1 (by rw [h2]; rfl) kk
theorem f_push (h : a.f.length ≤ lim) (kk : K .none (U (a.sf (a.f ++ [k])) d tm)) : Yes2 (methDo rec .list (U a d tm) (.ref .fitems) (Str.ofString "append") [nv k]) K :=
 l_append (vs := a.f.map nv) rfl (by simpa using h) (by rw [map_one]; rfl) kk
theorem e_push {x y : Str} (h : a.e.length ≤ lim) (kk : K .none (U (a.se (a.e ++ [(x, y)])) d tm)) : Yes2 (methDo rec .list (U a d tm) (.ref .errors) (Str.ofString "append") [.tup [.str x, .str y]]) K :=
 l_append (vs := a.e.map pairV) rfl (by simpa using h) (by rw [show MV.tup [.str x, .str y] = pairV (x, y) from rfl, map_one]; rfl) kk
end
section
variable {K : MV → Prop} {a : A} {d : D} {tm : List MO} {k : Nat} {i : Int}
theorem o_len (h : a.o.length ≤ lim) (kk : K (nv a.o.length)) : Yes (builtin (U a d tm) "len" [.ref .items]) K :=
 l_len (vs := a.o.map nv) rfl (by simpa using h) (by simpa using kk)
theorem f_len (h : a.f.length ≤ lim) (kk : K (nv a.f.length)) : Yes (builtin (U a d tm) "len" [.ref .fitems]) K :=
 l_len (vs := a.f.map nv) rfl (by simpa using h) (by simpa using kk)
theorem o_at {j : Nat} (hi : i = j) (hx : a.o[j]? = some k) (hk : j ≤ lim) (kk : K (nv k)) : Yes (subOf (U a d tm) (.ref .items) (.int i)) K :=
 l_sub (vs := a.o.map nv) rfl hi (by rw [List.getElem?_map, hx]; rfl) hk kk
theorem f_at {j : Nat} (hi : i = j) (hx : a.f[j]? = some k) (hk : j ≤ lim) (kk : K (nv k)) : Yes (subOf (U a d tm) (.ref .fitems) (.int i)) K :=
 l_sub (vs := a.f.map nv) rfl hi (by rw [List.getElem?_map, hx]; rfl) hk kk
variable {x : Nd}
theorem r_sp (hi : i = k) (hx : a.N[k]? = some x) (hk : k ≤ lim) (kk : K (.str x.sp)) : Yes (subOf (U a d tm) (.ref .spaces) (.int i)) K :=
 l_sub (vs := a.N.map fun x => .str x.sp) rfl hi (by rw [List.getElem?_map, hx]; rfl) hk kk
theorem r_nm (hi : i = k) (hx : a.N[k]? = some x) (hk : k ≤ lim) (kk : K (.str x.nm)) : Yes (subOf (U a d tm) (.ref .names) (.int i)) K :=
 l_sub (vs := a.N.map fun x => .str x.nm) rfl hi (by rw [List.getElem?_map, hx]; rfl) hk kk
theorem r_att (hi : i = k) (hx : a.N[k]? = some x) (hk : k ≤ lim) (kk : K (atV x.att)) : Yes (subOf (U a d tm) (.ref .attrs) (.int i)) K :=
 l_sub (vs := a.N.map fun x => atV x.att) rfl hi (by rw [List.getElem?_map, hx]; rfl) hk kk
theorem r_par (hi : i = k) (hx : a.N[k]? = some x) (hk : k ≤ lim) (kk : K (.int x.par)) : Yes (subOf (U a d tm) (.ref .parents) (.int i)) K :=
 l_sub (vs := a.N.map fun x => .int x.par) rfl hi (by rw [List.getElem?_map, hx]; rfl) hk kk
theorem r_kid (hi : i = k) (hx : k < a.N.length) (hk : k ≤ lim) (kk : K (.ref (.ch k))) : Yes (subOf (U a d tm) (.ref .kids) (.int i)) K :=
 l_sub (vs := (List.range a.N.length).map fun i => .ref (.ch i)) rfl hi (by rw [List.getElem?_map, List.getElem?_range hx]; rfl) hk kk
end
section
variable {n : Nat} {K : MV → St → Prop} {a : A} {d : D} {tm : List MO} {k : Nat}
theorem push_s (h : a.o.length ≤ lim) (kk : K .none (U (a.so (a.o ++ [k])) d tm)) : Yes2 (C (n+1) (.fn 28 2) [.ref .stack, nv k] (U a d tm)) K := by
 refine call_def (l := argL [("self", .ref .stack), ("node", nv k)]) (by rfl) ?_
 exact o_push h kk
theorem cif_t {c : Bool} {P Q : Prop} (h : c = true) (k : P) : cIf c P Q := ⟨fun _ => k, fun h' => absurd (h.symm.trans h') (by decide)⟩
theorem cif_f {c : Bool} {P Q : Prop} (h : c = false) (k : Q) : cIf c P Q := ⟨fun h' => absurd (h.symm.trans h') (by decide), fun _ => k⟩
theorem pop_s {r : List Nat} (e : a.o = r ++ [k]) (h : r.length < lim) (kk : K (nv k) (U (a.so (r)) d tm)) : Yes2 (C (n+1) (.fn 28 3) [.ref .stack] (U a d tm)) K := by
 refine call_def (l := argL [("self", .ref .stack)]) (by rfl) ?_
 refine o_len (by rw [e]; simp; lia) ?_
 refine cif_f (by simp [e] <;> lia) ?_
 exact o_pop e h kk
theorem cur_s {r : List Nat} (e : a.o = r ++ [k]) (h : r.length < lim) (kk : K (nv k) (U a d tm)) : Yes2 (C (n+1) (.fn 28 4) [.ref .stack] (U a d tm)) K := by
 refine call_def (l := argL [("self", .ref .stack)]) (by rfl) ?_
 refine o_len (by rw [e]; simp; lia) ?_
 refine cif_f (by simp [e] <;> lia) ?_
 refine o_len (by rw [e]; simp; lia) ?_
 exact o_at (j := r.length) (by simp [e] <;> lia) (by simp [e]) (by lia) kk
theorem many_s (h : a.o.length ≤ lim) (kk : K (nv a.o.length) (U a d tm)) : Yes2 (C (n+1) (.fn 28 5) [.ref .stack] (U a d tm)) K := by
 refine call_def (l := argL [("self", .ref .stack)]) (by rfl) ?_
 exact o_len h kk
theorem has_s (kk : K (.bool (decide (k ∈ a.o))) (U a d tm)) : Yes2 (C (n+1) (.fn 28 6) [.ref .stack, nv k] (U a d tm)) K := by
 refine call_def (l := argL [("self", .ref .stack), ("node", nv k)]) (by rfl) ?_
 exact in_items (l := a.o) rfl kk
theorem remove_s (h : a.o.length ≤ lim) (kk : K .none (U (a.so (a.o.erase k)) d tm)) : Yes2 (C (n+1) (.fn 28 7) [.ref .stack, nv k] (U a d tm)) K := by
 refine call_def (l := argL [("self", .ref .stack), ("node", nv k)]) (by rfl) ?_
 refine in_items (l := a.o) rfl ?_
 refine cIf.mk (fun e => ?_) (fun e => ?_)
 ·exact o_rem (by simpa using e) h kk
 ·rw [List.erase_of_not_mem (by simpa using e)] at kk
  exact kk
theorem name_s {r : List Nat} {x : Nd} (e : a.o = r ++ [k]) (h : r.length < lim) (hx : a.N[k]? = some x) (hk : k ≤ lim) (hs : x.sp = os "html") (kk : K (.str x.nm) (U a d tm)) : Yes2 (C (n+2) (.fn 28 10) [.ref .stack] (U a d tm)) K := by
 refine call_def (l := argL [("self", .ref .stack)]) (by rfl) ?_
 refine cur_s e h ?_
 refine cif_f (by simp <;> lia) ?_
 refine r_sp rfl hx hk ?_
 refine cif_f (by simp [hs]) ?_
 refine cif_f rfl ?_
 refine r_nm rfl hx hk ?_
 exact kk
end
end Mine
namespace Mine
open PySem
section
variable {rec : Rec} {K : MV → St → Prop} {b : B} {d : D} {tm : List MO} {v : MV}
theorem kinds_app (h : b.kinds.length ≤ lim) (k : K .none (W (b.kinds' (b.kinds ++ [v])) d tm)) : Yes2 (methDo rec .list (W b d tm) (.ref .kinds) (Str.ofString "append") [v]) K := l_append rfl h rfl k
theorem spaces_app (h : b.spaces.length ≤ lim) (k : K .none (W (b.spaces' (b.spaces ++ [v])) d tm)) : Yes2 (methDo rec .list (W b d tm) (.ref .spaces) (Str.ofString "append") [v]) K := l_append rfl h rfl k
theorem names_app (h : b.names.length ≤ lim) (k : K .none (W (b.names' (b.names ++ [v])) d tm)) : Yes2 (methDo rec .list (W b d tm) (.ref .names) (Str.ofString "append") [v]) K := l_append rfl h rfl k
theorem attrs_app (h : b.attrs.length ≤ lim) (k : K .none (W (b.attrs' (b.attrs ++ [v])) d tm)) : Yes2 (methDo rec .list (W b d tm) (.ref .attrs) (Str.ofString "append") [v]) K := l_append rfl h rfl k
theorem texts_app (h : b.texts.length ≤ lim) (k : K .none (W (b.texts' (b.texts ++ [v])) d tm)) : Yes2 (methDo rec .list (W b d tm) (.ref .texts) (Str.ofString "append") [v]) K := l_append rfl h rfl k
theorem parents_app (h : b.parents.length ≤ lim) (k : K .none (W (b.parents' (b.parents ++ [v])) d tm)) : Yes2 (methDo rec .list (W b d tm) (.ref .parents) (Str.ofString "append") [v]) K := l_append rfl h rfl k
theorem kids_app (h : b.kids.length ≤ lim) (k : K .none (W (b.kids' (b.kids ++ [v])) d tm)) : Yes2 (methDo rec .list (W b d tm) (.ref .kids) (Str.ofString "append") [v]) K := l_append rfl h rfl k
theorem ch_alloc {p : Pos} (hp : thePol p (W b d tm) = some (.ch b.kids.length)) (h : b.ch.length = b.kids.length) (k : K (.ref (.ch b.kids.length)) (W (b.ch' (b.ch ++ [[]])) d tm)) : Yes2 (layList thePol p [] (W b d tm)) K := by
 refine ⟨_, _, ?_, k⟩
 unfold layList
 rw [hp]
 show giv _ (St.alloc _ _ _) = _
 have e1 : (W b d tm).get (.ch b.kids.length) = none := by
  rw [gW_ch, List.getElem?_eq_none (by lia)]; rfl
 unfold St.alloc
 rw [e1]
 show giv _ (pl (putL b.ch b.kids.length []) fun l => { W b d tm with ch := l }) = _
 unfold putL
 rw [if_neg (by lia), if_pos h.symm]
 rfl
end
theorem v_list {K : MV → Prop} {st : St} {v : MV} {vs : List MV} (h : v = .tup vs ∨ v = .lst vs) (hl : vs.length ≤ lim) (k : K (.lst vs)) : Yes (builtin st "list" [v]) K := by
 refine ⟨_, ?_, k⟩
 rcases h with rfl | rfl
 ·show (if vs.length ≤ lim then some (MV.lst vs) else _) = _
  rw [if_pos hl]
 ·show (if vs.length ≤ lim then some (MV.lst vs) else _) = _
  rw [if_pos hl]
theorem toB_add (a : A) (x : Nd) (h : 0 < a.N.length) : toB (a.sN (a.N ++ [x])) =
  { toB a with kinds := (toB a).kinds ++ [sv "element"], spaces := (toB a).spaces ++ [.str x.sp], names := (toB a).names ++ [.str x.nm], attrs := (toB a).attrs ++ [atV x.att], texts := (toB a).texts ++ [sv ""], parents := (toB a).parents ++ [.int x.par], kids := (toB a).kids ++ [.ref (.ch a.N.length)], ch := (toB a).ch ++ [kidsV x] } := by
 obtain ⟨m, hm⟩ : ∃ m, a.N.length = m + 1 := ⟨a.N.length - 1, by lia⟩
 unfold toB A.sN
 simp [List.range_succ, hm, List.replicate_succ']
theorem le_lim {n : Nat} (h : n ≤ 1000) : n ≤ lim := Nat.le_trans h (by decide)
theorem lt_lim {n : Nat} (h : n ≤ 1000) : n < lim := Nat.lt_of_le_of_lt h (by decide)
section
variable {n : Nat} {K : MV → St → Prop} {a : A} {d : D} {tm : List MO}
theorem lenK (h0 : 0 < a.N.length) : (toB a).kinds.length = a.N.length := by simp [toB]; lia
theorem len1 : (toB a).spaces.length = a.N.length := by simp [toB]
theorem len2 : (toB a).names.length = a.N.length := by simp [toB]
theorem len3 : (toB a).attrs.length = a.N.length := by simp [toB]
theorem len4 : (toB a).texts.length = a.N.length := by simp [toB]
theorem len5 : (toB a).parents.length = a.N.length := by simp [toB]
theorem len6 : (toB a).kids.length = a.N.length := by simp [toB]
theorem len7 : (toB a).ch.length = a.N.length := by simp [toB]
theorem add_s {sp nm : Str} {att : List (Str × Str)} {v : MV} (hv : v = .tup (att.map pairV) ∨ v = .lst (att.map pairV)) (h0 : 0 < a.N.length) (h : a.N.length < 1000) (h2 : att.length ≤ 1000)
  (kk : K (nv a.N.length) (U (a.sN (a.N ++ [⟨sp, nm, att, -1, []⟩])) d tm)) : Yes2 (C (n+1) (.fn 53 2) [.ref .tree, sv "element", .str sp, .str nm, v] (U a d tm)) K := by
 refine call_def (l := argL [("self", .ref .tree), ("kind", sv "element"), ("space", .str sp), ("name", .str nm), ("attrs", v), ("text", sv "")]) (by rfl) ?_
 refine kinds_app (by rw [lenK h0]; exact le_lim (by lia)) ?_
 refine spaces_app (by show (toB a).spaces.length ≤ _; rw [len1]; exact le_lim (by lia)) ?_
 refine names_app (by show (toB a).names.length ≤ _; rw [len2]; exact le_lim (by lia)) ?_
 refine v_list hv (by rw [List.length_map]; exact le_lim h2) ?_
 refine attrs_app (by show (toB a).attrs.length ≤ _; rw [len3]; exact le_lim (by lia)) ?_
 refine texts_app (by show (toB a).texts.length ≤ _; rw [len4]; exact le_lim (by lia)) ?_
 refine parents_app (by show (toB a).parents.length ≤ _; rw [len5]; exact le_lim (by lia)) ?_
 refine ch_alloc (by rfl) (by show (toB a).ch.length = (toB a).kids.length; rw [len6, len7]) ?_
 refine kids_app (by show (toB a).kids.length ≤ _; rw [len6]; exact le_lim (by lia)) ?_
 refine l_len (vs := (toB a).kinds ++ [sv "element"]) rfl (by rw [List.length_append, lenK h0]; exact le_lim (by simp; lia)) ?_
 have e1 := toB_add a ⟨sp, nm, att, -1, []⟩ h0
 have e2 : (((toB a).kinds ++ [sv "element"]).length : Int) - 1 = a.N.length := by rw [List.length_append, lenK h0]; simp
 have e3 : (toB a).kids.length = a.N.length := len6
 show K (.int ((((toB a).kinds ++ [sv "element"]).length : Int) - 1)) (W { toB a with kinds := (toB a).kinds ++ [sv "element"], spaces := (toB a).spaces ++ [.str sp], names := (toB a).names ++ [.str nm], attrs := (toB a).attrs ++ [atV att], texts := (toB a).texts ++ [sv ""], parents := (toB a).parents ++ [.int (-1)], kids := (toB a).kids ++ [.ref (.ch (toB a).kids.length)], ch := (toB a).ch ++ [[]] } d tm)
 rw [e2, e3]
 have kk' : K (nv a.N.length) (W (toB (a.sN (a.N ++ [⟨sp, nm, att, -1, []⟩]))) d tm) := kk
 rw [e1] at kk'
 exact kk'
theorem element_s {sp nm : Str} {att : List (Str × Str)} {v : MV} (hv : v = .tup (att.map pairV) ∨ v = .lst (att.map pairV)) (hn : nm ≠ os "template") (h0 : 0 < a.N.length) (h : a.N.length < 1000) (h2 : att.length ≤ 1000)
  (kk : K (nv a.N.length) (U (a.sN (a.N ++ [⟨sp, nm, att, -1, []⟩])) d tm)) : Yes2 (C (n+2) (.fn 53 3) [.ref .tree, .str nm, .str sp, v] (U a d tm)) K := by
 refine call_def (l := argL [("self", .ref .tree), ("name", .str nm), ("space", .str sp), ("attrs", v)]) (by rfl) ?_
 refine add_s hv h0 h h2 ?_
 refine cIf.mk (fun _ => ?_) (fun _ => cif_f rfl kk)
 exact cif_f (by simp [hn]) (cif_f rfl kk)
end
end Mine
namespace Mine
open PySem
noncomputable def sAt : List Stmt → Nat → Stmt
 | s :: _, 0 => s
 | _ :: r, n + 1 => sAt r n
 | [], _ => .Break ⟨0, 0, 0, 0⟩
noncomputable def wT : Stmt → Expr
 | .While t _ _ _ => t
 | .If t _ _ _ => t
 | _ => .Constant .none 0 ⟨0, 0, 0, 0⟩
noncomputable def wB : Stmt → List Stmt
 | .While _ b _ _ => b
 | .For _ _ b _ _ => b
 | .If _ b _ _ => b
 | _ => []
noncomputable def fT : Stmt → Expr
 | .For t _ _ _ _ => t
 | _ => .Constant .none 0 ⟨0, 0, 0, 0⟩
theorem tm_alloc {K : MV → St → Prop} {b : B} {d : D} {tm : List MO} {p : Pos} {vs : List MV} (hp : thePol p (W b d tm) = some (.tm tm.length)) (k : K (.ref (.tm tm.length)) (W b d (tm ++ [.list vs]))) : Yes2 (layList thePol p vs (W b d tm)) K := by
 refine ⟨_, _, ?_, k⟩
 unfold layList
 rw [hp]
 show giv _ (St.alloc _ _ _) = _
 have e1 : (W b d tm).get (.tm tm.length) = none := by
  rw [gW_tm, List.getElem?_eq_none (Nat.le_refl _)]
 unfold St.alloc
 rw [e1]
 show giv _ (pl (putL tm tm.length (.list vs)) fun l => { W b d tm with tm := l }) = _
 unfold putL
 rw [if_neg (by lia), if_pos rfl]
 rfl
theorem tm_get {b : B} {d : D} {tm : List MO} {x : MO} : (W b d (tm ++ [x])).get (.tm tm.length) = some x := by
 rw [gW_tm, List.getElem?_concat_length]
theorem tm_put {b : B} {d : D} {tm : List MO} {x : MO} {vs : List MV} : (W b d (tm ++ [x])).put (.tm tm.length) (.list vs) = some (W b d (tm ++ [.list vs])) := by
 show (pl (putL (tm ++ [x]) tm.length (.list vs)) fun l => { W b d (tm ++ [x]) with tm := l }) = _
 unfold putL
 rw [if_pos (by simp)]
 have : (tm ++ [x]).set tm.length (.list vs) = tm ++ [.list vs] := by simp
 rw [this]
 rfl
theorem kind_tm {K : Me → Prop} {b : B} {d : D} {tm : List MO} {vs : List MV} {x : Str} (h : x = "append" ∨ x = "pop" ∨ x = "remove" ∨ x = "insert") (k : K .list) : Yes (methKind theTab (W b d (tm ++ [.list vs])) (.ref (.tm tm.length)) x) K := by
 refine ⟨_, ?_, k⟩
 show (match (W b d (tm ++ [.list vs])).get (.tm tm.length) with | some (.inst c _) => _ | some (.list _) => _ | some (.dict _) => _ | none => _) = _
 rw [tm_get]
 show (if _ then _ else _) = _
 rw [if_pos h]
noncomputable def WT (N : List Nd) : Prop := ∀ k x, N[k]? = some x → x.par = -1 ∨ ∃ p : Nat, x.par = (p : Int) ∧ p < k
theorem nth_lt {α : Type} {l : List α} {k : Nat} {x : α} (h : l[k]? = some x) : k < l.length := by
 rcases Nat.lt_or_ge k l.length with h' | h'
 ·exact h'
 ·rw [List.getElem?_eq_none h'] at h; cases h
section
variable {n : Nat} {a : A} {d : D} {tm : List MO}
theorem above_loop (hw : WT a.N) (hN : a.N.length ≤ 1000) {k : Nat} {w : MV} {K : Fl → Loc → St → Prop}
  (kk : ∀ (l : List Nat) (u : MV), (∀ x ∈ l, x < k) → K .next (argL [("tree", .ref .tree), ("node", w), ("out", .ref (.tm tm.length)), ("up", u)]) (U a d (tm ++ [.list (l.map nv)]))) :
  ∀ (m : Nat) (u : Int) (l : List Nat), (u = -1 ∨ ∃ p : Nat, u = p ∧ p < m) → m ≤ a.N.length → m ≤ k → l.length + m ≤ 1001 → (∀ x ∈ l, x < k) →
  Yes3 (whileLoop (testOf theTab thePol (C n) (wT (sAt (fnB 54 0) 2)) (fnS 54 0)) (bodyOf theTab thePol (C n) (wB (sAt (fnB 54 0) 2)) (fnS 54 0)) (m + 1)
   (argL [("tree", .ref .tree), ("node", w), ("out", .ref (.tm tm.length)), ("up", .int u)]) (U a d (tm ++ [.list (l.map nv)]))) K
 | 0, u, l, hu, _, _, _, hl => by
  have : u = -1 := by
   rcases hu with h | ⟨p, _, h⟩
   ·exact h
   ·exact absurd h (by lia)
  subst this
  refine while_turn ?_
  refine cif_f rfl ?_
  exact kk l _ hl
 | m + 1, u, l, hu, h1, h2, h3, hl => by
  refine while_turn ?_
  rcases hu with h | ⟨p, rfl, h⟩
  ·subst h
   refine cif_f rfl ?_
   exact kk l _ hl
  ·refine cif_t (by simp <;> lia) ?_
   refine kind_tm (.inl rfl) ?_
   refine l_append (vs := l.map nv) (v := nv p) tm_get (by rw [List.length_map]; exact Nat.le_trans (show l.length ≤ 1001 by lia) (by decide)) tm_put ?_
   have hp : p < a.N.length := by lia
   obtain ⟨x, hx⟩ : ∃ x, a.N[p]? = some x := ⟨_, List.getElem?_eq_getElem hp⟩
   refine r_par rfl hx (le_lim (by lia)) ?_
   rw [map_one]
   refine above_loop hw hN kk m x.par (l ++ [p]) ?_ (by lia) (by lia) (by simp; lia) ?_
   ·rcases hw p x hx with e | ⟨q, e, hq⟩
    ·exact .inl e
    ·exact .inr ⟨q, e, by lia⟩
   ·intro y hy
    simp only [List.mem_append, List.mem_singleton] at hy
    rcases hy with hy | rfl
    ·exact hl y hy
    ·lia
theorem above_s {K : MV → St → Prop} {k : Nat} {x : Nd} (hw : WT a.N) (hN : a.N.length ≤ 900) (hx : a.N[k]? = some x)
  (kk : ∀ l : List Nat, (∀ y ∈ l, y < k) → K (.ref (.tm tm.length)) (U a d (tm ++ [.list (l.map nv)]))) : Yes2 (C (n+1) (.fn 54 0) [.ref .tree, nv k] (U a d tm)) K := by
 refine call_def (l := argL [("tree", .ref .tree), ("node", nv k)]) (by rfl) ?_
 refine tm_alloc (by rfl) ?_
 refine r_par rfl hx (le_lim (by have := nth_lt hx; lia)) ?_
 have hk := nth_lt hx
 refine while_more (m := k + 1) (by show k + 1 ≤ 1000; lia) ?_
 refine above_loop hw (by lia) (fun l u hl => kk l hl) k x.par [] ?_ (by lia) (Nat.le_refl _) (by simp; lia) (by simp)
 rcases hw k x hx with e | ⟨q, e, hq⟩
 ·exact .inl e
 ·exact .inr ⟨q, e, hq⟩
end
end Mine
namespace Mine
open PySem
noncomputable def addK (N : List Nd) (p n : Nat) : List Nd := match N[p]? with
 | some x => N.set p { x with kids := x.kids ++ [n] }
 | none => N
noncomputable def putN (N : List Nd) (sp nm : Str) (att : List (Str × Str)) (p : Nat) : List Nd := addK N p N.length ++ [⟨sp, nm, att, p, []⟩]
structure Bd (m : Nat) (a : A) : Prop where
 hm : m ≤ 890
 hN : a.N.length ≤ m
 h0 : 2 < a.N.length
 ho : a.o.length ≤ m
 oN : ∀ x ∈ a.o, x < a.N.length
 o1 : ∃ r, a.o = 1 :: 2 :: r
 od : a.o.Pairwise (· < ·)
 hf : a.f.length ≤ 2
 fb : ∀ x ∈ a.f, ∃ nd, a.N[x]? = some nd ∧ nd.sp = os "html" ∧ nd.nm = os "b"
 he : a.e.length ≤ m
 wt : WT a.N
 kd : ∀ x ∈ a.N, x.kids.length ≤ m
 ta : ∀ x ∈ a.N, x.att.length ≤ 800
theorem isin_ref {K : Bool → Prop} {st : St} {ad : Ad} {n : Nat} {l : List Nat} (hg : st.get ad = some (.list (l.map nv))) (hn : n ∉ l) (kk : K false) : Yes (cmp st .In (nv n) (.ref ad)) K :=
 in_items hg (by rw [decide_eq_false hn]; exact kk)
section
variable {a : A} {d : D} {tm : List MO}
theorem ch_get {k : Nat} {x : Nd} (hx : a.N[k]? = some x) : (U a d tm).get (.ch k) = some (.list (kidsV x)) := by
 show asL (a.N.map kidsV)[k]? = _
 rw [List.getElem?_map, hx]; rfl
theorem kind_ch {K : Me → Prop} {k : Nat} {x : Nd} {w : Str} (hx : a.N[k]? = some x) (h : w = "append" ∨ w = "pop" ∨ w = "remove" ∨ w = "insert") (kk : K .list) : Yes (methKind theTab (U a d tm) (.ref (.ch k)) w) K := by
 refine ⟨_, ?_, kk⟩
 show (match (U a d tm).get (.ch k) with | some (.inst c _) => _ | some (.list _) => _ | some (.dict _) => _ | none => _) = _
 rw [ch_get hx]
 show (if _ then _ else _) = _
 rw [if_pos h]
theorem set_map {β : Type} {N : List Nd} {k : Nat} {x y : Nd} (f : Nd → β) (hx : N[k]? = some x) (h : f y = f x) : (N.set k y).map f = N.map f := by
 apply List.ext_getElem?
 intro i
 rw [List.getElem?_map, List.getElem?_map, List.getElem?_set]
 split
 ·rename_i h1; subst h1; rw [hx]; simp [nth_lt hx, h]
 ·rfl
theorem set_map2 {β : Type} {N : List Nd} {k : Nat} {y : Nd} (f : Nd → β) : (N.set k y).map f = (N.map f).set k (f y) := by
 apply List.ext_getElem?
 intro i
 rw [List.getElem?_map, List.getElem?_set, List.getElem?_set, List.length_map]
 split
 ·split <;> simp
 ·rw [List.getElem?_map]
theorem toB_kid {a : A} {k n : Nat} {x : Nd} (hx : a.N[k]? = some x) : toB (a.sN (addK a.N k n)) = (toB a).ch' ((a.N.map kidsV).set k (kidsV x ++ [nv n])) := by
 have e : addK a.N k n = a.N.set k { x with kids := x.kids ++ [n] } := by unfold addK; rw [hx]
 have hc : (a.N.map kidsV).set k (kidsV x ++ [nv n]) = (a.N.set k { x with kids := x.kids ++ [n] }).map kidsV := by rw [set_map2]; simp [kidsV]
 rw [e, hc]
 have h1 := set_map (y := { x with kids := x.kids ++ [n] }) (fun x => MV.str x.sp) hx rfl
 have h2 := set_map (y := { x with kids := x.kids ++ [n] }) (fun x => MV.str x.nm) hx rfl
 have h3 := set_map (y := { x with kids := x.kids ++ [n] }) (fun x => atV x.att) hx rfl
 have h4 := set_map (y := { x with kids := x.kids ++ [n] }) (fun x => MV.int x.par) hx rfl
 unfold A.sN toB B.ch'
 dsimp only
 rw [h1, h2, h3, h4, List.length_set]
theorem ch_put {k : Nat} {x : Nd} {n : Nat} (hx : a.N[k]? = some x) : (U a d tm).put (.ch k) (.list (kidsV x ++ [nv n])) = some (U (a.sN (addK a.N k n)) d tm) := by
 show (pl (putL (a.N.map kidsV) k (kidsV x ++ [nv n])) fun l => { U a d tm with ch := l }) = _
 unfold putL
 rw [if_pos (by rw [List.length_map]; exact nth_lt hx)]
 show _ = some (W (toB (a.sN (addK a.N k n))) d tm)
 rw [toB_kid hx]
 rfl
theorem toB_par {a : A} {N : List Nd} {x : Nd} {p : Int} : toB (a.sN (N ++ [{ x with par := p }])) = (toB (a.sN (N ++ [x]))).parents' (((toB (a.sN (N ++ [x]))).parents).set N.length (.int p)) := by
 unfold toB A.sN B.parents'
 simp [kidsV]
theorem par_put {N : List Nd} {x : Nd} {p : Int} : (U (a.sN (N ++ [x])) d tm).put .parents (.list (((toB (a.sN (N ++ [x]))).parents).set N.length (.int p))) = some (U (a.sN (N ++ [{ x with par := p }])) d tm) := by
 show _ = some (W (toB (a.sN (N ++ [{ x with par := p }]))) d tm)
 rw [toB_par (x := x) (p := p)]
 rfl
end
theorem addK_len (N : List Nd) (p n : Nat) : (addK N p n).length = N.length := by
 unfold addK
 split <;> simp
theorem addK_app {N : List Nd} {x : Nd} {p n : Nat} (h : p < N.length) : addK (N ++ [x]) p n = addK N p n ++ [x] := by
 unfold addK
 rw [List.getElem?_append_left h]
 split
 ·rw [List.set_append_left _ _ h]
 ·rfl
section
variable {n : Nat} {K : MV → St → Prop} {a : A} {d : D} {tm : List MO}
theorem WT_app {N : List Nd} {x : Nd} (h : WT N) (hx : x.par = -1 ∨ ∃ p : Nat, x.par = (p : Int) ∧ p < N.length) : WT (N ++ [x]) := by
 intro k y hy
 rcases Nat.lt_or_ge k N.length with h1 | h1
 ·rw [List.getElem?_append_left h1] at hy
  exact h k y hy
 ·rw [List.getElem?_append_right h1] at hy
  have hk : k - N.length = 0 := by
   rcases Nat.eq_zero_or_pos (k - N.length) with e | e
   ·exact e
   ·rw [List.getElem?_eq_none (by simp; lia)] at hy; cases hy
  rw [hk] at hy
  cases hy
  rcases hx with e | ⟨p, e, hp⟩
  ·exact .inl e
  ·exact .inr ⟨p, e, by lia⟩
theorem tremove_s {k : Nat} {x : Nd} (hx : a.N[k]? = some x) (hk : k ≤ 1000) (hp : x.par = -1) (kk : K .none (U a d tm)) : Yes2 (C (n+1) (.fn 53 9) [.ref .tree, nv k] (U a d tm)) K := by
 refine call_def (l := argL [("self", .ref .tree), ("node", nv k)]) (by rfl) ?_
 refine r_par rfl hx (le_lim hk) ?_
 refine cif_f (by simp [hp]) ?_
 exact kk
theorem kids_len {N : List Nd} {p : Nat} {x : Nd} (hx : N[p]? = some x) (hk : ∀ x ∈ N, x.kids.length ≤ 900) : (kidsV x).length ≤ lim := by
 have := hk x (List.mem_of_getElem? hx)
 unfold kidsV
 rw [List.length_map]
 exact le_lim (by lia)
theorem insert_s {N : List Nd} {sp nm : Str} {att : List (Str × Str)} {p : Nat} (hw : WT N) (hN : N.length < 900) (hk : ∀ x ∈ N, x.kids.length ≤ 900) (hp : p < N.length)
  (kk : ∀ tm', K .none (U (a.sN (putN N sp nm att p)) d tm')) : Yes2 (C (n+2) (.fn 53 7) [.ref .tree, nv p, nv N.length, .int (-1)] (U (a.sN (N ++ [⟨sp, nm, att, -1, []⟩])) d tm)) K := by
 refine call_def (l := argL [("self", .ref .tree), ("parent", nv p), ("node", nv N.length), ("before", .int (-1))]) (by rfl) ?_
 refine cif_f (by simp <;> lia) ?_
 obtain ⟨x, hx⟩ : ∃ x, N[p]? = some x := ⟨_, List.getElem?_eq_getElem hp⟩
 have hx' : (a.sN (N ++ [⟨sp, nm, att, -1, []⟩])).N[p]? = some x := by
  show (N ++ [_])[p]? = _
  rw [List.getElem?_append_left hp, hx]
 refine above_s (a := a.sN (N ++ [⟨sp, nm, att, -1, []⟩])) (WT_app hw (.inl rfl)) (by show (N ++ [_]).length ≤ _; simp; lia) hx' ?_
 intro l hl
 refine isin_ref tm_get (fun h => absurd (hl _ h) (by lia)) ?_
 refine cif_f rfl ?_
 refine cif_f rfl ?_
 refine cif_f rfl ?_
 refine cif_f rfl ?_
 refine cif_f (by simp <;> lia) ?_
 have hxn : (a.sN (N ++ [⟨sp, nm, att, -1, []⟩])).N[N.length]? = some ⟨sp, nm, att, -1, []⟩ := by
  show (N ++ [_])[N.length]? = _
  simp
 have hlen : (a.sN (N ++ [⟨sp, nm, att, -1, []⟩])).N.length = N.length + 1 := by show (N ++ [_]).length = _; simp
 refine tremove_s hxn (by lia) rfl ?_
 refine r_kid rfl (by rw [hlen]; lia) (le_lim (by lia)) ?_
 refine l_len (ch_get hx') (kids_len hx hk) ?_
 refine cif_f rfl ?_
 refine r_kid rfl (by rw [hlen]; lia) (le_lim (by lia)) ?_
 refine kind_ch hx' (.inr (.inr (.inr rfl))) ?_
 refine l_insert (ch_get hx') rfl (kids_len hx hk) (ch_put hx') ?_
 have e2 : addK (a.sN (N ++ [⟨sp, nm, att, -1, []⟩])).N p N.length = addK N p N.length ++ [⟨sp, nm, att, -1, []⟩] := addK_app hp
 rw [e2]
 have e3 := par_put (a := a.sN (N ++ [⟨sp, nm, att, -1, []⟩])) (d := d) (tm := tm ++ [.list (l.map nv)]) (N := addK N p N.length) (x := ⟨sp, nm, att, -1, []⟩) (p := p)
 rw [addK_len] at e3
 refine l_set rfl rfl ?_ ?_ e3 ?_
 ·show N.length < ((addK N p N.length ++ [_]).map _).length
  rw [List.length_map, List.length_append, addK_len]; simp
 ·show ((addK N p N.length ++ [_]).map _).length ≤ _
  rw [List.length_map, List.length_append, addK_len]; exact le_lim (by simp; lia)
 exact kk _
theorem place_s {r : List Nat} {p : Nat} (e : a.o = r ++ [p]) (h : r.length ≤ 900) (kk : K (.tup [nv p, .int (-1)]) (U a d tm)) : Yes2 (C (n+2) (.fn 19 0) [.ref .builder] (U a d tm)) K := by
 refine call_def (l := argL [("builder", .ref .builder), ("target", .int (-1))]) (by rfl) ?_
 refine cif_t rfl ?_
 refine cur_s e (lt_lim (by lia)) ?_
 refine cif_f (by simp <;> lia) ?_
 refine cif_f rfl ?_
 refine cif_f rfl ?_
 refine Yes.mk false rfl ?_
 refine cif_f rfl ?_
 exact kk
theorem make_s {sp nm : Str} {att : List (Str × Str)} {v : MV} (hv : v = .tup (att.map pairV) ∨ v = .lst (att.map pairV)) (hn : nm ≠ os "template") (h0 : 0 < a.N.length) (h : a.N.length < 900) (h2 : att.length ≤ 900)
  (kk : K (nv a.N.length) (U (a.sN (a.N ++ [⟨sp, nm, att, -1, []⟩])) d tm)) : Yes2 (C (n+3) (.fn 20 0) [.ref .builder, .str nm, v, .str sp] (U a d tm)) K := by
 refine call_def (l := argL [("builder", .ref .builder), ("name", .str nm), ("attrs", v), ("space", .str sp)]) (by rfl) ?_
 exact element_s hv hn h0 (by lia) (by lia) kk
noncomputable def A.ins (a : A) (sp nm : Str) (att : List (Str × Str)) (p : Nat) : A := (a.sN (putN a.N sp nm att p)).so (a.o ++ [a.N.length])
theorem Bd.top {m : Nat} (H : Bd m a) : ∃ r p, a.o = r ++ [p] ∧ p < a.N.length ∧ r.length ≤ 890 := by
 obtain ⟨r, hr⟩ := H.o1
 have hne : a.o ≠ [] := by rw [hr]; simp
 have e := (List.dropLast_concat_getLast hne).symm
 refine ⟨a.o.dropLast, a.o.getLast hne, e, H.oN _ (List.getLast_mem hne), ?_⟩
 have := H.ho
 have := H.hm
 rw [List.length_dropLast]; lia
theorem insel_s {m : Nat} {r : List Nat} {p : Nat} {sp nm : Str} {att : List (Str × Str)} {v : MV} {args : List MV} (H : Bd m a) (hb : bindF 21 0 args = some (argL [("builder", .ref .builder), ("name", .str nm), ("attrs", v), ("space", .str sp)]))
  (e : a.o = r ++ [p]) (hv : v = .tup (att.map pairV) ∨ v = .lst (att.map pairV)) (hn : nm ≠ os "template") (h2 : att.length ≤ 900)
  (kk : ∀ tm', K (nv a.N.length) (U (a.ins sp nm att p) d tm')) : Yes2 (C (n+4) (.fn 21 0) args (U a d tm)) K := by
 have h0 := H.h0
 have hm := H.hm
 have hN := H.hN
 have ho : r.length ≤ 900 := by have := H.ho; rw [e] at this; simp at this; lia
 refine call_def hb ?_
 refine place_s e ho ?_
 refine make_s hv hn (by lia) (by lia) h2 ?_
 refine insert_s H.wt (by lia) (fun x hx => Nat.le_trans (H.kd x hx) (by lia)) (H.oN p (by rw [e]; simp)) ?_
 intro tm'
 refine push_s (by show a.o.length ≤ _; exact le_lim (by have := H.ho; lia)) ?_
 exact kk _
end
theorem addK_get {N : List Nd} {p n k : Nat} {x : Nd} (h : N[k]? = some x) : ∃ y, (addK N p n)[k]? = some y ∧ y.sp = x.sp ∧ y.nm = x.nm ∧ y.att = x.att ∧ y.par = x.par ∧ y.kids.length ≤ x.kids.length + 1 := by
 unfold addK
 split
 ·rename_i z hz
  rw [List.getElem?_set]
  split
  ·rename_i e; subst e
   rw [hz] at h; cases h
   rw [if_pos (nth_lt hz)]
   exact ⟨_, rfl, rfl, rfl, rfl, rfl, by simp⟩
  ·exact ⟨x, h, rfl, rfl, rfl, rfl, by lia⟩
 ·exact ⟨x, h, rfl, rfl, rfl, rfl, by lia⟩
theorem addK_back {N : List Nd} {p n k : Nat} {y : Nd} (h : (addK N p n)[k]? = some y) : ∃ x, N[k]? = some x ∧ y.sp = x.sp ∧ y.nm = x.nm ∧ y.att = x.att ∧ y.par = x.par ∧ y.kids.length ≤ x.kids.length + 1 := by
 have hk : k < N.length := by have := nth_lt h; rwa [addK_len] at this
 obtain ⟨y', h1, h2⟩ := addK_get (p := p) (n := n) (List.getElem?_eq_getElem hk)
 rw [h] at h1; cases h1
 exact ⟨_, List.getElem?_eq_getElem hk, h2⟩
theorem putN_len (N : List Nd) (sp nm : Str) (att : List (Str × Str)) (p : Nat) : (putN N sp nm att p).length = N.length + 1 := by
 unfold putN
 rw [List.length_append, addK_len]; rfl
theorem putN_get {N : List Nd} {sp nm : Str} {att : List (Str × Str)} {p k : Nat} {x : Nd} (h : N[k]? = some x) : ∃ y, (putN N sp nm att p)[k]? = some y ∧ y.sp = x.sp ∧ y.nm = x.nm ∧ y.att = x.att ∧ y.par = x.par ∧ y.kids.length ≤ x.kids.length + 1 := by
 unfold putN
 rw [List.getElem?_append_left (by rw [addK_len]; exact nth_lt h)]
 exact addK_get h
theorem putN_new {N : List Nd} {sp nm : Str} {att : List (Str × Str)} {p : Nat} : (putN N sp nm att p)[N.length]? = some ⟨sp, nm, att, p, []⟩ := by
 unfold putN
 rw [List.getElem?_append_right (by rw [addK_len]; exact Nat.le_refl _), addK_len]
 simp
theorem putN_back {N : List Nd} {sp nm : Str} {att : List (Str × Str)} {p k : Nat} {y : Nd} (h : (putN N sp nm att p)[k]? = some y) : (k = N.length ∧ y = ⟨sp, nm, att, p, []⟩) ∨ ∃ x, N[k]? = some x ∧ y.sp = x.sp ∧ y.nm = x.nm ∧ y.att = x.att ∧ y.par = x.par ∧ y.kids.length ≤ x.kids.length + 1 := by
 have hk := nth_lt h
 rw [putN_len] at hk
 rcases Nat.lt_or_ge k N.length with h1 | h1
 ·refine .inr ?_
  unfold putN at h
  rw [List.getElem?_append_left (by rw [addK_len]; exact h1)] at h
  exact addK_back h
 ·have : k = N.length := by lia
  subst this
  rw [putN_new] at h
  cases h
  exact .inl ⟨rfl, rfl⟩
theorem WT_put {N : List Nd} {sp nm : Str} {att : List (Str × Str)} {p : Nat} (h : WT N) (hp : p < N.length) : WT (putN N sp nm att p) := by
 intro k y hy
 rcases putN_back hy with ⟨rfl, rfl⟩ | ⟨x, hx, _, _, _, e, _⟩
 ·exact .inr ⟨p, rfl, hp⟩
 ·rw [e]; exact h k x hx
theorem Bd.putN {m : Nat} {a : A} {sp nm : Str} {att : List (Str × Str)} {p : Nat} (H : Bd m a) (hm : m < 890) (hp : p < a.N.length) (h : att.length ≤ 800) : Bd (m + 1) (a.sN (putN a.N sp nm att p)) := by
 have hl : (a.sN (Mine.putN a.N sp nm att p)).N.length = a.N.length + 1 := putN_len ..
 refine ⟨hm, by rw [hl]; have := H.hN; lia, by rw [hl]; have := H.h0; lia, Nat.le_succ_of_le H.ho, fun x hx => by rw [hl]; have := H.oN x hx; lia, H.o1, H.od, H.hf, ?_, Nat.le_succ_of_le H.he, WT_put H.wt hp, ?_, ?_⟩
 ·intro x hx
  obtain ⟨nd, h1, h2, h3⟩ := H.fb x hx
  obtain ⟨y, e1, e2, e3, _⟩ := putN_get (sp := sp) (nm := nm) (att := att) (p := p) h1
  exact ⟨y, e1, by rw [e2]; exact h2, by rw [e3]; exact h3⟩
 ·intro y hy
  obtain ⟨k, hk⟩ := List.getElem?_of_mem hy
  rcases putN_back hk with ⟨rfl, rfl⟩ | ⟨x, hx, _, _, _, _, e⟩
  ·exact Nat.zero_le _
  ·have := H.kd x (List.mem_of_getElem? hx); lia
 ·intro y hy
  obtain ⟨k, hk⟩ := List.getElem?_of_mem hy
  rcases putN_back hk with ⟨rfl, rfl⟩ | ⟨x, hx, _, _, e, _, _⟩
  ·exact h
  ·rw [e]; exact H.ta x (List.mem_of_getElem? hx)
theorem Bd.ins {m : Nat} {a : A} {sp nm : Str} {att : List (Str × Str)} {p : Nat} (H : Bd m a) (hm : m < 890) (hp : p < a.N.length) (h : att.length ≤ 800) : Bd (m + 1) (a.ins sp nm att p) := by
 have G := H.putN (sp := sp) (nm := nm) hm hp h
 have hl : (a.ins sp nm att p).N.length = a.N.length + 1 := putN_len ..
 obtain ⟨r, hr⟩ := H.o1
 refine ⟨G.hm, G.hN, G.h0, ?_, ?_, ⟨r ++ [a.N.length], ?_⟩, ?_, G.hf, G.fb, G.he, G.wt, G.kd, G.ta⟩
 ·show (a.o ++ [a.N.length]).length ≤ _
  have := H.ho
  simp; lia
 ·intro x hx
  rw [hl]
  have hx' : x ∈ a.o ++ [a.N.length] := hx
  simp only [List.mem_append, List.mem_singleton] at hx'
  rcases hx' with h | rfl
  ·have := H.oN x h; lia
  ·lia
 ·show a.o ++ [a.N.length] = _
  rw [hr]; rfl
 ·show (a.o ++ [a.N.length]).Pairwise _
  rw [List.pairwise_append]
  refine ⟨H.od, by simp, fun x hx y hy => ?_⟩
  simp only [List.mem_singleton] at hy
  rw [hy]
  exact H.oN x hx
end Mine
namespace Mine
open PySem
noncomputable def tokV (nm : Str) (att : List (Str × Str)) (sc : Bool) : MV := .tup [sv "start", .str nm, .tup (att.map pairV), .bool sc]
section
variable {K : MV → Prop} {st : St} {nm : Str} {att : List (Str × Str)} {sc : Bool}
theorem tok0 (k : K (sv "start")) : Yes (subOf st (tokV nm att sc) (.int 0)) K := ⟨_, rfl, k⟩
theorem tok1 (k : K (.str nm)) : Yes (subOf st (tokV nm att sc) (.int 1)) K := ⟨_, rfl, k⟩
theorem tok2 (k : K (.tup (att.map pairV))) : Yes (subOf st (tokV nm att sc) (.int 2)) K := ⟨_, rfl, k⟩
theorem tok3 (k : K (.bool sc)) : Yes (subOf st (tokV nm att sc) (.int 3)) K := ⟨_, rfl, k⟩
end
section
variable {K : St → Prop} {a : A} {d : D} {tm : List MO}
theorem set_ack {v : Bool} (k : K (U (a.sack v) d tm)) : Yes (setAttrOf (U a d tm) (.ref .builder) (Str.ofString "is_acknowledged") (.bool v)) K := ⟨_, rfl, k⟩
theorem set_skip {v : Bool} (k : K (U (a.sskip v) d tm)) : Yes (setAttrOf (U a d tm) (.ref .builder) (Str.ofString "is_skipping") (.bool v)) K := ⟨_, rfl, k⟩
theorem set_ok {v : Bool} (k : K (U (a.sok v) d tm)) : Yes (setAttrOf (U a d tm) (.ref .builder) (Str.ofString "is_frameset_ok") (.bool v)) K := ⟨_, rfl, k⟩
theorem set_mode {v : Str} (k : K (U (a.smode v) d tm)) : Yes (setAttrOf (U a d tm) (.ref .builder) (Str.ofString "mode") (.str v)) K := ⟨_, rfl, k⟩
theorem set_orig {v : Str} (k : K (U (a.sorig v) d tm)) : Yes (setAttrOf (U a d tm) (.ref .builder) (Str.ofString "original") (.str v)) K := ⟨_, rfl, k⟩
theorem set_wish {v : Str} (k : K (U (a.swish v) d tm)) : Yes (setAttrOf (U a d tm) (.ref .builder) (Str.ofString "wish") (.str v)) K := ⟨_, rfl, k⟩
end
section
variable {n m : Nat} {K : MV → St → Prop} {a : A} {d : D} {tm : List MO} {nm : Str} {att : List (Str × Str)} {sc : Bool} {r : List Nat} {p : Nat}
theorem assoc_s {v : MV} (k : K .none (U a d tm)) : Yes2 (C (n+1) (.fn 24 0) [.ref .builder, v] (U a d tm)) K := by
 refine call_def (l := argL [("builder", .ref .builder), ("node", v)]) (by rfl) ?_
 refine cif_t rfl ?_
 refine cif_t rfl ?_
 exact k
theorem instok_s (H : Bd m a) (e : a.o = r ++ [p]) (hn : nm ≠ os "template") (h2 : att.length ≤ 800) (kk : ∀ tm', K (nv a.N.length) (U (a.ins (os "html") nm att p) d tm')) :
  Yes2 (C (n+5) (.fn 22 0) [.ref .builder, tokV nm att sc] (U a d tm)) K := by
 refine call_def (l := argL [("builder", .ref .builder), ("token", tokV nm att sc)]) (by rfl) ?_
 refine tok1 ?_
 refine tok2 ?_
 refine insel_s H (by rfl) e (.inl rfl) hn (by lia) ?_
 intro tm'
 refine assoc_s ?_
 exact kk _
theorem insvoid_s (H : Bd m a) (e : a.o = r ++ [p]) (hn : nm ≠ os "template") (h2 : att.length ≤ 800) (kk : ∀ tm', K (nv a.N.length) (U ((a.sN (putN a.N (os "html") nm att p)).sack true) d tm')) :
  Yes2 (C (n+6) (.fn 23 0) [.ref .builder, tokV nm att sc] (U a d tm)) K := by
 refine call_def (l := argL [("builder", .ref .builder), ("token", tokV nm att sc)]) (by rfl) ?_
 refine instok_s H e hn h2 ?_
 intro tm'
 refine pop_s (r := a.o) rfl (lt_lim (by have := H.ho; have := H.hm; lia)) ?_
 refine set_ack ?_
 exact kk _
end
end Mine
namespace Mine
open PySem
noncomputable def topOf (o : List Nat) : Nat := o.getLast?.getD 0
noncomputable def A.redo (a : A) (i : Nat) : A := match a.f[i]? with
 | some x => match a.N[x]? with
  | some nd => (a.ins (os "html") (os "b") nd.att (topOf a.o)).sf (a.f.set i a.N.length)
  | none => a
 | none => a
noncomputable def A.recon (a : A) : A := match a.f with
 | [] => a
 | [x] => if x ∈ a.o then a else a.redo 0
 | [x, y] => if y ∈ a.o then a else if x ∈ a.o then a.redo 1 else (a.redo 0).redo 1
 | _ => a
section
variable {n m : Nat} {K : MV → St → Prop} {a : A} {d : D} {tm : List MO}
theorem f_len' {K : MV → Prop} {j : Nat} (h : a.f.length = j) (hj : j ≤ 2) (kk : K (nv j)) : Yes (builtin (U a d tm) "len" [.ref .fitems]) K :=
 f_len (le_lim (by lia)) (by rw [h]; exact kk)
theorem v_tuple {K : MV → Prop} {st : St} {vs : List MV} (hl : vs.length ≤ lim) (k : K (.tup vs)) : Yes (builtin st "tuple" [.lst vs]) K := by
 refine ⟨_, ?_, k⟩
 show (if vs.length ≤ lim then some (MV.tup vs) else _) = _
 rw [if_pos hl]
theorem f_set {K : St → Prop} {i : Int} {j x : Nat} (hi : i = j) (hj : j < a.f.length) (h : a.f.length ≤ lim) (kk : K (U (a.sf (a.f.set j x)) d tm)) : Yes (setSubOf (U a d tm) (.ref .fitems) (.int i) (nv x)) K :=
 l_set (vs := a.f.map nv) rfl hi (by simpa using hj) (by simpa using h) (by rw [show (a.f.map nv).set j (nv x) = (a.f.set j x).map nv by simp]; rfl) kk
theorem Bd.sf {m : Nat} {a : A} {f : List Nat} (H : Bd m a) (hf : f.length ≤ 2) (fb : ∀ x ∈ f, ∃ nd, a.N[x]? = some nd ∧ nd.sp = os "html" ∧ nd.nm = os "b") : Bd m (a.sf f) :=
 ⟨H.hm, H.hN, H.h0, H.ho, H.oN, H.o1, H.od, hf, fb, H.he, H.wt, H.kd, H.ta⟩
theorem top_eq {o r : List Nat} {p : Nat} (e : o = r ++ [p]) : topOf o = p := by subst e; simp [topOf]
theorem Bd.redo {i : Nat} (H : Bd m a) (hm : m < 890) (hi : i < a.f.length) : Bd (m + 1) (a.redo i) ∧ (a.redo i).f.length = a.f.length := by
 obtain ⟨x, hx⟩ : ∃ x, a.f[i]? = some x := ⟨_, List.getElem?_eq_getElem hi⟩
 obtain ⟨nd, h1, h2, h3⟩ := H.fb x (List.mem_of_getElem? hx)
 obtain ⟨r, p, e, hp, _⟩ := H.top
 have ht := top_eq e
 unfold A.redo
 simp only [hx, h1, ht]
 have G := H.ins (sp := os "html") (nm := os "b") hm hp (H.ta nd (List.mem_of_getElem? h1))
 have hlt : ∀ y ∈ a.f, y < a.N.length := fun y hy => by obtain ⟨_, h, _⟩ := H.fb y hy; exact nth_lt h
 refine ⟨G.sf (by rw [List.length_set]; exact H.hf) ?_, by show (a.f.set i _).length = _; rw [List.length_set]⟩
 ·intro y hy
  rcases List.mem_or_eq_of_mem_set hy with h | rfl
  ·exact G.fb y h
  ·exact ⟨_, putN_new, rfl, rfl⟩
theorem redo_eq {i x : Nat} {nd : Nd} {r : List Nat} {p : Nat} (hx : a.f[i]? = some x) (h1 : a.N[x]? = some nd) (e : a.o = r ++ [p]) : a.redo i = (a.ins (os "html") (os "b") nd.att p).sf (a.f.set i a.N.length) := by
 unfold A.redo
 simp only [hx, h1, top_eq e]
noncomputable abbrev rcL (i : Nat) (r : List (String × MV)) : Loc := argL ([("builder", .ref .builder), ("tree", .ref .tree), ("formatting", .ref .fmt), ("at", nv i)] ++ r)
theorem scan_end {N : Nat} {K : Fl → Loc → St → Prop} (k : K .next (rcL 0 []) (U a d tm)) :
  Yes3 (whileLoop (testOf theTab thePol (C n) (wT (sAt (fnB 25 0) 3)) (fnS 25 0)) (bodyOf theTab thePol (C n) (wB (sAt (fnB 25 0) 3)) (fnS 25 0)) (N + 1) (rcL 0 []) (U a d tm)) K := by
 refine while_turn ?_
 refine cif_f rfl ?_
 refine cif_f rfl ?_
 exact k
theorem scan_turn {N i x : Nat} {K : Fl → Loc → St → Prop} (hi : i ≤ 2) (Hx : a.f[i]? = some x) (k1 : x ∈ a.o → K .next (rcL (i + 1) []) (U a d tm))
  (k2 : x ∉ a.o → Yes3 (whileLoop (testOf theTab thePol (C (n+1)) (wT (sAt (fnB 25 0) 3)) (fnS 25 0)) (bodyOf theTab thePol (C (n+1)) (wB (sAt (fnB 25 0) 3)) (fnS 25 0)) N (rcL i []) (U a d tm)) K) :
  Yes3 (whileLoop (testOf theTab thePol (C (n+1)) (wT (sAt (fnB 25 0) 3)) (fnS 25 0)) (bodyOf theTab thePol (C (n+1)) (wB (sAt (fnB 25 0) 3)) (fnS 25 0)) (N + 1) (rcL (i + 1) []) (U a d tm)) K := by
 refine while_turn ?_
 refine cif_t (decide_eq_true (Int.ofNat_lt.mpr (Nat.succ_pos i))) ?_
 refine f_at (j := i) (k := x) (Int.add_sub_cancel (i : Int) 1) Hx (le_lim (by lia)) ?_
 refine cif_t (by simp <;> lia) ?_
 refine f_at (j := i) (k := x) (Int.add_sub_cancel (i : Int) 1) Hx (le_lim (by lia)) ?_
 refine has_s ?_
 by_cases hx : x ∈ a.o
 ·refine cif_f (by rw [decide_eq_true hx]; rfl) ?_
  refine cif_f rfl ?_
  exact k1 hx
 ·refine cif_t (by rw [decide_eq_false hx]; rfl) ?_
  refine cif_t rfl ?_
  show Yes3 (whileLoop _ _ N (argL [("builder", .ref .builder), ("tree", .ref .tree), ("formatting", .ref .fmt), ("at", .int ((i + 1 : Nat) - 1))]) _) K
  rw [show ((i + 1 : Nat) : Int) - 1 = i from Int.add_sub_cancel (i : Int) 1]
  exact k2 hx
theorem loop_end {N j : Nat} {r : List (String × MV)} {K : Fl → Loc → St → Prop} (hr : r = [] ∨ ∃ u, r = [("old", u)]) (hj : j ≤ 2) (HL : a.f.length = j) (k : K .next (rcL j r) (U a d tm)) :
  Yes3 (whileLoop (testOf theTab thePol (C n) (wT (sAt (fnB 25 0) 4)) (fnS 25 0)) (bodyOf theTab thePol (C n) (wB (sAt (fnB 25 0) 4)) (fnS 25 0)) (N + 1) (rcL j r) (U a d tm)) K := by
 rcases hr with rfl | ⟨u, rfl⟩
 all_goals
  refine while_turn ?_
  refine f_len' HL hj ?_
  refine cif_f (decide_eq_false (Int.lt_irrefl _)) ?_
  exact k
theorem redo_turn {N i j x : Nat} {r : List (String × MV)} {K : Fl → Loc → St → Prop} (hr : r = [] ∨ ∃ u, r = [("old", u)]) (H : Bd m a) (hm : m < 890) (hj : j ≤ 2) (HL : a.f.length = j) (hi : i < j) (Hx : a.f[i]? = some x)
  (k : ∀ tm', Yes3 (whileLoop (testOf theTab thePol (C (n+4)) (wT (sAt (fnB 25 0) 4)) (fnS 25 0)) (bodyOf theTab thePol (C (n+4)) (wB (sAt (fnB 25 0) 4)) (fnS 25 0)) N (rcL (i + 1) [("old", nv x)]) (U (a.redo i) d tm')) K) :
  Yes3 (whileLoop (testOf theTab thePol (C (n+4)) (wT (sAt (fnB 25 0) 4)) (fnS 25 0)) (bodyOf theTab thePol (C (n+4)) (wB (sAt (fnB 25 0) 4)) (fnS 25 0)) (N + 1) (rcL i r) (U a d tm)) K := by
 have hN := H.hN
 obtain ⟨nx, hnx, hsx, hmx⟩ := H.fb x (List.mem_of_getElem? Hx)
 have hlt := nth_lt hnx
 have ta0 := H.ta _ (List.mem_of_getElem? hnx)
 obtain ⟨r0, p0, e0, hp0, _⟩ := H.top
 have eq := redo_eq Hx hnx e0
 have h1 : i < a.f.length := HL ▸ hi
 have h2 : a.f.length ≤ lim := le_lim (by lia)
 rcases hr with rfl | ⟨u, rfl⟩
 all_goals
  refine while_turn ?_
  refine f_len' HL hj ?_
  refine cif_t (decide_eq_true (Int.ofNat_lt.mpr hi)) ?_
  refine f_at (j := i) (k := x) rfl Hx (le_lim (by lia)) ?_
  refine r_nm rfl hnx (le_lim (by lia)) ?_
  refine r_att rfl hnx (le_lim (by lia)) ?_
  refine v_tuple (by rw [List.length_map]; exact le_lim (by lia)) ?_
  rw [hmx]
  refine insel_s H (by rfl) e0 (.inl rfl) (by simp [ofString_inj]) (by lia) ?_
  intro tm0
  refine f_set (a := a.ins _ _ _ _) (j := i) rfl h1 h2 ?_
  have k0 := k tm0
  rw [eq] at k0
  exact k0
theorem recon_s (H : Bd m a) (hm : m < 889) (kk : ∀ tm', K .none (U a.recon d tm')) : Yes2 (C (n+5) (.fn 25 0) [.ref .builder] (U a d tm)) K := by
 have hm' := H.hm
 have hf := H.hf
 refine call_def (l := argL [("builder", .ref .builder)]) (by rfl) ?_
 unfold A.recon at kk
 have old : ∀ x : Nat, ([("old", nv x)] : List (String × MV)) = [] ∨ ∃ u, ([("old", nv x)] : List (String × MV)) = [("old", u)] := fun x => .inr ⟨_, rfl⟩
 match hfe : a.f, hf with
 | [], _ =>
  rw [hfe] at kk
  have HL : a.f.length = 0 := by rw [hfe]; rfl
  refine f_len' (j := 0) HL (by decide) ?_
  refine scan_end ?_
  exact loop_end (.inl rfl) (by decide) HL (kk _)
 | [x], _ =>
  rw [hfe] at kk
  replace kk : ∀ tm', K .none (U (if x ∈ a.o then a else a.redo 0) d tm') := kk
  have HL : a.f.length = 1 := by rw [hfe]; rfl
  have Hx0 : a.f[0]? = some x := by rw [hfe]; rfl
  refine f_len' (j := 1) HL (by decide) ?_
  refine scan_turn (i := 0) (by decide) Hx0 (fun hx => ?_) fun hx => ?_
  ·rw [if_pos hx] at kk
   exact loop_end (.inl rfl) (by decide) HL (kk _)
  ·rw [if_neg hx] at kk
   refine scan_end ?_
   refine redo_turn (i := 0) (.inl rfl) H (by lia) (by decide) HL (by decide) Hx0 fun tm0 => ?_
   exact loop_end (old _) (by decide) ((H.redo (i := 0) (by lia) (by lia)).2.trans HL) (kk _)
 | [x, y], _ =>
  rw [hfe] at kk
  replace kk : ∀ tm', K .none (U (if y ∈ a.o then a else if x ∈ a.o then a.redo 1 else (a.redo 0).redo 1) d tm') := kk
  have HL : a.f.length = 2 := by rw [hfe]; rfl
  have Hx0 : a.f[0]? = some x := by rw [hfe]; rfl
  have Hx1 : a.f[1]? = some y := by rw [hfe]; rfl
  refine f_len' (j := 2) HL (by decide) ?_
  refine scan_turn (i := 1) (by decide) Hx1 (fun hy => ?_) fun hy => ?_
  ·rw [if_pos hy] at kk
   exact loop_end (.inl rfl) (by decide) HL (kk _)
  rw [if_neg hy] at kk
  refine scan_turn (i := 0) (by decide) Hx0 (fun hx => ?_) fun hx => ?_
  ·rw [if_pos hx] at kk
   refine redo_turn (i := 1) (.inl rfl) H (by lia) (by decide) HL (by decide) Hx1 fun tm0 => ?_
   exact loop_end (old _) (by decide) ((H.redo (i := 1) (by lia) (by lia)).2.trans HL) (kk _)
  ·rw [if_neg hx] at kk
   refine scan_end ?_
   refine redo_turn (i := 0) (.inl rfl) H (by lia) (by decide) HL (by decide) Hx0 fun tm0 => ?_
   obtain ⟨G, GL⟩ := H.redo (i := 0) (by lia) (by lia)
   obtain ⟨gx, gy⟩ : (a.redo 0).f[1]? = some y ∧ True := by
    obtain ⟨nx, hnx, _⟩ := H.fb x (List.mem_of_getElem? Hx0)
    obtain ⟨r0, p0, e0, _⟩ := H.top
    refine ⟨?_, trivial⟩
    rw [redo_eq Hx0 hnx e0]
    show (a.f.set 0 _)[1]? = _
    rw [List.getElem?_set_ne (by decide)]
    exact Hx1
   refine redo_turn (i := 1) (old _) G (by lia) (by decide) (GL.trans HL) (by decide) gx fun tm1 => ?_
   exact loop_end (old _) (by decide) ((G.redo (i := 1) (by lia) (by rw [GL, HL]; decide)).2.trans (GL.trans HL)) (kk _)
 | _ :: _ :: _ :: _, h => exact absurd h (by simp)
end
end Mine
namespace Mine
open PySem
theorem cif_d {c : Bool} {P A B : Prop} [Decidable P] (h : c = decide P) (h1 : P → A) (h2 : ¬P → B) : cIf c A B :=
 ⟨fun e => h1 (of_decide_eq_true (h.symm.trans e)), fun e => h2 (of_decide_eq_false (h.symm.trans e))⟩
theorem any_strs (x : Str) (L : List Str) : ((L.map MV.str).any fun y => eqAtom y (.str x) == some true) = decide (x ∈ L) := by
 induction L with
 | nil => rfl
 | cons a r ih =>
  rw [List.map_cons, List.any_cons, ih]
  show (some (decide (a = x)) == some true || decide (x ∈ r)) = _
  by_cases e : x = a
  ·subst e; simp
  ·have : ¬ a = x := fun h => e h.symm
   simp [e, this]
noncomputable def okNames : List Str := ["html", "body", "ruby", "rt", "rp", "rtc", "rb", "p", "span", "option", "optgroup", "object", "b", "li", "table"].map Str.ofString
noncomputable def implN : List Str := ["dd", "dt", "li", "optgroup", "option", "p", "rb", "rp", "rt", "rtc"].map Str.ofString
noncomputable def stopN : List Str := ["applet", "caption", "html", "table", "td", "th", "marquee", "object", "template"].map Str.ofString
structure Hs (a : A) : Prop where
 opn : ∀ x ∈ a.o, ∃ nd, a.N[x]? = some nd ∧ nd.sp = os "html" ∧ nd.nm ∈ okNames
 h1 : ∃ nd, a.N[1]? = some nd ∧ nd.nm = Mine.os "html"
 h2 : ∃ nd, a.N[2]? = some nd ∧ nd.nm = Mine.os "body"
noncomputable def nmOf (N : List Nd) (x : Nat) : Str := (N[x]?.map (·.nm)).getD Str.empty
theorem nmOf_eq {N : List Nd} {x : Nat} {nd : Nd} (h : N[x]? = some nd) : nmOf N x = nd.nm := by unfold nmOf; rw [h]; rfl
section
variable {n m : Nat} {K : MV → St → Prop} {a : A} {d : D} {tm : List MO}
theorem stops_s {x : Nat} {nd : Nd} (hx : a.N[x]? = some nd) (hk : x ≤ 1000) (hs : nd.sp = os "html") (kk : K (.bool (decide (nd.nm ∈ stopN))) (U a d tm)) : Yes2 (C (n+1) (.fn 29 0) [.ref .tree, nv x, sv ""] (U a d tm)) K := by
 refine call_def (l := argL [("tree", .ref .tree), ("node", nv x), ("sort", sv "")]) (by rfl) ?_
 refine r_sp rfl hx (le_lim hk) ?_
 refine r_nm rfl hx (le_lim hk) ?_
 refine cif_f rfl ?_
 refine cif_f rfl ?_
 refine cif_f (by rw [hs]; rfl) ?_
 refine cif_f (by rw [hs]; rfl) ?_
 refine cif_d (P := nd.nm ∈ stopN) (any_strs nd.nm stopN) (fun h => ?_) (fun h => ?_)
 ·rw [decide_eq_true h] at kk
  exact kk
 ·rw [decide_eq_false h] at kk
  refine cif_f rfl ?_
  refine cif_f rfl ?_
  exact kk
theorem impl_s (kk : K (.tup (implN.map .str)) (U a d tm)) : Yes2 (C (n+1) (.fn 16 0) [] (U a d tm)) K := by
 refine call_def (l := argL []) (by rfl) ?_
 exact kk
noncomputable def rubyAt (N : List Nd) (o : List Nat) : Nat → Bool
 | 0 => false
 | k + 1 => if nmOf N (o.getD k 0) = os "ruby" then true else if nmOf N (o.getD k 0) ∈ stopN then false else rubyAt N o k
theorem scope_loop (H : Bd m a) (G : Hs a) {K : Fl → Loc → St → Prop} (kt : ∀ l, rubyAt a.N a.o a.o.length = true → K (.ret (.bool true)) l (U a d tm)) (kf : ∀ l, rubyAt a.N a.o a.o.length = false → K (.ret (.bool false)) l (U a d tm)) :
  ∀ (k : Nat) (l : Loc), (l = argL [("stack", .ref .stack), ("names", .tup [sv "ruby"]), ("sort", sv ""), ("tree", .ref .tree)] ∨ ∃ x y, l = argL [("stack", .ref .stack), ("names", .tup [sv "ruby"]), ("sort", sv ""), ("tree", .ref .tree), ("at", x), ("node", y)]) →
  k ≤ a.o.length → rubyAt a.N a.o k = rubyAt a.N a.o a.o.length →
  Yes3 (forItems (stepOf theTab thePol (C (n+1)) (fT (sAt (fnB 30 0) 1)) (wB (sAt (fnB 30 0) 1)) (fnS 30 0)) (rangeUp k ((k : Int) - 1) (-1)) l (U a d tm)) fun fl l st => cThen (fun loc st => cSs theTab thePol (C (n+1)) [sAt (fnB 30 0) 2] (fnS 30 0) loc st K) K fl l st
 | 0, l, hl, _, e => by
  refine for_nil ?_
  rcases hl with rfl | ⟨x, y, rfl⟩
  ·exact kf _ e.symm
  ·exact kf _ e.symm
 | k + 1, l, hl, hk, e => by
  have hi : ((k + 1 : Nat) : Int) - 1 = k := by lia
  show Yes3 (forItems _ (.int (((k + 1 : Nat) : Int) - 1) :: rangeUp k (((k + 1 : Nat) : Int) - 1 + -1) (-1)) _ _) _
  rw [hi]
  obtain ⟨x, hx⟩ : ∃ x, a.o[k]? = some x := ⟨_, List.getElem?_eq_getElem (by lia)⟩
  obtain ⟨nd, h1, h2, h3⟩ := G.opn x (List.mem_of_getElem? hx)
  have hg : nmOf a.N (a.o.getD k 0) = nd.nm := by rw [List.getD_eq_getElem?_getD, hx]; exact nmOf_eq h1
  have hxl := nth_lt h1
  have hN := H.hN
  have hm := H.hm
  have ho := H.ho
  have e' : (if nd.nm = os "ruby" then true else if nd.nm ∈ stopN then false else rubyAt a.N a.o k) = rubyAt a.N a.o a.o.length := by rw [← hg]; exact e
  refine for_cons ?_
  rcases hl with rfl | ⟨x', y', rfl⟩
  all_goals
   refine o_at (j := k) rfl hx (le_lim (by lia)) ?_
   refine r_sp rfl h1 (le_lim (by lia)) ?_
   refine cif_t (by rw [h2]; rfl) ?_
   refine r_nm rfl h1 (le_lim (by lia)) ?_
   refine cif_d (P := nd.nm ∈ [os "ruby"]) (any_strs nd.nm [os "ruby"]) (fun h => ?_) (fun h => ?_)
   ·refine cif_t rfl ?_
    rw [if_pos (by simpa using h)] at e'
    exact kt _ e'.symm
   ·refine cif_f rfl ?_
    rw [if_neg (by simpa using h)] at e'
    refine stops_s h1 (by lia) h2 ?_
    by_cases h' : nd.nm ∈ stopN
    ·refine cif_t (decide_eq_true h') ?_
     rw [if_pos h'] at e'
     exact kf _ e'.symm
    ·refine cif_f (decide_eq_false h') ?_
     rw [if_neg h'] at e'
     exact scope_loop H G kt kf k _ (.inr ⟨nv k, nv x, rfl⟩) (by lia) e'
theorem inscope_s (H : Bd m a) (G : Hs a) (kk : K (.bool (rubyAt a.N a.o a.o.length)) (U a d tm)) : Yes2 (C (n+2) (.fn 30 0) [.ref .stack, .tup [sv "ruby"]] (U a d tm)) K := by
 refine call_def (l := argL [("stack", .ref .stack), ("names", .tup [sv "ruby"]), ("sort", sv "")]) (by rfl) ?_
 refine many_s (by have := H.ho; have := H.hm; exact le_lim (by lia)) ?_
 have ho := H.ho
 have hm := H.hm
 refine Yes.mk (.rng ((a.o.length : Int) - 1) (-1) (-1)) ?_ ?_
 ·show mkRng _ _ _ = _
  unfold mkRng
  rw [if_pos (by lia)]
 refine for_fixed (vs := rangeUp a.o.length ((a.o.length : Int) - 1) (-1)) ?_ ?_
 ·show (if _ then some (rangeItems _ _ _) else none) = _
  rw [if_pos (by lia)]
  unfold rangeItems rangeLen
  rw [if_neg (by decide), if_pos rfl]
  congr 2
  lia
 refine scope_loop H G (fun l e => ?_) (fun l e => ?_) a.o.length _ (.inl rfl) (Nat.le_refl _) rfl
 ·rw [e] at kk; exact kk
 ·rw [e] at kk; exact kk
noncomputable def popO (N : List Nd) (but : Str) : Nat → List Nat → List Nat
 | 0, o => o
 | k + 1, o => if nmOf N (topOf o) ∈ implN ∧ nmOf N (topOf o) ≠ but then popO N but k o.dropLast else o
theorem body_not (h : os "body" ∈ implN) : False := by
 unfold implN at h
 simp [ofString_inj] at h
theorem popimp_loop (G : Hs a) (ho : a.o.length ≤ 890) (hN : a.N.length ≤ 890) {but : Str} {K : Fl → Loc → St → Prop} (kk : ∀ l, K .next l (U (a.so (popO a.N but a.o.length a.o)) d tm)) :
  ∀ (k : Nat) (o r : List Nat), o = 1 :: 2 :: r → o.length = k → k ≤ a.o.length → (∀ x ∈ o, x ∈ a.o) → popO a.N but k o = popO a.N but a.o.length a.o →
  Yes3 (whileLoop (testOf theTab thePol (C (n+2)) (wT (sAt (fnB 31 0) 1)) (fnS 31 0)) (bodyOf theTab thePol (C (n+2)) (wB (sAt (fnB 31 0) 1)) (fnS 31 0)) (k + 1)
   (argL [("stack", .ref .stack), ("but", .str but), ("names", .tup (implN.map .str))]) (U (a.so o) d tm)) K
 | 0, o, r, e, hl, _, _, _ => by rw [e] at hl; simp at hl
 | k + 1, o, r, e, hl, hk, hx, ep => by
  have hne : o ≠ [] := by rw [e]; simp
  have eo := (List.dropLast_concat_getLast hne).symm
  have hin := hx _ (List.getLast_mem hne)
  obtain ⟨nd, h1, h2, h3⟩ := G.opn _ hin
  have hg : nmOf a.N (topOf o) = nd.nm := by rw [top_eq eo]; exact nmOf_eq h1
  have hxl := nth_lt h1
  have ep' : (if nd.nm ∈ implN ∧ nd.nm ≠ but then popO a.N but k o.dropLast else o) = popO a.N but a.o.length a.o := by rw [← hg]; exact ep
  have hdl : o.dropLast.length < lim := by rw [List.length_dropLast]; exact lt_lim (by lia)
  refine while_turn ?_
  refine name_s (a := a.so o) eo hdl h1 (le_lim (by lia)) h2 ?_
  refine cif_d (P := nd.nm ∈ implN) (any_strs nd.nm implN) (fun h => ?_) (fun h => ?_)
  ·refine name_s (a := a.so o) eo hdl h1 (le_lim (by lia)) h2 ?_
   refine cif_d (P := nd.nm ≠ but) (by simp) (fun h' => ?_) (fun h' => ?_)
   ·refine cif_t rfl ?_
    refine pop_s (a := a.so o) eo hdl ?_
    rw [if_pos ⟨h, h'⟩] at ep'
    have hr : r ≠ [] := by
     rintro rfl
     obtain ⟨nb, hb, hbn⟩ := G.h2
     have e2 : o.getLast hne = 2 := by subst e; rfl
     rw [e2, hb] at h1
     cases h1
     exact body_not (hbn ▸ h)
    refine popimp_loop G ho hN kk k o.dropLast r.dropLast ?_ (by rw [List.length_dropLast]; lia) (by lia) (fun x hx' => hx x ((List.dropLast_subset _) hx')) ep'
    subst e
    cases r with
    | nil => exact absurd rfl hr
    | cons c r => rfl
   ·refine cif_f rfl ?_
    rw [if_neg (fun q => h' q.2)] at ep'
    rw [ep']
    exact kk _
  ·refine cif_f rfl ?_
   rw [if_neg (fun q => h q.1)] at ep'
   rw [ep']
   exact kk _
theorem popimp_s (H : Bd m a) (G : Hs a) {but : Str} {args : List MV} (hb : bindF 31 0 args = some (argL [("stack", .ref .stack), ("but", .str but)])) (kk : K .none (U (a.so (popO a.N but a.o.length a.o)) d tm)) : Yes2 (C (n+3) (.fn 31 0) args (U a d tm)) K := by
 have ho := H.ho
 have hm := H.hm
 have hN := H.hN
 obtain ⟨r, hr⟩ := H.o1
 refine call_def hb ?_
 refine impl_s ?_
 refine while_more (m := a.o.length + 1) (by show a.o.length + 1 ≤ 1000; lia) ?_
 exact popimp_loop G (by lia) (by lia) (fun _ => kk) a.o.length a.o r hr rfl (Nat.le_refl _) (fun _ h => h) rfl
end
end Mine
namespace Mine
open PySem PySem.W
noncomputable def A.err (a : A) (w : Str) : A := a.se (a.e ++ [(w, a.mode)])
section
variable {n m : Nat} {K : MV → St → Prop} {a : A} {d : D} {tm : List MO} {nm : Str} {att : List (Str × Str)} {sc : Bool}
theorem error_s {w : Str} (h : a.e.length ≤ 900) (kk : K .none (U (a.err w) d tm)) : Yes2 (C (n+1) (.fn 56 2) [.ref .builder, .str w] (U a d tm)) K := by
 refine call_def (l := argL [("self", .ref .builder), ("word", .str w)]) (by rfl) ?_
 refine e_push (le_lim (by lia)) ?_
 exact kk
theorem to_s {w : Str} (kk : K .none (U (a.smode w) d tm)) : Yes2 (C (n+1) (.fn 56 3) [.ref .builder, .str w] (U a d tm)) K := by
 refine call_def (l := argL [("self", .ref .builder), ("mode", .str w)]) (by rfl) ?_
 refine set_mode ?_
 exact kk
noncomputable def typeOf : List (Str × Str) → Option Str
 | [] => none
 | p :: r => if p.1 = os "type" then some p.2 else typeOf r
noncomputable def optV : Option Str → MV
 | some s => .str s
 | none => .none
theorem value_loop {K : Fl → Loc → St → Prop} {t : MV} {st : St} : ∀ (l : List (Str × Str)) (loc : Loc), (loc = argL [("token", t), ("name", sv "type")] ∨ ∃ x, loc = argL [("token", t), ("name", sv "type"), ("pair", x)]) →
  (∀ l', match typeOf l with | some s => K (.ret (.str s)) l' st | none => K .next l' st) →
  Yes3 (forItems (stepOf theTab thePol (C n) (fT (sAt (fnB 33 0) 0)) (wB (sAt (fnB 33 0) 0)) (fnS 33 0)) (l.map pairV) loc st) K
 | [], loc, _, kk => for_nil (kk _)
 | p :: r, loc, hl, kk => by
  refine for_cons ?_
  rcases hl with rfl | ⟨x, rfl⟩
  all_goals
   refine Yes.mk (.str p.1) rfl ?_
   refine cif_d (P := p.1 = os "type") rfl (fun h => ?_) (fun h => ?_)
   ·refine Yes.mk (.str p.2) rfl ?_
    have := kk
    unfold typeOf at this
    rw [if_pos h] at this
    exact this _
   ·refine value_loop r _ (.inr ⟨pairV p, rfl⟩) ?_
    have := kk
    unfold typeOf at this
    rw [if_neg h] at this
    exact this
theorem value_s {st : St} (kk : K (optV (typeOf att)) st) : Yes2 (C (n+1) (.fn 33 0) [tokV nm att sc, sv "type"] st) K := by
 refine call_def (l := argL [("token", tokV nm att sc), ("name", sv "type")]) (by rfl) ?_
 refine tok2 ?_
 refine for_fixed (vs := att.map pairV) rfl ?_
 refine value_loop att _ (.inl rfl) ?_
 intro l'
 revert kk
 cases typeOf att with
 | some s => exact fun kk => kk
 | none => exact fun kk => kk
noncomputable def lowC (c : Nat) : Nat := if 65 ≤ c ∧ c ≤ 90 then c + 32 else c
noncomputable def chV (c : Nat) : MV := .str ⟨#[c]⟩
noncomputable def signs : List Nat := [104, 105, 100, 101, 110, 72, 68, 78, 116, 120]
theorem lower_c {st : St} {c : Nat} (hc : c ∈ signs) (kk : K (chV (lowC c)) st) : Yes2 (C (n+2) (.fn 10 0) [chV c] st) K := by
 refine ⟨chV (lowC c), st, ?_, kk⟩
 unfold C
 unfold signs at hc
 simp only [List.mem_cons, List.mem_nil_iff, or_false] at hc
 rcases hc with rfl | rfl | rfl | rfl | rfl | rfl | rfl | rfl | rfl | rfl
 all_goals kernel_rfl
theorem lower_loop {t : MV} {K : Fl → Loc → St → Prop} : ∀ (r done : List Nat) (loc : Loc), (loc = argL [("text", t), ("out", .ref (.tm tm.length))] ∨ ∃ x, loc = argL [("text", t), ("out", .ref (.tm tm.length)), ("c", x)]) → (∀ c ∈ r, c ∈ signs) → done.length + r.length ≤ 900 →
  (∀ l', (l' = argL [("text", t), ("out", .ref (.tm tm.length))] ∨ ∃ x, l' = argL [("text", t), ("out", .ref (.tm tm.length)), ("c", x)]) → K .next l' (U a d (tm ++ [.list ((done ++ r.map lowC).map chV)]))) →
  Yes3 (forItems (stepOf theTab thePol (C (n+2)) (fT (sAt (fnB 11 0) 1)) (wB (sAt (fnB 11 0) 1)) (fnS 11 0)) (r.map chV) loc (U a d (tm ++ [.list (done.map chV)]))) K
 | [], done, loc, hl, _, _, kk => for_nil (by have := kk loc hl; rwa [List.map_nil, List.append_nil] at this)
 | c :: r, done, loc, hl, hr, hn, kk => by
  refine for_cons ?_
  have hd : (done.map chV).length ≤ lim := by rw [List.length_map]; simp at hn; exact le_lim (by lia)
  rcases hl with rfl | ⟨x, rfl⟩
  all_goals
   refine kind_tm (.inl rfl) ?_
   refine lower_c (hr c (.head _)) ?_
   refine l_append tm_get hd tm_put ?_
   rw [map_one]
   refine lower_loop r (done ++ [lowC c]) _ (.inr ⟨chV c, rfl⟩) (fun c h => hr c (.tail _ h)) (by simp at hn ⊢; lia) ?_
   intro l' hl'
   have := kk l' hl'
   rw [List.append_assoc]
   exact this
noncomputable def types4 : List Str := ["hidden", "HiDDeN", "text", ""].map Str.ofString
noncomputable def lowT (t : Str) : Str := if t = os "HiDDeN" then os "hidden" else t
theorem types_ok : ∀ t ∈ types4, (∀ c ∈ t.cps.toList, c ∈ signs) ∧ t.cps.toList.length ≤ 900 ∧ joinStrs (os "") ((t.cps.toList.map lowC).map chV) = some (lowT t) := by decide +kernel
theorem lower_text_s {t : Str} (ht : t ∈ types4) (kk : ∀ tm', K (.str (lowT t)) (U a d tm')) : Yes2 (C (n+3) (.fn 11 0) [.str t] (U a d tm)) K := by
 obtain ⟨h1, h2, h3⟩ := types_ok t ht
 refine call_def (l := argL [("text", .str t)]) (by rfl) ?_
 refine tm_alloc (by rfl) ?_
 refine for_fixed (vs := t.cps.toList.map chV) rfl ?_
 refine lower_loop t.cps.toList [] _ (.inl rfl) h1 (by simpa using h2) ?_
 intro l' hl'
 rcases hl' with rfl | ⟨x, rfl⟩
 all_goals
  refine Yes2.mk (.str (lowT t)) (U a d (tm ++ [.list ((t.cps.toList.map lowC).map chV)])) ?_ ?_
  ·show atList ((U a d (tm ++ [.list (([] ++ t.cps.toList.map lowC).map chV)])).get (.tm tm.length)) _ = _
   rw [tm_get]
   show ob (joinStrs (os "") ((t.cps.toList.map lowC).map chV)) _ = _
   rw [h3]
   rfl
  ·exact kk _
end
end Mine
namespace Mine
open PySem
noncomputable def A.vd (a : A) (nm : Str) (att : List (Str × Str)) : A := (a.sN (putN a.N (os "html") nm att (topOf a.o))).sack true
noncomputable def A.el (a : A) (sp nm : Str) (att : List (Str × Str)) : A := a.ins sp nm att (topOf a.o)
noncomputable def hid (att : List (Str × Str)) : Bool := match typeOf att with
 | some t => decide (lowT t = os "hidden")
 | none => false
theorem ite_elim {α : Type} {P : α → Prop} {c : Prop} [Decidable c] {x y : α} (h1 : P x) (h2 : P y) : P (if c then x else y) := by
 by_cases h : c
 ·rw [if_pos h]; exact h1
 ·rw [if_neg h]; exact h2
theorem redo_elim {P : A → Prop} {a : A} {i : Nat} (h0 : P a) (h1 : ∀ x nd, a.f[i]? = some x → a.N[x]? = some nd → P ((a.ins (os "html") (os "b") nd.att (topOf a.o)).sf (a.f.set i a.N.length))) : P (a.redo i) := by
 unfold A.redo
 cases e : a.f[i]? with
 | none => exact h0
 | some x =>
  show P (match a.N[x]? with | some nd => _ | none => a)
  cases e2 : a.N[x]? with
  | none => exact h0
  | some nd => exact h1 x nd e e2
theorem recon_elim {P : A → Prop} {a : A} (h0 : P a) (h1 : P (a.redo 0)) (h2 : P (a.redo 1)) (h3 : P ((a.redo 0).redo 1)) : P a.recon := by
 unfold A.recon
 generalize a.f = l
 rcases l with _ | ⟨x, _ | ⟨y, _ | ⟨z, r⟩⟩⟩
 ·exact h0
 ·exact ite_elim h0 h1
 ·exact ite_elim h0 (ite_elim h2 h3)
 ·exact h0
theorem redo_keep (a : A) (i : Nat) : (a.redo i).e = a.e ∧ (a.redo i).mode = a.mode ∧ (a.redo i).orig = a.orig ∧ (a.redo i).wish = a.wish ∧ (a.redo i).ok = a.ok ∧ (a.redo i).skip = a.skip ∧ (a.redo i).ack = a.ack := by
 exact redo_elim (P := fun b => b.e = a.e ∧ b.mode = a.mode ∧ b.orig = a.orig ∧ b.wish = a.wish ∧ b.ok = a.ok ∧ b.skip = a.skip ∧ b.ack = a.ack) ⟨rfl, rfl, rfl, rfl, rfl, rfl, rfl⟩ fun _ _ _ _ => ⟨rfl, rfl, rfl, rfl, rfl, rfl, rfl⟩
theorem Bd.mono {m m' : Nat} {a : A} (H : Bd m a) (h : m ≤ m') (h' : m' ≤ 890) : Bd m' a :=
 ⟨h', Nat.le_trans H.hN h, H.h0, Nat.le_trans H.ho h, H.oN, H.o1, H.od, H.hf, H.fb, Nat.le_trans H.he h, H.wt, fun x hx => Nat.le_trans (H.kd x hx) h, H.ta⟩
theorem Bd.recon {m : Nat} {a : A} (H : Bd m a) (hm : m < 889) : Bd (m + 2) a.recon := by
 have hf := H.hf
 have h0 : Bd (m + 2) a := H.mono (by lia) (by lia)
 unfold A.recon
 match e : a.f, hf with
 | [], _ => exact h0
 | [x], _ =>
  show Bd (m + 2) (if x ∈ a.o then a else a.redo 0)
  split
  ·exact h0
  ·exact (H.redo (by lia) (by rw [e]; simp)).1.mono (by lia) (by lia)
 | [x, y], _ =>
  show Bd (m + 2) (if y ∈ a.o then a else if x ∈ a.o then a.redo 1 else (a.redo 0).redo 1)
  split
  ·exact h0
  ·split
   ·exact (H.redo (by lia) (by rw [e]; simp)).1.mono (by lia) (by lia)
   ·have G := H.redo (i := 0) (by lia) (by rw [e]; simp)
    exact (G.1.redo (by lia) (by rw [G.2, e]; simp)).1
 | _ :: _ :: _ :: _, h => exact absurd h (by simp)
theorem recon_keep (a : A) : a.recon.e = a.e ∧ a.recon.mode = a.mode ∧ a.recon.orig = a.orig ∧ a.recon.wish = a.wish ∧ a.recon.ok = a.ok ∧ a.recon.skip = a.skip ∧ a.recon.ack = a.ack := by
 have h (b : A) (i : Nat) := redo_keep b i
 refine recon_elim (P := fun b => b.e = a.e ∧ b.mode = a.mode ∧ b.orig = a.orig ∧ b.wish = a.wish ∧ b.ok = a.ok ∧ b.skip = a.skip ∧ b.ack = a.ack) ⟨rfl, rfl, rfl, rfl, rfl, rfl, rfl⟩ (h a 0) (h a 1) ?_
 obtain ⟨a1, a2, a3, a4, a5, a6, a7⟩ := h (a.redo 0) 1
 obtain ⟨b1, b2, b3, b4, b5, b6, b7⟩ := h a 0
 exact ⟨a1.trans b1, a2.trans b2, a3.trans b3, a4.trans b4, a5.trans b5, a6.trans b6, a7.trans b7⟩
section
variable {n m : Nat} {K : MV → St → Prop} {a : A} {d : D} {tm : List MO} {nm : Str} {att : List (Str × Str)} {sc : Bool}
theorem tok_s (H : Bd m a) (hn : nm ≠ os "template") (h2 : att.length ≤ 800) (kk : ∀ tm', K (nv a.N.length) (U (a.el (os "html") nm att) d tm')) :
  Yes2 (C (n+5) (.fn 22 0) [.ref .builder, tokV nm att sc] (U a d tm)) K := by
 obtain ⟨r, p, e, hp, _⟩ := H.top
 refine instok_s H e hn h2 ?_
 unfold A.el at kk
 rw [top_eq e] at kk
 exact kk
theorem void_s (H : Bd m a) (hn : nm ≠ os "template") (h2 : att.length ≤ 800) (kk : ∀ tm', K (nv a.N.length) (U (a.vd nm att) d tm')) :
  Yes2 (C (n+6) (.fn 23 0) [.ref .builder, tokV nm att sc] (U a d tm)) K := by
 obtain ⟨r, p, e, hp, _⟩ := H.top
 refine insvoid_s H e hn h2 ?_
 unfold A.vd at kk
 rw [top_eq e] at kk
 exact kk
theorem el_s {sp : Str} {v : MV} {args : List MV} (H : Bd m a) (hb : bindF 21 0 args = some (argL [("builder", .ref .builder), ("name", .str nm), ("attrs", v), ("space", .str sp)]))
  (hv : v = .tup (att.map pairV) ∨ v = .lst (att.map pairV)) (hn : nm ≠ os "template") (h2 : att.length ≤ 900)
  (kk : ∀ tm', K (nv a.N.length) (U (a.el sp nm att) d tm')) : Yes2 (C (n+4) (.fn 21 0) args (U a d tm)) K := by
 obtain ⟨r, p, e, hp, _⟩ := H.top
 refine insel_s H hb e hv hn h2 ?_
 unfold A.el at kk
 rw [top_eq e] at kk
 exact kk
theorem svoid_s (H : Bd m a) (hm : m < 880) (hn : nm ≠ os "template") (h2 : att.length ≤ 800) (kk : ∀ tm', K .none (U ((a.recon.vd nm att).sok false) d tm')) :
  Yes2 (C (n+7) (.fn 35 0) [.ref .builder, tokV nm att sc] (U a d tm)) K := by
 refine call_def (l := argL [("builder", .ref .builder), ("token", tokV nm att sc)]) (by rfl) ?_
 refine recon_s H (by lia) ?_
 intro tm1
 refine void_s (H.recon (by lia)) hn h2 ?_
 intro tm2
 refine set_ok ?_
 exact kk _
theorem sinput_s (H : Bd m a) (hm : m < 880) (hn : nm ≠ os "template") (h2 : att.length ≤ 800) (ht : ∀ t, typeOf att = some t → t ∈ types4)
  (kk : ∀ tm', K .none (U (if hid att then a.recon.vd nm att else (a.recon.vd nm att).sok false) d tm')) :
  Yes2 (C (n+7) (.fn 36 0) [.ref .builder, tokV nm att sc] (U a d tm)) K := by
 refine call_def (l := argL [("builder", .ref .builder), ("token", tokV nm att sc)]) (by rfl) ?_
 refine recon_s H (by lia) ?_
 intro tm1
 refine void_s (H.recon (by lia)) hn h2 ?_
 intro tm2
 refine value_s ?_
 unfold hid at kk
 cases e : typeOf att with
 | none =>
  rw [e] at kk
  refine cif_t rfl ?_
  refine cif_t rfl ?_
  refine set_ok ?_
  exact kk _
 | some t =>
  rw [e] at kk
  refine cif_f rfl ?_
  refine lower_text_s (ht t e) ?_
  intro tm3
  refine cif_d (P := lowT t ≠ os "hidden") (by simp) (fun h => ?_) (fun h => ?_)
  ·refine cif_t rfl ?_
   refine set_ok ?_
   have := kk tm3
   simp only [h, decide_false, Bool.false_eq_true, if_false] at this
   exact this
  ·refine cif_f rfl ?_
   have h' : lowT t = os "hidden" := Decidable.not_not.mp h
   have := kk tm3
   simp only [h', decide_true, if_true] at this
   exact this
theorem sraw_s {state : Str} (H : Bd m a) (hn : nm ≠ os "template") (h2 : att.length ≤ 800) (kk : ∀ tm', K .none (U ((((a.el (os "html") nm att).swish state).sorig a.mode).smode (os "text")) d tm')) :
  Yes2 (C (n+6) (.fn 26 0) [.ref .builder, tokV nm att sc, .str state] (U a d tm)) K := by
 refine call_def (l := argL [("builder", .ref .builder), ("token", tokV nm att sc), ("state", .str state)]) (by rfl) ?_
 refine tok_s H hn h2 ?_
 intro tm1
 refine set_wish ?_
 refine set_orig ?_
 refine to_s ?_
 exact kk _
noncomputable def A.raw (a : A) (nm : Str) (att : List (Str × Str)) (state : Str) : A := (((a.el (os "html") nm att).swish state).sorig a.mode).smode (os "text")
theorem starea_s (H : Bd m a) (hn : nm ≠ os "template") (h2 : att.length ≤ 800) (kk : ∀ tm', K .none (U (((a.raw nm att (os "RCDATA")).sskip true).sok false) d tm')) :
  Yes2 (C (n+7) (.fn 38 0) [.ref .builder, tokV nm att sc] (U a d tm)) K := by
 refine call_def (l := argL [("builder", .ref .builder), ("token", tokV nm att sc)]) (by rfl) ?_
 refine sraw_s H hn h2 ?_
 intro tm1
 refine set_skip ?_
 refine set_ok ?_
 exact kk _
theorem srawp_s (H : Bd m a) (hn : nm ≠ os "template") (h2 : att.length ≤ 800) (kk : ∀ tm', K .none (U ((if nm = os "iframe" then a.sok false else a).raw nm att (os "RAWTEXT")) d tm')) :
  Yes2 (C (n+7) (.fn 39 0) [.ref .builder, tokV nm att sc] (U a d tm)) K := by
 refine call_def (l := argL [("builder", .ref .builder), ("token", tokV nm att sc)]) (by rfl) ?_
 refine tok1 ?_
 refine cif_d (P := nm = os "iframe") rfl (fun h => ?_) (fun h => ?_)
 ·refine set_ok ?_
  rw [if_pos h] at kk
  have G : Bd m (a.sok false) := ⟨H.hm, H.hN, H.h0, H.ho, H.oN, H.o1, H.od, H.hf, H.fb, H.he, H.wt, H.kd, H.ta⟩
  refine sraw_s G hn h2 ?_
  exact kk
 ·rw [if_neg h] at kk
  refine sraw_s H hn h2 ?_
  exact kk
theorem sany_s (H : Bd m a) (hm : m < 880) (hn : nm ≠ os "template") (h2 : att.length ≤ 800) (kk : ∀ tm', K .none (U (a.recon.el (os "html") nm att) d tm')) :
  Yes2 (C (n+6) (.fn 44 0) [.ref .builder, tokV nm att sc] (U a d tm)) K := by
 refine call_def (l := argL [("builder", .ref .builder), ("token", tokV nm att sc)]) (by rfl) ?_
 refine recon_s H (by lia) ?_
 intro tm1
 refine tok_s (H.recon (by lia)) hn h2 ?_
 exact kk
end
end Mine
namespace Mine
open PySem
noncomputable def tabModes : List Str := ["in table", "in caption", "in table body", "in row", "in cell"].map Str.ofString
noncomputable def A.sel (a : A) (att : List (Str × Str)) (nm : Str) : A := let b := (a.recon.el (os "html") nm att).sok false; b.smode (if a.mode ∈ tabModes then os "in select in table" else os "in select")
noncomputable def A.popOpt (a : A) : A := if nmOf a.N (topOf a.o) = os "option" then a.so a.o.dropLast else a
noncomputable def A.popRuby (a : A) (inner : Bool) : A := if rubyAt a.N a.o a.o.length then a.so (popO a.N (if inner then os "rtc" else Str.empty) a.o.length a.o) else a
noncomputable def A.errRuby (a : A) (inner : Bool) : A := if nmOf a.N (topOf a.o) ≠ os "ruby" ∧ ¬ (inner = true ∧ nmOf a.N (topOf a.o) = os "rtc") then a.err (os "unexpected-start-tag") else a
noncomputable def A.ruby (a : A) (nm : Str) (att : List (Str × Str)) (inner : Bool) : A := ((a.popRuby inner).errRuby inner).el (os "html") nm att
section
variable {n m : Nat} {K : MV → St → Prop} {a : A} {d : D} {tm : List MO} {nm : Str} {att : List (Str × Str)} {sc : Bool}
theorem ssel_s (H : Bd m a) (hm : m < 880) (hn : nm ≠ os "template") (h2 : att.length ≤ 800) (kk : ∀ tm', K .none (U (a.sel att nm) d tm')) :
  Yes2 (C (n+6) (.fn 40 0) [.ref .builder, tokV nm att sc] (U a d tm)) K := by
 refine call_def (l := argL [("builder", .ref .builder), ("token", tokV nm att sc)]) (by rfl) ?_
 refine recon_s H (by lia) ?_
 intro tm1
 refine tok_s (H.recon (by lia)) hn h2 ?_
 intro tm2
 refine set_ok ?_
 have hm := (recon_keep a).2.1
 unfold A.sel at kk
 refine cif_d (P := a.mode ∈ tabModes) (by rw [← hm]; exact any_strs a.recon.mode tabModes) (fun h => ?_) (fun h => ?_)
 ·refine to_s ?_
  have := kk tm2
  rw [if_pos h] at this
  exact this
 ·refine to_s ?_
  have := kk tm2
  rw [if_neg h] at this
  exact this
theorem topName (H : Bd m a) (G : Hs a) : ∃ r p nd, a.o = r ++ [p] ∧ r.length < lim ∧ a.N[p]? = some nd ∧ p ≤ lim ∧ nd.sp = os "html" ∧ nmOf a.N (topOf a.o) = nd.nm := by
 obtain ⟨r, p, e, hp, hr⟩ := H.top
 obtain ⟨nd, h1, h2, _⟩ := G.opn p (by rw [e]; simp)
 refine ⟨r, p, nd, e, lt_lim (by lia), h1, le_lim (by have := nth_lt h1; have := H.hN; have := H.hm; lia), h2, ?_⟩
 rw [top_eq e]; exact nmOf_eq h1
theorem Bd.so {r : List Nat} (H : Bd m a) (hl : r.length ≤ m) (hr : ∀ x ∈ r, x ∈ a.o) (h1 : ∃ q, r = 1 :: 2 :: q) (hd : r.Pairwise (· < ·)) : Bd m (a.so r) :=
 ⟨H.hm, H.hN, H.h0, hl, fun x hx => H.oN x (hr x hx), h1, hd, H.hf, H.fb, H.he, H.wt, H.kd, H.ta⟩
theorem Bd.popTop (H : Bd m a) (G : Hs a) (hb : nmOf a.N (topOf a.o) ≠ os "body") : Bd m (a.so a.o.dropLast) := by
 obtain ⟨r, hr⟩ := H.o1
 have hne : r ≠ [] := by
  rintro rfl
  obtain ⟨nb, h1, h2⟩ := G.h2
  have : topOf a.o = 2 := by rw [hr]; rfl
  rw [this, nmOf_eq h1] at hb
  exact hb h2
 refine H.so (by rw [List.length_dropLast]; have := H.ho; lia) (fun x hx => (List.dropLast_subset _) hx) ⟨r.dropLast, ?_⟩ (H.od.sublist (List.dropLast_sublist _))
 rw [hr]
 cases r with
 | nil => exact absurd rfl hne
 | cons c r => rfl
theorem popOpt_bd (H : Bd m a) (G : Hs a) : Bd m a.popOpt := by
 unfold A.popOpt
 split
 ·rename_i h
  exact H.popTop G (by rw [h]; simp [ofString_inj])
 ·exact H
theorem sopt_s (H : Bd m a) (G : Hs a) (hm : m < 880) (hn : nm ≠ os "template") (h2 : att.length ≤ 800) (kk : ∀ tm', K .none (U (a.popOpt.recon.el (os "html") nm att) d tm')) :
  Yes2 (C (n+6) (.fn 41 0) [.ref .builder, tokV nm att sc] (U a d tm)) K := by
 have P := popOpt_bd H G
 obtain ⟨r, p, nd, e, hl, h1, hp, hs, ht⟩ := topName H G
 refine call_def (l := argL [("builder", .ref .builder), ("token", tokV nm att sc)]) (by rfl) ?_
 refine name_s e hl h1 hp hs ?_
 unfold A.popOpt at kk P
 rw [ht] at kk P
 refine cif_d (P := nd.nm = os "option") rfl (fun h => ?_) (fun h => ?_)
 ·rw [if_pos h] at kk P
  refine pop_s e hl ?_
  have e' : r = a.o.dropLast := by rw [e]; simp
  rw [e']
  refine recon_s P (by lia) ?_
  intro tm1
  refine tok_s (P.recon (by lia)) hn h2 ?_
  exact kk
 ·rw [if_neg h] at kk P
  refine recon_s P (by lia) ?_
  intro tm1
  refine tok_s (P.recon (by lia)) hn h2 ?_
  exact kk
end
theorem popO_sub (N : List Nd) (but : Str) : ∀ (k : Nat) (o : List Nat), (popO N but k o).length ≤ o.length ∧ List.Sublist (popO N but k o) o
 | 0, o => ⟨Nat.le_refl _, List.Sublist.refl _⟩
 | k + 1, o => by
  unfold popO
  split
  ·have h := popO_sub N but k o.dropLast
   exact ⟨Nat.le_trans h.1 (by rw [List.length_dropLast]; lia), h.2.trans (List.dropLast_sublist _)⟩
  ·exact ⟨Nat.le_refl _, List.Sublist.refl _⟩
theorem popO_two {N : List Nd} {but : Str} (h2 : ∃ nd, N[2]? = some nd ∧ nd.nm = os "body") : ∀ (k : Nat) (o : List Nat), (∃ r, o = 1 :: 2 :: r) → ∃ r, popO N but k o = 1 :: 2 :: r
 | 0, o, h => h
 | k + 1, o, h => by
  unfold popO
  split
  ·rename_i hc
   obtain ⟨r, rfl⟩ := h
   refine popO_two h2 k _ ?_
   cases r with
   | nil =>
    obtain ⟨nd, h1, h3⟩ := h2
    have : nmOf N (topOf [1, 2]) = os "body" := by show nmOf N 2 = _; rw [nmOf_eq h1, h3]
    rw [this] at hc
    exact absurd hc.1 body_not
   | cons c r => exact ⟨_, rfl⟩
  ·exact h
theorem Hs.so {a : A} {r : List Nat} (G : Hs a) (hr : ∀ x ∈ r, x ∈ a.o) : Hs (a.so r) := ⟨fun x hx => G.opn x (hr x hx), G.h1, G.h2⟩
theorem popRuby_bd {m : Nat} {a : A} (H : Bd m a) (G : Hs a) (i : Bool) : Bd m (a.popRuby i) ∧ Hs (a.popRuby i) := by
 unfold A.popRuby
 split
 ·have h := popO_sub a.N (if i then os "rtc" else Str.empty) a.o.length a.o
  exact ⟨H.so (Nat.le_trans h.1 H.ho) (fun x hx => h.2.subset hx) (popO_two G.h2 _ _ H.o1) (H.od.sublist h.2), G.so (fun x hx => h.2.subset hx)⟩
 ·exact ⟨H, G⟩
theorem Bd.err {m : Nat} {a : A} {w : Str} (H : Bd m a) (hm : m < 890) : Bd (m + 1) (a.err w) :=
 have G := H.mono (m' := m + 1) (by lia) (by lia)
 ⟨G.hm, G.hN, G.h0, G.ho, G.oN, G.o1, G.od, G.hf, G.fb, by show (a.e ++ [_]).length ≤ _; have := H.he; simp; lia, G.wt, G.kd, G.ta⟩
section
variable {n m : Nat} {K : MV → St → Prop} {a : A} {d : D} {tm : List MO} {nm : Str} {att : List (Str × Str)} {sc : Bool}
theorem sruby_s {i : Bool} (hi : decide (nm ∈ [os "rp", os "rt"]) = i) (H : Bd m a) (G : Hs a) (hm : m < 880) (hn : nm ≠ os "template") (h2 : att.length ≤ 800) (kk : ∀ tm', K .none (U (a.ruby nm att i) d tm')) :
  Yes2 (C (n+6) (.fn 42 0) [.ref .builder, tokV nm att sc] (U a d tm)) K := by
 obtain ⟨P, Q⟩ := popRuby_bd H G i
 refine call_def (l := argL [("builder", .ref .builder), ("token", tokV nm att sc)]) (by rfl) ?_
 refine tok1 ?_
 have hj := any_strs nm [os "rp", os "rt"]
 refine inscope_s H G ?_
 unfold A.ruby at kk
 have hr0 : rubyAt a.N a.o a.o.length = true ∨ rubyAt a.N a.o a.o.length = false := by cases rubyAt a.N a.o a.o.length <;> simp
 cases i with
 | true =>
  rcases hr0 with hr | hr
  ·have ep : a.popRuby true = a.so (popO a.N (os "rtc") a.o.length a.o) := by unfold A.popRuby; rw [if_pos hr]; rfl
   rw [ep] at P Q kk
   refine cif_t hr ?_
   refine cif_t (hj.trans hi) ?_
   refine popimp_s (but := os "rtc") H G (by rfl) ?_
   obtain ⟨r, p, nd, e, hl, h1, hp, hs, ht⟩ := topName P Q
   unfold A.errRuby at kk
   rw [ht] at kk
   refine name_s e hl h1 hp hs ?_
   refine cif_d (P := nd.nm ≠ os "ruby") (by simp) (fun h => ?_) (fun h => ?_)
   ·skip
    refine cif_t (hj.trans hi) ?_
    refine cif_d (P := nd.nm = os "rtc") rfl (fun h' => ?_) (fun h' => ?_)
    ·refine cif_f rfl ?_
     refine cif_f rfl ?_
     rw [if_neg (fun q => q.2 ⟨rfl, h'⟩)] at kk
     refine tok_s P hn h2 ?_
     exact kk
    ·refine cif_t rfl ?_
     refine cif_t rfl ?_
     rw [if_pos ⟨h, fun q => h' q.2⟩] at kk
     refine error_s (by have := P.he; lia) ?_
     refine tok_s (P.err (by lia)) hn h2 ?_
     exact kk
   ·refine cif_f rfl ?_
    rw [if_neg (fun q => h q.1)] at kk
    refine tok_s P hn h2 ?_
    exact kk
  ·have ep : a.popRuby true = a := by unfold A.popRuby; rw [if_neg (by rw [hr]; decide)]
   rw [ep] at P Q kk
   refine cif_f hr ?_
   obtain ⟨r, p, nd, e, hl, h1, hp, hs, ht⟩ := topName P Q
   unfold A.errRuby at kk
   rw [ht] at kk
   refine name_s e hl h1 hp hs ?_
   refine cif_d (P := nd.nm ≠ os "ruby") (by simp) (fun h => ?_) (fun h => ?_)
   ·skip
    refine cif_t (hj.trans hi) ?_
    refine cif_d (P := nd.nm = os "rtc") rfl (fun h' => ?_) (fun h' => ?_)
    ·refine cif_f rfl ?_
     refine cif_f rfl ?_
     rw [if_neg (fun q => q.2 ⟨rfl, h'⟩)] at kk
     refine tok_s P hn h2 ?_
     exact kk
    ·refine cif_t rfl ?_
     refine cif_t rfl ?_
     rw [if_pos ⟨h, fun q => h' q.2⟩] at kk
     refine error_s (by have := P.he; lia) ?_
     refine tok_s (P.err (by lia)) hn h2 ?_
     exact kk
   ·refine cif_f rfl ?_
    rw [if_neg (fun q => h q.1)] at kk
    refine tok_s P hn h2 ?_
    exact kk
 | false =>
  rcases hr0 with hr | hr
  ·have ep : a.popRuby false = a.so (popO a.N (Str.empty) a.o.length a.o) := by unfold A.popRuby; rw [if_pos hr]; rfl
   rw [ep] at P Q kk
   refine cif_t hr ?_
   refine cif_f (hj.trans hi) ?_
   refine popimp_s (but := Str.empty) H G (by rfl) ?_
   obtain ⟨r, p, nd, e, hl, h1, hp, hs, ht⟩ := topName P Q
   unfold A.errRuby at kk
   rw [ht] at kk
   refine name_s e hl h1 hp hs ?_
   refine cif_d (P := nd.nm ≠ os "ruby") (by simp) (fun h => ?_) (fun h => ?_)
   ·skip
    refine cif_f (hj.trans hi) ?_
    refine cif_t rfl ?_
    refine cif_t rfl ?_
    rw [if_pos ⟨h, fun q => absurd q.1 (by decide)⟩] at kk
    refine error_s (by have := P.he; lia) ?_
    refine tok_s (P.err (by lia)) hn h2 ?_
    exact kk
   ·refine cif_f rfl ?_
    rw [if_neg (fun q => h q.1)] at kk
    refine tok_s P hn h2 ?_
    exact kk
  ·have ep : a.popRuby false = a := by unfold A.popRuby; rw [if_neg (by rw [hr]; decide)]
   rw [ep] at P Q kk
   refine cif_f hr ?_
   obtain ⟨r, p, nd, e, hl, h1, hp, hs, ht⟩ := topName P Q
   unfold A.errRuby at kk
   rw [ht] at kk
   refine name_s e hl h1 hp hs ?_
   refine cif_d (P := nd.nm ≠ os "ruby") (by simp) (fun h => ?_) (fun h => ?_)
   ·skip
    refine cif_f (hj.trans hi) ?_
    refine cif_t rfl ?_
    refine cif_t rfl ?_
    rw [if_pos ⟨h, fun q => absurd q.1 (by decide)⟩] at kk
    refine error_s (by have := P.he; lia) ?_
    refine tok_s (P.err (by lia)) hn h2 ?_
    exact kk
   ·refine cif_f rfl ?_
    rw [if_neg (fun q => h q.1)] at kk
    refine tok_s P hn h2 ?_
    exact kk
end
end Mine
namespace Mine
open PySem PySem.W
theorem str_split {rec : Rec} {K : MV → St → Prop} {st : St} {s : Str} {v : MV} (h : strMeth (Str.ofString "split") s [] = some v) (k : K v st) : Yes2 (methDo rec .str st (.str s) (Str.ofString "split") []) K := by
 refine ⟨v, st, ?_, k⟩
 show ob (strMeth (Str.ofString "split") s []) _ = _
 rw [h]
 rfl
noncomputable def forW : List Str := ["xlink:actuate", "xlink:arcrole", "xlink:href", "xlink:role", "xlink:show", "xlink:title", "xlink:type", "xml:lang", "xml:space", "xmlns:xlink"].map Str.ofString
theorem forW_ok : strMeth (Str.ofString "split") (Str.ofString "xlink:actuate xlink:arcrole xlink:href xlink:role xlink:show xlink:title xlink:type" ++ Str.ofString " xml:lang xml:space xmlns:xlink") [] = some (.lst (forW.map .str)) := by kernel_rfl
theorem in_strs {K : Bool → Prop} {st : St} {x : Str} {L : List Str} (k : K (decide (x ∈ L))) : Yes (cmp st .In (.str x) (.lst (L.map .str))) K := by
 refine ⟨_, ?_, k⟩
 have e : cmp st .In (.str x) (.lst (L.map .str)) = inAtoms (.str x) (L.map .str) := rfl
 rw [e]
 unfold inAtoms
 rw [if_pos (by rw [List.all_eq_true]; intro y hy; obtain ⟨z, _, rfl⟩ := List.mem_map.mp hy; rfl)]
 exact congrArg some (any_strs x L)
noncomputable def forN (x : Str) : Str := if x ∈ forW then Txt.replace x (os ":") (os " ") else x
section
variable {n : Nat} {K : MV → St → Prop} {b : B} {d : D} {tm : List MO}
theorem foreign_s {st : St} {x : Str} (h : x.length ≤ 100) (kk : K (.str (forN x)) st) : Yes2 (C (n+1) (.fn 6 0) [.str x] st) K := by
 refine call_def (l := argL [("name", .str x)]) (by rfl) ?_
 refine Yes.mk _ (by rfl) ?_
 refine str_split forW_ok ?_
 refine in_strs (x := x) (L := forW) ?_
 unfold forN at kk
 refine cIf.mk (fun e => ?_) (fun e => ?_)
 ·rw [if_pos (of_decide_eq_true e)] at kk
  refine Yes.mk (.str (Txt.replace x (os ":") (os " "))) ?_ kk
  show (if _ then _ else _) = _
  rw [if_pos (le_lim (by lia))]
 ·rw [if_neg (of_decide_eq_false e)] at kk
  exact kk
noncomputable def dKeys : Expr → List (Option Expr)
 | .Dict ks _ _ => ks
 | _ => []
noncomputable def dVals : Expr → List Expr
 | .Dict _ vs _ => vs
 | _ => []
noncomputable def aVal : Stmt → Expr
 | .Assign _ e _ => e
 | _ => .Constant .none 0 ⟨0, 0, 0, 0⟩
noncomputable def svgE : List (Str × MV) := (constPairs (dKeys (aVal (sAt (fnB 2 0) 0))) (dVals (aVal (sAt (fnB 2 0) 0)))).getD []
noncomputable def svgRows : List (Str × MV) := updK (updK [] (svgE.take 17)) (updK [] (svgE.drop 17))
theorem dict_long {T : Tab} {pol : Pol} {rec : Rec} {ks : List (Option Expr)} {vs : List Expr} {p : Pos} {sc : Scope} {loc : Loc} {st : St} {es : List (Str × MV)} {K : MV → St → Prop} (h1 : 17 < ks.length ∧ ks.length ≤ 32) (h : constPairs ks vs = some es)
  (k : Yes2 (layDict pol p (updK (updK [] (es.take 17)) (updK [] (es.drop 17))) st) K) : Yes2 (evE T pol rec (.Dict ks vs p) sc loc st) K := by
 show Yes2 (if _ then _ else if _ then ob (constPairs ks vs) _ else _) K
 rw [if_neg (by lia), if_pos h1, h]
 exact k
theorem tm_dalloc {p : Pos} {es : List (Str × MV)} (hp : thePol p (W b d tm) = some (.tm tm.length)) (k : K (.ref (.tm tm.length)) (W b d (tm ++ [.dict es]))) : Yes2 (layDict thePol p es (W b d tm)) K := by
 refine ⟨_, _, ?_, k⟩
 unfold layDict
 rw [hp]
 show giv _ (St.alloc _ _ _) = _
 have e1 : (W b d tm).get (.tm tm.length) = none := by
  rw [gW_tm, List.getElem?_eq_none (Nat.le_refl _)]
 unfold St.alloc
 rw [e1]
 show giv _ (pl (putL tm tm.length (.dict es)) fun l => { W b d tm with tm := l }) = _
 unfold putL
 rw [if_neg (by lia), if_pos rfl]
 rfl
theorem kind_tmd {K : Me → Prop} {es : List (Str × MV)} {x : Str} (h : x = "get" ∨ x = "update") (k : K .dict) : Yes (methKind theTab (W b d (tm ++ [.dict es])) (.ref (.tm tm.length)) x) K := by
 refine ⟨_, ?_, k⟩
 unfold methKind
 dsimp only
 rw [tm_get]
 exact if_pos h
theorem d_get {rec : Rec} {st : St} {a : Ad} {es : List (Str × MV)} {x : Str} {v : MV} {r : MV} (hg : st.get a = some (.dict es)) (hr : (getK x es).getD v = r) (k : K r st) : Yes2 (methDo rec .dict st (.ref a) (Str.ofString "get") [.str x, v]) K := by
 refine ⟨_, _, ?_, k⟩
 show atDict (st.get a) _ = _
 rw [hg]
 show dictMeth st a es _ _ = _
 exact (if_pos rfl).trans (congrArg (fun v => some (v, st)) hr)
theorem svgw_s {x : Str} {s : Str} {ws : List Str} (h1 : getK x svgRows = some (.str s)) (h2 : strMeth (Str.ofString "split") s [] = some (.lst (ws.map .str))) (kk : K (.lst (ws.map .str)) (W b d (tm ++ [.dict svgRows]))) : Yes2 (C (n+1) (.fn 2 0) [.str x] (W b d tm)) K := by
 refine call_def (l := argL [("first", .str x)]) (by rfl) ?_
 refine dict_long (es := svgE) (by decide) (by rfl) ?_
 refine tm_dalloc (es := svgRows) (by rfl) ?_
 refine kind_tmd (.inl rfl) ?_
 refine d_get tm_get (by rw [h1]) ?_
 refine str_split h2 ?_
 exact kk
end
section
variable {n : Nat} {K : MV → St → Prop} {b : B} {d : D} {tm : List MO}
structure SvgKey (x y : Str) : Prop where
 mk :: ex : ∃ w t, ∃ ws : List Str, (∀ st, cutOf st (.str x) none (some 1) = some (.str w)) ∧ getK w svgRows = some (.str t) ∧ strMeth (Str.ofString "split") t [] = some (.lst (ws.map .str)) ∧ ∀ n st, callN theTab thePol (n+1) (.fn 3 0) [.lst (ws.map .str), .str x] st = some (.str y, st)
theorem svgattr_s {x y : Str} (h : SvgKey x y) (kk : K (.str y) (W b d (tm ++ [.dict svgRows]))) : Yes2 (C (n+2) (.fn 4 0) [.str x] (W b d tm)) K := by
 obtain ⟨w, t, ws, h0, h1, h2, h3⟩ := h.ex
 refine call_def (l := argL [("name", .str x)]) (by rfl) ?_
 refine Yes.mk (.str w) (h0 _) ?_
 refine svgw_s h1 h2 ?_
 refine Yes2.mk (.str y) _ (by unfold C; exact h3 n _) ?_
 exact kk
theorem svgk0 : SvgKey (os "n") (os "n") := ⟨⟨os "n", os "numOctaves", [os "numOctaves"], fun _ => by kernel_rfl, by kernel_rfl, by kernel_rfl, fun _ _ => by kernel_rfl⟩⟩
theorem svgk1 : SvgKey (os "type") (os "type") := ⟨⟨os "t", os "tableValues targetX targetY textLength", [os "tableValues", os "targetX", os "targetY", os "textLength"], fun _ => by kernel_rfl, by kernel_rfl, by kernel_rfl, fun _ _ => by kernel_rfl⟩⟩
theorem svgk2 : SvgKey (os "viewbox") (os "viewBox") := ⟨⟨os "v", os "viewBox viewTarget", [os "viewBox", os "viewTarget"], fun _ => by kernel_rfl, by kernel_rfl, by kernel_rfl, fun _ _ => by kernel_rfl⟩⟩
theorem svgk3 : SvgKey (os "definitionurl") (os "definitionurl") := ⟨⟨os "d", os "diffuseConstant", [os "diffuseConstant"], fun _ => by kernel_rfl, by kernel_rfl, by kernel_rfl, fun _ _ => by kernel_rfl⟩⟩
theorem svgk4 : SvgKey (os "xlink:href") (os "xlink:href") := ⟨⟨os "x", os "xChannelSelector", [os "xChannelSelector"], fun _ => by kernel_rfl, by kernel_rfl, by kernel_rfl, fun _ _ => by kernel_rfl⟩⟩
theorem tmG {i : Nat} {x : MO} (h : tm[i]? = some x) : (W b d tm).get (.tm i) = some x := h
theorem tmP {i : Nat} {vs : List MV} (h : i < tm.length) : (W b d tm).put (.tm i) (.list vs) = some (W b d (tm.set i (.list vs))) := by
 show (pl (putL tm i (.list vs)) fun l => { W b d tm with tm := l }) = _
 unfold putL
 rw [if_pos h]
 rfl
theorem kindG {K : Me → Prop} {i : Nat} {vs : List MV} {x : Str} (hg : tm[i]? = some (.list vs)) (h : x = "append" ∨ x = "pop" ∨ x = "remove" ∨ x = "insert") (k : K .list) : Yes (methKind theTab (W b d tm) (.ref (.tm i)) x) K := by
 refine ⟨_, ?_, k⟩
 show (match (W b d tm).get (.tm i) with | some (.inst c _) => _ | some (.list _) => _ | some (.dict _) => _ | none => _) = _
 rw [tmG hg]
 show (if _ then _ else _) = _
 rw [if_pos h]
noncomputable def keys5 : List Str := ["n", "type", "viewbox", "definitionurl", "xlink:href"].map Str.ofString
noncomputable def adjN (sp x : Str) : Str := if sp = os "svg" then (if x = os "viewbox" then os "viewBox" else if x = os "xlink:href" then os "xlink href" else x) else if sp = os "math" then (if x = os "definitionurl" then os "definitionURL" else if x = os "xlink:href" then os "xlink href" else x) else x
noncomputable def adjL (sp : Str) (att : List (Str × Str)) : List (Str × Str) := att.map fun p => (adjN sp p.1, p.2)
theorem svg_keys {x : Str} (h : x ∈ keys5) : ∃ y, SvgKey x y ∧ forN y = adjN (os "svg") x ∧ y.length ≤ 100 := by
 unfold keys5 at h
 simp only [List.map_cons, List.map_nil, List.mem_cons, List.mem_nil_iff, or_false] at h
 rcases h with rfl | rfl | rfl | rfl | rfl
 ·exact ⟨_, svgk0, by decide +kernel, by decide +kernel⟩
 ·exact ⟨_, svgk1, by decide +kernel, by decide +kernel⟩
 ·exact ⟨_, svgk2, by decide +kernel, by decide +kernel⟩
 ·exact ⟨_, svgk3, by decide +kernel, by decide +kernel⟩
 ·exact ⟨_, svgk4, by decide +kernel, by decide +kernel⟩
noncomputable def mathN (x : Str) : Str := if x = os "definitionurl" then os "definitionURL" else x
theorem mathattr_s {x : Str} {st : St} (kk : K (.str (mathN x)) st) : Yes2 (C (n+1) (.fn 5 0) [.str x] st) K := by
 refine call_def (l := argL [("name", .str x)]) (by rfl) ?_
 unfold mathN at kk
 refine cif_d (P := x = os "definitionurl") rfl (fun h => ?_) (fun h => ?_)
 ·rw [if_pos h] at kk; exact kk
 ·rw [if_neg h] at kk; exact kk
theorem math_keys {x : Str} (h : x ∈ keys5) : forN (mathN x) = adjN (os "math") x ∧ (mathN x).length ≤ 100 := by
 unfold keys5 at h
 simp only [List.map_cons, List.map_nil, List.mem_cons, List.mem_nil_iff, or_false] at h
 rcases h with rfl | rfl | rfl | rfl | rfl
 all_goals exact ⟨by decide +kernel, by decide +kernel⟩
theorem adj_loop {sp : Str} (hsp : sp = os "svg" ∨ sp = os "math") {t : MV} {i : Nat} {K : Fl → Loc → St → Prop} : ∀ (r done : List (Str × Str)) (T : List MO) (loc : Loc),
  (loc = argL [("attrs", t), ("space", .str sp), ("pairs", .ref (.tm i))] ∨ ∃ x y, loc = argL [("attrs", t), ("space", .str sp), ("pairs", .ref (.tm i)), ("name", x), ("value", y)]) → (∀ p ∈ r, p.1 ∈ keys5) → done.length + r.length ≤ 900 →
  T[i]? = some (.list (done.map pairV)) →
  (∀ T' l', (l' = argL [("attrs", t), ("space", .str sp), ("pairs", .ref (.tm i))] ∨ ∃ x y, l' = argL [("attrs", t), ("space", .str sp), ("pairs", .ref (.tm i)), ("name", x), ("value", y)]) → T'[i]? = some (.list ((done ++ adjL sp r).map pairV)) → K .next l' (W b d T')) →
  Yes3 (forItems (stepOf theTab thePol (C (n+2)) (fT (sAt (fnB 7 0) 1)) (wB (sAt (fnB 7 0) 1)) (fnS 7 0)) (r.map pairV) loc (W b d T)) K
 | [], done, T, loc, hl, _, _, hT, kk => for_nil (kk T loc hl (by rw [hT]; simp [adjL]))
 | p :: r, done, T, loc, hl, hr, hn, hT, kk => by
  refine for_cons ?_
  have hi := nth_lt hT
  have hp := hr p (.head _)
  have hd : (done.map pairV).length ≤ lim := by rw [List.length_map]; simp at hn; exact le_lim (by lia)
  have nxt : ∀ (T : List MO) (x y : MV), T[i]? = some (.list (done.map pairV)) → i < T.length → Yes3 (forItems (stepOf theTab thePol (C (n+2)) (fT (sAt (fnB 7 0) 1)) (wB (sAt (fnB 7 0) 1)) (fnS 7 0)) (r.map pairV) (argL [("attrs", t), ("space", .str sp), ("pairs", .ref (.tm i)), ("name", x), ("value", y)]) (W b d (T.set i (.list (done.map pairV ++ [pairV (adjN sp p.1, p.2)]))))) K := by
   intro T x y _ hiT
   rw [map_one]
   refine adj_loop hsp r (done ++ [(adjN sp p.1, p.2)]) _ _ (.inr ⟨x, y, rfl⟩) (fun q h => hr q (.tail _ h)) (by simp at hn ⊢; lia) (by simp [hiT]) ?_
   intro T' l' hl' hT'
   refine kk T' l' hl' ?_
   rw [hT', List.append_assoc]
   rfl
  rcases hsp with rfl | rfl
  ·obtain ⟨y, h1, h2, h3⟩ := svg_keys hp
   have hT2 : (T ++ [MO.dict svgRows])[i]? = some (.list (done.map pairV)) := by rw [List.getElem?_append_left hi]; exact hT
   rcases hl with rfl | ⟨x', y', rfl⟩
   all_goals
    refine cif_t rfl ?_
    refine kindG hT (.inl rfl) ?_
    refine svgattr_s h1 ?_
    refine foreign_s h3 ?_
    rw [h2]
    refine l_append (tmG hT2) hd (tmP (nth_lt hT2)) ?_
    exact nxt _ (.str p.1) (.str p.2) hT2 (nth_lt hT2)
  ·obtain ⟨h2, h3⟩ := math_keys hp
   rcases hl with rfl | ⟨x', y', rfl⟩
   all_goals
    refine cif_f rfl ?_
    refine cif_t rfl ?_
    refine kindG hT (.inl rfl) ?_
    refine mathattr_s ?_
    refine foreign_s h3 ?_
    rw [h2]
    refine l_append (tmG hT) hd (tmP hi) ?_
    exact nxt _ (.str p.1) (.str p.2) hT hi
theorem adjusted_s {sp : Str} (hsp : sp = os "svg" ∨ sp = os "math") {att : List (Str × Str)} (hk : ∀ p ∈ att, p.1 ∈ keys5) (hl : att.length ≤ 800) (kk : ∀ tm', K (.tup ((adjL sp att).map pairV)) (W b d tm')) :
  Yes2 (C (n+3) (.fn 7 0) [.tup (att.map pairV), .str sp] (W b d tm)) K := by
 refine call_def (l := argL [("attrs", .tup (att.map pairV)), ("space", .str sp)]) (by rfl) ?_
 refine tm_alloc (by rfl) ?_
 refine for_fixed (vs := att.map pairV) rfl ?_
 refine adj_loop (i := tm.length) hsp att [] (tm ++ [.list []]) _ (.inl rfl) hk (by simp; lia) (by simp) ?_
 intro T' l' hl' hT'
 have hT : T'[tm.length]? = some (.list ((adjL sp att).map pairV)) := hT'
 have hv : ∀ {K : MV → Prop}, K (.tup ((adjL sp att).map pairV)) → Yes (builtin (W b d T') "tuple" [.ref (.tm tm.length)]) K := by
  intro K k
  refine ⟨_, ?_, k⟩
  show atList ((W b d T').get (.tm tm.length)) _ = _
  rw [tmG hT]
  exact if_pos (by rw [List.length_map]; unfold adjL; rw [List.length_map]; exact le_lim (by lia))
 rcases hl' with rfl | ⟨x, y, rfl⟩
 ·refine hv ?_
  exact kk _
 ·refine hv ?_
  exact kk _
end
end Mine
namespace Mine
open PySem PySem.W
noncomputable def A.vds (a : A) (sp nm : Str) (att : List (Str × Str)) : A := (a.sN (putN a.N sp nm att (topOf a.o))).sack true
section
variable {n m : Nat} {K : MV → St → Prop} {a : A} {d : D} {tm : List MO} {nm : Str} {att : List (Str × Str)} {sc : Bool}
theorem sforn_s {sp : Str} (hsp : sp = os "svg" ∨ sp = os "math") (H : Bd m a) (hm : m < 880) (hk : ∀ p ∈ att, p.1 ∈ keys5) (h2 : att.length ≤ 800)
  (kk : ∀ tm', K .none (U (if sc then a.recon.vds sp sp (adjL sp att) else a.recon.el sp sp (adjL sp att)) d tm')) :
  Yes2 (C (n+6) (.fn 43 0) [.ref .builder, tokV sp att sc] (U a d tm)) K := by
 have G := H.recon (by lia)
 have hn : sp ≠ os "template" := by rcases hsp with rfl | rfl <;> simp [ofString_inj]
 refine call_def (l := argL [("builder", .ref .builder), ("token", tokV sp att sc)]) (by rfl) ?_
 refine tok1 ?_
 refine recon_s H (by lia) ?_
 intro tm1
 refine tok2 ?_
 refine adjusted_s hsp hk h2 ?_
 intro tm2
 refine el_s G (by rfl) (.inl rfl) hn (by unfold adjL; rw [List.length_map]; lia) ?_
 intro tm3
 refine tok3 ?_
 cases sc with
 | false => refine cif_f rfl ?_; exact kk _
 | true =>
  refine cif_t rfl ?_
  refine pop_s (r := a.recon.o) rfl (lt_lim (by have := G.ho; have := G.hm; lia)) ?_
  refine set_ack ?_
  exact kk _
theorem tvalue_loop {K : Fl → Loc → St → Prop} {x : Str} {w : MV} {st : St} (k1 : ∀ s l, K (.ret (.str s)) l st) (k2 : ∀ l, K .next l st) : ∀ (r : List (Str × Str)) (loc : Loc), (loc = argL [("self", .ref .tree), ("node", w), ("name", .str x)] ∨ ∃ y, loc = argL [("self", .ref .tree), ("node", w), ("name", .str x), ("pair", y)]) →
  Yes3 (forItems (stepOf theTab thePol (C n) (fT (sAt (fnB 53 13) 0)) (wB (sAt (fnB 53 13) 0)) (fnS 53 13)) (r.map pairV) loc st) K
 | [], loc, _ => for_nil (k2 _)
 | p :: r, loc, hl => by
  refine for_cons ?_
  rcases hl with rfl | ⟨y, rfl⟩
  all_goals
   refine Yes.mk (.str p.1) rfl ?_
   refine cIf.mk (fun _ => ?_) (fun _ => ?_)
   ·refine Yes.mk (.str p.2) rfl ?_
    exact k1 _ _
   ·exact tvalue_loop k1 k2 r _ (.inr ⟨pairV p, rfl⟩)
theorem tvalue_s {x : Str} {k : Nat} {nd : Nd} (hx : a.N[k]? = some nd) (hk : k ≤ 1000) (k1 : ∀ s, K (.str s) (U a d tm)) (k2 : K .none (U a d tm)) : Yes2 (C (n+1) (.fn 53 13) [.ref .tree, nv k, .str x] (U a d tm)) K := by
 refine call_def (l := argL [("self", .ref .tree), ("node", nv k), ("name", .str x)]) (by rfl) ?_
 refine r_att rfl hx (le_lim hk) ?_
 refine for_fixed (vs := nd.att.map pairV) rfl ?_
 exact tvalue_loop (fun s _ => k1 s) (fun _ => k2) nd.att _ (.inl rfl)
theorem alike_loop {K : Fl → Loc → St → Prop} {x y : Nat} {ny : Nd} (hy : a.N[y]? = some ny) (hk : y ≤ 1000) (k1 : ∀ l, K (.ret (.bool false)) l (U a d tm)) (k2 : ∀ l, K .next l (U a d tm)) : ∀ (r : List (Str × Str)) (loc : Loc), (loc = argL [("tree", .ref .tree), ("a", nv x), ("b", nv y)] ∨ ∃ z, loc = argL [("tree", .ref .tree), ("a", nv x), ("b", nv y), ("pair", z)]) →
  Yes3 (forItems (stepOf theTab thePol (C (n+1)) (fT (sAt (fnB 51 0) 2)) (wB (sAt (fnB 51 0) 2)) (fnS 51 0)) (r.map pairV) loc (U a d tm)) K
 | [], loc, _ => for_nil (k2 _)
 | p :: r, loc, hl => by
  refine for_cons ?_
  rcases hl with rfl | ⟨z, rfl⟩
  all_goals
   refine Yes.mk (.str p.1) rfl ?_
   refine tvalue_s hy hk (fun s => ?_) ?_
   ·refine Yes.mk (.str p.2) rfl ?_
    refine cIf.mk (fun _ => ?_) (fun _ => ?_)
    ·exact k1 _
    ·exact alike_loop hy hk k1 k2 r _ (.inr ⟨pairV p, rfl⟩)
   ·refine Yes.mk (.str p.2) rfl ?_
    refine cif_t rfl ?_
    exact k1 _
theorem alike_s {x y : Nat} {nx ny : Nd} (H : Bd m a) (hx : a.N[x]? = some nx) (hy : a.N[y]? = some ny) (kk : ∀ c, K (.bool c) (U a d tm)) : Yes2 (C (n+2) (.fn 51 0) [.ref .tree, nv x, nv y] (U a d tm)) K := by
 have hN := H.hN
 have hm := H.hm
 have h1 := nth_lt hx
 have h2 := nth_lt hy
 have hxl : x ≤ lim := le_lim (by lia)
 have hyl : y ≤ lim := le_lim (by lia)
 have ax := H.ta _ (List.mem_of_getElem? hx)
 have ay := H.ta _ (List.mem_of_getElem? hy)
 refine call_def (l := argL [("tree", .ref .tree), ("a", nv x), ("b", nv y)]) (by rfl) ?_
 refine r_nm rfl hx hxl ?_
 refine r_nm rfl hy hyl ?_
 refine cIf.mk (fun _ => ?_) (fun _ => ?_)
 ·refine cif_t rfl ?_
  exact kk _
 refine r_sp rfl hx hxl ?_
 refine r_sp rfl hy hyl ?_
 refine cIf.mk (fun _ => ?_) (fun _ => ?_)
 ·refine cif_t rfl ?_
  exact kk _
 refine cif_f rfl ?_
 refine r_att rfl hx hxl ?_
 refine v_len (by rw [List.length_map]; exact le_lim (by lia)) ?_
 refine r_att rfl hy hyl ?_
 refine v_len (by rw [List.length_map]; exact le_lim (by lia)) ?_
 refine cIf.mk (fun _ => ?_) (fun _ => ?_)
 ·exact kk _
 refine r_att rfl hx hxl ?_
 refine for_fixed (vs := nx.att.map pairV) rfl ?_
 exact alike_loop hy (by lia) (fun _ => kk _) (fun _ => kk _) nx.att _ (.inl rfl)
theorem fpush_s {y : Nat} {ny : Nd} (H : Bd m a) (hf : a.f.length ≤ 1) (hy : a.N[y]? = some ny) (kk : K .none (U (a.sf (a.f ++ [y])) d tm)) : Yes2 (C (n+3) (.fn 50 2) [.ref .fmt, nv y] (U a d tm)) K := by
 refine call_def (l := argL [("self", .ref .fmt), ("node", nv y)]) (by rfl) ?_
 have hfb := H.fb
 have pu : ∀ {rec : Rec} {K : MV → St → Prop}, K .none (U (a.sf (a.f ++ [y])) d tm) → Yes2 (methDo rec .list (U a d tm) (.ref .fitems) (Str.ofString "append") [nv y]) K := fun k => f_push (le_lim (by lia)) k
 match hfe : a.f, hf, hfb with
 | [], _, _ =>
  refine f_len' (j := 0) (by rw [hfe]; rfl) (by lia) ?_
  refine Yes.mk _ (by rfl) ?_
  refine for_fixed (vs := []) (by rfl) ?_
  refine for_nil ?_
  refine cif_f rfl ?_
  refine pu ?_
  exact kk
 | [x], _, hfb =>
  obtain ⟨nx, hnx, _, _⟩ := hfb x (.head _)
  have hxn := nth_lt hnx
  refine f_len' (j := 1) (by rw [hfe]; rfl) (by lia) ?_
  refine Yes.mk _ (by rfl) ?_
  refine for_fixed (vs := [.int 0]) (by rfl) ?_
  refine for_cons ?_
  refine f_at (j := 0) (k := x) rfl (by rw [hfe]; rfl) (by decide) ?_
  refine cif_f (by simp <;> lia) ?_
  refine f_at (j := 0) (k := x) rfl (by rw [hfe]; rfl) (by decide) ?_
  refine alike_s H hnx hy ?_
  intro c
  cases c with
  | true =>
   refine cif_t rfl ?_
   refine for_nil ?_
   refine cif_f rfl ?_
   refine pu ?_
   exact kk
  | false =>
   refine cif_f rfl ?_
   refine for_nil ?_
   refine cif_f rfl ?_
   refine pu ?_
   exact kk
 | _ :: _ :: _, h, _ => exact absurd h (by simp)
end
end Mine
namespace Mine
open PySem PySem.W
noncomputable def modes8 : List Str := ["in body", "in table", "in caption", "in table body", "in row", "in cell", "in template", "in column group"].map Str.ofString
theorem rules_ok {x : Str} (h : x ∈ modes8) : getK x rulesF = some (.fn 63 0) := by
 unfold modes8 at h
 simp only [List.map_cons, List.map_nil, List.mem_cons, List.mem_nil_iff, or_false] at h
 rcases h with rfl | rfl | rfl | rfl | rfl | rfl | rfl | rfl
 all_goals rfl
noncomputable def misN : List Str := ["caption", "col", "colgroup", "frame", "head", "tbody", "td", "tfoot", "th", "thead", "tr"].map Str.ofString
noncomputable def rbN : List Str := ["rb", "rtc", "rp", "rt"].map Str.ofString
noncomputable def liN : List Str := ["li", "object", "p", "table"].map Str.ofString
noncomputable def vdN : List Str := ["area", "br", "embed", "img", "keygen", "wbr"].map Str.ofString
noncomputable def rwN : List Str := ["iframe", "noembed", "noscript"].map Str.ofString
noncomputable def opN : List Str := ["optgroup", "option"].map Str.ofString
noncomputable def fgN : List Str := ["math", "svg"].map Str.ofString
noncomputable def A.step (a : A) (nm : Str) (att : List (Str × Str)) (sc : Bool) : A :=
 if nm ∈ misN then a.err (os "unexpected-start-tag")
 else if nm ∈ rbN then a.ruby nm att (decide (nm ∈ [os "rp", os "rt"]))
 else if nm ∈ liN then a.el (os "html") nm att
 else if nm ∈ vdN then (a.recon.vd nm att).sok false
 else if nm = os "input" then (if hid att then a.recon.vd nm att else (a.recon.vd nm att).sok false)
 else if nm = os "image" then ((a.err (os "unexpected-start-tag")).recon.vd (os "img") att).sok false
 else if nm = os "textarea" then ((a.raw nm att (os "RCDATA")).sskip true).sok false
 else if nm ∈ rwN then (if nm = os "iframe" then a.sok false else a).raw nm att (os "RAWTEXT")
 else if nm = os "select" then a.sel att nm
 else if nm ∈ opN then a.popOpt.recon.el (os "html") nm att
 else if nm ∈ fgN then (if sc then a.recon.vds nm nm (adjL nm att) else a.recon.el nm nm (adjL nm att))
 else if nm = os "b" then (a.recon.el (os "html") nm att).sf (a.recon.f ++ [a.recon.N.length]) else a.recon.el (os "html") nm att
noncomputable def A.fed (a : A) (nm : Str) (att : List (Str × Str)) (sc : Bool) : A :=
 let b := ((a.sskip false).sack false).step nm att sc
 if sc = true ∧ b.ack = false then b.err (os "non-void-html-element-start-tag-with-trailing-solidus") else b
noncomputable def tokE : MV := .tup [sv "end", sv "x", .tup [], .bool false]
noncomputable def A.fedE (a : A) : A := if 2 < a.o.length then ((a.sskip false).sack false).so a.o.dropLast else (a.sskip false).sack false
section
variable {n m : Nat} {K : MV → St → Prop} {a : A} {d : D} {tm : List MO} {nm : Str} {att : List (Str × Str)} {sc : Bool} {t : MV}
theorem isfor_s (H : Bd m a) (G : Hs a) (kk : K (.bool false) (U a d tm)) : Yes2 (C (n+3) (.fn 56 8) [.ref .builder] (U a d tm)) K := by
 obtain ⟨r, p, nd, e, hl, h1, hp, hs, _⟩ := topName H G
 refine call_def (l := argL [("self", .ref .builder)]) (by rfl) ?_
 have adj : ∀ {K : MV → St → Prop}, K (nv p) (U a d tm) → Yes2 (C (n+2) (.fn 56 7) [.ref .builder] (U a d tm)) K := by
  intro K k
  obtain ⟨q, hq⟩ := H.o1
  refine call_def (l := argL [("self", .ref .builder)]) (by rfl) ?_
  refine many_s (le_lim (by have := H.ho; have := H.hm; lia)) ?_
  refine cif_f (by rw [hq]; simp <;> lia) ?_
  refine cif_f rfl ?_
  refine cur_s e hl ?_
  exact k
 refine adj ?_
 refine cif_t (by simp <;> lia) ?_
 refine r_sp rfl h1 hp ?_
 rw [hs]
 exact kk
theorem turn_s {tv : List MV} (H : Bd m a) (G : Hs a) (kk : K (.bool true) (U a d tm)) : Yes2 (C (n+4) (.fn 57 0) [.ref .builder, .tup tv] (U a d tm)) K := by
 refine call_def (l := argL [("builder", .ref .builder), ("token", .tup tv)]) (by rfl) ?_
 refine isfor_s H G ?_
 refine cif_t rfl ?_
 refine cif_t rfl ?_
 exact kk
theorem use_s (hm : a.mode ∈ modes8) (kk : Yes2 (C n (.fn 63 0) [.ref .builder, t] (U a d tm)) fun _ st => K .none st) : Yes2 (C (n+1) (.fn 56 4) [.ref .builder, .str a.mode, t] (U a d tm)) K := by
 refine call_def (l := argL [("self", .ref .builder), ("name", .str a.mode), ("token", t)]) (by rfl) ?_
 have h := rules_ok hm
 refine Yes.mk false (by show (ob (some (getK a.mode rulesF).isSome) fun r => some (!r)) = _; rw [h]; rfl) ?_
 refine cif_f rfl ?_
 refine Yes.mk (.fn 63 0) h ?_
 exact kk
theorem process_s {tv : List MV} (H : Bd m a) (G : Hs a) (hm : a.mode ∈ modes8) (kk : Yes2 (C (n+3) (.fn 63 0) [.ref .builder, .tup tv] (U a d tm)) fun _ st => K .none st) : Yes2 (C (n+5) (.fn 56 5) [.ref .builder, .tup tv] (U a d tm)) K := by
 refine call_def (l := argL [("self", .ref .builder), ("token", .tup tv)]) (by rfl) ?_
 refine turn_s H G ?_
 refine cif_t rfl ?_
 refine use_s hm ?_
 exact kk
theorem mis_s {st : St} (kk : K (.bool (decide (nm ∈ misN))) st) : Yes2 (C (n+1) (.fn 45 0) [.str nm] st) K := by
 refine call_def (l := argL [("name", .str nm)]) (by rfl) ?_
 show K (.bool ((misN.map MV.str).any fun y => eqAtom y (.str nm) == some true)) st
 rw [any_strs]
 exact kk
structure TokOk (nm : Str) (att : List (Str × Str)) : Prop where
 hn : nm ≠ os "template"
 h2 : att.length ≤ 800
 ht : ∀ t, typeOf att = some t → t ∈ types4
 hk : ∀ p ∈ att, p.1 ∈ keys5
theorem bodyvd_s (H : Bd m a) (hm : m < 880) (T : TokOk nm att) (h1 : nm ∉ misN) (h3 : nm ∉ rbN) (h4 : nm ∉ liN) (h5 : nm ∈ vdN) (kk : ∀ tm', K .none (U ((a.recon.vd nm att).sok false) d tm')) :
  Yes2 (C (n+8) (.fn 63 0) [.ref .builder, tokV nm att sc] (U a d tm)) K := by
 refine call_def (l := argL [("builder", .ref .builder), ("token", tokV nm att sc)]) (by rfl) ?_
 refine tok1 ?_
 refine tok0 ?_
 refine cif_f rfl ?_
 refine mis_s ?_
 refine cif_f (decide_eq_false h1) ?_
 refine cif_d (P := nm ∈ rbN) (any_strs nm rbN) (fun h => absurd h h3) (fun _ => ?_)
 refine cif_d (P := nm ∈ liN) (any_strs nm liN) (fun h => absurd h h4) (fun _ => ?_)
 refine cif_d (P := nm ∈ vdN) (any_strs nm vdN) (fun _ => ?_) (fun h => absurd h5 h)
 refine svoid_s H hm T.hn T.h2 ?_
 exact kk
theorem Hs.err {w : Str} (G : Hs a) : Hs (a.err w) := ⟨G.opn, G.h1, G.h2⟩
theorem simage_s (H : Bd m a) (G : Hs a) (hm : m < 870) (hmo : a.mode ∈ modes8) (T : TokOk (os "img") att) (kk : ∀ tm', K .none (U (((a.err (os "unexpected-start-tag")).recon.vd (os "img") att).sok false) d tm')) :
  Yes2 (C (n+11) (.fn 37 0) [.ref .builder, tokV nm att sc] (U a d tm)) K := by
 refine call_def (l := argL [("builder", .ref .builder), ("token", tokV nm att sc)]) (by rfl) ?_
 refine error_s (by have := H.he; lia) ?_
 refine tok2 ?_
 refine tok3 ?_
 refine process_s (H.err (by lia)) G.err hmo ?_
 refine bodyvd_s (nm := os "img") (H.err (by lia)) (by lia) T (by simp [misN, ofString_inj]) (by simp [rbN, ofString_inj]) (by simp [liN, ofString_inj]) (by simp [vdN, ofString_inj]) ?_
 exact kk
theorem img_ok (T : TokOk nm att) : TokOk (os "img") att := ⟨by simp [ofString_inj], T.h2, T.ht, T.hk⟩
theorem body_s (H : Bd m a) (G : Hs a) (hm : m < 860) (hmo : a.mode ∈ modes8) (T : TokOk nm att) (hf : nm = os "b" → a.recon.f.length ≤ 1) (kk : ∀ tm', K .none (U (a.step nm att sc) d tm')) :
  Yes2 (C (n+12) (.fn 63 0) [.ref .builder, tokV nm att sc] (U a d tm)) K := by
 refine call_def (l := argL [("builder", .ref .builder), ("token", tokV nm att sc)]) (by rfl) ?_
 unfold A.step at kk
 refine tok1 ?_
 refine tok0 ?_
 refine cif_f rfl ?_
 refine mis_s ?_
 refine cif_d (P := nm ∈ misN) rfl (fun h => ?_) (fun h => ?_)
 ·rw [if_pos h] at kk
  refine error_s (by have := H.he; lia) ?_
  exact kk _
 rw [if_neg h] at kk
 refine cif_d (P := nm ∈ rbN) (any_strs nm rbN) (fun h => ?_) (fun h => ?_)
 ·rw [if_pos h] at kk
  refine sruby_s rfl H G (by lia) T.hn T.h2 ?_
  exact kk
 rw [if_neg h] at kk
 refine cif_d (P := nm ∈ liN) (any_strs nm liN) (fun h => ?_) (fun h => ?_)
 ·rw [if_pos h] at kk
  refine tok2 ?_
  refine el_s H (by rfl) (.inl rfl) T.hn (by have := T.h2; lia) ?_
  exact kk
 rw [if_neg h] at kk
 refine cif_d (P := nm ∈ vdN) (any_strs nm vdN) (fun h => ?_) (fun h => ?_)
 ·rw [if_pos h] at kk
  refine svoid_s H (by lia) T.hn T.h2 ?_
  exact kk
 rw [if_neg h] at kk
 refine cif_d (P := nm = os "input") rfl (fun h => ?_) (fun h => ?_)
 ·rw [if_pos h] at kk
  refine sinput_s H (by lia) T.hn T.h2 T.ht ?_
  exact kk
 rw [if_neg h] at kk
 refine cif_d (P := nm = os "image") rfl (fun h => ?_) (fun h => ?_)
 ·rw [if_pos h] at kk
  refine simage_s H G (by lia) hmo (img_ok T) ?_
  exact kk
 rw [if_neg h] at kk
 refine cif_d (P := nm = os "textarea") rfl (fun h => ?_) (fun h => ?_)
 ·rw [if_pos h] at kk
  refine starea_s H T.hn T.h2 ?_
  exact kk
 rw [if_neg h] at kk
 refine cif_d (P := nm ∈ rwN) (any_strs nm rwN) (fun h => ?_) (fun h => ?_)
 ·rw [if_pos h] at kk
  refine srawp_s H T.hn T.h2 ?_
  exact kk
 rw [if_neg h] at kk
 refine cif_d (P := nm = os "select") rfl (fun h => ?_) (fun h => ?_)
 ·rw [if_pos h] at kk
  refine ssel_s H (by lia) T.hn T.h2 ?_
  exact kk
 rw [if_neg h] at kk
 refine cif_d (P := nm ∈ opN) (any_strs nm opN) (fun h => ?_) (fun h => ?_)
 ·rw [if_pos h] at kk
  refine sopt_s H G (by lia) T.hn T.h2 ?_
  exact kk
 rw [if_neg h] at kk
 refine cif_d (P := nm ∈ fgN) (any_strs nm fgN) (fun h => ?_) (fun h => ?_)
 ·rw [if_pos h] at kk
  have hsp : nm = os "svg" ∨ nm = os "math" := by
   simp only [fgN, List.map_cons, List.map_nil, List.mem_cons, List.mem_nil_iff, or_false] at h
   exact h.symm
  refine sforn_s hsp H (by lia) T.hk T.h2 ?_
  exact kk
 rw [if_neg h] at kk
 refine sany_s H (by lia) T.hn T.h2 ?_
 intro tm1
 refine cif_d (P := nm = os "b") rfl (fun h => ?_) (fun h => ?_)
 ·rw [if_pos h] at kk
  have R := H.recon (by lia)
  obtain ⟨r, p, e, hp, hr⟩ := R.top
  have E := R.ins (sp := os "html") (nm := nm) (p := topOf a.recon.o) (by lia) (by rw [top_eq e]; exact hp) T.h2
  refine cur_s (a := a.recon.el (os "html") nm att) (r := a.recon.o) rfl (lt_lim (by have := R.ho; have := R.hm; lia)) ?_
  refine fpush_s (a := a.recon.el (os "html") nm att) E (hf h) putN_new ?_
  exact kk _
 ·rw [if_neg h] at kk
  exact kk _
theorem skip_id (h : a.skip = false) : a.sskip false = a := by
 unfold A.sskip
 rw [← h]
theorem Bd.sskip (H : Bd m a) : Bd m ((a.sskip false).sack false) := ⟨H.hm, H.hN, H.h0, H.ho, H.oN, H.o1, H.od, H.hf, H.fb, H.he, H.wt, H.kd, H.ta⟩
theorem Hs.sskip (G : Hs a) : Hs ((a.sskip false).sack false) := ⟨G.opn, G.h1, G.h2⟩
end
end Mine
namespace Mine
open PySem PySem.W
section
variable {n m : Nat} {K : MV → St → Prop} {a : A} {d : D} {tm : List MO} {nm : Str} {att : List (Str × Str)} {sc : Bool} {t : MV}
theorem feed_s (H : Bd m a) (G : Hs a) (hm : m < 860) (hmo : a.mode ∈ modes8) (T : TokOk nm att) (hf : nm = os "b" → ((a.sskip false).sack false).recon.f.length ≤ 1) (he : (((a.sskip false).sack false).step nm att sc).e.length ≤ 900)
  (kk : ∀ tm', K .none (U (a.fed nm att sc) d tm')) : Yes2 (C (n+15) (.fn 56 6) [.ref .builder, tokV nm att sc] (U a d tm)) K := by
 refine call_def (l := argL [("self", .ref .builder), ("token", tokV nm att sc)]) (by rfl) ?_
 refine cif_f rfl ?_
 unfold A.fed at kk
 refine cIf.mk (fun e => ?_) (fun e => ?_)
 ·refine set_skip ?_
  refine tok0 ?_
  refine cif_f rfl ?_
  refine cif_f rfl ?_
  refine set_ack ?_
  refine process_s H.sskip G.sskip hmo ?_
  refine body_s H.sskip G.sskip hm hmo T hf ?_
  intro tm1
  refine tok0 ?_
  refine cif_t rfl ?_
  refine tok3 ?_
  generalize ((a.sskip false).sack false).step nm att sc = b at kk he
  cases sc with
  | false =>
   refine cif_f rfl ?_
   refine cif_f rfl ?_
   have := kk tm1
   rw [if_neg (fun q => by cases q.1)] at this
   exact this
  | true =>
   refine cif_t rfl ?_
   refine cIf.mk (fun e => ?_) (fun e => ?_)
   ·refine cif_t rfl ?_
    refine error_s he ?_
    have := kk tm1
    rw [if_pos ⟨rfl, by simpa using e⟩] at this
    exact this
   ·refine cif_f rfl ?_
    have := kk tm1
    rw [if_neg (fun q => by rw [show (!b.ack) = true by rw [q.2]; rfl] at e; cases e)] at this
    exact this
 ·have e0 : a.sskip false = a := skip_id e
  have H1 := H.sskip
  have G1 := G.sskip
  rw [e0] at kk he hf H1 G1
  refine set_ack ?_
  refine process_s H1 G1 hmo ?_
  refine body_s H1 G1 hm hmo T hf ?_
  intro tm1
  refine tok0 ?_
  refine cif_t rfl ?_
  refine tok3 ?_
  generalize (a.sack false).step nm att sc = b at kk he
  cases sc with
  | false =>
   refine cif_f rfl ?_
   refine cif_f rfl ?_
   have := kk tm1
   rw [if_neg (fun q => by cases q.1)] at this
   exact this
  | true =>
   refine cif_t rfl ?_
   refine cIf.mk (fun e => ?_) (fun e => ?_)
   ·refine cif_t rfl ?_
    refine error_s he ?_
    have := kk tm1
    rw [if_pos ⟨rfl, by simpa using e⟩] at this
    exact this
   ·refine cif_f rfl ?_
    have := kk tm1
    rw [if_neg (fun q => by rw [show (!b.ack) = true by rw [q.2]; rfl] at e; cases e)] at this
    exact this
theorem bodyE_s (H : Bd m a) (kk : K .none (U (if 2 < a.o.length then a.so a.o.dropLast else a) d tm)) : Yes2 (C (n+3) (.fn 63 0) [.ref .builder, tokE] (U a d tm)) K := by
 obtain ⟨r, p, e, hp, hr⟩ := H.top
 have ho : a.o.length ≤ lim := le_lim (by have := H.ho; have := H.hm; lia)
 refine call_def (l := argL [("builder", .ref .builder), ("token", tokE)]) (by rfl) ?_
 refine Yes.mk _ rfl ?_
 refine Yes.mk _ rfl ?_
 refine cif_t rfl ?_
 refine many_s ho ?_
 refine cif_d (P := 2 < a.o.length) (by simp <;> lia) (fun h => ?_) (fun h => ?_)
 ·rw [if_pos h] at kk
  refine pop_s e (lt_lim (by lia)) ?_
  rw [show r = a.o.dropLast by rw [e]; simp]
  exact kk
 ·rw [if_neg h] at kk
  exact kk
theorem feedE_s (H : Bd m a) (G : Hs a) (hmo : a.mode ∈ modes8) (kk : K .none (U a.fedE d tm)) : Yes2 (C (n+15) (.fn 56 6) [.ref .builder, tokE] (U a d tm)) K := by
 refine call_def (l := argL [("self", .ref .builder), ("token", tokE)]) (by rfl) ?_
 refine cif_f rfl ?_
 unfold A.fedE at kk
 refine cIf.mk (fun e => ?_) (fun e => ?_)
 ·refine set_skip ?_
  refine Yes.mk _ rfl ?_
  refine cif_f rfl ?_
  refine cif_f rfl ?_
  refine set_ack ?_
  refine process_s H.sskip G.sskip hmo ?_
  refine bodyE_s H.sskip ?_
  refine Yes.mk _ rfl ?_
  refine cif_f rfl ?_
  refine cif_f rfl ?_
  exact kk
 ·have e0 : a.sskip false = a := skip_id e
  have H1 := H.sskip
  have G1 := G.sskip
  rw [e0] at kk H1 G1
  refine set_ack ?_
  refine process_s H1 G1 hmo ?_
  refine bodyE_s H1 ?_
  refine Yes.mk _ rfl ?_
  refine cif_f rfl ?_
  refine cif_f rfl ?_
  exact kk
end
end Mine
namespace Mine
open PySem PySem.W
noncomputable abbrev Y (b : B) (a : A) (x : List (Str × MV)) (tm : List MO) : St := W b (toDx a x) tm
theorem comp_turnC {T : Tab} {pol : Pol} {rec : Rec} {elt tgt : Expr} {ifs : List Expr} {sc' : Scope} {loc : Loc} {x : MV} {xs : List MV} {st : St} {K : List MV → St → Prop}
  (h : cStep T pol rec elt tgt ifs sc' loc x st fun r st => Yes2 (compItems (compStepC T pol rec elt tgt ifs sc' loc) xs st) fun rs st => K (addO r rs) st) :
  Yes2 (compItems (compStepC T pol rec elt tgt ifs sc' loc) (x :: xs) st) K := comp_cons (cStep_yes h)
theorem v_sub {K : MV → Prop} {st : St} {vs : List MV} {v : MV} {i : Int} {k : Nat} (hi : i = k) (hx : vs[k]? = some v) (hk : k ≤ lim) (kk : K v) : Yes (subOf st (.lst vs) (.int i)) K := by
 subst hi
 refine ⟨v, ?_, kk⟩
 show pick vs k = _
 unfold pick
 rw [if_pos (by simpa using hk), if_pos (by lia)]
 simpa using hx
theorem v_last {K : MV → Prop} {st : St} {vs : List MV} {v : MV} (kk : K v) : Yes (subOf st (.lst (vs ++ [v])) (.int (-1))) K := by
 refine ⟨v, ?_, kk⟩
 show pick (vs ++ [v]) (-1) = _
 unfold pick
 rw [if_pos (by decide), if_neg (by decide), if_pos (by simp <;> lia)]
 have : ((-1 : Int) + ((vs ++ [v]).length : Nat)).toNat = vs.length := by simp; lia
 rw [this]; simp
theorem bin_lst {K : MV → Prop} {xs ys : List MV} (h : (xs ++ ys).length ≤ lim) (k : K (.lst (xs ++ ys))) : Yes (binop .Add (.lst xs) (.lst ys)) K := ⟨_, if_pos h, k⟩
theorem lay_lst {K : MV → St → Prop} {st : St} {p : Pos} {vs : List MV} (hp : thePol p st = none) (k : K (.lst vs) st) : Yes2 (layList thePol p vs st) K := ⟨_, _, by unfold layList; rw [hp], k⟩
theorem o_last {K : MV → Prop} {st : St} {o r : List Nat} {p : Nat} (e : o = r ++ [p]) (kk : K (nv p)) : Yes (subOf st (.lst (o.map nv)) (.int (-1))) K := by
 rw [e, ← map_one]
 exact v_last kk
theorem dnV_get : ∀ (N : List Nd) (i k : Nat) (x : Nd), N[k]? = some x → (dnV i N)[k]? = some (.tup [.str x.sp, .str x.nm, atV x.att, .int x.par, .ref (.dc (i + k))])
 | [], _, _, _, h => by simp at h
 | y :: r, i, 0, x, h => by
  simp only [List.getElem?_cons_zero, Option.some.injEq] at h
  subst h; rfl
 | y :: r, i, k + 1, x, h => by
  have := dnV_get r (i + 1) k x (by simpa using h)
  rw [show i + 1 + k = i + (k + 1) by lia] at this
  simpa [dnV] using this
theorem dnV_len : ∀ (N : List Nd) (i : Nat), (dnV i N).length = N.length
 | [], _ => rfl
 | _ :: r, i => by simp [dnV, dnV_len r]
theorem dnV_app : ∀ (N : List Nd) (x : Nd) (i : Nat), dnV i (N ++ [x]) = dnV i N ++ [.tup [.str x.sp, .str x.nm, atV x.att, .int x.par, .ref (.dc (i + N.length))]]
 | [], x, i => rfl
 | y :: r, x, i => by
  show _ :: dnV (i + 1) (r ++ [x]) = _ :: (dnV (i + 1) r ++ _)
  rw [dnV_app r x (i + 1)]
  simp only [List.length_cons]
  rw [show i + 1 + r.length = i + (r.length + 1) by lia]
theorem dnV_set {x y : Nd} (h1 : y.sp = x.sp) (h2 : y.nm = x.nm) (h3 : y.att = x.att) (h4 : y.par = x.par) : ∀ (N : List Nd) (i k : Nat), N[k]? = some x → dnV i (N.set k y) = dnV i N
 | [], _, _, h => by simp at h
 | z :: r, i, 0, h => by
  simp only [List.getElem?_cons_zero, Option.some.injEq] at h
  subst h
  show _ :: dnV (i+1) r = _ :: dnV (i+1) r
  rw [h1, h2, h3, h4]
 | z :: r, i, k + 1, h => by
  show _ :: dnV (i+1) (r.set k y) = _
  rw [dnV_set h1 h2 h3 h4 r (i + 1) k (by simpa using h)]
  rfl
section
variable {rec : Rec} {b : B} {a : A} {x : List (Str × MV)} {tm : List MO}
theorem set_open {K : St → Prop} {l : List Nat} (hx : x.length ≤ 10) (k : K (Y b (a.so l) x tm)) : Yes (setSubOf (Y b a x tm) (.ref .due) (.str (Str.ofString "open")) (.lst (l.map nv))) K := by
 refine ⟨_, ?_, k⟩
 show (if (toDx a x).due.length ≤ lim then _ else _) = _
 rw [if_pos (by show x.length + 1 + 1 + 1 + 1 ≤ lim; exact le_lim (by lia))]
 rfl
theorem dn_at {K : MV → Prop} {i : Int} {k : Nat} {nd : Nd} (hi : i = k) (hx : a.N[k]? = some nd) (hk : k ≤ lim) (kk : K (.tup [.str nd.sp, .str nd.nm, atV nd.att, .int nd.par, .ref (.dc k)])) : Yes (subOf (Y b a x tm) (.ref .dnodes) (.int i)) K :=
 l_sub (vs := dnV 0 a.N) rfl hi (by rw [dnV_get a.N 0 k nd hx]; rw [Nat.zero_add]) hk kk
theorem dn_len {K : MV → Prop} (h : a.N.length ≤ lim) (kk : K (nv a.N.length)) : Yes (builtin (Y b a x tm) "len" [.ref .dnodes]) K :=
 l_len (vs := dnV 0 a.N) rfl (by rw [dnV_len]; exact h) (by rw [dnV_len]; exact kk)
theorem de_push {K : MV → St → Prop} {w y : Str} (h : a.e.length ≤ lim) (kk : K .none (Y b (a.se (a.e ++ [(w, y)])) x tm)) : Yes2 (methDo rec .list (Y b a x tm) (.ref .derrors) (Str.ofString "append") [.tup [.str w, .str y]]) K :=
 l_append (vs := a.e.map pairV) rfl (by simpa using h) (by rw [show MV.tup [.str w, .str y] = pairV (w, y) from rfl, map_one]; rfl) kk
theorem da_push {K : MV → St → Prop} {k : Nat} (h : a.f.length ≤ lim) (kk : K .none (Y b (a.sf (a.f ++ [k])) x tm)) : Yes2 (methDo rec .list (Y b a x tm) (.ref .active) (Str.ofString "append") [nv k]) K :=
 l_append (vs := a.f.map nv) rfl (by simpa using h) (by rw [map_one]; rfl) kk
theorem da_set {K : St → Prop} {i : Int} {j z : Nat} (hi : i = j) (hj : j < a.f.length) (h : a.f.length ≤ lim) (kk : K (Y b (a.sf (a.f.set j z)) x tm)) : Yes (setSubOf (Y b a x tm) (.ref .active) (.int i) (nv z)) K :=
 l_set (vs := a.f.map nv) rfl hi (by simpa using hj) (by simpa using h) (by rw [show (a.f.map nv).set j (nv z) = (a.f.set j z).map nv by simp]; rfl) kk
theorem da_at {K : MV → Prop} {i : Int} {j k : Nat} (hi : i = j) (hx : a.f[j]? = some k) (hk : j ≤ lim) (kk : K (nv k)) : Yes (subOf (Y b a x tm) (.ref .active) (.int i)) K :=
 l_sub (vs := a.f.map nv) rfl hi (by rw [List.getElem?_map, hx]; rfl) hk kk
theorem da_len {K : MV → Prop} {j : Nat} (h : a.f.length = j) (hj : j ≤ 2) (kk : K (nv j)) : Yes (builtin (Y b a x tm) "len" [.ref .active]) K :=
 l_len (vs := a.f.map nv) rfl (by rw [List.length_map, h]; exact le_lim (by lia)) (by rw [List.length_map, h]; exact kk)
theorem dc_alloc {K : MV → St → Prop} {p : Pos} (hp : thePol p (Y b a x tm) = some (.dc (dnV 0 a.N).length)) (k : K (.ref (.dc a.N.length)) (W b { toDx a x with dc := a.N.map kidsV ++ [[]] } tm)) : Yes2 (layList thePol p [] (Y b a x tm)) K := by
 refine ⟨_, _, ?_, k⟩
 unfold layList
 rw [hp, dnV_len]
 show giv _ (St.alloc _ _ _) = _
 have e1 : (Y b a x tm).get (.dc a.N.length) = none := by
  show asL (a.N.map kidsV)[a.N.length]? = none
  rw [List.getElem?_eq_none (by simp)]; rfl
 unfold St.alloc
 rw [e1]
 show giv _ (pl (putL (a.N.map kidsV) a.N.length []) fun l => { Y b a x tm with dc := l }) = _
 unfold putL
 rw [if_neg (by simp), if_pos (by simp)]
 rfl
theorem dn_app {K : MV → St → Prop} {sp nm : Str} {att : List (Str × Str)} {p : Nat} (h : a.N.length ≤ lim) (k : K .none (Y b (a.sN (a.N ++ [⟨sp, nm, att, p, []⟩])) x tm)) :
  Yes2 (methDo rec .list (W b { toDx a x with dc := a.N.map kidsV ++ [[]] } tm) (.ref .dnodes) (Str.ofString "append") [.tup [.str sp, .str nm, atV att, nv p, .ref (.dc a.N.length)]]) K := by
 refine l_append (vs := dnV 0 a.N) (st' := Y b (a.sN (a.N ++ [⟨sp, nm, att, p, []⟩])) x tm) rfl (by rw [dnV_len]; exact h) ?_ k
 have e := dnV_app a.N ⟨sp, nm, att, p, []⟩ 0
 rw [Nat.zero_add] at e
 have e2 : (a.N ++ [(⟨sp, nm, att, p, []⟩ : Nd)]).map kidsV = a.N.map kidsV ++ [[]] := by rw [List.map_append]; rfl
 show _ = some (W b (toDx (a.sN _) x) tm)
 unfold toDx A.sN
 rw [e, e2]
 rfl
theorem dc_get {k : Nat} {nd : Nd} (hx : a.N[k]? = some nd) : (Y b a x tm).get (.dc k) = some (.list (kidsV nd)) := by
 show asL (a.N.map kidsV)[k]? = _
 rw [List.getElem?_map, hx]; rfl
theorem kind_dc {K : Me → Prop} {k : Nat} {nd : Nd} {w : Str} (hx : a.N[k]? = some nd) (h : w = "append" ∨ w = "pop" ∨ w = "remove" ∨ w = "insert") (kk : K .list) : Yes (methKind theTab (Y b a x tm) (.ref (.dc k)) w) K := by
 refine ⟨_, ?_, kk⟩
 show (match (Y b a x tm).get (.dc k) with | some (.inst c _) => _ | some (.list _) => _ | some (.dict _) => _ | none => _) = _
 rw [dc_get hx]
 show (if _ then _ else _) = _
 rw [if_pos h]
theorem dc_put {k n : Nat} {nd : Nd} (hx : a.N[k]? = some nd) : (Y b a x tm).put (.dc k) (.list (kidsV nd ++ [nv n])) = some (Y b (a.sN (addK a.N k n)) x tm) := by
 show (pl (putL (a.N.map kidsV) k (kidsV nd ++ [nv n])) fun l => { Y b a x tm with dc := l }) = _
 unfold putL
 rw [if_pos (by rw [List.length_map]; exact nth_lt hx)]
 have e : addK a.N k n = a.N.set k { nd with kids := nd.kids ++ [n] } := by unfold addK; rw [hx]
 have hc : (a.N.map kidsV).set k (kidsV nd ++ [nv n]) = (a.N.set k { nd with kids := nd.kids ++ [n] }).map kidsV := by rw [set_map2]; simp [kidsV]
 have hd : dnV 0 (a.N.set k { nd with kids := nd.kids ++ [n] }) = dnV 0 a.N := dnV_set (x := nd) (y := { nd with kids := nd.kids ++ [n] }) rfl rfl rfl rfl a.N 0 k hx
 show _ = some (W b (toDx (a.sN _) x) tm)
 unfold toDx A.sN
 rw [e, hc, hd]
 rfl
end
section
variable {n m : Nat} {K : MV → St → Prop} {b : B} {a : A} {x : List (Str × MV)} {tm : List MO} {nm sp : Str} {att : List (Str × Str)}
theorem lput_s {v : MV} {args : List MV} (H : Bd m a) (hx : x.length ≤ 10) (hb : bindF 67 0 args = some (argL [("due", .ref .due), ("name", .str nm), ("attrs", v), ("space", .str sp)])) (hv : v = .tup (att.map pairV) ∨ v = .lst (att.map pairV)) (h2 : att.length ≤ 900)
  (kk : K (nv a.N.length) (Y b (a.el sp nm att) x tm)) : Yes2 (C (n+1) (.fn 67 0) args (Y b a x tm)) K := by
 obtain ⟨r, p, e, hp, hr⟩ := H.top
 have hN := H.hN
 have hm := H.hm
 have hl : a.N.length ≤ lim := le_lim (by lia)
 unfold A.el at kk
 rw [top_eq e] at kk
 refine call_def hb ?_
 refine dn_len hl ?_
 refine o_last e ?_
 have hpn := H.oN p (by rw [e]; simp)
 refine v_list hv (by rw [List.length_map]; exact le_lim (by lia)) ?_
 refine dc_alloc (by rfl) ?_
 refine dn_app hl ?_
 obtain ⟨nd, hnd⟩ : ∃ nd, a.N[p]? = some nd := ⟨_, List.getElem?_eq_getElem hpn⟩
 have hnd' : (a.sN (a.N ++ [⟨sp, nm, att, p, []⟩])).N[p]? = some nd := by
  show (a.N ++ [_])[p]? = _
  rw [List.getElem?_append_left hpn, hnd]
 have hpl : p ≤ lim := le_lim (by lia)
 refine dn_at rfl hnd' hpl ?_
 refine Yes.mk _ rfl ?_
 refine kind_dc hnd' (.inl rfl) ?_
 refine l_append (dc_get hnd') (kids_len hnd (fun x hx => Nat.le_trans (H.kd x hx) (by lia))) (dc_put hnd') ?_
 have e2 : addK (a.sN (a.N ++ [⟨sp, nm, att, p, []⟩])).N p a.N.length = putN a.N sp nm att p := addK_app hpn
 rw [e2]
 have hol : (a.o.map nv ++ [nv a.N.length]).length ≤ lim := by
  have := H.ho
  rw [List.length_append, List.length_map]; simp; exact le_lim (by lia)
 refine lay_lst (by rfl) ?_
 refine bin_lst hol ?_
 rw [map_one]
 refine set_open hx ?_
 exact kk
end
end Mine
namespace Mine
open PySem PySem.W
noncomputable def rVal : Stmt → Expr
 | .Return (some e) _ => e
 | .Assign _ e _ => e
 | .For _ e _ _ _ => e
 | _ => .Constant .none 0 ⟨0, 0, 0, 0⟩
noncomputable def cElt : Expr → Expr
 | .ListComp e _ _ _ => e
 | e => e
noncomputable def cTgt : Expr → Expr
 | .ListComp _ [⟨t, _, _, _⟩] _ _ => t
 | e => e
noncomputable def cFil : Expr → List Expr
 | .ListComp _ [⟨_, _, l, _⟩] _ _ => l
 | _ => []
noncomputable def cSco : Expr → Scope
 | .ListComp _ _ s _ => s
 | _ => ⟨.function, [], false, false, []⟩
noncomputable abbrev cs (n : Nat) (e : Expr) (loc : Loc) := compStepC theTab thePol (C n) (cElt e) (cTgt e) (cFil e) (cSco e) loc
section
variable {n m : Nat} {b : B} {a : A} {x : List (Str × MV)} {tm : List MO} {nm sp : Str} {att : List (Str × Str)}
theorem held_loop (H : Bd m a) : ∀ (r : List Nat) (_ : ∀ z ∈ r, z ∈ a.o) {K : List MV → St → Prop}, K (r.map fun z => .str (nmOf a.N z)) (Y b a x tm) →
  Yes2 (compItems (cs n (rVal (sAt (fnB 66 0) 0)) (argL [("due", .ref .due)])) (r.map nv) (Y b a x tm)) K
 | [], _, _, k => comp_nil k
 | z :: r, hr, K, k => by
  obtain ⟨nd, hnd⟩ : ∃ nd, a.N[z]? = some nd := ⟨_, List.getElem?_eq_getElem (H.oN z (hr z (.head _)))⟩
  refine comp_turnC ?_
  refine cif_t rfl ?_
  refine dn_at rfl hnd (le_lim (by have := nth_lt hnd; have := H.hN; have := H.hm; lia)) ?_
  refine Yes.mk _ rfl ?_
  refine held_loop H r (fun q h => hr q (.tail _ h)) ?_
  rw [List.map_cons, nmOf_eq hnd] at k
  exact k
theorem held_s {K : MV → St → Prop} (H : Bd m a) (k : K (.lst (a.o.map fun z => .str (nmOf a.N z))) (Y b a x tm)) : Yes2 (C (n+1) (.fn 66 0) [.ref .due] (Y b a x tm)) K := by
 refine call_def (l := argL [("due", .ref .due)]) (by rfl) ?_
 refine comp_rule ?_
 refine comp_fixed (vs := a.o.map nv) rfl ?_
 refine held_loop H a.o (fun _ h => h) ?_
 refine And.intro (by rw [List.length_map]; exact le_lim (by have := H.ho; have := H.hm; lia)) ?_
 exact k
end
theorem redo_el {a : A} {i x : Nat} {nd : Nd} (hx : a.f[i]? = some x) (h1 : a.N[x]? = some nd) : a.redo i = (a.el (os "html") (os "b") nd.att).sf (a.f.set i a.N.length) := by
 unfold A.redo A.el
 simp only [hx, h1]
theorem in_nlst {K : Bool → Prop} {st : St} {k : Nat} {o : List Nat} (kk : K (decide (k ∈ o))) : Yes (cmp st .In (nv k) (.lst (o.map nv))) K :=
 ⟨_, in_nums k o, kk⟩
section
variable {n m : Nat} {b : B} {a : A} {x : List (Str × MV)} {tm : List MO}
theorem again_s {K : MV → St → Prop} (H : Bd m a) (hm : m < 889) (hx : x.length ≤ 10) (kk : K .none (Y b a.recon x tm)) : Yes2 (C (n+2) (.fn 68 0) [.ref .due] (Y b a x tm)) K := by
 have hf := H.hf
 refine call_def (l := argL [("due", .ref .due)]) (by rfl) ?_
 refine lay_lst (by rfl) ?_
 refine comp_rule ?_
 unfold A.recon at kk
 have hfb := H.fb
 match hfe : a.f, hf, hfb with
 | [], _, _ =>
  rw [hfe] at kk
  have HL : a.f.length = 0 := by rw [hfe]; rfl
  refine da_len (j := 0) HL (by lia) ?_
  refine Yes.mk (.rng 0 0 1) (by rfl) ?_
  refine comp_fixed (vs := []) (by rfl) ?_
  refine comp_nil ?_
  refine And.intro (by decide) ?_
  refine bin_lst (by decide) ?_
  refine Yes.mk (.int 0) (by rfl) ?_
  refine da_len (j := 0) HL (by lia) ?_
  refine Yes.mk (.rng 0 0 1) (by rfl) ?_
  refine for_fixed (vs := []) (by rfl) ?_
  refine for_nil ?_
  exact kk
 | [y], _, hfb =>
  rw [hfe] at kk
  have kk : K .none (Y b (if y ∈ a.o then a else a.redo 0) x tm) := kk
  have HL : a.f.length = 1 := by rw [hfe]; rfl
  have Hx0 : a.f[0]? = some y := by rw [hfe]; rfl
  obtain ⟨ny, hny, _, _⟩ := hfb y (.head _)
  refine da_len (j := 1) HL (by lia) ?_
  refine Yes.mk (.rng 0 1 1) (by rfl) ?_
  refine comp_fixed (vs := [.int 0]) (by rfl) ?_
  by_cases hy : y ∈ a.o
  ·rw [if_pos hy] at kk
   refine comp_turnC ?_
   refine da_at (j := 0) (k := y) rfl Hx0 (by decide) ?_
   refine in_nlst ?_
   refine cif_t (by simp [hy]) ?_
   refine cif_t rfl ?_
   refine comp_nil ?_
   refine And.intro (by decide) ?_
   refine bin_lst (by decide) ?_
   refine Yes.mk (.int 1) (by rfl) ?_
   refine da_len (j := 1) HL (by lia) ?_
   refine Yes.mk (.rng 1 1 1) (by rfl) ?_
   refine for_fixed (vs := []) (by rfl) ?_
   refine for_nil ?_
   exact kk
  ·rw [if_neg hy] at kk
   refine comp_turnC ?_
   refine da_at (j := 0) (k := y) rfl Hx0 (by decide) ?_
   refine in_nlst ?_
   refine cif_f (by simp [hy]) ?_
   refine cif_f rfl ?_
   refine comp_nil ?_
   refine And.intro (by decide) ?_
   refine bin_lst (by decide) ?_
   refine Yes.mk (.int 0) (by rfl) ?_
   refine da_len (j := 1) HL (by lia) ?_
   refine Yes.mk (.rng 0 1 1) (by rfl) ?_
   refine for_fixed (vs := [.int 0]) (by rfl) ?_
   refine for_cons ?_
   refine da_at (a := a) (j := 0) (k := y) rfl Hx0 (by decide) ?_
   refine dn_at (a := a) rfl hny (le_lim (by have := nth_lt hny; have := H.hN; have := H.hm; lia)) ?_
   refine Yes.mk _ rfl ?_
   have ta0 := H.ta _ (List.mem_of_getElem? hny)
   refine lput_s H hx (by rfl) (.inr rfl) (by lia) ?_
   refine da_set (a := a.el _ _ _) (j := 0) rfl (by show 0 < a.f.length; rw [HL]; lia) (by show a.f.length ≤ _; rw [HL]; decide) ?_
   rw [show (a.el (os "html") (os "b") ny.att).sf ((a.el (os "html") (os "b") ny.att).f.set 0 a.N.length) = a.redo 0 from (redo_el Hx0 hny).symm]
   refine for_nil ?_
   exact kk
 | [y, z], _, hfb =>
  rw [hfe] at kk
  have kk : K .none (Y b (if z ∈ a.o then a else if y ∈ a.o then a.redo 1 else (a.redo 0).redo 1) x tm) := kk
  have HL : a.f.length = 2 := by rw [hfe]; rfl
  have Hx0 : a.f[0]? = some y := by rw [hfe]; rfl
  have Hx1 : a.f[1]? = some z := by rw [hfe]; rfl
  obtain ⟨ny, hny, _, _⟩ := hfb y (.head _)
  obtain ⟨nz, hnz, _, _⟩ := hfb z (.tail _ (.head _))
  refine da_len (j := 2) HL (by lia) ?_
  refine Yes.mk (.rng 0 2 1) (by rfl) ?_
  refine comp_fixed (vs := [.int 0, .int 1]) (by rfl) ?_
  by_cases hz : z ∈ a.o
  ·rw [if_pos hz] at kk
   by_cases hy : y ∈ a.o
   ·skip
    refine comp_turnC ?_
    refine da_at (j := 0) (k := y) rfl Hx0 (by decide) ?_
    refine in_nlst ?_
    refine cif_t (by simp [hy]) ?_
    refine cif_t rfl ?_
    refine comp_turnC ?_
    refine da_at (j := 1) (k := z) rfl Hx1 (by decide) ?_
    refine in_nlst ?_
    refine cif_t (by simp [hz]) ?_
    refine cif_t rfl ?_
    refine comp_nil ?_
    refine And.intro (by decide) ?_
    refine bin_lst (by decide) ?_
    refine Yes.mk (.int 2) (by rfl) ?_
    refine da_len (j := 2) HL (by lia) ?_
    refine Yes.mk (.rng 2 2 1) (by rfl) ?_
    refine for_fixed (vs := []) (by rfl) ?_
    refine for_nil ?_
    exact kk
   ·skip
    refine comp_turnC ?_
    refine da_at (j := 0) (k := y) rfl Hx0 (by decide) ?_
    refine in_nlst ?_
    refine cif_f (by simp [hy]) ?_
    refine cif_f rfl ?_
    refine comp_turnC ?_
    refine da_at (j := 1) (k := z) rfl Hx1 (by decide) ?_
    refine in_nlst ?_
    refine cif_t (by simp [hz]) ?_
    refine cif_t rfl ?_
    refine comp_nil ?_
    refine And.intro (by decide) ?_
    refine bin_lst (by decide) ?_
    refine Yes.mk (.int 2) (by rfl) ?_
    refine da_len (j := 2) HL (by lia) ?_
    refine Yes.mk (.rng 2 2 1) (by rfl) ?_
    refine for_fixed (vs := []) (by rfl) ?_
    refine for_nil ?_
    exact kk
  ·rw [if_neg hz] at kk
   by_cases hy : y ∈ a.o
   ·rw [if_pos hy] at kk
    refine comp_turnC ?_
    refine da_at (j := 0) (k := y) rfl Hx0 (by decide) ?_
    refine in_nlst ?_
    refine cif_t (by simp [hy]) ?_
    refine cif_t rfl ?_
    refine comp_turnC ?_
    refine da_at (j := 1) (k := z) rfl Hx1 (by decide) ?_
    refine in_nlst ?_
    refine cif_f (by simp [hz]) ?_
    refine cif_f rfl ?_
    refine comp_nil ?_
    refine And.intro (by decide) ?_
    refine bin_lst (by decide) ?_
    refine Yes.mk (.int 1) (by rfl) ?_
    refine da_len (j := 2) HL (by lia) ?_
    refine Yes.mk (.rng 1 2 1) (by rfl) ?_
    refine for_fixed (vs := [.int 1]) (by rfl) ?_
    refine for_cons ?_
    refine da_at (a := a) (j := 1) (k := z) rfl Hx1 (by decide) ?_
    refine dn_at (a := a) rfl hnz (le_lim (by have := nth_lt hnz; have := H.hN; have := H.hm; lia)) ?_
    refine Yes.mk _ rfl ?_
    have ta1 := H.ta _ (List.mem_of_getElem? hnz)
    refine lput_s H hx (by rfl) (.inr rfl) (by lia) ?_
    refine da_set (a := a.el _ _ _) (j := 1) rfl (by show 1 < a.f.length; rw [HL]; lia) (by show a.f.length ≤ _; rw [HL]; decide) ?_
    rw [show (a.el (os "html") (os "b") nz.att).sf ((a.el (os "html") (os "b") nz.att).f.set 1 a.N.length) = a.redo 1 from (redo_el Hx1 hnz).symm]
    refine for_nil ?_
    exact kk
   ·rw [if_neg hy] at kk
    refine comp_turnC ?_
    refine da_at (j := 0) (k := y) rfl Hx0 (by decide) ?_
    refine in_nlst ?_
    refine cif_f (by simp [hy]) ?_
    refine cif_f rfl ?_
    refine comp_turnC ?_
    refine da_at (j := 1) (k := z) rfl Hx1 (by decide) ?_
    refine in_nlst ?_
    refine cif_f (by simp [hz]) ?_
    refine cif_f rfl ?_
    refine comp_nil ?_
    refine And.intro (by decide) ?_
    refine bin_lst (by decide) ?_
    refine Yes.mk (.int 0) (by rfl) ?_
    refine da_len (j := 2) HL (by lia) ?_
    refine Yes.mk (.rng 0 2 1) (by rfl) ?_
    refine for_fixed (vs := [.int 0, .int 1]) (by rfl) ?_
    refine for_cons ?_
    refine da_at (a := a) (j := 0) (k := y) rfl Hx0 (by decide) ?_
    refine dn_at (a := a) rfl hny (le_lim (by have := nth_lt hny; have := H.hN; have := H.hm; lia)) ?_
    refine Yes.mk _ rfl ?_
    have ta0 := H.ta _ (List.mem_of_getElem? hny)
    refine lput_s H hx (by rfl) (.inr rfl) (by lia) ?_
    refine da_set (a := a.el _ _ _) (j := 0) rfl (by show 0 < a.f.length; rw [HL]; lia) (by show a.f.length ≤ _; rw [HL]; decide) ?_
    rw [show (a.el (os "html") (os "b") ny.att).sf ((a.el (os "html") (os "b") ny.att).f.set 0 a.N.length) = a.redo 0 from (redo_el Hx0 hny).symm]
    have G := (H.redo (i := 0) (by lia) (by lia)).1
    have GL := (H.redo (i := 0) (by lia) (by lia)).2.trans HL
    have Gx1 : (a.redo 0).f[1]? = some z := by rw [redo_el Hx0 hny]; show (a.f.set 0 _)[1]? = _; rw [List.getElem?_set_ne (by decide)]; exact Hx1
    obtain ⟨gz, hgz, _, _⟩ := G.fb z (List.mem_of_getElem? Gx1)
    refine for_cons ?_
    refine da_at (a := (a.redo 0)) (j := 1) (k := z) rfl Gx1 (by decide) ?_
    refine dn_at (a := (a.redo 0)) rfl hgz (le_lim (by have := nth_lt hgz; have := G.hN; have := G.hm; lia)) ?_
    refine Yes.mk _ rfl ?_
    have ta1 := G.ta _ (List.mem_of_getElem? hgz)
    refine lput_s G hx (by rfl) (.inr rfl) (by lia) ?_
    refine da_set (a := (a.redo 0).el _ _ _) (j := 1) rfl (by show 1 < (a.redo 0).f.length; rw [GL]; lia) (by show (a.redo 0).f.length ≤ _; rw [GL]; decide) ?_
    rw [show ((a.redo 0).el (os "html") (os "b") gz.att).sf (((a.redo 0).el (os "html") (os "b") gz.att).f.set 1 (a.redo 0).N.length) = (a.redo 0).redo 1 from (redo_el Gx1 hgz).symm]
    refine for_nil ?_
    exact kk
 | _ :: _ :: _ :: _, h, _ => exact absurd h (by simp)
end
end Mine
namespace Mine
open PySem PySem.W
noncomputable def svgD : List (Str × MV) := [(os "viewbox", sv "viewBox"), (os "xlink:href", sv "xlink href")]
noncomputable def mathD : List (Str × MV) := [(os "definitionurl", sv "definitionURL"), (os "xlink:href", sv "xlink href")]
theorem svgD_get (x : Str) : (getK x svgD).getD (.str x) = .str (adjN (os "svg") x) := by
 show (if os "viewbox" = x then some (sv "viewBox") else if os "xlink:href" = x then some (sv "xlink href") else none).getD (.str x) = _
 unfold adjN
 rw [if_pos rfl]
 by_cases h1 : x = os "viewbox"
 ·subst h1; rw [if_pos rfl, if_pos rfl]; rfl
 ·rw [if_neg (fun h => h1 h.symm), if_neg h1]
  by_cases h2 : x = os "xlink:href"
  ·subst h2; rw [if_pos rfl, if_pos rfl]; rfl
  ·rw [if_neg (fun h => h2 h.symm), if_neg h2]; rfl
theorem mathD_get (x : Str) : (getK x mathD).getD (.str x) = .str (adjN (os "math") x) := by
 have e : adjN (os "math") x = if x = os "definitionurl" then os "definitionURL" else if x = os "xlink:href" then os "xlink href" else x := by
  unfold adjN
  rw [if_neg (by simp [ofString_inj]), if_pos rfl]
 rw [e]
 show (if os "definitionurl" = x then some (sv "definitionURL") else if os "xlink:href" = x then some (sv "xlink href") else none).getD (.str x) = _
 by_cases h1 : x = os "definitionurl"
 ·subst h1; rw [if_pos rfl, if_pos rfl]; rfl
 ·rw [if_neg (fun h => h1 h.symm), if_neg h1]
  by_cases h2 : x = os "xlink:href"
  ·subst h2; rw [if_pos rfl, if_pos rfl]; rfl
  ·rw [if_neg (fun h => h2 h.symm), if_neg h2]; rfl
theorem htmlD_get (x : Str) : (getK x ([] : List (Str × MV))).getD (.str x) = .str (adjN (os "html") x) := by
 unfold adjN
 rw [if_neg (by simp [ofString_inj]), if_neg (by simp [ofString_inj])]
 rfl
section
variable {n m : Nat} {K : MV → St → Prop} {b : B} {d : D} {tm : List MO} {sp : Str} {att : List (Str × Str)}
theorem kindD {K : Me → Prop} {i : Nat} {es : List (Str × MV)} {x : Str} (hg : tm[i]? = some (.dict es)) (h : x = "get" ∨ x = "update") (k : K .dict) : Yes (methKind theTab (W b d tm) (.ref (.tm i)) x) K := by
 refine ⟨_, ?_, k⟩
 show (match (W b d tm).get (.tm i) with | some (.inst c _) => _ | some (.list _) => _ | some (.dict _) => _ | none => _) = _
 rw [tmG hg]
 show (if _ then _ else _) = _
 rw [if_pos h]
theorem tm_sub {K : MV → Prop} {i : Nat} {es : List (Str × MV)} {x : Str} {v : MV} (hg : tm[i]? = some (.dict es)) (h : getK x es = some v) (k : K v) : Yes (subOf (W b d tm) (.ref (.tm i)) (.str x)) K := by
 refine ⟨v, ?_, k⟩
 show atDict ((W b d tm).get (.tm i)) _ = _
 rw [tmG hg]
 exact h
theorem tm_dset {K : St → Prop} {i : Nat} {es : List (Str × MV)} {x : Str} {v : MV} (hg : tm[i]? = some (.dict es)) (h : es.length ≤ lim) (k : K (W b d (tm.set i (.dict (putK x v es))))) : Yes (setSubOf (W b d tm) (.ref (.tm i)) (.str x) v) K := by
 refine ⟨_, ?_, k⟩
 show atDict ((W b d tm).get (.tm i)) _ = _
 rw [tmG hg]
 show (if _ then _ else _) = _
 rw [if_pos h]
 show (pl (putL tm i (.dict _)) fun l => { W b d tm with tm := l }) = _
 unfold putL
 rw [if_pos (nth_lt hg)]
 rfl
theorem spell_loop {i j : Nat} {outer es : List (Str × MV)} {t : MV} (h1 : tm[i]? = some (.dict outer)) (h2 : getK sp outer = some (.ref (.tm j))) (h3 : tm[j]? = some (.dict es)) (h4 : ∀ x, (getK x es).getD (.str x) = .str (adjN sp x)) :
  ∀ (r : List (Str × Str)) {K : List MV → St → Prop}, K ((adjL sp r).map pairV) (W b d tm) →
  Yes2 (compItems (cs n (rVal (sAt (fnB 69 0) 2)) (argL [("attrs", t), ("space", .str sp), ("spelled_now", .ref (.tm i))])) (r.map pairV) (W b d tm)) K
 | [], K, k => comp_nil k
 | p :: r, K, k => by
  refine comp_turnC ?_
  refine cif_t rfl ?_
  refine tm_sub h1 h2 ?_
  refine kindD h3 (.inl rfl) ?_
  refine d_get (tmG h3) (h4 p.1) ?_
  refine spell_loop h1 h2 h3 h4 r ?_
  exact k
theorem spelled_s {v : MV} (hsp : sp = os "svg" ∨ sp = os "math" ∨ sp = os "html") (hv : v = .tup (att.map pairV)) (hl : att.length ≤ 900) (kk : ∀ tm', K (.lst ((adjL sp att).map pairV)) (W b d tm')) :
  Yes2 (C (n+1) (.fn 69 0) [v, .str sp] (W b d tm)) K := by
 subst hv
 refine call_def (l := argL [("attrs", .tup (att.map pairV)), ("space", .str sp)]) (by rfl) ?_
 refine dict_rule ?_
 refine pairs_cons ?_
 refine dict_rule ?_
 refine pairs_cons ?_
 refine pairs_cons ?_
 refine pairs_nil ?_
 refine tm_dalloc (es := svgD) (by rfl) ?_
 refine pairs_cons ?_
 refine dict_rule ?_
 refine pairs_nil ?_
 refine tm_dalloc (es := []) (by rfl) ?_
 refine pairs_nil ?_
 refine tm_dalloc (es := [(os "svg", .ref (.tm tm.length)), (os "html", .ref (.tm (tm ++ [MO.dict svgD]).length))]) (by rfl) ?_
 refine dict_rule ?_
 refine pairs_cons ?_
 refine pairs_cons ?_
 refine pairs_nil ?_
 refine tm_dalloc (es := mathD) (by rfl) ?_
 generalize hT1 : tm ++ [MO.dict svgD] = T1
 generalize hT2 : T1 ++ [MO.dict []] = T2
 generalize hT3 : T2 ++ [MO.dict [(os "svg", .ref (.tm tm.length)), (os "html", .ref (.tm T1.length))]] = T3
 have g0 : T1[tm.length]? = some (.dict svgD) := by rw [← hT1]; simp
 have g1 : T2[T1.length]? = some (.dict []) := by rw [← hT2]; simp
 have g2 : T3[T2.length]? = some (.dict [(os "svg", .ref (.tm tm.length)), (os "html", .ref (.tm T1.length))]) := by rw [← hT3]; simp
 have l1 : tm.length < T1.length := nth_lt g0
 have l2 : T1.length < T2.length := nth_lt g1
 have l3 : T2.length < T3.length := nth_lt g2
 refine tm_dset (i := T2.length) (by rw [List.getElem?_append_left l3]; exact g2) (le_lim (by simp)) ?_
 generalize hT5 : (T3 ++ [MO.dict mathD]).set T2.length _ = T5
 have f2 : T5[T2.length]? = some (.dict [(os "svg", .ref (.tm tm.length)), (os "html", .ref (.tm T1.length)), (os "math", .ref (.tm T3.length))]) := by
  rw [← hT5, List.getElem?_set_self (by simp; lia)]
  rfl
 have f0 : T5[tm.length]? = some (.dict svgD) := by
  rw [← hT5, List.getElem?_set_ne (by lia), List.getElem?_append_left (by lia), ← hT3, List.getElem?_append_left (by lia), ← hT2, List.getElem?_append_left (by lia)]
  exact g0
 have f1 : T5[T1.length]? = some (.dict []) := by
  rw [← hT5, List.getElem?_set_ne (by lia), List.getElem?_append_left (by lia), ← hT3, List.getElem?_append_left (by lia)]
  exact g1
 have f3 : T5[T3.length]? = some (.dict mathD) := by
  rw [← hT5, List.getElem?_set_ne (by lia)]
  simp
 have hal : (adjL sp att).length = att.length := by unfold adjL; rw [List.length_map]
 refine comp_rule ?_
 refine comp_fixed (vs := att.map pairV) rfl ?_
 rcases hsp with rfl | rfl | rfl
 ·refine spell_loop f2 (by rfl) f0 svgD_get att ?_
  refine And.intro (by rw [List.length_map, hal]; exact le_lim (by lia)) ?_
  exact kk _
 ·refine spell_loop f2 (by rfl) f3 mathD_get att ?_
  refine And.intro (by rw [List.length_map, hal]; exact le_lim (by lia)) ?_
  exact kk _
 ·refine spell_loop f2 (by rfl) f1 htmlD_get att ?_
  refine And.intro (by rw [List.length_map, hal]; exact le_lim (by lia)) ?_
  exact kk _
end
end Mine
namespace Mine
open PySem PySem.W
theorem more_recon (a : A) : moreA a.recon = moreA a := by
 obtain ⟨h1, h2, h3, h4, h5, h6, h7⟩ := recon_keep a
 unfold moreA
 rw [h2, h3, h4, h5, h6, h7]
section
variable {K : St → Prop} {b : B} {a : A} {tm : List MO}
theorem dset_mode {v : Str} (k : K (X b (a.smode v) tm)) : Yes (setSubOf (X b a tm) (.ref .due) (.str (Str.ofString "mode")) (.str v)) K := ⟨_, rfl, k⟩
theorem dset_ok {v : Bool} (k : K (X b (a.sok v) tm)) : Yes (setSubOf (X b a tm) (.ref .due) (.str (Str.ofString "ok")) (.bool v)) K := ⟨_, rfl, k⟩
theorem dset_ack {v : Bool} (k : K (X b (a.sack v) tm)) : Yes (setSubOf (X b a tm) (.ref .due) (.str (Str.ofString "ack")) (.bool v)) K := ⟨_, rfl, k⟩
end
noncomputable def stop3 : List Str := ["html", "object", "table"].map Str.ofString
noncomputable def fltI (P : Nat → Bool) (k : Nat) : List Nat := (List.range k).filter P
theorem fltI_succ (P : Nat → Bool) (k : Nat) : fltI P (k + 1) = fltI P k ++ (if P k then [k] else []) := by
 unfold fltI
 rw [List.range_succ, List.filter_append]
 congr 1
 cases h : P k <;> simp [h]
theorem fltI_lt {P : Nat → Bool} {k x : Nat} (h : x ∈ fltI P k) : x < k := by
 unfold fltI at h
 exact List.mem_range.mp (List.mem_filter.mp h).1
theorem topOf_mem {l : List Nat} (h : l ≠ []) : topOf l ∈ l := by
 rw [← List.dropLast_concat_getLast h, top_eq rfl]
 simp
theorem ok_stop {x : Str} (h : x ∈ okNames) : (x ∈ stopN) = (x ∈ stop3) := by
 have : ∀ x ∈ okNames, decide (x ∈ stopN) = decide (x ∈ stop3) := by decide +kernel
 exact propext (decide_eq_decide.mp (this x h))
theorem ruby_not_stop : os "ruby" ∉ stop3 := by simp [stop3, ofString_inj]
theorem rubyAt_eq {N : List Nd} {o : List Nat} (hok : ∀ x ∈ o, nmOf N x ∈ okNames) : ∀ k, 0 < k → k ≤ o.length → (nmOf N (o.getD 0 0) ∈ stop3) →
  let R := fltI (fun i => decide (nmOf N (o.getD i 0) = os "ruby")) k
  let S := fltI (fun i => decide (nmOf N (o.getD i 0) ∈ stop3)) k
  S ≠ [] ∧ (rubyAt N o k = true ↔ R ≠ [] ∧ topOf R > topOf S)
 | 0, h, _, _ => absurd h (by decide)
 | k + 1, _, hk, h0 => by
  intro R S
  have hR : R = fltI (fun i => decide (nmOf N (o.getD i 0) = os "ruby")) k ++ (if decide (nmOf N (o.getD k 0) = os "ruby") then [k] else []) := fltI_succ _ k
  have hS : S = fltI (fun i => decide (nmOf N (o.getD i 0) ∈ stop3)) k ++ (if decide (nmOf N (o.getD k 0) ∈ stop3) then [k] else []) := fltI_succ _ k
  have hin : o.getD k 0 ∈ o := by rw [List.getD_eq_getElem?_getD, List.getElem?_eq_getElem (by lia)]; simp
  have hst := ok_stop (hok _ hin)
  have ha : rubyAt N o (k + 1) = if nmOf N (o.getD k 0) = os "ruby" then true else if nmOf N (o.getD k 0) ∈ stopN then false else rubyAt N o k := rfl
  have tlt : ∀ (P : Nat → Bool), fltI P k ≠ [] → topOf (fltI P k) < k := fun P h => fltI_lt (topOf_mem h)
  by_cases c1 : nmOf N (o.getD k 0) = os "ruby"
  ·have c2 : nmOf N (o.getD k 0) ∉ stop3 := by rw [c1]; exact ruby_not_stop
   rw [decide_eq_true c1, if_pos rfl] at hR
   rw [decide_eq_false c2, if_neg (by decide), List.append_nil] at hS
   rw [ha, if_pos c1]
   have hk0 : 0 < k := by
    rcases Nat.eq_zero_or_pos k with e | e
    ·subst e; exact absurd h0 c2
    ·exact e
   have ih := (rubyAt_eq hok k hk0 (by lia) h0).1
   have ht : topOf R = k := by rw [hR]; exact top_eq rfl
   refine ⟨by rw [hS]; exact ih, ⟨fun _ => ⟨by rw [hR]; simp, ?_⟩, fun _ => rfl⟩⟩
   rw [ht, hS]
   exact tlt _ ih
  ·rw [decide_eq_false c1, if_neg (by decide), List.append_nil] at hR
   rw [ha, if_neg c1]
   by_cases c2 : nmOf N (o.getD k 0) ∈ stop3
   ·rw [decide_eq_true c2, if_pos rfl] at hS
    rw [if_pos (by rw [hst]; exact c2)]
    refine ⟨by rw [hS]; simp, ⟨fun h => by simp at h, fun h => ?_⟩⟩
    have ht : topOf S = k := by rw [hS]; exact top_eq rfl
    rw [ht, hR] at h
    have := tlt _ (by rw [hR] at *; exact h.1)
    lia
   ·rw [decide_eq_false c2, if_neg (by decide), List.append_nil] at hS
    rw [if_neg (by rw [hst]; exact c2)]
    have hk0 : 0 < k := by
     rcases Nat.eq_zero_or_pos k with e | e
     ·subst e; exact absurd h0 c2
     ·exact e
    have ih := rubyAt_eq hok k hk0 (by lia) h0
    rw [hR, hS]
    exact ih
theorem popO_take (N : List Nd) (but : Str) : ∀ (k : Nat) (o : List Nat), popO N but k o = o.take (popO N but k o).length
 | 0, o => by simp [popO]
 | k + 1, o => by
  unfold popO
  split
  ·have h := popO_take N but k o.dropLast
   have hl := (popO_sub N but k o.dropLast).1
   rw [List.length_dropLast] at hl
   conv => lhs; rw [h]
   rw [List.dropLast_eq_take, List.take_take]
   congr 1
   rw [← List.dropLast_eq_take]
   lia
  ·simp
noncomputable def due8 : List Str := ["li", "optgroup", "option", "p", "rb", "rp", "rt", "rtc"].map Str.ofString
noncomputable def fitsL (i : Bool) : List Str := if i then [os "ruby", os "rtc"] else [os "ruby"]
theorem ok_pop {x : Str} {i : Bool} (h : x ∈ okNames) : (x ∈ implN ∧ x ≠ (if i then os "rtc" else Str.empty)) ↔ (x ∈ due8 ∧ x ∉ fitsL i) := by
 have : ∀ x ∈ okNames, ∀ i : Bool, decide (x ∈ implN ∧ x ≠ (if i then os "rtc" else Str.empty)) = decide (x ∈ due8 ∧ x ∉ fitsL i) := by decide +kernel
 exact decide_eq_decide.mp (this x h i)
end Mine
namespace Mine
open PySem PySem.W
noncomputable abbrev nmsV (N : List Nd) (o : List Nat) : MV := .lst (o.map fun z => .str (nmOf N z))
noncomputable def bindV (l : Loc) (x : String) (v : MV) : Loc := setL (Str.ofString x) v l
section
variable {n m : Nat} {b : B} {a : A} {x : List (Str × MV)} {tm : List MO} {nm sp : Str} {att : List (Str × Str)} {sc : Bool}
theorem nms_at {K : MV → Prop} {st : St} {N : List Nd} {o : List Nat} {k : Nat} (hk : k < o.length) (hl : k ≤ lim) (kk : K (.str (nmOf N (o.getD k 0)))) : Yes (subOf st (nmsV N o) (.int k)) K :=
 v_sub rfl (by rw [List.getElem?_map, List.getElem?_eq_getElem hk]; rw [List.getD_eq_getElem?_getD, List.getElem?_eq_getElem hk] ; rfl) hl kk
theorem rub_loop {st : St} {N : List Nd} {o : List Nat} {t f : MV} (ho : o.length ≤ 900) : ∀ (q k : Nat) (_ : k + q = o.length) {K : List MV → St → Prop}, K (((List.range' k q).filter fun i => decide (nmOf N (o.getD i 0) = os "ruby")).map nv) st →
  Yes2 (compItems (cs n (rVal (sAt (fnB 70 0) 2)) (argL [("due", .ref .due), ("token", t), ("fits", f), ("held", nmsV N o)])) (rangeUp q (k : Int) 1) st) K
 | 0, k, _, K, kk => comp_nil kk
 | q + 1, k, h, K, kk => by
  have e : ((k : Int) + 1) = ((k + 1 : Nat) : Int) := by lia
  show Yes2 (compItems _ (.int k :: rangeUp q ((k : Int) + 1) 1) _) _
  rw [e]
  rw [List.range'_succ, List.filter_cons] at kk
  refine comp_turnC ?_
  refine nms_at (by lia) (le_lim (by lia)) ?_
  refine cif_d (P := nmOf N (o.getD k 0) = os "ruby") rfl (fun hp => ?_) (fun hp => ?_)
  ·refine cif_t rfl ?_
   rw [if_pos (decide_eq_true hp)] at kk
   refine rub_loop ho q (k + 1) (by lia) ?_
   exact kk
  ·refine cif_f rfl ?_
   rw [if_neg (by simpa using hp)] at kk
   refine rub_loop ho q (k + 1) (by lia) ?_
   exact kk
theorem stp_loop {st : St} {N : List Nd} {o : List Nat} {t f r : MV} (ho : o.length ≤ 900) : ∀ (q k : Nat) (_ : k + q = o.length) {K : List MV → St → Prop}, K (((List.range' k q).filter fun i => decide (nmOf N (o.getD i 0) ∈ stop3)).map nv) st →
  Yes2 (compItems (cs n (rVal (sAt (fnB 70 0) 3)) (argL [("due", .ref .due), ("token", t), ("fits", f), ("held", nmsV N o), ("rubies", r)])) (rangeUp q (k : Int) 1) st) K
 | 0, k, _, K, kk => comp_nil kk
 | q + 1, k, h, K, kk => by
  have e : ((k : Int) + 1) = ((k + 1 : Nat) : Int) := by lia
  show Yes2 (compItems _ (.int k :: rangeUp q ((k : Int) + 1) 1) _) _
  rw [e]
  rw [List.range'_succ, List.filter_cons] at kk
  refine comp_turnC ?_
  refine nms_at (by lia) (le_lim (by lia)) ?_
  refine cif_d (P := nmOf N (o.getD k 0) ∈ stop3) (any_strs _ stop3) (fun hp => ?_) (fun hp => ?_)
  ·refine cif_t rfl ?_
   rw [if_pos (decide_eq_true hp)] at kk
   refine stp_loop ho q (k + 1) (by lia) ?_
   exact kk
  ·refine cif_f rfl ?_
   rw [if_neg (by simpa using hp)] at kk
   refine stp_loop ho q (k + 1) (by lia) ?_
   exact kk
theorem ne_nil {K : Bool → Prop} {st : St} {l : List Nat} (kk : K (decide (l ≠ []))) : Yes (cmp st .NotEq (.lst (l.map nv)) (.lst [])) K := by
 refine ⟨_, ?_, kk⟩
 cases l with
 | nil => rfl
 | cons x r =>
  show ob (eqV 6 st (.lst (nv x :: r.map nv)) (.lst [])) (fun r => some (!r)) = _
  have : eqV 6 st (.lst (nv x :: r.map nv)) (.lst []) = some false := by
   show (if (nv x :: r.map nv).length = ([] : List MV).length then eqV.eqs (eqV 5 st) (nv x :: r.map nv) [] else some false) = _
   rw [if_neg (by simp)]
  rw [this]
  simp [ob]
theorem cut_last {K : MV → Prop} {st : St} {vs : List MV} (h : vs.length ≤ lim) (kk : K (.lst vs.dropLast)) : Yes (cutOf st (.lst vs) none (some (-1))) K := by
 refine ⟨_, ?_, kk⟩
 show (if vs.length ≤ lim then some (MV.lst (cut vs none (some (-1)))) else _) = _
 rw [if_pos h]
 show some (MV.lst (vs.take (clipAt vs.length (-((1 : Nat) : Int))))) = _
 rw [clipAt_neg _ _ (Nat.le_refl 1), ← List.dropLast_eq_take]
theorem cut_take {K : MV → Prop} {st : St} {vs : List MV} {k : Nat} (h : vs.length ≤ lim) (kk : K (.lst (vs.take k))) : Yes (cutOf st (.lst vs) none (some (k : Int))) K := by
 refine ⟨_, ?_, kk⟩
 show (if vs.length ≤ lim then some (MV.lst (cut vs none (some (k : Int)))) else _) = _
 rw [if_pos h]
 show some (MV.lst (vs.take (clipAt vs.length (k : Int)))) = _
 rw [clipAt_nat, ← List.take_take, List.take_length]
theorem nms_last {K : MV → Prop} {st : St} {N : List Nd} {o r : List Nat} {p : Nat} (e : o = r ++ [p]) (kk : K (.str (nmOf N (topOf o)))) : Yes (subOf st (nmsV N o) (.int (-1))) K := by
 rw [top_eq e] at kk
 subst e
 show Yes (subOf st (.lst ((r ++ [p]).map _)) _) K
 rw [List.map_append]
 exact v_last kk
theorem in_lst {K : Bool → Prop} {st : St} {y : Str} {L : List Str} {c : Bool} (hc : c = decide (y ∉ L)) (k : K c) : Yes (cmp st .NotIn (.str y) (.lst (L.map .str))) K := by
 refine ⟨c, ?_, k⟩
 show ob (inAtoms (.str y) (L.map .str)) (fun r => some (!r)) = _
 unfold inAtoms
 rw [if_pos (by rw [List.all_eq_true]; intro y hy; obtain ⟨z, _, rfl⟩ := List.mem_map.mp hy; rfl), any_strs, hc]
 simp [ob]
theorem range_fix {k : Nat} (h : k ≤ 900) : fixedItems (.rng 0 (k : Int) 1) = some (rangeUp k 0 1) := by
 show (if _ then some (rangeItems _ _ _) else none) = _
 rw [if_pos (by lia)]
 unfold rangeItems rangeLen
 rw [if_pos rfl]
 congr 2 <;> lia
theorem rng_s {K : MV → Prop} {st : St} {k : Nat} (h : k ≤ 900) (kk : K (.rng 0 (k : Int) 1)) : Yes (builtin st "range" [nv k]) K := by
 refine ⟨_, ?_, kk⟩
 show mkRng _ _ _ = _
 unfold mkRng
 rw [if_pos (by lia)]
noncomputable abbrev rbLoc (t : MV) (f : MV) (h : MV) (r s : MV) : Loc := argL [("due", .ref .due), ("token", t), ("fits", f), ("held", h), ("rubies", r), ("stops", s)]
theorem nms_dl (N : List Nd) (o : List Nat) : (o.map fun z => MV.str (nmOf N z)).dropLast = o.dropLast.map fun z => MV.str (nmOf N z) := by
 rw [List.map_dropLast]
theorem fits_loop (G : Hs a) (ho : a.o.length ≤ 890) (hN : a.N.length ≤ 890) {i : Bool} {t r s : MV} {st : St} {K : Fl → Loc → St → Prop} (kk : K .next (rbLoc t (.lst ((fitsL i).map .str)) (nmsV a.N (popO a.N (if i then os "rtc" else Str.empty) a.o.length a.o)) r s) st) :
  ∀ (k : Nat) (o q : List Nat), o = 1 :: 2 :: q → o.length = k → k ≤ a.o.length → (∀ x ∈ o, x ∈ a.o) → popO a.N (if i then os "rtc" else Str.empty) k o = popO a.N (if i then os "rtc" else Str.empty) a.o.length a.o →
  Yes3 (whileLoop (testOf theTab thePol (C n) (wT (sAt (wB (sAt (fnB 70 0) 4)) 0)) (fnS 70 0)) (bodyOf theTab thePol (C n) (wB (sAt (wB (sAt (fnB 70 0) 4)) 0)) (fnS 70 0)) (k + 1)
   (rbLoc t (.lst ((fitsL i).map .str)) (nmsV a.N o) r s) st) K
 | 0, o, q, e, hl, _, _, _ => by rw [e] at hl; simp at hl
 | k + 1, o, q, e, hl, hk, hx, ep => by
  have hne : o ≠ [] := by rw [e]; simp
  have eo := (List.dropLast_concat_getLast hne).symm
  obtain ⟨nd, h1, h2, h3⟩ := G.opn _ (hx _ (List.getLast_mem hne))
  have hg : nmOf a.N (topOf o) = nd.nm := by rw [top_eq eo]; exact nmOf_eq h1
  have ep' : (if nd.nm ∈ due8 ∧ nd.nm ∉ fitsL i then popO a.N (if i then os "rtc" else Str.empty) k o.dropLast else o) = popO a.N (if i then os "rtc" else Str.empty) a.o.length a.o := by
   rw [← ep]
   show _ = (if nmOf a.N (topOf o) ∈ implN ∧ nmOf a.N (topOf o) ≠ (if i then os "rtc" else Str.empty) then popO a.N (if i then os "rtc" else Str.empty) k o.dropLast else o)
   rw [hg]
   by_cases c : nd.nm ∈ due8 ∧ nd.nm ∉ fitsL i
   ·rw [if_pos c, if_pos ((ok_pop h3).mpr c)]
   ·rw [if_neg c, if_neg (fun h => c ((ok_pop h3).mp h))]
  refine while_turn ?_
  refine nms_last eo ?_
  rw [hg]
  refine cif_d (P := nd.nm ∈ due8) (any_strs nd.nm due8) (fun h => ?_) (fun h => ?_)
  ·refine nms_last eo ?_
   rw [hg]
   refine in_lst rfl ?_
   refine cif_d (P := nd.nm ∉ fitsL i) rfl (fun h' => ?_) (fun h' => ?_)
   ·refine cif_t rfl ?_
    rw [if_pos ⟨h, h'⟩] at ep'
    refine cut_last (by rw [List.length_map]; exact le_lim (by lia)) ?_
    rw [nms_dl]
    have hr : q ≠ [] := by
     rintro rfl
     obtain ⟨nb, hb, hbn⟩ := G.h2
     have e2 : o.getLast hne = 2 := by subst e; rfl
     rw [e2, hb] at h1
     cases h1
     rw [hbn] at h
     simp [due8, ofString_inj] at h
    refine fits_loop G ho hN kk k o.dropLast q.dropLast ?_ (by rw [List.length_dropLast]; lia) (by lia) (fun x hx' => hx x ((List.dropLast_subset _) hx')) ep'
    subst e
    cases q with
    | nil => exact absurd rfl hr
    | cons c r => rfl
   ·refine cif_f rfl ?_
    rw [if_neg (fun q => h' q.2)] at ep'
    rw [ep']
    exact kk
  ·refine cif_f rfl ?_
   rw [if_neg (fun q => h q.1)] at ep'
   rw [ep']
   exact kk
end
end Mine
namespace Mine
open PySem PySem.W
section
variable {n m : Nat} {b : B} {a : A} {x : List (Str × MV)} {tm : List MO} {nm sp : Str} {att : List (Str × Str)} {sc : Bool}
theorem nms_len {K : MV → Prop} {st : St} {N : List Nd} {o : List Nat} (h : o.length ≤ 900) (kk : K (nv o.length)) : Yes (builtin st "len" [nmsV N o]) K :=
 v_len (by rw [List.length_map]; exact le_lim (by lia)) (by rw [List.length_map]; exact kk)
theorem rubydue_s {K : MV → St → Prop} {i : Bool} (hi : decide (nm ∈ [os "rp", os "rt"]) = i) (H : Bd m a) (G : Hs a) (hm : m < 880) (h2 : att.length ≤ 800) (kk : K .none (X b (a.ruby nm att i) tm)) :
  Yes2 (C (n+2) (.fn 70 0) [.ref .due, tokV nm att sc] (X b a tm)) K := by
 have ho := H.ho
 have hN := H.hN
 obtain ⟨P, Q⟩ := popRuby_bd H G i
 obtain ⟨q0, hq0⟩ := H.o1
 have hok : ∀ x ∈ a.o, nmOf a.N x ∈ okNames := fun x hx => by obtain ⟨nd, h1, _, h3⟩ := G.opn x hx; rw [nmOf_eq h1]; exact h3
 have h0 : nmOf a.N (a.o.getD 0 0) ∈ stop3 := by
  obtain ⟨nd, h1, h3⟩ := G.h1
  rw [hq0]
  show nmOf a.N 1 ∈ stop3
  rw [nmOf_eq h1, h3]
  exact .head _
 have hRS := rubyAt_eq hok a.o.length (by rw [hq0]; simp) (Nat.le_refl _) h0
 have flt_len : ∀ P : Nat → Bool, ((fltI P a.o.length).map nv).length ≤ lim := fun P => by
  rw [List.length_map]
  have := List.length_filter_le P (List.range a.o.length)
  rw [List.length_range] at this
  exact le_lim (Nat.le_trans this (by lia))
 have hRl := flt_len (fun i => decide (nmOf a.N (a.o.getD i 0) = os "ruby"))
 have hSl := flt_len (fun i => decide (nmOf a.N (a.o.getD i 0) ∈ stop3))
 unfold A.ruby at kk
 refine call_def (l := argL [("due", .ref .due), ("token", tokV nm att sc)]) (by rfl) ?_
 refine tok1 ?_
 cases i with
 | true =>
  refine cif_t ((any_strs nm [os "rp", os "rt"]).trans hi) ?_
  refine lay_lst (by rfl) ?_
  refine held_s H ?_
  refine comp_rule ?_
  refine nms_len (N := a.N) (by lia) ?_
  refine rng_s (by lia) ?_
  refine comp_fixed (range_fix (by lia)) ?_
  refine rub_loop (t := tokV nm att sc) (f := .lst ((fitsL true).map .str)) (by lia) a.o.length 0 (by lia) ?_
  rw [← List.range_eq_range']
  refine And.intro hRl ?_
  refine comp_rule ?_
  refine nms_len (N := a.N) (by lia) ?_
  refine rng_s (by lia) ?_
  refine comp_fixed (range_fix (by lia)) ?_
  refine stp_loop (t := tokV nm att sc) (f := .lst ((fitsL true).map .str)) (r := .lst ((fltI (fun i => decide (nmOf a.N (a.o.getD i 0) = os "ruby")) a.o.length).map nv)) (by lia) a.o.length 0 (by lia) ?_
  rw [← List.range_eq_range']
  refine And.intro hSl ?_
  refine lay_lst (by rfl) ?_
  refine ne_nil (l := fltI (fun i => decide (nmOf a.N (a.o.getD i 0) = os "ruby")) a.o.length) ?_
  generalize hR : fltI (fun i => decide (nmOf a.N (a.o.getD i 0) = os "ruby")) a.o.length = R at hRS ⊢
  generalize hS : fltI (fun i => decide (nmOf a.N (a.o.getD i 0) ∈ stop3)) a.o.length = S at hRS
  rw [show List.filter (fun i => decide (nmOf a.N (a.o.getD i 0) = os "ruby")) (List.range a.o.length) = R from hR, show List.filter (fun i => decide (nmOf a.N (a.o.getD i 0) ∈ stop3)) (List.range a.o.length) = S from hS]
  obtain ⟨hS0, hRS⟩ := hRS
  have hgo : rubyAt a.N a.o a.o.length = true → a.popRuby true = a.so (popO a.N (if true then os "rtc" else Str.empty) a.o.length a.o) := fun h => by unfold A.popRuby; rw [if_pos h]
  have hno : ¬ rubyAt a.N a.o a.o.length = true → a.popRuby true = a.so a.o := fun h => by unfold A.popRuby; rw [if_neg h]; rfl
  have fin : ∀ o' : List Nat, a.popRuby true = a.so o' → o'.length ≤ 890 → o' = a.o.take o'.length → cSs theTab thePol (C (n+1)) ((fnB 70 0).drop 5) (fnS 70 0) (rbLoc (tokV nm att sc) (.lst ((fitsL true).map .str)) (nmsV a.N o') (.lst (R.map nv)) (.lst (S.map nv))) (X b a tm) fun fl _ st => retK K fl st := by
   intro o' ep hol' ho'
   rw [ep] at P Q kk
   have hol : ((o'.map fun z => MV.str (nmOf a.N z))).length ≤ lim := by rw [List.length_map]; exact le_lim (by lia)
   refine nms_len (by lia) ?_
   refine cut_take (by rw [List.length_map]; exact le_lim (by lia)) ?_
   rw [← List.map_take, ← ho']
   refine set_open (by exact Nat.le_of_ble_eq_true rfl) ?_
   obtain ⟨r, p, nd, e, hl, h1, hp, hs, ht⟩ := topName P Q
   refine nms_last e ?_
   rw [show nmOf a.N (topOf o') = nd.nm from ht]
   unfold A.errRuby at kk
   rw [ht] at kk
   refine in_lst (L := fitsL true) rfl ?_
   refine cif_d (P := nd.nm ∉ fitsL true) rfl (fun h => ?_) (fun h => ?_)
   ·refine de_push (le_lim (by have := P.he; lia)) ?_
    rw [if_pos (show nd.nm ≠ os "ruby" ∧ ¬ (true = true ∧ nd.nm = os "rtc") from ⟨fun q => h (by rw [q]; exact .head _), fun q => h (by rw [q.2]; exact .tail _ (.head _))⟩)] at kk
    refine tok1 ?_
    refine tok2 ?_
    refine lput_s (P.err (w := os "unexpected-start-tag") (by lia)) (by exact Nat.le_of_ble_eq_true rfl) (by rfl) (.inl rfl) (by lia) ?_
    exact kk
   ·rw [if_neg (show ¬ (nd.nm ≠ os "ruby" ∧ ¬ (true = true ∧ nd.nm = os "rtc")) from fun q => h (fun hm => (by simp only [fitsL, if_true, List.mem_cons, List.mem_nil_iff, or_false] at hm; rcases hm with z | z; exact q.1 z; exact q.2 ⟨rfl, z⟩)))] at kk
    refine tok1 ?_
    refine tok2 ?_
    refine lput_s P (by exact Nat.le_of_ble_eq_true rfl) (by rfl) (.inl rfl) (by lia) ?_
    exact kk
  refine cif_d (P := R ≠ []) rfl (fun h => ?_) (fun h => ?_)
  ·refine o_last (List.dropLast_concat_getLast h).symm ?_
   refine o_last (List.dropLast_concat_getLast hS0).symm ?_
   have eR : R.getLast h = topOf R := (top_eq (List.dropLast_concat_getLast h).symm).symm
   have eS : S.getLast hS0 = topOf S := (top_eq (List.dropLast_concat_getLast hS0).symm).symm
   rw [eR, eS]
   refine cif_d (P := topOf S < topOf R) (by simp) (fun h' => ?_) (fun h' => ?_)
   ·refine cif_t rfl ?_
    refine while_more (m := a.o.length + 1) (by show a.o.length + 1 ≤ 1000; lia) ?_
    refine fits_loop (i := true) G (by lia) (by lia) ?_ a.o.length a.o q0 hq0 rfl (Nat.le_refl _) (fun _ h => h) rfl
    exact fin _ (hgo (hRS.mpr ⟨h, h'⟩)) (by have := (popO_sub a.N (if true then os "rtc" else Str.empty) a.o.length a.o).1; lia) (popO_take ..)
   ·refine cif_f rfl ?_
    exact fin a.o (hno (fun q => h' (hRS.mp q).2)) (by lia) (List.take_length).symm
  ·refine cif_f rfl ?_
   exact fin a.o (hno (fun q => h (hRS.mp q).1)) (by lia) (List.take_length).symm
 | false =>
  refine cif_f ((any_strs nm [os "rp", os "rt"]).trans hi) ?_
  refine lay_lst (by rfl) ?_
  refine held_s H ?_
  refine comp_rule ?_
  refine nms_len (N := a.N) (by lia) ?_
  refine rng_s (by lia) ?_
  refine comp_fixed (range_fix (by lia)) ?_
  refine rub_loop (t := tokV nm att sc) (f := .lst ((fitsL false).map .str)) (by lia) a.o.length 0 (by lia) ?_
  rw [← List.range_eq_range']
  refine And.intro hRl ?_
  refine comp_rule ?_
  refine nms_len (N := a.N) (by lia) ?_
  refine rng_s (by lia) ?_
  refine comp_fixed (range_fix (by lia)) ?_
  refine stp_loop (t := tokV nm att sc) (f := .lst ((fitsL false).map .str)) (r := .lst ((fltI (fun i => decide (nmOf a.N (a.o.getD i 0) = os "ruby")) a.o.length).map nv)) (by lia) a.o.length 0 (by lia) ?_
  rw [← List.range_eq_range']
  refine And.intro hSl ?_
  refine lay_lst (by rfl) ?_
  refine ne_nil (l := fltI (fun i => decide (nmOf a.N (a.o.getD i 0) = os "ruby")) a.o.length) ?_
  generalize hR : fltI (fun i => decide (nmOf a.N (a.o.getD i 0) = os "ruby")) a.o.length = R at hRS ⊢
  generalize hS : fltI (fun i => decide (nmOf a.N (a.o.getD i 0) ∈ stop3)) a.o.length = S at hRS
  rw [show List.filter (fun i => decide (nmOf a.N (a.o.getD i 0) = os "ruby")) (List.range a.o.length) = R from hR, show List.filter (fun i => decide (nmOf a.N (a.o.getD i 0) ∈ stop3)) (List.range a.o.length) = S from hS]
  obtain ⟨hS0, hRS⟩ := hRS
  have hgo : rubyAt a.N a.o a.o.length = true → a.popRuby false = a.so (popO a.N (if false then os "rtc" else Str.empty) a.o.length a.o) := fun h => by unfold A.popRuby; rw [if_pos h]
  have hno : ¬ rubyAt a.N a.o a.o.length = true → a.popRuby false = a.so a.o := fun h => by unfold A.popRuby; rw [if_neg h]; rfl
  have fin : ∀ o' : List Nat, a.popRuby false = a.so o' → o'.length ≤ 890 → o' = a.o.take o'.length → cSs theTab thePol (C (n+1)) ((fnB 70 0).drop 5) (fnS 70 0) (rbLoc (tokV nm att sc) (.lst ((fitsL false).map .str)) (nmsV a.N o') (.lst (R.map nv)) (.lst (S.map nv))) (X b a tm) fun fl _ st => retK K fl st := by
   intro o' ep hol' ho'
   rw [ep] at P Q kk
   have hol : ((o'.map fun z => MV.str (nmOf a.N z))).length ≤ lim := by rw [List.length_map]; exact le_lim (by lia)
   refine nms_len (by lia) ?_
   refine cut_take (by rw [List.length_map]; exact le_lim (by lia)) ?_
   rw [← List.map_take, ← ho']
   refine set_open (by exact Nat.le_of_ble_eq_true rfl) ?_
   obtain ⟨r, p, nd, e, hl, h1, hp, hs, ht⟩ := topName P Q
   refine nms_last e ?_
   rw [show nmOf a.N (topOf o') = nd.nm from ht]
   unfold A.errRuby at kk
   rw [ht] at kk
   refine in_lst (L := fitsL false) rfl ?_
   refine cif_d (P := nd.nm ∉ fitsL false) rfl (fun h => ?_) (fun h => ?_)
   ·refine de_push (le_lim (by have := P.he; lia)) ?_
    rw [if_pos (show nd.nm ≠ os "ruby" ∧ ¬ (false = true ∧ nd.nm = os "rtc") from ⟨fun q => h (by rw [q]; exact .head _), fun q => by cases q.1⟩)] at kk
    refine tok1 ?_
    refine tok2 ?_
    refine lput_s (P.err (w := os "unexpected-start-tag") (by lia)) (by exact Nat.le_of_ble_eq_true rfl) (by rfl) (.inl rfl) (by lia) ?_
    exact kk
   ·rw [if_neg (show ¬ (nd.nm ≠ os "ruby" ∧ ¬ (false = true ∧ nd.nm = os "rtc")) from fun q => h (fun hm => (by simp only [fitsL, Bool.false_eq_true, if_false, List.mem_cons, List.mem_nil_iff, or_false] at hm; exact q.1 hm)))] at kk
    refine tok1 ?_
    refine tok2 ?_
    refine lput_s P (by exact Nat.le_of_ble_eq_true rfl) (by rfl) (.inl rfl) (by lia) ?_
    exact kk
  refine cif_d (P := R ≠ []) rfl (fun h => ?_) (fun h => ?_)
  ·refine o_last (List.dropLast_concat_getLast h).symm ?_
   refine o_last (List.dropLast_concat_getLast hS0).symm ?_
   have eR : R.getLast h = topOf R := (top_eq (List.dropLast_concat_getLast h).symm).symm
   have eS : S.getLast hS0 = topOf S := (top_eq (List.dropLast_concat_getLast hS0).symm).symm
   rw [eR, eS]
   refine cif_d (P := topOf S < topOf R) (by simp) (fun h' => ?_) (fun h' => ?_)
   ·refine cif_t rfl ?_
    refine while_more (m := a.o.length + 1) (by show a.o.length + 1 ≤ 1000; lia) ?_
    refine fits_loop (i := false) G (by lia) (by lia) ?_ a.o.length a.o q0 hq0 rfl (Nat.le_refl _) (fun _ h => h) rfl
    exact fin _ (hgo (hRS.mpr ⟨h, h'⟩)) (by have := (popO_sub a.N (if false then os "rtc" else Str.empty) a.o.length a.o).1; lia) (popO_take ..)
   ·refine cif_f rfl ?_
    exact fin a.o (hno (fun q => h' (hRS.mp q).2)) (by lia) (List.take_length).symm
  ·refine cif_f rfl ?_
   exact fin a.o (hno (fun q => h (hRS.mp q).1)) (by lia) (List.take_length).symm
end
end Mine
namespace Mine
open PySem PySem.W
noncomputable def kindsL (att : List (Str × Str)) : List Str := (att.filter fun p => decide (p.1 = os "type")).map fun p => Txt.lower p.2
theorem low_ok : ∀ t ∈ types4, (Txt.lower t).length ≤ lim := by decide +kernel
section
variable {n m : Nat} {b : B} {a : A} {x : List (Str × MV)} {tm : List MO} {nm sp : Str} {att : List (Str × Str)} {sc : Bool}
theorem again_x {K : MV → St → Prop} (H : Bd m a) (hm : m < 889) (kk : K .none (X b a.recon tm)) : Yes2 (C (n+2) (.fn 68 0) [.ref .due] (X b a tm)) K := by
 refine again_s H hm (by exact Nat.le_of_ble_eq_true rfl) ?_
 unfold X at kk
 rw [more_recon] at kk
 exact kk
theorem str_lower {rec : Rec} {K : MV → St → Prop} {st : St} {s : Str} (h : (Txt.lower s).length ≤ lim) (k : K (.str (Txt.lower s)) st) : Yes2 (methDo rec .str st (.str s) (Str.ofString "lower") []) K := by
 refine ⟨_, st, ?_, k⟩
 show ob (if (Txt.lower s).length ≤ lim then _ else _) _ = _
 rw [if_pos h]
 rfl
theorem kinds_loop {st : St} {l : Loc} (hl : compLoc (cSco (rVal (sAt (wB (sAt (fnB 71 0) 7)) 2))) l = []) : ∀ (r : List (Str × Str)) (_ : ∀ p ∈ r, p.1 = os "type" → p.2 ∈ types4) {K : List MV → St → Prop}, K ((kindsL r).map .str) st →
  Yes2 (compItems (cs n (rVal (sAt (wB (sAt (fnB 71 0) 7)) 2)) l) (r.map pairV) st) K
 | [], _, K, k => comp_nil k
 | p :: r, h, K, k => by
  refine comp_turnC ?_
  unfold cStep
  rw [hl]
  unfold kindsL at k
  rw [List.filter_cons] at k
  refine cif_d (P := p.1 = os "type") rfl (fun hp => ?_) (fun hp => ?_)
  ·refine cif_t rfl ?_
   rw [if_pos (decide_eq_true hp)] at k
   refine str_lower (low_ok _ (h p (.head _) hp)) ?_
   refine kinds_loop hl r (fun q hq => h q (.tail _ hq)) ?_
   exact k
  ·refine cif_f rfl ?_
   rw [if_neg (by simpa using hp)] at k
   refine kinds_loop hl r (fun q hq => h q (.tail _ hq)) ?_
   exact k
theorem eqs_cons {e : MV → MV → Option Bool} {x y : MV} {xs ys : List MV} (h : e x y = some true) (h2 : eqV.eqs e xs ys = some true) : eqV.eqs e (x :: xs) (y :: ys) = some true := by
 show ob (e x y) (fun p => ob (eqV.eqs e xs ys) fun q => some (p && q)) = _
 rw [h, h2]; rfl
theorem eqs_strs (st : St) (e : Nat) : ∀ (L M : List Str), eqV.eqs (eqV (e + 1) st) (L.map .str) (M.map .str) = some (decide (L = M))
 | [], [] => rfl
 | [], y :: M => congrArg some (decide_eq_false (fun h => nomatch h)).symm
 | x :: L, [] => congrArg some (decide_eq_false (fun h => nomatch h)).symm
 | x :: L, y :: M => by
  show ob (eqV (e + 1) st (.str x) (.str y)) (fun p => ob (eqV.eqs (eqV (e + 1) st) (L.map .str) (M.map .str)) fun q => some (p && q)) = _
  rw [eqs_strs st e L M]
  show some (decide (x = y) && decide (L = M)) = _
  simp [List.cons.injEq]
theorem eq_strs {K : Bool → Prop} {st : St} {L M : List Str} (k : K (decide (L = M))) : Yes (cmp st .Eq (.lst (L.map .str)) (.lst (M.map .str))) K := by
 refine ⟨_, ?_, k⟩
 show (if (L.map MV.str).length = (M.map MV.str).length then eqV.eqs (eqV 5 st) (L.map .str) (M.map .str) else some false) = _
 by_cases h : L.length = M.length
 ·rw [if_pos (by simpa using h)]; exact eqs_strs st 4 L M
 ·rw [if_neg (by simpa using h), decide_eq_false (fun e => h (by rw [e]))]
end
end Mine
namespace Mine
open PySem PySem.W
theorem adj_html (att : List (Str × Str)) : adjL (os "html") att = att := by
 have h : ∀ x, adjN (os "html") x = x := fun x => by
  unfold adjN
  rw [if_neg (by simp [ofString_inj]), if_neg (by simp [ofString_inj])]
 unfold adjL
 rw [List.map_congr_left (g := id) (fun p _ => by rw [h]; rfl), List.map_id]
theorem sok_id {a : A} {v : Bool} (h : a.ok = v) : a.sok v = a := by
 unfold A.sok
 rw [← h]
theorem bd_err2 {m : Nat} {a : A} {w : Str} (H : Bd m a) (h : m < 880) : Bd (m + 1) (a.err w) := H.err (by lia)
structure TokOk2 (att : List (Str × Str)) : Prop where
 h2 : att.length ≤ 800
 kt : ∀ p ∈ att, p.1 = os "type" → p.2 ∈ types4
 kh : decide (kindsL att = [os "hidden"]) = hid att
noncomputable def void7 : List Str := ["area", "br", "embed", "img", "input", "keygen", "wbr"].map Str.ofString
theorem vd_facts : ∀ x ∈ vdN, x ≠ os "image" ∧ x ∉ opN ∧ x ∉ fgN ∧ x ≠ os "b" ∧ x ∈ void7 ∧ x ≠ os "input" ∧ x ≠ os "select" := by decide +kernel
theorem op_facts : ∀ x ∈ opN, x ≠ os "image" ∧ x ∉ fgN ∧ x ≠ os "b" ∧ x ∉ void7 ∧ x ≠ os "select" := by decide +kernel
theorem v7 {x : Str} (h1 : x ∉ vdN) (h2 : x ≠ os "input") : x ∉ void7 := by
 intro h
 simp only [void7, List.map_cons, List.map_nil, List.mem_cons, List.mem_nil_iff, or_false] at h
 simp only [vdN, List.map_cons, List.map_nil, List.mem_cons, List.mem_nil_iff, or_false, not_or] at h1
 rcases h with h | h | h | h | h | h | h
 ·exact h1.1 h
 ·exact h1.2.1 h
 ·exact h1.2.2.1 h
 ·exact h1.2.2.2.1 h
 ·exact h2 h
 ·exact h1.2.2.2.2.1 h
 ·exact h1.2.2.2.2.2 h
theorem fg_sp {x : Str} (h : x ∈ fgN) : x = os "math" ∨ x = os "svg" := by
 simpa only [fgN, List.map_cons, List.map_nil, List.mem_cons, List.mem_nil_iff, or_false] using h
theorem mode3 : ∀ x ∈ modes8, (!decide (x ∈ [os "in body", os "in column group", os "in template"])) = decide (x ∈ tabModes) := by decide +kernel
section
variable {n m : Nat} {b : B} {a : A} {tm : List MO} {nm : Str} {att : List (Str × Str)} {sc : Bool}
theorem el_drop (R : A) (sp nm : Str) (att : List (Str × Str)) : ((R.el sp nm att).o.map nv).dropLast = R.o.map nv := by
 show ((R.o ++ [R.N.length]).map nv).dropLast = _
 simp
theorem od_void {K : MV → St → Prop} (H : Bd m a) (G : Hs a) (hm : m < 870) (T : TokOk2 att) (h : nm ∈ vdN) (kk : ∀ tm', K .none (X b ((a.recon.vd nm att).sok false) tm')) :
  Yes2 (C (n+3) (.fn 71 0) [.ref .due, tokV nm att sc] (X b a tm)) K := by
 obtain ⟨f1, f2, f3, f4, f5, f6, f7⟩ := vd_facts nm h
 refine call_def (l := argL [("due", .ref .due), ("token", tokV nm att sc)]) (by rfl) ?_
 refine tok1 ?_
 refine cif_f (decide_eq_false f1) ?_
 have P := H.mono (m' := m + 1) (by lia) (by lia)
 refine cif_f ((any_strs nm opN).trans (decide_eq_false f2)) ?_
 refine cif_f rfl ?_
 refine cif_f ((any_strs nm fgN).trans (decide_eq_false f3)) ?_
 refine again_x (a := a) P (by lia) ?_
 refine tok2 ?_
 refine spelled_s (sp := (os "html")) (.inr (.inr rfl)) rfl (by have := T.h2; lia) ?_
 intro tm1
 rw [adj_html]
 refine lput_s (a := a.recon) (nm := nm) (P.recon (by lia)) (by exact Nat.le_of_ble_eq_true rfl) (by rfl) (.inr rfl) (by have := T.h2; lia) ?_
 refine cif_f (decide_eq_false f4) ?_
 refine cif_t ((any_strs nm void7).trans (decide_eq_true f5)) ?_
 refine cif_t rfl ?_
 refine cut_last (by rw [List.length_map]; show (a.recon.o ++ [_]).length ≤ _; rw [List.length_append]; have := (P.recon (by lia)).ho; exact le_lim (by simp; lia)) ?_
 rw [el_drop]
 refine set_open (by exact Nat.le_of_ble_eq_true rfl) ?_
 refine dset_ack (a := (a.recon.el (os "html") nm att).so a.recon.o) ?_
 refine comp_rule ?_
 refine tok2 ?_
 refine comp_fixed (vs := att.map pairV) rfl ?_
 refine kinds_loop (by rfl) att T.kt ?_
 refine And.intro (by rw [List.length_map]; unfold kindsL; rw [List.length_map]; exact le_lim (Nat.le_trans (List.length_filter_le ..) (by have := T.h2; lia))) ?_
 refine cif_f rfl ?_
 refine cif_f (decide_eq_false f6) ?_
 refine dset_ok (a := ((a.recon.el (os "html") nm att).so a.recon.o).sack true) ?_
 refine cif_f (decide_eq_false f7) ?_
 exact kk _
theorem od_input {K : MV → St → Prop} (H : Bd m a) (G : Hs a) (hm : m < 870) (T : TokOk2 att) (ho : a.ok = true) (kk : ∀ tm', K .none (X b (if hid att then a.recon.vd (os "input") att else (a.recon.vd (os "input") att).sok false) tm')) :
  Yes2 (C (n+3) (.fn 71 0) [.ref .due, tokV (os "input") att sc] (X b a tm)) K := by
 refine call_def (l := argL [("due", .ref .due), ("token", tokV (os "input") att sc)]) (by rfl) ?_
 refine tok1 ?_
 refine cif_f rfl ?_
 have P := H.mono (m' := m + 1) (by lia) (by lia)
 refine cif_f rfl ?_
 refine cif_f rfl ?_
 refine cif_f rfl ?_
 refine again_x (a := a) P (by lia) ?_
 refine tok2 ?_
 refine spelled_s (sp := (os "html")) (.inr (.inr rfl)) rfl (by have := T.h2; lia) ?_
 intro tm1
 rw [adj_html]
 refine lput_s (a := a.recon) (nm := (os "input")) (P.recon (by lia)) (by exact Nat.le_of_ble_eq_true rfl) (by rfl) (.inr rfl) (by have := T.h2; lia) ?_
 refine cif_f rfl ?_
 refine cif_t rfl ?_
 refine cif_t rfl ?_
 refine cut_last (by rw [List.length_map]; show (a.recon.o ++ [_]).length ≤ _; rw [List.length_append]; have := (P.recon (by lia)).ho; exact le_lim (by simp; lia)) ?_
 rw [el_drop]
 refine set_open (by exact Nat.le_of_ble_eq_true rfl) ?_
 refine dset_ack (a := (a.recon.el (os "html") (os "input") att).so a.recon.o) ?_
 refine comp_rule ?_
 refine tok2 ?_
 refine comp_fixed (vs := att.map pairV) rfl ?_
 refine kinds_loop (by rfl) att T.kt ?_
 refine And.intro (by rw [List.length_map]; unfold kindsL; rw [List.length_map]; exact le_lim (Nat.le_trans (List.length_filter_le ..) (by have := T.h2; lia))) ?_
 refine cif_f rfl ?_
 refine cif_t rfl ?_
 refine lay_lst (by rfl) ?_
 refine eq_strs (L := kindsL att) (M := [os "hidden"]) ?_
 rw [T.kh]
 refine dset_ok (a := ((a.recon.el (os "html") (os "input") att).so a.recon.o).sack true) ?_
 refine cif_f rfl ?_
 have := kk tm1
 have hk : (a.recon.vd (os "input") att).ok = true := (recon_keep a).2.2.2.2.1.trans ho
 cases hh : hid att with
 | true => rw [hh, if_pos rfl, ← sok_id hk] at this; exact this
 | false => rw [hh, if_neg (by decide)] at this; exact this
theorem od_image {K : MV → St → Prop} (H : Bd m a) (G : Hs a) (hm : m < 870) (T : TokOk2 att) (kk : ∀ tm', K .none (X b (((a.err (os "unexpected-start-tag")).recon.vd (os "img") att).sok false) tm')) :
  Yes2 (C (n+3) (.fn 71 0) [.ref .due, tokV (os "image") att sc] (X b a tm)) K := by
 refine call_def (l := argL [("due", .ref .due), ("token", tokV (os "image") att sc)]) (by rfl) ?_
 refine tok1 ?_
 refine cif_t rfl ?_
 refine de_push (le_lim (by have := H.he; lia)) ?_
 have P := bd_err2 (w := os "unexpected-start-tag") H (by lia)
 refine cif_f rfl ?_
 refine cif_f rfl ?_
 refine cif_f rfl ?_
 refine again_x (a := (a.err (os "unexpected-start-tag"))) P (by lia) ?_
 refine tok2 ?_
 refine spelled_s (sp := (os "html")) (.inr (.inr rfl)) rfl (by have := T.h2; lia) ?_
 intro tm1
 rw [adj_html]
 refine lput_s (a := (a.err (os "unexpected-start-tag")).recon) (nm := (os "img")) (P.recon (by lia)) (by exact Nat.le_of_ble_eq_true rfl) (by rfl) (.inr rfl) (by have := T.h2; lia) ?_
 refine cif_f rfl ?_
 refine cif_t rfl ?_
 refine cif_t rfl ?_
 refine cut_last (by rw [List.length_map]; show ((a.err (os "unexpected-start-tag")).recon.o ++ [_]).length ≤ _; rw [List.length_append]; have := (P.recon (by lia)).ho; exact le_lim (by simp; lia)) ?_
 rw [el_drop]
 refine set_open (by exact Nat.le_of_ble_eq_true rfl) ?_
 refine dset_ack (a := ((a.err (os "unexpected-start-tag")).recon.el (os "html") (os "img") att).so (a.err (os "unexpected-start-tag")).recon.o) ?_
 refine comp_rule ?_
 refine tok2 ?_
 refine comp_fixed (vs := att.map pairV) rfl ?_
 refine kinds_loop (by rfl) att T.kt ?_
 refine And.intro (by rw [List.length_map]; unfold kindsL; rw [List.length_map]; exact le_lim (Nat.le_trans (List.length_filter_le ..) (by have := T.h2; lia))) ?_
 refine cif_f rfl ?_
 refine cif_f rfl ?_
 refine dset_ok (a := (((a.err (os "unexpected-start-tag")).recon.el (os "html") (os "img") att).so (a.err (os "unexpected-start-tag")).recon.o).sack true) ?_
 refine cif_f rfl ?_
 exact kk _
theorem od_select {K : MV → St → Prop} (H : Bd m a) (G : Hs a) (hm : m < 870) (T : TokOk2 att) (hmo : a.mode ∈ modes8) (kk : ∀ tm', K .none (X b (a.sel att (os "select")) tm')) :
  Yes2 (C (n+3) (.fn 71 0) [.ref .due, tokV (os "select") att sc] (X b a tm)) K := by
 refine call_def (l := argL [("due", .ref .due), ("token", tokV (os "select") att sc)]) (by rfl) ?_
 refine tok1 ?_
 refine cif_f rfl ?_
 have P := H.mono (m' := m + 1) (by lia) (by lia)
 refine cif_f rfl ?_
 refine cif_f rfl ?_
 refine cif_f rfl ?_
 refine again_x (a := a) P (by lia) ?_
 refine tok2 ?_
 refine spelled_s (sp := (os "html")) (.inr (.inr rfl)) rfl (by have := T.h2; lia) ?_
 intro tm1
 rw [adj_html]
 refine lput_s (a := a.recon) (nm := (os "select")) (P.recon (by lia)) (by exact Nat.le_of_ble_eq_true rfl) (by rfl) (.inr rfl) (by have := T.h2; lia) ?_
 refine cif_f rfl ?_
 refine cif_f rfl ?_
 refine cif_f rfl ?_
 refine cif_f rfl ?_
 refine cif_f rfl ?_
 refine cif_t rfl ?_
 refine dset_ok (a := (a.recon.el (os "html") (os "select") att)) ?_
 have hmm : ((a.recon.el (os "html") (os "select") att).sok false).mode = a.mode := (recon_keep a).2.1
 have hin : (!(([os "in body", os "in column group", os "in template"].map MV.str).any fun y => eqAtom y (.str ((a.recon.el (os "html") (os "select") att).sok false).mode) == some true)) = decide (a.mode ∈ tabModes) := by rw [any_strs, hmm]; exact mode3 _ hmo
 unfold A.sel at kk
 refine cif_d (P := a.mode ∈ tabModes) hin (fun hq => ?_) (fun hq => ?_)
 ·refine dset_mode (a := (a.recon.el (os "html") (os "select") att).sok false) ?_
  have := kk tm1
  rw [if_pos hq] at this
  exact this
 ·refine dset_mode (a := (a.recon.el (os "html") (os "select") att).sok false) ?_
  have := kk tm1
  rw [if_neg hq] at this
  exact this
theorem od_opt {K : MV → St → Prop} (H : Bd m a) (G : Hs a) (hm : m < 870) (T : TokOk2 att) (h : nm ∈ opN) (kk : ∀ tm', K .none (X b (a.popOpt.recon.el (os "html") nm att) tm')) :
  Yes2 (C (n+3) (.fn 71 0) [.ref .due, tokV nm att sc] (X b a tm)) K := by
 obtain ⟨f1, f3, f4, f5, f7⟩ := op_facts nm h
 refine call_def (l := argL [("due", .ref .due), ("token", tokV nm att sc)]) (by rfl) ?_
 refine tok1 ?_
 refine cif_f (decide_eq_false f1) ?_
 have P : Bd (m + 1) a.popOpt := (popOpt_bd H G).mono (by lia) (by lia)
 obtain ⟨r, p, nd, e, hl, hh1, hp, hs, ht⟩ := topName H G
 refine cif_t ((any_strs nm opN).trans (decide_eq_true h)) ?_
 refine held_s H ?_
 refine nms_last e ?_
 rw [ht]
 have hpe : a.popOpt = if nd.nm = os "option" then a.so a.o.dropLast else a := by unfold A.popOpt; rw [ht]
 refine cif_d (P := nd.nm = os "option") rfl (fun hq => ?_) (fun hq => ?_)
 ·refine cif_t rfl ?_
  rw [if_pos hq] at hpe
  refine cut_last (by rw [List.length_map]; exact le_lim (by have := H.ho; lia)) ?_
  rw [← List.map_dropLast]
  refine set_open (by exact Nat.le_of_ble_eq_true rfl) ?_
  rw [hpe] at P kk
  refine cif_f ((any_strs nm fgN).trans (decide_eq_false f3)) ?_
  refine again_x (a := (a.so a.o.dropLast)) P (by lia) ?_
  refine tok2 ?_
  refine spelled_s (sp := (os "html")) (.inr (.inr rfl)) rfl (by have := T.h2; lia) ?_
  intro tm1
  rw [adj_html]
  refine lput_s (a := (a.so a.o.dropLast).recon) (nm := nm) (P.recon (by lia)) (by exact Nat.le_of_ble_eq_true rfl) (by rfl) (.inr rfl) (by have := T.h2; lia) ?_
  refine cif_f (decide_eq_false f4) ?_
  refine cif_f ((any_strs nm void7).trans (decide_eq_false f5)) ?_
  refine cif_f rfl ?_
  refine cif_f rfl ?_
  refine cif_f rfl ?_
  refine cif_f (decide_eq_false f7) ?_
  exact kk _
 ·refine cif_f rfl ?_
  rw [if_neg hq] at hpe
  rw [hpe] at P kk
  refine cif_f ((any_strs nm fgN).trans (decide_eq_false f3)) ?_
  refine again_x (a := a) P (by lia) ?_
  refine tok2 ?_
  refine spelled_s (sp := (os "html")) (.inr (.inr rfl)) rfl (by have := T.h2; lia) ?_
  intro tm1
  rw [adj_html]
  refine lput_s (a := a.recon) (nm := nm) (P.recon (by lia)) (by exact Nat.le_of_ble_eq_true rfl) (by rfl) (.inr rfl) (by have := T.h2; lia) ?_
  refine cif_f (decide_eq_false f4) ?_
  refine cif_f ((any_strs nm void7).trans (decide_eq_false f5)) ?_
  refine cif_f rfl ?_
  refine cif_f rfl ?_
  refine cif_f rfl ?_
  refine cif_f (decide_eq_false f7) ?_
  exact kk _
theorem od_math {K : MV → St → Prop} (H : Bd m a) (G : Hs a) (hm : m < 870) (T : TokOk2 att) (ho : a.ok = true) (kk : ∀ tm', K .none (X b (if sc then a.recon.vds (os "math") (os "math") (adjL (os "math") att) else a.recon.el (os "math") (os "math") (adjL (os "math") att)) tm')) :
  Yes2 (C (n+3) (.fn 71 0) [.ref .due, tokV (os "math") att sc] (X b a tm)) K := by
 refine call_def (l := argL [("due", .ref .due), ("token", tokV (os "math") att sc)]) (by rfl) ?_
 refine tok1 ?_
 refine cif_f rfl ?_
 have P := H.mono (m' := m + 1) (by lia) (by lia)
 refine cif_f rfl ?_
 refine cif_f rfl ?_
 refine cif_t rfl ?_
 refine again_x (a := a) P (by lia) ?_
 refine tok2 ?_
 refine spelled_s (sp := (os "math")) (.inr (.inl rfl)) rfl (by have := T.h2; lia) ?_
 intro tm1
 refine lput_s (a := a.recon) (nm := (os "math")) (P.recon (by lia)) (by exact Nat.le_of_ble_eq_true rfl) (by rfl) (.inr rfl) (by unfold adjL; rw [List.length_map]; have := T.h2; lia) ?_
 refine cif_f rfl ?_
 refine cif_f rfl ?_
 refine cif_t rfl ?_
 refine tok3 ?_
 cases sc with
 | false =>
  refine cif_f rfl ?_
  refine cif_f rfl ?_
  refine cif_f rfl ?_
  refine cif_f rfl ?_
  exact kk _
 | true =>
  refine cif_t rfl ?_
  refine cif_t rfl ?_
  refine cif_t rfl ?_
  refine cut_last (by rw [List.length_map]; show (a.recon.o ++ [_]).length ≤ _; rw [List.length_append]; have := (P.recon (by lia)).ho; exact le_lim (by simp; lia)) ?_
  rw [el_drop]
  refine set_open (by exact Nat.le_of_ble_eq_true rfl) ?_
  refine dset_ack (a := (a.recon.el (os "math") (os "math") (adjL (os "math") att)).so a.recon.o) ?_
  refine comp_rule ?_
  refine tok2 ?_
  refine comp_fixed (vs := att.map pairV) rfl ?_
  refine kinds_loop (by rfl) att T.kt ?_
  refine And.intro (by rw [List.length_map]; unfold kindsL; rw [List.length_map]; exact le_lim (Nat.le_trans (List.length_filter_le ..) (by have := T.h2; lia))) ?_
  refine cif_t rfl ?_
  refine dset_ok (a := ((a.recon.el (os "math") (os "math") (adjL (os "math") att)).so a.recon.o).sack true) ?_
  refine cif_f rfl ?_
  have := kk tm1
  have hk : (a.recon.vds (os "math") (os "math") (adjL (os "math") att)).ok = true := (recon_keep a).2.2.2.2.1.trans ho
  rw [if_pos rfl, ← sok_id hk] at this
  exact this
theorem od_svg {K : MV → St → Prop} (H : Bd m a) (G : Hs a) (hm : m < 870) (T : TokOk2 att) (ho : a.ok = true) (kk : ∀ tm', K .none (X b (if sc then a.recon.vds (os "svg") (os "svg") (adjL (os "svg") att) else a.recon.el (os "svg") (os "svg") (adjL (os "svg") att)) tm')) :
  Yes2 (C (n+3) (.fn 71 0) [.ref .due, tokV (os "svg") att sc] (X b a tm)) K := by
 refine call_def (l := argL [("due", .ref .due), ("token", tokV (os "svg") att sc)]) (by rfl) ?_
 refine tok1 ?_
 refine cif_f rfl ?_
 have P := H.mono (m' := m + 1) (by lia) (by lia)
 refine cif_f rfl ?_
 refine cif_f rfl ?_
 refine cif_t rfl ?_
 refine again_x (a := a) P (by lia) ?_
 refine tok2 ?_
 refine spelled_s (sp := (os "svg")) (.inl rfl) rfl (by have := T.h2; lia) ?_
 intro tm1
 refine lput_s (a := a.recon) (nm := (os "svg")) (P.recon (by lia)) (by exact Nat.le_of_ble_eq_true rfl) (by rfl) (.inr rfl) (by unfold adjL; rw [List.length_map]; have := T.h2; lia) ?_
 refine cif_f rfl ?_
 refine cif_f rfl ?_
 refine cif_t rfl ?_
 refine tok3 ?_
 cases sc with
 | false =>
  refine cif_f rfl ?_
  refine cif_f rfl ?_
  refine cif_f rfl ?_
  refine cif_f rfl ?_
  exact kk _
 | true =>
  refine cif_t rfl ?_
  refine cif_t rfl ?_
  refine cif_t rfl ?_
  refine cut_last (by rw [List.length_map]; show (a.recon.o ++ [_]).length ≤ _; rw [List.length_append]; have := (P.recon (by lia)).ho; exact le_lim (by simp; lia)) ?_
  rw [el_drop]
  refine set_open (by exact Nat.le_of_ble_eq_true rfl) ?_
  refine dset_ack (a := (a.recon.el (os "svg") (os "svg") (adjL (os "svg") att)).so a.recon.o) ?_
  refine comp_rule ?_
  refine tok2 ?_
  refine comp_fixed (vs := att.map pairV) rfl ?_
  refine kinds_loop (by rfl) att T.kt ?_
  refine And.intro (by rw [List.length_map]; unfold kindsL; rw [List.length_map]; exact le_lim (Nat.le_trans (List.length_filter_le ..) (by have := T.h2; lia))) ?_
  refine cif_t rfl ?_
  refine dset_ok (a := ((a.recon.el (os "svg") (os "svg") (adjL (os "svg") att)).so a.recon.o).sack true) ?_
  refine cif_f rfl ?_
  have := kk tm1
  have hk : (a.recon.vds (os "svg") (os "svg") (adjL (os "svg") att)).ok = true := (recon_keep a).2.2.2.2.1.trans ho
  rw [if_pos rfl, ← sok_id hk] at this
  exact this
theorem od_b {K : MV → St → Prop} (H : Bd m a) (G : Hs a) (hm : m < 870) (T : TokOk2 att) (kk : ∀ tm', K .none (X b ((a.recon.el (os "html") (os "b") att).sf (a.recon.f ++ [a.recon.N.length])) tm')) :
  Yes2 (C (n+3) (.fn 71 0) [.ref .due, tokV (os "b") att sc] (X b a tm)) K := by
 refine call_def (l := argL [("due", .ref .due), ("token", tokV (os "b") att sc)]) (by rfl) ?_
 refine tok1 ?_
 refine cif_f rfl ?_
 have P := H.mono (m' := m + 1) (by lia) (by lia)
 refine cif_f rfl ?_
 refine cif_f rfl ?_
 refine cif_f rfl ?_
 refine again_x (a := a) P (by lia) ?_
 refine tok2 ?_
 refine spelled_s (sp := (os "html")) (.inr (.inr rfl)) rfl (by have := T.h2; lia) ?_
 intro tm1
 rw [adj_html]
 refine lput_s (a := a.recon) (nm := (os "b")) (P.recon (by lia)) (by exact Nat.le_of_ble_eq_true rfl) (by rfl) (.inr rfl) (by have := T.h2; lia) ?_
 refine cif_t rfl ?_
 refine da_push (a := a.recon.el (os "html") (os "b") att) (le_lim (by show a.recon.f.length ≤ _; have := (P.recon (by lia)).hf; lia)) ?_
 refine cif_f rfl ?_
 refine cif_f rfl ?_
 refine cif_f rfl ?_
 refine cif_f rfl ?_
 refine cif_f rfl ?_
 exact kk _
theorem od_any {K : MV → St → Prop} (H : Bd m a) (G : Hs a) (hm : m < 870) (T : TokOk2 att) (h1 : nm ∉ vdN) (h2 : nm ≠ os "input") (h3 : nm ≠ os "image") (h4 : nm ≠ os "select") (h5 : nm ∉ opN) (h6 : nm ∉ fgN) (h7 : nm ≠ os "b") (kk : ∀ tm', K .none (X b (a.recon.el (os "html") nm att) tm')) :
  Yes2 (C (n+3) (.fn 71 0) [.ref .due, tokV nm att sc] (X b a tm)) K := by
 have f5 := v7 h1 h2
 refine call_def (l := argL [("due", .ref .due), ("token", tokV nm att sc)]) (by rfl) ?_
 refine tok1 ?_
 refine cif_f (decide_eq_false h3) ?_
 have P := H.mono (m' := m + 1) (by lia) (by lia)
 refine cif_f ((any_strs nm opN).trans (decide_eq_false h5)) ?_
 refine cif_f rfl ?_
 refine cif_f ((any_strs nm fgN).trans (decide_eq_false h6)) ?_
 refine again_x (a := a) P (by lia) ?_
 refine tok2 ?_
 refine spelled_s (sp := (os "html")) (.inr (.inr rfl)) rfl (by have := T.h2; lia) ?_
 intro tm1
 rw [adj_html]
 refine lput_s (a := a.recon) (nm := nm) (P.recon (by lia)) (by exact Nat.le_of_ble_eq_true rfl) (by rfl) (.inr rfl) (by have := T.h2; lia) ?_
 refine cif_f (decide_eq_false h7) ?_
 refine cif_f ((any_strs nm void7).trans (decide_eq_false f5)) ?_
 refine cif_f rfl ?_
 refine cif_f rfl ?_
 refine cif_f rfl ?_
 refine cif_f (decide_eq_false h4) ?_
 exact kk _
end
end Mine
namespace Mine
open PySem PySem.W
theorem fg_cases {x : Str} (h : x ∈ fgN) : x = os "math" ∨ x = os "svg" := fg_sp h
noncomputable def A.start (a : A) (mo : Str) : A := (((((a.smode mo).sorig (os "")).swish (os "")).sok true).sskip false).sack false
section
variable {n m : Nat} {b : B} {a : A} {x : List (Str × MV)} {tm : List MO} {nm : Str} {att : List (Str × Str)} {sc : Bool}
theorem other_s {K : MV → St → Prop} (H : Bd m a) (G : Hs a) (hm : m < 870) (T : TokOk2 att) (ho : a.ok = true) (hmo : a.mode ∈ modes8) (h1 : nm ∉ misN) (h2 : nm ∉ rbN) (h3 : nm ∉ liN) (h4 : nm ∉ rwN) (h5 : nm ≠ os "textarea") (kk : ∀ tm', K .none (X b (a.step nm att sc) tm')) :
  Yes2 (C (n+3) (.fn 71 0) [.ref .due, tokV nm att sc] (X b a tm)) K := by
 unfold A.step at kk
 rw [if_neg h1, if_neg h2, if_neg h3] at kk
 by_cases c1 : nm ∈ vdN
 ·rw [if_pos c1] at kk
  exact od_void H G hm T c1 kk
 rw [if_neg c1] at kk
 by_cases c2 : nm = os "input"
 ·rw [if_pos c2] at kk
  subst c2
  exact od_input H G hm T ho kk
 rw [if_neg c2] at kk
 by_cases c3 : nm = os "image"
 ·rw [if_pos c3] at kk
  subst c3
  exact od_image H G hm T kk
 rw [if_neg c3, if_neg h5, if_neg h4] at kk
 by_cases c4 : nm = os "select"
 ·rw [if_pos c4] at kk
  subst c4
  exact od_select H G hm T hmo kk
 rw [if_neg c4] at kk
 by_cases c5 : nm ∈ opN
 ·rw [if_pos c5] at kk
  exact od_opt H G hm T c5 kk
 rw [if_neg c5] at kk
 by_cases c6 : nm ∈ fgN
 ·rw [if_pos c6] at kk
  rcases fg_cases c6 with rfl | rfl
  ·exact od_math H G hm T ho kk
  ·exact od_svg H G hm T ho kk
 rw [if_neg c6] at kk
 by_cases c7 : nm = os "b"
 ·rw [if_pos c7] at kk
  subst c7
  exact od_b H G hm T kk
 rw [if_neg c7] at kk
 exact od_any H G hm T c1 c2 c3 c4 c5 c6 c7 kk
theorem d_update {rec : Rec} {K : MV → St → Prop} {st st' : St} {p q : Ad} {es fs : List (Str × MV)} (hg : st.get p = some (.dict es)) (hb : st.get q = some (.dict fs)) (hne : p ≠ q) (hl : es.length + fs.length ≤ lim) (hp : st.put p (.dict (updK es fs)) = some st') (k : K .none st') :
  Yes2 (methDo rec .dict st (.ref p) (Str.ofString "update") [.ref q]) K := by
 refine ⟨_, _, ?_, k⟩
 show atDict (st.get p) _ = _
 rw [hg]
 show atDict (st.get q) (fun fs => if p ≠ q ∧ es.length + fs.length ≤ lim then giv MV.none (st.put p (.dict (updK es fs))) else none) = _
 rw [hb]
 exact (if_pos (And.intro hne hl)).trans (congrArg (giv MV.none) hp)
noncomputable def misW : List Str := ["tr", "thead", "th", "tfoot", "td", "tbody", "head", "frame", "colgroup", "col", "caption"].map Str.ofString
theorem misW_ok : strMeth (Str.ofString "split") (Str.ofString "tr thead th tfoot td tbody head frame colgroup col caption") [] = some (.lst (misW.map .str)) := by kernel_rfl
theorem mis_perm (x : Str) : decide (x ∈ misW) = decide (x ∈ misN) := by
 rw [decide_eq_decide]
 constructor
 ·intro h; have : ∀ x ∈ misW, x ∈ misN := by decide +kernel
  exact this x h
 ·intro h; have : ∀ x ∈ misN, x ∈ misW := by decide +kernel
  exact this x h
noncomputable def rbD : List Str := ["rb", "rp", "rt", "rtc"].map Str.ofString
theorem rb_perm (x : Str) : decide (x ∈ rbD) = decide (x ∈ rbN) := by
 rw [decide_eq_decide]
 constructor
 ·intro h; have : ∀ x ∈ rbD, x ∈ rbN := by decide +kernel
  exact this x h
 ·intro h; have : ∀ x ∈ rbN, x ∈ rbD := by decide +kernel
  exact this x h
noncomputable def rwD : List Str := ["iframe", "noembed", "noscript", "textarea"].map Str.ofString
theorem start_bd (H : Bd m a) (mo : Str) : Bd m (a.start mo) := ⟨H.hm, H.hN, H.h0, H.ho, H.oN, H.o1, H.od, H.hf, H.fb, H.he, H.wt, H.kd, H.ta⟩
theorem start_hs (G : Hs a) (mo : Str) : Hs (a.start mo) := ⟨G.opn, G.h1, G.h2⟩
noncomputable def A.fin (c : A) (sc : Bool) : A := if sc = true ∧ c.ack = false then c.err (os "non-void-html-element-start-tag-with-trailing-solidus") else c
theorem due_tail {K : MV → St → Prop} {mo : MV} (c : A) (he : c.e.length ≤ 900) (l : Loc) (hl : l = argL [("due", .ref .due), ("token", tokV nm att sc), ("mode", mo), ("name", .str nm)]) (kk : K .none (X b (c.fin sc) tm)) :
  cSs theTab thePol (C n) ((fnB 72 0).drop 3) (fnS 72 0) l (X b c tm) fun fl _ st => retK K fl st := by
 subst hl
 unfold A.fin at kk
 refine tok3 ?_
 cases sc with
 | false =>
  refine cif_f rfl ?_
  refine cif_f rfl ?_
  rw [if_neg (fun q => by cases q.1)] at kk
  exact kk
 | true =>
  refine cif_t rfl ?_
  refine cIf.mk (fun e => ?_) (fun e => ?_)
  ·refine cif_t rfl ?_
   refine de_push (le_lim (by lia)) ?_
   rw [if_pos ⟨rfl, by simpa using e⟩] at kk
   exact kk
  ·refine cif_f rfl ?_
   rw [if_neg (fun q => by rw [show (!c.ack) = true by rw [q.2]; rfl] at e; cases e)] at kk
   exact kk
theorem upd1 {rec : Rec} {K : MV → St → Prop} {mo : Str} {i : Nat} (hx : x = [] ∨ ∃ a', x = moreA a') (hi : tm[i]? = some (.dict (moreA (a.start mo)))) (k : K .none (X b (a.start mo) tm)) :
  Yes2 (methDo rec .dict (Y b a x tm) (.ref .due) (Str.ofString "update") [.ref (.tm i)]) K := by
 rcases hx with rfl | ⟨a', rfl⟩
 ·exact d_update rfl (tmG hi) (fun h => by cases h) (by exact Nat.le_of_ble_eq_true rfl) rfl k
 ·exact d_update rfl (tmG hi) (fun h => by cases h) (by exact Nat.le_of_ble_eq_true rfl) rfl k
theorem upd2 {rec : Rec} {K : MV → St → Prop} {u v w : Str} {i : Nat} (hi : tm[i]? = some (.dict [(os "mode", .str u), (os "original", .str v), (os "wish", .str w)])) (k : K .none (X b (((a.smode u).sorig v).swish w) tm)) :
  Yes2 (methDo rec .dict (X b a tm) (.ref .due) (Str.ofString "update") [.ref (.tm i)]) K :=
 d_update rfl (tmG hi) (fun h => by cases h) (by exact Nat.le_of_ble_eq_true rfl) rfl k
theorem upd3 {rec : Rec} {K : MV → St → Prop} {u v : Bool} {i : Nat} (hi : tm[i]? = some (.dict [(os "ok", .bool u), (os "skip", .bool v)])) (k : K .none (X b ((a.sok u).sskip v) tm)) :
  Yes2 (methDo rec .dict (X b a tm) (.ref .due) (Str.ofString "update") [.ref (.tm i)]) K :=
 d_update rfl (tmG hi) (fun h => by cases h) (by exact Nat.le_of_ble_eq_true rfl) rfl k
noncomputable def rawW (nm : Str) : Str := if nm = os "textarea" then os "RCDATA" else os "RAWTEXT"
theorem rw_facts : ∀ x ∈ rwD, x ∉ misN ∧ x ∉ rbN ∧ x ∉ liN ∧ x ∉ vdN ∧ x ≠ os "input" ∧ x ≠ os "image" ∧ x ≠ os "template" ∧ (x ≠ os "textarea" → x ∈ rwN) := by decide +kernel
theorem raw_eq {mo : Str} (h : nm ∈ rwD) : ((((((a.start mo).el (os "html") nm att).smode (os "text")).sorig mo).swish (rawW nm)).sok (decide (nm ∈ [os "noembed", os "noscript"]))).sskip (decide (nm = os "textarea")) = (a.start mo).step nm att sc := by
 obtain ⟨h1, h2, h3, h4, h5, h6, _, h8⟩ := rw_facts nm h
 unfold A.step rawW
 rw [if_neg h1, if_neg h2, if_neg h3, if_neg h4, if_neg h5, if_neg h6]
 by_cases c : nm = os "textarea"
 ·subst c
  rw [if_pos rfl, if_pos rfl, decide_eq_false (by simp [ofString_inj]), decide_eq_true rfl]
  rfl
 ·rw [if_neg c, if_neg c, if_pos (h8 c), decide_eq_false c]
  by_cases c2 : nm = os "iframe"
  ·subst c2
   rw [if_pos rfl, decide_eq_false (by simp [ofString_inj])]
   rfl
  ·rw [if_neg c2]
   have c3 : nm ∈ [os "noembed", os "noscript"] := by
    simp only [rwD, List.map_cons, List.map_nil, List.mem_cons, List.mem_nil_iff, or_false] at h ⊢
    rcases h with h | h | h | h
    ·exact absurd h c2
    ·exact .inl h
    ·exact .inr h
    ·exact absurd h c
   rw [decide_eq_true c3]
   rfl
theorem due_s {K : MV → St → Prop} {mo : Str} (H : Bd m a) (G : Hs a) (hm : m < 850) (hx : x = [] ∨ ∃ a', x = moreA a') (T : TokOk2 att) (hmo : mo ∈ modes8) (he : ((a.start mo).step nm att sc).e.length ≤ 900) (kk : ∀ tm', K .none (X b (((a.start mo).step nm att sc).fin sc) tm')) :
  Yes2 (C (n+4) (.fn 72 0) [.ref .due, tokV nm att sc, .str mo] (Y b a x tm)) K := by
 have H1 := start_bd H mo
 have G1 := start_hs G mo
 refine call_def (l := argL [("due", .ref .due), ("token", tokV nm att sc), ("mode", .str mo)]) (by rfl) ?_
 refine dict_rule ?_
 refine pairs_cons ?_
 refine pairs_cons ?_
 refine pairs_cons ?_
 refine pairs_cons ?_
 refine pairs_cons ?_
 refine pairs_cons ?_
 refine pairs_nil ?_
 refine tm_dalloc (es := moreA (a.start mo)) (by rfl) ?_
 refine upd1 (a := a) (mo := mo) hx (by simp) ?_
 refine tok1 ?_
 refine tok0 ?_
 refine cif_f rfl ?_
 refine str_split misW_ok ?_
 refine in_strs (x := nm) (L := misW) ?_
 have fin : ∀ (c : A) (tm : List MO), c = (a.start mo).step nm att sc → cSs theTab thePol (C (n+3)) ((fnB 72 0).drop 3) (fnS 72 0) (argL [("due", .ref .due), ("token", tokV nm att sc), ("mode", .str mo), ("name", .str nm)]) (X b c tm) fun fl _ st => retK K fl st := by
  intro c tm e
  subst e
  exact due_tail (mo := .str mo) _ he _ rfl (kk _)
 refine cif_d (P := nm ∈ misN) (mis_perm nm) (fun h1 => ?_) (fun h1 => ?_)
 ·refine de_push (le_lim (by have := H1.he; lia)) ?_
  exact fin _ _ (by unfold A.step; rw [if_pos h1]; rfl)
 refine cif_d (P := nm ∈ rbN) ((any_strs nm rbD).trans (rb_perm nm)) (fun h2 => ?_) (fun h2 => ?_)
 ·refine rubydue_s rfl H1 G1 (by lia) T.h2 ?_
  exact fin _ _ (by unfold A.step; rw [if_neg h1, if_pos h2])
 refine cif_d (P := nm ∈ liN) (any_strs nm liN) (fun h3 => ?_) (fun h3 => ?_)
 ·refine tok2 ?_
  refine lput_s (a := a.start mo) H1 (by exact Nat.le_of_ble_eq_true rfl) (by rfl) (.inl rfl) (by have := T.h2; lia) ?_
  exact fin _ _ (by unfold A.step; rw [if_neg h1, if_neg h2, if_pos h3])
 refine cif_d (P := nm ∈ rwD) (any_strs nm rwD) (fun h4 => ?_) (fun h4 => ?_)
 ·refine tok2 ?_
  refine lput_s (a := a.start mo) H1 (by exact Nat.le_of_ble_eq_true rfl) (by rfl) (.inl rfl) (by have := T.h2; lia) ?_
  refine dict_rule ?_
  refine pairs_cons ?_
  refine pairs_cons ?_
  refine pairs_cons ?_
  have e3 := raw_eq (a := a) (att := att) (sc := sc) (mo := mo) h4
  refine cif_d (P := nm = os "textarea") rfl (fun h5 => ?_) (fun h5 => ?_)
  ·rw [show rawW nm = os "RCDATA" by unfold rawW; rw [if_pos h5]] at e3
   refine pairs_nil ?_
   refine tm_dalloc (es := [(os "mode", .str (os "text")), (os "original", .str mo), (os "wish", .str (os "RCDATA"))]) (by rfl) ?_
   refine upd2 (a := (a.start mo).el (os "html") nm att) (u := os "text") (v := mo) (w := os "RCDATA") (by simp) ?_
   refine dict_rule ?_
   refine pairs_cons ?_
   refine pairs_cons ?_
   refine pairs_nil ?_
   refine tm_dalloc (es := [(os "ok", .bool ((([os "noembed", os "noscript"]).map MV.str).any fun y => eqAtom y (.str nm) == some true)), (os "skip", .bool (decide (nm = os "textarea")))]) (by rfl) ?_
   refine upd3 (a := ((((a.start mo).el (os "html") nm att).smode (os "text")).sorig mo).swish (os "RCDATA")) (u := (([os "noembed", os "noscript"]).map MV.str).any fun y => eqAtom y (.str nm) == some true) (v := decide (nm = os "textarea")) (by simp) ?_
   refine fin _ _ ?_
   rw [any_strs]
   exact e3
  ·rw [show rawW nm = os "RAWTEXT" by unfold rawW; rw [if_neg h5]] at e3
   refine pairs_nil ?_
   refine tm_dalloc (es := [(os "mode", .str (os "text")), (os "original", .str mo), (os "wish", .str (os "RAWTEXT"))]) (by rfl) ?_
   refine upd2 (a := (a.start mo).el (os "html") nm att) (u := os "text") (v := mo) (w := os "RAWTEXT") (by simp) ?_
   refine dict_rule ?_
   refine pairs_cons ?_
   refine pairs_cons ?_
   refine pairs_nil ?_
   refine tm_dalloc (es := [(os "ok", .bool ((([os "noembed", os "noscript"]).map MV.str).any fun y => eqAtom y (.str nm) == some true)), (os "skip", .bool (decide (nm = os "textarea")))]) (by rfl) ?_
   refine upd3 (a := ((((a.start mo).el (os "html") nm att).smode (os "text")).sorig mo).swish (os "RAWTEXT")) (u := (([os "noembed", os "noscript"]).map MV.str).any fun y => eqAtom y (.str nm) == some true) (v := decide (nm = os "textarea")) (by simp) ?_
   refine fin _ _ ?_
   rw [any_strs]
   exact e3
 ·have h5 : nm ∉ rwN := fun h => h4 ((show ∀ x ∈ rwN, x ∈ rwD by decide +kernel) nm h)
  have h6 : nm ≠ os "textarea" := fun h => h4 (by rw [h]; exact .tail _ (.tail _ (.tail _ (.head _))))
  refine other_s H1 G1 (by lia) T rfl hmo h1 h2 h3 h5 h6 ?_
  intro tm1
  exact fin _ _ rfl
end
end Mine
namespace Mine
open PySem PySem.W
noncomputable def A.endE (c : A) : A := if 2 < c.o.length then c.so c.o.dropLast else c
theorem cut_mid {K : MV → Prop} {st : St} {u v : MV} {q : List MV} (h : (u :: v :: q).length ≤ lim) (kk : K (.lst q.dropLast)) : Yes (cutOf st (.lst (u :: v :: q)) (some 2) (some (-1))) K := by
 refine ⟨_, ?_, kk⟩
 show (if (u :: v :: q).length ≤ lim then some (MV.lst (cut (u :: v :: q) (some 2) (some (-1)))) else _) = _
 rw [if_pos h]
 show some (MV.lst (((u :: v :: q).drop (clipAt (u :: v :: q).length ((2 : Nat) : Int))).take (clipAt (u :: v :: q).length (-((1 : Nat) : Int)) - clipAt (u :: v :: q).length ((2 : Nat) : Int)))) = _
 rw [clipAt_nat, clipAt_neg _ _ (Nat.le_refl 1), show min 2 (u :: v :: q).length = 2 from Nat.min_eq_left (Nat.le_add_left 2 _)]
 exact congrArg (fun z => some (MV.lst z)) List.dropLast_eq_take.symm
section
variable {n m : Nat} {b : B} {a : A} {x : List (Str × MV)} {tm : List MO} {nm : Str} {att : List (Str × Str)} {sc : Bool}
theorem dueE_s {K : MV → St → Prop} {mo : Str} (H : Bd m a) (hx : x = [] ∨ ∃ a', x = moreA a') (kk : ∀ tm', K .none (X b (a.start mo).endE tm')) :
  Yes2 (C (n+4) (.fn 72 0) [.ref .due, tokE, .str mo] (Y b a x tm)) K := by
 obtain ⟨q, hq⟩ := H.o1
 have hol : a.o.length ≤ 900 := by have := H.ho; have := H.hm; omega
 refine call_def (l := argL [("due", .ref .due), ("token", tokE), ("mode", .str mo)]) (by rfl) ?_
 refine dict_rule ?_
 refine pairs_cons ?_
 refine pairs_cons ?_
 refine pairs_cons ?_
 refine pairs_cons ?_
 refine pairs_cons ?_
 refine pairs_cons ?_
 refine pairs_nil ?_
 refine tm_dalloc (es := moreA (a.start mo)) (by rfl) ?_
 refine upd1 (a := a) (mo := mo) hx (by simp) ?_
 refine Yes.mk _ rfl ?_
 refine Yes.mk _ rfl ?_
 refine cif_t rfl ?_
 have ho : (a.start mo).o = 1 :: 2 :: q := hq
 refine cut_take (vs := (a.start mo).o.map nv) (k := 2) (by rw [List.length_map]; exact le_lim (by show a.o.length ≤ _; omega)) ?_
 have hm : (a.start mo).o.map nv = nv 1 :: nv 2 :: q.map nv := by rw [ho]; rfl
 have cm : ∀ {K : MV → Prop} {st : St}, K (.lst (q.map nv).dropLast) → Yes (cutOf st (.lst ((a.start mo).o.map nv)) (some 2) (some (-1))) K := fun k => by
  rw [hm]
  exact cut_mid (by rw [← hm, List.length_map]; exact le_lim (by show a.o.length ≤ _; omega)) k
 refine cm ?_
 refine bin_lst (by simp only [List.length_append, List.length_take, List.length_dropLast, List.length_map]; rw [hq] at hol; simp at hol; exact le_lim (by omega)) ?_
 have e1 : ((a.start mo).o.map nv).take 2 ++ (q.map nv).dropLast = (1 :: 2 :: q.dropLast).map nv := by rw [hm]; simp [List.map_dropLast]
 rw [e1]
 refine set_open (by exact Nat.le_of_ble_eq_true rfl) ?_
 refine Yes.mk _ rfl ?_
 refine cif_f rfl ?_
 refine cif_f rfl ?_
 have e2 : (a.start mo).so (1 :: 2 :: q.dropLast) = (a.start mo).endE := by
  unfold A.endE
  rw [ho]
  cases q with
  | nil => rw [if_neg (by simp)]; rw [show [].dropLast = ([] : List Nat) from rfl, ← ho]; rfl
  | cons w r => rw [if_pos (by simp)]; rfl
 rw [e2]
 have e3 : moreA (a.start mo).endE = moreA (a.start mo) := by unfold A.endE; split <;> rfl
 have k1 := kk (tm ++ [MO.dict (moreA (a.start mo))])
 unfold X at k1
 rw [e3] at k1
 exact k1
noncomputable def kL : List (List (Str × Str)) := [[], [(os "type", os "hidden")], [(os "type", os "HiDDeN")], [(os "type", os "text")], [(os "viewbox", os "v"), (os "definitionurl", os "d")], [(os "xlink:href", os "x"), (os "type", os "")]]
noncomputable def attK (k j : Nat) : List (Str × Str) := (os "n", Str.ofString (toString (k : Int))) :: kL.getD j []
noncomputable def scOf (mr : Int) (k : Nat) : Bool := decide (Int.fmod (Int.fdiv mr 6 + k) 4 = 1)
theorem t_subC {K : MV → Prop} {st : St} {vs : List MV} {v : MV} {i : Int} {k : Nat} (hi : i = k) (hx : vs[k]? = some v) (hk : k ≤ lim) (kk : K v) : Yes (subOf st (.tup vs) (.int i)) K := by
 subst hi
 refine ⟨v, ?_, kk⟩
 show pick vs k = _
 unfold pick
 rw [if_pos (by simpa using hk), if_pos (by omega)]
 simpa using hx
theorem bin_mod {K : MV → Prop} {x y : Int} (h : 0 < y ∧ y < 1000) (k : K (.int (Int.fmod x y))) : Yes (binop .Mod (.int x) (.int y)) K := ⟨_, if_pos h, k⟩
theorem bin_div {K : MV → Prop} {x y : Int} (h : 0 < y ∧ y < 1000) (k : K (.int (Int.fdiv x y))) : Yes (binop .FloorDiv (.int x) (.int y)) K := ⟨_, if_pos h, k⟩
theorem bin_tup {K : MV → Prop} {xs ys : List MV} (h : (xs ++ ys).length ≤ lim) (k : K (.tup (xs ++ ys))) : Yes (binop .Add (.tup xs) (.tup ys)) K := ⟨_, if_pos h, k⟩
theorem mod_nat (x : Int) (y : Nat) (h : 0 < y) : ∃ j : Nat, j < y ∧ Int.fmod x y = j := by
 have h1 := Int.fmod_nonneg_of_pos x (show (0 : Int) < y by omega)
 have h2 := Int.fmod_lt_of_pos x (show (0 : Int) < y by omega)
 exact ⟨(Int.fmod x y).toNat, by omega, by omega⟩
theorem kL_len : ∀ j < 6, (kL.getD j []).length ≤ 2 := by decide
theorem str_s {K : MV → Prop} {st : St} {i : Int} (h : 0 ≤ i ∧ i < 100) (k : K (.str (Str.ofString (toString i)))) : Yes (builtin st "str" [.int i]) K := by
 refine ⟨_, ?_, k⟩
 exact (if_neg (by decide)).trans ((if_neg (by decide)).trans ((if_neg (by decide)).trans ((if_neg (by decide)).trans ((if_pos rfl).trans (if_pos h)))))
theorem token_s {K : MV → St → Prop} {st : St} {w : Str} {mr : Int} {k : Nat} (hw : w ≠ os "/") (hk : k < 100) (kk : ∀ j, j < 6 → K (tokV w (attK k j) (scOf mr k)) st) : Yes2 (C (n+1) (.fn 62 0) [.str w, .int mr, nv k] st) K := by
 refine call_def (l := argL [("word", .str w), ("more", .int mr), ("k", nv k)]) (by rfl) ?_
 refine cif_f (decide_eq_false hw) ?_
 refine str_s (by omega) ?_
 refine bin_mod (by decide) ?_
 obtain ⟨j, hj, e⟩ := mod_nat (mr + k) 6 (by decide)
 refine t_subC (k := j) e (v := .tup ((kL.getD j []).map pairV)) ?_ (le_lim (by omega)) ?_
 ·show (kL.map fun l => MV.tup (l.map pairV))[j]? = _
  rw [List.getElem?_map, List.getD_eq_getElem?_getD, List.getElem?_eq_getElem hj]
  rfl
 refine bin_tup (by rw [List.length_append, List.length_map]; have := kL_len j hj; exact le_lim (show 1 + (kL.getD j []).length ≤ 1000 by omega)) ?_
 refine bin_div (by decide) ?_
 refine bin_mod (by decide) ?_
 exact kk j hj
theorem tokenE_s {K : MV → St → Prop} {st : St} {mr : Int} {k : Nat} (kk : K tokE st) : Yes2 (C (n+1) (.fn 62 0) [sv "/", .int mr, nv k] st) K := by
 refine call_def (l := argL [("word", sv "/"), ("more", .int mr), ("k", nv k)]) (by rfl) ?_
 refine cif_t rfl ?_
 exact kk
theorem att_ok {k j : Nat} (hj : j < 6) : (attK k j).length ≤ 800 ∧ (∀ t, typeOf (attK k j) = some t → t ∈ types4) ∧ (∀ p ∈ attK k j, p.1 ∈ keys5) ∧ TokOk2 (attK k j) := by
 have h0 : (os "n" = os "type") = False := by rw [ofString_inj]; simp
 have e1 : typeOf (attK k j) = typeOf (kL.getD j []) := by
  show (if os "n" = os "type" then _ else typeOf (kL.getD j [])) = _
  rw [if_neg (by rw [h0]; exact id)]
 have e2 : kindsL (attK k j) = kindsL (kL.getD j []) := by
  unfold kindsL attK
  rw [List.filter_cons, if_neg (by simp [h0])]
 have hl := kL_len j hj
 have c1 : ∀ j < 6, ∀ t, typeOf (kL.getD j []) = some t → t ∈ types4 := by
  have : ∀ j < 6, (typeOf (kL.getD j [])).all (fun t => decide (t ∈ types4)) = true := by decide +kernel
  intro j hj t ht
  have := this j hj
  rw [ht] at this
  exact of_decide_eq_true this
 have c2 : ∀ j < 6, ∀ p ∈ kL.getD j [], p.1 ∈ keys5 ∧ (p.1 = os "type" → p.2 ∈ types4) := by decide +kernel
 have c3 : ∀ j < 6, decide (kindsL (kL.getD j []) = [os "hidden"]) = hid (kL.getD j []) := by decide +kernel
 have e3 : hid (attK k j) = hid (kL.getD j []) := by unfold hid; rw [e1]
 have kn : os "n" ∈ keys5 := .head _
 refine ⟨by show (kL.getD j []).length + 1 ≤ 800; omega, fun t h => c1 j hj t (by rw [← e1]; exact h), ?_, ⟨by show (kL.getD j []).length + 1 ≤ 800; omega, ?_, by rw [e2, e3]; exact c3 j hj⟩⟩
 ·intro p hp
  rcases List.mem_cons.mp hp with rfl | hp
  ·exact kn
  ·exact (c2 j hj p hp).1
 ·intro p hp ht
  rcases List.mem_cons.mp hp with rfl | hp
  ·exact absurd ht (by rw [h0]; exact id)
  ·exact (c2 j hj p hp).2 ht
end
end Mine
namespace Mine
open PySem PySem.W
noncomputable def wordsL : List Str := ["ruby", "rt", "rp", "rtc", "rb", "p", "span", "option", "optgroup", "object", "b", "input", "br", "image", "textarea", "iframe", "noembed", "select", "math", "svg", "caption", "/", "li", "table", "noscript", "area", "embed", "img", "keygen", "wbr", "col", "colgroup", "frame", "head", "tbody", "td", "tfoot", "th", "thead", "tr"].map Str.ofString
noncomputable def usualL : List Str := ["ruby", "rt", "rp", "rtc", "rt", "p", "rb", "rtc", "rp", "span", "rt", "option", "option", "optgroup", "option", "object", "p", "rp", "rtc", "rb", "b", "input", "br", "image", "input", "input", "input", "textarea", "iframe", "noembed", "select", "select", "option", "select", "math", "svg", "caption", "svg", "span"].map Str.ofString
theorem words_ok : strMeth (Str.ofString "split") (Str.ofString "ruby rt rp rtc rb p span option optgroup object b input br image textarea iframe noembed select math svg" ++ Str.ofString " " ++ Str.ofString "caption / li table noscript area embed img keygen wbr col colgroup frame head tbody td tfoot th thead tr") [] = some (.lst (wordsL.map .str)) := by kernel_rfl
theorem usual_ok : strMeth (Str.ofString "split") (Str.ofString "ruby rt rp rtc rt p rb rtc rp span rt option option optgroup option object p rp rtc rb b input br image" ++ Str.ofString " " ++ Str.ofString "input input input textarea iframe noembed select select option select math svg caption svg span") [] = some (.lst (usualL.map .str)) := by kernel_rfl
theorem usual_idx : ∀ k < 39, (idxAtoms (.str (usualL.getD k Str.empty)) (wordsL.map .str)).isSome = true := by decide +kernel
theorem keys_ok : strMeth (Str.ofString "split") (Str.ofString "open active errors mode original wish ok skip ack") [] = some (.lst ((["open", "active", "errors", "mode", "original", "wish", "ok", "skip", "ack"].map Str.ofString).map .str)) := by kernel_rfl
section
variable {n m : Nat} {b : B} {a : A} {x : List (Str × MV)} {tm : List MO} {K : MV → St → Prop}
theorem words_s {st : St} (kk : K (.lst (wordsL.map .str)) st) : Yes2 (C (n+1) (.fn 59 0) [] st) K := by
 refine call_def (l := argL []) (by rfl) ?_
 refine Yes.mk _ (by rfl) ?_
 refine Yes.mk _ (by rfl) ?_
 refine str_split words_ok ?_
 exact kk
theorem usual_s {st : St} (kk : K (.lst (usualL.map .str)) st) : Yes2 (C (n+1) (.fn 60 0) [] st) K := by
 refine call_def (l := argL []) (by rfl) ?_
 refine Yes.mk _ (by rfl) ?_
 refine Yes.mk _ (by rfl) ?_
 refine str_split usual_ok ?_
 exact kk
theorem modes_s {st : St} (kk : K (.tup (modes8.map .str)) st) : Yes2 (C (n+1) (.fn 61 0) [] st) K := by
 refine call_def (l := argL []) (by rfl) ?_
 exact kk
noncomputable def seenV (a : A) : MV := .tup [.ref .items, .ref .fitems, .ref .errors, .str a.mode, .str a.orig, .str a.wish, .bool a.ok, .bool a.skip, .bool a.ack]
noncomputable def toldV (a : A) : MV := .tup [.lst (a.o.map nv), .ref .active, .ref .derrors, .str a.mode, .str a.orig, .str a.wish, .bool a.ok, .bool a.skip, .bool a.ack]
theorem seen_s {d : D} (kk : K (seenV a) (U a d tm)) : Yes2 (C (n+1) (.fn 64 0) [.ref .builder] (U a d tm)) K := by
 refine call_def (l := argL [("builder", .ref .builder)]) (by rfl) ?_
 refine bin_tup (by exact Nat.le_of_ble_eq_true rfl) ?_
 exact kk
theorem told_s (kk : K (toldV a) (X b a tm)) : Yes2 (C (n+1) (.fn 65 0) [.ref .due] (X b a tm)) K := by
 refine call_def (l := argL [("due", .ref .due)]) (by rfl) ?_
 refine comp_rule ?_
 refine str_split keys_ok ?_
 refine comp_fixed (vs := (["open", "active", "errors", "mode", "original", "wish", "ok", "skip", "ack"].map Str.ofString).map .str) rfl ?_
 refine comp_turnC ?_
 refine cif_t rfl ?_
 refine comp_turnC ?_
 refine cif_t rfl ?_
 refine comp_turnC ?_
 refine cif_t rfl ?_
 refine comp_turnC ?_
 refine cif_t rfl ?_
 refine comp_turnC ?_
 refine cif_t rfl ?_
 refine comp_turnC ?_
 refine cif_t rfl ?_
 refine comp_turnC ?_
 refine cif_t rfl ?_
 refine comp_turnC ?_
 refine cif_t rfl ?_
 refine comp_turnC ?_
 refine cif_t rfl ?_
 refine comp_nil ?_
 refine And.intro (by exact Nat.le_of_ble_eq_true rfl) ?_
 refine v_tuple (by exact Nat.le_of_ble_eq_true rfl) ?_
 exact kk
end
theorem eqs_sameC {e : MV → MV → Option Bool} : ∀ {l : List MV}, (∀ v ∈ l, e v v = some true) → eqV.eqs e l l = some true
 | [], _ => rfl
 | v :: l, h => by
  show ob (e v v) (fun p => ob (eqV.eqs e l l) fun q => some (p && q)) = _
  rw [h v (.head _), eqs_sameC fun w hw => h w (.tail _ hw)]
  rfl
theorem eq_nums (st : St) (k : Nat) (l : List Nat) : eqV.eqs (eqV (k + 1) st) (l.map nv) (l.map nv) = some true := eqs_sameC fun v hv => by
 obtain ⟨z, _, rfl⟩ := List.mem_map.mp hv
 show some (decide _) = _
 simp
theorem eq_pairs (st : St) (k : Nat) (l : List (Str × Str)) : eqV.eqs (eqV (k + 2) st) (l.map pairV) (l.map pairV) = some true := eqs_sameC fun v hv => by
 obtain ⟨z, _, rfl⟩ := List.mem_map.mp hv
 show eqV.eqs (eqV (k + 1) st) [.str z.1, .str z.2] [.str z.1, .str z.2] = _
 refine eqs_sameC fun w hw => ?_
 simp only [List.mem_cons, List.mem_nil_iff, or_false] at hw
 rcases hw with rfl | rfl
 ·show some (decide _) = _; simp
 ·show some (decide _) = _; simp
theorem seen_told {K : Bool → Prop} {a : A} {tm : List MO} (kk : K false) : Yes (cmp (X (toB a) a tm) .NotEq (seenV a) (toldV a)) K := by
 refine ⟨false, ?_, kk⟩
 have e1 : eqV 5 (X (toB a) a tm) (.ref .items) (.lst (a.o.map nv)) = some true := by
  show (if (a.o.map nv).length = (a.o.map nv).length then eqV.eqs (eqV 4 _) (a.o.map nv) (a.o.map nv) else some false) = _
  rw [if_pos rfl]; exact eq_nums _ 3 _
 have e2 : eqV 5 (X (toB a) a tm) (.ref .fitems) (.ref .active) = some true := by
  show (if Ad.fitems = Ad.active then none else if (a.f.map nv).length = (a.f.map nv).length then eqV.eqs (eqV 4 _) (a.f.map nv) (a.f.map nv) else some false) = _
  rw [if_neg (by decide), if_pos rfl]; exact eq_nums _ 3 _
 have e3 : eqV 5 (X (toB a) a tm) (.ref .errors) (.ref .derrors) = some true := by
  show (if Ad.errors = Ad.derrors then none else if (a.e.map pairV).length = (a.e.map pairV).length then eqV.eqs (eqV 4 _) (a.e.map pairV) (a.e.map pairV) else some false) = _
  rw [if_neg (by decide), if_pos rfl]; exact eq_pairs _ 2 _
 have es : ∀ s : Str, eqV 5 (X (toB a) a tm) (.str s) (.str s) = some true := fun s => by show some (decide (s = s)) = _; simp
 have eb : ∀ s : Bool, eqV 5 (X (toB a) a tm) (.bool s) (.bool s) = some true := fun s => by show some (decide (s = s)) = _; simp
 have e : eqV 6 (X (toB a) a tm) (seenV a) (toldV a) = some true := by
  show eqV.eqs (eqV 5 _) _ _ = _
  exact eqs_cons e1 (eqs_cons e2 (eqs_cons e3 (eqs_cons (es _) (eqs_cons (es _) (eqs_cons (es _) (eqs_cons (eb _) (eqs_cons (eb _) (eqs_cons (eb _) rfl))))))))
 show ob (eqV 6 _ (seenV a) (toldV a)) (fun r => some (!r)) = _
 rw [e]
 rfl
end Mine
namespace Mine
open PySem PySem.W
noncomputable def seven : List Str := ["iframe", "math", "noembed", "noscript", "select", "svg", "textarea"].map Str.ofString
noncomputable def A.popLast (c : A) : A := if nmOf c.N (topOf c.o) ∈ seven then c.so c.o.dropLast else c
theorem ok_seven : ∀ x ∈ okNames, x ∉ seven := by decide +kernel
theorem Hs.put {m : Nat} {a : A} {sp nm : Str} {att : List (Str × Str)} {p : Nat} (H : Bd m a) (G : Hs a) : Hs (a.sN (putN a.N sp nm att p)) := by
 refine ⟨fun x hx => ?_, ?_, ?_⟩
 ·obtain ⟨nd, h1, h2, h3⟩ := G.opn x hx
  obtain ⟨y, e1, e2, e3, _⟩ := putN_get (sp := sp) (nm := nm) (att := att) (p := p) h1
  exact ⟨y, e1, by rw [e2]; exact h2, by rw [e3]; exact h3⟩
 ·obtain ⟨nd, h1, h2⟩ := G.h1
  obtain ⟨y, e1, _, e3, _⟩ := putN_get (sp := sp) (nm := nm) (att := att) (p := p) h1
  exact ⟨y, e1, by rw [e3]; exact h2⟩
 ·obtain ⟨nd, h1, h2⟩ := G.h2
  obtain ⟨y, e1, _, e3, _⟩ := putN_get (sp := sp) (nm := nm) (att := att) (p := p) h1
  exact ⟨y, e1, by rw [e3]; exact h2⟩
theorem Hs.el {m : Nat} {a : A} {nm : Str} {att : List (Str × Str)} (H : Bd m a) (G : Hs a) (hn : nm ∈ okNames) : Hs (a.el (os "html") nm att) := by
 have P := G.put (sp := os "html") (nm := nm) (att := att) (p := topOf a.o) H
 refine ⟨fun x hx => ?_, P.h1, P.h2⟩
 have hx' : x ∈ a.o ++ [a.N.length] := hx
 rcases List.mem_append.mp hx' with h | h
 ·exact P.opn x h
 ·rw [List.mem_singleton.mp h]
  exact ⟨_, putN_new, rfl, hn⟩
theorem Bd.el {m : Nat} {a : A} {sp nm : Str} {att : List (Str × Str)} (H : Bd m a) (hm : m < 890) (h : att.length ≤ 800) : Bd (m + 1) (a.el sp nm att) := by
 obtain ⟨r, p, e, hp, _⟩ := H.top
 exact H.ins hm (by rw [top_eq e]; exact hp) h
theorem Bd.put' {m : Nat} {a : A} {sp nm : Str} {att : List (Str × Str)} (H : Bd m a) (hm : m < 890) (h : att.length ≤ 800) : Bd (m + 1) (a.sN (Mine.putN a.N sp nm att (topOf a.o))) := by
 obtain ⟨r, p, e, hp, _⟩ := H.top
 exact H.putN hm (by rw [top_eq e]; exact hp) h
theorem Hs.redo {m i : Nat} {a : A} (H : Bd m a) (G : Hs a) : Hs (a.redo i) := by
 unfold A.redo
 split
 ·split
  ·have := G.el (nm := os "b") (att := ‹Nd›.att) H (by simp [okNames])
   exact ⟨this.opn, this.h1, this.h2⟩
  ·exact G
 ·exact G
theorem Hs.recon {m : Nat} {a : A} (H : Bd m a) (hm : m < 889) (G : Hs a) : Hs a.recon := by
 have hf := H.hf
 unfold A.recon
 match e : a.f, hf with
 | [], _ => exact G
 | [x], _ =>
  show Hs (if x ∈ a.o then a else a.redo 0)
  split
  ·exact G
  ·exact G.redo H
 | [x, y], _ =>
  show Hs (if y ∈ a.o then a else if x ∈ a.o then a.redo 1 else (a.redo 0).redo 1)
  split
  ·exact G
  ·split
   ·exact G.redo H
   ·exact (G.redo (i := 0) H).redo (H.redo (i := 0) (by lia) (by rw [e]; simp)).1
 | _ :: _ :: _ :: _, h => exact absurd h (by simp)
structure Post (m : Nat) (c : A) : Prop where
 bd : Bd m c
 bd2 : Bd m c.popLast
 hs : Hs c.popLast
theorem Post.plain {m : Nat} {c : A} (H : Bd m c) (G : Hs c) : Post m c := by
 have h : nmOf c.N (topOf c.o) ∉ seven := by
  obtain ⟨r, p, e, hp, _⟩ := H.top
  obtain ⟨nd, h1, _, h3⟩ := G.opn p (by rw [e]; simp)
  rw [top_eq e, nmOf_eq h1]
  exact ok_seven _ h3
 have e : c.popLast = c := by unfold A.popLast; rw [if_neg h]
 exact ⟨H, by rw [e]; exact H, by rw [e]; exact G⟩
theorem el_top {a : A} {sp nm : Str} {att : List (Str × Str)} : nmOf (a.el sp nm att).N (topOf (a.el sp nm att).o) = nm := by
 have : topOf (a.el sp nm att).o = a.N.length := top_eq (o := a.o ++ [a.N.length]) rfl
 rw [this]
 exact nmOf_eq putN_new
theorem Post.seven {m : Nat} {a c : A} {sp nm : Str} {att : List (Str × Str)} (H : Bd m a) (G : Hs a) (hm : m < 890) (h : att.length ≤ 800) (hn : nm ∈ seven) (hN : c.N = (a.el sp nm att).N) (ho : c.o = (a.el sp nm att).o) (hf : c.f = a.f) (he : c.e = a.e) : Post (m + 1) c := by
 have E := H.el (sp := sp) (nm := nm) hm h
 have P := H.put' (sp := sp) (nm := nm) hm h
 have Q := G.put (sp := sp) (nm := nm) (att := att) (p := topOf a.o) H
 have e1 : c.popLast = c.so a.o := by
  unfold A.popLast
  rw [hN, ho, el_top, if_pos hn]
  have : (a.el sp nm att).o.dropLast = a.o := by show (a.o ++ [_]).dropLast = _; simp
  rw [this]
 have hN' : c.N = (a.sN (putN a.N sp nm att (topOf a.o))).N := hN
 refine ⟨?_, ?_, ?_⟩
 ·exact ⟨E.hm, by rw [hN]; exact E.hN, by rw [hN]; exact E.h0, by rw [ho]; exact E.ho, by rw [hN, ho]; exact E.oN, by rw [ho]; exact E.o1, by rw [ho]; exact E.od, by rw [hf]; exact E.hf, by rw [hN, hf]; exact E.fb, by rw [he]; exact E.he, by rw [hN]; exact E.wt, by rw [hN]; exact E.kd, by rw [hN]; exact E.ta⟩
 ·rw [e1]
  have h1 : (c.so a.o).N = (a.sN (Mine.putN a.N sp nm att (topOf a.o))).N := hN
  exact ⟨P.hm, by rw [h1]; exact P.hN, by rw [h1]; exact P.h0, P.ho, by rw [h1]; exact P.oN, P.o1, P.od, by show c.f.length ≤ 2; rw [hf]; exact P.hf, by rw [h1]; show ∀ x ∈ c.f, _; rw [hf]; exact P.fb, by show c.e.length ≤ _; rw [he]; exact P.he, by rw [h1]; exact P.wt, by rw [h1]; exact P.kd, by rw [h1]; exact P.ta⟩
 ·rw [e1]
  have h1 : (c.so a.o).N = (a.sN (Mine.putN a.N sp nm att (topOf a.o))).N := hN
  exact ⟨by rw [h1]; exact Q.opn, by rw [h1]; exact Q.h1, by rw [h1]; exact Q.h2⟩
theorem Post.mono {m m' : Nat} {c : A} (P : Post m c) (h : m ≤ m') (h' : m' ≤ 890) : Post m' c := ⟨P.bd.mono h h', P.bd2.mono h h', P.hs⟩
theorem Bd.same {m : Nat} {a c : A} (H : Bd m a) (hN : c.N = a.N) (ho : c.o = a.o) (hf : c.f = a.f) (he : c.e = a.e) : Bd m c :=
 ⟨H.hm, by rw [hN]; exact H.hN, by rw [hN]; exact H.h0, by rw [ho]; exact H.ho, by rw [hN, ho]; exact H.oN, by rw [ho]; exact H.o1, by rw [ho]; exact H.od, by rw [hf]; exact H.hf, by rw [hN, hf]; exact H.fb, by rw [he]; exact H.he, by rw [hN]; exact H.wt, by rw [hN]; exact H.kd, by rw [hN]; exact H.ta⟩
theorem Hs.same {a c : A} (G : Hs a) (hN : c.N = a.N) (ho : c.o = a.o) : Hs c := ⟨by rw [hN, ho]; exact G.opn, by rw [hN]; exact G.h1, by rw [hN]; exact G.h2⟩
theorem errRuby_ok {m : Nat} {a : A} (H : Bd m a) (G : Hs a) (hm : m < 880) (i : Bool) : Bd (m + 1) (a.errRuby i) ∧ Hs (a.errRuby i) := by
 unfold A.errRuby
 split
 ·exact ⟨H.err (by lia), G.err⟩
 ·exact ⟨H.mono (by lia) (by lia), G⟩
theorem word_facts : ∀ x ∈ wordsL, x ≠ os "/" → x ≠ os "template" ∧ (x ∈ rbN → x ∈ okNames) ∧ (x ∈ liN → x ∈ okNames) ∧ (x ∈ opN → x ∈ okNames) ∧ (x ∈ rwN → x ∈ seven) ∧ (x ∈ fgN → x ∈ seven) ∧ (x ∈ misN ++ rbN ++ liN ++ vdN ++ rwN ++ opN ++ fgN ++ [os "input", os "image", os "textarea", os "select"] ∨ x ∈ okNames) := by decide +kernel
theorem adjL_len (sp : Str) (att : List (Str × Str)) : (adjL sp att).length = att.length := by unfold adjL; rw [List.length_map]
theorem step_post {m : Nat} {a : A} {nm : Str} {att : List (Str × Str)} {sc : Bool} (H : Bd m a) (G : Hs a) (hm : m < 860) (hw : nm ∈ wordsL) (h0 : nm ≠ os "/") (h2 : att.length ≤ 800) (hf : nm = os "b" → a.recon.f.length ≤ 1) : Post (m + 4) (a.step nm att sc) := by
 obtain ⟨_, w1, w2, w3, w4, w5, w6⟩ := word_facts nm hw h0
 have R := H.recon (by lia)
 have S := Hs.recon H (by lia) G
 have ra := recon_keep a
 unfold A.step
 by_cases c1 : nm ∈ misN
 ·rw [if_pos c1]
  exact (Post.plain (H.err (by lia)) G.err).mono (by lia) (by lia)
 rw [if_neg c1]
 by_cases c2 : nm ∈ rbN
 ·rw [if_pos c2]
  obtain ⟨P, Q⟩ := popRuby_bd H G (decide (nm ∈ [os "rp", os "rt"]))
  obtain ⟨P2, Q2⟩ := errRuby_ok P Q (by lia) (decide (nm ∈ [os "rp", os "rt"]))
  exact (Post.plain (P2.el (by lia) h2) (Q2.el P2 (w1 c2))).mono (by lia) (by lia)
 rw [if_neg c2]
 by_cases c3 : nm ∈ liN
 ·rw [if_pos c3]
  exact (Post.plain (H.el (by lia) h2) (G.el H (w2 c3))).mono (by lia) (by lia)
 rw [if_neg c3]
 have vd : ∀ (b : A) (nm : Str), Bd (m + 3) b → Hs b → ∀ c : A, c.N = putN b.N (os "html") nm att (topOf b.o) → c.o = b.o → c.f = b.f → c.e = b.e → Post (m + 4) c := by
  intro b nm B B2 c e1 e2 e3 e4
  exact Post.plain ((B.put' (sp := os "html") (nm := nm) (by lia) h2).same e1 e2 e3 e4) ((B2.put (sp := os "html") (nm := nm) (att := att) (p := topOf b.o) B).same e1 e2)
 have R3 : Bd (m + 3) a.recon := R.mono (by lia) (by lia)
 by_cases c4 : nm ∈ vdN
 ·rw [if_pos c4]
  exact vd a.recon nm R3 S _ rfl rfl rfl rfl
 rw [if_neg c4]
 by_cases c5 : nm = os "input"
 ·rw [if_pos c5]
  cases hid att
  ·exact vd a.recon nm R3 S _ rfl rfl rfl rfl
  ·exact vd a.recon nm R3 S _ rfl rfl rfl rfl
 rw [if_neg c5]
 by_cases c6 : nm = os "image"
 ·rw [if_pos c6]
  have HE : Bd (m + 1) (a.err (os "unexpected-start-tag")) := H.err (by lia)
  exact vd (a.err (os "unexpected-start-tag")).recon (os "img") (HE.recon (by lia)) (Hs.recon HE (by lia) G.err) _ rfl rfl rfl rfl
 rw [if_neg c6]
 by_cases c7 : nm = os "textarea"
 ·rw [if_pos c7]
  refine Post.mono (m' := m + 4) (c := _) (Post.seven (nm := nm) (sp := os "html") H G (by lia) h2 (by rw [c7]; simp [seven]) rfl rfl rfl rfl) (by lia) (by lia)
 rw [if_neg c7]
 by_cases c8 : nm ∈ rwN
 ·rw [if_pos c8]
  by_cases c : nm = os "iframe"
  ·rw [if_pos c]
   refine Post.mono (m' := m + 4) (c := _) (Post.seven (nm := nm) (sp := os "html") H G (by lia) h2 (w4 c8) rfl rfl rfl rfl) (by lia) (by lia)
  ·rw [if_neg c]
   refine Post.mono (m' := m + 4) (c := _) (Post.seven (nm := nm) (sp := os "html") H G (by lia) h2 (w4 c8) rfl rfl rfl rfl) (by lia) (by lia)
 rw [if_neg c8]
 by_cases c9 : nm = os "select"
 ·rw [if_pos c9]
  refine Post.mono (m' := m + 4) (c := _) (Post.seven (nm := nm) (sp := os "html") R S (by lia) h2 (by rw [c9]; simp [seven]) rfl rfl rfl rfl) (by lia) (by lia)
 rw [if_neg c9]
 by_cases c10 : nm ∈ opN
 ·rw [if_pos c10]
  have P := popOpt_bd H G
  have Q : Hs a.popOpt := by
   unfold A.popOpt
   split
   ·exact G.so (fun x hx => (List.dropLast_subset _) hx)
   ·exact G
  refine Post.mono (m' := m + 4) (Post.plain (m := m + 3) ((P.recon (by lia)).el (by lia) h2) ((Hs.recon P (by lia) Q).el (P.recon (by lia)) (w3 c10))) (by lia) (by lia)
 rw [if_neg c10]
 by_cases c11 : nm ∈ fgN
 ·rw [if_pos c11]
  cases sc
  ·refine Post.mono (m' := m + 4) (c := _) (Post.seven (nm := nm) (sp := nm) R S (by lia) (by rw [adjL_len]; exact h2) (w5 c11) rfl rfl rfl rfl) (by lia) (by lia)
  ·refine Post.mono (m' := m + 4) (Post.plain (m := m + 3) ((R.put' (sp := nm) (nm := nm) (att := adjL nm att) (by lia) (by rw [adjL_len]; exact h2)).same rfl rfl rfl rfl) ((S.put (sp := nm) (nm := nm) (att := adjL nm att) (p := topOf a.recon.o) R).same rfl rfl)) (by lia) (by lia)
 rw [if_neg c11]
 have hk : nm ∈ okNames := by
  rcases w6 with h | h
  ·simp only [List.mem_append, List.mem_cons, List.mem_nil_iff, or_false] at h
   rcases h with ((((((h | h) | h) | h) | h) | h) | h) | h | h | h | h
   ·exact absurd h c1
   ·exact absurd h c2
   ·exact absurd h c3
   ·exact absurd h c4
   ·exact absurd h c8
   ·exact absurd h c10
   ·exact absurd h c11
   ·exact absurd h c5
   ·exact absurd h c6
   ·exact absurd h c7
   ·exact absurd h c9
  ·exact h
 have E := R.el (sp := os "html") (nm := nm) (by lia) h2
 have F := S.el (att := att) R hk
 by_cases c : nm = os "b"
 ·rw [if_pos c]
  have hl := hf c
  have EF : Bd (m + 3) ((a.recon.el (os "html") nm att).sf (a.recon.f ++ [a.recon.N.length])) := by
   refine E.sf (by rw [List.length_append]; simp; lia) ?_
   intro x hx
   rcases List.mem_append.mp hx with h | h
   ·exact E.fb x h
   ·rw [List.mem_singleton.mp h]
    exact ⟨_, putN_new, rfl, c⟩
  exact (Post.plain EF ⟨F.opn, F.h1, F.h2⟩).mono (by lia) (by lia)
 ·rw [if_neg c]
  exact (Post.plain E F).mono (by lia) (by lia)
theorem fin_post {m : Nat} {c : A} {sc : Bool} (P : Post m c) (hm : m < 890) : Post (m + 1) (c.fin sc) := by
 unfold A.fin
 split
 ·refine ⟨P.bd.err hm, ?_, ?_⟩
  ·have h := P.bd2.err (w := os "non-void-html-element-start-tag-with-trailing-solidus") hm
   have e : (c.err (os "non-void-html-element-start-tag-with-trailing-solidus")).popLast = c.popLast.err (os "non-void-html-element-start-tag-with-trailing-solidus") := by
    unfold A.popLast
    show (if nmOf c.N (topOf c.o) ∈ seven then _ else _) = _
    split <;> rfl
   rw [e]; exact h
  ·have e : (c.err (os "non-void-html-element-start-tag-with-trailing-solidus")).popLast = c.popLast.err (os "non-void-html-element-start-tag-with-trailing-solidus") := by
    unfold A.popLast
    show (if nmOf c.N (topOf c.o) ∈ seven then _ else _) = _
    split <;> rfl
   rw [e]; exact P.hs.err
 ·exact P.mono (by lia) (by lia)
end Mine
set_option maxHeartbeats 4000000
namespace Mine
open PySem PySem.W
noncomputable def lawL (S mo : MV) (k : Nat) (dg mr : Int) (t : List (String × MV)) : Loc := argL ([("script", S), ("modes", .tup (modes8.map .str)), ("rules", .ref .rules), ("mode", mo), ("builder", .ref .builder), ("tree", .ref .tree), ("root", nv 1), ("due", .ref .due), ("words", .lst (wordsL.map .str)), ("usual", .lst (usualL.map .str)),
 ("k", nv k), ("digit", .int dg), ("more", .int mr)] ++ t)
noncomputable abbrev LB : List Stmt := wB (sAt (fnB 73 0) 13)
section
variable {n m : Nat} {S mo : MV} {k : Nat} {dg mr : Int} {tm : List MO} {K : Fl → Loc → St → Prop}
theorem ss_nil_next {T : Tab} {pol : Pol} {rec : Rec} {sc : Scope} {loc : Loc} {st : St} {G : Loc → St → Prop} {K' : Fl → Loc → St → Prop} (h : G loc st) : cSs T pol rec [] sc loc st (fun fl loc st => cThen G K' fl loc st) := h
theorem then_next {loc : Loc} {st : St} {G : Loc → St → Prop} {K' : Fl → Loc → St → Prop} (h : G loc st) : cThen G K' .next loc st := h
theorem seg15 {c : A} {t : List (String × MV)} {w tk : MV} (P : Post m c) (ht : t = [("word", w), ("token", tk)] ∨ ∃ nb, t = [("word", w), ("token", tk), ("number", nb)]) (kk : K .next (lawL S mo k dg mr t) (X (toB c.popLast) c.popLast tm)) :
  cSs theTab thePol (C (n+15)) (LB.drop 15) (fnS 73 0) (lawL S mo k dg mr t) (X (toB c) c tm) K := by
 obtain ⟨r, p, e, hp, hr⟩ := P.bd.top
 have hd : c.o.dropLast = r := by rw [e]; simp
 unfold A.popLast at kk
 rcases ht with rfl | ⟨nb, rfl⟩
 all_goals
  refine held_s P.bd ?_
  refine nms_last e ?_
  refine cif_d (P := nmOf c.N (topOf c.o) ∈ seven) (any_strs _ seven) (fun h => ?_) (fun h => ?_)
  ·rw [if_pos h, hd] at kk
   refine pop_s e (lt_lim (by lia)) ?_
   refine cut_last (by rw [List.length_map]; have := P.bd.ho; have := P.bd.hm; exact le_lim (by lia)) ?_
   rw [← List.map_dropLast, hd]
   refine set_open (a := c) (by exact Nat.le_of_ble_eq_true rfl) ?_
   exact kk
  ·rw [if_neg h] at kk
   exact kk
theorem endE_post {a : A} (H : Bd m a) (G : Hs a) : Post m a.endE := by
 unfold A.endE
 split
 ·rename_i h
  obtain ⟨q, hq⟩ := H.o1
  have hs : ∀ x ∈ a.o.dropLast, x ∈ a.o := fun x hx => (List.dropLast_subset _) hx
  refine Post.plain (H.so (by rw [List.length_dropLast]; have := H.ho; lia) hs ⟨q.dropLast, ?_⟩ (H.od.sublist (List.dropLast_sublist _))) (G.so hs)
  rw [hq] at h ⊢
  cases q with
  | nil => simp at h
  | cons c r => rfl
 ·exact Post.plain H G
theorem redo_flen (a : A) (i : Nat) : (a.redo i).f.length = a.f.length := by
 exact redo_elim (P := fun b => b.f.length = a.f.length) rfl fun _ _ _ _ => List.length_set
theorem recon_flen (a : A) : a.recon.f.length = a.f.length := by
 exact recon_elim (P := fun b => b.f.length = a.f.length) rfl (redo_flen a 0) (redo_flen a 1) ((redo_flen _ 1).trans (redo_flen a 0))
noncomputable def A.pre (a : A) (mo : Str) : A := (((a.smode mo).sorig (os "")).swish (os "")).sok true
theorem pre_bd {a : A} (H : Bd m a) (mo : Str) : Bd m (a.pre mo) := H.same rfl rfl rfl rfl
theorem pre_hs {a : A} (G : Hs a) (mo : Str) : Hs (a.pre mo) := G.same rfl rfl
noncomputable def okX (x : List (Str × MV)) : Prop := x = [] ∨ ∃ a', x = moreA a'
noncomputable def Tl1 (w : MV) (t : List (String × MV)) : Prop := t = [("word", w)] ∨ (∃ tk, t = [("word", w), ("token", tk)]) ∨ ∃ tk nb, t = [("word", w), ("token", tk), ("number", nb)]
noncomputable def Tl2 (t : List (String × MV)) : Prop := ∃ w tk, t = [("word", w), ("token", tk)] ∨ ∃ nb, t = [("word", w), ("token", tk), ("number", nb)]
theorem seg11 {a : A} {x : List (Str × MV)} {w mo : Str} {t : List (String × MV)} (H : Bd m a) (G : Hs a) (hm : m < 800) (hx : okX x) (hk : k < 100) (hmo : mo ∈ modes8) (hw : w ∈ wordsL) (hb : w = os "b" → a.f.length ≤ 1) (ht : Tl1 (.str w) t)
  (kk : ∀ (t' : List (String × MV)) (c : A) (tm' : List MO), Tl2 t' → Bd (m + 5) c → Hs c → K .next (lawL S (.str mo) k dg mr t') (X (toB c) c tm')) :
  cSs theTab thePol (C (n+15)) (LB.drop 11) (fnS 73 0) (lawL S (.str mo) k dg mr t) (W (toB (a.pre mo)) (toDx a x) tm) K := by
 have H1 := start_bd H mo
 have G1 := start_hs G mo
 have done : ∀ (c : A) (tm : List MO) (t : List (String × MV)) (w tk : MV), Post (m + 5) c → (t = [("word", w), ("token", tk)] ∨ ∃ nb, t = [("word", w), ("token", tk), ("number", nb)]) → cSs theTab thePol (C (n+15)) (LB.drop 14) (fnS 73 0) (lawL S (.str mo) k dg mr t) (X (toB c) c tm) K := by
  intro c tm t w tk P ht
  have s15 := fun tm => seg15 (n := n) (S := S) (mo := .str mo) (k := k) (dg := dg) (mr := mr) (tm := tm) P ht (kk t _ tm ⟨w, tk, ht⟩ P.bd2 P.hs)
  rcases ht with rfl | ⟨nb, rfl⟩
  all_goals
   refine seen_s ?_
   refine told_s ?_
   refine seen_told ?_
   refine cif_f rfl ?_
   refine ss_nil_next ?_
   exact s15 tm
 by_cases hs : w = os "/"
 ·subst hs
  have P : Post (m + 5) (a.start mo).endE := (endE_post H1 G1).mono (by lia) (by lia)
  have fd : (a.pre mo).fedE = (a.start mo).endE := rfl
  have dn := fun tm t tk ht => done (a.start mo).endE tm t (sv "/") tk P ht
  rcases ht with rfl | ⟨tk, rfl⟩ | ⟨tk, nb, rfl⟩
  ·refine tokenE_s ?_
   refine feedE_s (pre_bd H mo) (pre_hs G mo) hmo ?_
   rw [fd]
   refine dueE_s H hx ?_
   intro tm'
   refine then_next ?_
   exact dn tm' [("word", sv "/"), ("token", tokE)] tokE (.inl rfl)
  ·refine tokenE_s ?_
   refine feedE_s (pre_bd H mo) (pre_hs G mo) hmo ?_
   rw [fd]
   refine dueE_s H hx ?_
   intro tm'
   refine then_next ?_
   exact dn tm' [("word", sv "/"), ("token", tokE)] tokE (.inl rfl)
  ·refine tokenE_s ?_
   refine feedE_s (pre_bd H mo) (pre_hs G mo) hmo ?_
   rw [fd]
   refine dueE_s H hx ?_
   intro tm'
   refine then_next ?_
   exact dn tm' [("word", sv "/"), ("token", tokE), ("number", nb)] tokE (.inr ⟨nb, rfl⟩)
 ·have hf : w = os "b" → (a.start mo).recon.f.length ≤ 1 := fun h => by rw [recon_flen]; exact hb h
  have go : ∀ (j : Nat), j < 6 → ∀ {tm : List MO} {K : MV → St → Prop}, (∀ tm', K .none (U (((a.start mo).step w (attK k j) (scOf mr k)).fin (scOf mr k)) (toDx a x) tm')) → Yes2 (C (n+15) (.fn 56 6) [.ref .builder, tokV w (attK k j) (scOf mr k)] (U (a.pre mo) (toDx a x) tm)) K := by
   intro j hj tm K k1
   obtain ⟨a1, a2, a3, a4⟩ := att_ok (k := k) hj
   have P := step_post (sc := scOf mr k) H1 G1 (by lia) hw hs a1 hf
   exact feed_s (pre_bd H mo) (pre_hs G mo) (by lia) hmo ⟨(word_facts w hw hs).1, a1, a2, a3⟩ hf (Nat.le_trans P.bd.he (by lia)) k1
  have go2 : ∀ (j : Nat), j < 6 → ∀ {b : B} {tm : List MO} {K : MV → St → Prop}, (∀ tm', K .none (X b (((a.start mo).step w (attK k j) (scOf mr k)).fin (scOf mr k)) tm')) → Yes2 (C (n+15) (.fn 72 0) [.ref .due, tokV w (attK k j) (scOf mr k), .str mo] (Y b a x tm)) K := by
   intro j hj b tm K k1
   obtain ⟨a1, a2, a3, a4⟩ := att_ok (k := k) hj
   have P := step_post (sc := scOf mr k) H1 G1 (by lia) hw hs a1 hf
   exact due_s H G (by lia) hx a4 hmo (Nat.le_trans P.bd.he (by lia)) k1
  have dn : ∀ (j : Nat), j < 6 → ∀ tm t, (t = [("word", .str w), ("token", tokV w (attK k j) (scOf mr k))] ∨ ∃ nb, t = [("word", .str w), ("token", tokV w (attK k j) (scOf mr k)), ("number", nb)]) → cSs theTab thePol (C (n+15)) (LB.drop 14) (fnS 73 0) (lawL S (.str mo) k dg mr t) (X (toB (((a.start mo).step w (attK k j) (scOf mr k)).fin (scOf mr k))) (((a.start mo).step w (attK k j) (scOf mr k)).fin (scOf mr k)) tm) K := by
   intro j hj tm t ht
   obtain ⟨a1, a2, a3, a4⟩ := att_ok (k := k) hj
   exact done _ tm t _ _ (fin_post (step_post H1 G1 (by lia) hw hs a1 hf) (by lia)) ht
  rcases ht with rfl | ⟨tk, rfl⟩ | ⟨tk, nb, rfl⟩
  ·refine token_s hs hk ?_
   intro j hj
   refine go j hj ?_
   intro tm1
   refine go2 j hj ?_
   intro tm2
   refine then_next ?_
   exact dn j hj tm2 [("word", .str w), ("token", tokV w (attK k j) (scOf mr k))] (.inl rfl)
  ·refine token_s hs hk ?_
   intro j hj
   refine go j hj ?_
   intro tm1
   refine go2 j hj ?_
   intro tm2
   refine then_next ?_
   exact dn j hj tm2 [("word", .str w), ("token", tokV w (attK k j) (scOf mr k))] (.inl rfl)
  ·refine token_s hs hk ?_
   intro j hj
   refine go j hj ?_
   intro tm1
   refine go2 j hj ?_
   intro tm2
   refine then_next ?_
   exact dn j hj tm2 [("word", .str w), ("token", tokV w (attK k j) (scOf mr k)), ("number", nb)] (.inr ⟨nb, rfl⟩)
end
end Mine
set_option maxHeartbeats 4000000
namespace Mine
open PySem PySem.W
theorem ss_const {T : Tab} {pol : Pol} {rec : Rec} {sc : Scope} {loc : Loc} {st : St} {z : Str} {c : Str} {k : Nat} {p q r : Pos} {G : Loc → St → Prop} {K' : Fl → Loc → St → Prop} (hk : lookKind sc z = some .local) (h : G (setL z (.str c) loc) st) :
  cSs T pol rec [.Assign [.Name z p] (.Constant (.str c) k q) r] sc loc st (fun fl loc st => cThen G K' fl loc st) := by
 show (match lookKind sc z with | some .local | some .cell => _ | _ => _ : Prop)
 rw [hk]
 exact h
noncomputable def Tl0 (t : List (String × MV)) : Prop := t = [] ∨ (∃ w tk, t = [("word", w), ("token", tk)]) ∨ ∃ w tk nb, t = [("word", w), ("token", tk), ("number", nb)]
section
variable {n m : Nat} {S mo0 : MV} {k : Nat} {dg mr : Int} {tm : List MO} {K : Fl → Loc → St → Prop} {a : A} {x : List (Str × MV)} {t : List (String × MV)}
noncomputable def Next (m : Nat) (S : MV) (k : Nat) (dg mr : Int) (K : Fl → Loc → St → Prop) : Prop :=
 ∀ (mo : Str) (t' : List (String × MV)) (c : A) (tm' : List MO), Tl2 t' → Bd m c → Hs c → K .next (lawL S (.str mo) k dg mr t') (X (toB c) c tm')
theorem words_len : wordsL.length = 40 := by decide
theorem seg9 {mo : Str} (H : Bd m a) (G : Hs a) (hm : m < 800) (hx : okX x) (hk : k < 100) (hmo : mo ∈ modes8) (ht : Tl0 t) (kk : Next (m + 5) S k dg mr K) :
  cSs theTab thePol (C (n+15)) (LB.drop 9) (fnS 73 0) (lawL S (.str mo) k dg mr t) (W (toB (a.pre mo)) (toDx a x) tm) K := by
 obtain ⟨j, hj, ej⟩ := mod_nat dg 40 (by decide)
 obtain ⟨w, hw⟩ : ∃ w, wordsL[j]? = some w := ⟨_, List.getElem?_eq_getElem (by rw [words_len]; exact hj)⟩
 have hwm := List.mem_of_getElem? hw
 have s11 : ∀ (w : Str) (t' : List (String × MV)), w ∈ wordsL → (w = os "b" → a.f.length ≤ 1) → Tl1 (.str w) t' → cSs theTab thePol (C (n+15)) (LB.drop 11) (fnS 73 0) (lawL S (.str mo) k dg mr t') (W (toB (a.pre mo)) (toDx a x) tm) K :=
  fun w t' h1 h2 h3 => seg11 H G hm hx hk hmo h1 h2 h3 (fun t' c tm' => kk mo t' c tm')
 have hsp : os "span" ∈ wordsL := by simp [wordsL]
 have hsb : os "span" = os "b" → a.f.length ≤ 1 := fun h => by simp [ofString_inj] at h
 have wl : ∀ {K : MV → Prop} {st : St}, K (nv 40) → Yes (builtin st "len" [.lst (wordsL.map .str)]) K := fun k => v_len (by rw [List.length_map, words_len]; decide) (by rw [List.length_map, words_len]; exact k)
 have at_ : ∀ {K : MV → Prop} {st : St}, K (.str w) → Yes (subOf st (.lst (wordsL.map .str)) (.int (Int.fmod dg (40 : Nat)))) K := fun k => v_sub ej (by rw [List.getElem?_map, hw]; rfl) (le_lim (by lia)) k
 have fl : ∀ {K : MV → Prop} {b : B}, K (nv a.f.length) → Yes (builtin (Y b a x tm) "len" [.ref .active]) K := fun k => da_len rfl H.hf k
 rcases ht with rfl | ⟨w0, tk, rfl⟩ | ⟨w0, tk, nb, rfl⟩
 ·refine wl ?_
  refine bin_mod (by decide) ?_
  refine at_ ?_
  refine cif_d (P := w = os "b") rfl (fun h => ?_) (fun h => ?_)
  ·refine fl ?_
   refine cif_d (P := 1 < a.f.length) (by simp <;> lia) (fun h' => ?_) (fun h' => ?_)
   ·refine cif_t rfl ?_
    refine ss_const (by rfl) ?_
    exact s11 (os "span") [("word", sv "span")] hsp hsb (.inl rfl)
   ·refine cif_f rfl ?_
    refine ss_nil_next ?_
    exact s11 w [("word", .str w)] hwm (fun _ => by lia) (.inl rfl)
  ·refine cif_f rfl ?_
   refine ss_nil_next ?_
   exact s11 w [("word", .str w)] hwm (fun q => absurd q h) (.inl rfl)
 ·refine wl ?_
  refine bin_mod (by decide) ?_
  refine at_ ?_
  refine cif_d (P := w = os "b") rfl (fun h => ?_) (fun h => ?_)
  ·refine fl ?_
   refine cif_d (P := 1 < a.f.length) (by simp <;> lia) (fun h' => ?_) (fun h' => ?_)
   ·refine cif_t rfl ?_
    refine ss_const (by rfl) ?_
    exact s11 (os "span") [("word", sv "span"), ("token", tk)] hsp hsb (.inr (.inl ⟨tk, rfl⟩))
   ·refine cif_f rfl ?_
    refine ss_nil_next ?_
    exact s11 w [("word", .str w), ("token", tk)] hwm (fun _ => by lia) (.inr (.inl ⟨tk, rfl⟩))
  ·refine cif_f rfl ?_
   refine ss_nil_next ?_
   exact s11 w [("word", .str w), ("token", tk)] hwm (fun q => absurd q h) (.inr (.inl ⟨tk, rfl⟩))
 ·refine wl ?_
  refine bin_mod (by decide) ?_
  refine at_ ?_
  refine cif_d (P := w = os "b") rfl (fun h => ?_) (fun h => ?_)
  ·refine fl ?_
   refine cif_d (P := 1 < a.f.length) (by simp <;> lia) (fun h' => ?_) (fun h' => ?_)
   ·refine cif_t rfl ?_
    refine ss_const (by rfl) ?_
    exact s11 (os "span") [("word", sv "span"), ("token", tk), ("number", nb)] hsp hsb (.inr (.inr ⟨tk, nb, rfl⟩))
   ·refine cif_f rfl ?_
    refine ss_nil_next ?_
    exact s11 w [("word", .str w), ("token", tk), ("number", nb)] hwm (fun _ => by lia) (.inr (.inr ⟨tk, nb, rfl⟩))
  ·refine cif_f rfl ?_
   refine ss_nil_next ?_
   exact s11 w [("word", .str w), ("token", tk), ("number", nb)] hwm (fun q => absurd q h) (.inr (.inr ⟨tk, nb, rfl⟩))
theorem modes_len : modes8.length = 8 := by decide
theorem seg4 (H : Bd m a) (G : Hs a) (hm : m < 800) (hx : okX x) (hk : k < 100) (ht : Tl0 t) (kk : Next (m + 5) S k dg mr K) :
  cSs theTab thePol (C (n+15)) (LB.drop 4) (fnS 73 0) (lawL S mo0 k dg mr t) (W (toB a) (toDx a x) tm) K := by
 obtain ⟨j, hj, ej⟩ := mod_nat (Int.fdiv mr 96 + k) 8 (by decide)
 obtain ⟨mo, hw⟩ : ∃ w, modes8[j]? = some w := ⟨_, List.getElem?_eq_getElem (by rw [modes_len]; exact hj)⟩
 have hmo := List.mem_of_getElem? hw
 have at_ : ∀ {K : MV → Prop} {st : St}, K (.str mo) → Yes (subOf st (.tup (modes8.map .str)) (.int (Int.fmod (Int.fdiv mr 96 + k) 8))) K := fun k => t_subC ej (by rw [List.getElem?_map, hw]; rfl) (le_lim (by lia)) k
 have s9 := fun t ht => seg9 (n := n) (S := S) (k := k) (dg := dg) (mr := mr) (tm := tm) (K := K) (t := t) H G hm hx hk hmo ht kk
 rcases ht with rfl | ⟨w0, tk, rfl⟩ | ⟨w0, tk, nb, rfl⟩
 ·refine bin_div (by decide) ?_
  refine bin_mod (by decide) ?_
  refine at_ ?_
  refine to_s ?_
  refine set_orig ?_
  refine set_wish ?_
  refine set_ok ?_
  refine then_next ?_
  exact s9 [] (.inl rfl)
 ·refine bin_div (by decide) ?_
  refine bin_mod (by decide) ?_
  refine at_ ?_
  refine to_s ?_
  refine set_orig ?_
  refine set_wish ?_
  refine set_ok ?_
  refine then_next ?_
  exact s9 [("word", w0), ("token", tk)] (.inr (.inl ⟨_, _, rfl⟩))
 ·refine bin_div (by decide) ?_
  refine bin_mod (by decide) ?_
  refine at_ ?_
  refine to_s ?_
  refine set_orig ?_
  refine set_wish ?_
  refine set_ok ?_
  refine then_next ?_
  exact s9 [("word", w0), ("token", tk), ("number", nb)] (.inr (.inr ⟨_, _, _, rfl⟩))
end
end Mine
set_option maxHeartbeats 4000000
namespace Mine
open PySem PySem.W
theorem ref_turn {T : Tab} {pol : Pol} {rec : Rec} {tgt : Expr} {b : List Stmt} {sc : Scope} {ad : Ad} {vs : List MV} {n i : Nat} {loc : Loc} {st : St} {K : Fl → Loc → St → Prop} {x : MV} (hg : st.get ad = some (.list vs)) (hx : vs[i]? = some x)
  (h : cA T pol rec tgt x sc loc st fun loc st => cSs T pol rec b sc loc st (loopK (fun loc st => Yes3 (forRef (stepOf T pol rec tgt b sc) ad n (i + 1) loc st) K) K)) : Yes3 (forRef (stepOf T pol rec tgt b sc) ad (n + 1) i loc st) K :=
 forRef_turn hg hx (step_yes h)
theorem notin_ref {K : Bool → Prop} {st : St} {ad : Ad} {z : Nat} {l : List Nat} (hg : st.get ad = some (.list (l.map nv))) (kk : K (!decide (z ∈ l))) : Yes (cmp st .NotIn (nv z) (.ref ad)) K := by
 refine ⟨_, ?_, kk⟩
 have e : cmp st .In (nv z) (.ref ad) = some (decide (z ∈ l)) := by
  show atMO (st.get ad) _ _ = _
  rw [hg]
  exact in_nums z l
 have e2 : isIn st (nv z) (.ref ad) = some (decide (z ∈ l)) := e
 show ob (isIn st (nv z) (.ref ad)) (fun r => some (!r)) = _
 rw [e2]; rfl
noncomputable def A.cutF (a : A) : A := a.so (a.o.filter fun z => decide (z ∉ a.f))
noncomputable def A.cut2 (a : A) : A := a.so (a.o.take 2)
section
variable {n m : Nat} {S mo0 : MV} {k : Nat} {dg mr : Int} {tm : List MO} {K : Fl → Loc → St → Prop} {a : A} {x : List (Str × MV)} {t : List (String × MV)}
theorem flt_loop {b : B} {q : A} (hq : q.f = a.f) {l : Loc} (hl : compLoc (cSco (rVal (sAt (wB (sAt LB 3)) 1))) l = [(Str.ofString "due", some (.ref .due))]) : ∀ (r : List Nat) {K : List MV → St → Prop}, K ((r.filter fun z => decide (z ∉ a.f)).map nv) (Y b q x tm) →
  Yes2 (compItems (cs n (rVal (sAt (wB (sAt LB 3)) 1)) l) (r.map nv) (Y b q x tm)) K
 | [], K, k => comp_nil k
 | z :: r, K, k => by
  refine comp_turnC ?_
  unfold cStep
  rw [hl]
  rw [List.filter_cons] at k
  refine notin_ref (l := a.f) (by show some (MO.list (q.f.map nv)) = _; rw [hq]) ?_
  refine cif_d (P := z ∉ a.f) (by simp) (fun hp => ?_) (fun hp => ?_)
  ·refine cif_t rfl ?_
   rw [if_pos (decide_eq_true hp)] at k
   refine flt_loop hq hl r ?_
   exact k
  ·refine cif_f rfl ?_
   rw [if_neg (by simpa using hp)] at k
   refine flt_loop hq hl r ?_
   exact k
theorem nodup_of {o : List Nat} (h : o.Pairwise (· < ·)) : o.Nodup := h.imp (fun h => Nat.ne_of_lt h)
theorem two_not_f (H : Bd m a) (G : Hs a) : 1 ∉ a.f ∧ 2 ∉ a.f := by
 constructor
 ·intro h
  obtain ⟨nd, h1, _, h3⟩ := H.fb 1 h
  obtain ⟨nd', e1, e2⟩ := G.h1
  rw [h1] at e1; cases e1
  rw [h3] at e2
  simp [ofString_inj] at e2
 ·intro h
  obtain ⟨nd, h1, _, h3⟩ := H.fb 2 h
  obtain ⟨nd', e1, e2⟩ := G.h2
  rw [h1] at e1; cases e1
  rw [h3] at e2
  simp [ofString_inj] at e2
theorem cutF_ok (H : Bd m a) (G : Hs a) : Bd m a.cutF ∧ Hs a.cutF := by
 obtain ⟨q, hq⟩ := H.o1
 obtain ⟨n1, n2⟩ := two_not_f H G
 have hs : ∀ z ∈ a.o.filter (fun z => decide (z ∉ a.f)), z ∈ a.o := fun z hz => (List.mem_filter.mp hz).1
 refine ⟨H.so (Nat.le_trans (List.length_filter_le ..) H.ho) hs ⟨q.filter fun z => decide (z ∉ a.f), ?_⟩ (H.od.sublist List.filter_sublist), G.so hs⟩
 rw [hq, List.filter_cons, if_pos (by simpa using n1), List.filter_cons, if_pos (by simpa using n2)]
theorem cut2_ok (H : Bd m a) (G : Hs a) : Bd m a.cut2 ∧ Hs a.cut2 := by
 obtain ⟨q, hq⟩ := H.o1
 have hs : ∀ z ∈ a.o.take 2, z ∈ a.o := fun z hz => List.mem_of_mem_take hz
 refine ⟨H.so (by rw [List.length_take]; have := H.ho; lia) hs ⟨[], ?_⟩ (H.od.sublist (List.take_sublist ..)), G.so hs⟩
 rw [hq]; rfl
theorem erase_flt1 {o : List Nat} (h : o.Nodup) (y : Nat) : o.erase y = o.filter fun z => decide (z ∉ [y]) := by
 rw [h.erase_eq_filter]
 apply List.filter_congr
 intro z _
 simp [bne]
 rfl
theorem erase_flt2 {o : List Nat} (h : o.Nodup) (y z : Nat) : (o.erase y).erase z = o.filter fun w => decide (w ∉ [y, z]) := by
 rw [(h.erase y).erase_eq_filter, h.erase_eq_filter, List.filter_filter]
 apply List.filter_congr
 intro w _
 by_cases h1 : w = y <;> by_cases h2 : w = z <;> simp [bne, h1, h2]
end
end Mine
set_option maxHeartbeats 4000000
namespace Mine
open PySem PySem.W
theorem for_ref {step : MV → Loc → St → SR} {ad : Ad} {loc : Loc} {st : St} {K : Fl → Loc → St → Prop} (h : Yes3 (forRef step ad 1000 0 loc st) K) : Yes3 (forSrc step (.ref ad) loc st) K := h
section
variable {n m : Nat} {S mo0 : MV} {k : Nat} {dg mr : Int} {tm : List MO} {K : Fl → Loc → St → Prop} {a : A} {x : List (Str × MV)} {t : List (String × MV)}
theorem seg3 (H : Bd m a) (G : Hs a) (hm : m < 800) (hx : okX x) (hx2 : x.length ≤ 10) (hk : k < 100) (ht : Tl0 t) (htf : t = [] → a.f = []) (kk : Next (m + 5) S k dg mr K) :
  cSs theTab thePol (C (n+15)) (LB.drop 3) (fnS 73 0) (lawL S mo0 k dg mr t) (Y (toB a) a x tm) K := by
 have hN := H.hN
 have s4 := fun t ht => seg4 (n := n) (S := S) (mo0 := mo0) (k := k) (dg := dg) (mr := mr) (tm := tm) (K := K) (t := t) H G hm hx hk ht kk
 obtain ⟨H', G'⟩ := cutF_ok H G
 have s4' := fun t ht => seg4 (n := n) (S := S) (mo0 := mo0) (k := k) (dg := dg) (mr := mr) (tm := tm) (K := K) (t := t) H' G' hm hx hk ht kk
 have hlen : (a.o.filter fun z => decide (z ∉ a.f)).length ≤ 890 := Nat.le_trans (List.length_filter_le ..) (by have := H.ho; lia)
 have hfl : ((a.o.filter fun z => decide (z ∉ a.f)).map nv).length ≤ lim := by rw [List.length_map]; exact le_lim (by lia)
 have nd := nodup_of H.od
 have dl : ∀ {K : MV → Prop}, K (nv a.N.length) → Yes (builtin (Y (toB a) a x tm) "len" [.ref .dnodes]) K := fun k => dn_len (le_lim (by lia)) k
 have oL : a.o.length ≤ lim := le_lim (by have := H.ho; lia)
 rcases ht with rfl | ⟨w0, tk, rfl⟩ | ⟨w0, tk, nb, rfl⟩
 ·skip
  refine bin_div (by decide) ?_
  refine bin_mod (by decide) ?_
  refine cIf.mk (fun _ => ?_) (fun _ => ?_)
  ·refine dl ?_
   refine cIf.mk (fun _ => ?_) (fun _ => ?_)
   ·refine cif_t rfl ?_
    have hfe := htf rfl
    have hc : a.cutF = a := by unfold A.cutF; rw [hfe]; rw [List.filter_eq_self.mpr (by simp)]; rfl
    refine for_ref ?_
    refine forRef_end (a := .active) (n := 999) (i := 0) (vs := a.f.map nv) (by rfl) (by rw [hfe]; rfl) ?_
    refine then_next ?_
    rw [show (Y (toB a) a x tm) = Y (toB a.cutF) a x tm by rw [hc]]
    refine comp_rule ?_
    refine comp_fixed (vs := a.o.map nv) rfl ?_
    refine flt_loop (q := a) rfl (by rfl) a.o ?_
    refine And.intro hfl ?_
    refine set_open (a := a) hx2 ?_
    refine then_next ?_
    exact s4' [] (.inl rfl)
   ·refine cif_f rfl ?_
    refine ss_nil_next ?_
    exact s4 [] (.inl rfl)
  ·refine cif_f rfl ?_
   refine ss_nil_next ?_
   exact s4 [] (.inl rfl)
 ·skip
  refine bin_div (by decide) ?_
  refine bin_mod (by decide) ?_
  refine cIf.mk (fun _ => ?_) (fun _ => ?_)
  ·refine dl ?_
   refine cIf.mk (fun _ => ?_) (fun _ => ?_)
   ·refine cif_t rfl ?_
    have hf := H.hf
    match hfe : a.f, hf with
    | [], _ =>
     have hc : a.cutF = a := by unfold A.cutF; rw [hfe]; rw [List.filter_eq_self.mpr (by simp)]; rfl
     refine for_ref ?_
     refine forRef_end (a := .active) (n := 999) (i := 0) (vs := a.f.map nv) (by rfl) (by rw [hfe]; rfl) ?_
     refine then_next ?_
     rw [show (Y (toB a) a x tm) = Y (toB a.cutF) a x tm by rw [hc]]
     refine comp_rule ?_
     refine comp_fixed (vs := a.o.map nv) rfl ?_
     refine flt_loop (q := a) rfl (by rfl) a.o ?_
     refine And.intro hfl ?_
     refine set_open (a := a) hx2 ?_
     refine then_next ?_
     exact s4' [("word", w0), ("token", tk)] (.inr (.inl ⟨_, _, rfl⟩))
    | [y], _ =>
     have e1 : a.so (a.o.erase y) = a.cutF := by unfold A.cutF; rw [hfe, erase_flt1 nd]
     refine for_ref ?_
     refine ref_turn (ad := .active) (n := 999) (i := 0) (x := nv y) (vs := a.f.map nv) (by rfl) (by rw [hfe]; rfl) ?_
     refine remove_s oL ?_
     rw [e1]
     refine forRef_end (a := .active) (n := 998) (i := 1) (vs := a.f.map nv) (by rfl) (by rw [hfe]; rfl) ?_
     refine then_next ?_
     refine comp_rule ?_
     refine comp_fixed (vs := a.o.map nv) rfl ?_
     refine flt_loop (q := a) rfl (by rfl) a.o ?_
     refine And.intro hfl ?_
     refine set_open (a := a) hx2 ?_
     refine then_next ?_
     exact s4' [("word", w0), ("token", tk), ("number", nv y)] (.inr (.inr ⟨_, _, _, rfl⟩))
    | [y, z], _ =>
     have e2 : (a.so (a.o.erase y)).so ((a.so (a.o.erase y)).o.erase z) = a.cutF := by
      show a.so ((a.o.erase y).erase z) = _
      unfold A.cutF; rw [hfe, erase_flt2 nd]
     refine for_ref ?_
     refine ref_turn (ad := .active) (n := 999) (i := 0) (x := nv y) (vs := a.f.map nv) (by rfl) (by rw [hfe]; rfl) ?_
     refine remove_s oL ?_
     refine ref_turn (ad := .active) (n := 998) (i := 1) (x := nv z) (vs := a.f.map nv) (by rfl) (by rw [hfe]; rfl) ?_
     refine remove_s (a := a.so (a.o.erase y)) (Nat.le_trans (List.length_erase_le ..) oL) ?_
     rw [e2]
     refine forRef_end (a := .active) (n := 997) (i := 2) (vs := a.f.map nv) (by rfl) (by rw [hfe]; rfl) ?_
     refine then_next ?_
     refine comp_rule ?_
     refine comp_fixed (vs := a.o.map nv) rfl ?_
     refine flt_loop (q := a) rfl (by rfl) a.o ?_
     refine And.intro hfl ?_
     refine set_open (a := a) hx2 ?_
     refine then_next ?_
     exact s4' [("word", w0), ("token", tk), ("number", nv z)] (.inr (.inr ⟨_, _, _, rfl⟩))
    | _ :: _ :: _ :: _, h => exact absurd h (by simp)
   ·refine cif_f rfl ?_
    refine ss_nil_next ?_
    exact s4 [("word", w0), ("token", tk)] (.inr (.inl ⟨_, _, rfl⟩))
  ·refine cif_f rfl ?_
   refine ss_nil_next ?_
   exact s4 [("word", w0), ("token", tk)] (.inr (.inl ⟨_, _, rfl⟩))
 ·skip
  refine bin_div (by decide) ?_
  refine bin_mod (by decide) ?_
  refine cIf.mk (fun _ => ?_) (fun _ => ?_)
  ·refine dl ?_
   refine cIf.mk (fun _ => ?_) (fun _ => ?_)
   ·refine cif_t rfl ?_
    have hf := H.hf
    match hfe : a.f, hf with
    | [], _ =>
     have hc : a.cutF = a := by unfold A.cutF; rw [hfe]; rw [List.filter_eq_self.mpr (by simp)]; rfl
     refine for_ref ?_
     refine forRef_end (a := .active) (n := 999) (i := 0) (vs := a.f.map nv) (by rfl) (by rw [hfe]; rfl) ?_
     refine then_next ?_
     rw [show (Y (toB a) a x tm) = Y (toB a.cutF) a x tm by rw [hc]]
     refine comp_rule ?_
     refine comp_fixed (vs := a.o.map nv) rfl ?_
     refine flt_loop (q := a) rfl (by rfl) a.o ?_
     refine And.intro hfl ?_
     refine set_open (a := a) hx2 ?_
     refine then_next ?_
     exact s4' [("word", w0), ("token", tk), ("number", nb)] (.inr (.inr ⟨_, _, _, rfl⟩))
    | [y], _ =>
     have e1 : a.so (a.o.erase y) = a.cutF := by unfold A.cutF; rw [hfe, erase_flt1 nd]
     refine for_ref ?_
     refine ref_turn (ad := .active) (n := 999) (i := 0) (x := nv y) (vs := a.f.map nv) (by rfl) (by rw [hfe]; rfl) ?_
     refine remove_s oL ?_
     rw [e1]
     refine forRef_end (a := .active) (n := 998) (i := 1) (vs := a.f.map nv) (by rfl) (by rw [hfe]; rfl) ?_
     refine then_next ?_
     refine comp_rule ?_
     refine comp_fixed (vs := a.o.map nv) rfl ?_
     refine flt_loop (q := a) rfl (by rfl) a.o ?_
     refine And.intro hfl ?_
     refine set_open (a := a) hx2 ?_
     refine then_next ?_
     exact s4' [("word", w0), ("token", tk), ("number", nv y)] (.inr (.inr ⟨_, _, _, rfl⟩))
    | [y, z], _ =>
     have e2 : (a.so (a.o.erase y)).so ((a.so (a.o.erase y)).o.erase z) = a.cutF := by
      show a.so ((a.o.erase y).erase z) = _
      unfold A.cutF; rw [hfe, erase_flt2 nd]
     refine for_ref ?_
     refine ref_turn (ad := .active) (n := 999) (i := 0) (x := nv y) (vs := a.f.map nv) (by rfl) (by rw [hfe]; rfl) ?_
     refine remove_s oL ?_
     refine ref_turn (ad := .active) (n := 998) (i := 1) (x := nv z) (vs := a.f.map nv) (by rfl) (by rw [hfe]; rfl) ?_
     refine remove_s (a := a.so (a.o.erase y)) (Nat.le_trans (List.length_erase_le ..) oL) ?_
     rw [e2]
     refine forRef_end (a := .active) (n := 997) (i := 2) (vs := a.f.map nv) (by rfl) (by rw [hfe]; rfl) ?_
     refine then_next ?_
     refine comp_rule ?_
     refine comp_fixed (vs := a.o.map nv) rfl ?_
     refine flt_loop (q := a) rfl (by rfl) a.o ?_
     refine And.intro hfl ?_
     refine set_open (a := a) hx2 ?_
     refine then_next ?_
     exact s4' [("word", w0), ("token", tk), ("number", nv z)] (.inr (.inr ⟨_, _, _, rfl⟩))
    | _ :: _ :: _ :: _, h => exact absurd h (by simp)
   ·refine cif_f rfl ?_
    refine ss_nil_next ?_
    exact s4 [("word", w0), ("token", tk), ("number", nb)] (.inr (.inr ⟨_, _, _, rfl⟩))
  ·refine cif_f rfl ?_
   refine ss_nil_next ?_
   exact s4 [("word", w0), ("token", tk), ("number", nb)] (.inr (.inr ⟨_, _, _, rfl⟩))
end
end Mine
set_option maxHeartbeats 4000000
namespace Mine
open PySem PySem.W
theorem name_next {T : Tab} {pol : Pol} {rec : Rec} {sc : Scope} {loc : Loc} {st : St} {z : Str} {v : MV} {p : Pos} {G : Loc → St → Prop} {K' : Fl → Loc → St → Prop} (hk : lookKind sc z = some .local) (h : G (setL z v loc) st) :
  cA T pol rec (.Name z p) v sc loc st (fun loc st => cThen G K' .next loc st) := by
 show (match lookKind sc z with | some .local | some .cell => _ | _ => _ : Prop)
 rw [hk]
 exact h
section
variable {n m : Nat} {S mo0 : MV} {k : Nat} {dg mr : Int} {tm : List MO} {K : Fl → Loc → St → Prop} {a : A} {x : List (Str × MV)} {t : List (String × MV)}
theorem pop2_loop {d : D} (hall : a.o.length ≤ 890) {l : Loc} (hl : ∃ t, Tl0 t ∧ l = lawL S mo0 k dg mr t) (kk : K .next l (U (a.so [1, 2]) d tm)) : ∀ (j : Nat) (q : List Nat), q.length = j → q.length ≤ 890 →
  Yes3 (whileLoop (testOf theTab thePol (C (n+15)) (wT (sAt (wB (sAt LB 2)) 1)) (fnS 73 0)) (bodyOf theTab thePol (C (n+15)) (wB (sAt (wB (sAt LB 2)) 1)) (fnS 73 0)) (j + 1) l (U (a.so (1 :: 2 :: q)) d tm)) K
 | 0, q, hq, _ => by
  have : q = [] := List.eq_nil_of_length_eq_zero hq
  subst this
  obtain ⟨t, ht, rfl⟩ := hl
  refine while_turn ?_
  rcases ht with rfl | ⟨w0, tk, rfl⟩ | ⟨w0, tk, nb, rfl⟩
  all_goals
   refine many_s (a := a.so [1, 2]) (by show 2 ≤ lim; decide) ?_
   refine cif_f (by rfl) ?_
   exact kk
 | j + 1, q, hq, hq2 => by
  have hne : q ≠ [] := by rintro rfl; simp at hq
  have eo : 1 :: 2 :: q = (1 :: 2 :: q.dropLast) ++ [q.getLast hne] := by
   conv => lhs; rw [← List.dropLast_concat_getLast hne]
   rfl
  have ih := pop2_loop hall hl kk j q.dropLast (by rw [List.length_dropLast]; lia) (by rw [List.length_dropLast]; lia)
  obtain ⟨t, ht, rfl⟩ := hl
  refine while_turn ?_
  rcases ht with rfl | ⟨w0, tk, rfl⟩ | ⟨w0, tk, nb, rfl⟩
  all_goals
   refine many_s (a := a.so (1 :: 2 :: q)) (by show q.length + 1 + 1 ≤ lim; exact le_lim (by lia)) ?_
   refine cif_t (by show decide ((2 : Int) < ((q.length + 1 + 1 : Nat) : Int)) = true; simp <;> lia) ?_
   refine pop_s (a := a.so (1 :: 2 :: q)) eo (by show q.dropLast.length + 1 + 1 < lim; rw [List.length_dropLast]; exact lt_lim (by lia)) ?_
   exact ih
theorem seg2 (H : Bd m a) (G : Hs a) (hm : m < 800) (hx : okX x) (hx2 : x.length ≤ 10) (hk : k < 100) (ht : Tl0 t) (htf : t = [] → a.f = []) (kk : Next (m + 5) S k dg mr K) :
  cSs theTab thePol (C (n+15)) (LB.drop 2) (fnS 73 0) (lawL S mo0 k dg mr t) (Y (toB a) a x tm) K := by
 obtain ⟨q, hq⟩ := H.o1
 have hol : a.o.length ≤ 890 := by have := H.ho; have := H.hm; lia
 have oL : (a.o.map nv).length ≤ lim := by rw [List.length_map]; exact le_lim (by lia)
 have ol : ∀ {K : MV → Prop} {st : St}, K (nv a.o.length) → Yes (builtin st "len" [.lst (a.o.map nv)]) K := fun k => v_len oL (by rw [List.length_map]; exact k)
 have s3 := fun t ht htf => seg3 (n := n) (S := S) (mo0 := mo0) (k := k) (dg := dg) (mr := mr) (tm := tm) (K := K) (t := t) H G hm hx hx2 hk ht htf kk
 obtain ⟨H', G'⟩ := cut2_ok H G
 have s3' := fun t ht htf => seg3 (n := n) (S := S) (mo0 := mo0) (k := k) (dg := dg) (mr := mr) (tm := tm) (K := K) (t := t) H' G' hm hx hx2 hk ht htf kk
 have ec : a.cut2 = a.so [1, 2] := by unfold A.cut2; rw [hq]; rfl
 rw [ec] at s3'
 have ha : U a (toDx (a.so [1, 2]) x) tm = U (a.so (1 :: 2 :: q)) (toDx (a.so [1, 2]) x) tm := by rw [← hq]; rfl
 have go : ∀ {K' : Fl → Loc → St → Prop} (t), Tl0 t → K' .next (lawL S mo0 k dg mr t) (U (a.so [1, 2]) (toDx (a.so [1, 2]) x) tm) → Yes3 (whileLoop (testOf theTab thePol (C (n+15)) (wT (sAt (wB (sAt LB 2)) 1)) (fnS 73 0)) (bodyOf theTab thePol (C (n+15)) (wB (sAt (wB (sAt LB 2)) 1)) (fnS 73 0)) turns (lawL S mo0 k dg mr t) (U a (toDx (a.so [1, 2]) x) tm)) K' := by
  intro K' t ht k1
  rw [ha]
  have hql : q.length ≤ 890 := by rw [hq] at hol; simp at hol; lia
  exact while_more (m := q.length + 1) (by show q.length + 1 ≤ 1000; lia) (pop2_loop hol ⟨t, ht, rfl⟩ k1 q.length q rfl hql)
 have ct : ∀ {K : MV → Prop} {st : St}, K (.lst ([1, 2].map nv)) → Yes (cutOf st (.lst (a.o.map nv)) none (some 2)) K := fun k => by
  refine cut_take (k := 2) oL ?_
  rw [← List.map_take, hq]
  exact k
 rcases ht with rfl | ⟨w0, tk, rfl⟩ | ⟨w0, tk, nb, rfl⟩
 ·refine ol ?_
  refine cif_d (P := 12 < a.o.length) (by simp <;> lia) (fun h => ?_) (fun h => ?_)
  ·refine ct ?_
   refine set_open (a := a) hx2 ?_
   refine go [] (.inl rfl) ?_
   refine then_next ?_
   exact s3' [] (.inl rfl) (fun e => htf e)
  ·refine ss_nil_next ?_
   exact s3 [] (.inl rfl) htf
 ·refine ol ?_
  refine cif_d (P := 12 < a.o.length) (by simp <;> lia) (fun h => ?_) (fun h => ?_)
  ·refine ct ?_
   refine set_open (a := a) hx2 ?_
   refine go [("word", w0), ("token", tk)] (.inr (.inl ⟨_, _, rfl⟩)) ?_
   refine then_next ?_
   exact s3' [("word", w0), ("token", tk)] (.inr (.inl ⟨_, _, rfl⟩)) (fun e => by cases e)
  ·refine ss_nil_next ?_
   exact s3 [("word", w0), ("token", tk)] (.inr (.inl ⟨_, _, rfl⟩)) htf
 ·refine ol ?_
  refine cif_d (P := 12 < a.o.length) (by simp <;> lia) (fun h => ?_) (fun h => ?_)
  ·refine ct ?_
   refine set_open (a := a) hx2 ?_
   refine go [("word", w0), ("token", tk), ("number", nb)] (.inr (.inr ⟨_, _, _, rfl⟩)) ?_
   refine then_next ?_
   exact s3' [("word", w0), ("token", tk), ("number", nb)] (.inr (.inr ⟨_, _, _, rfl⟩)) (fun e => by cases e)
  ·refine ss_nil_next ?_
   exact s3 [("word", w0), ("token", tk), ("number", nb)] (.inr (.inr ⟨_, _, _, rfl⟩)) htf
theorem lst_index {rec : Rec} {K : MV → St → Prop} {st : St} {vs : List MV} {v : MV} {i : Nat} (hl : vs.length ≤ lim) (h : idxAtoms v vs = some i) (k : K (.int i) st) : Yes2 (methDo rec .lst st (.lst vs) (Str.ofString "index") [v]) K := by
 refine ⟨_, st, ?_, k⟩
 show (if vs.length ≤ lim then ob (idxAtoms v vs) fun i => some (MV.int i, st) else none) = _
 rw [if_pos hl, h]
 rfl
noncomputable def lawB (S mo : MV) : Loc := argL [("script", S), ("modes", .tup (modes8.map .str)), ("rules", .ref .rules), ("mode", mo), ("builder", .ref .builder), ("tree", .ref .tree), ("root", nv 1), ("due", .ref .due), ("words", .lst (wordsL.map .str)), ("usual", .lst (usualL.map .str))]
noncomputable abbrev scr (ns : List Int) : MV := .arg (ns.map .int)
theorem v_lenA {K : MV → Prop} {st : St} {vs : List MV} (h : vs.length ≤ lim) (kk : K (.int vs.length)) : Yes (builtin st "len" [.arg vs]) K := v_len (st := st) (vs := vs) h kk
theorem v_subA {K : MV → Prop} {st : St} {vs : List MV} {v : MV} {i : Int} {k : Nat} (hi : i = k) (hx : vs[k]? = some v) (hk : k ≤ lim) (kk : K v) : Yes (subOf st (.arg vs) (.int i)) K := v_sub (st := st) (vs := vs) hi hx hk kk
theorem usual_len : usualL.length = 39 := by decide
theorem seg0 {ns : List Int} (hns : ns.length ≤ 63) (H : Bd m a) (G : Hs a) (hm : m < 800) (hx : okX x) (hx2 : x.length ≤ 10) (hk : k < 39) {l : Loc} (hl : (l = setL (Str.ofString "k") (nv k) (lawB (scr ns) mo0) ∧ a.f = []) ∨ ∃ k' dg mr t, Tl2 t ∧ l = setL (Str.ofString "k") (nv k) (lawL (scr ns) mo0 k' dg mr t)) (kk : ∀ dg mr, Next (m + 5) (scr ns) k dg mr K) :
  cSs theTab thePol (C (n+15)) LB (fnS 73 0) l (Y (toB a) a x tm) K := by
 obtain ⟨i, hi⟩ := Option.isSome_iff_exists.mp (usual_idx k hk)
 have us : ∀ {K : MV → Prop} {st : St}, K (.str (usualL.getD k Str.empty)) → Yes (subOf st (.lst (usualL.map .str)) (.int (k : Int))) K := fun kq => v_sub rfl (by rw [List.getElem?_map, List.getD_eq_getElem?_getD, List.getElem?_eq_getElem (by rw [usual_len]; exact hk)]; rfl) (le_lim (by lia)) kq
 have sl : ∀ {K : MV → Prop} {st : St}, K (nv ns.length) → Yes (builtin st "len" [scr ns]) K := fun kq => v_lenA (by rw [List.length_map]; exact le_lim (by lia)) (by rw [List.length_map]; exact kq)
 have sa : ∀ {K : MV → Prop} {st : St} (s : Int), ns[k]? = some s → K (.int s) → Yes (subOf st (scr ns) (.int (k : Int))) K := fun s hs kq => v_subA rfl (by rw [List.getElem?_map, hs]; rfl) (le_lim (by lia)) kq
 have wl : ∀ {K : MV → Prop} {st : St}, K (nv 40) → Yes (builtin st "len" [.lst (wordsL.map .str)]) K := fun k => v_len (by rw [List.length_map, words_len]; decide) (by rw [List.length_map, words_len]; exact k)
 have s2 := fun dg mr t ht htf => seg2 (n := n) (S := scr ns) (mo0 := mo0) (k := k) (dg := dg) (mr := mr) (tm := tm) (K := K) (t := t) H G hm hx hx2 (by lia) ht htf (kk dg mr)
 rcases hl with ⟨rfl, hf⟩ | ⟨k', dg, mr, t, ht, rfl⟩
 ·refine us ?_
  refine lst_index (by rw [List.length_map, words_len]; decide) hi ?_
  refine sl ?_
  refine cif_d (P := k < ns.length) (by simp) (fun h => ?_) (fun h => ?_)
  ·refine sa ns[k] (List.getElem?_eq_getElem h) ?_
   refine wl ?_
   refine bin_div (by decide) ?_
   refine name_next (by rfl) ?_
   exact s2 ((i : Int) + ns[k]) (Int.fdiv ((i : Int) + ns[k]) (40 : Nat)) [] (.inl rfl) (fun _ => hf)
  ·refine wl ?_
   refine bin_div (by decide) ?_
   refine name_next (by rfl) ?_
   exact s2 ((i : Int) + 0) (Int.fdiv ((i : Int) + 0) (40 : Nat)) [] (.inl rfl) (fun _ => hf)
 ·obtain ⟨w, tk, rfl | ⟨nb, rfl⟩⟩ := ht
  ·refine us ?_
   refine lst_index (by rw [List.length_map, words_len]; decide) hi ?_
   refine sl ?_
   refine cif_d (P := k < ns.length) (by simp) (fun h => ?_) (fun h => ?_)
   ·refine sa ns[k] (List.getElem?_eq_getElem h) ?_
    refine wl ?_
    refine bin_div (by decide) ?_
    refine name_next (by rfl) ?_
    exact s2 ((i : Int) + ns[k]) (Int.fdiv ((i : Int) + ns[k]) (40 : Nat)) [("word", w), ("token", tk)] (.inr (.inl ⟨_, _, rfl⟩)) (fun e => by cases e)
   ·refine wl ?_
    refine bin_div (by decide) ?_
    refine name_next (by rfl) ?_
    exact s2 ((i : Int) + 0) (Int.fdiv ((i : Int) + 0) (40 : Nat)) [("word", w), ("token", tk)] (.inr (.inl ⟨_, _, rfl⟩)) (fun e => by cases e)
  ·refine us ?_
   refine lst_index (by rw [List.length_map, words_len]; decide) hi ?_
   refine sl ?_
   refine cif_d (P := k < ns.length) (by simp) (fun h => ?_) (fun h => ?_)
   ·refine sa ns[k] (List.getElem?_eq_getElem h) ?_
    refine wl ?_
    refine bin_div (by decide) ?_
    refine name_next (by rfl) ?_
    exact s2 ((i : Int) + ns[k]) (Int.fdiv ((i : Int) + ns[k]) (40 : Nat)) [("word", w), ("token", tk), ("number", nb)] (.inr (.inr ⟨_, _, _, rfl⟩)) (fun e => by cases e)
   ·refine wl ?_
    refine bin_div (by decide) ?_
    refine name_next (by rfl) ?_
    exact s2 ((i : Int) + 0) (Int.fdiv ((i : Int) + 0) (40 : Nat)) [("word", w), ("token", tk), ("number", nb)] (.inr (.inr ⟨_, _, _, rfl⟩)) (fun e => by cases e)
end
end Mine
set_option maxHeartbeats 4000000
namespace Mine
open PySem PySem.W
section
variable {n : Nat} {K : Fl → Loc → St → Prop}
theorem name_to {T : Tab} {pol : Pol} {rec : Rec} {sc : Scope} {loc : Loc} {st : St} {z : Str} {v : MV} {p : Pos} {G : Loc → St → Prop} (hk : lookKind sc z = some .local) (h : G (setL z v loc) st) : cA T pol rec (.Name z p) v sc loc st G := by
 show (match lookKind sc z with | some .local | some .cell => _ | _ => _ : Prop)
 rw [hk]
 exact h
theorem turns_s {ns : List Int} (hns : ns.length ≤ 63) : ∀ (q k : Nat), k + q = 39 → ∀ {a : A} {x : List (Str × MV)} {l : Loc} {tm : List MO}, Bd (10 + 5 * k) a → Hs a →
  ((∃ mo, l = lawB (scr ns) mo) ∧ x = [] ∧ a.f = [] ∧ k < 39) ∨ (∃ mo k' dg mr t, Tl2 t ∧ l = lawL (scr ns) mo k' dg mr t) ∧ x = moreA a →
  (∀ mo k' dg mr t c tm', Tl2 t → Bd 300 c → K .next (lawL (scr ns) mo k' dg mr t) (X (toB c) c tm')) →
  Yes3 (forItems (stepOf theTab thePol (C (n+15)) (fT (sAt (fnB 73 0) 13)) LB (fnS 73 0)) (rangeUp q (k : Int) 1) l (Y (toB a) a x tm)) K
 | 0, k, hk, a, x, l, tm, H, G, hl, kk => by
  rcases hl with ⟨_, _, _, h⟩ | ⟨⟨mo, k', dg, mr, t, ht, rfl⟩, rfl⟩
  ·exact absurd h (by lia)
  ·exact for_nil (kk mo k' dg mr t a tm ht (H.mono (by lia) (by lia)))
 | q + 1, k, hk, a, x, l, tm, H, G, hl, kk => by
  have e : ((k : Int) + 1) = ((k + 1 : Nat) : Int) := by lia
  show Yes3 (forItems _ (.int k :: rangeUp q ((k : Int) + 1) 1) _ _) _
  rw [e]
  have ih := fun {a x l tm} => turns_s hns q (k + 1) (by lia) (a := a) (x := x) (l := l) (tm := tm)
  refine for_cons ?_
  refine name_to (z := Str.ofString "k") (by rfl) ?_
  have nx : ∀ dg mr, Next (10 + 5 * k + 5) (scr ns) k dg mr (loopK (fun loc st => Yes3 (forItems (stepOf theTab thePol (C (n+15)) (fT (sAt (fnB 73 0) 13)) LB (fnS 73 0)) (rangeUp q ((k + 1 : Nat) : Int) 1) loc st) K) K) := by
   intro dg mr mo t' c tm' ht B2 G2
   exact ih (by rw [show 10 + 5 * (k + 1) = 10 + 5 * k + 5 by lia]; exact B2) G2 (.inr ⟨⟨_, k, dg, mr, t', ht, rfl⟩, rfl⟩) kk
  rcases hl with ⟨⟨mo, rfl⟩, rfl, hf, hk'⟩ | ⟨⟨mo, k', dg, mr, t, ht, rfl⟩, rfl⟩
  ·exact seg0 (mo0 := mo) hns H G (by lia) (.inl rfl) (by simp) hk' (.inl ⟨rfl, hf⟩) nx
  ·exact seg0 (mo0 := mo) hns H G (by lia) (.inr ⟨a, rfl⟩) (by exact Nat.le_of_ble_eq_true rfl) (by lia) (.inr ⟨k', dg, mr, t, ht, rfl⟩) nx
end
end Mine
set_option maxHeartbeats 4000000
namespace Mine
open PySem PySem.W
noncomputable def a0 : A := ⟨[⟨os "", os "", [], -1, [1]⟩, ⟨os "html", os "html", [], 0, [2]⟩, ⟨os "html", os "body", [], 1, []⟩], [1, 2], [], [], os "initial", os "", os "", true, false, false⟩
theorem head_run (S : MV) : evSs theTab thePol (callN theTab thePol 15) ((fnB 73 0).take 11) (fnS 73 0) (argL [("script", S)]) {} =
  some (.next, argL [("script", S), ("modes", .tup (modes8.map .str)), ("rules", .ref .rules), ("mode", sv "in column group"), ("builder", .ref .builder), ("tree", .ref .tree), ("root", nv 1), ("due", .ref .due)], Y (toB a0) a0 [] [.list [], .list [.int 0]]) := by kernel_rfl
end Mine
set_option maxHeartbeats 4000000
namespace Mine
open PySem PySem.W
noncomputable def fld (j : Nat) : MV → MV
 | .tup vs => vs.getD j .none
 | _ => .none
theorem comp_ref {step : MV → St → Option (Option MV × St)} {ad : Ad} {st : St} {K : List MV → St → Prop} (h : Yes2 (compRef step ad 1000 0 st) K) : Yes2 (compSrc step (.ref ad) st) K := h
theorem cref_end {step : MV → St → Option (Option MV × St)} {ad : Ad} {vs : List MV} {n i : Nat} {st : St} {K : List MV → St → Prop} (hg : st.get ad = some (.list vs)) (hx : vs[i]? = none) (k : K [] st) : Yes2 (compRef step ad (n + 1) i st) K := by
 show Yes2 (atList (st.get ad) _) K
 rw [hg]
 show Yes2 (match vs[i]? with | none => _ | some x => _) K
 rw [hx]
 exact yes2_ok k
theorem cref_turn {step : MV → St → Option (Option MV × St)} {ad : Ad} {vs : List MV} {n i : Nat} {st : St} {K : List MV → St → Prop} {x : MV} (hg : st.get ad = some (.list vs)) (hx : vs[i]? = some x)
  (h : Yes2 (step x st) fun r st => Yes2 (compRef step ad n (i + 1) st) fun rs st => K (addO r rs) st) : Yes2 (compRef step ad (n + 1) i st) K := by
 show Yes2 (atList (st.get ad) _) K
 rw [hg]
 show Yes2 (match vs[i]? with | none => _ | some x => _) K
 rw [hx]
 exact yes_pb (h.mono fun _ _ h => yes_pb (h.mono fun _ _ k => yes2_ok k))
noncomputable abbrev cIn : Expr := cElt (rVal (sAt (fnB 73 0) 15))
section
variable {n m : Nat} {b : B} {a : A} {x : List (Str × MV)} {tm : List MO}
theorem col_loop {l : Loc} {j : Nat} (hj : j < 5) (hl : compLoc (cSco cIn) l = [(Str.ofString "at", some (.int j))]) (hN : a.N.length ≤ 900) : ∀ (q i f : Nat) {K : List MV → St → Prop}, i + q = a.N.length → q < f → K (((dnV 0 a.N).drop i).map (fld j)) (Y b a x tm) →
  Yes2 (compRef (cs n cIn l) .dnodes f i (Y b a x tm)) K
 | q, i, 0, K, _, hf, _ => absurd hf (by lia)
 | 0, i, f + 1, K, hq, hf, k => by
  refine cref_end (vs := dnV 0 a.N) rfl (by rw [List.getElem?_eq_none (by rw [dnV_len]; lia)]) ?_
  rw [List.drop_of_length_le (by rw [dnV_len]; lia)] at k
  exact k
 | q + 1, i, f + 1, K, hq, hf, k => by
  obtain ⟨nd, hnd⟩ : ∃ nd, a.N[i]? = some nd := ⟨_, List.getElem?_eq_getElem (by lia)⟩
  have hx := dnV_get a.N 0 i nd hnd
  refine cref_turn (vs := dnV 0 a.N) rfl hx ?_
  refine cStep_yes ?_
  unfold cStep
  rw [hl]
  have hd : (dnV 0 a.N).drop i = .tup [.str nd.sp, .str nd.nm, atV nd.att, .int nd.par, .ref (.dc (0 + i))] :: (dnV 0 a.N).drop (i + 1) := by
   have hil : i < (dnV 0 a.N).length := by rw [dnV_len]; lia
   rw [List.drop_eq_getElem_cons hil]
   congr 1
   have := List.getElem?_eq_getElem hil
   rw [hx] at this
   exact (Option.some.inj this).symm
  rw [hd] at k
  refine cif_t rfl ?_
  refine t_subC (k := j) rfl (v := fld j (.tup [.str nd.sp, .str nd.nm, atV nd.att, .int nd.par, .ref (.dc (0 + i))])) ?_ (le_lim (by lia)) ?_
  ·have : j = 0 ∨ j = 1 ∨ j = 2 ∨ j = 3 ∨ j = 4 := by lia
   rcases this with rfl | rfl | rfl | rfl | rfl <;> rfl
  refine col_loop hj hl hN q (i + 1) f (by lia) (by lia) ?_
  exact k
end
theorem col0 : ∀ (N : List Nd) (i : Nat), (dnV i N).map (fld 0) = N.map fun x => .str x.sp
 | [], _ => rfl
 | y :: r, i => by show _ :: (dnV (i+1) r).map (fld 0) = _; rw [col0 r]; rfl
theorem col1 : ∀ (N : List Nd) (i : Nat), (dnV i N).map (fld 1) = N.map fun x => .str x.nm
 | [], _ => rfl
 | y :: r, i => by show _ :: (dnV (i+1) r).map (fld 1) = _; rw [col1 r]; rfl
theorem col2 : ∀ (N : List Nd) (i : Nat), (dnV i N).map (fld 2) = N.map fun x => atV x.att
 | [], _ => rfl
 | y :: r, i => by show _ :: (dnV (i+1) r).map (fld 2) = _; rw [col2 r]; rfl
theorem col3 : ∀ (N : List Nd) (i : Nat), (dnV i N).map (fld 3) = N.map fun x => .int x.par
 | [], _ => rfl
 | y :: r, i => by show _ :: (dnV (i+1) r).map (fld 3) = _; rw [col3 r]; rfl
theorem col4 : ∀ (N : List Nd) (i : Nat), (dnV i N).map (fld 4) = (List.range' i N.length).map fun i => .ref (.dc i)
 | [], _ => rfl
 | y :: r, i => by
  show _ :: (dnV (i+1) r).map (fld 4) = _
  rw [col4 r (i+1), List.length_cons, List.range'_succ]; rfl
theorem eqs_map {α : Type} {e : MV → MV → Option Bool} {f g : α → MV} : ∀ {l : List α}, (∀ v ∈ l, e (f v) (g v) = some true) → eqV.eqs e (l.map f) (l.map g) = some true
 | [], _ => rfl
 | v :: l, h => by
  show ob (e (f v) (g v)) (fun p => ob (eqV.eqs e (l.map f) (l.map g)) fun q => some (p && q)) = _
  rw [h v (.head _), eqs_map fun w hw => h w (.tail _ hw)]
  rfl
section
variable {a : A} {tm : List MO}
theorem eq_ref {k : Nat} {ad : Ad} {xs ys : List MV} {st : St} (hg : st.get ad = some (.list xs)) (hl : xs.length = ys.length) (h : eqV.eqs (eqV k st) xs ys = some true) : eqV (k + 1) st (.ref ad) (.lst ys) = some true := by
 show atList (st.get ad) _ = _
 rw [hg]
 show (if _ then _ else _) = _
 rw [if_pos hl]; exact h
theorem rows_eq : eqV 6 (X (toB a) a tm) (.lst [.ref .spaces, .ref .names, .ref .attrs, .ref .parents, .ref .kids]) (.lst [.lst ((dnV 0 a.N).map (fld 0)), .lst ((dnV 0 a.N).map (fld 1)), .lst ((dnV 0 a.N).map (fld 2)), .lst ((dnV 0 a.N).map (fld 3)), .lst ((dnV 0 a.N).map (fld 4))]) = some true := by
 rw [col0, col1, col2, col3, col4, ← List.range_eq_range']
 have es : ∀ (k : Nat) (s : Str), eqV (k + 1) (X (toB a) a tm) (.str s) (.str s) = some true := fun k s => by show some (decide (s = s)) = _; simp
 have ei : ∀ (k : Nat) (s : Int), eqV (k + 1) (X (toB a) a tm) (.int s) (.int s) = some true := fun k s => by show some (decide (s = s)) = _; simp
 have e0 : eqV 5 (X (toB a) a tm) (.ref .spaces) (.lst (a.N.map fun x => .str x.sp)) = some true := eq_ref (xs := a.N.map fun x => .str x.sp) rfl rfl (eqs_map fun v _ => es 3 _)
 have e1 : eqV 5 (X (toB a) a tm) (.ref .names) (.lst (a.N.map fun x => .str x.nm)) = some true := eq_ref (xs := a.N.map fun x => .str x.nm) rfl rfl (eqs_map fun v _ => es 3 _)
 have e2 : eqV 5 (X (toB a) a tm) (.ref .attrs) (.lst (a.N.map fun x => atV x.att)) = some true := eq_ref (xs := a.N.map fun x => atV x.att) rfl rfl (eqs_map fun v _ => by
  show (if (v.att.map pairV).length = (v.att.map pairV).length then eqV.eqs (eqV 3 _) (v.att.map pairV) (v.att.map pairV) else some false) = _
  rw [if_pos rfl]; exact eq_pairs _ 1 _)
 have e3 : eqV 5 (X (toB a) a tm) (.ref .parents) (.lst (a.N.map fun x => .int x.par)) = some true := eq_ref (xs := a.N.map fun x => .int x.par) rfl rfl (eqs_map fun v _ => ei 3 _)
 have e4 : eqV 5 (X (toB a) a tm) (.ref .kids) (.lst ((List.range a.N.length).map fun i => .ref (.dc i))) = some true := eq_ref (xs := (List.range a.N.length).map fun i => .ref (.ch i)) rfl (by simp) (eqs_map fun i hi => by
  have hi' := List.mem_range.mp hi
  have h1 : a.N[i]? = some a.N[i] := List.getElem?_eq_getElem hi'
  have g1 : (X (toB a) a tm).get (.ch i) = some (.list (kidsV a.N[i])) := ch_get h1
  have g2 : (X (toB a) a tm).get (.dc i) = some (.list (kidsV a.N[i])) := dc_get h1
  show atList ((X (toB a) a tm).get (.ch i)) _ = _
  rw [g1]
  show atList ((X (toB a) a tm).get (.dc i)) _ = _
  rw [g2]
  show (if Ad.ch i = Ad.dc i then none else if (kidsV a.N[i]).length = (kidsV a.N[i]).length then eqV.eqs (eqV 3 (X (toB a) a tm)) (kidsV a.N[i]) (kidsV a.N[i]) else some false) = _
  rw [if_neg (fun h => by cases h), if_pos rfl]
  exact eq_nums _ 2 _)
 show eqV.eqs (eqV 5 _) _ _ = _
 exact eqs_cons e0 (eqs_cons e1 (eqs_cons e2 (eqs_cons e3 (eqs_cons e4 rfl))))
end
end Mine
set_option maxHeartbeats 4000000
namespace Mine
open PySem PySem.W
theorem evSs_app {T : Tab} {pol : Pol} {rec : Rec} {sc : Scope} {l2 : List Stmt} {l' : Loc} {s' : St} : ∀ {l1 : List Stmt} {l : Loc} {s : St}, evSs T pol rec l1 sc l s = some (.next, l', s') → evSs T pol rec (l1 ++ l2) sc l s = evSs T pol rec l2 sc l' s'
 | [], l, s, h => by
  have : some (Fl.next, l, s) = some (Fl.next, l', s') := h
  cases this; rfl
 | c :: r, l, s, h => by
  revert h
  show sb (evS T pol rec c sc l s) _ = _ → sb (evS T pol rec c sc l s) _ = _
  cases evS T pol rec c sc l s with
  | none => intro h; cases h
  | some w =>
   obtain ⟨fl, l1, s1⟩ := w
   cases fl with
   | next => exact fun h => evSs_app h
   | brk => intro h; cases h
   | cont => intro h; cases h
   | ret v => intro h; cases h
section
variable {n : Nat} {K : Fl → Loc → St → Prop} {S mo0 : MV} {k : Nat} {dg mr : Int} {tm : List MO} {t : List (String × MV)} {c : A}
theorem ne_owners {K : Bool → Prop} {b : B} {d : D} {tm : List MO} {i : Nat} (hi : tm[i]? = some (.dict [])) (k : K false) : Yes (cmp (W b d tm) .NotEq (.ref .owners) (.ref (.tm i))) K := by
 refine ⟨false, ?_, k⟩
 have h : bothNil (W b d tm) (.ref .owners) (.ref (.tm i)) = true := by
  show nilD ((W b d tm).get (.tm i)) = true
  rw [tmG hi]
  rfl
 show (if bothNil (W b d tm) (.ref .owners) (.ref (.tm i)) = true then some false else _) = _
 rw [if_pos h]
theorem bin_rep {K : MV → Prop} {v : MV} {i : Int} (h : 0 ≤ i ∧ i ≤ 10000) (k : K (.lst (List.replicate i.toNat v))) : Yes (binop .Mult (.lst [v]) (.int i)) K := ⟨_, if_pos h, k⟩
theorem eq_lst {K : Bool → Prop} {st : St} {ad : Ad} {xs : List MV} (hg : st.get ad = some (.list xs)) (h : ∀ v ∈ xs, eqV 5 st v v = some true) (k : K true) : Yes (cmp st .Eq (.ref ad) (.lst xs)) K := by
 refine ⟨true, ?_, k⟩
 show eqV 6 st (.ref ad) (.lst xs) = _
 exact eq_ref hg rfl (eqs_sameC h)
theorem tail_s (H : Bd 300 c) (ht : Tl2 t) (kk : ∀ l st, K (.ret (.bool true)) l st) :
  cSs theTab thePol (C (n+15)) ((fnB 73 0).drop 14) (fnS 73 0) (lawL S mo0 k dg mr t) (X (toB c) c tm) K := by
 have hN := H.hN
 have h0 := H.h0
 have col := fun {l j K'} hj hl h => col_loop (n := n + 15) (b := toB c) (a := c) (x := moreA c) (tm := tm) (l := l) (j := j) hj hl (by lia) c.N.length 0 1000 (K := K') (by lia) (by lia) h
 have dl : ∀ {K : MV → Prop} {tm : List MO}, K (nv c.N.length) → Yes (builtin (X (toB c) c tm) "len" [.ref .dnodes]) K := fun k => dn_len (le_lim (by lia)) k
 have cl : ∀ j, ((dnV 0 c.N).map (fld j)).length ≤ lim := fun j => by rw [List.length_map, dnV_len]; exact le_lim (by lia)
 have es : ∀ (st : St) (s : Str), eqV 5 st (.str s) (.str s) = some true := fun st s => by show some (decide (s = s)) = _; simp
 obtain ⟨w, tk, rfl | ⟨nb, rfl⟩⟩ := ht
 all_goals
  refine comp_rule ?_
  refine Yes.mk (.rng 0 5 1) (by rfl) ?_
  refine comp_fixed (vs := [.int 0, .int 1, .int 2, .int 3, .int 4]) (by rfl) ?_
  refine comp_turnC ?_
  refine cif_t rfl ?_
  refine comp_rule ?_
  refine comp_ref ?_
  refine col (j := 0) (by decide) (by rfl) ?_
  refine And.intro (cl 0) ?_
  refine comp_turnC ?_
  refine cif_t rfl ?_
  refine comp_rule ?_
  refine comp_ref ?_
  refine col (j := 1) (by decide) (by rfl) ?_
  refine And.intro (cl 1) ?_
  refine comp_turnC ?_
  refine cif_t rfl ?_
  refine comp_rule ?_
  refine comp_ref ?_
  refine col (j := 2) (by decide) (by rfl) ?_
  refine And.intro (cl 2) ?_
  refine comp_turnC ?_
  refine cif_t rfl ?_
  refine comp_rule ?_
  refine comp_ref ?_
  refine col (j := 3) (by decide) (by rfl) ?_
  refine And.intro (cl 3) ?_
  refine comp_turnC ?_
  refine cif_t rfl ?_
  refine comp_rule ?_
  refine comp_ref ?_
  refine col (j := 4) (by decide) (by rfl) ?_
  refine And.intro (cl 4) ?_
  refine comp_nil ?_
  refine And.intro (by exact Nat.le_of_ble_eq_true rfl) ?_
  refine lay_lst (by rfl) ?_
  refine Yes.mk false ?_ ?_
  ·show ob (eqV 6 (X (toB c) c tm) _ _) (fun r => some (!r)) = _
   exact congrArg (fun z => ob z fun r => some (!r)) (rows_eq (a := c) (tm := tm))
  refine cif_f rfl ?_
  refine dict_rule ?_
  refine pairs_nil ?_
  refine tm_dalloc (es := []) (by rfl) ?_
  refine ne_owners (by simp) ?_
  refine cif_f rfl ?_
  refine cif_f rfl ?_
  refine lay_lst (by rfl) ?_
  refine lay_lst (by rfl) ?_
  refine dl ?_
  refine bin_rep (by lia) ?_
  refine bin_lst (by rw [List.length_append, List.length_replicate]; exact le_lim (by simp; lia)) ?_
  have e1 : [sv "document"] ++ List.replicate ((c.N.length : Int) - 1).toNat (sv "element") = (toB c).kinds := by
   show _ = sv "document" :: List.replicate (c.N.length - 1) (sv "element")
   rw [show ((c.N.length : Int) - 1).toNat = c.N.length - 1 by lia]; rfl
  have e2 : List.replicate ((c.N.length : Int)).toNat (sv "") = (toB c).texts := by
   show _ = List.replicate c.N.length (sv ""); rfl
  rw [e1]
  refine eq_lst (xs := (toB c).kinds) rfl ?_ ?_
  ·intro v hv
   rw [← e1] at hv
   rcases List.mem_append.mp hv with h | h
   ·rw [List.mem_singleton.mp h]; exact es _ _
   ·rw [List.eq_of_mem_replicate h]; exact es _ _
  refine cif_t rfl ?_
  refine lay_lst (by rfl) ?_
  refine dl ?_
  refine bin_rep (by lia) ?_
  rw [e2]
  refine eq_lst (xs := (toB c).texts) rfl ?_ ?_
  ·intro v hv
   rw [← e2] at hv
   rw [List.eq_of_mem_replicate hv]; exact es _ _
  exact kk _ _
end
theorem a0_bd : Bd 10 a0 := by
 refine ⟨by decide, by decide, by decide, by decide, by decide, ⟨[], rfl⟩, by decide, by decide, fun x hx => (by cases hx), by decide, ?_, by decide, by decide⟩
 intro k x h
 match k, h with
 | 0, h => cases h; exact .inl rfl
 | 1, h => cases h; exact .inr ⟨0, rfl, by decide⟩
 | 2, h => cases h; exact .inr ⟨1, rfl, by decide⟩
 | k + 3, h => cases h
theorem a0_hs : Hs a0 := by
 refine ⟨fun x hx => ?_, ⟨_, rfl, rfl⟩, ⟨_, rfl, rfl⟩⟩
 have h : x ∈ [1, 2] := hx
 simp only [List.mem_cons, List.mem_nil_iff, or_false] at h
 rcases h with rfl | rfl
 ·exact ⟨_, rfl, rfl, by simp [okNames]⟩
 ·exact ⟨_, rfl, rfl, by simp [okNames]⟩
theorem call_run {n i j : Nat} {args : List MV} {l l' : Loc} {st st' : St} {v : MV} (hb : bindF i j args = some l) (e : evSs theTab thePol (C n) (fnB i j) (fnS i j) l st = some (.ret v, l', st')) : callN theTab thePol (n + 1) (.fn i j) args st = some (v, st') := by
 revert e hb
 unfold fnB fnS bindF
 cases h : theFn i j with
 | none => exact fun h => by cases h
 | some d =>
  intro (hb : bindP d.params args d.defaults [] = some l) (e : evSs theTab thePol (C n) d.body d.scope l st = some (.ret v, l', st'))
  rw [callN_fn (T := theTab) h]
  unfold locInit
  rw [hb]
  show retOf (evSs ..) = _
  have e2 : callN theTab thePol n = C n := by unfold C; rfl
  rw [e2, e]
  rfl
theorem law_plain (ns : List Int) (hns : ns.length ≤ 63) : ∃ st, callN theTab thePol 16 (.fn 73 0) [scr ns] {} = some (.bool true, st) := by
 have hh := head_run (scr ns)
 have eC : callN theTab thePol 15 = C 15 := by unfold C; rfl
 rw [eC] at hh
 have g : Yes3 (evSs theTab thePol (C 15) ((fnB 73 0).drop 11) (fnS 73 0) (argL [("script", scr ns), ("modes", .tup (modes8.map .str)), ("rules", .ref .rules), ("mode", sv "in column group"), ("builder", .ref .builder), ("tree", .ref .tree), ("root", nv 1), ("due", .ref .due)]) (Y (toB a0) a0 [] [.list [], .list [.int 0]])) fun fl _ _ => fl = .ret (.bool true) := by
  refine cSs_yes ?_
  refine words_s ?_
  refine usual_s ?_
  refine v_len (by rw [List.length_map, usual_len]; decide) ?_
  rw [List.length_map, usual_len]
  refine rng_s (by decide) ?_
  refine for_fixed (range_fix (by decide)) ?_
  refine turns_s (n := 0) hns 39 0 rfl a0_bd a0_hs (.inl ⟨⟨sv "in column group", rfl⟩, rfl, rfl, by decide⟩) ?_
  intro mo k' dg mr t c tm' ht Hc
  refine then_next ?_
  exact tail_s (n := 0) (S := scr ns) (mo0 := mo) (k := k') (dg := dg) (mr := mr) (t := t) (tm := tm') Hc ht (fun _ _ => rfl)
 obtain ⟨fl, l', s', e, rfl⟩ := g
 have e2 := evSs_app (l2 := (fnB 73 0).drop 11) hh
 rw [List.take_append_drop, e] at e2
 exact ⟨s', call_run (l := argL [("script", scr ns)]) (by rfl) e2⟩
end Mine
namespace Mine.H
open PySem PySem.W
noncomputable abbrev q (s : String) : Str := Str.ofString s
noncomputable abbrev vs (s : String) (t : Nat) : Value := .str (Str.ofString s) t
noncomputable abbrev vi (i : Int) (t : Nat) : Value := .int i t
noncomputable abbrev vr (a : Nat) : Value := .ref a
noncomputable abbrev de (P : Params) (s : String) (t : Nat) (v : Value) : DictEntry := ⟨PyData.keyHash P (Str.ofString s), .str (Str.ofString s) t, v⟩
noncomputable abbrev sq (l : List Value) (n : Nat) : Data := .seq l.toArray n
noncomputable abbrev dc (l : List DictEntry) (n : Nat) : Data := .dict l.toArray n
noncomputable abbrev fl (l : List Value) : Data := .fields l.toArray
noncomputable def stmtAt (i j : Nat) : Stmt := match Mine.topS i with
 | some s => (match j with
  | 0 => s
  | j + 1 => match s with
   | .ClassDef _ _ _ body _ _ _ _ _ _ _ => body.getD j s
   | s => s)
 | none => .Pass ⟨0, 0, 0, 0⟩
noncomputable def fd (i j : Nat) (qn : String) (g : Nat) (cl : List (String × Nat)) (d kd doc mo : Value) (an : Option Nat) (co ct : Value) (bu : Nat) : FuncData := match stmtAt i j with
 | .FunctionDef name args body _ _ _ scope _ _ _ => ⟨name, Str.ofString qn, args, .stmts body, scope, g, cl.map fun p => (Str.ofString p.1, p.2), d, kd, doc, mo, an, co, ct, bu⟩
 | _ => default
noncomputable def cd (n : String) (b m : List Value) (ns : Nat) (qn : String) (hd : Bool) (sn : List String) (sc : List Value) (ab : Bool) (co : Option Bool) (de : Bool) : ClassData := ⟨Str.ofString n, b, m, ns, Str.ofString qn, hd, sn.map Str.ofString, sc, ab, co, de⟩
noncomputable abbrev ob (c : Value) (d : Option Nat) (x : Data) (s : List (Option Value)) : Obj := ⟨c, d, x, s.toArray⟩
noncomputable def os0 (P : Params) : List Obj := [
 ob (.type "tuple") (none) (sq [] 0) [],
 ob (.none) (none) (fl []) [],
 ob (.type "tuple") (none) (sq [(vs "k" 190)] 0) [],
 ob (.type "tuple") (none) (sq [] 0) [],
 ob (.none) (none) (.func (fd 0 0 "_wall" 0 [] .none .none .none .none none .none .none 0)) [],
 ob (.type "code") (none) (fl [(vs "_wall" 187), (vs "_wall" 188), (vs "/claim/cut.py" 189), (vi 1 0), (vi 1 0), (vi 0 0), (vi 0 0), (vi 3 0), (vr 15), (.bool true), (vi 181 0), (vr 16), .none, (vr 17), (vr 18), (vr 19), (vi 191 0), (vi 1 0), (vs "/claim/cut.py" 192)]) [],
 ob (.type "function") (none) (.func (fd 0 0 "_wall" 3 [] .none .none .none (vs "__main__" 164) none (vr 20) .none 0)) [],
 ob (.type "tuple") (none) (sq [] 0) [],
 ob (.none) (none) (fl []) [],
 ob (.type "tuple") (none) (sq [(vs "first" 199), (vs "rows" 200)] 0) [],
 ob (.type "tuple") (none) (sq [] 0) [],
 ob (.none) (none) (.func (fd 2 0 "svg_attr_words" 0 [] .none .none .none .none none .none .none 0)) [],
 ob (.type "code") (none) (fl [(vs "svg_attr_words" 196), (vs "svg_attr_words" 197), (vs "/claim/cut.py" 198), (vi 5 0), (vi 1 0), (vi 0 0), (vi 0 0), (vi 3 0), (vr 22), (.bool true), (vi 181 0), (vr 23), .none, (vr 24), (vr 25), (vr 26), (vi 201 0), (vi 5 0), (vs "/claim/cut.py" 202)]) [],
 ob (.type "function") (none) (.func (fd 2 0 "svg_attr_words" 3 [] .none .none .none (vs "htmltree.foreignnames" 194) none (vr 27) .none 0)) [],
 ob (.type "tuple") (none) (sq [] 0) [],
 ob (.none) (none) (fl []) [],
 ob (.type "tuple") (none) (sq [(vs "words" 207), (vs "name" 208), (vs "word" 209)] 0) [],
 ob (.type "tuple") (none) (sq [] 0) [],
 ob (.none) (none) (.func (fd 3 0 "spelled" 0 [] .none .none .none .none none .none .none 0)) [],
 ob (.type "code") (none) (fl [(vs "spelled" 204), (vs "spelled" 205), (vs "/claim/cut.py" 206), (vi 8 0), (vi 2 0), (vi 0 0), (vi 0 0), (vi 3 0), (vr 29), (.bool true), (vi 181 0), (vr 30), .none, (vr 31), (vr 32), (vr 33), (vi 210 0), (vi 8 0), (vs "/claim/cut.py" 211)]) [],
 ob (.type "function") (none) (.func (fd 3 0 "spelled" 3 [] .none .none .none (vs "htmltree.foreignnames" 194) none (vr 34) .none 0)) [],
 ob (.type "tuple") (none) (sq [] 0) [],
 ob (.none) (none) (fl []) [],
 ob (.type "tuple") (none) (sq [(vs "name" 216)] 0) [],
 ob (.type "tuple") (none) (sq [] 0) [],
 ob (.none) (none) (.func (fd 4 0 "svg_attr" 0 [] .none .none .none .none none .none .none 0)) [],
 ob (.type "code") (none) (fl [(vs "svg_attr" 213), (vs "svg_attr" 214), (vs "/claim/cut.py" 215), (vi 13 0), (vi 1 0), (vi 0 0), (vi 0 0), (vi 3 0), (vr 36), (.bool true), (vi 181 0), (vr 37), .none, (vr 38), (vr 39), (vr 40), (vi 217 0), (vi 13 0), (vs "/claim/cut.py" 218)]) [],
 ob (.type "function") (none) (.func (fd 4 0 "svg_attr" 3 [] .none .none .none (vs "htmltree.foreignnames" 194) none (vr 41) .none 0)) [],
 ob (.type "tuple") (none) (sq [] 0) [],
 ob (.none) (none) (fl []) [],
 ob (.type "tuple") (none) (sq [(vs "name" 223)] 0) [],
 ob (.type "tuple") (none) (sq [] 0) [],
 ob (.none) (none) (.func (fd 5 0 "math_attr" 0 [] .none .none .none .none none .none .none 0)) [],
 ob (.type "code") (none) (fl [(vs "math_attr" 220), (vs "math_attr" 221), (vs "/claim/cut.py" 222), (vi 15 0), (vi 1 0), (vi 0 0), (vi 0 0), (vi 3 0), (vr 43), (.bool true), (vi 181 0), (vr 44), .none, (vr 45), (vr 46), (vr 47), (vi 224 0), (vi 15 0), (vs "/claim/cut.py" 225)]) [],
 ob (.type "function") (none) (.func (fd 5 0 "math_attr" 3 [] .none .none .none (vs "htmltree.foreignnames" 194) none (vr 48) .none 0)) [],
 ob (.type "tuple") (none) (sq [] 0) [],
 ob (.none) (none) (fl []) [],
 ob (.type "tuple") (none) (sq [(vs "name" 230), (vs "words" 231)] 0) [],
 ob (.type "tuple") (none) (sq [] 0) [],
 ob (.none) (none) (.func (fd 6 0 "foreign_attr" 0 [] .none .none .none .none none .none .none 0)) []]
noncomputable def os1 (P : Params) : List Obj := [
 ob (.type "code") (none) (fl [(vs "foreign_attr" 227), (vs "foreign_attr" 228), (vs "/claim/cut.py" 229), (vi 19 0), (vi 1 0), (vi 0 0), (vi 0 0), (vi 3 0), (vr 50), (.bool true), (vi 181 0), (vr 51), .none, (vr 52), (vr 53), (vr 54), (vi 232 0), (vi 19 0), (vs "/claim/cut.py" 233)]) [],
 ob (.type "function") (none) (.func (fd 6 0 "foreign_attr" 3 [] .none .none .none (vs "htmltree.foreignnames" 194) none (vr 55) .none 0)) [],
 ob (.type "tuple") (none) (sq [] 0) [],
 ob (.none) (none) (fl []) [],
 ob (.type "tuple") (none) (sq [(vs "attrs" 238), (vs "space" 239), (vs "pairs" 240), (vs "name" 241), (vs "value" 242)] 0) [],
 ob (.type "tuple") (none) (sq [] 0) [],
 ob (.none) (none) (.func (fd 7 0 "adjusted" 0 [] .none .none .none .none none .none .none 0)) [],
 ob (.type "code") (none) (fl [(vs "adjusted" 235), (vs "adjusted" 236), (vs "/claim/cut.py" 237), (vi 25 0), (vi 2 0), (vi 0 0), (vi 0 0), (vi 3 0), (vr 57), (.bool true), (vi 181 0), (vr 58), .none, (vr 59), (vr 60), (vr 61), (vi 243 0), (vi 25 0), (vs "/claim/cut.py" 244)]) [],
 ob (.type "function") (none) (.func (fd 7 0 "adjusted" 3 [] .none .none .none (vs "htmltree.foreignnames" 194) none (vr 62) .none 0)) [],
 ob (.type "tuple") (none) (sq [] 0) [],
 ob (.none) (none) (fl []) [],
 ob (.type "tuple") (none) (sq [(vs "c" 251)] 0) [],
 ob (.type "tuple") (none) (sq [] 0) [],
 ob (.none) (none) (.func (fd 9 0 "is_upper" 0 [] .none .none .none .none none .none .none 0)) [],
 ob (.type "code") (none) (fl [(vs "is_upper" 248), (vs "is_upper" 249), (vs "/claim/cut.py" 250), (vi 36 0), (vi 1 0), (vi 0 0), (vi 0 0), (vi 3 0), (vr 64), (.bool true), (vi 181 0), (vr 65), .none, (vr 66), (vr 67), (vr 68), (vi 252 0), (vi 36 0), (vs "/claim/cut.py" 253)]) [],
 ob (.type "function") (none) (.func (fd 9 0 "is_upper" 3 [] .none .none .none (vs "htmltree.signs" 246) none (vr 69) .none 0)) [],
 ob (.type "tuple") (none) (sq [] 0) [],
 ob (.none) (none) (fl []) [],
 ob (.type "tuple") (none) (sq [(vs "c" 258)] 0) [],
 ob (.type "tuple") (none) (sq [] 0) [],
 ob (.none) (none) (.func (fd 10 0 "lower" 0 [] .none .none .none .none none .none .none 0)) [],
 ob (.type "code") (none) (fl [(vs "lower" 255), (vs "lower" 256), (vs "/claim/cut.py" 257), (vi 38 0), (vi 1 0), (vi 0 0), (vi 0 0), (vi 3 0), (vr 71), (.bool true), (vi 181 0), (vr 72), .none, (vr 73), (vr 74), (vr 75), (vi 259 0), (vi 38 0), (vs "/claim/cut.py" 260)]) [],
 ob (.type "function") (none) (.func (fd 10 0 "lower" 3 [] .none .none .none (vs "htmltree.signs" 246) none (vr 76) .none 0)) [],
 ob (.type "tuple") (none) (sq [] 0) [],
 ob (.none) (none) (fl []) [],
 ob (.type "tuple") (none) (sq [(vs "text" 265), (vs "out" 266), (vs "c" 267)] 0) [],
 ob (.type "tuple") (none) (sq [] 0) [],
 ob (.none) (none) (.func (fd 11 0 "lower_text" 0 [] .none .none .none .none none .none .none 0)) [],
 ob (.type "code") (none) (fl [(vs "lower_text" 262), (vs "lower_text" 263), (vs "/claim/cut.py" 264), (vi 42 0), (vi 1 0), (vi 0 0), (vi 0 0), (vi 3 0), (vr 78), (.bool true), (vi 181 0), (vr 79), .none, (vr 80), (vr 81), (vr 82), (vi 268 0), (vi 42 0), (vs "/claim/cut.py" 269)]) [],
 ob (.type "function") (none) (.func (fd 11 0 "lower_text" 3 [] .none .none .none (vs "htmltree.signs" 246) none (vr 83) .none 0)) [],
 ob (.type "tuple") (none) (sq [] 0) [],
 ob (.none) (none) (fl []) [],
 ob (.type "tuple") (none) (sq [(vs "name" 276)] 0) [],
 ob (.type "tuple") (none) (sq [] 0) [],
 ob (.none) (none) (.func (fd 13 0 "is_table_part" 0 [] .none .none .none .none none .none .none 0)) [],
 ob (.type "code") (none) (fl [(vs "is_table_part" 273), (vs "is_table_part" 274), (vs "/claim/cut.py" 275), (vi 48 0), (vi 1 0), (vi 0 0), (vi 0 0), (vi 3 0), (vr 85), (.bool true), (vi 181 0), (vr 86), .none, (vr 87), (vr 88), (vr 89), (vi 277 0), (vi 48 0), (vs "/claim/cut.py" 278)]) [],
 ob (.type "function") (none) (.func (fd 13 0 "is_table_part" 3 [] .none .none .none (vs "htmltree.names" 271) none (vr 90) .none 0)) [],
 ob (.type "tuple") (none) (sq [] 0) [],
 ob (.none) (none) (fl []) [],
 ob (.type "tuple") (none) (sq [(vs "tree" 283), (vs "node" 284)] 0) []]
noncomputable def os2 (P : Params) : List Obj := [
 ob (.type "tuple") (none) (sq [] 0) [],
 ob (.none) (none) (.func (fd 14 0 "is_math_point" 0 [] .none .none .none .none none .none .none 0)) [],
 ob (.type "code") (none) (fl [(vs "is_math_point" 280), (vs "is_math_point" 281), (vs "/claim/cut.py" 282), (vi 50 0), (vi 2 0), (vi 0 0), (vi 0 0), (vi 3 0), (vr 92), (.bool true), (vi 181 0), (vr 93), .none, (vr 94), (vr 95), (vr 96), (vi 285 0), (vi 50 0), (vs "/claim/cut.py" 286)]) [],
 ob (.type "function") (none) (.func (fd 14 0 "is_math_point" 3 [] .none .none .none (vs "htmltree.names" 271) none (vr 97) .none 0)) [],
 ob (.type "tuple") (none) (sq [] 0) [],
 ob (.none) (none) (fl []) [],
 ob (.type "tuple") (none) (sq [(vs "tree" 291), (vs "node" 292), (vs "encoding" 293)] 0) [],
 ob (.type "tuple") (none) (sq [] 0) [],
 ob (.none) (none) (.func (fd 15 0 "is_html_point" 0 [] .none .none .none .none none .none .none 0)) [],
 ob (.type "code") (none) (fl [(vs "is_html_point" 288), (vs "is_html_point" 289), (vs "/claim/cut.py" 290), (vi 52 0), (vi 2 0), (vi 0 0), (vi 0 0), (vi 3 0), (vr 99), (.bool true), (vi 181 0), (vr 100), .none, (vr 101), (vr 102), (vr 103), (vi 294 0), (vi 52 0), (vs "/claim/cut.py" 295)]) [],
 ob (.type "function") (none) (.func (fd 15 0 "is_html_point" 3 [] .none .none .none (vs "htmltree.names" 271) none (vr 104) .none 0)) [],
 ob (.type "tuple") (none) (sq [] 0) [],
 ob (.none) (none) (fl []) [],
 ob (.type "tuple") (none) (sq [] 0) [],
 ob (.type "tuple") (none) (sq [] 0) [],
 ob (.none) (none) (.func (fd 16 0 "implied_names" 0 [] .none .none .none .none none .none .none 0)) [],
 ob (.type "code") (none) (fl [(vs "implied_names" 297), (vs "implied_names" 298), (vs "/claim/cut.py" 299), (vi 59 0), (vi 0 0), (vi 0 0), (vi 0 0), (vi 3 0), (vr 106), (.bool true), (vi 181 0), (vr 107), .none, (vr 108), (vr 109), (vr 110), (vi 300 0), (vi 59 0), (vs "/claim/cut.py" 301)]) [],
 ob (.type "function") (none) (.func (fd 16 0 "implied_names" 3 [] .none .none .none (vs "htmltree.names" 271) none (vr 111) .none 0)) [],
 ob (.type "tuple") (none) (sq [] 0) [],
 ob (.none) (none) (fl []) [],
 ob (.type "tuple") (none) (sq [(vs "builder" 308), (vs "tree" 309), (vs "items" 310), (vs "at" 311), (vs "node" 312)] 0) [],
 ob (.type "tuple") (none) (sq [] 0) [],
 ob (.none) (none) (.func (fd 18 0 "foster_place" 0 [] .none .none .none .none none .none .none 0)) [],
 ob (.type "code") (none) (fl [(vs "foster_place" 305), (vs "foster_place" 306), (vs "/claim/cut.py" 307), (vi 62 0), (vi 1 0), (vi 0 0), (vi 0 0), (vi 3 0), (vr 113), (.bool true), (vi 181 0), (vr 114), .none, (vr 115), (vr 116), (vr 117), (vi 313 0), (vi 62 0), (vs "/claim/cut.py" 314)]) [],
 ob (.type "function") (none) (.func (fd 18 0 "foster_place" 3 [] .none .none .none (vs "htmltree.inserting" 303) none (vr 118) .none 0)) [],
 ob (.type "tuple") (none) (sq [(vi (-1) 317)] 0) [],
 ob (.type "tuple") (none) (sq [] 0) [],
 ob (.none) (none) (fl []) [],
 ob (.type "tuple") (none) (sq [(vs "builder" 321), (vs "target" 322), (vs "tree" 323), (vs "here" 324), (vs "before" 325)] 0) [],
 ob (.type "tuple") (none) (sq [] 0) [],
 ob (.none) (none) (.func (fd 19 0 "place_for" 0 [] .none .none .none .none none .none .none 0)) [],
 ob (.type "code") (none) (fl [(vs "place_for" 318), (vs "place_for" 319), (vs "/claim/cut.py" 320), (vi 76 0), (vi 2 0), (vi 0 0), (vi 0 0), (vi 3 0), (vr 121), (.bool true), (vi 181 0), (vr 122), .none, (vr 123), (vr 124), (vr 125), (vi 326 0), (vi 76 0), (vs "/claim/cut.py" 327)]) [],
 ob (.type "function") (none) (.func (fd 19 0 "place_for" 3 [] (vr 120) .none .none (vs "htmltree.inserting" 303) none (vr 126) .none 0)) [],
 ob (.type "tuple") (none) (sq [(vs "html" 329)] 0) [],
 ob (.type "tuple") (none) (sq [] 0) [],
 ob (.none) (none) (fl []) [],
 ob (.type "tuple") (none) (sq [(vs "builder" 333), (vs "name" 334), (vs "attrs" 335), (vs "space" 336)] 0) [],
 ob (.type "tuple") (none) (sq [] 0) [],
 ob (.none) (none) (.func (fd 20 0 "make" 0 [] .none .none .none .none none .none .none 0)) [],
 ob (.type "code") (none) (fl [(vs "make" 330), (vs "make" 331), (vs "/claim/cut.py" 332), (vi 89 0), (vi 4 0), (vi 0 0), (vi 0 0), (vi 3 0), (vr 129), (.bool true), (vi 181 0), (vr 130), .none, (vr 131), (vr 132), (vr 133), (vi 337 0), (vi 89 0), (vs "/claim/cut.py" 338)]) []]
noncomputable def os3 (P : Params) : List Obj := [
 ob (.type "function") (none) (.func (fd 20 0 "make" 3 [] (vr 128) .none .none (vs "htmltree.inserting" 303) none (vr 134) .none 0)) [],
 ob (.type "tuple") (none) (sq [] 0) [],
 ob (.type "tuple") (none) (sq [(vr 136), (vs "html" 340)] 0) [],
 ob (.type "tuple") (none) (sq [] 0) [],
 ob (.none) (none) (fl []) [],
 ob (.type "tuple") (none) (sq [(vs "builder" 344), (vs "name" 345), (vs "attrs" 346), (vs "space" 347), (vs "parent" 348), (vs "before" 349), (vs "node" 350)] 0) [],
 ob (.type "tuple") (none) (sq [] 0) [],
 ob (.none) (none) (.func (fd 21 0 "insert_element" 0 [] .none .none .none .none none .none .none 0)) [],
 ob (.type "code") (none) (fl [(vs "insert_element" 341), (vs "insert_element" 342), (vs "/claim/cut.py" 343), (vi 91 0), (vi 4 0), (vi 0 0), (vi 0 0), (vi 3 0), (vr 138), (.bool true), (vi 181 0), (vr 139), .none, (vr 140), (vr 141), (vr 142), (vi 351 0), (vi 91 0), (vs "/claim/cut.py" 352)]) [],
 ob (.type "function") (none) (.func (fd 21 0 "insert_element" 3 [] (vr 137) .none .none (vs "htmltree.inserting" 303) none (vr 143) .none 0)) [],
 ob (.type "tuple") (none) (sq [] 0) [],
 ob (.none) (none) (fl []) [],
 ob (.type "tuple") (none) (sq [(vs "builder" 357), (vs "token" 358), (vs "node" 359)] 0) [],
 ob (.type "tuple") (none) (sq [] 0) [],
 ob (.none) (none) (.func (fd 22 0 "insert_token" 0 [] .none .none .none .none none .none .none 0)) [],
 ob (.type "code") (none) (fl [(vs "insert_token" 354), (vs "insert_token" 355), (vs "/claim/cut.py" 356), (vi 97 0), (vi 2 0), (vi 0 0), (vi 0 0), (vi 3 0), (vr 145), (.bool true), (vi 181 0), (vr 146), .none, (vr 147), (vr 148), (vr 149), (vi 360 0), (vi 97 0), (vs "/claim/cut.py" 361)]) [],
 ob (.type "function") (none) (.func (fd 22 0 "insert_token" 3 [] .none .none .none (vs "htmltree.inserting" 303) none (vr 150) .none 0)) [],
 ob (.type "tuple") (none) (sq [] 0) [],
 ob (.none) (none) (fl []) [],
 ob (.type "tuple") (none) (sq [(vs "builder" 366), (vs "token" 367), (vs "node" 368)] 0) [],
 ob (.type "tuple") (none) (sq [] 0) [],
 ob (.none) (none) (.func (fd 23 0 "insert_void" 0 [] .none .none .none .none none .none .none 0)) [],
 ob (.type "code") (none) (fl [(vs "insert_void" 363), (vs "insert_void" 364), (vs "/claim/cut.py" 365), (vi 101 0), (vi 2 0), (vi 0 0), (vi 0 0), (vi 3 0), (vr 152), (.bool true), (vi 181 0), (vr 153), .none, (vr 154), (vr 155), (vr 156), (vi 369 0), (vi 101 0), (vs "/claim/cut.py" 370)]) [],
 ob (.type "function") (none) (.func (fd 23 0 "insert_void" 3 [] .none .none .none (vs "htmltree.inserting" 303) none (vr 157) .none 0)) [],
 ob (.type "tuple") (none) (sq [] 0) [],
 ob (.none) (none) (fl []) [],
 ob (.type "tuple") (none) (sq [(vs "builder" 375), (vs "node" 376), (vs "tree" 377), (vs "name" 378)] 0) [],
 ob (.type "tuple") (none) (sq [] 0) [],
 ob (.none) (none) (.func (fd 24 0 "associate" 0 [] .none .none .none .none none .none .none 0)) [],
 ob (.type "code") (none) (fl [(vs "associate" 372), (vs "associate" 373), (vs "/claim/cut.py" 374), (vi 106 0), (vi 2 0), (vi 0 0), (vi 0 0), (vi 3 0), (vr 159), (.bool true), (vi 181 0), (vr 160), .none, (vr 161), (vr 162), (vr 163), (vi 379 0), (vi 106 0), (vs "/claim/cut.py" 380)]) [],
 ob (.type "function") (none) (.func (fd 24 0 "associate" 3 [] .none .none .none (vs "htmltree.inserting" 303) none (vr 164) .none 0)) [],
 ob (.type "tuple") (none) (sq [] 0) [],
 ob (.none) (none) (fl []) [],
 ob (.type "tuple") (none) (sq [(vs "builder" 385), (vs "tree" 386), (vs "formatting" 387), (vs "at" 388), (vs "old" 389)] 0) [],
 ob (.type "tuple") (none) (sq [] 0) [],
 ob (.none) (none) (.func (fd 25 0 "reconstruct" 0 [] .none .none .none .none none .none .none 0)) [],
 ob (.type "code") (none) (fl [(vs "reconstruct" 382), (vs "reconstruct" 383), (vs "/claim/cut.py" 384), (vi 117 0), (vi 1 0), (vi 0 0), (vi 0 0), (vi 3 0), (vr 166), (.bool true), (vi 181 0), (vr 167), .none, (vr 168), (vr 169), (vr 170), (vi 390 0), (vi 117 0), (vs "/claim/cut.py" 391)]) [],
 ob (.type "function") (none) (.func (fd 25 0 "reconstruct" 3 [] .none .none .none (vs "htmltree.inserting" 303) none (vr 171) .none 0)) [],
 ob (.type "tuple") (none) (sq [] 0) [],
 ob (.none) (none) (fl []) []]
noncomputable def os4 (P : Params) : List Obj := [
 ob (.type "tuple") (none) (sq [(vs "builder" 396), (vs "token" 397), (vs "state" 398)] 0) [],
 ob (.type "tuple") (none) (sq [] 0) [],
 ob (.none) (none) (.func (fd 26 0 "start_raw" 0 [] .none .none .none .none none .none .none 0)) [],
 ob (.type "code") (none) (fl [(vs "start_raw" 393), (vs "start_raw" 394), (vs "/claim/cut.py" 395), (vi 127 0), (vi 3 0), (vi 0 0), (vi 0 0), (vi 3 0), (vr 173), (.bool true), (vi 181 0), (vr 174), .none, (vr 175), (vr 176), (vr 177), (vi 399 0), (vi 127 0), (vs "/claim/cut.py" 400)]) [],
 ob (.type "function") (none) (.func (fd 26 0 "start_raw" 3 [] .none .none .none (vs "htmltree.inserting" 303) none (vr 178) .none 0)) [],
 ob (.type "tuple") (none) (sq [] 0) [],
 ob (.type "builtin_function_or_method") (none) (fl [(.builtin "type.__prepare__"), (.type "type")]) [],
 ob (.type "dict") (none) (dc [(de P "__module__" 411 (vs "htmltree.openstack" 402)), (de P "__qualname__" 413 (vs "OpenStack" 412)), (de P "__firstlineno__" 415 (vi 133 414)), (de P "__init__" 423 (vr 193)), (de P "push" 431 (vr 200)), (de P "pop" 438 (vr 207)), (de P "current" 445 (vr 214)), (de P "many" 452 (vr 221)), (de P "has" 460 (vr 228)), (de P "remove" 468 (vr 235)), (de P "place" 476 (vr 242)), (de P "put_at" 485 (vr 249)), (de P "name" 493 (vr 256)), (de P "has_name" 502 (vr 263)), (de P "pop_until" 510 (vr 270)), (de P "pop_to" 518 (vr 277)), (de P "__static_attributes__" 521 (vr 278))] 17) [],
 ob (.type "tuple") (none) (sq [] 0) [],
 ob (.none) (none) (fl [(vi 135 0), (vi 4 0), (vr 192), (vi 139 0), (vi 4 0), (vr 199), (vi 142 0), (vi 4 0), (vr 206), (vi 147 0), (vi 4 0), (vr 213), (vi 152 0), (vi 4 0), (vr 220), (vi 155 0), (vi 4 0), (vr 227), (vi 158 0), (vi 4 0), (vr 234), (vi 162 0), (vi 4 0), (vr 241), (vi 167 0), (vi 4 0), (vr 248), (vi 170 0), (vi 4 0), (vr 255), (vi 176 0), (vi 4 0), (vr 262), (vi 182 0), (vi 4 0), (vr 269), (vi 185 0), (vi 4 0), (vr 276)]) [],
 ob (.type "code") (none) (fl [(vs "OpenStack" 406), (vs "OpenStack" 407), (vs "/claim/cut.py" 408), (vi 133 0), (vi 0 0), (vi 0 0), (vi 0 0), (vi 0 0), (vr 183), (.bool false), (vi 181 0), (vr 184), .none, .none, .none, .none, (vi 409 0), (vi 133 0), (vs "/claim/cut.py" 410)]) [],
 ob (.type "frame") (none) (.plain) [some (vr 185), some (vr 3), some (vr 182), none, some (vs "htmltree.openstack" 402), none, some (vr 0)],
 ob (.type "tuple") (none) (sq [] 0) [],
 ob (.none) (none) (fl []) [],
 ob (.type "tuple") (none) (sq [(vs "self" 419), (vs "tree" 420)] 0) [],
 ob (.type "tuple") (none) (sq [] 0) [],
 ob (.none) (none) (.func (fd 28 1 "OpenStack.__init__" 0 [] .none .none .none .none none .none .none 0)) [],
 ob (.type "code") (none) (fl [(vs "__init__" 416), (vs "OpenStack.__init__" 417), (vs "/claim/cut.py" 418), (vi 135 0), (vi 2 0), (vi 0 0), (vi 0 0), (vi 3 0), (vr 187), (.bool true), (vi 181 0), (vr 188), .none, (vr 189), (vr 190), (vr 191), (vi 421 0), (vi 135 0), (vs "/claim/cut.py" 422)]) [],
 ob (.type "function") (none) (.func (fd 28 1 "OpenStack.__init__" 3 [] .none .none .none (vs "htmltree.openstack" 402) none (vr 192) .none 0)) [],
 ob (.type "tuple") (none) (sq [] 0) [],
 ob (.none) (none) (fl []) [],
 ob (.type "tuple") (none) (sq [(vs "self" 427), (vs "node" 428)] 0) [],
 ob (.type "tuple") (none) (sq [] 0) [],
 ob (.none) (none) (.func (fd 28 2 "OpenStack.push" 0 [] .none .none .none .none none .none .none 0)) [],
 ob (.type "code") (none) (fl [(vs "push" 424), (vs "OpenStack.push" 425), (vs "/claim/cut.py" 426), (vi 139 0), (vi 2 0), (vi 0 0), (vi 0 0), (vi 3 0), (vr 194), (.bool true), (vi 181 0), (vr 195), .none, (vr 196), (vr 197), (vr 198), (vi 429 0), (vi 139 0), (vs "/claim/cut.py" 430)]) [],
 ob (.type "function") (none) (.func (fd 28 2 "OpenStack.push" 3 [] .none .none .none (vs "htmltree.openstack" 402) none (vr 199) .none 0)) [],
 ob (.type "tuple") (none) (sq [] 0) [],
 ob (.none) (none) (fl []) [],
 ob (.type "tuple") (none) (sq [(vs "self" 435)] 0) [],
 ob (.type "tuple") (none) (sq [] 0) [],
 ob (.none) (none) (.func (fd 28 3 "OpenStack.pop" 0 [] .none .none .none .none none .none .none 0)) [],
 ob (.type "code") (none) (fl [(vs "pop" 432), (vs "OpenStack.pop" 433), (vs "/claim/cut.py" 434), (vi 142 0), (vi 1 0), (vi 0 0), (vi 0 0), (vi 3 0), (vr 201), (.bool true), (vi 181 0), (vr 202), .none, (vr 203), (vr 204), (vr 205), (vi 436 0), (vi 142 0), (vs "/claim/cut.py" 437)]) [],
 ob (.type "function") (none) (.func (fd 28 3 "OpenStack.pop" 3 [] .none .none .none (vs "htmltree.openstack" 402) none (vr 206) .none 0)) [],
 ob (.type "tuple") (none) (sq [] 0) [],
 ob (.none) (none) (fl []) [],
 ob (.type "tuple") (none) (sq [(vs "self" 442)] 0) [],
 ob (.type "tuple") (none) (sq [] 0) [],
 ob (.none) (none) (.func (fd 28 4 "OpenStack.current" 0 [] .none .none .none .none none .none .none 0)) [],
 ob (.type "code") (none) (fl [(vs "current" 439), (vs "OpenStack.current" 440), (vs "/claim/cut.py" 441), (vi 147 0), (vi 1 0), (vi 0 0), (vi 0 0), (vi 3 0), (vr 208), (.bool true), (vi 181 0), (vr 209), .none, (vr 210), (vr 211), (vr 212), (vi 443 0), (vi 147 0), (vs "/claim/cut.py" 444)]) [],
 ob (.type "function") (none) (.func (fd 28 4 "OpenStack.current" 3 [] .none .none .none (vs "htmltree.openstack" 402) none (vr 213) .none 0)) []]
noncomputable def os5 (P : Params) : List Obj := [
 ob (.type "tuple") (none) (sq [] 0) [],
 ob (.none) (none) (fl []) [],
 ob (.type "tuple") (none) (sq [(vs "self" 449)] 0) [],
 ob (.type "tuple") (none) (sq [] 0) [],
 ob (.none) (none) (.func (fd 28 5 "OpenStack.many" 0 [] .none .none .none .none none .none .none 0)) [],
 ob (.type "code") (none) (fl [(vs "many" 446), (vs "OpenStack.many" 447), (vs "/claim/cut.py" 448), (vi 152 0), (vi 1 0), (vi 0 0), (vi 0 0), (vi 3 0), (vr 215), (.bool true), (vi 181 0), (vr 216), .none, (vr 217), (vr 218), (vr 219), (vi 450 0), (vi 152 0), (vs "/claim/cut.py" 451)]) [],
 ob (.type "function") (none) (.func (fd 28 5 "OpenStack.many" 3 [] .none .none .none (vs "htmltree.openstack" 402) none (vr 220) .none 0)) [],
 ob (.type "tuple") (none) (sq [] 0) [],
 ob (.none) (none) (fl []) [],
 ob (.type "tuple") (none) (sq [(vs "self" 456), (vs "node" 457)] 0) [],
 ob (.type "tuple") (none) (sq [] 0) [],
 ob (.none) (none) (.func (fd 28 6 "OpenStack.has" 0 [] .none .none .none .none none .none .none 0)) [],
 ob (.type "code") (none) (fl [(vs "has" 453), (vs "OpenStack.has" 454), (vs "/claim/cut.py" 455), (vi 155 0), (vi 2 0), (vi 0 0), (vi 0 0), (vi 3 0), (vr 222), (.bool true), (vi 181 0), (vr 223), .none, (vr 224), (vr 225), (vr 226), (vi 458 0), (vi 155 0), (vs "/claim/cut.py" 459)]) [],
 ob (.type "function") (none) (.func (fd 28 6 "OpenStack.has" 3 [] .none .none .none (vs "htmltree.openstack" 402) none (vr 227) .none 0)) [],
 ob (.type "tuple") (none) (sq [] 0) [],
 ob (.none) (none) (fl []) [],
 ob (.type "tuple") (none) (sq [(vs "self" 464), (vs "node" 465)] 0) [],
 ob (.type "tuple") (none) (sq [] 0) [],
 ob (.none) (none) (.func (fd 28 7 "OpenStack.remove" 0 [] .none .none .none .none none .none .none 0)) [],
 ob (.type "code") (none) (fl [(vs "remove" 461), (vs "OpenStack.remove" 462), (vs "/claim/cut.py" 463), (vi 158 0), (vi 2 0), (vi 0 0), (vi 0 0), (vi 3 0), (vr 229), (.bool true), (vi 181 0), (vr 230), .none, (vr 231), (vr 232), (vr 233), (vi 466 0), (vi 158 0), (vs "/claim/cut.py" 467)]) [],
 ob (.type "function") (none) (.func (fd 28 7 "OpenStack.remove" 3 [] .none .none .none (vs "htmltree.openstack" 402) none (vr 234) .none 0)) [],
 ob (.type "tuple") (none) (sq [] 0) [],
 ob (.none) (none) (fl []) [],
 ob (.type "tuple") (none) (sq [(vs "self" 472), (vs "node" 473)] 0) [],
 ob (.type "tuple") (none) (sq [] 0) [],
 ob (.none) (none) (.func (fd 28 8 "OpenStack.place" 0 [] .none .none .none .none none .none .none 0)) [],
 ob (.type "code") (none) (fl [(vs "place" 469), (vs "OpenStack.place" 470), (vs "/claim/cut.py" 471), (vi 162 0), (vi 2 0), (vi 0 0), (vi 0 0), (vi 3 0), (vr 236), (.bool true), (vi 181 0), (vr 237), .none, (vr 238), (vr 239), (vr 240), (vi 474 0), (vi 162 0), (vs "/claim/cut.py" 475)]) [],
 ob (.type "function") (none) (.func (fd 28 8 "OpenStack.place" 3 [] .none .none .none (vs "htmltree.openstack" 402) none (vr 241) .none 0)) [],
 ob (.type "tuple") (none) (sq [] 0) [],
 ob (.none) (none) (fl []) [],
 ob (.type "tuple") (none) (sq [(vs "self" 480), (vs "place" 481), (vs "node" 482)] 0) [],
 ob (.type "tuple") (none) (sq [] 0) [],
 ob (.none) (none) (.func (fd 28 9 "OpenStack.put_at" 0 [] .none .none .none .none none .none .none 0)) [],
 ob (.type "code") (none) (fl [(vs "put_at" 477), (vs "OpenStack.put_at" 478), (vs "/claim/cut.py" 479), (vi 167 0), (vi 3 0), (vi 0 0), (vi 0 0), (vi 3 0), (vr 243), (.bool true), (vi 181 0), (vr 244), .none, (vr 245), (vr 246), (vr 247), (vi 483 0), (vi 167 0), (vs "/claim/cut.py" 484)]) [],
 ob (.type "function") (none) (.func (fd 28 9 "OpenStack.put_at" 3 [] .none .none .none (vs "htmltree.openstack" 402) none (vr 248) .none 0)) [],
 ob (.type "tuple") (none) (sq [] 0) [],
 ob (.none) (none) (fl []) [],
 ob (.type "tuple") (none) (sq [(vs "self" 489), (vs "node" 490)] 0) [],
 ob (.type "tuple") (none) (sq [] 0) [],
 ob (.none) (none) (.func (fd 28 10 "OpenStack.name" 0 [] .none .none .none .none none .none .none 0)) []]
noncomputable def os6 (P : Params) : List Obj := [
 ob (.type "code") (none) (fl [(vs "name" 486), (vs "OpenStack.name" 487), (vs "/claim/cut.py" 488), (vi 170 0), (vi 1 0), (vi 0 0), (vi 0 0), (vi 3 0), (vr 250), (.bool true), (vi 181 0), (vr 251), .none, (vr 252), (vr 253), (vr 254), (vi 491 0), (vi 170 0), (vs "/claim/cut.py" 492)]) [],
 ob (.type "function") (none) (.func (fd 28 10 "OpenStack.name" 3 [] .none .none .none (vs "htmltree.openstack" 402) none (vr 255) .none 0)) [],
 ob (.type "tuple") (none) (sq [] 0) [],
 ob (.none) (none) (fl []) [],
 ob (.type "tuple") (none) (sq [(vs "self" 497), (vs "name" 498), (vs "node" 499)] 0) [],
 ob (.type "tuple") (none) (sq [] 0) [],
 ob (.none) (none) (.func (fd 28 11 "OpenStack.has_name" 0 [] .none .none .none .none none .none .none 0)) [],
 ob (.type "code") (none) (fl [(vs "has_name" 494), (vs "OpenStack.has_name" 495), (vs "/claim/cut.py" 496), (vi 176 0), (vi 2 0), (vi 0 0), (vi 0 0), (vi 3 0), (vr 257), (.bool true), (vi 181 0), (vr 258), .none, (vr 259), (vr 260), (vr 261), (vi 500 0), (vi 176 0), (vs "/claim/cut.py" 501)]) [],
 ob (.type "function") (none) (.func (fd 28 11 "OpenStack.has_name" 3 [] .none .none .none (vs "htmltree.openstack" 402) none (vr 262) .none 0)) [],
 ob (.type "tuple") (none) (sq [] 0) [],
 ob (.none) (none) (fl []) [],
 ob (.type "tuple") (none) (sq [(vs "self" 506), (vs "names" 507)] 0) [],
 ob (.type "tuple") (none) (sq [] 0) [],
 ob (.none) (none) (.func (fd 28 12 "OpenStack.pop_until" 0 [] .none .none .none .none none .none .none 0)) [],
 ob (.type "code") (none) (fl [(vs "pop_until" 503), (vs "OpenStack.pop_until" 504), (vs "/claim/cut.py" 505), (vi 182 0), (vi 2 0), (vi 0 0), (vi 0 0), (vi 3 0), (vr 264), (.bool true), (vi 181 0), (vr 265), .none, (vr 266), (vr 267), (vr 268), (vi 508 0), (vi 182 0), (vs "/claim/cut.py" 509)]) [],
 ob (.type "function") (none) (.func (fd 28 12 "OpenStack.pop_until" 3 [] .none .none .none (vs "htmltree.openstack" 402) none (vr 269) .none 0)) [],
 ob (.type "tuple") (none) (sq [] 0) [],
 ob (.none) (none) (fl []) [],
 ob (.type "tuple") (none) (sq [(vs "self" 514), (vs "names" 515)] 0) [],
 ob (.type "tuple") (none) (sq [] 0) [],
 ob (.none) (none) (.func (fd 28 13 "OpenStack.pop_to" 0 [] .none .none .none .none none .none .none 0)) [],
 ob (.type "code") (none) (fl [(vs "pop_to" 511), (vs "OpenStack.pop_to" 512), (vs "/claim/cut.py" 513), (vi 185 0), (vi 2 0), (vi 0 0), (vi 0 0), (vi 3 0), (vr 271), (.bool true), (vi 181 0), (vr 272), .none, (vr 273), (vr 274), (vr 275), (vi 516 0), (vi 185 0), (vs "/claim/cut.py" 517)]) [],
 ob (.type "function") (none) (.func (fd 28 13 "OpenStack.pop_to" 3 [] .none .none .none (vs "htmltree.openstack" 402) none (vr 276) .none 0)) [],
 ob (.type "tuple") (none) (sq [(vs "items" 519), (vs "tree" 520)] 0) [],
 ob (.type "dict") (none) (dc [(de P "__module__" 411 (vs "htmltree.openstack" 402)), (de P "__firstlineno__" 415 (vi 133 414)), (de P "__init__" 423 (vr 193)), (de P "push" 431 (vr 200)), (de P "pop" 438 (vr 207)), (de P "current" 445 (vr 214)), (de P "many" 452 (vr 221)), (de P "has" 460 (vr 228)), (de P "remove" 468 (vr 235)), (de P "place" 476 (vr 242)), (de P "put_at" 485 (vr 249)), (de P "name" 493 (vr 256)), (de P "has_name" 502 (vr 263)), (de P "pop_until" 510 (vr 270)), (de P "pop_to" 518 (vr 277)), (de P "__static_attributes__" 521 (vr 278)), (de P "__dict__" 523 (vr 281)), (de P "__weakref__" 525 (vr 282)), (de P "__doc__" 526 .none)] 4) [],
 ob (.type "type") (none) (.cls (cd "OpenStack" [(.type "object")] [(vr 280), (.type "object")] 279 "OpenStack" true [] [] false none false)) [none, none, some (vs "OpenStack" 404), some (vs "OpenStack" 412), some (.builtin "object.__new__"), some (.bool true)],
 ob (.type "getset_descriptor") (none) (fl [(vs "__dict__" 522), (vr 280), (.builtin "function.__dict__"), (.builtin "function.__dict__#set")]) [],
 ob (.type "getset_descriptor") (none) (fl [(vs "__weakref__" 524), (vr 280), (.builtin "ExceptionGroup.__weakref__"), .none]) [],
 ob (.type "super") (none) (fl [(vr 280), (vr 280), (vr 280)]) [],
 ob (.type "builtin_function_or_method") (none) (fl [(.builtin "object.__init_subclass__"), (vr 280)]) [],
 ob (.type "tuple") (none) (sq [] 0) [],
 ob (.none) (none) (fl []) [],
 ob (.type "tuple") (none) (sq [(vs "tree" 532), (vs "node" 533), (vs "sort" 534), (vs "space" 535), (vs "name" 536)] 0) [],
 ob (.type "tuple") (none) (sq [] 0) [],
 ob (.none) (none) (.func (fd 29 0 "stops_scope" 0 [] .none .none .none .none none .none .none 0)) [],
 ob (.type "code") (none) (fl [(vs "stops_scope" 529), (vs "stops_scope" 530), (vs "/claim/cut.py" 531), (vi 187 0), (vi 3 0), (vi 0 0), (vi 0 0), (vi 3 0), (vr 285), (.bool true), (vi 181 0), (vr 286), .none, (vr 287), (vr 288), (vr 289), (vi 537 0), (vi 187 0), (vs "/claim/cut.py" 538)]) [],
 ob (.type "function") (none) (.func (fd 29 0 "stops_scope" 3 [] .none .none .none (vs "htmltree.openstack" 402) none (vr 290) .none 0)) [],
 ob (.type "tuple") (none) (sq [(vs "" 540)] 0) [],
 ob (.type "tuple") (none) (sq [] 0) [],
 ob (.none) (none) (fl []) []]
noncomputable def os7 (P : Params) : List Obj := [
 ob (.type "tuple") (none) (sq [(vs "stack" 544), (vs "names" 545), (vs "sort" 546), (vs "tree" 547), (vs "at" 548), (vs "node" 549)] 0) [],
 ob (.type "tuple") (none) (sq [] 0) [],
 ob (.none) (none) (.func (fd 30 0 "in_scope" 0 [] .none .none .none .none none .none .none 0)) [],
 ob (.type "code") (none) (fl [(vs "in_scope" 541), (vs "in_scope" 542), (vs "/claim/cut.py" 543), (vi 203 0), (vi 3 0), (vi 0 0), (vi 0 0), (vi 3 0), (vr 293), (.bool true), (vi 181 0), (vr 294), .none, (vr 295), (vr 296), (vr 297), (vi 550 0), (vi 203 0), (vs "/claim/cut.py" 551)]) [],
 ob (.type "function") (none) (.func (fd 30 0 "in_scope" 3 [] (vr 292) .none .none (vs "htmltree.openstack" 402) none (vr 298) .none 0)) [],
 ob (.type "tuple") (none) (sq [(vs "" 553)] 0) [],
 ob (.type "tuple") (none) (sq [] 0) [],
 ob (.none) (none) (fl []) [],
 ob (.type "tuple") (none) (sq [(vs "stack" 557), (vs "but" 558), (vs "names" 559)] 0) [],
 ob (.type "tuple") (none) (sq [] 0) [],
 ob (.none) (none) (.func (fd 31 0 "pop_implied" 0 [] .none .none .none .none none .none .none 0)) [],
 ob (.type "code") (none) (fl [(vs "pop_implied" 554), (vs "pop_implied" 555), (vs "/claim/cut.py" 556), (vi 212 0), (vi 2 0), (vi 0 0), (vi 0 0), (vi 3 0), (vr 301), (.bool true), (vi 181 0), (vr 302), .none, (vr 303), (vr 304), (vr 305), (vi 560 0), (vi 212 0), (vs "/claim/cut.py" 561)]) [],
 ob (.type "function") (none) (.func (fd 31 0 "pop_implied" 3 [] (vr 300) .none .none (vs "htmltree.openstack" 402) none (vr 306) .none 0)) [],
 ob (.type "tuple") (none) (sq [] 0) [],
 ob (.none) (none) (fl []) [],
 ob (.type "tuple") (none) (sq [(vs "token" 568), (vs "name" 569), (vs "pair" 570)] 0) [],
 ob (.type "tuple") (none) (sq [] 0) [],
 ob (.none) (none) (.func (fd 33 0 "value_of" 0 [] .none .none .none .none none .none .none 0)) [],
 ob (.type "code") (none) (fl [(vs "value_of" 565), (vs "value_of" 566), (vs "/claim/cut.py" 567), (vi 217 0), (vi 2 0), (vi 0 0), (vi 0 0), (vi 3 0), (vr 308), (.bool true), (vi 181 0), (vr 309), .none, (vr 310), (vr 311), (vr 312), (vi 571 0), (vi 217 0), (vs "/claim/cut.py" 572)]) [],
 ob (.type "function") (none) (.func (fd 33 0 "value_of" 3 [] .none .none .none (vs "htmltree.tokens" 563) none (vr 313) .none 0)) [],
 ob (.type "tuple") (none) (sq [] 0) [],
 ob (.none) (none) (fl []) [],
 ob (.type "tuple") (none) (sq [(vs "builder" 579), (vs "token" 580)] 0) [],
 ob (.type "tuple") (none) (sq [] 0) [],
 ob (.none) (none) (.func (fd 35 0 "start_void" 0 [] .none .none .none .none none .none .none 0)) [],
 ob (.type "code") (none) (fl [(vs "start_void" 576), (vs "start_void" 577), (vs "/claim/cut.py" 578), (vi 223 0), (vi 2 0), (vi 0 0), (vi 0 0), (vi 3 0), (vr 315), (.bool true), (vi 181 0), (vr 316), .none, (vr 317), (vr 318), (vr 319), (vi 581 0), (vi 223 0), (vs "/claim/cut.py" 582)]) [],
 ob (.type "function") (none) (.func (fd 35 0 "start_void" 3 [] .none .none .none (vs "htmltree.bodyother" 574) none (vr 320) .none 0)) [],
 ob (.type "tuple") (none) (sq [] 0) [],
 ob (.none) (none) (fl []) [],
 ob (.type "tuple") (none) (sq [(vs "builder" 587), (vs "token" 588), (vs "kind" 589)] 0) [],
 ob (.type "tuple") (none) (sq [] 0) [],
 ob (.none) (none) (.func (fd 36 0 "start_input" 0 [] .none .none .none .none none .none .none 0)) [],
 ob (.type "code") (none) (fl [(vs "start_input" 584), (vs "start_input" 585), (vs "/claim/cut.py" 586), (vi 227 0), (vi 2 0), (vi 0 0), (vi 0 0), (vi 3 0), (vr 322), (.bool true), (vi 181 0), (vr 323), .none, (vr 324), (vr 325), (vr 326), (vi 590 0), (vi 227 0), (vs "/claim/cut.py" 591)]) [],
 ob (.type "function") (none) (.func (fd 36 0 "start_input" 3 [] .none .none .none (vs "htmltree.bodyother" 574) none (vr 327) .none 0)) [],
 ob (.type "tuple") (none) (sq [] 0) [],
 ob (.none) (none) (fl []) [],
 ob (.type "tuple") (none) (sq [(vs "builder" 596), (vs "token" 597)] 0) [],
 ob (.type "tuple") (none) (sq [] 0) [],
 ob (.none) (none) (.func (fd 37 0 "start_image" 0 [] .none .none .none .none none .none .none 0)) [],
 ob (.type "code") (none) (fl [(vs "start_image" 593), (vs "start_image" 594), (vs "/claim/cut.py" 595), (vi 233 0), (vi 2 0), (vi 0 0), (vi 0 0), (vi 3 0), (vr 329), (.bool true), (vi 181 0), (vr 330), .none, (vr 331), (vr 332), (vr 333), (vi 598 0), (vi 233 0), (vs "/claim/cut.py" 599)]) []]
noncomputable def os8 (P : Params) : List Obj := [
 ob (.type "function") (none) (.func (fd 37 0 "start_image" 3 [] .none .none .none (vs "htmltree.bodyother" 574) none (vr 334) .none 0)) [],
 ob (.type "tuple") (none) (sq [] 0) [],
 ob (.none) (none) (fl []) [],
 ob (.type "tuple") (none) (sq [(vs "builder" 604), (vs "token" 605)] 0) [],
 ob (.type "tuple") (none) (sq [] 0) [],
 ob (.none) (none) (.func (fd 38 0 "start_textarea" 0 [] .none .none .none .none none .none .none 0)) [],
 ob (.type "code") (none) (fl [(vs "start_textarea" 601), (vs "start_textarea" 602), (vs "/claim/cut.py" 603), (vi 236 0), (vi 2 0), (vi 0 0), (vi 0 0), (vi 3 0), (vr 336), (.bool true), (vi 181 0), (vr 337), .none, (vr 338), (vr 339), (vr 340), (vi 606 0), (vi 236 0), (vs "/claim/cut.py" 607)]) [],
 ob (.type "function") (none) (.func (fd 38 0 "start_textarea" 3 [] .none .none .none (vs "htmltree.bodyother" 574) none (vr 341) .none 0)) [],
 ob (.type "tuple") (none) (sq [] 0) [],
 ob (.none) (none) (fl []) [],
 ob (.type "tuple") (none) (sq [(vs "builder" 612), (vs "token" 613)] 0) [],
 ob (.type "tuple") (none) (sq [] 0) [],
 ob (.none) (none) (.func (fd 39 0 "start_raw_part" 0 [] .none .none .none .none none .none .none 0)) [],
 ob (.type "code") (none) (fl [(vs "start_raw_part" 609), (vs "start_raw_part" 610), (vs "/claim/cut.py" 611), (vi 240 0), (vi 2 0), (vi 0 0), (vi 0 0), (vi 3 0), (vr 343), (.bool true), (vi 181 0), (vr 344), .none, (vr 345), (vr 346), (vr 347), (vi 614 0), (vi 240 0), (vs "/claim/cut.py" 615)]) [],
 ob (.type "function") (none) (.func (fd 39 0 "start_raw_part" 3 [] .none .none .none (vs "htmltree.bodyother" 574) none (vr 348) .none 0)) [],
 ob (.type "tuple") (none) (sq [] 0) [],
 ob (.none) (none) (fl []) [],
 ob (.type "tuple") (none) (sq [(vs "builder" 620), (vs "token" 621)] 0) [],
 ob (.type "tuple") (none) (sq [] 0) [],
 ob (.none) (none) (.func (fd 40 0 "start_select" 0 [] .none .none .none .none none .none .none 0)) [],
 ob (.type "code") (none) (fl [(vs "start_select" 617), (vs "start_select" 618), (vs "/claim/cut.py" 619), (vi 244 0), (vi 2 0), (vi 0 0), (vi 0 0), (vi 3 0), (vr 350), (.bool true), (vi 181 0), (vr 351), .none, (vr 352), (vr 353), (vr 354), (vi 622 0), (vi 244 0), (vs "/claim/cut.py" 623)]) [],
 ob (.type "function") (none) (.func (fd 40 0 "start_select" 3 [] .none .none .none (vs "htmltree.bodyother" 574) none (vr 355) .none 0)) [],
 ob (.type "tuple") (none) (sq [] 0) [],
 ob (.none) (none) (fl []) [],
 ob (.type "tuple") (none) (sq [(vs "builder" 628), (vs "token" 629)] 0) [],
 ob (.type "tuple") (none) (sq [] 0) [],
 ob (.none) (none) (.func (fd 41 0 "start_option" 0 [] .none .none .none .none none .none .none 0)) [],
 ob (.type "code") (none) (fl [(vs "start_option" 625), (vs "start_option" 626), (vs "/claim/cut.py" 627), (vi 252 0), (vi 2 0), (vi 0 0), (vi 0 0), (vi 3 0), (vr 357), (.bool true), (vi 181 0), (vr 358), .none, (vr 359), (vr 360), (vr 361), (vi 630 0), (vi 252 0), (vs "/claim/cut.py" 631)]) [],
 ob (.type "function") (none) (.func (fd 41 0 "start_option" 3 [] .none .none .none (vs "htmltree.bodyother" 574) none (vr 362) .none 0)) [],
 ob (.type "tuple") (none) (sq [] 0) [],
 ob (.none) (none) (fl []) [],
 ob (.type "tuple") (none) (sq [(vs "builder" 636), (vs "token" 637), (vs "is_inner" 638), (vs "name" 639)] 0) [],
 ob (.type "tuple") (none) (sq [] 0) [],
 ob (.none) (none) (.func (fd 42 0 "start_ruby_part" 0 [] .none .none .none .none none .none .none 0)) [],
 ob (.type "code") (none) (fl [(vs "start_ruby_part" 633), (vs "start_ruby_part" 634), (vs "/claim/cut.py" 635), (vi 257 0), (vi 2 0), (vi 0 0), (vi 0 0), (vi 3 0), (vr 364), (.bool true), (vi 181 0), (vr 365), .none, (vr 366), (vr 367), (vr 368), (vi 640 0), (vi 257 0), (vs "/claim/cut.py" 641)]) [],
 ob (.type "function") (none) (.func (fd 42 0 "start_ruby_part" 3 [] .none .none .none (vs "htmltree.bodyother" 574) none (vr 369) .none 0)) [],
 ob (.type "tuple") (none) (sq [] 0) [],
 ob (.none) (none) (fl []) [],
 ob (.type "tuple") (none) (sq [(vs "builder" 646), (vs "token" 647), (vs "space" 648)] 0) [],
 ob (.type "tuple") (none) (sq [] 0) []]
noncomputable def os9 (P : Params) : List Obj := [
 ob (.none) (none) (.func (fd 43 0 "start_foreign" 0 [] .none .none .none .none none .none .none 0)) [],
 ob (.type "code") (none) (fl [(vs "start_foreign" 643), (vs "start_foreign" 644), (vs "/claim/cut.py" 645), (vi 268 0), (vi 2 0), (vi 0 0), (vi 0 0), (vi 3 0), (vr 371), (.bool true), (vi 181 0), (vr 372), .none, (vr 373), (vr 374), (vr 375), (vi 649 0), (vi 268 0), (vs "/claim/cut.py" 650)]) [],
 ob (.type "function") (none) (.func (fd 43 0 "start_foreign" 3 [] .none .none .none (vs "htmltree.bodyother" 574) none (vr 376) .none 0)) [],
 ob (.type "tuple") (none) (sq [] 0) [],
 ob (.none) (none) (fl []) [],
 ob (.type "tuple") (none) (sq [(vs "builder" 655), (vs "token" 656)] 0) [],
 ob (.type "tuple") (none) (sq [] 0) [],
 ob (.none) (none) (.func (fd 44 0 "start_any" 0 [] .none .none .none .none none .none .none 0)) [],
 ob (.type "code") (none) (fl [(vs "start_any" 652), (vs "start_any" 653), (vs "/claim/cut.py" 654), (vi 275 0), (vi 2 0), (vi 0 0), (vi 0 0), (vi 3 0), (vr 378), (.bool true), (vi 181 0), (vr 379), .none, (vr 380), (vr 381), (vr 382), (vi 657 0), (vi 275 0), (vs "/claim/cut.py" 658)]) [],
 ob (.type "function") (none) (.func (fd 44 0 "start_any" 3 [] .none .none .none (vs "htmltree.bodyother" 574) none (vr 383) .none 0)) [],
 ob (.type "tuple") (none) (sq [] 0) [],
 ob (.none) (none) (fl []) [],
 ob (.type "tuple") (none) (sq [(vs "name" 663)] 0) [],
 ob (.type "tuple") (none) (sq [] 0) [],
 ob (.none) (none) (.func (fd 45 0 "is_misplaced" 0 [] .none .none .none .none none .none .none 0)) [],
 ob (.type "code") (none) (fl [(vs "is_misplaced" 660), (vs "is_misplaced" 661), (vs "/claim/cut.py" 662), (vi 278 0), (vi 1 0), (vi 0 0), (vi 0 0), (vi 3 0), (vr 385), (.bool true), (vi 181 0), (vr 386), .none, (vr 387), (vr 388), (vr 389), (vi 664 0), (vi 278 0), (vs "/claim/cut.py" 665)]) [],
 ob (.type "function") (none) (.func (fd 45 0 "is_misplaced" 3 [] .none .none .none (vs "htmltree.bodyother" 574) none (vr 390) .none 0)) [],
 ob (.type "tuple") (none) (sq [(.type "Exception")] 0) [],
 ob (.type "builtin_function_or_method") (none) (fl [(.builtin "type.__prepare__"), (.type "type")]) [],
 ob (.type "dict") (none) (dc [(de P "__module__" 676 (vs "htmltree.faults" 667)), (de P "__qualname__" 678 (vs "HtmlFault" 677)), (de P "__firstlineno__" 680 (vi 281 679)), (de P "__init__" 688 (vr 405)), (de P "__static_attributes__" 690 (vr 406))] 5) [],
 ob (.type "tuple") (none) (sq [] 0) [],
 ob (.none) (none) (fl [(vi 283 0), (vi 4 0), (vr 404)]) [],
 ob (.type "code") (none) (fl [(vs "HtmlFault" 671), (vs "HtmlFault" 672), (vs "/claim/cut.py" 673), (vi 281 0), (vi 0 0), (vi 0 0), (vi 0 0), (vi 0 0), (vr 395), (.bool false), (vi 181 0), (vr 396), .none, .none, .none, .none, (vi 674 0), (vi 281 0), (vs "/claim/cut.py" 675)]) [],
 ob (.type "frame") (none) (.plain) [some (vr 397), some (vr 3), some (vr 394), none, some (vs "htmltree.faults" 667), none, some (vr 0)],
 ob (.type "tuple") (none) (sq [] 0) [],
 ob (.none) (none) (fl []) [],
 ob (.type "tuple") (none) (sq [(vs "self" 684), (vs "why" 685)] 0) [],
 ob (.type "tuple") (none) (sq [] 0) [],
 ob (.none) (none) (.func (fd 47 1 "HtmlFault.__init__" 0 [] .none .none .none .none none .none .none 0)) [],
 ob (.type "code") (none) (fl [(vs "__init__" 681), (vs "HtmlFault.__init__" 682), (vs "/claim/cut.py" 683), (vi 283 0), (vi 2 0), (vi 0 0), (vi 0 0), (vi 3 0), (vr 399), (.bool true), (vi 181 0), (vr 400), .none, (vr 401), (vr 402), (vr 403), (vi 686 0), (vi 283 0), (vs "/claim/cut.py" 687)]) [],
 ob (.type "function") (none) (.func (fd 47 1 "HtmlFault.__init__" 3 [] .none .none .none (vs "htmltree.faults" 667) none (vr 404) .none 0)) [],
 ob (.type "tuple") (none) (sq [(vs "why" 689)] 0) [],
 ob (.type "dict") (none) (dc [(de P "__module__" 676 (vs "htmltree.faults" 667)), (de P "__firstlineno__" 680 (vi 281 679)), (de P "__init__" 688 (vr 405)), (de P "__static_attributes__" 690 (vr 406)), (de P "__weakref__" 692 (vr 409)), (de P "__doc__" 693 .none)] 3) [],
 ob (.type "type") (none) (.cls (cd "HtmlFault" [(.type "Exception")] [(vr 408), (.type "Exception"), (.type "BaseException"), (.type "object")] 407 "HtmlFault" true [] [(vr 421)] false none false)) [some (vr 392), none, some (vs "HtmlFault" 669), some (vs "HtmlFault" 677), some (.builtin "Exception.__new__"), some (.bool true)],
 ob (.type "getset_descriptor") (none) (fl [(vs "__weakref__" 691), (vr 408), (.builtin "ExceptionGroup.__weakref__"), .none]) [],
 ob (.type "super") (none) (fl [(vr 408), (vr 408), (vr 408)]) [],
 ob (.type "builtin_function_or_method") (none) (fl [(.builtin "object.__init_subclass__"), (vr 408)]) [],
 ob (.type "tuple") (none) (sq [(vr 408)] 0) [],
 ob (.type "builtin_function_or_method") (none) (fl [(.builtin "type.__prepare__"), (.type "type")]) [],
 ob (.type "dict") (none) (dc [(de P "__module__" 705 (vs "htmltree.faults" 667)), (de P "__qualname__" 707 (vs "Misused" 706)), (de P "__firstlineno__" 709 (vi 286 708)), (de P "__static_attributes__" 710 (vr 419))] 4) []]
noncomputable def os10 (P : Params) : List Obj := [
 ob (.type "tuple") (none) (sq [] 0) [],
 ob (.none) (none) (fl []) [],
 ob (.type "code") (none) (fl [(vs "Misused" 700), (vs "Misused" 701), (vs "/claim/cut.py" 702), (vi 286 0), (vi 0 0), (vi 0 0), (vi 0 0), (vi 0 0), (vr 415), (.bool false), (vi 181 0), (vr 416), .none, .none, .none, .none, (vi 703 0), (vi 286 0), (vs "/claim/cut.py" 704)]) [],
 ob (.type "frame") (none) (.plain) [some (vr 417), some (vr 3), some (vr 414), none, some (vs "htmltree.faults" 667), none, some (vr 0)],
 ob (.type "tuple") (none) (sq [] 0) [],
 ob (.type "dict") (none) (dc [(de P "__module__" 705 (vs "htmltree.faults" 667)), (de P "__firstlineno__" 709 (vi 286 708)), (de P "__static_attributes__" 710 (vr 419)), (de P "__doc__" 711 .none)] 2) [],
 ob (.type "type") (none) (.cls (cd "Misused" [(vr 408)] [(vr 421), (vr 408), (.type "Exception"), (.type "BaseException"), (.type "object")] 420 "Misused" true [] [] false none false)) [some (vr 412), none, some (vs "Misused" 698), some (vs "Misused" 706), some (.builtin "Exception.__new__"), some (.bool true)],
 ob (.type "super") (none) (fl [(vr 421), (vr 421), (vr 421)]) [],
 ob (.type "builtin_function_or_method") (none) (fl [(.builtin "object.__init_subclass__"), (vr 421)]) [],
 ob (.type "tuple") (none) (sq [] 0) [],
 ob (.type "builtin_function_or_method") (none) (fl [(.builtin "type.__prepare__"), (.type "type")]) [],
 ob (.type "dict") (none) (dc [(de P "__module__" 723 (vs "htmltree.formatting" 714)), (de P "__qualname__" 725 (vs "Formatting" 724)), (de P "__firstlineno__" 727 (vi 289 726)), (de P "__init__" 735 (vr 437)), (de P "push" 746 (vr 444)), (de P "mark" 753 (vr 451)), (de P "clear_to_mark" 760 (vr 458)), (de P "find" 768 (vr 465)), (de P "has" 776 (vr 472)), (de P "place" 784 (vr 479)), (de P "remove" 792 (vr 486)), (de P "replace" 801 (vr 493)), (de P "put_at" 810 (vr 500)), (de P "__static_attributes__" 813 (vr 501))] 14) [],
 ob (.type "tuple") (none) (sq [] 0) [],
 ob (.none) (none) (fl [(vi 291 0), (vi 4 0), (vr 436), (vi 295 0), (vi 4 0), (vr 443), (vi 308 0), (vi 4 0), (vr 450), (vi 311 0), (vi 4 0), (vr 457), (vi 314 0), (vi 4 0), (vr 464), (vi 317 0), (vi 4 0), (vr 471), (vi 320 0), (vi 4 0), (vr 478), (vi 325 0), (vi 4 0), (vr 485), (vi 329 0), (vi 4 0), (vr 492), (vi 333 0), (vi 4 0), (vr 499)]) [],
 ob (.type "code") (none) (fl [(vs "Formatting" 718), (vs "Formatting" 719), (vs "/claim/cut.py" 720), (vi 289 0), (vi 0 0), (vi 0 0), (vi 0 0), (vi 0 0), (vr 427), (.bool false), (vi 181 0), (vr 428), .none, .none, .none, .none, (vi 721 0), (vi 289 0), (vs "/claim/cut.py" 722)]) [],
 ob (.type "frame") (none) (.plain) [some (vr 429), some (vr 3), some (vr 426), none, some (vs "htmltree.formatting" 714), none, some (vr 0)],
 ob (.type "tuple") (none) (sq [] 0) [],
 ob (.none) (none) (fl []) [],
 ob (.type "tuple") (none) (sq [(vs "self" 731), (vs "tree" 732)] 0) [],
 ob (.type "tuple") (none) (sq [] 0) [],
 ob (.none) (none) (.func (fd 50 1 "Formatting.__init__" 0 [] .none .none .none .none none .none .none 0)) [],
 ob (.type "code") (none) (fl [(vs "__init__" 728), (vs "Formatting.__init__" 729), (vs "/claim/cut.py" 730), (vi 291 0), (vi 2 0), (vi 0 0), (vi 0 0), (vi 3 0), (vr 431), (.bool true), (vi 181 0), (vr 432), .none, (vr 433), (vr 434), (vr 435), (vi 733 0), (vi 291 0), (vs "/claim/cut.py" 734)]) [],
 ob (.type "function") (none) (.func (fd 50 1 "Formatting.__init__" 3 [] .none .none .none (vs "htmltree.formatting" 714) none (vr 436) .none 0)) [],
 ob (.type "tuple") (none) (sq [] 0) [],
 ob (.none) (none) (fl []) [],
 ob (.type "tuple") (none) (sq [(vs "self" 739), (vs "node" 740), (vs "count" 741), (vs "earliest" 742), (vs "at" 743)] 0) [],
 ob (.type "tuple") (none) (sq [] 0) [],
 ob (.none) (none) (.func (fd 50 2 "Formatting.push" 0 [] .none .none .none .none none .none .none 0)) [],
 ob (.type "code") (none) (fl [(vs "push" 736), (vs "Formatting.push" 737), (vs "/claim/cut.py" 738), (vi 295 0), (vi 2 0), (vi 0 0), (vi 0 0), (vi 3 0), (vr 438), (.bool true), (vi 181 0), (vr 439), .none, (vr 440), (vr 441), (vr 442), (vi 744 0), (vi 295 0), (vs "/claim/cut.py" 745)]) [],
 ob (.type "function") (none) (.func (fd 50 2 "Formatting.push" 3 [] .none .none .none (vs "htmltree.formatting" 714) none (vr 443) .none 0)) [],
 ob (.type "tuple") (none) (sq [] 0) [],
 ob (.none) (none) (fl []) [],
 ob (.type "tuple") (none) (sq [(vs "self" 750)] 0) [],
 ob (.type "tuple") (none) (sq [] 0) [],
 ob (.none) (none) (.func (fd 50 3 "Formatting.mark" 0 [] .none .none .none .none none .none .none 0)) [],
 ob (.type "code") (none) (fl [(vs "mark" 747), (vs "Formatting.mark" 748), (vs "/claim/cut.py" 749), (vi 308 0), (vi 1 0), (vi 0 0), (vi 0 0), (vi 3 0), (vr 445), (.bool true), (vi 181 0), (vr 446), .none, (vr 447), (vr 448), (vr 449), (vi 751 0), (vi 308 0), (vs "/claim/cut.py" 752)]) [],
 ob (.type "function") (none) (.func (fd 50 3 "Formatting.mark" 3 [] .none .none .none (vs "htmltree.formatting" 714) none (vr 450) .none 0)) [],
 ob (.type "tuple") (none) (sq [] 0) [],
 ob (.none) (none) (fl []) [],
 ob (.type "tuple") (none) (sq [(vs "self" 757)] 0) []]
noncomputable def os11 (P : Params) : List Obj := [
 ob (.type "tuple") (none) (sq [] 0) [],
 ob (.none) (none) (.func (fd 50 4 "Formatting.clear_to_mark" 0 [] .none .none .none .none none .none .none 0)) [],
 ob (.type "code") (none) (fl [(vs "clear_to_mark" 754), (vs "Formatting.clear_to_mark" 755), (vs "/claim/cut.py" 756), (vi 311 0), (vi 1 0), (vi 0 0), (vi 0 0), (vi 3 0), (vr 452), (.bool true), (vi 181 0), (vr 453), .none, (vr 454), (vr 455), (vr 456), (vi 758 0), (vi 311 0), (vs "/claim/cut.py" 759)]) [],
 ob (.type "function") (none) (.func (fd 50 4 "Formatting.clear_to_mark" 3 [] .none .none .none (vs "htmltree.formatting" 714) none (vr 457) .none 0)) [],
 ob (.type "tuple") (none) (sq [] 0) [],
 ob (.none) (none) (fl []) [],
 ob (.type "tuple") (none) (sq [(vs "self" 764), (vs "name" 765)] 0) [],
 ob (.type "tuple") (none) (sq [] 0) [],
 ob (.none) (none) (.func (fd 50 5 "Formatting.find" 0 [] .none .none .none .none none .none .none 0)) [],
 ob (.type "code") (none) (fl [(vs "find" 761), (vs "Formatting.find" 762), (vs "/claim/cut.py" 763), (vi 314 0), (vi 2 0), (vi 0 0), (vi 0 0), (vi 3 0), (vr 459), (.bool true), (vi 181 0), (vr 460), .none, (vr 461), (vr 462), (vr 463), (vi 766 0), (vi 314 0), (vs "/claim/cut.py" 767)]) [],
 ob (.type "function") (none) (.func (fd 50 5 "Formatting.find" 3 [] .none .none .none (vs "htmltree.formatting" 714) none (vr 464) .none 0)) [],
 ob (.type "tuple") (none) (sq [] 0) [],
 ob (.none) (none) (fl []) [],
 ob (.type "tuple") (none) (sq [(vs "self" 772), (vs "node" 773)] 0) [],
 ob (.type "tuple") (none) (sq [] 0) [],
 ob (.none) (none) (.func (fd 50 6 "Formatting.has" 0 [] .none .none .none .none none .none .none 0)) [],
 ob (.type "code") (none) (fl [(vs "has" 769), (vs "Formatting.has" 770), (vs "/claim/cut.py" 771), (vi 317 0), (vi 2 0), (vi 0 0), (vi 0 0), (vi 3 0), (vr 466), (.bool true), (vi 181 0), (vr 467), .none, (vr 468), (vr 469), (vr 470), (vi 774 0), (vi 317 0), (vs "/claim/cut.py" 775)]) [],
 ob (.type "function") (none) (.func (fd 50 6 "Formatting.has" 3 [] .none .none .none (vs "htmltree.formatting" 714) none (vr 471) .none 0)) [],
 ob (.type "tuple") (none) (sq [] 0) [],
 ob (.none) (none) (fl []) [],
 ob (.type "tuple") (none) (sq [(vs "self" 780), (vs "node" 781)] 0) [],
 ob (.type "tuple") (none) (sq [] 0) [],
 ob (.none) (none) (.func (fd 50 7 "Formatting.place" 0 [] .none .none .none .none none .none .none 0)) [],
 ob (.type "code") (none) (fl [(vs "place" 777), (vs "Formatting.place" 778), (vs "/claim/cut.py" 779), (vi 320 0), (vi 2 0), (vi 0 0), (vi 0 0), (vi 3 0), (vr 473), (.bool true), (vi 181 0), (vr 474), .none, (vr 475), (vr 476), (vr 477), (vi 782 0), (vi 320 0), (vs "/claim/cut.py" 783)]) [],
 ob (.type "function") (none) (.func (fd 50 7 "Formatting.place" 3 [] .none .none .none (vs "htmltree.formatting" 714) none (vr 478) .none 0)) [],
 ob (.type "tuple") (none) (sq [] 0) [],
 ob (.none) (none) (fl []) [],
 ob (.type "tuple") (none) (sq [(vs "self" 788), (vs "node" 789)] 0) [],
 ob (.type "tuple") (none) (sq [] 0) [],
 ob (.none) (none) (.func (fd 50 8 "Formatting.remove" 0 [] .none .none .none .none none .none .none 0)) [],
 ob (.type "code") (none) (fl [(vs "remove" 785), (vs "Formatting.remove" 786), (vs "/claim/cut.py" 787), (vi 325 0), (vi 2 0), (vi 0 0), (vi 0 0), (vi 3 0), (vr 480), (.bool true), (vi 181 0), (vr 481), .none, (vr 482), (vr 483), (vr 484), (vi 790 0), (vi 325 0), (vs "/claim/cut.py" 791)]) [],
 ob (.type "function") (none) (.func (fd 50 8 "Formatting.remove" 3 [] .none .none .none (vs "htmltree.formatting" 714) none (vr 485) .none 0)) [],
 ob (.type "tuple") (none) (sq [] 0) [],
 ob (.none) (none) (fl []) [],
 ob (.type "tuple") (none) (sq [(vs "self" 796), (vs "old" 797), (vs "new" 798)] 0) [],
 ob (.type "tuple") (none) (sq [] 0) [],
 ob (.none) (none) (.func (fd 50 9 "Formatting.replace" 0 [] .none .none .none .none none .none .none 0)) [],
 ob (.type "code") (none) (fl [(vs "replace" 793), (vs "Formatting.replace" 794), (vs "/claim/cut.py" 795), (vi 329 0), (vi 3 0), (vi 0 0), (vi 0 0), (vi 3 0), (vr 487), (.bool true), (vi 181 0), (vr 488), .none, (vr 489), (vr 490), (vr 491), (vi 799 0), (vi 329 0), (vs "/claim/cut.py" 800)]) [],
 ob (.type "function") (none) (.func (fd 50 9 "Formatting.replace" 3 [] .none .none .none (vs "htmltree.formatting" 714) none (vr 492) .none 0)) [],
 ob (.type "tuple") (none) (sq [] 0) []]
noncomputable def os12 (P : Params) : List Obj := [
 ob (.none) (none) (fl []) [],
 ob (.type "tuple") (none) (sq [(vs "self" 805), (vs "place" 806), (vs "node" 807)] 0) [],
 ob (.type "tuple") (none) (sq [] 0) [],
 ob (.none) (none) (.func (fd 50 10 "Formatting.put_at" 0 [] .none .none .none .none none .none .none 0)) [],
 ob (.type "code") (none) (fl [(vs "put_at" 802), (vs "Formatting.put_at" 803), (vs "/claim/cut.py" 804), (vi 333 0), (vi 3 0), (vi 0 0), (vi 0 0), (vi 3 0), (vr 494), (.bool true), (vi 181 0), (vr 495), .none, (vr 496), (vr 497), (vr 498), (vi 808 0), (vi 333 0), (vs "/claim/cut.py" 809)]) [],
 ob (.type "function") (none) (.func (fd 50 10 "Formatting.put_at" 3 [] .none .none .none (vs "htmltree.formatting" 714) none (vr 499) .none 0)) [],
 ob (.type "tuple") (none) (sq [(vs "items" 811), (vs "tree" 812)] 0) [],
 ob (.type "dict") (none) (dc [(de P "__module__" 723 (vs "htmltree.formatting" 714)), (de P "__firstlineno__" 727 (vi 289 726)), (de P "__init__" 735 (vr 437)), (de P "push" 746 (vr 444)), (de P "mark" 753 (vr 451)), (de P "clear_to_mark" 760 (vr 458)), (de P "find" 768 (vr 465)), (de P "has" 776 (vr 472)), (de P "place" 784 (vr 479)), (de P "remove" 792 (vr 486)), (de P "replace" 801 (vr 493)), (de P "put_at" 810 (vr 500)), (de P "__static_attributes__" 813 (vr 501)), (de P "__dict__" 815 (vr 504)), (de P "__weakref__" 817 (vr 505)), (de P "__doc__" 818 .none)] 4) [],
 ob (.type "type") (none) (.cls (cd "Formatting" [(.type "object")] [(vr 503), (.type "object")] 502 "Formatting" true [] [] false none false)) [none, none, some (vs "Formatting" 716), some (vs "Formatting" 724), some (.builtin "object.__new__"), some (.bool true)],
 ob (.type "getset_descriptor") (none) (fl [(vs "__dict__" 814), (vr 503), (.builtin "function.__dict__"), (.builtin "function.__dict__#set")]) [],
 ob (.type "getset_descriptor") (none) (fl [(vs "__weakref__" 816), (vr 503), (.builtin "ExceptionGroup.__weakref__"), .none]) [],
 ob (.type "super") (none) (fl [(vr 503), (vr 503), (vr 503)]) [],
 ob (.type "builtin_function_or_method") (none) (fl [(.builtin "object.__init_subclass__"), (vr 503)]) [],
 ob (.type "tuple") (none) (sq [] 0) [],
 ob (.none) (none) (fl []) [],
 ob (.type "tuple") (none) (sq [(vs "tree" 824), (vs "a" 825), (vs "b" 826), (vs "pair" 827)] 0) [],
 ob (.type "tuple") (none) (sq [] 0) [],
 ob (.none) (none) (.func (fd 51 0 "alike" 0 [] .none .none .none .none none .none .none 0)) [],
 ob (.type "code") (none) (fl [(vs "alike" 821), (vs "alike" 822), (vs "/claim/cut.py" 823), (vi 335 0), (vi 3 0), (vi 0 0), (vi 0 0), (vi 3 0), (vr 508), (.bool true), (vi 181 0), (vr 509), .none, (vr 510), (vr 511), (vr 512), (vi 828 0), (vi 335 0), (vs "/claim/cut.py" 829)]) [],
 ob (.type "function") (none) (.func (fd 51 0 "alike" 3 [] .none .none .none (vs "htmltree.formatting" 714) none (vr 513) .none 0)) [],
 ob (.type "tuple") (none) (sq [] 0) [],
 ob (.type "builtin_function_or_method") (none) (fl [(.builtin "type.__prepare__"), (.type "type")]) [],
 ob (.type "dict") (none) (dc [(de P "__module__" 840 (vs "htmltree.tree" 831)), (de P "__qualname__" 842 (vs "Tree" 841)), (de P "__firstlineno__" 844 (vi 345 843)), (de P "__init__" 851 (vr 528)), (de P "add" 866 (vr 537)), (de P "element" 878 (vr 546)), (de P "text" 886 (vr 553)), (de P "comment" 894 (vr 560)), (de P "doctype" 904 (vr 567)), (de P "insert" 917 (vr 575)), (de P "append" 926 (vr 582)), (de P "remove" 934 (vr 589)), (de P "move_children" 943 (vr 596)), (de P "place" 951 (vr 603)), (de P "last" 959 (vr 610)), (de P "value" 969 (vr 617)), (de P "is_html" 978 (vr 624)), (de P "__static_attributes__" 987 (vr 625))] 18) [],
 ob (.type "tuple") (none) (sq [] 0) [],
 ob (.none) (none) (fl [(vi 347 0), (vi 4 0), (vr 527), (vi 358 0), (vi 4 0), (vr 536), (vi 368 0), (vi 4 0), (vr 545), (vi 374 0), (vi 4 0), (vr 552), (vi 377 0), (vi 4 0), (vr 559), (vi 380 0), (vi 4 0), (vr 566), (vi 383 0), (vi 4 0), (vr 574), (vi 397 0), (vi 4 0), (vr 581), (vi 400 0), (vi 4 0), (vr 588), (vi 405 0), (vi 4 0), (vr 595), (vi 408 0), (vi 4 0), (vr 602), (vi 413 0), (vi 4 0), (vr 609), (vi 418 0), (vi 4 0), (vr 616), (vi 424 0), (vi 4 0), (vr 623)]) [],
 ob (.type "code") (none) (fl [(vs "Tree" 835), (vs "Tree" 836), (vs "/claim/cut.py" 837), (vi 345 0), (vi 0 0), (vi 0 0), (vi 0 0), (vi 0 0), (vr 518), (.bool false), (vi 181 0), (vr 519), .none, .none, .none, .none, (vi 838 0), (vi 345 0), (vs "/claim/cut.py" 839)]) [],
 ob (.type "frame") (none) (.plain) [some (vr 520), some (vr 3), some (vr 517), none, some (vs "htmltree.tree" 831), none, some (vr 0)],
 ob (.type "tuple") (none) (sq [] 0) [],
 ob (.none) (none) (fl []) [],
 ob (.type "tuple") (none) (sq [(vs "self" 848)] 0) [],
 ob (.type "tuple") (none) (sq [] 0) [],
 ob (.none) (none) (.func (fd 53 1 "Tree.__init__" 0 [] .none .none .none .none none .none .none 0)) [],
 ob (.type "code") (none) (fl [(vs "__init__" 845), (vs "Tree.__init__" 846), (vs "/claim/cut.py" 847), (vi 347 0), (vi 1 0), (vi 0 0), (vi 0 0), (vi 3 0), (vr 522), (.bool true), (vi 181 0), (vr 523), .none, (vr 524), (vr 525), (vr 526), (vi 849 0), (vi 347 0), (vs "/claim/cut.py" 850)]) [],
 ob (.type "function") (none) (.func (fd 53 1 "Tree.__init__" 3 [] .none .none .none (vs "htmltree.tree" 831) none (vr 527) .none 0)) [],
 ob (.type "tuple") (none) (sq [] 0) [],
 ob (.type "tuple") (none) (sq [(vs "" 852), (vs "" 853), (vr 529), (vs "" 854)] 0) [],
 ob (.type "tuple") (none) (sq [] 0) [],
 ob (.none) (none) (fl []) [],
 ob (.type "tuple") (none) (sq [(vs "self" 858), (vs "kind" 859), (vs "space" 860), (vs "name" 861), (vs "attrs" 862), (vs "text" 863)] 0) [],
 ob (.type "tuple") (none) (sq [] 0) []]
noncomputable def os13 (P : Params) : List Obj := [
 ob (.none) (none) (.func (fd 53 2 "Tree.add" 0 [] .none .none .none .none none .none .none 0)) [],
 ob (.type "code") (none) (fl [(vs "add" 855), (vs "Tree.add" 856), (vs "/claim/cut.py" 857), (vi 358 0), (vi 6 0), (vi 0 0), (vi 0 0), (vi 3 0), (vr 531), (.bool true), (vi 181 0), (vr 532), .none, (vr 533), (vr 534), (vr 535), (vi 864 0), (vi 358 0), (vs "/claim/cut.py" 865)]) [],
 ob (.type "function") (none) (.func (fd 53 2 "Tree.add" 3 [] (vr 530) .none .none (vs "htmltree.tree" 831) none (vr 536) .none 0)) [],
 ob (.type "tuple") (none) (sq [] 0) [],
 ob (.type "tuple") (none) (sq [(vs "html" 867), (vr 538)] 0) [],
 ob (.type "tuple") (none) (sq [] 0) [],
 ob (.none) (none) (fl []) [],
 ob (.type "tuple") (none) (sq [(vs "self" 871), (vs "name" 872), (vs "space" 873), (vs "attrs" 874), (vs "node" 875)] 0) [],
 ob (.type "tuple") (none) (sq [] 0) [],
 ob (.none) (none) (.func (fd 53 3 "Tree.element" 0 [] .none .none .none .none none .none .none 0)) [],
 ob (.type "code") (none) (fl [(vs "element" 868), (vs "Tree.element" 869), (vs "/claim/cut.py" 870), (vi 368 0), (vi 4 0), (vi 0 0), (vi 0 0), (vi 3 0), (vr 540), (.bool true), (vi 181 0), (vr 541), .none, (vr 542), (vr 543), (vr 544), (vi 876 0), (vi 368 0), (vs "/claim/cut.py" 877)]) [],
 ob (.type "function") (none) (.func (fd 53 3 "Tree.element" 3 [] (vr 539) .none .none (vs "htmltree.tree" 831) none (vr 545) .none 0)) [],
 ob (.type "tuple") (none) (sq [] 0) [],
 ob (.none) (none) (fl []) [],
 ob (.type "tuple") (none) (sq [(vs "self" 882), (vs "text" 883)] 0) [],
 ob (.type "tuple") (none) (sq [] 0) [],
 ob (.none) (none) (.func (fd 53 4 "Tree.text" 0 [] .none .none .none .none none .none .none 0)) [],
 ob (.type "code") (none) (fl [(vs "text" 879), (vs "Tree.text" 880), (vs "/claim/cut.py" 881), (vi 374 0), (vi 2 0), (vi 0 0), (vi 0 0), (vi 3 0), (vr 547), (.bool true), (vi 181 0), (vr 548), .none, (vr 549), (vr 550), (vr 551), (vi 884 0), (vi 374 0), (vs "/claim/cut.py" 885)]) [],
 ob (.type "function") (none) (.func (fd 53 4 "Tree.text" 3 [] .none .none .none (vs "htmltree.tree" 831) none (vr 552) .none 0)) [],
 ob (.type "tuple") (none) (sq [] 0) [],
 ob (.none) (none) (fl []) [],
 ob (.type "tuple") (none) (sq [(vs "self" 890), (vs "text" 891)] 0) [],
 ob (.type "tuple") (none) (sq [] 0) [],
 ob (.none) (none) (.func (fd 53 5 "Tree.comment" 0 [] .none .none .none .none none .none .none 0)) [],
 ob (.type "code") (none) (fl [(vs "comment" 887), (vs "Tree.comment" 888), (vs "/claim/cut.py" 889), (vi 377 0), (vi 2 0), (vi 0 0), (vi 0 0), (vi 3 0), (vr 554), (.bool true), (vi 181 0), (vr 555), .none, (vr 556), (vr 557), (vr 558), (vi 892 0), (vi 377 0), (vs "/claim/cut.py" 893)]) [],
 ob (.type "function") (none) (.func (fd 53 5 "Tree.comment" 3 [] .none .none .none (vs "htmltree.tree" 831) none (vr 559) .none 0)) [],
 ob (.type "tuple") (none) (sq [] 0) [],
 ob (.none) (none) (fl []) [],
 ob (.type "tuple") (none) (sq [(vs "self" 898), (vs "name" 899), (vs "public" 900), (vs "system" 901)] 0) [],
 ob (.type "tuple") (none) (sq [] 0) [],
 ob (.none) (none) (.func (fd 53 6 "Tree.doctype" 0 [] .none .none .none .none none .none .none 0)) [],
 ob (.type "code") (none) (fl [(vs "doctype" 895), (vs "Tree.doctype" 896), (vs "/claim/cut.py" 897), (vi 380 0), (vi 4 0), (vi 0 0), (vi 0 0), (vi 3 0), (vr 561), (.bool true), (vi 181 0), (vr 562), .none, (vr 563), (vr 564), (vr 565), (vi 902 0), (vi 380 0), (vs "/claim/cut.py" 903)]) [],
 ob (.type "function") (none) (.func (fd 53 6 "Tree.doctype" 3 [] .none .none .none (vs "htmltree.tree" 831) none (vr 566) .none 0)) [],
 ob (.type "tuple") (none) (sq [(vi (-1) 906)] 0) [],
 ob (.type "tuple") (none) (sq [] 0) [],
 ob (.none) (none) (fl []) [],
 ob (.type "tuple") (none) (sq [(vs "self" 910), (vs "parent" 911), (vs "node" 912), (vs "before" 913), (vs "at" 914)] 0) [],
 ob (.type "tuple") (none) (sq [] 0) [],
 ob (.none) (none) (.func (fd 53 7 "Tree.insert" 0 [] .none .none .none .none none .none .none 0)) [],
 ob (.type "code") (none) (fl [(vs "insert" 907), (vs "Tree.insert" 908), (vs "/claim/cut.py" 909), (vi 383 0), (vi 4 0), (vi 0 0), (vi 0 0), (vi 3 0), (vr 569), (.bool true), (vi 181 0), (vr 570), .none, (vr 571), (vr 572), (vr 573), (vi 915 0), (vi 383 0), (vs "/claim/cut.py" 916)]) []]
noncomputable def os14 (P : Params) : List Obj := [
 ob (.type "function") (none) (.func (fd 53 7 "Tree.insert" 3 [] (vr 568) .none .none (vs "htmltree.tree" 831) none (vr 574) .none 0)) [],
 ob (.type "tuple") (none) (sq [] 0) [],
 ob (.none) (none) (fl []) [],
 ob (.type "tuple") (none) (sq [(vs "self" 921), (vs "parent" 922), (vs "node" 923)] 0) [],
 ob (.type "tuple") (none) (sq [] 0) [],
 ob (.none) (none) (.func (fd 53 8 "Tree.append" 0 [] .none .none .none .none none .none .none 0)) [],
 ob (.type "code") (none) (fl [(vs "append" 918), (vs "Tree.append" 919), (vs "/claim/cut.py" 920), (vi 397 0), (vi 3 0), (vi 0 0), (vi 0 0), (vi 3 0), (vr 576), (.bool true), (vi 181 0), (vr 577), .none, (vr 578), (vr 579), (vr 580), (vi 924 0), (vi 397 0), (vs "/claim/cut.py" 925)]) [],
 ob (.type "function") (none) (.func (fd 53 8 "Tree.append" 3 [] .none .none .none (vs "htmltree.tree" 831) none (vr 581) .none 0)) [],
 ob (.type "tuple") (none) (sq [] 0) [],
 ob (.none) (none) (fl []) [],
 ob (.type "tuple") (none) (sq [(vs "self" 930), (vs "node" 931)] 0) [],
 ob (.type "tuple") (none) (sq [] 0) [],
 ob (.none) (none) (.func (fd 53 9 "Tree.remove" 0 [] .none .none .none .none none .none .none 0)) [],
 ob (.type "code") (none) (fl [(vs "remove" 927), (vs "Tree.remove" 928), (vs "/claim/cut.py" 929), (vi 400 0), (vi 2 0), (vi 0 0), (vi 0 0), (vi 3 0), (vr 583), (.bool true), (vi 181 0), (vr 584), .none, (vr 585), (vr 586), (vr 587), (vi 932 0), (vi 400 0), (vs "/claim/cut.py" 933)]) [],
 ob (.type "function") (none) (.func (fd 53 9 "Tree.remove" 3 [] .none .none .none (vs "htmltree.tree" 831) none (vr 588) .none 0)) [],
 ob (.type "tuple") (none) (sq [] 0) [],
 ob (.none) (none) (fl []) [],
 ob (.type "tuple") (none) (sq [(vs "self" 938), (vs "here" 939), (vs "there" 940)] 0) [],
 ob (.type "tuple") (none) (sq [] 0) [],
 ob (.none) (none) (.func (fd 53 10 "Tree.move_children" 0 [] .none .none .none .none none .none .none 0)) [],
 ob (.type "code") (none) (fl [(vs "move_children" 935), (vs "Tree.move_children" 936), (vs "/claim/cut.py" 937), (vi 405 0), (vi 3 0), (vi 0 0), (vi 0 0), (vi 3 0), (vr 590), (.bool true), (vi 181 0), (vr 591), .none, (vr 592), (vr 593), (vr 594), (vi 941 0), (vi 405 0), (vs "/claim/cut.py" 942)]) [],
 ob (.type "function") (none) (.func (fd 53 10 "Tree.move_children" 3 [] .none .none .none (vs "htmltree.tree" 831) none (vr 595) .none 0)) [],
 ob (.type "tuple") (none) (sq [] 0) [],
 ob (.none) (none) (fl []) [],
 ob (.type "tuple") (none) (sq [(vs "self" 947), (vs "node" 948)] 0) [],
 ob (.type "tuple") (none) (sq [] 0) [],
 ob (.none) (none) (.func (fd 53 11 "Tree.place" 0 [] .none .none .none .none none .none .none 0)) [],
 ob (.type "code") (none) (fl [(vs "place" 944), (vs "Tree.place" 945), (vs "/claim/cut.py" 946), (vi 408 0), (vi 2 0), (vi 0 0), (vi 0 0), (vi 3 0), (vr 597), (.bool true), (vi 181 0), (vr 598), .none, (vr 599), (vr 600), (vr 601), (vi 949 0), (vi 408 0), (vs "/claim/cut.py" 950)]) [],
 ob (.type "function") (none) (.func (fd 53 11 "Tree.place" 3 [] .none .none .none (vs "htmltree.tree" 831) none (vr 602) .none 0)) [],
 ob (.type "tuple") (none) (sq [] 0) [],
 ob (.none) (none) (fl []) [],
 ob (.type "tuple") (none) (sq [(vs "self" 955), (vs "parent" 956)] 0) [],
 ob (.type "tuple") (none) (sq [] 0) [],
 ob (.none) (none) (.func (fd 53 12 "Tree.last" 0 [] .none .none .none .none none .none .none 0)) [],
 ob (.type "code") (none) (fl [(vs "last" 952), (vs "Tree.last" 953), (vs "/claim/cut.py" 954), (vi 413 0), (vi 2 0), (vi 0 0), (vi 0 0), (vi 3 0), (vr 604), (.bool true), (vi 181 0), (vr 605), .none, (vr 606), (vr 607), (vr 608), (vi 957 0), (vi 413 0), (vs "/claim/cut.py" 958)]) [],
 ob (.type "function") (none) (.func (fd 53 12 "Tree.last" 3 [] .none .none .none (vs "htmltree.tree" 831) none (vr 609) .none 0)) [],
 ob (.type "tuple") (none) (sq [] 0) [],
 ob (.none) (none) (fl []) [],
 ob (.type "tuple") (none) (sq [(vs "self" 963), (vs "node" 964), (vs "name" 965), (vs "pair" 966)] 0) [],
 ob (.type "tuple") (none) (sq [] 0) []]
noncomputable def os15 (P : Params) : List Obj := [
 ob (.none) (none) (.func (fd 53 13 "Tree.value" 0 [] .none .none .none .none none .none .none 0)) [],
 ob (.type "code") (none) (fl [(vs "value" 960), (vs "Tree.value" 961), (vs "/claim/cut.py" 962), (vi 418 0), (vi 3 0), (vi 0 0), (vi 0 0), (vi 3 0), (vr 611), (.bool true), (vi 181 0), (vr 612), .none, (vr 613), (vr 614), (vr 615), (vi 967 0), (vi 418 0), (vs "/claim/cut.py" 968)]) [],
 ob (.type "function") (none) (.func (fd 53 13 "Tree.value" 3 [] .none .none .none (vs "htmltree.tree" 831) none (vr 616) .none 0)) [],
 ob (.type "tuple") (none) (sq [] 0) [],
 ob (.none) (none) (fl []) [],
 ob (.type "tuple") (none) (sq [(vs "self" 973), (vs "node" 974), (vs "name" 975)] 0) [],
 ob (.type "tuple") (none) (sq [] 0) [],
 ob (.none) (none) (.func (fd 53 14 "Tree.is_html" 0 [] .none .none .none .none none .none .none 0)) [],
 ob (.type "code") (none) (fl [(vs "is_html" 970), (vs "Tree.is_html" 971), (vs "/claim/cut.py" 972), (vi 424 0), (vi 3 0), (vi 0 0), (vi 0 0), (vi 3 0), (vr 618), (.bool true), (vi 181 0), (vr 619), .none, (vr 620), (vr 621), (vr 622), (vi 976 0), (vi 424 0), (vs "/claim/cut.py" 977)]) [],
 ob (.type "function") (none) (.func (fd 53 14 "Tree.is_html" 3 [] .none .none .none (vs "htmltree.tree" 831) none (vr 623) .none 0)) [],
 ob (.type "tuple") (none) (sq [(vs "attrs" 979), (vs "children" 980), (vs "contents" 981), (vs "kinds" 982), (vs "names" 983), (vs "parents" 984), (vs "spaces" 985), (vs "texts" 986)] 0) [],
 ob (.type "dict") (none) (dc [(de P "__module__" 840 (vs "htmltree.tree" 831)), (de P "__firstlineno__" 844 (vi 345 843)), (de P "__init__" 851 (vr 528)), (de P "add" 866 (vr 537)), (de P "element" 878 (vr 546)), (de P "text" 886 (vr 553)), (de P "comment" 894 (vr 560)), (de P "doctype" 904 (vr 567)), (de P "insert" 917 (vr 575)), (de P "append" 926 (vr 582)), (de P "remove" 934 (vr 589)), (de P "move_children" 943 (vr 596)), (de P "place" 951 (vr 603)), (de P "last" 959 (vr 610)), (de P "value" 969 (vr 617)), (de P "is_html" 978 (vr 624)), (de P "__static_attributes__" 987 (vr 625)), (de P "__dict__" 989 (vr 628)), (de P "__weakref__" 991 (vr 629)), (de P "__doc__" 992 .none)] 4) [],
 ob (.type "type") (none) (.cls (cd "Tree" [(.type "object")] [(vr 627), (.type "object")] 626 "Tree" true [] [] false none false)) [none, none, some (vs "Tree" 833), some (vs "Tree" 841), some (.builtin "object.__new__"), some (.bool true)],
 ob (.type "getset_descriptor") (none) (fl [(vs "__dict__" 988), (vr 627), (.builtin "function.__dict__"), (.builtin "function.__dict__#set")]) [],
 ob (.type "getset_descriptor") (none) (fl [(vs "__weakref__" 990), (vr 627), (.builtin "ExceptionGroup.__weakref__"), .none]) [],
 ob (.type "super") (none) (fl [(vr 627), (vr 627), (vr 627)]) [],
 ob (.type "builtin_function_or_method") (none) (fl [(.builtin "object.__init_subclass__"), (vr 627)]) [],
 ob (.type "tuple") (none) (sq [] 0) [],
 ob (.none) (none) (fl []) [],
 ob (.type "tuple") (none) (sq [(vs "tree" 998), (vs "node" 999), (vs "out" 1000), (vs "up" 1001)] 0) [],
 ob (.type "tuple") (none) (sq [] 0) [],
 ob (.none) (none) (.func (fd 54 0 "above" 0 [] .none .none .none .none none .none .none 0)) [],
 ob (.type "code") (none) (fl [(vs "above" 995), (vs "above" 996), (vs "/claim/cut.py" 997), (vi 426 0), (vi 2 0), (vi 0 0), (vi 0 0), (vi 3 0), (vr 632), (.bool true), (vi 181 0), (vr 633), .none, (vr 634), (vr 635), (vr 636), (vi 1002 0), (vi 426 0), (vs "/claim/cut.py" 1003)]) [],
 ob (.type "function") (none) (.func (fd 54 0 "above" 3 [] .none .none .none (vs "htmltree.tree" 831) none (vr 637) .none 0)) [],
 ob (.type "tuple") (none) (sq [] 0) [],
 ob (.type "builtin_function_or_method") (none) (fl [(.builtin "type.__prepare__"), (.type "type")]) [],
 ob (.type "dict") (none) (dc [(de P "__module__" 1014 (vs "htmltree.builder" 1005)), (de P "__qualname__" 1016 (vs "Builder" 1015)), (de P "__firstlineno__" 1018 (vi 434 1017)), (de P "__init__" 1027 (vr 653)), (de P "error" 1035 (vr 660)), (de P "to" 1043 (vr 667)), (de P "use" 1053 (vr 674)), (de P "process" 1061 (vr 681)), (de P "feed" 1069 (vr 688)), (de P "adjusted" 1076 (vr 695)), (de P "is_foreign" 1084 (vr 702)), (de P "__static_attributes__" 1106 (vr 703))] 12) [],
 ob (.type "tuple") (none) (sq [] 0) [],
 ob (.none) (none) (fl [(vi 436 0), (vi 4 0), (vr 652), (vi 459 0), (vi 4 0), (vr 659), (vi 462 0), (vi 4 0), (vr 666), (vi 465 0), (vi 4 0), (vr 673), (vi 471 0), (vi 4 0), (vr 680), (vi 477 0), (vi 4 0), (vr 687), (vi 489 0), (vi 4 0), (vr 694), (vi 494 0), (vi 4 0), (vr 701)]) [],
 ob (.type "code") (none) (fl [(vs "Builder" 1009), (vs "Builder" 1010), (vs "/claim/cut.py" 1011), (vi 434 0), (vi 0 0), (vi 0 0), (vi 0 0), (vi 0 0), (vr 642), (.bool false), (vi 181 0), (vr 643), .none, .none, .none, .none, (vi 1012 0), (vi 434 0), (vs "/claim/cut.py" 1013)]) [],
 ob (.type "frame") (none) (.plain) [some (vr 644), some (vr 3), some (vr 641), none, some (vs "htmltree.builder" 1005), none, some (vr 0)],
 ob (.type "tuple") (none) (sq [(.bool false)] 0) [],
 ob (.type "tuple") (none) (sq [] 0) [],
 ob (.none) (none) (fl []) [],
 ob (.type "tuple") (none) (sq [(vs "self" 1022), (vs "rules" 1023), (vs "is_scripting" 1024)] 0) [],
 ob (.type "tuple") (none) (sq [] 0) [],
 ob (.none) (none) (.func (fd 56 1 "Builder.__init__" 0 [] .none .none .none .none none .none .none 0)) [],
 ob (.type "code") (none) (fl [(vs "__init__" 1019), (vs "Builder.__init__" 1020), (vs "/claim/cut.py" 1021), (vi 436 0), (vi 3 0), (vi 0 0), (vi 0 0), (vi 3 0), (vr 647), (.bool true), (vi 181 0), (vr 648), .none, (vr 649), (vr 650), (vr 651), (vi 1025 0), (vi 436 0), (vs "/claim/cut.py" 1026)]) [],
 ob (.type "function") (none) (.func (fd 56 1 "Builder.__init__" 3 [] (vr 646) .none .none (vs "htmltree.builder" 1005) none (vr 652) .none 0)) [],
 ob (.type "tuple") (none) (sq [] 0) []]
noncomputable def os16 (P : Params) : List Obj := [
 ob (.none) (none) (fl []) [],
 ob (.type "tuple") (none) (sq [(vs "self" 1031), (vs "word" 1032)] 0) [],
 ob (.type "tuple") (none) (sq [] 0) [],
 ob (.none) (none) (.func (fd 56 2 "Builder.error" 0 [] .none .none .none .none none .none .none 0)) [],
 ob (.type "code") (none) (fl [(vs "error" 1028), (vs "Builder.error" 1029), (vs "/claim/cut.py" 1030), (vi 459 0), (vi 2 0), (vi 0 0), (vi 0 0), (vi 3 0), (vr 654), (.bool true), (vi 181 0), (vr 655), .none, (vr 656), (vr 657), (vr 658), (vi 1033 0), (vi 459 0), (vs "/claim/cut.py" 1034)]) [],
 ob (.type "function") (none) (.func (fd 56 2 "Builder.error" 3 [] .none .none .none (vs "htmltree.builder" 1005) none (vr 659) .none 0)) [],
 ob (.type "tuple") (none) (sq [] 0) [],
 ob (.none) (none) (fl []) [],
 ob (.type "tuple") (none) (sq [(vs "self" 1039), (vs "mode" 1040)] 0) [],
 ob (.type "tuple") (none) (sq [] 0) [],
 ob (.none) (none) (.func (fd 56 3 "Builder.to" 0 [] .none .none .none .none none .none .none 0)) [],
 ob (.type "code") (none) (fl [(vs "to" 1036), (vs "Builder.to" 1037), (vs "/claim/cut.py" 1038), (vi 462 0), (vi 2 0), (vi 0 0), (vi 0 0), (vi 3 0), (vr 661), (.bool true), (vi 181 0), (vr 662), .none, (vr 663), (vr 664), (vr 665), (vi 1041 0), (vi 462 0), (vs "/claim/cut.py" 1042)]) [],
 ob (.type "function") (none) (.func (fd 56 3 "Builder.to" 3 [] .none .none .none (vs "htmltree.builder" 1005) none (vr 666) .none 0)) [],
 ob (.type "tuple") (none) (sq [] 0) [],
 ob (.none) (none) (fl []) [],
 ob (.type "tuple") (none) (sq [(vs "self" 1047), (vs "name" 1048), (vs "token" 1049), (vs "rule" 1050)] 0) [],
 ob (.type "tuple") (none) (sq [] 0) [],
 ob (.none) (none) (.func (fd 56 4 "Builder.use" 0 [] .none .none .none .none none .none .none 0)) [],
 ob (.type "code") (none) (fl [(vs "use" 1044), (vs "Builder.use" 1045), (vs "/claim/cut.py" 1046), (vi 465 0), (vi 3 0), (vi 0 0), (vi 0 0), (vi 3 0), (vr 668), (.bool true), (vi 181 0), (vr 669), .none, (vr 670), (vr 671), (vr 672), (vi 1051 0), (vi 465 0), (vs "/claim/cut.py" 1052)]) [],
 ob (.type "function") (none) (.func (fd 56 4 "Builder.use" 3 [] .none .none .none (vs "htmltree.builder" 1005) none (vr 673) .none 0)) [],
 ob (.type "tuple") (none) (sq [] 0) [],
 ob (.none) (none) (fl []) [],
 ob (.type "tuple") (none) (sq [(vs "self" 1057), (vs "token" 1058)] 0) [],
 ob (.type "tuple") (none) (sq [] 0) [],
 ob (.none) (none) (.func (fd 56 5 "Builder.process" 0 [] .none .none .none .none none .none .none 0)) [],
 ob (.type "code") (none) (fl [(vs "process" 1054), (vs "Builder.process" 1055), (vs "/claim/cut.py" 1056), (vi 471 0), (vi 2 0), (vi 0 0), (vi 0 0), (vi 3 0), (vr 675), (.bool true), (vi 181 0), (vr 676), .none, (vr 677), (vr 678), (vr 679), (vi 1059 0), (vi 471 0), (vs "/claim/cut.py" 1060)]) [],
 ob (.type "function") (none) (.func (fd 56 5 "Builder.process" 3 [] .none .none .none (vs "htmltree.builder" 1005) none (vr 680) .none 0)) [],
 ob (.type "tuple") (none) (sq [] 0) [],
 ob (.none) (none) (fl []) [],
 ob (.type "tuple") (none) (sq [(vs "self" 1065), (vs "token" 1066)] 0) [],
 ob (.type "tuple") (none) (sq [] 0) [],
 ob (.none) (none) (.func (fd 56 6 "Builder.feed" 0 [] .none .none .none .none none .none .none 0)) [],
 ob (.type "code") (none) (fl [(vs "feed" 1062), (vs "Builder.feed" 1063), (vs "/claim/cut.py" 1064), (vi 477 0), (vi 2 0), (vi 0 0), (vi 0 0), (vi 3 0), (vr 682), (.bool true), (vi 181 0), (vr 683), .none, (vr 684), (vr 685), (vr 686), (vi 1067 0), (vi 477 0), (vs "/claim/cut.py" 1068)]) [],
 ob (.type "function") (none) (.func (fd 56 6 "Builder.feed" 3 [] .none .none .none (vs "htmltree.builder" 1005) none (vr 687) .none 0)) [],
 ob (.type "tuple") (none) (sq [] 0) [],
 ob (.none) (none) (fl []) [],
 ob (.type "tuple") (none) (sq [(vs "self" 1073)] 0) [],
 ob (.type "tuple") (none) (sq [] 0) [],
 ob (.none) (none) (.func (fd 56 7 "Builder.adjusted" 0 [] .none .none .none .none none .none .none 0)) [],
 ob (.type "code") (none) (fl [(vs "adjusted" 1070), (vs "Builder.adjusted" 1071), (vs "/claim/cut.py" 1072), (vi 489 0), (vi 1 0), (vi 0 0), (vi 0 0), (vi 3 0), (vr 689), (.bool true), (vi 181 0), (vr 690), .none, (vr 691), (vr 692), (vr 693), (vi 1074 0), (vi 489 0), (vs "/claim/cut.py" 1075)]) []]
noncomputable def os17 (P : Params) : List Obj := [
 ob (.type "function") (none) (.func (fd 56 7 "Builder.adjusted" 3 [] .none .none .none (vs "htmltree.builder" 1005) none (vr 694) .none 0)) [],
 ob (.type "tuple") (none) (sq [] 0) [],
 ob (.none) (none) (fl []) [],
 ob (.type "tuple") (none) (sq [(vs "self" 1080), (vs "node" 1081)] 0) [],
 ob (.type "tuple") (none) (sq [] 0) [],
 ob (.none) (none) (.func (fd 56 8 "Builder.is_foreign" 0 [] .none .none .none .none none .none .none 0)) [],
 ob (.type "code") (none) (fl [(vs "is_foreign" 1077), (vs "Builder.is_foreign" 1078), (vs "/claim/cut.py" 1079), (vi 494 0), (vi 1 0), (vi 0 0), (vi 0 0), (vi 3 0), (vr 696), (.bool true), (vi 181 0), (vr 697), .none, (vr 698), (vr 699), (vr 700), (vi 1082 0), (vi 494 0), (vs "/claim/cut.py" 1083)]) [],
 ob (.type "function") (none) (.func (fd 56 8 "Builder.is_foreign" 3 [] .none .none .none (vs "htmltree.builder" 1005) none (vr 701) .none 0)) [],
 ob (.type "tuple") (none) (sq [(vs "context" 1085), (vs "errors" 1086), (vs "form" 1087), (vs "formatting" 1088), (vs "head" 1089), (vs "is_acknowledged" 1090), (vs "is_done" 1091), (vs "is_foster" 1092), (vs "is_frameset_ok" 1093), (vs "is_scripting" 1094), (vs "is_skipping" 1095), (vs "mode" 1096), (vs "modes" 1097), (vs "original" 1098), (vs "owners" 1099), (vs "pending" 1100), (vs "quirks" 1101), (vs "rules" 1102), (vs "stack" 1103), (vs "tree" 1104), (vs "wish" 1105)] 0) [],
 ob (.type "dict") (none) (dc [(de P "__module__" 1014 (vs "htmltree.builder" 1005)), (de P "__firstlineno__" 1018 (vi 434 1017)), (de P "__init__" 1027 (vr 653)), (de P "error" 1035 (vr 660)), (de P "to" 1043 (vr 667)), (de P "use" 1053 (vr 674)), (de P "process" 1061 (vr 681)), (de P "feed" 1069 (vr 688)), (de P "adjusted" 1076 (vr 695)), (de P "is_foreign" 1084 (vr 702)), (de P "__static_attributes__" 1106 (vr 703)), (de P "__dict__" 1108 (vr 706)), (de P "__weakref__" 1110 (vr 707)), (de P "__doc__" 1111 .none)] 4) [],
 ob (.type "type") (none) (.cls (cd "Builder" [(.type "object")] [(vr 705), (.type "object")] 704 "Builder" true [] [] false none false)) [none, none, some (vs "Builder" 1007), some (vs "Builder" 1015), some (.builtin "object.__new__"), some (.bool true)],
 ob (.type "getset_descriptor") (none) (fl [(vs "__dict__" 1107), (vr 705), (.builtin "function.__dict__"), (.builtin "function.__dict__#set")]) [],
 ob (.type "getset_descriptor") (none) (fl [(vs "__weakref__" 1109), (vr 705), (.builtin "ExceptionGroup.__weakref__"), .none]) [],
 ob (.type "super") (none) (fl [(vr 705), (vr 705), (vr 705)]) [],
 ob (.type "builtin_function_or_method") (none) (fl [(.builtin "object.__init_subclass__"), (vr 705)]) [],
 ob (.type "tuple") (none) (sq [] 0) [],
 ob (.none) (none) (fl []) [],
 ob (.type "tuple") (none) (sq [(vs "builder" 1117), (vs "token" 1118), (vs "tree" 1119), (vs "node" 1120)] 0) [],
 ob (.type "tuple") (none) (sq [] 0) [],
 ob (.none) (none) (.func (fd 57 0 "is_html_turn" 0 [] .none .none .none .none none .none .none 0)) [],
 ob (.type "code") (none) (fl [(vs "is_html_turn" 1114), (vs "is_html_turn" 1115), (vs "/claim/cut.py" 1116), (vi 497 0), (vi 2 0), (vi 0 0), (vi 0 0), (vi 3 0), (vr 710), (.bool true), (vi 181 0), (vr 711), .none, (vr 712), (vr 713), (vr 714), (vi 1121 0), (vi 497 0), (vs "/claim/cut.py" 1122)]) [],
 ob (.type "function") (none) (.func (fd 57 0 "is_html_turn" 3 [] .none .none .none (vs "htmltree.builder" 1005) none (vr 715) .none 0)) [],
 ob (.type "tuple") (none) (sq [] 0) [],
 ob (.none) (none) (fl []) [],
 ob (.type "tuple") (none) (sq [(vs "first" 1129), (vs "second" 1130)] 0) [],
 ob (.type "tuple") (none) (sq [] 0) [],
 ob (.none) (none) (.func (fd 59 0 "_law_words" 0 [] .none .none .none .none none .none .none 0)) [],
 ob (.type "code") (none) (fl [(vs "_law_words" 1126), (vs "_law_words" 1127), (vs "/claim/cut.py" 1128), (vi 512 0), (vi 0 0), (vi 0 0), (vi 0 0), (vi 3 0), (vr 717), (.bool true), (vi 181 0), (vr 718), .none, (vr 719), (vr 720), (vr 721), (vi 1131 0), (vi 512 0), (vs "/claim/cut.py" 1132)]) [],
 ob (.type "function") (none) (.func (fd 59 0 "_law_words" 3 [] .none .none .none (vs "law_nz0103_01" 1124) none (vr 722) .none 0)) [],
 ob (.type "tuple") (none) (sq [] 0) [],
 ob (.none) (none) (fl []) [],
 ob (.type "tuple") (none) (sq [(vs "first" 1137), (vs "second" 1138)] 0) [],
 ob (.type "tuple") (none) (sq [] 0) [],
 ob (.none) (none) (.func (fd 60 0 "_law_usual" 0 [] .none .none .none .none none .none .none 0)) [],
 ob (.type "code") (none) (fl [(vs "_law_usual" 1134), (vs "_law_usual" 1135), (vs "/claim/cut.py" 1136), (vi 516 0), (vi 0 0), (vi 0 0), (vi 0 0), (vi 3 0), (vr 724), (.bool true), (vi 181 0), (vr 725), .none, (vr 726), (vr 727), (vr 728), (vi 1139 0), (vi 516 0), (vs "/claim/cut.py" 1140)]) [],
 ob (.type "function") (none) (.func (fd 60 0 "_law_usual" 3 [] .none .none .none (vs "law_nz0103_01" 1124) none (vr 729) .none 0)) [],
 ob (.type "tuple") (none) (sq [] 0) [],
 ob (.none) (none) (fl []) [],
 ob (.type "tuple") (none) (sq [] 0) [],
 ob (.type "tuple") (none) (sq [] 0) []]
noncomputable def os18 (P : Params) : List Obj := [
 ob (.none) (none) (.func (fd 61 0 "_law_modes" 0 [] .none .none .none .none none .none .none 0)) [],
 ob (.type "code") (none) (fl [(vs "_law_modes" 1142), (vs "_law_modes" 1143), (vs "/claim/cut.py" 1144), (vi 520 0), (vi 0 0), (vi 0 0), (vi 0 0), (vi 3 0), (vr 731), (.bool true), (vi 181 0), (vr 732), .none, (vr 733), (vr 734), (vr 735), (vi 1145 0), (vi 520 0), (vs "/claim/cut.py" 1146)]) [],
 ob (.type "function") (none) (.func (fd 61 0 "_law_modes" 3 [] .none .none .none (vs "law_nz0103_01" 1124) none (vr 736) .none 0)) [],
 ob (.type "tuple") (none) (sq [] 0) [],
 ob (.none) (none) (fl []) [],
 ob (.type "tuple") (none) (sq [(vs "word" 1151), (vs "more" 1152), (vs "k" 1153), (vs "kinds" 1154)] 0) [],
 ob (.type "tuple") (none) (sq [] 0) [],
 ob (.none) (none) (.func (fd 62 0 "_law_token" 0 [] .none .none .none .none none .none .none 0)) [],
 ob (.type "code") (none) (fl [(vs "_law_token" 1148), (vs "_law_token" 1149), (vs "/claim/cut.py" 1150), (vi 522 0), (vi 3 0), (vi 0 0), (vi 0 0), (vi 3 0), (vr 738), (.bool true), (vi 181 0), (vr 739), .none, (vr 740), (vr 741), (vr 742), (vi 1155 0), (vi 522 0), (vs "/claim/cut.py" 1156)]) [],
 ob (.type "function") (none) (.func (fd 62 0 "_law_token" 3 [] .none .none .none (vs "law_nz0103_01" 1124) none (vr 743) .none 0)) [],
 ob (.type "tuple") (none) (sq [] 0) [],
 ob (.none) (none) (fl []) [],
 ob (.type "tuple") (none) (sq [(vs "builder" 1161), (vs "token" 1162), (vs "name" 1163)] 0) [],
 ob (.type "tuple") (none) (sq [] 0) [],
 ob (.none) (none) (.func (fd 63 0 "_law_body" 0 [] .none .none .none .none none .none .none 0)) [],
 ob (.type "code") (none) (fl [(vs "_law_body" 1158), (vs "_law_body" 1159), (vs "/claim/cut.py" 1160), (vi 527 0), (vi 2 0), (vi 0 0), (vi 0 0), (vi 3 0), (vr 745), (.bool true), (vi 181 0), (vr 746), .none, (vr 747), (vr 748), (vr 749), (vi 1164 0), (vi 527 0), (vs "/claim/cut.py" 1165)]) [],
 ob (.type "function") (none) (.func (fd 63 0 "_law_body" 3 [] .none .none .none (vs "law_nz0103_01" 1124) none (vr 750) .none 0)) [],
 ob (.type "tuple") (none) (sq [] 0) [],
 ob (.none) (none) (fl []) [],
 ob (.type "tuple") (none) (sq [(vs "builder" 1170), (vs "seen" 1171)] 0) [],
 ob (.type "tuple") (none) (sq [] 0) [],
 ob (.none) (none) (.func (fd 64 0 "_law_seen" 0 [] .none .none .none .none none .none .none 0)) [],
 ob (.type "code") (none) (fl [(vs "_law_seen" 1167), (vs "_law_seen" 1168), (vs "/claim/cut.py" 1169), (vi 558 0), (vi 1 0), (vi 0 0), (vi 0 0), (vi 3 0), (vr 752), (.bool true), (vi 181 0), (vr 753), .none, (vr 754), (vr 755), (vr 756), (vi 1172 0), (vi 558 0), (vs "/claim/cut.py" 1173)]) [],
 ob (.type "function") (none) (.func (fd 64 0 "_law_seen" 3 [] .none .none .none (vs "law_nz0103_01" 1124) none (vr 757) .none 0)) [],
 ob (.type "tuple") (none) (sq [] 0) [],
 ob (.none) (none) (fl []) [],
 ob (.none) (none) (.func (fd 65 0 "_law_told" 0 [] .none .none .none .none none .none .none 0)) [],
 ob (.type "code") (none) (fl [(vs "_law_told" 1175), (vs "_law_told" 1176), (vs "/claim/cut.py" 1177), (vi 561 0), (vi 1 0), (vi 0 0), (vi 0 0), (vi 3 0), (vr 759), (.bool true), (vi 181 0), (vr 760), .none, .none, .none, (vr 761), (vi 1178 0), (vi 561 0), (vs "/claim/cut.py" 1179)]) [],
 ob (.type "function") (none) (.func (fd 65 0 "_law_told" 3 [] .none .none .none (vs "law_nz0103_01" 1124) none (vr 762) .none 0)) [],
 ob (.type "tuple") (none) (sq [] 0) [],
 ob (.none) (none) (fl []) [],
 ob (.none) (none) (.func (fd 66 0 "_law_held" 0 [] .none .none .none .none none .none .none 0)) [],
 ob (.type "code") (none) (fl [(vs "_law_held" 1181), (vs "_law_held" 1182), (vs "/claim/cut.py" 1183), (vi 563 0), (vi 1 0), (vi 0 0), (vi 0 0), (vi 3 0), (vr 764), (.bool true), (vi 181 0), (vr 765), .none, .none, .none, (vr 766), (vi 1184 0), (vi 563 0), (vs "/claim/cut.py" 1185)]) [],
 ob (.type "function") (none) (.func (fd 66 0 "_law_held" 3 [] .none .none .none (vs "law_nz0103_01" 1124) none (vr 767) .none 0)) [],
 ob (.type "tuple") (none) (sq [(vs "html" 1187)] 0) [],
 ob (.type "tuple") (none) (sq [] 0) [],
 ob (.none) (none) (fl []) [],
 ob (.type "tuple") (none) (sq [(vs "due" 1191), (vs "name" 1192), (vs "attrs" 1193), (vs "space" 1194), (vs "number" 1195), (vs "parent" 1196)] 0) [],
 ob (.type "tuple") (none) (sq [] 0) [],
 ob (.none) (none) (.func (fd 67 0 "_law_put" 0 [] .none .none .none .none none .none .none 0)) []]
noncomputable def os19 (P : Params) : List Obj := [
 ob (.type "code") (none) (fl [(vs "_law_put" 1188), (vs "_law_put" 1189), (vs "/claim/cut.py" 1190), (vi 565 0), (vi 4 0), (vi 0 0), (vi 0 0), (vi 3 0), (vr 770), (.bool true), (vi 181 0), (vr 771), .none, (vr 772), (vr 773), (vr 774), (vi 1197 0), (vi 565 0), (vs "/claim/cut.py" 1198)]) [],
 ob (.type "function") (none) (.func (fd 67 0 "_law_put" 3 [] (vr 769) .none .none (vs "law_nz0103_01" 1124) none (vr 775) .none 0)) [],
 ob (.type "tuple") (none) (sq [] 0) [],
 ob (.none) (none) (fl []) [],
 ob (.none) (none) (.func (fd 68 0 "_law_again" 0 [] .none .none .none .none none .none .none 0)) [],
 ob (.type "code") (none) (fl [(vs "_law_again" 1200), (vs "_law_again" 1201), (vs "/claim/cut.py" 1202), (vi 572 0), (vi 1 0), (vi 0 0), (vi 0 0), (vi 3 0), (vr 777), (.bool true), (vi 181 0), (vr 778), .none, .none, .none, (vr 779), (vi 1203 0), (vi 572 0), (vs "/claim/cut.py" 1204)]) [],
 ob (.type "function") (none) (.func (fd 68 0 "_law_again" 3 [] .none .none .none (vs "law_nz0103_01" 1124) none (vr 780) .none 0)) [],
 ob (.type "tuple") (none) (sq [] 0) [],
 ob (.none) (none) (fl []) [],
 ob (.none) (none) (.func (fd 69 0 "_law_spelled" 0 [] .none .none .none .none none .none .none 0)) [],
 ob (.type "code") (none) (fl [(vs "_law_spelled" 1206), (vs "_law_spelled" 1207), (vs "/claim/cut.py" 1208), (vi 577 0), (vi 2 0), (vi 0 0), (vi 0 0), (vi 3 0), (vr 782), (.bool true), (vi 181 0), (vr 783), .none, .none, .none, (vr 784), (vi 1209 0), (vi 577 0), (vs "/claim/cut.py" 1210)]) [],
 ob (.type "function") (none) (.func (fd 69 0 "_law_spelled" 3 [] .none .none .none (vs "law_nz0103_01" 1124) none (vr 785) .none 0)) [],
 ob (.type "tuple") (none) (sq [] 0) [],
 ob (.none) (none) (fl []) [],
 ob (.none) (none) (.func (fd 70 0 "_law_ruby_due" 0 [] .none .none .none .none none .none .none 0)) [],
 ob (.type "code") (none) (fl [(vs "_law_ruby_due" 1212), (vs "_law_ruby_due" 1213), (vs "/claim/cut.py" 1214), (vi 581 0), (vi 2 0), (vi 0 0), (vi 0 0), (vi 3 0), (vr 787), (.bool true), (vi 181 0), (vr 788), .none, .none, .none, (vr 789), (vi 1215 0), (vi 581 0), (vs "/claim/cut.py" 1216)]) [],
 ob (.type "function") (none) (.func (fd 70 0 "_law_ruby_due" 3 [] .none .none .none (vs "law_nz0103_01" 1124) none (vr 790) .none 0)) [],
 ob (.type "tuple") (none) (sq [] 0) [],
 ob (.none) (none) (fl []) [],
 ob (.none) (none) (.func (fd 71 0 "_law_other_due" 0 [] .none .none .none .none none .none .none 0)) [],
 ob (.type "code") (none) (fl [(vs "_law_other_due" 1218), (vs "_law_other_due" 1219), (vs "/claim/cut.py" 1220), (vi 593 0), (vi 2 0), (vi 0 0), (vi 0 0), (vi 3 0), (vr 792), (.bool true), (vi 181 0), (vr 793), .none, .none, .none, (vr 794), (vi 1221 0), (vi 593 0), (vs "/claim/cut.py" 1222)]) [],
 ob (.type "function") (none) (.func (fd 71 0 "_law_other_due" 3 [] .none .none .none (vs "law_nz0103_01" 1124) none (vr 795) .none 0)) [],
 ob (.type "tuple") (none) (sq [] 0) [],
 ob (.none) (none) (fl []) [],
 ob (.type "tuple") (none) (sq [(vs "due" 1227), (vs "token" 1228), (vs "mode" 1229), (vs "name" 1230)] 0) [],
 ob (.type "tuple") (none) (sq [] 0) [],
 ob (.none) (none) (.func (fd 72 0 "_law_due" 0 [] .none .none .none .none none .none .none 0)) [],
 ob (.type "code") (none) (fl [(vs "_law_due" 1224), (vs "_law_due" 1225), (vs "/claim/cut.py" 1226), (vi 614 0), (vi 3 0), (vi 0 0), (vi 0 0), (vi 3 0), (vr 797), (.bool true), (vi 181 0), (vr 798), .none, (vr 799), (vr 800), (vr 801), (vi 1231 0), (vi 614 0), (vs "/claim/cut.py" 1232)]) [],
 ob (.type "function") (none) (.func (fd 72 0 "_law_due" 3 [] .none .none .none (vs "law_nz0103_01" 1124) none (vr 802) .none 0)) [],
 ob (.type "tuple") (none) (sq [] 0) [],
 ob (.none) (none) (fl []) [],
 ob (.none) (none) (.func (fd 73 0 "law" 0 [] .none .none .none .none none .none .none 0)) [],
 ob (.type "code") (none) (fl [(vs "law" 1234), (vs "law" 1235), (vs "/claim/cut.py" 1236), (vi 633 0), (vi 1 0), (vi 0 0), (vi 0 0), (vi 3 0), (vr 804), (.bool true), (vi 181 0), (vr 805), .none, .none, .none, (vr 806), (vi 1237 0), (vi 633 0), (vs "/claim/cut.py" 1238)]) [],
 ob (.type "function") (none) (.func (fd 73 0 "law" 3 [] .none .none .none (vs "law_nz0103_01" 1124) none (vr 807) .none 0)) []]
noncomputable def own (P : Params) : List Obj := os0 P ++ (os1 P ++ (os2 P ++ (os3 P ++ (os4 P ++ (os5 P ++ (os6 P ++ (os7 P ++ (os8 P ++ (os9 P ++ (os10 P ++ (os11 P ++ (os12 P ++ (os13 P ++ (os14 P ++ (os15 P ++ (os16 P ++ (os17 P ++ (os18 P ++ (os19 P)))))))))))))))))))
end Mine.H
namespace Mine.H
open PySem PySem.W PySem.Calls PyProof.Rows
noncomputable abbrev pw : Program := PySem.Challenge.pw_nz0103_01
noncomputable def p2 (P : Params) : Obj := ob (.none) (none) (dc [(de P "type.__subclasses__.Exception.0" 694 (vi 408 0)), (de P "type.__subclasses__.Exception.n" 695 (vi 1 0))] 2) []
noncomputable def p3es (P : Params) : List DictEntry := [(de P "__name__" 165 (vs "law_nz0103_01" 1124)), (de P "__doc__" 166 .none), (de P "__package__" 167 .none), (de P "__loader__" 168 (.builtin "__main__.__loader__#opaque")), (de P "__spec__" 169 .none), (de P "__annotations__" 170 (vr 6)), (de P "__builtins__" 171 (vr 4)), (de P "__file__" 173 (vs "/claim/cut.py" 172)), (de P "__cached__" 174 .none), (de P "_wall" 193 (vr 21)), (de P "svg_attr_words" 203 (vr 28)), (de P "spelled" 212 (vr 35)), (de P "svg_attr" 219 (vr 42)), (de P "math_attr" 226 (vr 49)), (de P "foreign_attr" 234 (vr 56)), (de P "adjusted" 245 (vr 63)), (de P "is_upper" 254 (vr 70)), (de P "lower" 261 (vr 77)), (de P "lower_text" 270 (vr 84)), (de P "is_table_part" 279 (vr 91)), (de P "is_math_point" 287 (vr 98)), (de P "is_html_point" 296 (vr 105)), (de P "implied_names" 302 (vr 112)), (de P "foster_place" 315 (vr 119)), (de P "place_for" 328 (vr 127)), (de P "make" 339 (vr 135)), (de P "insert_element" 353 (vr 144)), (de P "insert_token" 362 (vr 151)), (de P "insert_void" 371 (vr 158)), (de P "associate" 381 (vr 165)), (de P "reconstruct" 392 (vr 172)), (de P "start_raw" 401 (vr 179)), (de P "OpenStack" 528 (vr 280)), (de P "stops_scope" 539 (vr 291)), (de P "in_scope" 552 (vr 299)), (de P "pop_implied" 562 (vr 307)), (de P "value_of" 573 (vr 314)), (de P "start_void" 583 (vr 321)), (de P "start_input" 592 (vr 328)), (de P "start_image" 600 (vr 335)), (de P "start_textarea" 608 (vr 342)), (de P "start_raw_part" 616 (vr 349)), (de P "start_select" 624 (vr 356)), (de P "start_option" 632 (vr 363)), (de P "start_ruby_part" 642 (vr 370)), (de P "start_foreign" 651 (vr 377)), (de P "start_any" 659 (vr 384)), (de P "is_misplaced" 666 (vr 391)), (de P "HtmlFault" 697 (vr 408)), (de P "Misused" 713 (vr 421)), (de P "Formatting" 820 (vr 503)), (de P "alike" 830 (vr 514)), (de P "Tree" 994 (vr 627)), (de P "above" 1004 (vr 638)), (de P "Builder" 1113 (vr 705)), (de P "is_html_turn" 1123 (vr 716)), (de P "_law_words" 1133 (vr 723)), (de P "_law_usual" 1141 (vr 730)), (de P "_law_modes" 1147 (vr 737)), (de P "_law_token" 1157 (vr 744)), (de P "_law_body" 1166 (vr 751)), (de P "_law_seen" 1174 (vr 758)), (de P "_law_told" 1180 (vr 763)), (de P "_law_held" 1186 (vr 768)), (de P "_law_put" 1199 (vr 776)), (de P "_law_again" 1205 (vr 781)), (de P "_law_spelled" 1211 (vr 786)), (de P "_law_ruby_due" 1217 (vr 791)), (de P "_law_other_due" 1223 (vr 796)), (de P "_law_due" 1233 (vr 803)), (de P "law" 1239 (vr 808))]
noncomputable def p3 (P : Params) : Obj := ob (.type "dict") (none) (dc (p3es P) 71) []
noncomputable def p11 (P : Params) : Obj := ob (.type "tuple") (none) (sq [] 0) []
noncomputable def p12fs : List Value := [(vi 1 0), (vi 0 0), (vr 20), (vi 5 0), (vi 0 0), (vr 27), (vi 8 0), (vi 0 0), (vr 34), (vi 13 0), (vi 0 0), (vr 41), (vi 15 0), (vi 0 0), (vr 48), (vi 19 0), (vi 0 0), (vr 55), (vi 25 0), (vi 0 0), (vr 62), (vi 36 0), (vi 0 0), (vr 69), (vi 38 0), (vi 0 0), (vr 76), (vi 42 0), (vi 0 0), (vr 83), (vi 48 0), (vi 0 0), (vr 90), (vi 50 0), (vi 0 0), (vr 97), (vi 52 0), (vi 0 0), (vr 104), (vi 59 0), (vi 0 0), (vr 111), (vi 62 0), (vi 0 0), (vr 118), (vi 76 0), (vi 0 0), (vr 126), (vi 89 0), (vi 0 0), (vr 134), (vi 91 0), (vi 0 0), (vr 143), (vi 97 0), (vi 0 0), (vr 150), (vi 101 0), (vi 0 0), (vr 157), (vi 106 0), (vi 0 0), (vr 164), (vi 117 0), (vi 0 0), (vr 171), (vi 127 0), (vi 0 0), (vr 178), (vi 133 0), (vi 0 0), (vr 185), (vi 187 0), (vi 0 0), (vr 290), (vi 203 0), (vi 0 0), (vr 298), (vi 212 0), (vi 0 0), (vr 306), (vi 217 0), (vi 0 0), (vr 313), (vi 223 0), (vi 0 0), (vr 320), (vi 227 0), (vi 0 0), (vr 327), (vi 233 0), (vi 0 0), (vr 334), (vi 236 0), (vi 0 0), (vr 341), (vi 240 0), (vi 0 0), (vr 348), (vi 244 0), (vi 0 0), (vr 355), (vi 252 0), (vi 0 0), (vr 362), (vi 257 0), (vi 0 0), (vr 369), (vi 268 0), (vi 0 0), (vr 376), (vi 275 0), (vi 0 0), (vr 383), (vi 278 0), (vi 0 0), (vr 390), (vi 281 0), (vi 0 0), (vr 397), (vi 286 0), (vi 0 0), (vr 417), (vi 289 0), (vi 0 0), (vr 429), (vi 335 0), (vi 0 0), (vr 513), (vi 345 0), (vi 0 0), (vr 520), (vi 426 0), (vi 0 0), (vr 637), (vi 434 0), (vi 0 0), (vr 644), (vi 497 0), (vi 0 0), (vr 715), (vi 512 0), (vi 0 0), (vr 722), (vi 516 0), (vi 0 0), (vr 729), (vi 520 0), (vi 0 0), (vr 736), (vi 522 0), (vi 0 0), (vr 743), (vi 527 0), (vi 0 0), (vr 750), (vi 558 0), (vi 0 0), (vr 757), (vi 561 0), (vi 0 0), (vr 762), (vi 563 0), (vi 0 0), (vr 767), (vi 565 0), (vi 0 0), (vr 775), (vi 572 0), (vi 0 0), (vr 780), (vi 577 0), (vi 0 0), (vr 785), (vi 581 0), (vi 0 0), (vr 790), (vi 593 0), (vi 0 0), (vr 795), (vi 614 0), (vi 0 0), (vr 802), (vi 633 0), (vi 0 0), (vr 807)]
noncomputable def p12 (P : Params) : Obj := ob (.none) (none) (fl p12fs) []
noncomputable def p13 (P : Params) : Obj := ob (.type "code") (none) (fl [(vs "<module>" 182), (vs "<module>" 183), (vs "/claim/cut.py" 184), (vi 1 0), (vi 0 0), (vi 0 0), (vi 0 0), (vi 0 0), (vr 11), (.bool false), (vi 181 0), (vr 12), .none, .none, .none, .none, (vi 185 0), (vi 1 0), (vs "/claim/cut.py" 186)]) []
noncomputable def p14 (P : Params) : Obj := ob (.type "frame") (none) (.plain) [some (vr 13), some (vr 3), some (vr 3), none, some (vs "__main__" 164), none, some (vr 0)]
noncomputable def p12s : Obj := ob .none none (fl []) []
noncomputable def start (P : Params) : List Obj := [boot_o_0 P, boot_o_1 P, boot_o_2 P, boot_o_3 P, boot_o_4 P, boot_o_5 P, boot_o_6 P, boot_o_7 P, boot_o_8 P, boot_o_9 P, boot_o_10 P, p11 P, p12s, p13 P, p14 P]
noncomputable def all (P : Params) : List Obj := [boot_o_0 P, boot_o_1 P, p2 P, p3 P, boot_o_4 P, boot_o_5 P, boot_o_6 P, boot_o_7 P, boot_o_8 P, boot_o_9 P, boot_o_10 P, p11 P, p12 P, p13 P, p14 P] ++ own P
noncomputable def ev2 : List Obj → List Obj × List Obj
 | [] => ([], [])
 | x :: r => match ev2 r with | (a, b) => (x :: b, a)
noncomputable def tr : Nat → List Obj → BT
 | 0, _ => .nil
 | n + 1, l => match l with
  | [] => .nil
  | x :: r => match ev2 r with | (a, b) => .node x (tr n a) (tr n b)
noncomputable def env : Env := { scope := pw.main.scope, locals := mainNs, globals := mainNs, cells := [], code := .ref 13, frame := some 14 }
noncomputable def c : Code := .body (behindTheImports pw) env
noncomputable def q0 : Pos := ⟨0, 0, 0, 0⟩
noncomputable def pE : Pos := ⟨633, 0, 679, 106⟩
noncomputable def Bq : List Frame := [topFrame q0]
noncomputable def Sa (w : World) (os : OsState) : Shared := ⟨⟨Array.mk (start w.params), {}⟩, Array.mk [], {}, 187, os⟩
noncomputable def Sb (w : World) (os : OsState) : SharedT := ⟨tr 10 (start w.params), 15, {}, Array.mk [], {}, 187, os⟩
noncomputable def Sm (w : World) (os : OsState) : SharedT := ⟨tr 10 (all w.params), 809, {}, Array.mk [], {}, 1240, os⟩
noncomputable def Sf (w : World) (os : OsState) : Shared := ⟨⟨Array.mk (all w.params), {}⟩, Array.mk [], {}, 1240, os⟩
noncomputable def an : Option Value := some (.ref 6)
noncomputable def cutP (P : Params) (o : Obj) (n m f : Nat) (x : String) (t : Nat) : List Obj := [boot_o_0 P, boot_o_1 P, o, ob (.type "dict") none (dc ((de P "__name__" 165 (vs x t) :: (p3es P).tail).take m) m) [], boot_o_4 P, boot_o_5 P, boot_o_6 P, boot_o_7 P, boot_o_8 P, boot_o_9 P, boot_o_10 P, p11 P, ob .none none (fl (p12fs.take f)) [], p13 P, p14 P] ++ (own P).take n
noncomputable def cutS (w : World) (os : OsState) (o : Obj) (n m f : Nat) (x : String) (t k : Nat) : SharedT := ⟨tr 10 (cutP w.params o n m f x t), n + 15, {}, Array.mk [], {}, k, os⟩
noncomputable def S1 (w : World) (os : OsState) : SharedT := cutS w os (boot_o_2 w.params) 270 33 72 "htmltree.openstack" 402 529
noncomputable def S2 (w : World) (os : OsState) : SharedT := cutS w os (p2 w.params) 409 50 123 "htmltree.formatting" 714 716
noncomputable def S3 (w : World) (os : OsState) : SharedT := cutS w os (p2 w.params) 617 53 132 "htmltree.tree" 831 995
noncomputable def q1 : Pos := ⟨133, 0, 186, 16⟩
noncomputable def q2 : Pos := ⟨288, 0, 288, 8⟩
noncomputable def q3 : Pos := ⟨345, 0, 425, 88⟩
noncomputable def b0 : List Stmt := (behindTheImports pw).take 29
noncomputable def b1 : List Stmt := ((behindTheImports pw).drop 29).take 21
noncomputable def b2 : List Stmt := ((behindTheImports pw).drop 50).take 4
noncomputable def b3 : List Stmt := (behindTheImports pw).drop 54
end Mine.H
set_option maxHeartbeats 0
namespace Mine.H
open PySem PySem.W PySem.Calls PyProof.Rows PySem.W.Fast
theorem h_pre : ∀ w : World, (fun os => topGo treeTable pw w 11 an 12 ⟨boot_heap w.params, Array.mk [], boot_drawn, boot_toks, os⟩ (topStub pw)) = fun os => some (Sa w os, ⟨denote treeTable c, c, q0, Bq⟩) := by
 rw [te15667345088766844465, te14364793385576792824, te11892475500146522536]; intro w; kernel_rfl
theorem h_block : ∀ w : World, (fun os => segRun treeTable pw w 11 an 1 1 (Sa w os) (blockOf (behindTheImports pw) env c q0 Bq)) = fun os => some (Flow.next, (Sb w os).abs, c, q0) := by
 rw [te14374325043358763698, te14364793385576792824]; intro w; kernel_rfl
theorem h_fin : ∀ w : World, (fun os => topRun treeTable pw w 11 an 2 (Sm w os).abs ⟨doneF .next, c, pE, Bq⟩) = fun os => some (Sf w os) := by
 rw [te14082659384304107361, te14364793385576792824]; intro w; kernel_rfl
end Mine.H
set_option maxHeartbeats 0
namespace Mine.H
open PySem PySem.W PySem.Calls PyProof.Rows PySem.W.Fast
theorem h_run0 : ∀ w : World, (fun os => segRunT treeTable pw w 11 an 1 1374 (Sb w os) (piecesOf b0 env c q0 Bq)) = fun os => some (Flow.next, S1 w os, c, q1) := by
 rw [te10110043849684766642, te14364793385576792824]; intro w; kernel_rfl
theorem h_run1 : ∀ w : World, (fun os => segRunT treeTable pw w 11 an 1 944 (S1 w os) (piecesOf b1 env c q1 Bq)) = fun os => some (Flow.next, S2 w os, c, q2) := by
 rw [te10110043849684766642, te14364793385576792824]; intro w; kernel_rfl
theorem h_run2 : ∀ w : World, (fun os => segRunT treeTable pw w 11 an 1 1234 (S2 w os) (piecesOf b2 env c q2 Bq)) = fun os => some (Flow.next, S3 w os, c, q3) := by
 rw [te10110043849684766642, te14364793385576792824]; intro w; kernel_rfl
theorem h_run3 : ∀ w : World, (fun os => segRunT treeTable pw w 11 an 1 983 (S3 w os) (piecesOf b3 env c q3 Bq)) = fun os => some (Flow.next, Sm w os, c, pE) := by
 rw [te10110043849684766642, te14364793385576792824]; intro w; kernel_rfl
end Mine.H
set_option maxHeartbeats 0
namespace Mine.H
open PySem PySem.W PySem.Calls PyProof.Rows PySem.W.Fast
noncomputable abbrev rw0 : OpenLaw := PySem.Challenge.rw_nz0103_01
theorem b_all : behindTheImports pw = b0 ++ (b1 ++ (b2 ++ (b3 ++ []))) := by kernel_rfl
theorem h_all (w : World) (os : OsState) : topRun treeTable pw w 11 an (12 + (1 + (1374 + (944 + (1234 + (983 + 2)))))) ⟨boot_heap w.params, Array.mk [], boot_drawn, boot_toks, os⟩ (topStub pw) = some (Sf w os) := by
 refine go_top (congrFun (h_pre w) os) ?_
 refine piece_block (congrFun (h_block w) os) ?_
 rw [b_all]
 exact piece_app (segRun_of (congrFun (h_run0 w) os)) (piece_app (segRun_of (congrFun (h_run1 w) os)) (piece_app (segRun_of (congrFun (h_run2 w) os)) (piece_app (segRun_of (congrFun (h_run3 w) os)) (piece_nil (congrFun (h_fin w) os)))))
theorem h_open : ∀ w : World, (fencedOpening treeTable pw w 9188).map (fun s => (s.heap, s.gens, s.drawn, s.toks)) = some (boot_heap w.params, Array.mk [], boot_drawn, boot_toks) :=
 boot_open (by kernel_rfl) (by decide +kernel) (fun s => by kernel_rfl)
theorem h_size (w : World) : ((boot_heap w.params).isNs mainGlobals && (Array.mk [] : Array GenState).size == 0, (boot_heap w.params).objs.size, (boot_heap w.params).nsMap mainGlobals "__annotations__") = (true, 11, an) := by kernel_rfl
noncomputable def pick (f : Nat → Bool) : Nat → List Obj → Frag
 | _, [] => []
 | n, x :: r => match f n with
  | true => (n, x) :: pick f (n + 1) r
  | false => pick f (n + 1) r
noncomputable def pickA (f : Nat → Bool) : Nat → Nat → List Addr
 | _, 0 => []
 | n, m + 1 => match f n with
  | true => n :: pickA f (n + 1) m
  | false => pickA f (n + 1) m
theorem pick_as {f : Nat → Bool} : ∀ (l : List Obj) (n : Nat), (pick f n l).map (·.1) = pickA f n l.length
 | [], _ => rfl
 | x :: r, n => by
  have h := pick_as (f := f) r (n + 1)
  show List.map _ (match f n with | true => (n, x) :: pick f (n + 1) r | false => pick f (n + 1) r) = (match f n with | true => n :: pickA f (n + 1) r.length | false => pickA f (n + 1) r.length)
  cases f n with
  | true => exact congrArg (List.cons n) h
  | false => exact h
theorem pick_obs {f : Nat → Bool} {h : Heap} : ∀ (l : List Obj) (n : Nat), (∀ k, h.objs[n + k]? = l[k]?) → (pick f n l).all (fun p => !p.2.isFreed) = true → (pickA f n l.length).map h.get? = (pick f n l).map fun p => some p.2
 | [], _, _, _ => rfl
 | x :: r, n, e, q => by
  have i := pick_obs (f := f) (h := h) r (n + 1) fun k => by rw [Nat.add_assoc, Nat.add_comm 1 k]; exact e (k + 1)
  have q : List.all (match f n with | true => (n, x) :: pick f (n + 1) r | false => pick f (n + 1) r) (fun p => !p.2.isFreed) = true := q
  show List.map h.get? (match f n with | true => n :: pickA f (n + 1) r.length | false => pickA f (n + 1) r.length) = List.map _ (match f n with | true => (n, x) :: pick f (n + 1) r | false => pick f (n + 1) r)
  cases hf : f n with
  | true =>
   rw [hf] at q
   obtain ⟨a, b⟩ := Bool.and_eq_true_iff.mp q
   exact (congrArg (List.cons (h.get? n)) (i b)).trans (congrArg (fun a => a :: List.map _ _) (Heap.get?_some_iff.mpr ⟨e 0, Bool.not_eq_true' _ ▸ a⟩))
  | false =>
   rw [hf] at q
   exact i q
noncomputable def seenA (n : Nat) : Bool := Nat.testBit 0x18c18c631838c60c183060c183f60c183060c18307360fd83060c183060c1c183060f0783360fd83060c183060c183066f66fb066c183060c183060c183060c1c1c1fb060c183060c183060c183066c183060c183c1c1c183060c183060c183060c18300000 n
noncomputable def K (P : Params) : Frag := (3, p3 P) :: pick seenA 15 (own P)
noncomputable def as : List Addr := 3 :: pickA seenA 15 794
theorem len_own (P : Params) : (own P).length = 794 := by kernel_rfl
theorem live (P : Params) : (pick seenA 15 (own P)).all (fun p => !p.2.isFreed) = true := by kernel_rfl
theorem as_eq (P : Params) : as = (K P).map (·.1) := congrArg (List.cons 3) ((len_own P ▸ pick_as (f := seenA) (own P) 15).symm)
noncomputable def hk : Hook := kHook K as as_eq
noncomputable def qv : Program := { pw with main := { pw.main with body := pw.main.body.drop 73 } }
noncomputable def loose : List Str := (pw.main.body.take 73).filterMap fun s => match s with | .FunctionDef n .. | .ClassDef n .. => some n | _ => none
noncomputable def Xt (s : Shared) : Bool := xlAt qv [] s && recOk rw0.row.records s
end Mine.H
set_option maxHeartbeats 0
namespace Mine.H
open PySem PySem.W PySem.Calls PyProof.Rows PySem.W.Fast
theorem l_ends (w : World) : (fun os => (staticsOk (importedModules pw.main.body) (boot_heap w.params) (Sf w os).heap && namesBound pw (Sf w os).heap && gensDone (Sf w os) && laidKept (boot_heap w.params) (Sf w os).heap)) = fun _ => true := by kernel_rfl
theorem l_seen (w : World) : (fun os => openSeen qv loose (importedModules pw.main.body) Xt true (Sf w os)) = fun _ => openGood qv loose := by kernel_rfl
theorem l_obs (w : World) : (fun os => hk.obs (Sf w os)) = fun _ => hk.val w := by
 funext os
 have h := pick_obs (f := seenA) (h := (Sf w os).heap) (own w.params) 15 (fun k => by
  show (Array.mk (all w.params))[15 + k]? = _
  rw [List.getElem?_toArray]
  unfold all
  rw [List.getElem?_append_right (Nat.le_add_right 15 k)]
  exact congrArg (fun z => (own w.params)[z]?) (Nat.add_sub_cancel_left 15 k)) (live _)
 rw [len_own] at h
 exact congrArg (List.cons (some (p3 w.params))) h
end Mine.H
set_option maxHeartbeats 0
open PySem PySem.W PyProof.Rows in
theorem Mine.nr_app {lk : Look} : ∀ {a b : List Stmt}, noRoadLSs lk a = true → noRoadLSs lk b = true → noRoadLSs lk (a ++ b) = true
 | [], _, _, h => h
 | s :: a, b, h1, h2 => by
  obtain ⟨x, y⟩ := Bool.and_eq_true_iff.mp (show (noRoadLS lk s && noRoadLSs lk a) = true from h1)
  exact Bool.and_eq_true_iff.mpr ⟨x, nr_app y h2⟩
open PySem PySem.W PyProof.Rows in
theorem Mine.nr_cut {lk : Look} {l : List Stmt} (n : Nat) (h1 : noRoadLSs lk (l.take n) = true) (h2 : noRoadLSs lk (l.drop n) = true) : noRoadLSs lk l = true := by
 have h := nr_app h1 h2
 rwa [List.take_append_drop] at h
open PySem PySem.W in
theorem Mine.nr_bare {f : Look → List Stmt → Bool} {st : Bool} {bare : List Str} {l : List Stmt} (e1 : st = false) (e2 : bare.isEmpty = true) (h : f { strict := false, foot := none, bare := [] } l = true) : f { strict := st, foot := none, bare := bare } l = true := by
 cases e1
 cases List.isEmpty_iff.mp e2
 exact h
open PySem PySem.W PyProof.Rows in
theorem Mine.said : PySem.Challenge.rw_nz0103_01.wellSaid = true := by
 refine (congrFun PySem.W.Fast.te9446332074065402090 _).trans ?_
 repeat' (first | with_reducible refine look_both ?_ ?_ | (first | delta PySem.W.Fast.tw9446332074065402090 | delta PySem.W.Fast.tw17960256430627541270 | delta PySem.W.Fast.tw2436336058641802641 | delta PySem.W.Fast.tw12908688711261696721))
 iterate 2 kernel_rfl
 decide +kernel
 kernel_rfl
 ·refine nr_bare (by kernel_rfl) (by decide +kernel) ?_
  refine (congrFun (congrFun PySem.W.Fast.te8326940854005059898 _) _).symm.trans (nr_cut 29 ?_ (nr_cut 25 ?_ (nr_cut 19 ?_ ?_)))
  all_goals (refine (congrFun (congrFun PySem.W.Fast.te8326940854005059898 _) _).trans ?_; decide +kernel)
 decide +kernel
 iterate 20 kernel_rfl
 decide +kernel
 iterate 10 kernel_rfl
 decide +kernel
 kernel_rfl
set_option maxHeartbeats 0
namespace Mine.H
open PySem PySem.W PySem.Calls PyProof.Rows PySem.W.Fast
noncomputable def D : DefRec := match (pw.main.body[73]? : Option Stmt) with
 | some (.FunctionDef n a b _ _ _ sc _ _ p) => ⟨n, a, b, sc, p⟩
 | _ => ⟨Str.empty, ⟨[], [], none, [], [], none, []⟩, [], pw.main.scope, q0⟩
theorem d_of : defOf qv rw0.row.name = some (D, []) := by kernel_rfl
theorem d_the : rw0.row.prog.theDef rw0.row.name = some (D.params, D.body, D.scope) := by kernel_rfl
theorem d_kw : kwWritten? D.params.kwonlyargs D.params.kw_defaults = some [] := by kernel_rfl
theorem d_ok : (chainsOk qv && opensWell rw0.row.prog && (frees rw0.row.toRowW && rw0.row.within.isEmpty)) = true := by kernel_rfl
theorem h_wit : rw0.row.promised := ⟨[.list []], by decide +kernel, by decide +kernel⟩
theorem h_left : LeftO rw0.row.prog qv loose Xt hk.obs hk.val 9188 :=
 LeftO.of_pieces (H₁ := fun P => ⟨Array.mk (all P), {}⟩) (gs₁ := Array.mk []) (d₁ := {}) (k₁ := 1240) (m₀ := 11) (ann := an) (M := 12 + (1 + (1374 + (944 + (1234 + (983 + 2)))))) h_open h_size h_all (by decide +kernel) fun w => by
  funext os
  exact looks_pair (congrFun (l_ends w) os) (looks_pair (congrFun (l_seen w) os) (congrFun (l_obs w) os))
theorem hd (walk : WalkO qv loose (XL qv []) hk.says rw0.row.toRowW D [] fun f vs => call f vs) : rw0.Holds :=
 holds_law Mine.said fun said => PySem.W.holds_open (Xt := Xt) (XP := XL qv []) h_left hk.of hk.keeps (fun s e => xl_of s (Bool.and_eq_true_iff.mp e).1) XL.keeps d_of d_the d_kw
  (fun s e => recFacts_of (Bool.and_eq_true_iff.mp e).2) (by rfl) said d_ok ⟨rfl, rfl, rfl, rfl, rfl, by decide +kernel⟩ h_wit walk
end Mine.H
set_option maxHeartbeats 0
namespace Mine.H
open PySem PySem.W PySem.Calls PyProof.Rows
theorem any_inv {α : Type} {x : Option α} {f : α → Bool} (h : x.any f = true) : ∃ a, x = some a ∧ f a = true := by
 cases x with
 | none => cases h
 | some a => exact ⟨a, rfl, h⟩
noncomputable def fnD : Data → Option FuncData
 | .func f => some f
 | _ => none
noncomputable def sqD : Data → Option (Array Value × Nat)
 | .seq xs n => some (xs, n)
 | _ => none
noncomputable def rfV : Value → Option Addr
 | .ref a => some a
 | _ => none
noncomputable def tkV : Value → Tok
 | .int _ t => t
 | .str _ t => t
 | _ => 0
theorem fnD_inv {d : Data} {f : FuncData} (h : fnD d = some f) : d = .func f := by
 cases d with
 | func g => exact congrArg _ (Option.some.inj h)
 | _ => cases h
theorem sqD_inv {d : Data} {p : Array Value × Nat} (h : sqD d = some p) : d = .seq p.1 p.2 := by
 cases d with
 | seq xs n => cases h; rfl
 | _ => cases h
theorem rfV_inv {v : Value} {a : Addr} (h : rfV v = some a) : v = .ref a := by
 cases v with
 | ref b => exact congrArg _ (Option.some.inj h)
 | _ => cases h
noncomputable def fnAt (K : Frag) (a : Addr) : Option FuncData := Mine.ob (K.lookup a) fun o => fnD o.data
theorem fnAt_of {K : Frag} {a : Addr} {f : FuncData} (e : fnAt K a = some f) : ∃ o, K.lookup a = some o ∧ o.data = .func f :=
 (ob_inv e).imp fun _ h => ⟨h.1, fnD_inv h.2⟩
noncomputable def reb (f : FuncData) (d : Fn) : FuncData := { f with body := .stmts d.body, scope := d.scope }
noncomputable def pairs : List (Nat × Nat) := adTab.map (·.1)
theorem reb_all (P : Params) : (pairs.map fun p => (fnAt (K P) (theAd p.1 p.2)).bind fun f => (theFn p.1 p.2).map (reb f)) = pairs.map fun p => (theFn p.1 p.2).bind fun _ => fnAt (K P) (theAd p.1 p.2) := by kernel_rfl
noncomputable def seqIn (K : Frag) (v : Value) (c : Obj → List Value → Bool) : Bool := (rfV v).any fun a => (K.lookup a).any fun o => (sqD o.data).any fun p => c o p.1.toList
theorem seqIn_of {K : Frag} {v : Value} {c : Obj → List Value → Bool} (h : seqIn K v c = true) : ∃ a o ws m, v = .ref a ∧ K.lookup a = some o ∧ o.data = .seq ws m ∧ c o ws.toList = true := by
 obtain ⟨a, h1, h⟩ := any_inv h
 obtain ⟨o, h2, h⟩ := any_inv h
 obtain ⟨p, h3, h⟩ := any_inv h
 exact ⟨a, o, p.1, p.2, rfV_inv h1, h2, sqD_inv h3, h⟩
noncomputable def valOk (K : Frag) (v : MV) (w : Value) : Bool := match v with
 | .none => decide (w = .none)
 | .bool b => decide (w = .bool b)
 | .int i => decide (w = .int i (tkV w))
 | .str x => decide (w = .str x (tkV w))
 | .tup vs => vs.isEmpty && seqIn K w fun o ws => decide (o.cls = .type "tuple") && ws.isEmpty
 | _ => false
noncomputable def valsOk (K : Frag) : List MV → List Value → Bool
 | [], ws => ws.isEmpty
 | v :: vs, ws => match ws with
  | w :: ws => valOk K v w && valsOk K vs ws
  | [] => false
noncomputable def dflOk (K : Frag) (v : Value) (ds : List MV) : Bool := (decide (v = .none) && ds.isEmpty) || seqIn K v fun _ ws => valsOk K ds ws
noncomputable def foL (K : Frag) (a : Addr) (f : FuncData) (d : Fn) : List Bool :=
 [decide (f.globals = mainGlobals), f.closure.isEmpty, decide (f.builtins = builtinsNs), codeIn K f.code f.qualname, f.params.posonlyargs.isEmpty, decide (f.params.args.map (·.arg) = d.params), f.params.kwonlyargs.isEmpty,
  f.params.vararg.isNone, f.params.kwarg.isNone, dflOk K f.defaults d.defaults, decide (d.scope.kind = .function), d.scope.isCoroutine == false, d.scope.isGenerator == false, nodupB (d.scope.names.map (·.1)), d.scope.names.all fun x => x.2 != .free,
  nodupB d.params, d.params.all fun x => decide (lookKind d.scope x = some .local ∨ lookKind d.scope x = some .cell), decide (d.defaults.length ≤ d.params.length), keepIn K (.ref a)]
theorem all_at : ∀ {l : List Bool}, l.all id = true → ∀ (n : Nat) {b : Bool}, l.getD n true = b → b = true
 | [], _, _, _, e => e ▸ rfl
 | _ :: _, h, 0, _, e => e ▸ (Bool.and_eq_true_iff.mp h).1
 | _ :: _, h, n + 1, _, e => all_at (Bool.and_eq_true_iff.mp h).2 n e
noncomputable def chkF (K : Frag) : Bool := pairs.all fun p => (theFn p.1 p.2).all fun d => (fnAt K (theAd p.1 p.2)).any fun f => (foL K (theAd p.1 p.2) f d).all id
theorem chkF_ok (P : Params) : chkF (K P) = true := by kernel_rfl
noncomputable def clsLen (i : Nat) : Nat := ((Mine.ob (topS i) clsB).getD []).length
theorem top_len : prog.main.body.length = 74 := by kernel_rfl
theorem cls_len : ((List.range 74).all fun i => Nat.ble (clsLen i) 20) = true := by kernel_rfl
theorem covers : ((List.range 74).all fun i => (List.range 21).all fun j => (theFn i j).isNone || pairs.contains (i, j)) = true := by kernel_rfl
end Mine.H
set_option maxHeartbeats 0
namespace Mine.H
open PySem PySem.W PySem.Calls PyProof.Rows
theorem fn_in {i j : Nat} {d : Fn} (h : theFn i j = some d) : (i, j) ∈ pairs := by
 have hs : ∃ s, topS i = some s := by
  cases j with
  | zero => exact (ob_inv h).imp fun _ h => h.1
  | succ j => exact (ob_inv h).imp fun _ h => h.1
 obtain ⟨s, hs⟩ := hs
 have hi : i < 74 := top_len ▸ (List.getElem?_eq_some_iff.mp hs).1
 have hj : j < 21 := by
  cases j with
  | zero => exact Nat.zero_lt_succ _
  | succ j =>
   obtain ⟨t, e, h⟩ := ob_inv h
   obtain ⟨b, e2, h⟩ := ob_inv h
   obtain ⟨x, e3, _⟩ := ob_inv h
   have c := Nat.le_of_ble_eq_true (List.all_eq_true.mp cls_len i (List.mem_range.mpr hi))
   unfold clsLen at c
   rw [e, show Mine.ob (some t) clsB = some b from e2] at c
   exact Nat.succ_lt_succ (Nat.lt_of_lt_of_le (List.getElem?_eq_some_iff.mp e3).1 c)
 have c := List.all_eq_true.mp (List.all_eq_true.mp covers i (List.mem_range.mpr hi)) j (List.mem_range.mpr hj)
 rw [h] at c
 exact List.contains_iff_mem.mp c
theorem map_at {α β : Type} {f g : α → β} : ∀ {l : List α} {x : α}, l.map f = l.map g → x ∈ l → f x = g x
 | _ :: _, _, e, .head _ => (List.cons.inj e).1
 | _ :: _, _, e, .tail _ h => map_at (List.cons.inj e).2 h
theorem valOk_of {K : Frag} {h : Heap} (X : K.In h) {ad : Nat → Nat → Addr} {v : MV} {w : Value} (e : valOk K v w = true) : VR ad (fun a => h.get? a) (fun _ => none) v w := by
 cases v with
 | none => exact (of_decide_eq_true e : w = .none)
 | bool b => exact (of_decide_eq_true e : w = .bool b)
 | int i => exact ⟨_, of_decide_eq_true e⟩
 | str x => exact ⟨_, of_decide_eq_true e⟩
 | tup vs =>
  obtain ⟨e1, e⟩ := Bool.and_eq_true_iff.mp e
  obtain ⟨a, o, ws, m, h1, h2, h3, e⟩ := seqIn_of e
  obtain ⟨e2, e3⟩ := Bool.and_eq_true_iff.mp e
  cases List.isEmpty_iff.mp e1
  exact ⟨a, o, ws, m, h1, X _ _ h2, of_decide_eq_true e2, h3, List.isEmpty_iff.mp e3⟩
 | _ => cases e
theorem valsOk_of {K : Frag} {h : Heap} (X : K.In h) {ad : Nat → Nat → Addr} : ∀ {vs : List MV} {ws : List Value}, valsOk K vs ws = true → VRs ad (fun a => h.get? a) (fun _ => none) vs ws
 | [], _, e => List.isEmpty_iff.mp e
 | _ :: _, [], e => by cases e
 | v :: vs, w :: ws, e => ⟨w, ws, rfl, valOk_of X (Bool.and_eq_true_iff.mp e).1, valsOk_of X (Bool.and_eq_true_iff.mp e).2⟩
section
variable {w : World} {mg mb : Str → Option Value} {s : Shared} (X : (K w.params).In s.heap) (R : TopRead qv (looseW qv loose) mg mb s.heap)
noncomputable def Om : Wld := ⟨pw, w, K w.params, s.heap, qv, looseW qv loose, mg, mb, theAd, theTab, thePol, s.gens, s.os, X, R⟩
theorem fn_ok {i j : Nat} {d : Fn} (h : theFn i j = some d) : FnOk (Om X R) i j d := by
 have hm := fn_in h
 have c := List.all_eq_true.mp (chkF_ok w.params) _ hm
 have r := map_at (reb_all w.params) hm
 dsimp only at c r
 rw [h] at c r
 obtain ⟨f, hf, o⟩ := any_inv c
 rw [hf] at r
 obtain ⟨ob, h1, h2⟩ := fnAt_of hf
 have r : reb f d = f := Option.some.inj r
 refine ⟨⟨ob, f, X _ _ h1, h2, by rw [← r]; rfl, by rw [← r]; rfl, of_decide_eq_true (all_at o 0 rfl), List.isEmpty_iff.mp (all_at o 1 rfl), of_decide_eq_true (all_at o 2 rfl), codeRec_of X (all_at o 3 rfl), List.isEmpty_iff.mp (all_at o 4 rfl), of_decide_eq_true (all_at o 5 rfl),
  List.isEmpty_iff.mp (all_at o 6 rfl), Option.isNone_iff_eq_none.mp (all_at o 7 rfl), Option.isNone_iff_eq_none.mp (all_at o 8 rfl), ?_⟩, of_decide_eq_true (all_at o 10 rfl), eq_of_beq (all_at o 11 rfl), eq_of_beq (all_at o 12 rfl), nodupB_of (all_at o 13 rfl),
  fun x hx => bne_iff_ne.mp (List.all_eq_true.mp (all_at o 14 rfl) x hx), ⟨nodupB_of (all_at o 15 rfl), fun x hx => of_decide_eq_true (List.all_eq_true.mp (all_at o 16 rfl) x hx)⟩, of_decide_eq_true (all_at o 17 rfl), all_at o 18 rfl⟩
 rcases Bool.or_eq_true_iff.mp (all_at o 9 rfl : dflOk (K w.params) f.defaults d.defaults = true) with q | q
 ·exact .inl ⟨of_decide_eq_true (Bool.and_eq_true_iff.mp q).1, List.isEmpty_iff.mp (Bool.and_eq_true_iff.mp q).2⟩
 ·obtain ⟨T, o', ws, m, e1, e2, e3, q⟩ := seqIn_of q
  exact .inr ⟨T, o', ws, m, e1, X _ _ e2, e3, valsOk_of X q⟩
noncomputable def clsL : List Nat := [28, 50, 53, 56]
theorem cls_mem {c : Nat} (h : isCls c = true) : c ∈ clsL := by
 rcases Bool.or_eq_true_iff.mp h with h | h
 ·rcases Bool.or_eq_true_iff.mp h with h | h
  ·rcases Bool.or_eq_true_iff.mp h with h | h
   ·exact of_decide_eq_true h ▸ .head _
   ·exact of_decide_eq_true h ▸ .tail _ (.head _)
  ·exact of_decide_eq_true h ▸ .tail _ (.tail _ (.head _))
 ·exact of_decide_eq_true h ▸ .tail _ (.tail _ (.tail _ (.head _)))
structure CO (K : Frag) (c : Nat) : Prop where
 ga : findIn K (.ref (theAd c 0)) "__getattribute__" = some (some (.builtin "object.__getattribute__"))
 gx : findIn K (.ref (theAd c 0)) "__getattr__" = some none
 hd : hasDictIn K (theAd c 0) = true
 ov : plainOver K (theAd c 0) = true
 sa : findIn K (.ref (theAd c 0)) "__setattr__" = some (some (.builtin "object.__setattr__"))
 made : makesIn K (theAd c 0) = true
 fld : ((fieldNames c).all fun n => findIn K (.ref (theAd c 0)) (Str.ofString n) == some none) = true
 mth : (match theCls c with
  | some ms => ms.all fun p => !(theFn c p.2).isSome || (findIn K (.ref (theAd c 0)) p.1 == some (some (.ref (theAd c p.2))) && (typeIn K (.ref (theAd c p.2)) == some (.type "function")) && !fieldOk c p.1)
  | none => true) = true
 keep : keepIn K (.ref (theAd c 0)) = true
 init : (match theCls c with
  | some ms => (match methAt (Str.ofString "__init__") ms with
   | some k => (theFn c k).isSome
   | none => true)
  | none => true) = true
theorem co28 (P : Params) : CO (K P) 28 := by constructor <;> kernel_rfl
theorem co50 (P : Params) : CO (K P) 50 := by constructor <;> kernel_rfl
theorem co53 (P : Params) : CO (K P) 53 := by constructor <;> kernel_rfl
theorem co56 (P : Params) : CO (K P) 56 := by constructor <;> kernel_rfl
end
end Mine.H
set_option maxHeartbeats 0
namespace Mine.H
open PySem PySem.W PySem.Calls PyProof.Rows
theorem co_all (P : Params) : ∀ {c : Nat}, c ∈ clsL → CO (K P) c
 | _, .head _ => co28 P
 | _, .tail _ (.head _) => co50 P
 | _, .tail _ (.tail _ (.head _)) => co53 P
 | _, .tail _ (.tail _ (.tail _ (.head _))) => co56 P
theorem meth_mem {x : Str} {j : Nat} : ∀ {ms : List (Str × Nat)}, methAt x ms = some j → (x, j) ∈ ms
 | [], h => by cases h
 | (y, v) :: r, h => by
  unfold methAt at h
  split at h
  ·rename_i e
   cases h; subst e; exact .head _
  ·exact .tail _ (meth_mem h)
noncomputable def gOk (K : Frag) (x : Str) : MV → Bool
 | .fn i j => j == 0 && (nsIn K mainGlobals x == some (some (.ref (theAd i 0))) && keepIn K (.ref (theAd i 0)))
 | .bi b => nsIn K mainGlobals x == some none && (bootBuiltins x == some (biVal b) && decide (x ≠ "__name__"))
 | _ => false
noncomputable def gChk (K : Frag) : Bool := globTbl.all fun p => gOk K ⟨p.1.toArray⟩ p.2
theorem g_ok (P : Params) : gChk (K P) = true := by kernel_rfl
theorem lq_eq : ∀ {a b : List Nat}, lq a b = true → a = b
 | [], [], _ => rfl
 | [], _ :: _, h => by cases h
 | _ :: _, [], h => by cases h
 | a :: x, b :: y, h => by
  have h : (match Nat.beq a b with | true => lq x y | false => false) = true := h
  cases e : Nat.beq a b with
  | true => rw [e] at h; rw [Nat.eq_of_beq_eq_true e, lq_eq h]
  | false => rw [e] at h; cases h
theorem glk_mem {x : List Nat} {v : MV} : ∀ {l : List (List Nat × MV)}, glk x l = some v → (x, v) ∈ l
 | [], h => by cases h
 | (y, u) :: r, h => by
  have h : (match lq y x with | true => some u | false => glk x r) = some v := h
  cases e : lq y x with
  | true => rw [e] at h; cases h; rw [lq_eq e]; exact .head _
  | false => rw [e] at h; exact .tail _ (glk_mem h)
section
variable {w : World} {mg mb : Str → Option Value} {s : Shared} (X : (K w.params).In s.heap) (R : TopRead qv (looseW qv loose) mg mb s.heap)
theorem cls_ok {c : Nat} (h : isCls c = true) : ClsOk (Om X R) c := by
 have o := co_all w.params (cls_mem h)
 refine ⟨o.ga, o.gx, o.hd, o.ov, o.sa, o.made, fun x hx => ?_, fun ms x j hms hj hf => ?_⟩
 ·unfold fieldOk at hx
  obtain ⟨n, hn, e⟩ := List.any_eq_true.mp hx
  cases of_decide_eq_true e
  exact eq_of_beq (List.all_eq_true.mp o.fld n hn)
 ·have m := o.mth
  have hms : theCls c = some ms := hms
  rw [hms] at m
  have q := List.all_eq_true.mp m _ (meth_mem hj)
  have hf : (theFn c j).isSome = true := hf
  simp only [hf, Bool.not_true, Bool.false_or, Bool.and_eq_true, Bool.not_eq_true', beq_iff_eq] at q
  exact ⟨q.1.1, q.1.2, q.2⟩
theorem glob_ok : GlobOk (Om X R) := fun x v h => by
 have q := List.all_eq_true.mp (g_ok w.params) _ (glk_mem h)
 cases v with
 | fn i j =>
  obtain ⟨q1, q⟩ := Bool.and_eq_true_iff.mp q
  cases eq_of_beq q1
  obtain ⟨q1, q2⟩ := Bool.and_eq_true_iff.mp q
  exact .inl ⟨_, rfl, eq_of_beq q1, q2⟩
 | bi b =>
  obtain ⟨q1, q⟩ := Bool.and_eq_true_iff.mp q
  obtain ⟨q2, q3⟩ := Bool.and_eq_true_iff.mp q
  exact .inr ⟨_, rfl, eq_of_beq q1, eq_of_beq q2, of_decide_eq_true q3⟩
 | _ => cases q
theorem facts : Facts (Om X R) where
 cls := fun _ h => cls_ok X R h
 glob := glob_ok X R
 fn := fun _ _ _ h => fn_ok X R h
 keepC := fun _ h => (co_all w.params (cls_mem h)).keep
 init := fun c ms k h h1 h2 => by
  have m := (co_all w.params (cls_mem h)).init
  have h1 : theCls c = some ms := h1
  rw [h1] at m
  dsimp only at m
  rw [h2] at m
  exact m
end
end Mine.H
set_option maxHeartbeats 0
namespace Mine.H
open PySem PySem.W PySem.Calls PyProof.Rows
theorem ints_vrs {ad : Nat → Nat → Addr} {φ : Phi} {μ : Mu} : ∀ {vs : List Value} {ns : List Int}, IntsAre vs ns → VRs ad φ μ (ns.map .int) vs
 | _, _, .nil => rfl
 | _, _, .cons _ _ h => ⟨_, _, rfl, ⟨_, rfl⟩, ints_vrs h⟩
noncomputable def parOk (x : Option Fn) : Bool := x.any fun d => decide (d.params = [d.params.headD Str.empty]) && decide (d.scope.names.lookup (d.params.headD Str.empty) = some .local)
theorem par_of {d : Fn} (h : parOk (some d) = true) : ∃ x, d.params = [x] ∧ d.scope.names.lookup x = some .local :=
 ⟨_, of_decide_eq_true (Bool.and_eq_true_iff.mp h).1, of_decide_eq_true (Bool.and_eq_true_iff.mp h).2⟩
theorem inv0 {w : World} {mg mb : Str → Option Value} {s : Shared} (X : (K w.params).In s.heap) (R : TopRead qv (looseW qv loose) mg mb s.heap) : Inv (Om X R) s.heap.get? (fun _ => none) {} s :=
 ⟨fun _ _ e => e, fun _ _ e => e, fun a o e => (by cases a <;> cases e), fun _ _ _ _ _ _ e => (by cases e), fun _ _ _ e => (by cases e), fun b ⟨_, _, _, e, _⟩ => (by cases e), Nat.le_refl _, rfl, rfl, fun _ _ e => (by cases e)⟩
theorem law_nm (P : Params) : nsIn (K P) mainGlobals D.name = some (some (.ref (theAd 73 0))) := by kernel_rfl
theorem law_par : parOk (theFn 73 0) = true := by kernel_rfl
theorem walk :
  WalkO qv loose (XL qv []) hk.says rw0.row.toRowW D [] fun f vs => call f vs := by
 w_on
 intro w s₀ s₁ mg mb G Y fa o pm cd doc dV kV ho hd hcd hD hmg hg args vals as hpre hlay hrd hwl hlo
 have X : (K w.params).In s₁.heap := kIn_of Y
 have R := topRead_of G.T
 clear hcd hD ho hd Y
 wrow_args hpre hlay hrd hwl hlo
 rename_i ns _ _ _ _ _ _ _ l its _ hL _ _ _ hI _ hlen _
 have hfa := mg_of X R.g (law_nm _)
 rw [hmg] at hfa
 cases hfa
 obtain ⟨st, hp⟩ := law_plain ns (Nat.le_of_not_lt fun q => hlen (Int.ofNat_lt.mpr q))
 cases h : theFn 73 0 with
 | none => exact absurd law_par (by rw [h]; decide)
 | some d =>
  have pa := law_par
  rw [h] at pa
  obtain ⟨x, p1, p2⟩ := par_of pa
  rw [callN_fn (T := theTab) (n := 15) (show theTab.fn 73 0 = some d from h)] at hp
  obtain ⟨lo, h1, h2⟩ := ob_inv hp
  obtain ⟨ol, hol, hc, m, hdl⟩ := hL
  have vr : VRs theAd s₁.heap.get? (fun _ => none) [scr ns] [.ref l] := ⟨_, [], rfl, ⟨l, ol, its.toArray, m, rfl, hol, hc, hdl, ints_vrs hI⟩, rfl⟩
  have L : ∀ n, LongDict (Om X R) (callN (Om X R).T (Om X R).pol n) n := fun n => @longDict (Om X R) _ n
  refine wpAny_call (fn_sound (Ω := Om X R) (facts X R) (L 15) (callN_sound (facts X R) L 15) (i := 73) (j := 0) (d := d) h h1 h2 (⟨rfl, by decide, by decide⟩ : Room 16 callerA) (inv0 X R) (.inr ⟨x, [], _, [], p1, p2, rfl⟩) vr fun V s' φ' μ' y J t rv => ?_)
  cases (show V = .bool true from rv)
  exact GoodW.toG ⟨.inl ⟨_, .bool true, [], rfl, fun _ => rfl, .bool true, by wrow_post, fun _ => ⟨.nil, fun a h => nomatch h⟩⟩, fun b o e => J.fro b o (J.base b o e), J.os, J.gens.trans hg⟩
theorem done : rw0.Holds := hd walk
end Mine.H
theorem PySem.Challenge.cw_nz0103_01_holds : PySem.Challenge.rw_nz0103_01.Holds :=
 Mine.H.done
