import PyProof.Rows.All
import Wide.All
import OpenK.AllK
import Wide.FinOn
import KE.KTryDeepN
import PyProof.ExcInit
import PyProof.ExcClass2
import PyProof.InstStoreFacts
import PySem.Challenge.RW_pq0824_01
section
open PySem PySem.W PySem.Calls PyProof.Rows
set_option Elab.async false
namespace PH

/-- abstract values -/
inductive AV where
  | none
  | bool (b : Bool)
  | int (i : Int)
  | sint (k : Nat)
  | str (x : Str)
  | bytes (b : List UInt8)
  | typ (n : String)
  | bi (n : String)
  | prog (a : Nat)
  | obj (k : Nat)
  | sym (k : Nat)
  deriving DecidableEq, Inhabited

/-- abstract objects -/
inductive AO where
  | inst (C : Nat) (at_ : List (Str × AV))
  | list (xs : List AV)
  | tup (xs : List AV)
  | ed
  | sd (kvs : List (Str × AV))
  | ps (n : Nat) (kvs : List (Str × Option AV))
  | pi (n : Nat) (kvs : List (AV × AV))
  | pen (n : Nat)
  deriving Inhabited

noncomputable abbrev Vars := List (Str × AV)
structure St where
  objs : List (Nat × AO)
  nxt : Nat
  nn : Nat

noncomputable abbrev KB := AV → St → Bool
noncomputable abbrev KX := St → Bool
noncomputable abbrev KS := Vars → St → Bool

structure Rec where
  ev : Scope → Expr → Vars → St → KB → KX → Bool
  ts : Scope → Expr → Vars → St → (Bool → St → Bool) → KX → Bool
  ex : Scope → List Stmt → Vars → St → KS → KB → KX → Bool
  call : AV → List AV → St → KB → KX → Bool

noncomputable def Rec.bad : Rec := ⟨fun _ _ _ _ _ _ => false, fun _ _ _ _ _ _ => false, fun _ _ _ _ _ _ _ => false, fun _ _ _ _ _ => false⟩

/-- what a text of the program does: read off once -/
structure ClE where
  run : Rec → Vars → St → KB → KX → Bool
structure ClL where
  run : Rec → Vars → St → (List AV → St → Bool) → KX → Bool
structure ClT where
  run : Rec → Vars → St → (Bool → St → Bool) → KX → Bool
structure ClS where
  run : Rec → Vars → St → KS → KB → KX → Bool
structure ClF where
  run : Rec → List AV → St → KB → KX → Bool
structure ClB where
  run : List AV → St → KB → Bool
noncomputable def ClT.bad : ClT := ⟨fun _ _ _ _ _ => false⟩
noncomputable def ClE.bad : ClE := ⟨fun _ _ _ _ _ => false⟩
noncomputable def ClL.bad : ClL := ⟨fun _ _ _ _ _ => false⟩
noncomputable def ClS.bad : ClS := ⟨fun _ _ _ _ _ _ => false⟩
noncomputable def ClF.bad : ClF := ⟨fun _ _ _ _ _ => false⟩
noncomputable def ClB.bad : ClB := ⟨fun _ _ _ => false⟩

noncomputable def getO : List (Nat × AO) → Nat → Option AO
  | [], _ => none
  | (k, o) :: r, i => match Nat.beq k i with
    | true => some o
    | false => getO r i
noncomputable def putO : List (Nat × AO) → Nat → AO → List (Nat × AO)
  | [], _, _ => []
  | (k, o) :: r, i, o' => match Nat.beq k i with
    | true => (k, o') :: r
    | false => (k, o) :: putO r i o'
noncomputable def remO : List (Nat × AO) → Nat → List (Nat × AO)
  | [], _ => []
  | (k, o) :: r, i => match Nat.beq k i with
    | true => r
    | false => (k, o) :: remO r i
noncomputable def St.get (st : St) (k : Nat) : Option AO := getO st.objs k
noncomputable def St.put (st : St) (k : Nat) (o : AO) : St := { st with objs := putO st.objs k o }
noncomputable def St.rem (st : St) (k : Nat) : St := { st with objs := remO st.objs k }
/-- a number, by one step from a literal -/
noncomputable def frc (n : Nat) (k : Nat → Bool) : Bool := match n with
  | 0 => k 0
  | m + 1 => k (m + 1)
noncomputable def St.al (st : St) (o : AO) (k : KB) : Bool := frc st.nxt fun n => k (.obj n) { objs := (n, o) :: st.objs, nxt := n + 1, nn := st.nn }

/-- a list of pairs by a text: the first of that name -/
noncomputable def sEq (a b : Str) : Bool := decide (a = b)
noncomputable def lk {α : Type} : List (Str × α) → Str → Option α
  | [], _ => none
  | (k, v) :: r, x => match sEq k x with
    | true => some v
    | false => lk r x
/-- a store into such a list: in its place, or at the end -/
noncomputable def sk {α : Type} : List (Str × α) → Str → α → List (Str × α)
  | [], x, v => [(x, v)]
  | (k, u) :: r, x, v => match sEq k x with
    | true => (k, v) :: r
    | false => (k, u) :: sk r x v

section
variable (K : Frag)

noncomputable def avOf : Value → AV
  | .none => .none
  | .bool b => .bool b
  | .int i _ => .int i
  | .str x _ => .str x
  | .bytes b _ => .bytes b.toList
  | .type n => .typ n
  | .builtin n => .bi n
  | .ref a => .prog a
  | _ => .sym 0
noncomputable def avOk : Value → Bool
  | .none | .bool _ | .int _ _ | .str _ _ | .bytes _ _ | .type _ | .builtin _ | .ref _ => true
  | _ => false

/-- a written tuple of the program -/
noncomputable def progTup (a : Nat) : Option (List AV) := match K.lookup a with
  | some ⟨.type "tuple", _, .seq xs _, _⟩ => if xs.toList.all avOk then some (xs.toList.map avOf) else none
  | _ => none

noncomputable def globOf (x : Str) : Option AV := match nsIn K mainGlobals x with
  | some (some v) => if avOk v then some (avOf v) else none
  | some none => (match bootBuiltins x with | some v => if avOk v && !(x == "__name__") then some (avOf v) else none | none => none)
  | none => none

noncomputable def fnAt (f : Nat) : Option FuncData := match K.lookup f with
  | some ⟨_, _, .func fd, _⟩ => some fd
  | _ => none
noncomputable def bodyOf (fd : FuncData) : List Stmt := match fd.body with | .stmts b => b | .expr _ => []
noncomputable def dfltOf (fd : FuncData) : List AV := match fd.defaults with | .ref t => (progTup K t).getD [] | _ => []
noncomputable def parsOf (fd : FuncData) : List Str := fd.params.args.map (·.arg)
noncomputable def bindsOf (fd : FuncData) (args : List AV) : Option Vars :=
  match Nat.ble args.length (parsOf fd).length && Nat.ble ((parsOf fd).length - args.length) (dfltOf K fd).length with
  | true => some ((parsOf fd).zip (args ++ (dfltOf K fd).drop ((dfltOf K fd).length - ((parsOf fd).length - args.length))))
  | false => none
/-- a def that may be called so: nothing out of the way -/
noncomputable def fdOk (fd : FuncData) : Bool := (match fd.body with | .stmts _ => true | .expr _ => false) && Nat.beq fd.globals mainGlobals && fd.closure.isEmpty && Nat.beq fd.builtins builtinsNs && codeIn K fd.code fd.qualname && !fd.scope.isCoroutine && !fd.scope.isGenerator && decide (fd.scope.kind = .function) &&
  fd.scope.names.all (fun x => decide (x.2 ≠ .cell)) && (parsOf fd).all (fun x => decide (fd.scope.names.lookup x = some .local)) && decide (parsOf fd).Nodup

noncomputable def attrOk (C : Nat) (name : Str) : Bool := plainGet K C name && hasDictIn K C && (match findIn K (.ref C) name with | some attr => noGet K attr | none => false)
noncomputable def methAt (C : Nat) (name : Str) : Option Nat := if plainGet K C name then (match findIn K (.ref C) name with
  | some (some (.ref f)) => if isFn K (.ref f) then some f else none
  | _ => none) else none
noncomputable def storeOk (C : Nat) (name : Str) : Bool := findIn K (.ref C) "__setattr__" == some (some (.builtin "object.__setattr__")) && plainOver K C && takerIn K C name == some none && hasDictIn K C
noncomputable def initAt (C : Nat) : Option Nat := if makesIn K C then (match findIn K (.ref C) "__init__" with
  | some (some (.ref f)) => if isFn K (.ref f) then some f else none
  | _ => none) else none

noncomputable def hAV : AV → Bool
  | .bi _ => false
  | .typ _ => false
  | _ => true

noncomputable def getAttrA (ov : AV) (name : Str) (st : St) (k : KB) : Bool := match ov with
  | .obj i => (match st.get i with
    | some (.inst C at_) => (match lk at_ name with
      | some v => (match attrOk K C name && hAV v with | true => k v st | false => false)
      | none => false)
    | _ => false)
  | _ => false

noncomputable def setAttrA (ov : AV) (name : Str) (v : AV) (st : St) (k : St → Bool) : Bool := match ov with
  | .obj i => (match st.get i with
    | some (.inst C at_) => (match storeOk K C name && Nat.blt at_.length 50 with | true => k (st.put i (.inst C (sk at_ name v))) | false => false)
    | _ => false)
  | _ => false

/-- the items of a tuple or a list -/
noncomputable def itemsA (ov : AV) (st : St) : Option (List AV) := match ov with
  | .obj i => (match st.get i with
    | some (.list xs) => some xs
    | some (.tup xs) => some xs
    | _ => none)
  | .prog a => progTup K a
  | _ => none

noncomputable def truthA (v : AV) (k : Bool → Bool) : Bool := match v with
  | .bool b => k b
  | _ => false

noncomputable def isNoneA (v : AV) : Option Bool := match v with
  | .none => some true
  | .sym _ => none
  | _ => some false

noncomputable def tupItems (v : AV) (st : St) : Option (List AV) := match v with
  | .obj i => (match st.get i with
    | some (.tup xs) => some xs
    | _ => none)
  | .prog a => progTup K a
  | _ => none
noncomputable def allSame (f : AV → AV → Bool) : List AV → List AV → Bool
  | [], [] => true
  | a :: r, b :: t => match f a b with
    | true => allSame f r t
    | false => false
  | _, _ => false
/-- plainly the same, deep -/
noncomputable def sameA (st : St) : Nat → AV → AV → Bool
  | 0, _, _ => false
  | n + 1, a, b => match a with
    | .none => (match b with | .none => true | _ => false)
    | .bool x => (match b with | .bool y => x == y | _ => false)
    | .int x => (match b with | .int y => decide (x = y) | _ => false)
    | .str x => (match b with | .str y => sEq x y | _ => false)
    | .bytes x => (match b with | .bytes y => decide (x = y) | _ => false)
    | .obj i => (match tupItems K (.obj i) st with
      | some xs => (match tupItems K b st with | some ys => allSame (sameA st n) xs ys | none => false)
      | none => false)
    | .prog i => (match tupItems K (.prog i) st with
      | some xs => (match tupItems K b st with | some ys => allSame (sameA st n) xs ys | none => false)
      | none => false)
    | _ => false

noncomputable def strsOf : List AV → Option (List Str)
  | [] => some []
  | .str x :: r => (match strsOf r with | some ys => some (x :: ys) | none => none)
  | _ :: _ => none
noncomputable def intsOf : List AV → Option (List Int)
  | [] => some []
  | .int x :: r => (match intsOf r with | some ys => some (x :: ys) | none => none)
  | _ :: _ => none
noncomputable def strDict (ov : AV) (st : St) : Option (List (Str × AV)) := match ov with
  | .obj i => (match st.get i with
    | some (.sd kvs) => some kvs
    | some .ed => some []
    | _ => none)
  | _ => none
noncomputable def listItems (ov : AV) (st : St) : Option (List AV) := match ov with
  | .obj i => (match st.get i with
    | some (.list xs) => some xs
    | _ => none)
  | _ => none
/-- is v in c? -/
noncomputable def inA (neg : Bool) (v c : AV) (st : St) : Option Bool := match v with
  | .str x => (match strDict c st with
    | some kvs => some (lk kvs x).isSome
    | none => (match tupItems K c st with
      | some its => (match strsOf its with | some ys => some (ys.any fun y => y == x) | none => none)
      | none => (match listItems c st with
        | some its => (match neg with
          | true => none
          | false => (match strsOf its with | some ys => some (ys.any fun y => y == x) | none => none))
        | none => none)))
  | .int i => (match tupItems K c st with
      | some its => (match intsOf its with | some ys => some (ys.any fun y => y == i) | none => none)
      | none => none)
  | _ => none

noncomputable def eqA (a b : AV) (st : St) : Option Bool := match a with
  | .str x => (match b with
    | .str y => some (x == y)
    | _ => none)
  | .int x => (match b with | .int y => some (x == y) | _ => none)
  | .bool x => (match b with | .bool y => some (x == y) | _ => none)
  | .obj i => (match b with
    | .str _ => (match st.get i with | some (.tup _) => some false | _ => none)
    | .obj j => (match sameA K st 8 (.obj i) (.obj j) with | true => some true | false => none)
    | _ => none)
  | _ => none

structure Op2 where
  run : AV → AV → St → KB → Bool
noncomputable def Op2.bad : Op2 := ⟨fun _ _ _ _ => false⟩
noncomputable def eqOp (neg : Bool) : Op2 := ⟨fun a b st k => match eqA K a b st with | some r => k (.bool (r != neg)) st | none => false⟩
noncomputable def isOp (neg : Bool) : Op2 := ⟨fun a b st k => match b with
  | .none => (match isNoneA a with | some r => k (.bool (r != neg)) st | none => false)
  | _ => false⟩
noncomputable def inOp (neg : Bool) : Op2 := ⟨fun a b st k => match inA K neg a b st with | some r => k (.bool (r != neg)) st | none => false⟩
noncomputable def int2 (f : Int → Int → AV) : Op2 := ⟨fun a b st k => match a with
  | .int x => (match b with | .int y => k (f x y) st | _ => false)
  | _ => false⟩
noncomputable def cmpOp (op : CmpOp) : Op2 := match op with
  | .Eq => eqOp K false
  | .NotEq => eqOp K true
  | .Is => isOp false
  | .IsNot => isOp true
  | .In => inOp K false
  | .NotIn => inOp K true
  | .Lt => int2 fun x y => .bool (decide (x < y))
  | .LtE => int2 fun x y => .bool (decide (x ≤ y))
  | .Gt => int2 fun x y => .bool (decide (y < x))
  | .GtE => int2 fun x y => .bool (decide (y ≤ x))

noncomputable def small (i : Int) : Bool := decide (-1000000 < i) && decide (i < 1000000)
noncomputable def addOp : Op2 := ⟨fun a b st k => match a, b with
    | .int x, .int y => k (.int (x + y)) st
    | .str x, .str y => (match Nat.blt x.length 1000 && Nat.blt y.length 1000 with | true => k (.str (x ++ y)) st | false => false)
    | _, _ => false⟩
noncomputable def smallOp (f : Int → Int → AV) (pos : Bool) : Op2 := ⟨fun a b st k => match a with
  | .int x => (match b with | .int y => (match small x && small y && (!pos || decide (0 < y)) with | true => k (f x y) st | false => false) | _ => false)
  | _ => false⟩
noncomputable def binOp (op : Operator) : Op2 := match op with
  | .Add => addOp
  | .Sub => int2 fun x y => .int (x - y)
  | .Mult => smallOp (fun x y => .int (x * y)) false
  | .Mod => smallOp (fun x y => .int (Int.fmod x y)) true
  | _ => Op2.bad

/-- an index into a list of things -/
noncomputable def nth {α : Type} (xs : List α) (i : Int) : Option α := match i with
  | .ofNat n => (match Nat.blt n 1000 with | true => xs[n]? | false => none)
  | .negSucc _ => none
noncomputable def itemA (ov iv : AV) (st : St) (k : KB) : Bool := match iv with
  | .int i => (match itemsA K ov st with
    | some xs => (match nth xs i with | some v => k v st | none => false)
    | none => false)
  | .str x => (match strDict ov st with
    | some kvs => (match lk kvs x with | some v => k v st | none => false)
    | none => false)
  | _ => false

noncomputable def natOf (v : AV) : Option Nat := match v with | .int (.ofNat n) => some n | _ => none
/-- x[lo:] and x[:hi] -/
noncomputable def sliceA (nm : Bool) (ov : AV) (lo hi : Option AV) (st : St) (k : KB) : Bool := match lo, hi with
  | some l, none => (match natOf l with
    | some n => match Nat.blt n 1000 with | false => false | true => (match ov with
      | .str x => (match Nat.blt x.length 1000 with | true => k (.str (Txt.slice x (some (n : Int)) none)) st | false => false)
      | .obj i => (match st.get i with
        | some (.list xs) => (match nm && Nat.blt xs.length 1000 with | true => st.al (.list (xs.drop n)) k | false => false)
        | _ => false)
      | _ => false)
    | none => false)
  | none, some h => (match natOf h with
    | some n => match Nat.blt n 1000 with | false => false | true => (match ov with
      | .bytes b => (match nm && Nat.blt b.length 1000 with | true => k (.bytes (b.take n)) st | false => false)
      | _ => false)
    | none => false)
  | _, _ => false

noncomputable def lenA (v : AV) (st : St) : Option Nat := match v with
  | .str x => some x.length
  | .bytes b => some b.length
  | .obj i => (match st.get i with
    | some (.list xs) => some xs.length
    | some (.tup xs) => some xs.length
    | _ => none)
  | _ => none

/-- a class whose instances tell their class plainly -/
noncomputable def instOk (C : Nat) : Bool := plainGet K C "__class__" && hasDictIn K C && findIn K (.ref C) "__class__" == some (some (.builtin "object.__class__")) && specialIn K (.builtin "object.__class__") "__get__" == some (some (.builtin "getset_descriptor.__get__")) && takesIn K (.builtin "object.__class__") == some true && mroIn K C (.type "object") == some true
/-- the type of a value, where it is known -/
noncomputable def typeA (v : AV) (st : St) : Option Value := match v with
  | .none => some (.type "NoneType")
  | .bool _ => some (.type "bool")
  | .int _ => some (.type "int")
  | .sint _ => some (.type "int")
  | .str _ => some (.type "str")
  | .bytes _ => some (.type "bytes")
  | .obj i => (match st.get i with
    | some (.inst C _) => (match instOk K C with | true => some (.ref C) | false => none)
    | some (.list _) => some (.type "list")
    | some (.tup _) => some (.type "tuple")
    | some .ed => some (.type "dict")
    | some (.sd _) => some (.type "dict")
    | some (.ps _ _) => some (.type "dict")
    | some (.pi _ _) => some (.type "dict")
    | _ => none)
  | _ => none
noncomputable def clsVal : AV → Option Value
  | .typ n => some (.type n)
  | .prog a => some (.ref a)
  | _ => none
noncomputable def isAny (t : Value) : List AV → Option Bool
  | [] => some false
  | c :: r => match clsVal c with
    | some cv => (match kitOne K t cv with
      | some true => some true
      | some false => isAny t r
      | none => none)
    | none => none
noncomputable def isInstA (v c : AV) (st : St) : Option Bool := match typeA K v st with
  | some t => (match c with
    | .obj i => (match st.get i with | some (.tup xs) => isAny K t xs | _ => none)
    | _ => isAny K t [c])
  | none => none

/-- known entries by a number's name -/
noncomputable def lkI : List (AV × AV) → AV → Option AV
  | [], _ => none
  | (k, v) :: r, x => if k = x then some v else lkI r x

/-- a dict's value by a key, if that is known: none: not known -/
noncomputable def dictGet (o : AO) (key : AV) : Option (Option AV) := match o with
  | .ed => (match key with | .str _ => some none | _ => none)
  | .sd kvs => (match key with | .str x => some (lk kvs x) | _ => none)
  | .ps _ kvs => (match key with | .str x => lk kvs x | _ => none)
  | .pi _ kvs => (match lkI kvs key with | some v => some (some v) | none => none)
  | _ => none
noncomputable def dictSet (o : AO) (key v : AV) : Option AO := match o with
  | .ed => (match key with | .str x => some (.sd [(x, v)]) | _ => none)
  | .sd kvs => (match key with | .str x => (match Nat.blt kvs.length 500 with | true => some (.sd (sk kvs x v)) | false => none) | _ => none)
  | .ps n kvs => (match key with | .str x => (match Nat.blt n 100000 with | true => some (.ps (n + 1) (sk kvs x (some v))) | false => none) | _ => none)
  | .pi n _ => (match key with | .sint j => (match Nat.blt n 100000 with | true => some (.pi (n + 1000) [(.sint j, v)]) | false => none) | _ => none)
  | _ => none

noncomputable def lenB : ClB := ⟨fun args st k => match args with
  | [v] => (match lenA v st with | some n => (match Nat.blt n 10000 with | true => k (.int (Int.ofNat n)) st | false => false) | none => false)
  | _ => false⟩
noncomputable def isiB : ClB := ⟨fun args st k => match args with
  | [v, c] => (match isInstA K v c st with | some r => k (.bool r) st | none => false)
  | _ => false⟩
noncomputable def getB : ClB := ⟨fun args st k => match args with
  | [.obj i, key] => (match st.get i with
    | some o => (match dictGet o key with | some (some v) => k v st | some none => k .none st | none => false)
    | none => false)
  | [.obj i, key, d] => (match st.get i with
    | some o => (match dictGet o key with | some (some v) => k v st | some none => k d st | none => false)
    | none => false)
  | _ => false⟩
noncomputable def appB : ClB := ⟨fun args st k => match args with
  | [.obj i, v] => (match st.get i with
    | some (.list xs) => (match Nat.blt xs.length 1000 with | true => k .none (st.put i (.list (xs ++ [v]))) | false => false)
    | _ => false)
  | _ => false⟩
noncomputable def bltA (id : String) : ClB :=
  if id = "len" then lenB else if id = "isinstance" then isiB K else if id = "dict.get" then getB else if id = "list.append" then appB else ClB.bad
noncomputable def tupB : ClB := ⟨fun args st k => match args with
  | [.obj i] => (match st.get i with
    | some (.list xs) => (match Nat.blt xs.length 1000 with | true => st.al (.tup xs) k | false => false)
    | _ => false)
  | _ => false⟩
noncomputable def strB : ClB := ⟨fun args st k => match args with
  | [.int i] => (match small i with | true => k (.str (Str.ofString (toString i))) st | false => false)
  | _ => false⟩
noncomputable def bytB : ClB := ⟨fun args st k => match args with
  | [.int (.ofNat n)] => (match Nat.blt n 1000 with | true => k (.bytes (List.replicate n 0)) st | false => false)
  | [.bytes b] => k (.bytes b) st
  | _ => false⟩
noncomputable def typA (n : String) : ClB := if n = "tuple" then tupB else if n = "str" then strB else if n = "bytes" then bytB else ClB.bad

noncomputable def getId (name : Str) : Option AV := match sEq name "get" with
  | true => some (.bi "dict.get")
  | false => none
noncomputable def methA (ov : AV) (name : Str) (st : St) : Option AV := match ov with
  | .obj i => (match st.get i with
    | some (.inst C at_) => (match lk at_ name with
      | none => (match methAt K C name with | some f => some (.prog f) | none => none)
      | some _ => none)
    | some (.list _) => (match sEq name "append" with | true => some (.bi "list.append") | false => none)
    | some .ed => getId name
    | some (.sd _) => getId name
    | some (.ps _ _) => getId name
    | some (.pi _ _) => getId name
    | _ => none)
  | _ => none

noncomputable def kindA (sc : Scope) (x : Str) : Option NameKind := sc.names.lookup x

noncomputable def constA : Const → Option AV
  | .none => some .none
  | .bool b => some (.bool b)
  | .int i => some (.int i)
  | .str x => some (.str x)
  | .bytes b => some (.bytes b)
  | _ => none

end

/-- keys that are written texts -/
noncomputable def litKeys : List (Option Expr) → Option (List Str)
  | [] => some []
  | some (.Constant (.str x) _ _) :: r => (match litKeys r with | some xs => some (x :: xs) | none => none)
  | _ :: _ => none

noncomputable def upTo : Nat → Nat → List AV
  | 0, _ => []
  | n + 1, i => .int (i : Int) :: upTo n (i + 1)

/-- the elements of a comprehension, item by item -/
noncomputable def compA (r : Rec) (csc : Scope) (elt : Expr) (x : Str) : List AV → List AV → St → (List AV → St → Bool) → Bool
  | [], acc, st, k => k acc st
  | v :: vs, acc, st, k => r.ev csc elt [(x, v)] st (fun y st => compA r csc elt x vs (acc ++ [y]) st k) (fun _ => false)

section
variable (K : Frag)

noncomputable def noStars : List Expr → Bool
  | [] => true
  | .Starred _ _ :: _ => false
  | _ :: r => noStars r
noncomputable def nameC (sc : Scope) (x : Str) : ClE := match x == "__debug__" with
 | true => ClE.bad
 | false => match kindA sc x with
  | some .local => ⟨fun _ vars st k _ => match lk vars x with | some v => k v st | none => false⟩
  | some .globalImplicit => (match globOf K x with
    | some v => ⟨fun _ _ st k _ => k v st⟩
    | none => ClE.bad)
  | _ => ClE.bad
noncomputable def globAt (sc : Scope) (x : Str) : Option AV := match x == "__debug__" with
 | true => none
 | false => match kindA sc x with
  | some .globalImplicit => globOf K x
  | _ => none
noncomputable def keepA : AV → Bool
  | .prog a => keepIn K (.ref a)
  | .bi _ => true
  | .typ _ => true
  | _ => false
noncomputable def noFirst : AV → List Expr → Bool
  | .prog _, _ => true
  | _, [] => false
  | _, _ => true

/-- several expressions, from left to right -/
noncomputable def evs (sc : Scope) : List Expr → ClL
  | [] => ⟨fun _ _ st k _ => k [] st⟩
  | e :: es => ⟨fun r vars st k kx => r.ev sc e vars st (fun v st => (evs sc es).run r vars st (fun vs st => k (v :: vs) st) kx) kx⟩

noncomputable def constC (c : Const) : ClE := match constA c with
  | some v => ⟨fun _ _ st k _ => k v st⟩
  | none => ClE.bad

noncomputable def callC (sc : Scope) (f : Str) (args : List Expr) : ClE := match globAt K sc f with
  | some fv => (match keepA K fv && noStars args && noFirst fv args with
    | true => ⟨fun r vars st k kx => (evs sc args).run r vars st (fun vs st => r.call fv vs st k kx) kx⟩
    | false => ClE.bad)
  | none => ClE.bad
noncomputable def baseOk : Expr → Bool
  | .Name _ _ => true
  | .Attribute _ _ _ => true
  | .Subscript _ _ _ => true
  | .Call (.Attribute _ _ _) _ _ _ => true
  | .Call (.Name _ _) (_ :: _) _ _ => true
  | _ => false
noncomputable def methC (sc : Scope) (o : Expr) (name : Str) (ap : Pos) (args : List Expr) (pos : Pos) : ClE := match noStars args && baseOk o && (ap.endLine == pos.line) && Nat.blt args.length 30 with
  | true => ⟨fun r vars st k kx => r.ev sc o vars st (fun ov st => match methA K ov name st with
    | some fv => (match keepA K fv && noFirst fv args with
      | true => (evs sc args).run r vars st (fun vs st => r.call fv (ov :: vs) st k kx) kx
      | false => false)
    | none => false) kx⟩
  | false => ClE.bad
noncomputable def isName : Expr → Bool
  | .Name _ _ => true
  | _ => false
noncomputable def subC (sc : Scope) (o i : Expr) : ClE := match i with
  | .Slice (some l) none none _ => ⟨fun r vars st k kx => r.ev sc o vars st (fun ov st => r.ev sc l vars st (fun lv st => sliceA (isName o) ov (some lv) none st k) kx) kx⟩
  | .Slice none (some h) none _ => ⟨fun r vars st k kx => r.ev sc o vars st (fun ov st => r.ev sc h vars st (fun hv st => sliceA (isName o) ov none (some hv) st k) kx) kx⟩
  | .Slice _ _ _ _ => ClE.bad
  | _ => ⟨fun r vars st k kx => r.ev sc o vars st (fun ov st => r.ev sc i vars st (fun iv st => itemA K ov iv st k) kx) kx⟩
noncomputable def cmp1 (sc : Scope) (l : Expr) (op : CmpOp) (x : Expr) : ClE :=
  ⟨fun r vars st k kx => r.ev sc l vars st (fun a st => r.ev sc x vars st (fun b st => (cmpOp K op).run a b st k) kx) kx⟩
noncomputable def cmp2 (sc : Scope) (l : Expr) (op1 op2 : CmpOp) (x y : Expr) : ClE :=
  ⟨fun r vars st k kx => r.ev sc l vars st (fun a st => r.ev sc x vars st (fun b st => (cmpOp K op1).run a b st (fun c st =>
      truthA c fun t => match t with | true => r.ev sc y vars st (fun d st => (cmpOp K op2).run b d st k) kx | false => k c st)) kx) kx⟩
noncomputable def cmpC (sc : Scope) (l : Expr) (ops : List CmpOp) (rs : List Expr) : ClE := match lastMarks ops rs with
  | true => ClE.bad
  | false => match ops with
    | [op] => (match rs with | [x] => cmp1 K sc l op x | _ => ClE.bad)
    | [op1, op2] => (match rs with | [x, y] => cmp2 K sc l op1 op2 x y | _ => ClE.bad)
    | _ => ClE.bad
noncomputable def boolC (sc : Scope) (op : BoolOp) (es : List Expr) (p : Pos) : ClE := match es with
  | [x] => ⟨fun r vars st k kx => r.ev sc x vars st k kx⟩
  | x :: y :: rest => (match op with
    | .And => ⟨fun r vars st k kx => r.ev sc x vars st (fun v st => truthA v fun b => match b with | true => r.ev sc (.BoolOp .And (y :: rest) p) vars st k kx | false => k v st) kx⟩
    | .Or => ⟨fun r vars st k kx => r.ev sc x vars st (fun v st => truthA v fun b => match b with | true => k v st | false => r.ev sc (.BoolOp .Or (y :: rest) p) vars st k kx) kx⟩)
  | [] => ClE.bad
noncomputable def unC (sc : Scope) (op : UnaryOp) (x : Expr) : ClE := match op with
  | .Not => ⟨fun r vars st k kx => r.ev sc x vars st (fun v st => truthA v fun b => k (.bool (!b)) st) kx⟩
  | .USub => ⟨fun r vars st k kx => r.ev sc x vars st (fun v st => match v with | .int i => k (.int (-i)) st | _ => false) kx⟩
  | _ => ClE.bad
noncomputable def ifC (sc : Scope) (t b o : Expr) : ClE :=
  ⟨fun r vars st k kx => r.ts sc t vars st (fun c st => match c with | true => r.ev sc b vars st k kx | false => r.ev sc o vars st k kx) kx⟩
noncomputable def listC (sc : Scope) (es : List Expr) : ClE := match noStars es with
  | true => ⟨fun r vars st k kx => (evs sc es).run r vars st (fun vs st => match Nat.blt vs.length 1000 with | true => st.al (.list vs) k | false => false) kx⟩
  | false => ClE.bad
noncomputable def tupC (sc : Scope) (es : List Expr) : ClE := match noStars es with
  | true => ⟨fun r vars st k kx => (evs sc es).run r vars st (fun vs st => match Nat.blt vs.length 1000 with | true => st.al (.tup vs) k | false => false) kx⟩
  | false => ClE.bad
noncomputable def dictC (sc : Scope) (keys : List (Option Expr)) (vals : List Expr) : ClE := match keys with
  | [] => (match vals with
    | [] => ⟨fun _ _ st k _ => st.al .ed k⟩
    | _ => ClE.bad)
  | _ => (match litKeys keys with
    | some ks => (match Nat.beq ks.length vals.length && Nat.blt ks.length 15 && decide ks.Nodup with
      | true => ⟨fun r vars st k kx => (evs sc vals).run r vars st (fun vs st => st.al (.sd (ks.zip vs)) k) kx⟩
      | false => ClE.bad)
    | none => ClE.bad)
/-- a comprehension's scope: a function's, closing over nothing -/
noncomputable def cscOk (csc : Scope) (x : Str) : Bool := csc.names.all (fun y => decide (y.2 ≠ .free) && decide (y.2 ≠ .cell) && (decide (y.2 ≠ .local) || decide (csc.names.lookup y.1 = some .local))) && decide (csc.kind = .function) && decide (csc.names.lookup x = some .local) && (kindA csc ".0").isSome
noncomputable def lcRange (sc csc : Scope) (elt : Expr) (x : Str) (e : Expr) : ClE :=
  ⟨fun r vars st k kx => r.ev sc e vars st (fun v st => match natOf v with
    | some n => (match Nat.blt n 1000 with | true => compA r csc elt x (upTo n 0) [] st (fun ys st => st.al (.list ys) k) | false => false)
    | none => false) kx⟩
noncomputable def lcTup (sc csc : Scope) (elt : Expr) (x : Str) (e : Expr) : ClE :=
  ⟨fun r vars st k kx => r.ev sc e vars st (fun v st => match v with
    | .obj i => (match st.get i with
      | some (.tup xs) => (match Nat.blt xs.length 1000 with | true => compA r csc elt x xs [] (st.rem i) (fun ys st => St.al { st with objs := (i, .tup xs) :: st.objs } (.list ys) k) | false => false)
      | _ => false)
    | _ => false) kx⟩
noncomputable def isRange (sc : Scope) (g : Str) (e : Expr) : Bool := (match globAt K sc g with | some (.typ n) => decide (n = "range") | _ => false) && noStars [e]
noncomputable def lcC (sc csc : Scope) (elt : Expr) (gs : List Comprehension) : ClE := match (kindA sc ".0").isSome with
 | true => ClE.bad
 | false => match gs with
  | [⟨.Name x _, .Call (.Name g _) [e] [] _, [], 0⟩] => (match isRange K sc g e && cscOk csc x with | true => lcRange sc csc elt x e | false => ClE.bad)
  | [⟨.Name x _, .Name y yp, [], 0⟩] => (match cscOk csc x with | true => lcTup sc csc elt x (.Name y yp) | false => ClE.bad)
  | _ => ClE.bad

/-- an expression -/
noncomputable def evC (sc : Scope) (e : Expr) : ClE := match e with
  | .Name x _ => nameC K sc x
  | .Constant c _ _ => constC c
  | .Call f args kws pos => (match kws with
    | [] => (match f with
      | .Name f _ => callC K sc f args
      | .Attribute o name ap => methC K sc o name ap args pos
      | _ => ClE.bad)
    | _ => ClE.bad)
  | .Attribute o name _ => (match baseOk o with
    | true => ⟨fun r vars st k kx => r.ev sc o vars st (fun ov st => getAttrA K ov name st k) kx⟩
    | false => ClE.bad)
  | .Subscript o i _ => subC K sc o i
  | .Compare l ops rs _ => cmpC K sc l ops rs
  | .BoolOp op es p => boolC sc op es p
  | .UnaryOp op x _ => unC sc op x
  | .BinOp a op b _ => ⟨fun r vars st k kx => r.ev sc a vars st (fun x st => r.ev sc b vars st (fun y st => (binOp op).run x y st k) kx) kx⟩
  | .IfExp t b o _ => ifC sc t b o
  | .List es _ => listC sc es
  | .Tuple es _ _ => tupC sc es
  | .Dict keys vals _ => dictC sc keys vals
  | .ListComp elt gs csc _ => lcC K sc csc elt gs
  | _ => ClE.bad

noncomputable def cmpT1 (sc : Scope) (l : Expr) (op : CmpOp) (x : Expr) : ClT :=
  ⟨fun r vars st k kx => r.ev sc l vars st (fun a st => r.ev sc x vars st (fun b st => (cmpOp K op).run a b st fun c st => truthA c fun t => k t st) kx) kx⟩
noncomputable def cmpT2 (sc : Scope) (l : Expr) (op1 op2 : CmpOp) (x y : Expr) : ClT :=
  ⟨fun r vars st k kx => r.ev sc l vars st (fun a st => r.ev sc x vars st (fun b st => (cmpOp K op1).run a b st (fun c st =>
      truthA c fun t => match t with | true => r.ev sc y vars st (fun d st => (cmpOp K op2).run b d st fun c st => truthA c fun t => k t st) kx | false => k false st)) kx) kx⟩
noncomputable def plainT (sc : Scope) (e : Expr) : ClT := ⟨fun r vars st k kx => r.ev sc e vars st (fun v st => truthA v fun b => k b st) kx⟩
/-- a test -/
noncomputable def tsC (sc : Scope) (e : Expr) : ClT := match e with
  | .BoolOp op es p => (match op with
    | .And => (match es with
      | [] => ⟨fun _ _ st k _ => k true st⟩
      | x :: rest => ⟨fun r vars st k kx => r.ts sc x vars st (fun c st => match c with | true => r.ts sc (.BoolOp .And rest p) vars st k kx | false => k false st) kx⟩)
    | .Or => (match es with
      | [] => ⟨fun _ _ st k _ => k false st⟩
      | x :: rest => ⟨fun r vars st k kx => r.ts sc x vars st (fun c st => match c with | true => k true st | false => r.ts sc (.BoolOp .Or rest p) vars st k kx) kx⟩))
  | .UnaryOp op x _ => (match op with
    | .Not => ⟨fun r vars st k kx => r.ts sc x vars st (fun c st => k (!c) st) kx⟩
    | _ => ClT.bad)
  | .Compare l ops rs _ => (match lastMarks ops rs with
    | true => ClT.bad
    | false => match ops with
      | [op] => (match rs with | [x] => cmpT1 K sc l op x | _ => ClT.bad)
      | [op1, op2] => (match rs with | [x, y] => cmpT2 K sc l op1 op2 x y | _ => ClT.bad)
      | _ => ClT.bad)
  | .Name x p => plainT sc (.Name x p)
  | .Call f a ks p => plainT sc (.Call f a ks p)
  | .Attribute o n p => plainT sc (.Attribute o n p)
  | _ => ClT.bad

noncomputable def setItemA (ov key v : AV) (st : St) (k : St → Bool) : Bool := match ov with
  | .obj i => (match st.get i with
    | some o => (match dictSet o key v with
      | some o' => k (st.put i o')
      | none => false)
    | none => false)
  | _ => false

noncomputable def locA (sc : Scope) (x : Str) : Bool := match kindA sc x with | some .local => true | _ => false
noncomputable def bindNames (sc : Scope) : List Expr → List AV → Vars → Option Vars
  | [], [], vars => some vars
  | .Name x _ :: es, v :: vs, vars => (match locA sc x with | true => bindNames sc es vs ((x, v) :: vars) | false => none)
  | _, _, _ => none

/-- a while, by turns -/
noncomputable def whileA (sc : Scope) (test : Expr) (body : List Stmt) (r : Rec) : Nat → Vars → St → KS → KB → Bool
  | 0, _, _, _, _ => false
  | n + 1, vars, st, kn, kr => r.ts sc test vars st (fun c st => match c with
    | true => r.ex sc body vars st (fun vars st => whileA sc test body r n vars st kn kr) kr (fun _ => false)
    | false => kn vars st) (fun _ => false)

/-- a for over known items, by turns -/
noncomputable def forA (sc : Scope) (x : Str) (body : List Stmt) (r : Rec) : List AV → Vars → St → KS → KB → Bool
  | [], vars, st, kn, _ => kn vars st
  | v :: vs, vars, st, kn, kr => r.ex sc body ((x, v) :: vars) st (fun vars st => forA sc x body r vs vars st kn kr) kr (fun _ => false)
noncomputable def forIt (sc : Scope) (x y : Str) (body : List Stmt) (r : Rec) : List (Str × AV) → Vars → St → KS → KB → Bool
  | [], vars, st, kn, _ => kn vars st
  | (a, v) :: vs, vars, st, kn, kr => r.ex sc body ((y, v) :: (x, .str a) :: vars) st (fun vars st => forIt sc x y body r vs vars st kn kr) kr (fun _ => false)

noncomputable def noComp : Expr → Bool
  | .ListComp _ _ _ _ => false
  | .SetComp _ _ _ _ => false
  | .DictComp _ _ _ _ _ => false
  | _ => true
noncomputable def noTup : Expr → Bool
  | .Tuple _ _ _ => false
  | _ => true
noncomputable def asgC (sc : Scope) (t : Expr) (e : Expr) : ClS := match t with
  | .Name x _ => (match locA sc x with
    | true => ⟨fun r vars st kn _ kx => r.ev sc e vars st (fun v st => kn ((x, v) :: vars) st) kx⟩
    | false => ClS.bad)
  | .Attribute o name _ => ⟨fun r vars st kn _ kx => r.ev sc e vars st (fun v st => r.ev sc o vars st (fun ov st => setAttrA K ov name v st (kn vars)) kx) kx⟩
  | .Subscript o i _ => ⟨fun r vars st kn _ kx => r.ev sc e vars st (fun v st => r.ev sc o vars st (fun ov st => r.ev sc i vars st (fun iv st => setItemA ov iv v st (kn vars)) kx) kx) kx⟩
  | .Tuple es _ _ => (match noTup e with
   | false => ClS.bad
   | true => ⟨fun r vars st kn _ kx => r.ev sc e vars st (fun v st => match v with
    | .obj i => (match st.get i with
      | some (.tup xs) => (match bindNames sc es xs vars with | some vars => kn vars st | none => false)
      | _ => false)
    | _ => false) kx⟩)
  | _ => ClS.bad
noncomputable def forRange (sc : Scope) (x : Str) (e : Expr) (b : List Stmt) : ClS :=
  ⟨fun r vars st kn kr _ => r.ev sc e vars st (fun v st => match natOf v with
    | some n => (match Nat.blt n 1000 with | true => forA sc x b r (upTo n 0) vars st kn kr | false => false)
    | none => false) (fun _ => false)⟩
noncomputable def forList (sc : Scope) (x : Str) (e : Expr) (b : List Stmt) : ClS :=
  ⟨fun r vars st kn kr _ => r.ev sc e vars st (fun v st => match v with
    | .obj i => (match st.get i with
      | some (.list xs) => forA sc x b r xs vars (st.rem i) (fun vars st => kn vars { st with objs := (i, .list xs) :: st.objs }) kr
      | _ => false)
    | _ => false) (fun _ => false)⟩
noncomputable def forItems (sc : Scope) (x y : Str) (o : Expr) (b : List Stmt) : ClS :=
  ⟨fun r vars st kn kr _ => r.ev sc o vars st (fun v st => match v with
    | .obj i => (match st.get i with
      | some (.sd kvs) => forIt sc x y b r kvs vars (st.rem i) (fun vars st => kn vars { st with objs := (i, .sd kvs) :: st.objs }) kr
      | _ => false)
    | _ => false) (fun _ => false)⟩
noncomputable def itemsBase : Expr → Bool
  | .Call (.Name id _) [] [] _ => (id != "super")
  | _ => false
noncomputable def forC (sc : Scope) (t it : Expr) (b : List Stmt) : ClS := match t with
  | .Name x _ => (match locA sc x with
    | true => (match it with
      | .Call (.Name g _) [e] [] _ => (match isRange K sc g e with | true => forRange sc x e b | false => ClS.bad)
      | .Name y yp => forList sc x (.Name y yp) b
      | _ => ClS.bad)
    | false => ClS.bad)
  | .Tuple [.Name x _, .Name y _] _ _ => (match locA sc x && locA sc y with
    | true => (match it with
      | .Call (.Attribute o nm ap) [] [] cp => (match sEq nm "items" && itemsBase o && (ap.endLine == cp.line) with | true => forItems sc x y o b | false => ClS.bad)
      | _ => ClS.bad)
    | false => ClS.bad)
  | _ => ClS.bad
noncomputable def raiseC (sc : Scope) (c : Str) (e : Expr) : ClS :=
  if globAt K sc c = globOf K "PaintFault" then (match noStars [e] with
    | true => ⟨fun r vars st _ _ kx => r.ev sc e vars st (fun v st => match v with | .str _ => kx st | _ => false) kx⟩
    | false => ClS.bad) else ClS.bad

/-- a statement -/
noncomputable def exC (sc : Scope) (s : Stmt) : ClS := match s with
  | .Assign ts e _ => (match ts with
    | [t] => (match noComp e with | true => asgC K sc t e | false => ClS.bad)
    | _ => ClS.bad)
  | .Return v _ => (match v with
    | some e => ⟨fun r vars st _ kr kx => r.ev sc e vars st kr kx⟩
    | none => ClS.bad)
  | .Expr e _ => (match noComp e with | true => ⟨fun r vars st kn _ kx => r.ev sc e vars st (fun _ st => kn vars st) kx⟩ | false => ClS.bad)
  | .If t b o _ => ⟨fun r vars st kn kr kx => r.ts sc t vars st (fun c st => match c with | true => r.ex sc b vars st kn kr kx | false => r.ex sc o vars st kn kr kx) kx⟩
  | .While t b o _ => (match o with
    | [] => ⟨fun r vars st kn kr kx => whileA sc t b r 64 vars st kn kr⟩
    | _ => ClS.bad)
  | .For t it b o _ => (match o with
    | [] => forC K sc t it b
    | _ => ClS.bad)
  | .Raise ex cause _ => (match cause with
    | none => (match ex with
      | some (.Call (.Name c _) [e] [] _) => raiseC K sc c e
      | _ => ClS.bad)
    | _ => ClS.bad)
  | .Pass _ => ⟨fun _ vars st kn _ _ => kn vars st⟩
  | _ => ClS.bad
noncomputable def exsC (sc : Scope) (ss : List Stmt) : ClS := match ss with
  | [] => ⟨fun _ vars st kn _ _ => kn vars st⟩
  | s :: ss => ⟨fun r vars st kn kr kx => (exC K sc s).run r vars st (fun vars st => r.ex sc ss vars st kn kr kx) kr kx⟩

/-- keep what stood before, and tuples -/
noncomputable def keepTups (n : Nat) : List (Nat × AO) → List (Nat × AO)
  | [] => []
  | (k, o) :: rest => match Nat.blt k n with
    | true => (k, o) :: keepTups n rest
    | false => match o with
      | .tup xs => (k, .tup xs) :: keepTups n rest
      | _ => keepTups n rest

noncomputable def penDraw : ClF := ⟨fun _ args st k _ => match args with
  | [.obj i, many] => (match natOf many with
    | some m => (match st.get i with
      | some (.pen n) => (match Nat.blt n 100 && Nat.blt m 100 && Nat.blt 0 m with
        | true => (List.range m).all fun (d : Nat) => k (.int d) (st.put i (.pen (n + 1)))
        | false => false)
      | _ => false)
    | none => false)
  | _ => false⟩

noncomputable def tabOf : AO → Option (Nat × List (AV × AV))
  | .ed => some (1000, [])
  | .pi n kvs => some (n, kvs)
  | _ => none
noncomputable def shelfAdd (refC : Nat) : ClF := ⟨fun r args st k kx => match args with
  | [.obj i, v] => (match st.get i with
    | some (.inst C at_) => (match lk at_ "table" with
      | some (.obj t) => (match st.get t with
        | some o => (match tabOf o with
          | some (b, kvs) => (match Nat.blt b 100000 && attrOk K C "table" with
            | true => frc st.nxt fun n => frc st.nn fun j => r.call (.prog refC) [.sint j, .int 0] { objs := (n, .tup [.int 0, v]) :: putO st.objs t (.pi (b + 1) ((.sint j, .obj n) :: kvs)), nxt := n + 1, nn := j + 1 } k kx
            | false => false)
          | none => false)
        | none => false)
      | _ => false)
    | _ => false)
  | _ => false⟩

noncomputable def toldC : ClF := ⟨fun _ args st k _ => match args with
  | [.none] => st.al (.tup [.str "null"]) k
  | [.obj i] => (match st.get i with
    | some .ed => st.al (.tup [.str "dict"]) k
    | _ => false)
  | _ => false⟩

structure Spc where
  told : Nat
  draw : Nat
  add : Nat
  heard : Nat
  refC : Nat
  fns : List Nat

/-- within a call of heard: what it hands back -/
noncomputable def heardC (h : Nat) : ClF := match fnAt K h with
  | some fd => (match bodyOf fd with
    | [_, .Try [.Assign [.Name _ _] e _] _ _ _ _, _] => ⟨fun r args st k _ => match bindsOf K fd args with
      | some binds => r.ev fd.scope e binds st (fun v st' => k v { st' with objs := keepTups st.nxt st'.objs }) (fun st' => k (.str "refused") { st' with objs := keepTups st.nxt st'.objs })
      | none => false⟩
    | _ => ClF.bad)
  | none => ClF.bad

noncomputable def defC (fd : FuncData) : ClF := ⟨fun r args st k kx => match bindsOf K fd args with
  | some binds => r.ex fd.scope (bodyOf fd) binds st (fun _ st => k .none st) k kx
  | none => false⟩
noncomputable def newC (C : Nat) (fd : FuncData) : ClF := ⟨fun r args st k kx => st.al (.inst C []) fun x st => match bindsOf K fd (x :: args) with
  | some binds => r.ex fd.scope (bodyOf fd) binds st (fun _ st => k x st) (fun _ _ => false) kx
  | none => false⟩

noncomputable def has (l : List Nat) (a : Nat) : Bool := l.any fun b => Nat.beq b a
noncomputable def progC (S : Spc) (a : Nat) : ClF := match Nat.beq a S.draw with
  | true => penDraw
  | false => match Nat.beq a S.add with
    | true => shelfAdd K S.refC
    | false => match Nat.beq a S.told with
      | true => toldC
      | false => (match fnAt K a with
        | some fd => (match has S.fns a && fdOk K fd with
          | true => defC K fd
          | false => ClF.bad)
        | none => (match initAt K a with
          | some f => (match fnAt K f with
            | some fd => (match has S.fns f && fdOk K fd with
              | true => newC K a fd
              | false => ClF.bad)
            | none => ClF.bad)
          | none => ClF.bad))
noncomputable def callA (S : Spc) (r : Rec) (fv : AV) (args : List AV) (st : St) (k : KB) (kx : KX) : Bool := match fv with
  | .bi id => (bltA K id).run args st k
  | .typ n => (typA n).run args st k
  | .prog a => (progC K S a).run r args st k kx
  | _ => false
/-- a call in the law's own frame -/
noncomputable def topC (S : Spc) (a : Nat) : ClF := match Nat.beq a S.heard with
  | true => heardC K a
  | false => progC K S a
noncomputable def callT (S : Spc) (r : Rec) (fv : AV) (args : List AV) (st : St) (k : KB) (kx : KX) : Bool := match fv with
  | .bi id => (bltA K id).run args st k
  | .typ n => (typA n).run args st k
  | .prog a => (topC K S a).run r args st k kx
  | _ => false

noncomputable def stepR (S : Spc) (r : Rec) : Rec := ⟨fun sc e vars st k kx => (evC K sc e).run r vars st k kx, fun sc e vars st k kx => (tsC K sc e).run r vars st k kx, fun sc ss vars st kn kr kx => (exsC K sc ss).run r vars st kn kr kx, fun fv args st k kx => callA K S r fv args st k kx⟩
noncomputable def stepT (S : Spc) (r r1 : Rec) : Rec := ⟨fun sc e vars st k kx => (evC K sc e).run r vars st k kx, fun sc e vars st k kx => (tsC K sc e).run r vars st k kx, fun sc ss vars st kn kr kx => (exsC K sc ss).run r vars st kn kr kx, fun fv args st k kx => callT K S r1 fv args st k kx⟩
end

noncomputable def runR (K : Frag) (S : Spc) : Nat → Rec
  | 0 => Rec.bad
  | n + 1 => stepR K S (runR K S n)
/-- the law's own frame -/
noncomputable def runT (K : Frag) (S : Spc) : Nat → Rec
  | 0 => Rec.bad
  | n + 1 => stepT K S (runT K S n) (runR K S n)
end PH
end
section
open PySem PySem.W PySem.Calls PyProof.Rows
set_option Elab.async false
namespace PH

inductive L2 {α β : Type} (R : α → β → Prop) : List α → List β → Prop
  | nil : L2 R [] []
  | cons {a b l m} : R a b → L2 R l m → L2 R (a :: l) (b :: m)

namespace L2
variable {α β : Type} {R S : α → β → Prop}
theorem mono {l : List α} {m : List β} (h : L2 R l m) (f : ∀ a b, R a b → S a b) : L2 S l m := by
  induction h with
  | nil => exact .nil
  | cons h _ ih => exact .cons (f _ _ h) ih
theorem len {l : List α} {m : List β} (h : L2 R l m) : l.length = m.length := by
  induction h with
  | nil => rfl
  | cons _ _ ih => simp [ih]
theorem get {l : List α} {m : List β} (h : L2 R l m) : ∀ {i : Nat} {a : α}, l[i]? = some a → ∃ b, m[i]? = some b ∧ R a b := by
  induction h with
  | nil => intro i a e; simp at e
  | cons h _ ih =>
    intro i a e
    cases i with
    | zero => simp at e; subst e; exact ⟨_, rfl, h⟩
    | succ i => simp at e; simpa using ih e
theorem app {l l' : List α} {m m' : List β} (h : L2 R l m) (h' : L2 R l' m') : L2 R (l ++ l') (m ++ m') := by
  induction h with
  | nil => exact h'
  | cons h _ ih => exact .cons h ih
theorem drop {l : List α} {m : List β} (h : L2 R l m) : ∀ n, L2 R (l.drop n) (m.drop n) := by
  induction h with
  | nil => intro n; simp; exact .nil
  | cons h t ih =>
    intro n
    cases n with
    | zero => exact .cons h t
    | succ n => simpa using ih n
theorem take {l : List α} {m : List β} (h : L2 R l m) : ∀ n, L2 R (l.take n) (m.take n) := by
  induction h with
  | nil => intro n; simp; exact .nil
  | cons h t ih =>
    intro n
    cases n with
    | zero => exact .nil
    | succ n => simpa using .cons h (ih n)
theorem mem {l : List α} {m : List β} (h : L2 R l m) : ∀ {b : β}, b ∈ m → ∃ a, a ∈ l ∧ R a b := by
  induction h with
  | nil => intro b e; cases e
  | cons h _ ih =>
    intro b e
    rcases List.mem_cons.mp e with rfl | e
    · exact ⟨_, .head _, h⟩
    · obtain ⟨a, x, y⟩ := ih e
      exact ⟨a, .tail _ x, y⟩
end L2

/-- what the letters stand for -/
structure Mp where
  as : List Addr
  ns : List Int
  vs : List Value
  dS : Str → Option Value
  dI : Int → Option Value
structure Mp.le (p q : Mp) : Prop where
  as : ∃ t, q.as = p.as ++ t
  ns : ∃ t, q.ns = p.ns ++ t
  vs : q.vs = p.vs
  dS : q.dS = p.dS
  dI : q.dI = p.dI
theorem Mp.le.refl (p : Mp) : p.le p := ⟨⟨[], by simp⟩, ⟨[], by simp⟩, rfl, rfl, rfl⟩
theorem Mp.le.trans {p q r : Mp} (h : p.le q) (h' : q.le r) : p.le r := by
  obtain ⟨⟨a, ha⟩, ⟨b, hb⟩, c, d, e⟩ := h
  obtain ⟨⟨a', ha'⟩, ⟨b', hb'⟩, c', d', e'⟩ := h'
  exact ⟨⟨a ++ a', by rw [ha', ha]; simp⟩, ⟨b ++ b', by rw [hb', hb]; simp⟩, c'.trans c, d'.trans d, e'.trans e⟩
theorem app_get {α : Type} {l l' : List α} (h : ∃ t, l' = l ++ t) {k : Nat} {a : α} (e : l[k]? = some a) : l'[k]? = some a := by
  obtain ⟨t, rfl⟩ := h
  rw [List.getElem?_append_left (List.getElem?_eq_some_iff.mp e).1]
  exact e
noncomputable def Mp.addA (p : Mp) (a : Addr) : Mp := { p with as := p.as ++ [a] }
noncomputable def Mp.addN (p : Mp) (i : Int) : Mp := { p with ns := p.ns ++ [i] }
theorem Mp.le_addA (p : Mp) (a : Addr) : p.le (p.addA a) := ⟨⟨[a], rfl⟩, ⟨[], by simp [Mp.addA]⟩, rfl, rfl, rfl⟩
theorem Mp.le_addN (p : Mp) (i : Int) : p.le (p.addN i) := ⟨⟨[], by simp [Mp.addN]⟩, ⟨[i], rfl⟩, rfl, rfl, rfl⟩

noncomputable def VRel (p : Mp) : AV → Value → Prop
  | .none, v => v = .none
  | .bool b, v => v = .bool b
  | .int i, v => ∃ t, v = .int i t
  | .sint k, v => ∃ i t, p.ns[k]? = some i ∧ v = .int i t
  | .str x, v => ∃ t, v = .str x t
  | .bytes b, v => ∃ t, v = .bytes b.toArray t
  | .typ n, v => v = .type n
  | .bi n, v => v = .builtin n
  | .prog a, v => v = .ref a
  | .obj k, v => ∃ a, p.as[k]? = some a ∧ v = .ref a
  | .sym k, v => p.vs[k]? = some v ∧ handedIn v = true
theorem VRel.le {p q : Mp} (h : p.le q) {a : AV} {v : Value} (r : VRel p a v) : VRel q a v := by
  cases a with
  | sint k => obtain ⟨i, t, e, hv⟩ := r; exact ⟨i, t, app_get h.ns e, hv⟩
  | obj k => obtain ⟨x, e, hv⟩ := r; exact ⟨x, app_get h.as e, hv⟩
  | sym k => exact ⟨by rw [h.vs]; exact r.1, r.2⟩
  | _ => exact r
theorem VRel.handed {p : Mp} {a : AV} {v : Value} (r : VRel p a v) (h : hAV a = true) : handedIn v = true := by
  cases a with
  | none => cases r; rfl
  | bool b => cases r; rfl
  | int i => obtain ⟨t, rfl⟩ := r; rfl
  | sint k => obtain ⟨i, t, _, rfl⟩ := r; rfl
  | str x => obtain ⟨t, rfl⟩ := r; rfl
  | bytes x => obtain ⟨t, rfl⟩ := r; rfl
  | typ n => cases h
  | bi n => cases h
  | prog a => cases r; rfl
  | obj k => obtain ⟨x, _, rfl⟩ := r; rfl
  | sym k => exact r.2

/-- the entries of an object's dict -/
inductive ARel (w : World) (p : Mp) : List (Str × AV) → List DictEntry → Prop
  | nil : ARel w p [] []
  | cons {n a t v r es} : VRel p a v → ARel w p r es → ARel w p ((n, a) :: r) (⟨PyData.keyHash w.params n, .str n t, v⟩ :: es)
theorem ARel.le {w : World} {p q : Mp} (h : p.le q) {l : List (Str × AV)} {es : List DictEntry} (r : ARel w p l es) : ARel w q l es := by
  induction r with
  | nil => exact .nil
  | cons x _ ih => exact .cons (x.le h) ih
theorem ARel.len {w : World} {p : Mp} {l : List (Str × AV)} {es : List DictEntry} (r : ARel w p l es) : l.length = es.length := by
  induction r with
  | nil => rfl
  | cons x _ ih => simp [ih]
theorem ARel.noRef {w : World} {p : Mp} {l : List (Str × AV)} {es : List DictEntry} (r : ARel w p l es) : (es.any fun x => x.refKey) = false := by
  induction r with
  | nil => rfl
  | cons x _ ih => rw [List.any_cons, ih]; rfl
theorem sEq_iff {a b : Str} : sEq a b = true ↔ a = b := by unfold sEq; exact decide_eq_true_iff
theorem sEq_self (a : Str) : sEq a a = true := sEq_iff.mpr rfl
theorem sEq_ne {a b : Str} (h : sEq a b = false) : a ≠ b := fun e => by rw [sEq_iff.mpr e] at h; cases h
theorem str_isStr (n x : Str) (t : Tok) : (Value.str n t).isStr x = sEq n x := by
  show (n == x) = decide (n = x)
  by_cases h : n = x
  · simp [h]
  · simp [h]
theorem ARel.getL {w : World} {p : Mp} {x : Str} {l : List (Str × AV)} {es : List DictEntry} (r : ARel w p l es) :
    match lk l x with
    | some a => ∃ v, PySem.W.getL x es = some (some v) ∧ VRel p a v
    | none => PySem.W.getL x es = some none := by
  unfold PySem.W.getL
  have hn := r.noRef
  rw [hn]
  clear hn
  induction r with
  | nil => rfl
  | @cons n a t v r es hv _ ih =>
    unfold lk
    rw [List.find?_cons]
    dsimp only
    rw [str_isStr]
    cases e : sEq n x with
    | true => exact ⟨v, rfl, hv⟩
    | false => exact ih
theorem putL_nil (x : Str) (hs : Int) (key v : Value) : putL x hs key v [] = [⟨hs, key, v⟩] := rfl
theorem putL_cons (x : Str) (hs : Int) (key v : Value) (e : DictEntry) (r : List DictEntry) : putL x hs key v (e :: r) = if e.key.isStr x then { e with val := v } :: r else e :: putL x hs key v r := rfl
theorem ARel.put {w : World} {p : Mp} {x : Str} {a : AV} {v : Value} {t : Tok} (hv : VRel p a v) {l : List (Str × AV)} {es : List DictEntry} (r : ARel w p l es) :
    ARel w p (sk l x a) (putL x (PyData.keyHash w.params x) (.str x t) v es) := by
  induction r with
  | nil => exact .cons hv .nil
  | @cons n a' t' v' r es hv' hr ih =>
    rw [putL_cons]
    unfold sk
    dsimp only
    rw [str_isStr]
    cases e : sEq n x with
    | true => exact .cons hv hr
    | false => exact .cons hv' ih

section
variable (prog : Program) (w : World) (p : Mp)

noncomputable def SKRel (a : Str × AV) (b : Str × Value) : Prop := a.1 = b.1 ∧ VRel p a.2 b.2
noncomputable def tupOf (vs : List Value) : Obj := { cls := .type "tuple", data := .seq vs.toArray }
noncomputable def keyI : AV → Option Int
  | .int i => some i
  | .sint k => p.ns[k]?
  | _ => none

structure PenOk (n : Nat) (sp gr : Int) (ns : List Int) : Prop where
  len : ns.length ≤ 63
  bits : ∀ i ∈ ns, Nat.log2 i.natAbs ≤ 2 ^ 21
  sp0 : 0 ≤ sp
  spn : sp ≤ n
  gr0 : 0 ≤ gr
  grb : Nat.log2 gr.natAbs ≤ 2 ^ 21

noncomputable def ORel (k : Nat) : AO → List (Addr × Obj) → Prop
  | .inst C l, b => ∃ x dx es n, p.as[k]? = some x ∧ b = [(x, instObj C dx), (dx, dictOf es n)] ∧ ARel w p l es
  | .list xs, b => ∃ x vs n, p.as[k]? = some x ∧ b = [(x, PySem.W.listOf vs.toArray n)] ∧ L2 (VRel p) xs vs
  | .tup xs, b => ∃ x vs, p.as[k]? = some x ∧ b = [(x, tupOf vs)] ∧ L2 (VRel p) xs vs
  | .ed, b => ∃ x o, p.as[k]? = some x ∧ b = [(x, o)] ∧ Obj.IsDictOf (PySem.strKind prog w) o [] ∧ Obj.IsDictOf (PySem.intKind prog w) o [] ∧ (x == sysModules) = false
  | .sd kvs, b => ∃ x o l, p.as[k]? = some x ∧ b = [(x, o)] ∧ Obj.IsDictOf (PySem.strKind prog w) o l ∧ L2 (SKRel p) kvs l ∧ (x == sysModules) = false
  | .ps N kvs, b => ∃ x o l, p.as[k]? = some x ∧ b = [(x, o)] ∧ Obj.IsDictOf (PySem.strKind prog w) o l ∧ (x == sysModules) = false ∧ l.length ≤ N ∧
      ∀ x, match lk kvs x with
        | some (some a) => ∃ v, valueAt l x = some v ∧ VRel p a v
        | some none => valueAt l x = none
        | none => valueAt l x = p.dS x
  | .pi N kvs, b => ∃ x o l, p.as[k]? = some x ∧ b = [(x, o)] ∧ Obj.IsDictOf (PySem.intKind prog w) o l ∧ (x == sysModules) = false ∧ l.length ≤ N ∧
      (∀ q ∈ kvs, ∃ i v, keyI p q.1 = some i ∧ valueAt l i = some v ∧ VRel p q.2 v) ∧ (N < 1000 → ∀ i v, p.dI i = some v → valueAt l i = some v)
  | .pen n, b => ∃ x l sp gr t u e vs e' ns, p.as[k]? = some x ∧ b = [(x, PySem.W.listOf #[.ref l, .int sp t, .int gr u] e), (l, PySem.W.listOf vs.toArray e')] ∧ IntsAre vs ns ∧ PenOk n sp gr ns

inductive HRel : List (Nat × AO) → List (Addr × Obj) → Prop
  | nil : HRel [] []
  | cons {k o b os led} : ORel prog w p k o b → HRel os led → HRel ((k, o) :: os) (b ++ led)
end

section
variable {prog : Program} {w : World} {p q : Mp}
theorem SKRel.le (h : p.le q) {a : Str × AV} {b : Str × Value} (r : SKRel p a b) : SKRel q a b := ⟨r.1, r.2.le h⟩
theorem keyI.le (h : p.le q) {a : AV} {i : Int} (r : keyI p a = some i) : keyI q a = some i := by
  cases a <;> try exact r
  exact app_get h.ns r
theorem ORel.le (h : p.le q) {k : Nat} {o : AO} {b : List (Addr × Obj)} (r : ORel prog w p k o b) : ORel prog w q k o b := by
  cases o with
  | inst C l => obtain ⟨x, dx, es, n, e, hb, a⟩ := r; exact ⟨x, dx, es, n, app_get h.as e, hb, a.le h⟩
  | list xs => obtain ⟨x, vs, n, e, hb, a⟩ := r; exact ⟨x, vs, n, app_get h.as e, hb, a.mono fun _ _ z => z.le h⟩
  | tup xs => obtain ⟨x, vs, e, hb, a⟩ := r; exact ⟨x, vs, app_get h.as e, hb, a.mono fun _ _ z => z.le h⟩
  | ed => obtain ⟨x, o, e, r⟩ := r; exact ⟨x, o, app_get h.as e, r⟩
  | sd kvs => obtain ⟨x, o, l, e, hb, d, a, n⟩ := r; exact ⟨x, o, l, app_get h.as e, hb, d, a.mono fun _ _ z => z.le h, n⟩
  | ps N kvs =>
    obtain ⟨x, o, l, e, hb, d, n, sz, a⟩ := r
    refine ⟨x, o, l, app_get h.as e, hb, d, n, sz, fun z => ?_⟩
    have := a z
    split at this <;> rename_i y
    · obtain ⟨v, e1, e2⟩ := this; exact ⟨v, e1, e2.le h⟩
    · exact this
    · rw [h.dS]; exact this
  | pi N kvs =>
    obtain ⟨x, o, l, e, hb, d, n, sz, a, b⟩ := r
    exact ⟨x, o, l, app_get h.as e, hb, d, n, sz, fun z hz => let ⟨i, v, a1, a2, a3⟩ := a z hz; ⟨i, v, keyI.le h a1, a2, a3.le h⟩, by rw [h.dI]; exact b⟩
  | pen n =>
    obtain ⟨x, l, sp, gr, t, u, e, vs, e', ns, h1, r⟩ := r
    exact ⟨x, l, sp, gr, t, u, e, vs, e', ns, app_get h.as h1, r⟩
theorem HRel.le (h : p.le q) {os : List (Nat × AO)} {led : List (Addr × Obj)} (r : HRel prog w p os led) : HRel prog w q os led := by
  induction r with
  | nil => exact .nil
  | cons x _ ih => exact .cons (x.le h) ih

theorem HRel.at {os : List (Nat × AO)} {led : List (Addr × Obj)} (r : HRel prog w p os led) {i : Nat} {o : AO} (e : getO os i = some o) :
    ∃ b pre post, led = pre ++ (b ++ post) ∧ ORel prog w p i o b ∧ (∀ o' b', ORel prog w p i o' b' → HRel prog w p (putO os i o') (pre ++ (b' ++ post))) ∧ HRel prog w p (remO os i) (pre ++ post) := by
  induction r with
  | nil => cases e
  | @cons k o₁ b₁ os led hb hr ih =>
    unfold getO at e
    cases z : Nat.beq k i with
    | true =>
      rw [z] at e
      cases e
      have hk : k = i := Nat.eq_of_beq_eq_true z
      subst hk
      refine ⟨b₁, [], led, rfl, hb, fun o' b' h' => ?_, ?_⟩
      · unfold putO
        rw [z]
        show HRel prog w p ((k, o') :: os) (b' ++ led)
        exact HRel.cons h' hr
      · unfold remO
        rw [z]
        exact hr
    | false =>
      rw [z] at e
      obtain ⟨b, pre, post, hl, ho, hput, hrem⟩ := ih e
      refine ⟨b, b₁ ++ pre, post, by rw [hl]; simp, ho, fun o' b' h' => ?_, ?_⟩
      · unfold putO
        rw [z]
        have := HRel.cons hb (hput o' b' h')
        simpa using this
      · unfold remO
        rw [z]
        have := HRel.cons hb hrem
        simpa using this
end

theorem upd_of {d : Addr} {o o' : Obj} : ∀ {pre post : List (Addr × Obj)}, ((pre ++ (d, o) :: post).map (·.1)).Nodup → Upd d o o' (pre ++ (d, o) :: post) (pre ++ (d, o') :: post)
  | [], post, h => .head fun p hp => by
    rw [List.nil_append, List.map_cons, List.nodup_cons] at h
    exact fun q => h.1 (List.mem_map.mpr ⟨p, hp, q⟩)
  | p :: pre, post, h => by
    rw [List.cons_append, List.map_cons, List.nodup_cons] at h
    exact .tail (fun q => h.1 (by rw [q]; simp)) (upd_of h.2)
theorem updF_of {d : Addr} {o : Obj} : ∀ {pre post : List (Addr × Obj)}, ((pre ++ (d, o) :: post).map (·.1)).Nodup → UpdF d o (pre ++ (d, o) :: post) (fun o' => pre ++ (d, o') :: post)
  | [], post, h => .head fun p hp => by
    rw [List.nil_append, List.map_cons, List.nodup_cons] at h
    exact fun q => h.1 (List.mem_map.mpr ⟨p, hp, q⟩)
  | p :: pre, post, h => by
    rw [List.cons_append, List.map_cons, List.nodup_cons] at h
    exact .tail (fun q => h.1 (by rw [q]; simp)) (updF_of h.2)

/-- the place of a call: what does not change -/
structure Cx where
  A : Around
  A₀ : Around
  base : Heap
  h₀ : Heap
  outer : List Env
  L : Addr
  cn : Str
  cs : Scope
  a : Addr
  ccd : Value
  X : List (Addr × Obj)
noncomputable abbrev Cx.env (c : Cx) : Env := envOf c.cn c.cs c.L c.a c.ccd

structure CxOK (K : Frag) (pr : Program) (lo : List Str) (mean : ExcName → Option Value) (mg mb : Str → Option Value) (lv : Bool) (n : Nat) (c : Cx) : Prop where
  B : Below c.A₀ c.base c.outer c.h₀
  X : K.In c.h₀
  T : Top pr lo mean mg mb c.h₀
  fr : c.A.frames = some (c.env :: c.outer)
  hh : c.A.handled = none
  hd : c.A.depth + 2 * n + 10 < recursionLimit
  hu : c.A.units + 10 * n + 200 < cLine
  ck : c.cs.kind = .function
  lo : lv = true → c.outer = [] ∧ K.In c.base ∧ Top pr lo mean mg mb c.base
theorem CxOK.less {K : Frag} {pr : Program} {lo : List Str} {mean : ExcName → Option Value} {mg mb : Str → Option Value} {lv : Bool} {n : Nat} {c : Cx} (h : CxOK K pr lo mean mg mb lv (n + 1) c) : CxOK K pr lo mean mg mb lv n c :=
  ⟨h.B, h.X, h.T, h.fr, h.hh, by have := h.hd; omega, by have := h.hu; omega, h.ck, h.lo⟩
theorem CxOK.low {K : Frag} {pr : Program} {lo : List Str} {mean : ExcName → Option Value} {mg mb : Str → Option Value} {lv : Bool} {n : Nat} {c : Cx} (h : CxOK K pr lo mean mg mb lv n c) : CxOK K pr lo mean mg mb false n c :=
  ⟨h.B, h.X, h.T, h.fr, h.hh, h.hd, h.hu, h.ck, fun q => by cases q⟩

noncomputable def Sm (s s' : Shared) : Prop := s' = { s with heap := s'.heap, toks := s'.toks }
theorem Sm.refl (s : Shared) : Sm s s := rfl
theorem Sm.mk (s : Shared) (h : Heap) (t : Nat) : Sm s { heap := h, gens := s.gens, drawn := s.drawn, toks := t, os := s.os } := rfl
theorem Sm.trans {s s' s'' : Shared} (a : Sm s s') (b : Sm s' s'') : Sm s s'' := by
  unfold Sm at *
  rw [b, a]

structure Fm (prog : Program) (w : World) (c : Cx) (m : Str → Option Value) (h : Heap) (st : St) (p : Mp) (led : List (Addr × Obj)) : Prop where
  F : Fr c.h₀ c.L h m
  N : News c.h₀ c.L h (c.X ++ led)
  nd : ((c.X ++ led).map (·.1)).Nodup
  H : HRel prog w p st.objs led
  na : p.as.length = st.nxt
  nn : p.ns.length = st.nn

section
variable {prog : Program} {w : World} {c : Cx} {m : Str → Option Value} {h : Heap} {st : St} {p : Mp} {led : List (Addr × Obj)}
theorem Fm.lt (f : Fm prog w c m h st p led) : ∀ x ∈ c.X ++ led, x.1 < h.objs.size := fun x hx => Heap.lt_size (f.N x hx).1

/-- an object of the state, in the ledger -/
theorem Fm.at (f : Fm prog w c m h st p led) {i : Nat} {o : AO} (e : st.get i = some o) :
    ∃ b pre post, c.X ++ led = (c.X ++ pre) ++ (b ++ post) ∧ ORel prog w p i o b ∧ (∀ o' b', ORel prog w p i o' b' → HRel prog w p (st.put i o').objs (pre ++ (b' ++ post))) := by
  obtain ⟨b, pre, post, hl, ho, hp, _⟩ := f.H.at e
  exact ⟨b, pre, post, by rw [hl]; simp, ho, hp⟩
end

noncomputable def VarsRel (p : Mp) (vars : Vars) (m : Str → Option Value) : Prop := ∀ x a, lk vars x = some a → ∃ v, m x = some v ∧ VRel p a v
theorem VarsRel.le {p q : Mp} (h : p.le q) {vars : Vars} {m : Str → Option Value} (r : VarsRel p vars m) : VarsRel q vars m :=
  fun x a e => let ⟨v, h1, h2⟩ := r x a e; ⟨v, h1, h2.le h⟩
theorem VarsRel.set {p : Mp} {vars : Vars} {m : Str → Option Value} (r : VarsRel p vars m) {x : Str} {a : AV} {v : Value} (h : VRel p a v) :
    VarsRel p ((x, a) :: vars) (fun y => if y = x then some v else m y) := by
  intro y b e
  unfold lk at e
  cases q : sEq x y with
  | true =>
    rw [q] at e
    cases e
    rw [sEq_iff] at q
    subst q
    exact ⟨v, by simp, h⟩
  | false =>
    rw [q] at e
    obtain ⟨u, h1, h2⟩ := r y b e
    exact ⟨u, by simp [Ne.symm (sEq_ne q), h1], h2⟩
end PH
end
section
open PySem PySem.W PySem.Calls PyProof.Rows
set_option Elab.async false
set_option maxRecDepth 100000
namespace PH

structure NewX (h h' : Heap) (e : Addr) (cls : Value) : Prop where
  new : h.get? e = none
  keeps : ∀ b o, h.get? b = some o → h'.get? b = some o
  there : ∃ ob vs a0, h'.get? e = some ob ∧ ob.cls = cls ∧ ob.data = .fields vs ∧ vs[1]? = some .none ∧ vs[0]? = some a0

noncomputable def RaisedM (base G : Heap) (l : List Env) (e : Addr) (cls : Value) (news : List (Addr × Obj)) (h : Heap) : Prop :=
  ∃ B a0, base.StaysIn B ∧ (∀ b o, G.get? b = some o → b ∉ l.filterMap (·.frame) → B.get? b = some o) ∧ (∀ q ∈ news, B.get? q.1 = some q.2 ∧ G.get? q.1 = none ∧ base.get? q.1 = none) ∧ Heap.FlyingW B l e cls a0 h
theorem RaisedM.sub {base G : Heap} {l : List Env} {e : Addr} {cls : Value} {news news' : List (Addr × Obj)} {h : Heap} (R : RaisedM base G l e cls news h) (s : ∀ q ∈ news', q ∈ news) : RaisedM base G l e cls news' h := by
  obtain ⟨B, a0, h1, h2, h3, h4⟩ := R
  exact ⟨B, a0, h1, h2, fun q hq => h3 q (s q hq), h4⟩

structure Exc (prog : Program) (w : World) (PF : Addr) (c : Cx) (p : Mp) (st : St) (h : Heap) (e : Addr) : Prop where
  of : ∃ p' led, p.le p' ∧ HRel prog w p' st.objs led ∧ ((c.X ++ led).map (·.1)).Nodup ∧ p'.as.length = st.nxt ∧ p'.ns.length = st.nn ∧
    ((∃ g m, NewX g h e (.ref PF) ∧ Fr c.h₀ c.L g m ∧ News c.h₀ c.L g (c.X ++ led)) ∨
     (∃ G m, Fr c.h₀ c.L G m ∧ RaisedM c.base G (c.env :: c.outer) e (.ref PF) (c.X ++ led) h ∧ G.UpToSlots h))

section
variable (prog : Program) (w : World) (PF : Addr)

noncomputable def XPost (c : Cx) (p : Mp) (kx : KX) (E : Value → Shared → Prop) (s : Shared) : Prop :=
  ∀ st' s' e, kx st' = true → Sm s s' → Exc prog w PF c p st' s'.heap e → E (.ref e) s'
noncomputable def Post {α β : Type} (R : Mp → α → β → Prop) (c : Cx) (m : Str → Option Value) (p : Mp) (k : α → St → Bool) (Q : β → Shared → Prop) (s : Shared) : Prop :=
  ∀ x st' y s' p' led', k x st' = true → Sm s s' → p.le p' → R p' x y → Fm prog w c m s'.heap st' p' led' → Q y s'
noncomputable def NPost (c : Cx) (p : Mp) (kn : KS) (Q : Flow → Shared → Prop) (s : Shared) : Prop :=
  ∀ vars st' m' s' p' led', kn vars st' = true → Sm s s' → p.le p' → VarsRel p' vars m' → Fm prog w c m' s'.heap st' p' led' → Q .next s'
noncomputable def RPost (c : Cx) (p : Mp) (kr : KB) (Q : Flow → Shared → Prop) (s : Shared) : Prop :=
  ∀ a st' v m' s' p' led', kr a st' = true → Sm s s' → p.le p' → VRel p' a v → Fm prog w c m' s'.heap st' p' led' → Q (.ret v) s'
end

section
variable {prog : Program} {w : World} {PF : Addr} {c : Cx} {p p1 : Mp} {s s1 : Shared} {m : Str → Option Value} {E : Value → Shared → Prop}
theorem Exc.le {st : St} {h : Heap} {e : Addr} (x : Exc prog w PF c p1 st h e) (l : p.le p1) : Exc prog w PF c p st h e := by
  obtain ⟨p', led, h1, h2⟩ := x.of
  exact ⟨p', led, l.trans h1, h2⟩
theorem XPost.step {kx : KX} (h : XPost prog w PF c p kx E s) (l : p.le p1) (sm : Sm s s1) : XPost prog w PF c p1 kx E s1 :=
  fun st' s' e hk hs hx => h st' s' e hk (sm.trans hs) (hx.le l)
theorem XPost.never : XPost prog w PF c p (fun _ => false) E s := fun _ _ _ h => by cases h
theorem Post.step {α β : Type} {R : Mp → α → β → Prop} {k : α → St → Bool} {Q : β → Shared → Prop} (h : Post prog w R c m p k Q s) (l : p.le p1) (sm : Sm s s1) : Post prog w R c m p1 k Q s1 :=
  fun x st' y s' p' led' hk hs hl hr hf => h x st' y s' p' led' hk (sm.trans hs) (l.trans hl) hr hf
theorem NPost.step {kn : KS} {Q : Flow → Shared → Prop} (h : NPost prog w c p kn Q s) (l : p.le p1) (sm : Sm s s1) : NPost prog w c p1 kn Q s1 :=
  fun vars st' m' s' p' led' hk hs hl hr hf => h vars st' m' s' p' led' hk (sm.trans hs) (l.trans hl) hr hf
theorem RPost.step {kr : KB} {Q : Flow → Shared → Prop} (h : RPost prog w c p kr Q s) (l : p.le p1) (sm : Sm s s1) : RPost prog w c p1 kr Q s1 :=
  fun a st' v m' s' p' led' hk hs hl hr hf => h a st' v m' s' p' led' hk (sm.trans hs) (l.trans hl) hr hf
end

/-- the text that an expression stands in: a def's own, or a comprehension's block -/
inductive EnvK (c : Cx) : Env → Scope → (Str → Option Value) → (Str → Option Value) → Prop
  | fn {m : Str → Option Value} : EnvK c c.env c.cs m m
  | comp {csc : Scope} {C : Addr} {oC : Obj} {m m₂ : Str → Option Value} : (C, oC) ∈ c.X → LCg.NsObj oC m₂ → csc.kind = .function → (kindA csc ".0").isSome = true → EnvK c (compEnvC csc [] C c.env) csc m m₂

section
variable (prog : Program) (w : World) (PF : Addr) (K : Frag) (pr : Program) (lo : List Str) (mean : ExcName → Option Value) (mg mb : Str → Option Value) (lv : Bool)

noncomputable abbrev RV : Mp → AV → Value → Prop := VRel
noncomputable abbrev RL : Mp → List AV → List Value → Prop := fun p => L2 (VRel p)
noncomputable abbrev RB : Mp → Bool → Bool → Prop := fun _ a b => a = b

noncomputable def EvOK (n : Nat) (f : Vars → St → KB → KX → Bool) (e : Expr) (sc : Scope) : Prop :=
  ∀ (vars : Vars) (st : St) (k : KB) (kx : KX), f vars st k kx = true → ∀ (c : Cx) (env : Env) (m mv : Str → Option Value) (s : Shared) (p : Mp) (led : List (Addr × Obj)) (Q : Value → Shared → Prop) (E : Value → Shared → Prop),
    CxOK K pr lo mean mg mb lv n c → EnvK c env sc m mv → VarsRel p vars mv → Fm prog w c m s.heap st p led → Post prog w RV c m p k Q s → XPost prog w PF c p kx E s →
    wpAny (model prog w) c.A (eval e env) Q E s
noncomputable def LsOK (n : Nat) (f : Vars → St → (List AV → St → Bool) → KX → Bool) (es : List Expr) (sc : Scope) : Prop :=
  ∀ (vars : Vars) (st : St) (k : List AV → St → Bool) (kx : KX), f vars st k kx = true → ∀ (c : Cx) (env : Env) (m mv : Str → Option Value) (s : Shared) (p : Mp) (led : List (Addr × Obj)) (Q : List Value → Shared → Prop) (E : Value → Shared → Prop) (pos : Pos),
    CxOK K pr lo mean mg mb lv n c → EnvK c env sc m mv → VarsRel p vars mv → Fm prog w c m s.heap st p led → Post prog w RL c m p k Q s → XPost prog w PF c p kx E s →
    wpAny (model prog w) c.A (spliced (backTo pos (starEach es env))) Q E s
noncomputable def TsOK (n : Nat) (f : Vars → St → (Bool → St → Bool) → KX → Bool) (e : Expr) (sc : Scope) : Prop :=
  ∀ (vars : Vars) (st : St) (k : Bool → St → Bool) (kx : KX), f vars st k kx = true → ∀ (c : Cx) (env : Env) (m mv : Str → Option Value) (s : Shared) (p : Mp) (led : List (Addr × Obj)) (Q : Bool → Shared → Prop) (E : Value → Shared → Prop),
    CxOK K pr lo mean mg mb lv n c → EnvK c env sc m mv → VarsRel p vars mv → Fm prog w c m s.heap st p led → Post prog w RB c m p k Q s → XPost prog w PF c p kx E s →
    wpAny (model prog w) c.A (PySem.isTrue e env (eval e env)) Q E s
noncomputable def ExOK (n : Nat) (f : Vars → St → KS → KB → KX → Bool) (ss : List Stmt) (sc : Scope) : Prop :=
  ∀ (vars : Vars) (st : St) (kn : KS) (kr : KB) (kx : KX), f vars st kn kr kx = true → ∀ (c : Cx) (m : Str → Option Value) (s : Shared) (p : Mp) (led : List (Addr × Obj)) (Q : Flow → Shared → Prop) (E : Value → Shared → Prop),
    CxOK K pr lo mean mg mb lv n c → c.cs = sc → VarsRel p vars m → Fm prog w c m s.heap st p led → NPost prog w c p kn Q s → RPost prog w c p kr Q s → XPost prog w PF c p kx E s →
    wpAny (model prog w) c.A (execs ss c.env) Q E s
noncomputable def StOK (n : Nat) (f : Vars → St → KS → KB → KX → Bool) (t : Stmt) (sc : Scope) : Prop :=
  ∀ (vars : Vars) (st : St) (kn : KS) (kr : KB) (kx : KX), f vars st kn kr kx = true → ∀ (c : Cx) (m : Str → Option Value) (s : Shared) (p : Mp) (led : List (Addr × Obj)) (Q : Flow → Shared → Prop) (E : Value → Shared → Prop),
    CxOK K pr lo mean mg mb lv n c → c.cs = sc → VarsRel p vars m → Fm prog w c m s.heap st p led → NPost prog w c p kn Q s → RPost prog w c p kr Q s → XPost prog w PF c p kx E s →
    wpAny (model prog w) c.A (exec t c.env) Q E s
noncomputable def CaOK (n : Nat) (f : List AV → St → KB → KX → Bool) (g : Value) : Prop :=
  ∀ (as : List AV) (st : St) (k : KB) (kx : KX), f as st k kx = true → ∀ (c : Cx) (m : Str → Option Value) (s : Shared) (p : Mp) (led : List (Addr × Obj)) (vs : List Value) (Q : Value → Shared → Prop) (E : Value → Shared → Prop),
    CxOK K pr lo mean mg mb lv n c → L2 (VRel p) as vs → Fm prog w c m s.heap st p led → Post prog w RV c m p k Q s → XPost prog w PF c p kx E s →
    wpAny (model prog w) c.A (call g vs) Q E s
/-- a value that may be called: what it is, for every map -/
noncomputable def fVal : AV → Option Value
  | .prog a => some (.ref a)
  | .bi n => some (.builtin n)
  | .typ n => some (.type n)
  | _ => none

structure RecOK (n : Nat) (r : Rec) : Prop where
  ev : ∀ sc e, EvOK prog w PF K pr lo mean mg mb lv n (r.ev sc e) e sc
  ts : ∀ sc e, TsOK prog w PF K pr lo mean mg mb lv n (r.ts sc e) e sc
  ex : ∀ sc ss, ExOK prog w PF K pr lo mean mg mb lv n (r.ex sc ss) ss sc
  call : ∀ fv g, fVal fv = some g → CaOK prog w PF K pr lo mean mg mb lv n (r.call fv) g
theorem RecOK.bad (n : Nat) : RecOK prog w PF K pr lo mean mg mb lv n Rec.bad :=
  ⟨fun _ _ _ _ _ _ h => (by cases h), fun _ _ _ _ _ _ h => (by cases h), fun _ _ _ _ _ _ _ h => (by cases h), fun _ _ _ _ _ _ _ h => (by cases h)⟩
end

theorem VRel.of_fVal {fv : AV} {g : Value} (h : fVal fv = some g) (p : Mp) : VRel p fv g := by
  cases fv <;> first | (cases h; rfl) | cases h
theorem vrel_avOf (p : Mp) {v : Value} (h : avOk v = true) : VRel p (avOf v) v := by
  cases v <;> first | rfl | exact ⟨_, rfl⟩ | cases h | skip

section
variable {prog : Program} {w : World} {PF : Addr} {K : Frag} {pr : Program} {lo : List Str} {mean : ExcName → Option Value} {mg mb : Str → Option Value} {lv : Bool}
variable {c : Cx} {p : Mp} {s : Shared} {m mv : Str → Option Value} {E : Value → Shared → Prop} {led : List (Addr × Obj)} {st : St} {env : Env} {sc : Scope} {n : Nat}

theorem CxOK.top (h : CxOK K pr lo mean mg mb lv n c) : TopRead pr lo mg mb c.h₀ := topRead_of h.T

/-- a constant of the state's own: nothing turns -/
theorem Post.here {α β : Type} {R : Mp → α → β → Prop} {k : α → St → Bool} {Q : β → Shared → Prop} (h : Post prog w R c m p k Q s) {x : α} {y : β} (hk : k x st = true) (hr : R p x y) (hf : Fm prog w c m s.heap st p led) : Q y s :=
  h x st y s p led hk (Sm.refl s) (Mp.le.refl p) hr hf
theorem Post.toks {α β : Type} {R : Mp → α → β → Prop} {k : α → St → Bool} {Q : β → Shared → Prop} (h : Post prog w R c m p k Q s) {x : α} {y : β} {t : Nat} (hk : k x st = true) (hr : R p x y) (hf : Fm prog w c m s.heap st p led) :
    Q y { heap := s.heap, gens := s.gens, drawn := s.drawn, toks := t, os := s.os } :=
  h x st y _ p led hk (Sm.mk s _ _) (Mp.le.refl p) hr hf

theorem relabel_lookup {env : Env} {kd : NameKind} (hkd : (kd == NameKind.free) = false) : ∀ {names : List (Str × NameKind)} {x : Str}, names.lookup x = some kd →
    (names.map fun (n, k) => if (k == NameKind.free && env.scope.kind == .function && env.kindOf n == some .cell) then (n, NameKind.cell) else (n, k)).lookup x = some kd
  | [], _, h => by simp at h
  | (n, k) :: r, x, h => by
    have ih := @relabel_lookup env kd hkd r x
    show List.lookup x ((if (k == NameKind.free && env.scope.kind == .function && env.kindOf n == some .cell) = true then (n, NameKind.cell) else (n, k)) :: _) = _
    cases hx : x == n with
    | true =>
      simp only [List.lookup_cons, hx] at h
      cases h
      rw [if_neg (by rw [hkd]; simp)]
      simp [List.lookup_cons, hx]
    | false =>
      simp only [List.lookup_cons, hx] at h
      by_cases hc : (k == NameKind.free && env.scope.kind == .function && env.kindOf n == some .cell) = true
      · rw [if_pos hc]; simp only [List.lookup_cons, hx]; exact ih h
      · rw [if_neg hc]; simp only [List.lookup_cons, hx]; exact ih h

theorem kindA_env (c : Cx) (x : Str) : c.env.kindOf x = kindA c.cs x := rfl

theorem globOf_ok {x : Str} {av : AV} (e : globOf K x = some av) (hd : (x == ("__debug__" : Str)) = false) {pos : Pos} {Q : Value → Shared → Prop} (hC : CxOK K pr lo mean mg mb lv n c) (hE : EnvK c env sc m mv) (hkd : kindA sc x = some .globalImplicit)
    (hf : Fm prog w c m s.heap st p led) (h : ∀ v, VRel p av v → (∀ g, fVal av = some g → v = g) → Q v s) : wpAny (model prog w) c.A (eval (.Name x pos) env) Q E s := by
  unfold globOf at e
  cases hE with
  | fn =>
    split at e
    · rename_i v hv
      split at e
      · rename_i ok
        cases e
        refine nameX_K (cl := []) hf.F hC.X hC.top hv (h v (vrel_avOf p ok) fun g hg => ?_) hC.ck hkd hd
        cases v <;> first | (cases hg; rfl) | cases hg | cases ok
      · cases e
    · rename_i hv
      split at e
      · rename_i v hb
        split at e
        · rename_i ok
          cases e
          obtain ⟨ok, hn⟩ := Bool.and_eq_true_iff.mp ok
          refine nameX_B (cl := []) hf.F hC.X hC.top hv hb (fun q => ?_) (h v (vrel_avOf p ok) fun g hg => ?_) hC.ck hkd hd
          · rw [q] at hn; revert hn; decide
          · cases v <;> first | (cases hg; rfl) | cases hg | cases ok
        · cases e
      · cases e
    · cases e
  | @comp _ C oC _ m₂ hx hns hck _ =>
    have hkk : (compEnvC sc [] C c.env).scope.kind = .function := hck
    have hkx : (compEnvC sc [] C c.env).kindOf x = some .globalImplicit := relabel_lookup (by decide) hkd
    split at e
    · rename_i v hv
      split at e
      · rename_i ok
        cases e
        refine LCgL.ld_global hf.F hC.X hC.T hv (h v (vrel_avOf p ok) fun g hg => ?_) rfl hkk hkx hd
        cases v <;> first | (cases hg; rfl) | cases hg | cases ok
      · cases e
    · rename_i hv
      split at e
      · rename_i v hb
        split at e
        · rename_i ok
          cases e
          obtain ⟨ok, hn⟩ := Bool.and_eq_true_iff.mp ok
          refine LCgL.ld_built hf.F hC.X hC.T hv hb (fun q => ?_) (h v (vrel_avOf p ok) fun g hg => ?_) rfl rfl hkk hkx hd
          · rw [q] at hn; revert hn; decide
          · cases v <;> first | (cases hg; rfl) | cases hg | cases ok
        · cases e
      · cases e
    · cases e

theorem globAt_ok {x : Str} {av : AV} (e : globAt K sc x = some av) {pos : Pos} {Q : Value → Shared → Prop} (hC : CxOK K pr lo mean mg mb lv n c) (hE : EnvK c env sc m mv)
    (hf : Fm prog w c m s.heap st p led) (h : ∀ v, VRel p av v → (∀ g, fVal av = some g → v = g) → Q v s) : wpAny (model prog w) c.A (eval (.Name x pos) env) Q E s := by
  unfold globAt at e
  split at e
  · cases e
  · rename_i hd
    split at e
    · rename_i hk
      exact globOf_ok e hd hC hE hk hf h
    · cases e

theorem nameC_ok {r : Rec} (x : Str) (pos : Pos) : EvOK prog w PF K pr lo mean mg mb lv n ((nameC K sc x).run r) (.Name x pos) sc := by
  intro vars st k kx hr c env m mv s p led Q E hC hE hV hf hQ hX
  unfold nameC at hr
  split at hr
  · cases hr
  · rename_i hd
    split at hr
    · rename_i hk
      dsimp only at hr
      split at hr
      · rename_i a ha
        obtain ⟨v, hm, hv⟩ := hV x a ha
        cases hE with
        | fn => exact nameX_L (cl := []) hf.F hm (hQ.here hr hv hf) hC.ck hk hd
        | @comp _ C oC _ m₂ hx hns hck _ =>
          exact LCgL.ld_own hf.N (List.mem_append_left _ hx) hns hm (hQ.here hr hv hf) hck (relabel_lookup (by decide) hk) hd
      · cases hr
    · rename_i hk
      split at hr
      · rename_i v hv
        exact globOf_ok hv hd hC hE hk hf fun u hu _ => hQ.here hr hu hf
      · cases hr
    · cases hr

theorem constC_ok {r : Rec} (cn : Const) (kd : Nat) (pos : Pos) : EvOK prog w PF K pr lo mean mg mb lv n ((constC cn).run r) (.Constant cn kd pos) sc := by
  intro vars st k kx hr c env m mv s p led Q E hC hE hV hf hQ hX
  cases cn with
  | none => exact Constant_none (hQ.here (x := AV.none) hr rfl hf)
  | bool b => exact Constant_bool (hQ.here (x := AV.bool b) hr rfl hf)
  | int i => exact wpAny_Constant_int (hQ.toks (x := AV.int i) hr ⟨_, rfl⟩ hf)
  | str x => exact Constant_str (hQ.toks (x := AV.str x) hr ⟨_, rfl⟩ hf)
  | bytes b => exact Constant_bytes (hQ.toks (x := AV.bytes b) hr ⟨_, rfl⟩ hf)
  | _ => cases hr

theorem star_cons {e : Expr} {es : List Expr} (h : noStars (e :: es) = true) (env : Env) : starEach (e :: es) env = (false, eval e env) :: starEach es env ∧ noStars es = true := by
  cases e <;> first | exact ⟨rfl, h⟩ | cases h
theorem star_any {env : Env} {pos : Pos} : ∀ {es : List Expr}, noStars es = true → ((backTo pos (starEach es env)).any fun x => x.fst) = false
  | [], _ => rfl
  | e :: es, h => by
    obtain ⟨e1, e2⟩ := star_cons h env
    rw [e1]
    show (false || ((backTo pos (starEach es env)).any fun x => x.fst)) = false
    rw [star_any e2]
    rfl

theorem evs_ok {r : Rec} (R : RecOK prog w PF K pr lo mean mg mb lv n r) : ∀ es, noStars es = true → LsOK prog w PF K pr lo mean mg mb lv n ((evs sc es).run r) es sc
  | [], _ => by
    intro vars st k kx hr c env m mv s p led Q E pos hC hE hV hf hQ hX
    exact args_nil (hQ.here (x := []) hr .nil hf)
  | e :: es, hs => by
    intro vars st k kx hr c env m mv s p led Q E pos hC hE hV hf hQ hX
    obtain ⟨e1, e2⟩ := star_cons hs env
    refine args_cons (R.ev sc e vars st _ kx hr c env m mv s p led _ E hC hE hV hf (fun a st' v s' p' led' hk hsm hl hv hf' => ?_) hX) e1
    refine evs_ok R es e2 vars st' _ kx hk c env m mv s' p' led' _ E pos hC hE (hV.le hl) hf' (fun bs st'' vs s'' p'' led'' hk' hsm' hl' hvs hf'' => ?_) (hX.step hl hsm)
    exact hQ _ _ _ _ _ _ hk' (hsm.trans hsm') (hl.trans hl') (.cons (hv.le hl') hvs) hf''

noncomputable def ArgsWp (M : Model) (A : Around) (args : List Expr) (env : Env) (pos : Pos) (Q : List Value → Shared → Prop) (E : Value → Shared → Prop) (s : Shared) : Prop := match args with
  | [] => Q [] s
  | e :: es => wpAny M A (spliced (backTo pos (starEach (e :: es) env))) Q E s
theorem evs_args {r : Rec} (R : RecOK prog w PF K pr lo mean mg mb lv n r) {args : List Expr} (hs : noStars args = true) {vars : Vars} {k : List AV → St → Bool} {kx : KX} (hr : (evs sc args).run r vars st k kx = true)
    {pos : Pos} {Q : List Value → Shared → Prop} (hC : CxOK K pr lo mean mg mb lv n c) (hE : EnvK c env sc m mv) (hV : VarsRel p vars mv) (hf : Fm prog w c m s.heap st p led) (hQ : Post prog w RL c m p k Q s) (hX : XPost prog w PF c p kx E s) :
    ArgsWp (model prog w) c.A args env pos Q E s := by
  cases args with
  | nil => exact hQ.here (x := []) hr .nil hf
  | cons e es => exact evs_ok R (e :: es) hs vars st k kx hr c env m mv s p led Q E pos hC hE hV hf hQ hX

theorem callWith_ok {fv : AV} {g : Value} {args : List Expr} {pos : Pos} {Q : Value → Shared → Prop} {first : List Value} (hg : fVal fv = some g) (hk : keepA K fv = true) (hs : noStars args = true) (hn : noFirst fv args = true)
    (hC : CxOK K pr lo mean mg mb lv n c) (hf : Fm prog w c m s.heap st p led) (hfi : first = [] ∨ ∀ T, fv ≠ .typ T)
    (h : ArgsWp (model prog w) c.A args env pos (fun vs s₁ => K.In s₁.heap ∧ wpAny (model prog w) c.A (call g (first ++ vs)) Q E s₁) E s) :
    wpAny (model prog w) c.A (callWith pos g first (backTo pos (starEach args env)) []) Q E s := by
  cases fv with
  | prog a =>
    cases hg
    cases args with
    | nil => exact callWith_K0 h.1 hk h.2
    | cons e es =>
      obtain ⟨e1, e2⟩ := star_cons hs env
      exact callWith_K hC.X hk h e1 (star_any e2)
  | bi id =>
    cases hg
    cases args with
    | nil => cases hn
    | cons e es =>
      obtain ⟨e1, e2⟩ := star_cons hs env
      exact callWith_method1 (wpAny_mono h (fun _ _ x => x.2) fun _ _ x => x) e1 (star_any e2)
  | typ T =>
    cases hg
    cases args with
    | nil => cases hn
    | cons e es =>
      obtain ⟨e1, e2⟩ := star_cons hs env
      rcases hfi with rfl | hfi
      · exact PyProof.Rows.callWith_type1 (wpAny_mono h (fun _ _ x => x.2) fun _ _ x => x) e1 (star_any e2)
      · exact absurd rfl (hfi T)
  | _ => cases hg

theorem callC_ok {r : Rec} (R : RecOK prog w PF K pr lo mean mg mb lv n r) (f : Str) (fp : Pos) (args : List Expr) (pos : Pos) : EvOK prog w PF K pr lo mean mg mb lv n ((callC K sc f args).run r) (.Call (.Name f fp) args [] pos) sc := by
  intro vars st k kx hr c env m mv s p led Q E hC hE hV hf hQ hX
  unfold callC at hr
  split at hr
  · rename_i fv hfv
    split at hr
    · rename_i hb
      simp only [Bool.and_eq_true] at hb
      obtain ⟨⟨hk, hs⟩, hn⟩ := hb
      dsimp only at hr
      refine Call_ (globAt_ok hfv hC hE hf fun v hv hg => ?_)
      have : ∃ g, fVal fv = some g := by cases fv <;> first | exact ⟨_, rfl⟩ | cases hk
      obtain ⟨g, hg'⟩ := this
      rw [hg g hg']
      refine callWith_ok hg' hk hs hn hC hf (.inl rfl) (evs_args R hs hr hC hE hV hf (fun as st' vs s' p' led' hk' hsm hl hvs hf' => ?_) hX)
      refine ⟨hC.X.keeps hf'.F.keep, ?_⟩
      exact R.call fv g hg' as st' k kx hk' c m s' p' led' vs Q E hC hvs hf' (hQ.step hl hsm) (hX.step hl hsm)
    · cases hr
  · cases hr

end
end PH
end
section
open PySem PySem.W PySem.Calls PyProof.Rows
set_option Elab.async false
set_option maxRecDepth 100000
set_option linter.unusedVariables false
namespace PH
section
variable {prog : Program} {w : World} {PF : Addr} {K : Frag} {pr : Program} {lo : List Str} {mean : ExcName → Option Value} {mg mb : Str → Option Value} {lv : Bool}
variable {c : Cx} {p : Mp} {s : Shared} {m mv : Str → Option Value} {E : Value → Shared → Prop} {led : List (Addr × Obj)} {st : St} {env : Env} {sc : Scope} {n : Nat} {h : Heap}

/-- an object of the state's -/
theorem Fm.inst (f : Fm prog w c m h st p led) {i C : Nat} {at_ : List (Str × AV)} (e : st.get i = some (.inst C at_)) :
    ∃ x dx es k, p.as[i]? = some x ∧ W.InstAt h x (instObj C dx) C (some (dictOf es k)) ∧ ARel w p at_ es ∧ (x, instObj C dx) ∈ c.X ++ led ∧ (dx, dictOf es k) ∈ c.X ++ led := by
  obtain ⟨b, pre, post, hl, ⟨x, dx, es, k, ha, hb, hr⟩, _⟩ := f.at e
  subst hb
  have m1 : (x, instObj C dx) ∈ c.X ++ led := by rw [hl]; simp
  have m2 : (dx, dictOf es k) ∈ c.X ++ led := by rw [hl]; simp
  exact ⟨x, dx, es, k, ha, InstAt.of_news f.N m1 m2, hr, m1, m2⟩
theorem VRel.obj_eq {i : Nat} {v : Value} {x : Addr} (hv : VRel p (.obj i) v) (hx : p.as[i]? = some x) : v = .ref x := by
  obtain ⟨y, hy, rfl⟩ := hv
  rw [hx] at hy
  cases hy
  rfl

theorem getAttrA_ok {ov : AV} {o : Value} {name : Str} {k : KB} {Q : Value → Shared → Prop} {expr : Bool} (hr : getAttrA K ov name st k = true) (hC : CxOK K pr lo mean mg mb lv n c) (ho : VRel p ov o)
    (hf : Fm prog w c m s.heap st p led) (hQ : Post prog w RV c m p k Q s) : wpAny (model prog w) c.A (getAttr o name expr) Q E s := by
  unfold getAttrA at hr
  split at hr
  · rename_i i
    split at hr
    · rename_i C at_ hi
      split at hr
      · rename_i a ha
        split at hr
        · rename_i hb
          obtain ⟨hat, hh⟩ := Bool.and_eq_true_iff.mp hb
          obtain ⟨x, dx, es, kk, hx, hI, hA, _, _⟩ := hf.inst hi
          rw [ho.obj_eq hx]
          have hg := hA.getL (x := name)
          rw [ha] at hg
          obtain ⟨v, hg, hv⟩ := hg
          unfold attrOk at hat
          simp only [Bool.and_eq_true] at hat
          obtain ⟨⟨h1, h2⟩, h3⟩ := hat
          split at h3
          · rename_i attr h4
            exact get_own hf.F hC.X hI h1 h2 h4 h3 hg (hv.handed hh) (hQ.toks hr hv hf)
          · cases h3
        · cases hr
      · cases hr
    · cases hr
  · cases hr

theorem methA_inst {i C f : Nat} {at_ : List (Str × AV)} {name : Str} {pl : Sem Bool} {Q : Value × List Value → Shared → Prop} (hi : st.get i = some (.inst C at_)) (hn : lk at_ name = none) (hm : methAt K C name = some f) (hC : CxOK K pr lo mean mg mb lv n c)
    (hf : Fm prog w c m s.heap st p led) {x : Addr} (hx : p.as[i]? = some x) (hQ : Q (.ref f, [.ref x]) s) : wpAny (model prog w) c.A (getMethod (.ref x) name pl) Q E s := by
  obtain ⟨x', dx, es, kk, hx', hI, hA, _, _⟩ := hf.inst hi
  rw [hx] at hx'
  cases hx'
  have hg := hA.getL (x := name)
  rw [hn] at hg
  unfold methAt at hm
  split at hm
  · rename_i h1
    split at hm
    · rename_i g h2
      split at hm
      · rename_i h3
        cases hm
        exact method_inst hf.F hC.X hI h1 h2 h3 hg hQ
      · cases hm
    · cases hm
  · cases hm

/-- an object that takes one place of the ledger -/
theorem Fm.one (f : Fm prog w c m h st p led) {i : Nat} {o : AO} {P : Addr → Obj → Prop} (e : st.get i = some o) (hP : ∀ b, ORel prog w p i o b → ∃ x ob, p.as[i]? = some x ∧ b = [(x, ob)] ∧ P x ob) :
    ∃ x ob, p.as[i]? = some x ∧ (x, ob) ∈ c.X ++ led ∧ P x ob ∧ h.get? x = some ob := by
  obtain ⟨b, pre, post, hl, ho, _⟩ := f.at e
  obtain ⟨x, ob, hx, rfl, hp⟩ := hP b ho
  have m1 : (x, ob) ∈ c.X ++ led := by rw [hl]; simp
  exact ⟨x, ob, hx, m1, hp, (f.N _ m1).1⟩
theorem Fm.list (f : Fm prog w c m h st p led) {i : Nat} {xs : List AV} (e : st.get i = some (.list xs)) :
    ∃ x vs k, p.as[i]? = some x ∧ (x, PySem.W.listOf vs.toArray k) ∈ c.X ++ led ∧ L2 (VRel p) xs vs ∧ h.IsList x vs.toArray ∧ h.get? x = some (PySem.W.listOf vs.toArray k) := by
  obtain ⟨b, pre, post, hl, ⟨x, vs, k, hx, rfl, hr⟩, _⟩ := f.at e
  have m1 : (x, PySem.W.listOf vs.toArray k) ∈ c.X ++ led := by rw [hl]; simp
  exact ⟨x, vs, k, hx, m1, hr, ⟨_, (f.N _ m1).1, rfl, _, rfl⟩, (f.N _ m1).1⟩
theorem Fm.tup (f : Fm prog w c m h st p led) {i : Nat} {xs : List AV} (e : st.get i = some (.tup xs)) :
    ∃ x vs, p.as[i]? = some x ∧ (x, tupOf vs) ∈ c.X ++ led ∧ L2 (VRel p) xs vs ∧ IsTup h x vs.toArray ∧ h.get? x = some (tupOf vs) := by
  obtain ⟨b, pre, post, hl, ⟨x, vs, hx, rfl, hr⟩, _⟩ := f.at e
  have m1 : (x, tupOf vs) ∈ c.X ++ led := by rw [hl]; simp
  exact ⟨x, vs, hx, m1, hr, ⟨_, (f.N _ m1).1, rfl, _, rfl⟩, (f.N _ m1).1⟩

theorem progTup_ok {a : Nat} {xs : List AV} (e : progTup K a = some xs) (hX : K.In h) (p : Mp) : ∃ vs, IsTup h a vs.toArray ∧ L2 (VRel p) xs vs ∧ ∃ dd k sl, h.get? a = some ⟨.type "tuple", dd, .seq vs.toArray k, sl⟩ := by
  unfold progTup at e
  split at e
  · rename_i dd vs k sl ho
    split at e
    · rename_i ok
      cases e
      refine ⟨vs.toList, ⟨_, hX _ _ ho, rfl, k, by simp⟩, ?_, dd, k, sl, by rw [hX _ _ ho]⟩
      generalize vs.toList = l at ok
      induction l with
      | nil => exact .nil
      | cons v r ih =>
        rw [List.all_cons, Bool.and_eq_true] at ok
        exact .cons (vrel_avOf p ok.1) (ih ok.2)
    · cases e
  · cases e

theorem methA_ok {ov fv : AV} {o : Value} {name : Str} {pl : Sem Bool} {Q : Value × List Value → Shared → Prop} (hm : methA K ov name st = some fv) (hC : CxOK K pr lo mean mg mb lv n c) (ho : VRel p ov o)
    (hf : Fm prog w c m s.heap st p led) (hQ : ∀ g, fVal fv = some g → Q (g, [o]) s) : wpAny (model prog w) c.A (getMethod o name pl) Q E s := by
  have dict : ∀ {i : Nat} {fv : AV}, ov = .obj i → getId name = some fv → (∃ x ob, p.as[i]? = some x ∧ (x, ob) ∈ c.X ++ led ∧ ∃ l, Obj.IsDictOf (PySem.strKind prog w) ob l ∨ ∃ l', Obj.IsDictOf (PySem.intKind prog w) ob l') →
      (∀ g, fVal fv = some g → Q (g, [o]) s) → wpAny (model prog w) c.A (getMethod o name pl) Q E s := by
    rintro i fv rfl hg ⟨x, ob, hx, hmem, l, hd⟩ hq
    unfold getId at hg
    split at hg
    · rename_i hn
      rw [sEq_iff] at hn
      subst hn
      cases hg
      rw [ho.obj_eq hx] at hq ⊢
      rcases hd with hd | ⟨l', hd⟩
      · exact kdg_method hf.N hmem hd (hq _ rfl)
      · exact kdg_method hf.N hmem hd (hq _ rfl)
    · cases hg
  unfold methA at hm
  split at hm
  · rename_i i
    split at hm
    · rename_i C at_ hi
      split at hm
      · rename_i hn
        split at hm
        · rename_i f hf'
          cases hm
          obtain ⟨x, dx, es, kk, hx, _⟩ := hf.inst hi
          rw [ho.obj_eq hx] at hQ ⊢
          exact methA_inst hi hn hf' hC hf hx (hQ _ rfl)
        · cases hm
      · cases hm
    · rename_i xs hi
      split at hm
      · rename_i hn
        rw [sEq_iff] at hn
        subst hn
        cases hm
        obtain ⟨x, vs, k, hx, _, _, _, hg⟩ := hf.list hi
        rw [ho.obj_eq hx] at hQ ⊢
        exact getMethod_list_append hg rfl rfl (hQ _ rfl)
      · cases hm
    · rename_i hi
      obtain ⟨x, ob, hx, hmem, hp, _⟩ := hf.one (P := fun x ob => Obj.IsDictOf (PySem.strKind prog w) ob []) hi (fun b ⟨x, o, h1, h2, h3, _⟩ => ⟨x, o, h1, h2, h3⟩)
      exact dict rfl hm ⟨x, ob, hx, hmem, [], .inl hp⟩ hQ
    · rename_i kvs hi
      obtain ⟨x, ob, hx, hmem, ⟨l, hp⟩, _⟩ := hf.one (P := fun x ob => ∃ l, Obj.IsDictOf (PySem.strKind prog w) ob l) hi (fun b ⟨x, o, l, h1, h2, h3, _⟩ => ⟨x, o, h1, h2, l, h3⟩)
      exact dict rfl hm ⟨x, ob, hx, hmem, l, .inl hp⟩ hQ
    · rename_i kvs hi
      obtain ⟨x, ob, hx, hmem, ⟨l, hp⟩, _⟩ := hf.one (P := fun x ob => ∃ l, Obj.IsDictOf (PySem.strKind prog w) ob l) hi (fun b ⟨x, o, l, h1, h2, h3, _⟩ => ⟨x, o, h1, h2, l, h3⟩)
      exact dict rfl hm ⟨x, ob, hx, hmem, l, .inl hp⟩ hQ
    · rename_i kvs hi
      obtain ⟨x, ob, hx, hmem, ⟨l, hp⟩, _⟩ := hf.one (P := fun x ob => ∃ l, Obj.IsDictOf (PySem.intKind prog w) ob l) hi (fun b ⟨x, o, l, h1, h2, h3, _⟩ => ⟨x, o, h1, h2, l, h3⟩)
      exact dict rfl hm ⟨x, ob, hx, hmem, [], .inr ⟨l, hp⟩⟩ hQ
    · cases hm
  · cases hm

theorem base_eq {o : Expr} {attr : Str} {env : Env} {whole : Sem Value} (h : baseOk o = true) : attributeBase o attr env whole = whole := by
  cases o with
  | Name => rfl
  | Attribute => rfl
  | Subscript => rfl
  | Call f args ks p =>
    cases f with
    | Attribute => rfl
    | Name =>
      cases args with
      | cons => rfl
      | nil => exact (Bool.false_ne_true h).elim
    | _ => exact (Bool.false_ne_true h).elim
  | _ => exact (Bool.false_ne_true h).elim
theorem star_all {env : Env} {pos : Pos} : ∀ {es : List Expr}, noStars es = true → ((backTo pos (starEach es env)).all fun x => !x.1) = true
  | [], _ => rfl
  | e :: es, h => by
    obtain ⟨e1, e2⟩ := star_cons h env
    rw [e1]
    show (!false && ((backTo pos (starEach es env)).all fun x => !x.1)) = true
    rw [star_all e2]
    rfl
theorem methodCall_eq {o : Expr} {name : Str} {ap pos : Pos} {args : List Expr} {env : Env} (h1 : noStars args = true) (h2 : baseOk o = true) (h3 : (ap.endLine == pos.line) = true) (h4 : Nat.blt args.length 30 = true) :
    eval (.Call (.Attribute o name ap) args [] pos) env = (do
      let ov ← eval o env
      standAt ap.atName
      let (f, first) ← holding [ov] (getMethod ov name (do return (← importBound o env).getD true))
      callWith pos f first (backTo pos (starEach args env)) []) := by
  have few : methodCallForm (args.length + ([] : List Keyword).length) (backTo pos (starEach args env)) (backToKw pos (keywordEach [] env)) = true := by
    unfold methodCallForm
    rw [star_all h1]
    have : args.length < 30 := by simpa [Nat.blt_eq] using h4
    simp [this, backToKw, keywordEach]
  rw [PySem.arm_eval_Call, base_eq h2]
  unfold methodCall
  rw [few]
  unfold methodCallPos
  rw [h3]
  rfl

theorem methC_ok {r : Rec} (R : RecOK prog w PF K pr lo mean mg mb lv n r) (o : Expr) (name : Str) (ap : Pos) (args : List Expr) (pos : Pos) : EvOK prog w PF K pr lo mean mg mb lv n ((methC K sc o name ap args pos).run r) (.Call (.Attribute o name ap) args [] pos) sc := by
  intro vars st k kx hr c env m mv s p led Q E hC hE hV hf hQ hX
  unfold methC at hr
  split at hr
  · rename_i hs
    simp only [Bool.and_eq_true] at hs
    obtain ⟨⟨⟨hs, hb1⟩, hb2⟩, hb3⟩ := hs
    dsimp only at hr
    refine MethodCall_ (R.ev sc o vars st _ kx hr c env m mv s p led _ E hC hE hV hf (fun ov st' o' s' p' led' hk hsm hl ho hf' => ?_) hX) (methodCall_eq hs hb1 hb2 hb3)
    dsimp only at hk
    split at hk
    · rename_i fv hfv
      split at hk
      · rename_i hb
        obtain ⟨hk1, hn⟩ := Bool.and_eq_true_iff.mp hb
        have : ∃ g, fVal fv = some g := by cases fv <;> first | exact ⟨_, rfl⟩ | cases hk1
        obtain ⟨g, hg⟩ := this
        refine methA_ok hfv hC ho hf' fun g' hg' => ?_
        rw [hg] at hg'
        cases hg'
        refine callWith_ok hg hk1 hs hn hC hf' (.inr fun T q => ?_) (evs_args R hs hk hC hE (hV.le hl) hf' (fun as st'' vs s'' p'' led'' hk' hsm' hl' hvs hf'' => ?_) (hX.step hl hsm))
        · subst q
          unfold methA getId at hfv
          (repeat' split at hfv) <;> cases hfv
        · refine ⟨hC.X.keeps hf''.F.keep, ?_⟩
          exact R.call fv g hg (ov :: as) st'' k kx hk' c m s'' p'' led'' (o' :: vs) Q E hC (.cons (ho.le hl') hvs) hf'' ((hQ.step hl hsm).step hl' hsm') ((hX.step hl hsm).step hl' hsm')
      · cases hk
    · cases hk
  · cases hr

theorem attr_ok {r : Rec} (R : RecOK prog w PF K pr lo mean mg mb lv n r) (o : Expr) (name : Str) (pos : Pos) (hb : baseOk o = true) :
    EvOK prog w PF K pr lo mean mg mb lv n (fun vars st k kx => r.ev sc o vars st (fun ov st => getAttrA K ov name st k) kx) (.Attribute o name pos) sc := by
  intro vars st k kx hr c env m mv s p led Q E hC hE hV hf hQ hX
  refine Attribute_any_ (R.ev sc o vars st _ kx hr c env m mv s p led _ E hC hE hV hf (fun ov st' o' s' p' led' hk hsm hl ho hf' => ?_) hX) ?_
  · exact getAttrA_ok hk hC ho hf' (hQ.step hl hsm)
  · rw [PySem.arm_eval_Attribute, base_eq hb]
end
end PH
end
section
open PySem PySem.W PySem.Calls PyProof.Rows
set_option Elab.async false
set_option maxRecDepth 100000
set_option linter.unusedVariables false
namespace PH
section
variable {prog : Program} {w : World} {PF : Addr} {K : Frag} {pr : Program} {lo : List Str} {mean : ExcName → Option Value} {mg mb : Str → Option Value} {lv : Bool}
variable {c : Cx} {p : Mp} {s : Shared} {m mv : Str → Option Value} {E : Value → Shared → Prop} {led : List (Addr × Obj)} {st : St} {env : Env} {sc : Scope} {n : Nat} {h : Heap}

noncomputable def Op2OK (n : Nat) (prog : Program) (w : World) (K : Frag) (pr : Program) (lo : List Str) (mean : ExcName → Option Value) (mg mb : Str → Option Value) (lv : Bool) (o : Op2) (f : Value → Value → Sem Value) : Prop :=
  ∀ (a b : AV) (st : St) (k : KB), o.run a b st k = true → ∀ (c : Cx) (m : Str → Option Value) (s : Shared) (p : Mp) (led : List (Addr × Obj)) (x y : Value) (Q : Value → Shared → Prop) (E : Value → Shared → Prop),
    CxOK K pr lo mean mg mb lv n c → VRel p a x → VRel p b y → Fm prog w c m s.heap st p led → Post prog w RV c m p k Q s → wpAny (model prog w) c.A (f x y) Q E s

theorem bne_iff_beq {α : Type} [BEq α] {x y : α} : (x != y) = ((x == y) != true) := by
  unfold bne
  cases x == y <;> rfl

theorem truthA_ok {a : AV} {v : Value} {k : Bool → Bool} {Q : Bool → Shared → Prop} {A : Around} (hr : truthA a k = true) (hv : VRel p a v) (h : ∀ b, k b = true → Q b s) : wpAny (model prog w) A (truthy v) Q E s := by
  unfold truthA at hr
  split at hr
  · cases hv
    exact wpAny_truthy_bool (h _ hr)
  · cases hr

theorem isNoneA_ok {a : AV} {v : Value} {r : Bool} (h : isNoneA a = some r) (hv : VRel p a v) : (v == Value.none) = r := by
  cases a with
  | none => cases hv; cases h; rfl
  | bool b => cases hv; cases h; rfl
  | int i => obtain ⟨t, rfl⟩ := hv; cases h; rfl
  | sint k => obtain ⟨i, t, _, rfl⟩ := hv; cases h; rfl
  | str x => obtain ⟨t, rfl⟩ := hv; cases h; rfl
  | bytes x => obtain ⟨t, rfl⟩ := hv; cases h; rfl
  | typ n => cases hv; cases h; rfl
  | bi n => cases hv; cases h; rfl
  | prog a => cases hv; cases h; rfl
  | obj k => obtain ⟨x, _, rfl⟩ := hv; cases h; rfl
  | sym k => cases h

theorem isOp_ok (neg : Bool) : Op2OK n prog w K pr lo mean mg mb lv (isOp neg) (compareOp (if neg then .IsNot else .Is)) := by
  intro a b st k hr c m s p led x y Q E hC ha hb hf hQ
  unfold isOp at hr
  dsimp only at hr
  split at hr
  · cases hb
    split at hr
    · rename_i r hn
      have he := isNoneA_ok hn ha
      cases neg with
      | true => exact PyProof.Rows.isnot_none_gen (hQ.here (x := AV.bool (r != true)) hr (by rw [he]; cases r <;> rfl) hf)
      | false => exact PyProof.Rows.is_none_gen (hQ.here (x := AV.bool (r != false)) hr (by rw [he]; cases r <;> rfl) hf)
    · cases hr
  · cases hr

theorem int2_ok {f : Int → Int → AV} {g : Value → Value → Sem Value}
    (h : ∀ {A : Around} {E : Value → Shared → Prop} {s : Shared} {x y : Int} {t u : Tok} {Q : Value → Shared → Prop}, (∀ v tk, (∀ p : Mp, VRel p (f x y) v) → Q v { heap := s.heap, gens := s.gens, drawn := s.drawn, toks := tk, os := s.os }) → wpAny (model prog w) A (g (.int x t) (.int y u)) Q E s) :
    Op2OK n prog w K pr lo mean mg mb lv (int2 f) g := by
  intro a b st k hr c m s p led x y Q E hC ha hb hf hQ
  unfold int2 at hr
  dsimp only at hr
  split at hr
  · split at hr
    · obtain ⟨t, rfl⟩ := ha
      obtain ⟨u, rfl⟩ := hb
      exact h fun v tk hv => hQ.toks hr (hv p) hf
    · cases hr
  · cases hr
theorem smallOp_ok {f : Int → Int → AV} {g : Value → Value → Sem Value} {pos : Bool}
    (h : ∀ {A : Around} {E : Value → Shared → Prop} {s : Shared} {x y : Int} {t u : Tok} {Q : Value → Shared → Prop}, small x = true → small y = true → (pos = true → 0 < y) → (∀ v tk, (∀ p : Mp, VRel p (f x y) v) → Q v { heap := s.heap, gens := s.gens, drawn := s.drawn, toks := tk, os := s.os }) → wpAny (model prog w) A (g (.int x t) (.int y u)) Q E s) :
    Op2OK n prog w K pr lo mean mg mb lv (smallOp f pos) g := by
  intro a b st k hr c m s p led x y Q E hC ha hb hf hQ
  unfold smallOp at hr
  dsimp only at hr
  split at hr
  · split at hr
    · split at hr
      · rename_i hs
        simp only [Bool.and_eq_true, Bool.or_eq_true, Bool.not_eq_true', decide_eq_true_eq] at hs
        obtain ⟨t, rfl⟩ := ha
        obtain ⟨u, rfl⟩ := hb
        refine h hs.1.1 hs.1.2 (fun q => ?_) fun v tk hv => hQ.toks hr (hv p) hf
        rcases hs.2 with z | z
        · rw [q] at z; cases z
        · exact z
      · cases hr
    · cases hr
  · cases hr

theorem small_lt {x : Int} (h : small x = true) : -1000000 < x ∧ x < 1000000 := by
  unfold small at h
  simpa using h

theorem addOp_ok : Op2OK n prog w K pr lo mean mg mb lv addOp (binaryOp .Add) := by
  intro a b st k hr c m s p led x y Q E hC ha hb hf hQ
  unfold addOp at hr
  dsimp only at hr
  split at hr
  · obtain ⟨t, rfl⟩ := ha
    obtain ⟨u, rfl⟩ := hb
    exact PyProof.Rows.add_int (hQ.toks hr ⟨_, rfl⟩ hf)
  · rename_i a b
    split at hr
    · rename_i hs
      simp only [Bool.and_eq_true, Nat.blt_eq] at hs
      obtain ⟨t, rfl⟩ := ha
      obtain ⟨u, rfl⟩ := hb
      exact KXadd.add (K := 1000) (L := 1000) (Nat.le_of_lt hs.1) (Nat.le_of_lt hs.2) (by decide) fun t' tk _ => hQ.toks hr ⟨_, rfl⟩ hf
    · cases hr
  · cases hr

theorem binOp_ok (op : Operator) : Op2OK n prog w K pr lo mean mg mb lv (binOp op) (binaryOp op) := by
  cases op with
  | Add => exact addOp_ok
  | Sub => exact int2_ok fun h => PyProof.Rows.sub_int (h _ _ fun p => ⟨_, rfl⟩)
  | Mult => exact smallOp_ok fun hx hy _ h => PyProof.Rows.mul_int (h _ _ fun p => ⟨_, rfl⟩) (IntMulOk.of_left (intBits_le_64 (by have := small_lt hx; omega) (by have := small_lt hx; omega)))
  | Mod => exact smallOp_ok fun hx hy hp h => PyProof.Rows.mod_int' (by have := hp rfl; omega) (h _ _ fun p => ⟨_, rfl⟩)
  | _ => intro a b st k hr; cases hr

theorem tupItems_ok {v : AV} {x : Value} {xs : List AV} (e : tupItems K v st = some xs) (hf : Fm prog w c m h st p led) (hX : K.In h) (hv : VRel p v x) :
    ∃ a vs, x = .ref a ∧ IsTup h a vs.toArray ∧ L2 (VRel p) xs vs := by
  unfold tupItems at e
  split at e
  · split at e
    · rename_i i xs' hi
      cases e
      obtain ⟨a, vs, ha, _, hr, ht, _⟩ := hf.tup hi
      exact ⟨a, vs, hv.obj_eq ha, ht, hr⟩
    · cases e
  · obtain ⟨vs, ht, hr, _⟩ := progTup_ok e hX p
    exact ⟨_, vs, hv, ht, hr⟩
  · cases e

theorem eqAt_bytes {A : Around} {s : Shared} (b : List UInt8) (t u : Tok) : SeqAt.EqAt A s (.bytes b.toArray t) (.bytes b.toArray u) true := fun prog w E Q hq => by
  unfold eqBool
  refine wpAny_holding ?_
  refine wpAny_ite_split (fun _ => wpAny_bind (wpAny_rule (wpAny_pure hq))) (fun _ => ?_)
  exact wpAny_bind (m := richCompare .Eq _ _) (PySem.W.eq_bytes (wpAny_truthy_bool (by simpa using hq)))

theorem same_items {f : AV → AV → Bool} {A : Around} {s : Shared} (hf : ∀ {a b : AV} {x y : Value}, f a b = true → VRel p a x → VRel p b y → SeqAt.EqAt A.in1 s x y true) :
    ∀ {xs ys : List AV} {vs us : List Value}, allSame f xs ys = true → L2 (VRel p) xs vs → L2 (VRel p) ys us → vs.length = us.length ∧ ∀ j (h1 : j < vs.length) (h2 : j < us.length), SeqAt.EqAt A.in1 s vs[j] us[j] true := by
  intro xs
  induction xs with
  | nil =>
    intro ys vs us hall h1 h2
    cases ys with
    | nil => cases h1; cases h2; exact ⟨rfl, fun j h1 => absurd h1 (Nat.not_lt_zero _)⟩
    | cons => cases hall
  | cons a r ih =>
    intro ys vs us hall h1 h2
    cases ys with
    | nil => cases hall
    | cons b t =>
      unfold allSame at hall
      split at hall
      · rename_i hab
        cases h1 with
        | cons hv1 h1 =>
        cases h2 with
        | cons hv2 h2 =>
        obtain ⟨e1, e2⟩ := ih hall h1 h2
        refine ⟨by simp [e1], fun j j1 j2 => ?_⟩
        cases j with
        | zero => exact hf hab hv1 hv2
        | succ j => exact e2 j (by simpa using j1) (by simpa using j2)
      · cases hall
theorem sameA_ok : ∀ (n : Nat) {A : Around} {a b : AV} {x y : Value}, sameA K st n a b = true → Fm prog w c m s.heap st p led → K.In s.heap → VRel p a x → VRel p b y → A.units + n < cLine → SeqAt.EqAt A s x y true
  | 0, _, _, _, _, _, h, _, _, _, _, _ => by cases h
  | n + 1, A, a, b, x, y, h, hf, hX, ha, hb, hu => by
    have tup : ∀ {xs ys : List AV}, tupItems K a st = some xs → tupItems K b st = some ys → allSame (sameA K st n) xs ys = true → SeqAt.EqAt A s x y true := by
      intro xs ys hxs hys hall
      obtain ⟨a1, vs, rfl, ht1, hr1⟩ := tupItems_ok hxs hf hX ha
      obtain ⟨a2, us, rfl, ht2, hr2⟩ := tupItems_ok hys hf hX hb
      by_cases q : a1 = a2
      · subst q
        exact SeqAt.EqAt.same _
      · obtain ⟨e1, e2⟩ := same_items (A := A) (fun hab hv1 hv2 => sameA_ok n hab hf hX hv1 hv2 (by show A.units + 1 + n < cLine; omega)) hall hr1 hr2
        have := SeqAt.RcAt.tuples (e := fun _ => true) (A := A) (s := s) ht1 ht2 (by omega) (fun j h1 h2 => by simpa using e2 j (by simpa using h1) (by simpa using h2))
        refine SeqAt.EqAt.of_refs q ?_
        have z : ((List.range (min vs.toArray.size us.toArray.size)).all (fun _ => true) && vs.toArray.size == us.toArray.size) = true := by simp [e1]
        rw [z] at this
        exact this
    unfold sameA at h
    split at h
    · split at h
      · cases ha; cases hb; exact SeqAt.EqAt.same _
      · cases h
    · split at h
      · cases ha; cases hb
        rw [beq_iff_eq] at h
        subst h
        exact SeqAt.EqAt.same _
      · cases h
    · split at h
      · obtain ⟨t, rfl⟩ := ha
        obtain ⟨u, rfl⟩ := hb
        rw [decide_eq_true_iff] at h
        subst h
        exact fun prog w E Q hq => (MeetsSeq.EqGives.int _ _ t u).at A s prog w E Q (by rw [beq_self_eq_true]; exact hq)
      · cases h
    · split at h
      · obtain ⟨t, rfl⟩ := ha
        obtain ⟨u, rfl⟩ := hb
        rw [sEq_iff] at h
        subst h
        exact fun prog w E Q hq => (eqGives_str _ _ t u).at A s prog w E Q (by rw [beq_self_eq_true]; exact hq)
      · cases h
    · split at h
      · obtain ⟨t, rfl⟩ := ha
        obtain ⟨u, rfl⟩ := hb
        rw [decide_eq_true_iff] at h
        subst h
        exact eqAt_bytes _ _ _
      · cases h
    · split at h
      · rename_i hxs
        split at h
        · rename_i hys
          exact tup hxs hys h
        · cases h
      · cases h
    · split at h
      · rename_i hxs
        split at h
        · rename_i hys
          exact tup hxs hys h
        · cases h
      · cases h
    · cases h

theorem eqOp_ok (neg : Bool) : Op2OK n prog w K pr lo mean mg mb lv (eqOp K neg) (compareOp (if neg then .NotEq else .Eq)) := by
  intro a b st k hr c m s p led x y Q E hC ha hb hf hQ
  unfold eqOp at hr
  dsimp only at hr
  split at hr
  · rename_i r he
    have hu : c.A.units + 9 < cLine := by have := hC.hu; omega
    have hX : K.In s.heap := hC.X.keeps hf.F.keep
    have hq : Q (.bool (r != neg)) s := hQ.here (x := AV.bool (r != neg)) hr rfl hf
    unfold eqA at he
    split at he
    · split at he
      · obtain ⟨t, rfl⟩ := ha
        obtain ⟨u, rfl⟩ := hb
        cases he
        cases neg with
        | true => exact PyProof.Rows.ne_str (by rw [bne_iff_beq]; exact hq)
        | false => exact PyProof.Rows.eq_str (by simpa using hq)
      · cases he
    · split at he
      · obtain ⟨t, rfl⟩ := ha
        obtain ⟨u, rfl⟩ := hb
        cases he
        cases neg with
        | true => exact PyProof.Rows.ne_int (by rw [bne_iff_beq]; exact hq)
        | false => exact PyProof.Rows.eq_int (by simpa using hq)
      · cases he
    · split at he
      · cases ha
        cases hb
        cases he
        cases neg with
        | true => exact PyProof.Rows.ne_bool (by rw [bne_iff_beq]; exact hq)
        | false => exact PyProof.Rows.eq_bool (by simpa using hq)
      · cases he
    · split at he
      · split at he
        · rename_i i x _ xs hi
          cases he
          obtain ⟨a, vs, hx, _, hr1, ht, _⟩ := hf.tup hi
          obtain ⟨u, rfl⟩ := hb
          rw [ha.obj_eq hx]
          cases neg with
          | true => exact SeqAt.RcNeAt.tuple_str (A := c.A) (s := s) _ u ht (by omega) prog w E Q hq
          | false => exact SeqAt.RcAt.tuple_str (A := c.A) (s := s) _ u ht (by omega) prog w E Q hq
        · cases he
      · rename_i i _ j
        split at he
        · rename_i hs
          cases he
          unfold sameA at hs
          dsimp only at hs
          split at hs
          · rename_i xs hxs
            split at hs
            · rename_i ys hys
              obtain ⟨a1, vs, rfl, ht1, hr1⟩ := tupItems_ok hxs hf hX ha
              obtain ⟨a2, us, rfl, ht2, hr2⟩ := tupItems_ok hys hf hX hb
              obtain ⟨e1, e2⟩ := same_items (A := c.A) (fun hab hv1 hv2 => sameA_ok 7 hab hf hX hv1 hv2 (by show c.A.units + 1 + 7 < cLine; omega)) hs hr1 hr2
              have z : ((List.range (min vs.toArray.size us.toArray.size)).all (fun _ => true) && vs.toArray.size == us.toArray.size) = true := by simp [e1]
              cases neg with
              | true =>
                refine SeqAt.RcNeAt.tuples (e := fun _ => true) (A := c.A) (s := s) ht1 ht2 (by omega) (fun j h1 h2 => by simpa using e2 j (by simpa using h1) (by simpa using h2)) prog w E Q ?_
                rw [z]
                exact hq
              | false =>
                refine SeqAt.RcAt.tuples (e := fun _ => true) (A := c.A) (s := s) ht1 ht2 (by omega) (fun j h1 h2 => by simpa using e2 j (by simpa using h1) (by simpa using h2)) prog w E Q ?_
                rw [z]
                exact hq
            · cases hs
          · cases hs
        · cases he
      · cases he
    · cases he
  · cases hr

theorem lk_valueAt {kvs : List (Str × AV)} {l : List (Str × Value)} (h : L2 (SKRel p) kvs l) (x : Str) : match lk kvs x with
    | some a => ∃ v, valueAt l x = some v ∧ VRel p a v
    | none => valueAt l x = none := by
  induction h with
  | nil => rfl
  | @cons a b kvs l hab _ ih =>
    obtain ⟨k, av⟩ := a
    obtain ⟨k', v⟩ := b
    obtain ⟨e, hv⟩ := hab
    dsimp only at e hv
    subst e
    unfold lk valueAt
    rw [List.find?_cons]
    dsimp only
    cases q : sEq k x with
    | true =>
      rw [sEq_iff] at q
      subst q
      rw [decide_eq_true rfl]
      exact ⟨v, rfl, hv⟩
    | false =>
      rw [decide_eq_false (sEq_ne q)]
      exact ih

theorem strDict_ok {v : AV} {x : Value} {kvs : List (Str × AV)} (e : strDict v st = some kvs) (hf : Fm prog w c m h st p led) (hv : VRel p v x) :
    ∃ d ob l, x = .ref d ∧ (d, ob) ∈ c.X ++ led ∧ Obj.IsDictOf (PySem.strKind prog w) ob l ∧ L2 (SKRel p) kvs l ∧ (d == sysModules) = false := by
  unfold strDict at e
  split at e
  · split at e
    · rename_i i kvs' hi
      cases e
      obtain ⟨d, ob, hx, hm, ⟨l, h1, h2, h3⟩, _⟩ := hf.one (P := fun d ob => ∃ l, Obj.IsDictOf (PySem.strKind prog w) ob l ∧ L2 (SKRel p) kvs l ∧ (d == sysModules) = false) hi (fun b ⟨x, o, l, h1, h2, h3, h4, h5⟩ => ⟨x, o, h1, h2, l, h3, h4, h5⟩)
      exact ⟨d, ob, l, hv.obj_eq hx, hm, h1, h2, h3⟩
    · rename_i i hi
      cases e
      obtain ⟨d, ob, hx, hm, ⟨h1, h2⟩, _⟩ := hf.one (P := fun d ob => Obj.IsDictOf (PySem.strKind prog w) ob [] ∧ (d == sysModules) = false) hi (fun b ⟨x, o, h1, h2, h3, h4, h5⟩ => ⟨x, o, h1, h2, h3, h5⟩)
      exact ⟨d, ob, [], hv.obj_eq hx, hm, h1, .nil, h2⟩
    · cases e
  · cases e

theorem strsOf_ok : ∀ {xs : List AV} {ys : List Str} {vs : List Value}, strsOf xs = some ys → L2 (VRel p) xs vs → StrsAre vs ys
  | [], ys, vs, e, h => by cases e; cases h; exact .nil
  | x :: r, ys, vs, e, h => by
    cases x with
    | str x =>
      unfold strsOf at e
      cases q : strsOf r with
      | none => rw [q] at e; cases e
      | some zs =>
        rw [q] at e
        dsimp only at e
        cases e
        cases h with
        | cons hv ht =>
          obtain ⟨t, rfl⟩ := hv
          exact .cons _ _ (strsOf_ok q ht)
    | _ => cases e
theorem intsOf_ok : ∀ {xs : List AV} {ys : List Int} {vs : List Value}, intsOf xs = some ys → L2 (VRel p) xs vs → IntsAre vs ys
  | [], ys, vs, e, h => by cases e; cases h; exact .nil
  | x :: r, ys, vs, e, h => by
    cases x with
    | int x =>
      unfold intsOf at e
      cases q : intsOf r with
      | none => rw [q] at e; cases e
      | some zs =>
        rw [q] at e
        cases e
        cases h with
        | cons hv ht =>
          obtain ⟨t, rfl⟩ := hv
          exact .cons _ _ (intsOf_ok q ht)
    | _ => cases e

theorem listItems_ok {v : AV} {x : Value} {xs : List AV} (e : listItems v st = some xs) (hf : Fm prog w c m h st p led) (hv : VRel p v x) :
    ∃ a vs, x = .ref a ∧ h.IsList a vs.toArray ∧ L2 (VRel p) xs vs := by
  unfold listItems at e
  split at e
  · split at e
    · rename_i i xs' hi
      cases e
      obtain ⟨a, vs, k, ha, _, hr, ht, _⟩ := hf.list hi
      exact ⟨a, vs, hv.obj_eq ha, ht, hr⟩
    · cases e
  · cases e

theorem inOp_ok (neg : Bool) : Op2OK n prog w K pr lo mean mg mb lv (inOp K neg) (compareOp (if neg then .NotIn else .In)) := by
  intro a b st k hr c m s p led x y Q E hC ha hb hf hQ
  unfold inOp at hr
  dsimp only at hr
  split at hr
  · rename_i r he
    have hX : K.In s.heap := hC.X.keeps hf.F.keep
    have hq : ∀ t, Q (.bool (r != neg)) { heap := s.heap, gens := s.gens, drawn := s.drawn, toks := t, os := s.os } := fun t => hQ.toks (x := AV.bool (r != neg)) hr rfl hf
    unfold inA at he
    split at he
    · rename_i x
      obtain ⟨t, rfl⟩ := ha
      split at he
      · rename_i kvs hk
        cases he
        obtain ⟨d, ob, l, rfl, hm, hd, hl, hn⟩ := strDict_ok hk hf hb
        have hz : (valueAt l x).isSome = (lk kvs x).isSome := by
          have := lk_valueAt hl x
          cases q : lk kvs x with
          | none => rw [q] at this; rw [this]; rfl
          | some a => rw [q] at this; obtain ⟨v, h1, _⟩ := this; rw [h1]; rfl
        cases neg with
        | true =>
          refine wpAny_notIn_of (knd := PySem.strKind prog w) (k := x) ?_ hn (kda_dict hf.N hm hd).mapOf ?_
          · exact strKind_is _ _ _ _
          · rw [hz]
            have := hq (s.toks + 1)
            cases q : (lk kvs x).isSome <;> (rw [q] at this; exact this)
        | false =>
          refine kda_in hf.N hm hd hn ?_ _ hz ?_
          · exact strKind_is _ _ _ _
          · have := hq (s.toks + 1)
            cases q : (lk kvs x).isSome <;> (rw [q] at this; exact this)
      · split at he
        · rename_i its hi
          obtain ⟨d, vs, rfl, hd, hl⟩ := tupItems_ok hi hf hX hb
          split at he
          · rename_i ys q
            cases he
            have hs := strsOf_ok q hl
            have hq' := hq s.toks
            cases neg with
            | true => exact PyProof.Rows.notin_tuple_strs hd (by simpa using hs) (by simpa using hq')
            | false => exact PyProof.Rows.in_tuple_strs hd (by simpa using hs) (by simpa using hq')
          · cases he
        · split at he
          · rename_i its hi
            split at he
            · cases he
            · split at he
              · rename_i ys q
                cases he
                obtain ⟨d, vs, rfl, hd, hl⟩ := listItems_ok hi hf hb
                exact PyProof.Rows.in_list_strs hd (strsOf_ok q hl) (by simpa using hq s.toks)
              · cases he
          · cases he
    · rename_i x
      obtain ⟨t, rfl⟩ := ha
      split at he
      · rename_i its hi
        obtain ⟨d, vs, rfl, hd, hl⟩ := tupItems_ok hi hf hX hb
        split at he
        · rename_i ys q
          cases he
          have hs := intsOf_ok q hl
          have hq' := hq s.toks
          cases neg with
          | true => exact PyProof.Rows.notin_tuple_ints hd (by simpa using hs) (by simpa using hq')
          | false => exact PyProof.Rows.in_tuple_ints hd (by simpa using hs) (by simpa using hq')
        · cases he
      · cases he
    · cases he
  · cases hr

theorem cmpOp_ok (op : CmpOp) : Op2OK n prog w K pr lo mean mg mb lv (cmpOp K op) (compareOp op) := by
  cases op with
  | Eq => exact eqOp_ok false
  | NotEq => exact eqOp_ok true
  | Is => exact isOp_ok false
  | IsNot => exact isOp_ok true
  | In => exact inOp_ok false
  | NotIn => exact inOp_ok true
  | Lt => exact int2_ok fun h => PyProof.Rows.lt_int (h _ _ fun p => rfl)
  | LtE => exact int2_ok fun h => PyProof.Rows.le_int (h _ _ fun p => rfl)
  | Gt => exact int2_ok fun h => PyProof.Rows.gt_int (h _ _ fun p => rfl)
  | GtE => exact int2_ok fun h => PyProof.Rows.ge_int (h _ _ fun p => rfl)
end
end PH
end
section
open PySem PySem.W PySem.Calls PyProof.Rows
set_option Elab.async false
set_option maxRecDepth 100000
set_option linter.unusedVariables false
namespace PH
section
variable {prog : Program} {w : World} {PF : Addr} {K : Frag} {pr : Program} {lo : List Str} {mean : ExcName → Option Value} {mg mb : Str → Option Value} {lv : Bool}
variable {c : Cx} {p : Mp} {s : Shared} {m mv : Str → Option Value} {E : Value → Shared → Prop} {led : List (Addr × Obj)} {st : St} {env : Env} {sc : Scope} {n : Nat} {h : Heap} {r : Rec}

theorem al_eq (st : St) (o : AO) (k : KB) : st.al o k = k (.obj st.nxt) { objs := (st.nxt, o) :: st.objs, nxt := st.nxt + 1, nn := st.nn } := by
  unfold St.al frc
  cases st.nxt <;> rfl
theorem Mp.addA_at {p : Mp} {D : Addr} {k : Nat} (h : p.as.length = k) : (p.addA D).as[k]? = some D := by
  subst h
  simp [Mp.addA]
theorem Fm.alloc (f : Fm prog w c m h st p led) {h' : Heap} {D : Addr} {ob : Obj} {o : AO} (F' : Fr c.h₀ c.L h' m) (N' : News c.h₀ c.L h' ((D, ob) :: (c.X ++ led))) (hlt : ∀ q ∈ c.X ++ led, q.1 ≠ D)
    (ho : ORel prog w (p.addA D) st.nxt o [(D, ob)]) : Fm prog w c m h' { objs := (st.nxt, o) :: st.objs, nxt := st.nxt + 1, nn := st.nn } (p.addA D) ((D, ob) :: led) := by
  refine ⟨F', fun q hq => N' q ?_, ?_, .cons ho (f.H.le (p.le_addA D)), by simp [Mp.addA, f.na], f.nn⟩
  · rcases List.mem_append.mp hq with z | z
    · exact .tail _ (List.mem_append_left _ z)
    · rcases List.mem_cons.mp z with rfl | z
      · exact .head _
      · exact .tail _ (List.mem_append_right _ z)
  · have hn := f.nd
    rw [List.map_append, List.map_cons]
    rw [List.map_append] at hn
    refine (List.perm_middle.nodup_iff).mpr (List.nodup_cons.mpr ⟨fun q => ?_, hn⟩)
    rw [← List.map_append] at q
    obtain ⟨y, hy, e⟩ := List.mem_map.mp q
    exact hlt y hy e
theorem al_post {k : KB} {Q : Value → Shared → Prop} {o : AO} {h' : Heap} {D : Addr} {ob : Obj} {tk : Nat} (hr : st.al o k = true) (hQ : Post prog w RV c m p k Q s) (f : Fm prog w c m s.heap st p led) (F' : Fr c.h₀ c.L h' m)
    (N' : News c.h₀ c.L h' ((D, ob) :: (c.X ++ led))) (hlt : ∀ q ∈ c.X ++ led, q.1 < D) (ho : ORel prog w (p.addA D) st.nxt o [(D, ob)]) : Q (.ref D) { heap := h', gens := s.gens, drawn := s.drawn, toks := tk, os := s.os } := by
  rw [al_eq] at hr
  exact hQ (.obj st.nxt) _ (.ref D) _ _ _ hr (Sm.mk s _ _) (p.le_addA D) ⟨D, Mp.addA_at f.na, rfl⟩ (f.alloc F' N' (fun q hq e => absurd (hlt q hq) (by rw [e]; exact Nat.lt_irrefl _)) ho)

theorem size_ok {xs : List AV} {vs : List Value} (h : Nat.blt xs.length 1000 = true) (hl : L2 (VRel p) xs vs) : vs.length ≤ 1000 := by
  rw [Nat.blt_eq, hl.len] at h
  omega
theorem al_post' {k : KB} {Q : Value → Shared → Prop} {o : AO} {h' : Heap} {D : Addr} {ob : Obj} {tk : Nat} (hr : st.al o k = true) (hQ : Post prog w RV c m p k Q s) (f : Fm prog w c m h st p led) (F' : Fr c.h₀ c.L h' m)
    (N' : News c.h₀ c.L h' ((D, ob) :: (c.X ++ led))) (hlt : ∀ q ∈ c.X ++ led, q.1 ≠ D) (ho : ORel prog w (p.addA D) st.nxt o [(D, ob)]) : Q (.ref D) { heap := h', gens := s.gens, drawn := s.drawn, toks := tk, os := s.os } := by
  rw [al_eq] at hr
  exact hQ (.obj st.nxt) _ (.ref D) _ _ _ hr (Sm.mk s _ _) (p.le_addA D) ⟨D, Mp.addA_at f.na, rfl⟩ (f.alloc F' N' hlt ho)
theorem list_ok (R : RecOK prog w PF K pr lo mean mg mb lv n r) (es : List Expr) (pos : Pos) : EvOK prog w PF K pr lo mean mg mb lv n ((listC sc es).run r) (.List es pos) sc := by
  intro vars st k kx hr c env m mv s p led Q E hC hE hV hf hQ hX
  unfold listC at hr
  split at hr
  · rename_i hb
    dsimp only at hr
    refine List_ (evs_ok R es hb vars st _ kx hr c env m mv s p led _ E pos hC hE hV hf (fun as st' vs s' p' led' hk hsm hl hvs hf' => ?_) hX)
    dsimp only at hk
    split at hk
    · rename_i hz
      have hlen : vs.length ≤ sizeLine := Nat.le_trans (size_ok hz hvs) (by decide)
      exact newList_K hf'.F hf'.N (fun D h' F' N' hlt => al_post hk (hQ.step hl hsm) hf' F' N' hlt ⟨D, vs, 0, Mp.addA_at hf'.na, rfl, hvs.mono fun _ _ z => z.le (p'.le_addA D)⟩) hlen
    · cases hk
  · cases hr
theorem tuple_ok (R : RecOK prog w PF K pr lo mean mg mb lv n r) (es : List Expr) (kd : Nat) (pos : Pos) : EvOK prog w PF K pr lo mean mg mb lv n ((tupC sc es).run r) (.Tuple es kd pos) sc := by
  intro vars st k kx hr c env m mv s p led Q E hC hE hV hf hQ hX
  unfold tupC at hr
  split at hr
  · rename_i hb
    dsimp only at hr
    refine Tuple_ (evs_ok R es hb vars st _ kx hr c env m mv s p led _ E pos hC hE hV hf (fun as st' vs s' p' led' hk hsm hl hvs hf' => ?_) hX)
    dsimp only at hk
    split at hk
    · rename_i hz
      have hlen : vs.length ≤ sizeLine := Nat.le_trans (size_ok hz hvs) (by decide)
      exact kup_newTuple hf'.F hf'.N (fun D h' F' N' hlt => al_post hk (hQ.step hl hsm) hf' F' N' hlt ⟨D, vs, Mp.addA_at hf'.na, rfl, hvs.mono fun _ _ z => z.le (p'.le_addA D)⟩) hlen
    · cases hk
  · cases hr

theorem binop_ok (R : RecOK prog w PF K pr lo mean mg mb lv n r) (a b : Expr) (op : Operator) (pos : Pos) :
    EvOK prog w PF K pr lo mean mg mb lv n (fun vars st k kx => r.ev sc a vars st (fun x st => r.ev sc b vars st (fun y st => (binOp op).run x y st k) kx) kx) (.BinOp a op b pos) sc := by
  intro vars st k kx hr c env m mv s p led Q E hC hE hV hf hQ hX
  refine wpAny_BinOp (R.ev sc a vars st _ kx hr c env m mv s p led _ E hC hE hV hf (fun x st' u s' p' led' hk hsm hl hu hf' => ?_) hX)
  refine R.ev sc b vars st' _ kx hk c env m mv s' p' led' _ E hC hE (hV.le hl) hf' (fun y st'' v s'' p'' led'' hk' hsm' hl' hv hf'' => ?_) (hX.step hl hsm)
  exact binOp_ok op x y st'' k hk' c m s'' p'' led'' u v Q E hC (hu.le hl') hv hf'' ((hQ.step hl hsm).step hl' hsm')

theorem cmp1_ok (R : RecOK prog w PF K pr lo mean mg mb lv n r) (l x : Expr) (op : CmpOp) (pos : Pos) (hb : behindInMarks op x = false) : EvOK prog w PF K pr lo mean mg mb lv n ((cmp1 K sc l op x).run r) (.Compare l [op] [x] pos) sc := by
  intro vars st k kx hr c env m mv s p led Q E hC hE hV hf hQ hX
  refine wpAny_Compare1 (R.ev sc l vars st _ kx hr c env m mv s p led _ E hC hE hV hf (fun a st' u s' p' led' hk hsm hl hu hf' => ?_) hX) hb
  refine R.ev sc x vars st' _ kx hk c env m mv s' p' led' _ E hC hE (hV.le hl) hf' (fun y st'' v s'' p'' led'' hk' hsm' hl' hv hf'' => ?_) (hX.step hl hsm)
  exact cmpOp_ok op a y st'' k hk' c m s'' p'' led'' u v Q E hC (hu.le hl') hv hf'' ((hQ.step hl hsm).step hl' hsm')
theorem cmp2_ok (R : RecOK prog w PF K pr lo mean mg mb lv n r) (l x y : Expr) (op1 op2 : CmpOp) (pos : Pos) (hb : lastMarks [op1, op2] [x, y] = false) : EvOK prog w PF K pr lo mean mg mb lv n ((cmp2 K sc l op1 op2 x y).run r) (.Compare l [op1, op2] [x, y] pos) sc := by
  intro vars st k kx hr c env m mv s p led Q E hC hE hV hf hQ hX
  refine Compare_chain (R.ev sc l vars st _ kx hr c env m mv s p led _ E hC hE hV hf (fun a st1 u s1 p1 led1 hk1 hsm1 hl1 hu hf1 => chain_link ?_) hX) hb
  refine R.ev sc x vars st1 _ kx hk1 c env m mv s1 p1 led1 _ E hC hE (hV.le hl1) hf1 (fun b st2 v s2 p2 led2 hk2 hsm2 hl2 hv hf2 => ?_) (hX.step hl1 hsm1)
  refine cmpOp_ok op1 a b st2 _ hk2 c m s2 p2 led2 u v _ E hC (hu.le hl2) hv hf2 (fun t st3 q s3 p3 led3 hk3 hsm3 hl3 hq hf3 => ?_)
  refine truthA_ok hk3 hq fun z hz => ?_
  cases z with
  | false =>
    exact ((((hQ.step hl1 hsm1).step hl2 hsm2).step hl3 hsm3)).here hz hq hf3
  | true =>
    refine chain_last (R.ev sc y vars st3 _ kx hz c env m mv s3 p3 led3 _ E hC hE (((hV.le hl1).le hl2).le hl3) hf3 (fun d st4 v4 s4 p4 led4 hk4 hsm4 hl4 hv4 hf4 => ?_) (((hX.step hl1 hsm1).step hl2 hsm2).step hl3 hsm3))
    exact cmpOp_ok op2 b d st4 k hk4 c m s4 p4 led4 v v4 Q E hC ((hv.le hl3).le hl4) hv4 hf4 ((((hQ.step hl1 hsm1).step hl2 hsm2).step hl3 hsm3).step hl4 hsm4)
theorem cmpC_ok (R : RecOK prog w PF K pr lo mean mg mb lv n r) (l : Expr) (ops : List CmpOp) (rs : List Expr) (pos : Pos) : EvOK prog w PF K pr lo mean mg mb lv n ((cmpC K sc l ops rs).run r) (.Compare l ops rs pos) sc := by
  intro vars st k kx hr
  unfold cmpC at hr
  split at hr
  · cases hr
  · rename_i hb
    split at hr
    · split at hr
      · exact cmp1_ok R _ _ _ _ hb vars st k kx hr
      · cases hr
    · split at hr
      · exact cmp2_ok R _ _ _ _ _ _ hb vars st k kx hr
      · cases hr
    · cases hr

theorem boolC_ok (R : RecOK prog w PF K pr lo mean mg mb lv n r) (op : BoolOp) (es : List Expr) (pos : Pos) : EvOK prog w PF K pr lo mean mg mb lv n ((boolC sc op es pos).run r) (.BoolOp op es pos) sc := by
  intro vars st k kx hr c env m mv s p led Q E hC hE hV hf hQ hX
  unfold boolC at hr
  split at hr
  · exact BoolOp_one (R.ev sc _ vars st _ kx hr c env m mv s p led _ E hC hE hV hf hQ hX)
  · split at hr
    · refine BoolOp_and (R.ev sc _ vars st _ kx hr c env m mv s p led _ E hC hE hV hf (fun a st1 u s1 p1 led1 hk1 hsm1 hl1 hu hf1 => truthA_ok hk1 hu fun z hz => ?_) hX)
      cases z with
      | true => exact R.ev sc _ vars st1 _ kx hz c env m mv s1 p1 led1 _ E hC hE (hV.le hl1) hf1 (hQ.step hl1 hsm1) (hX.step hl1 hsm1)
      | false => exact (hQ.step hl1 hsm1).here hz hu hf1
    · refine BoolOp_or (R.ev sc _ vars st _ kx hr c env m mv s p led _ E hC hE hV hf (fun a st1 u s1 p1 led1 hk1 hsm1 hl1 hu hf1 => truthA_ok hk1 hu fun z hz => ?_) hX)
      cases z with
      | false => exact R.ev sc _ vars st1 _ kx hz c env m mv s1 p1 led1 _ E hC hE (hV.le hl1) hf1 (hQ.step hl1 hsm1) (hX.step hl1 hsm1)
      | true => exact (hQ.step hl1 hsm1).here hz hu hf1
  · cases hr

theorem unC_ok (R : RecOK prog w PF K pr lo mean mg mb lv n r) (op : UnaryOp) (x : Expr) (pos : Pos) : EvOK prog w PF K pr lo mean mg mb lv n ((unC sc op x).run r) (.UnaryOp op x pos) sc := by
  intro vars st k kx hr c env m mv s p led Q E hC hE hV hf hQ hX
  unfold unC at hr
  split at hr
  · refine UnaryOp_ (R.ev sc _ vars st _ kx hr c env m mv s p led _ E hC hE hV hf (fun a st1 u s1 p1 led1 hk1 hsm1 hl1 hu hf1 => not_of (truthA_ok hk1 hu fun z hz => ?_)) hX)
    exact (hQ.step hl1 hsm1).here (x := AV.bool (!z)) hz rfl hf1
  · refine UnaryOp_ (R.ev sc _ vars st _ kx hr c env m mv s p led _ E hC hE hV hf (fun a st1 u s1 p1 led1 hk1 hsm1 hl1 hu hf1 => ?_) hX)
    dsimp only at hk1
    split at hk1
    · obtain ⟨t, rfl⟩ := hu
      exact PyProof.Rows.neg_int ((hQ.step hl1 hsm1).toks hk1 ⟨_, rfl⟩ hf1)
    · cases hk1
  · cases hr

theorem ifC_ok (R : RecOK prog w PF K pr lo mean mg mb lv n r) (t b o : Expr) (pos : Pos) : EvOK prog w PF K pr lo mean mg mb lv n ((ifC sc t b o).run r) (.IfExp t b o pos) sc := by
  intro vars st k kx hr c env m mv s p led Q E hC hE hV hf hQ hX
  refine IfExp_ (R.ts sc t vars st _ kx hr c env m mv s p led _ E hC hE hV hf (fun a st1 u s1 p1 led1 hk1 hsm1 hl1 hu hf1 => ?_) hX)
  cases hu
  cases a with
  | true => exact R.ev sc b vars st1 _ kx hk1 c env m mv s1 p1 led1 _ E hC hE (hV.le hl1) hf1 (hQ.step hl1 hsm1) (hX.step hl1 hsm1)
  | false => exact R.ev sc o vars st1 _ kx hk1 c env m mv s1 p1 led1 _ E hC hE (hV.le hl1) hf1 (hQ.step hl1 hsm1) (hX.step hl1 hsm1)

/-- the tests -/
theorem plainT_ok (R : RecOK prog w PF K pr lo mean mg mb lv n r) (e : Expr) (hb : ∀ env whole, PySem.isTrue e env whole = (do let v ← whole; standAt e.pos; holding [v] (truthy v))) : TsOK prog w PF K pr lo mean mg mb lv n ((plainT sc e).run r) e sc := by
  intro vars st k kx hr c env m mv s p led Q E hC hE hV hf hQ hX
  refine isTrue_plain (R.ev sc e vars st _ kx hr c env m mv s p led _ E hC hE hV hf (fun a st1 u s1 p1 led1 hk1 hsm1 hl1 hu hf1 => truthA_ok hk1 hu fun z hz => ?_) hX) (hb _ _)
  exact (hQ.step hl1 hsm1).here hz rfl hf1
theorem tsC_ok (R : RecOK prog w PF K pr lo mean mg mb lv n r) (e : Expr) : TsOK prog w PF K pr lo mean mg mb lv n ((tsC K sc e).run r) e sc := by
  intro vars st k kx hr
  cases e with
  | BoolOp op es p =>
    cases op with
    | And =>
      cases es with
      | nil =>
        intro c env m mv s p led Q E hC hE hV hf hQ hX
        exact isTrue_and_nil (hQ.here hr rfl hf)
      | cons x es =>
        intro c env m mv s p led Q E hC hE hV hf hQ hX
        refine isTrue_and (R.ts sc _ vars st _ kx hr c env m mv s p led _ E hC hE hV hf (fun a st1 u s1 p1 led1 hk1 hsm1 hl1 hu hf1 => ?_) hX)
        cases hu
        cases a with
        | true => exact R.ts sc _ vars st1 _ kx hk1 c env m mv s1 p1 led1 _ E hC hE (hV.le hl1) hf1 (hQ.step hl1 hsm1) (hX.step hl1 hsm1)
        | false => exact (hQ.step hl1 hsm1).here hk1 rfl hf1
    | Or =>
      cases es with
      | nil =>
        intro c env m mv s p led Q E hC hE hV hf hQ hX
        exact isTrue_or_nil (hQ.here hr rfl hf)
      | cons x es =>
        intro c env m mv s p led Q E hC hE hV hf hQ hX
        refine isTrue_or (R.ts sc _ vars st _ kx hr c env m mv s p led _ E hC hE hV hf (fun a st1 u s1 p1 led1 hk1 hsm1 hl1 hu hf1 => ?_) hX)
        cases hu
        cases a with
        | false => exact R.ts sc _ vars st1 _ kx hk1 c env m mv s1 p1 led1 _ E hC hE (hV.le hl1) hf1 (hQ.step hl1 hsm1) (hX.step hl1 hsm1)
        | true => exact (hQ.step hl1 hsm1).here hk1 rfl hf1
  | UnaryOp op x p =>
    cases op with
    | Not =>
      intro c env m mv s p led Q E hC hE hV hf hQ hX
      refine isTrue_not (R.ts sc _ vars st _ kx hr c env m mv s p led _ E hC hE hV hf (fun a st1 u s1 p1 led1 hk1 hsm1 hl1 hu hf1 => ?_) hX)
      cases hu
      exact (hQ.step hl1 hsm1).here hk1 rfl hf1
    | _ => exact (Bool.false_ne_true hr).elim
  | Compare l ops rs pos =>
    unfold tsC at hr
    dsimp only at hr
    split at hr
    · exact (Bool.false_ne_true hr).elim
    · rename_i hb
      cases ops with
      | nil => exact (Bool.false_ne_true hr).elim
      | cons op1 ops =>
        cases ops with
        | nil =>
          cases rs with
          | nil => exact (Bool.false_ne_true hr).elim
          | cons x rs =>
            cases rs with
            | cons => exact (Bool.false_ne_true hr).elim
            | nil =>
              intro c env m mv s p led Q E hC hE hV hf hQ hX
              refine wpAny_isTrue_Compare1 (R.ev sc l vars st _ kx hr c env m mv s p led _ E hC hE hV hf (fun a st' u s' p' led' hk hsm hl hu hf' => ?_) hX) hb
              refine R.ev sc x vars st' _ kx hk c env m mv s' p' led' _ E hC hE (hV.le hl) hf' (fun y st'' v s'' p'' led'' hk' hsm' hl' hv hf'' => ?_) (hX.step hl hsm)
              refine cmpOp_ok op1 a y st'' _ hk' c m s'' p'' led'' u v _ E hC (hu.le hl') hv hf'' (fun t st3 q s3 p3 led3 hk3 hsm3 hl3 hq hf3 => truthA_ok hk3 hq fun z hz => ?_)
              exact (((hQ.step hl hsm).step hl' hsm').step hl3 hsm3).here hz rfl hf3
        | cons op2 ops =>
          cases ops with
          | cons => exact (Bool.false_ne_true hr).elim
          | nil =>
            cases rs with
            | nil => exact (Bool.false_ne_true hr).elim
            | cons x rs =>
              cases rs with
              | nil => exact (Bool.false_ne_true hr).elim
              | cons y rs =>
                cases rs with
                | cons => exact (Bool.false_ne_true hr).elim
                | nil =>
                  intro c env m mv s p led Q E hC hE hV hf hQ hX
                  refine isTrue_chain (R.ev sc l vars st _ kx hr c env m mv s p led _ E hC hE hV hf (fun a st1 u s1 p1 led1 hk1 hsm1 hl1 hu hf1 => test_link ?_) hX) hb
                  refine R.ev sc x vars st1 _ kx hk1 c env m mv s1 p1 led1 _ E hC hE (hV.le hl1) hf1 (fun b st2 v s2 p2 led2 hk2 hsm2 hl2 hv hf2 => ?_) (hX.step hl1 hsm1)
                  refine cmpOp_ok op1 a b st2 _ hk2 c m s2 p2 led2 u v _ E hC (hu.le hl2) hv hf2 (fun t st3 q s3 p3 led3 hk3 hsm3 hl3 hq hf3 => truthA_ok hk3 hq fun z hz => ?_)
                  have hQ3 := ((hQ.step hl1 hsm1).step hl2 hsm2).step hl3 hsm3
                  cases z with
                  | false => exact hQ3.here hz rfl hf3
                  | true =>
                    refine test_last (R.ev sc y vars st3 _ kx hz c env m mv s3 p3 led3 _ E hC hE (((hV.le hl1).le hl2).le hl3) hf3 (fun d st4 v4 s4 p4 led4 hk4 hsm4 hl4 hv4 hf4 => ?_) (((hX.step hl1 hsm1).step hl2 hsm2).step hl3 hsm3))
                    refine cmpOp_ok op2 b d st4 _ hk4 c m s4 p4 led4 v v4 _ E hC ((hv.le hl3).le hl4) hv4 hf4 (fun t st5 q s5 p5 led5 hk5 hsm5 hl5 hq hf5 => truthA_ok hk5 hq fun z hz => ?_)
                    exact ((hQ3.step hl4 hsm4).step hl5 hsm5).here hz rfl hf5
  | Name x p => exact plainT_ok R _ (fun _ _ => rfl) vars st k kx hr
  | Call f a ks p => exact plainT_ok R _ (fun _ _ => rfl) vars st k kx hr
  | Attribute o x p => exact plainT_ok R _ (fun _ _ => rfl) vars st k kx hr
  | _ => exact (Bool.false_ne_true hr).elim
end
end PH
end
section
open PySem PySem.W PySem.Calls PyProof.Rows
set_option Elab.async false
set_option maxRecDepth 100000
set_option linter.unusedVariables false
namespace PH
section
variable {prog : Program} {w : World} {PF : Addr} {K : Frag} {pr : Program} {lo : List Str} {mean : ExcName → Option Value} {mg mb : Str → Option Value} {lv : Bool}
variable {c : Cx} {p : Mp} {s : Shared} {m mv : Str → Option Value} {E : Value → Shared → Prop} {led : List (Addr × Obj)} {st : St} {env : Env} {sc : Scope} {n : Nat} {h : Heap} {r : Rec}

theorem itemsA_ok {v : AV} {x : Value} {xs : List AV} (e : itemsA K v st = some xs) (hf : Fm prog w c m h st p led) (hX : K.In h) (hv : VRel p v x) :
    ∃ a vs, x = .ref a ∧ (h.IsList a vs.toArray ∨ IsTup h a vs.toArray) ∧ L2 (VRel p) xs vs := by
  unfold itemsA at e
  split at e
  · split at e
    · rename_i i xs' hi
      cases e
      obtain ⟨a, vs, k, ha, _, hr, ht, _⟩ := hf.list hi
      exact ⟨a, vs, hv.obj_eq ha, .inl ht, hr⟩
    · rename_i i xs' hi
      cases e
      obtain ⟨a, vs, ha, _, hr, ht, _⟩ := hf.tup hi
      exact ⟨a, vs, hv.obj_eq ha, .inr ht, hr⟩
    · cases e
  · obtain ⟨vs, ht, hr, _⟩ := progTup_ok e hX p
    exact ⟨_, vs, hv, .inr ht, hr⟩
  · cases e
theorem nth_ok {α β : Type} {R : α → β → Prop} {xs : List α} {vs : List β} {i : Int} {a : α} (h : nth xs i = some a) (hl : L2 R xs vs) : 0 ≤ i ∧ i < 2 ^ 63 ∧ seqIndex? i vs.length = some i.toNat ∧ ∃ v, vs[i.toNat]? = some v ∧ R a v := by
  unfold nth at h
  split at h
  · rename_i k
    split at h
    · rename_i hk
      rw [Nat.blt_eq] at hk
      obtain ⟨v, hv, hr⟩ := hl.get h
      have hlt := (List.getElem?_eq_some_iff.mp hv).1
      refine ⟨Int.natCast_nonneg k, ?_, ?_, v, hv, hr⟩
      · show ((k : Nat) : Int) < 2 ^ 63
        omega
      · unfold seqIndex?
        have h1 : ¬ ((Int.ofNat k) < 0) := by show ¬ ((k : Int) < 0); omega
        simp only [h1, if_false]
        have h2 : (decide (0 ≤ Int.ofNat k) && decide (Int.ofNat k < (vs.length : Int))) = true := by
          simp only [Bool.and_eq_true, decide_eq_true_eq]
          exact ⟨Int.natCast_nonneg k, by show ((k : Nat) : Int) < _; omega⟩
        rw [if_pos h2]
    · cases h
  · cases h

theorem itemA_ok {value slice : Expr} {ov iv : AV} {o i : Value} {k : KB} {Q : Value → Shared → Prop} (hs : ∀ o i, subscripted slice false o i = operate [o, i] (getItem o i)) (hr : itemA K ov iv st k = true) (hC : CxOK K pr lo mean mg mb lv n c) (ho : VRel p ov o) (hi : VRel p iv i)
    (hf : Fm prog w c m s.heap st p led) (hQ : Post prog w RV c m p k Q s) : wpAny (model prog w) c.A (subscriptTail value slice o i) Q E s := by
  have hX : K.In s.heap := hC.X.keeps hf.F.keep
  unfold itemA at hr
  split at hr
  · obtain ⟨t, rfl⟩ := hi
    split at hr
    · rename_i xs hx
      split at hr
      · rename_i a ha
        obtain ⟨d, vs, rfl, hd, hl⟩ := itemsA_ok hx hf hX ho
        obtain ⟨h0, h1, h2, v, hv, hav⟩ := nth_ok ha hl
        rcases hd with hd | hd
        · exact tail_any hd.typeIs slot_list_getitem.lookup (wpAny_getItem_list hd h0 h1 (by simpa using hv) (hQ.here hr hav hf)) (hs _ _)
        · have ht : s.TypeIs (.ref d) "tuple" := by obtain ⟨o, ho, hc, _⟩ := hd; exact ⟨o, ho, hc⟩
          exact tail_any ht slot_tuple_getitem.lookup (PyProof.Rows.getItem_tuple hd (by omega) h1 (by simpa using h2) (by simpa using hv) (hQ.here hr hav hf)) (hs _ _)
      · cases hr
    · cases hr
  · rename_i x
    obtain ⟨t, rfl⟩ := hi
    split at hr
    · rename_i kvs hk
      split at hr
      · rename_i a ha
        obtain ⟨d, ob, l, rfl, hm, hd, hl, hn⟩ := strDict_ok hk hf ho
        have hD := kda_dict hf.N hm hd
        have := lk_valueAt hl x
        rw [ha] at this
        obtain ⟨v, hv, hav⟩ := this
        exact tail_any hD.typeIs slot_dict_getitem.lookup (wpAny_getItem_of (knd := PySem.strKind prog w) (k := x) (strKind_is _ _ _ _) hD.mapOf hv (hQ.toks hr hav hf)) (hs _ _)
      · cases hr
    · cases hr
  · cases hr

theorem natOf_ok {v : AV} {x : Value} {k : Nat} (e : natOf v = some k) (hv : VRel p v x) : ∃ t, x = .int (k : Int) t := by
  unfold natOf at e
  split at e
  · cases e
    obtain ⟨t, rfl⟩ := hv
    exact ⟨t, rfl⟩
  · cases e
theorem slice_sub {o i : Value} {lo hi : Option Expr} {sp : Pos} : subscripted (.Slice lo hi none sp) false o i = operate [i, o] (getItem o i) := rfl
theorem let_str {value : Expr} {x : Str} {t : Tok} (r : Value) : letTemporaryGo value (.str x t) r = pure () := by
  cases value <;> rfl
theorem let_name {value : Expr} (h : isName value = true) (o r : Value) : letTemporaryGo value o r = pure () := by
  cases value <;> first | rfl | cases h

theorem subLo_ok (R : RecOK prog w PF K pr lo mean mg mb lv n r) (o l : Expr) (sp pos : Pos) :
    EvOK prog w PF K pr lo mean mg mb lv n (fun vars st k kx => r.ev sc o vars st (fun ov st => r.ev sc l vars st (fun lv st => sliceA (isName o) ov (some lv) none st k) kx) kx) (.Subscript o (.Slice (some l) none none sp) pos) sc := by
  intro vars st k kx hr c env m mv s p led Q E hC hE hV hf hQ hX
  refine Subscript_ (R.ev sc o vars st _ kx hr c env m mv s p led _ E hC hE hV hf (fun ov st1 u s1 p1 led1 hk1 hsm1 hl1 hu hf1 => ?_) hX)
  refine wpAny_Slice ?_
  rw [evalPart_some, evalPart_none]
  refine R.ev sc l vars st1 _ kx hk1 c env m mv s1 p1 led1 _ E hC hE (hV.le hl1) hf1 (fun lv st2 v s2 p2 led2 hk2 hsm2 hl2 hv hf2 => ?_) (hX.step hl1 hsm1)
  refine wpAny_pure (wpAny_pure ?_)
  have hQ2 := (hQ.step hl1 hsm1).step hl2 hsm2
  have hu2 := hu.le hl2
  unfold sliceA at hk2
  dsimp only at hk2
  split at hk2
  · rename_i j hj
    obtain ⟨t, rfl⟩ := natOf_ok hj hv
    split at hk2
    · cases hk2
    · split at hk2
      · rename_i x
        split at hk2
        · rename_i hz
          rw [Nat.blt_eq] at hz
          obtain ⟨t', rfl⟩ := hu2
          refine slice_strN_sn hf2.F hf2.N (fun h' t'' tk F' N' => ?_) slice_sub let_str (Nat.le_trans (Nat.le_of_lt hz) (by decide))
          exact hQ2 (AV.str _) st2 _ _ p2 led2 hk2 (Sm.mk s2 _ _) (Mp.le.refl p2) ⟨_, rfl⟩ ⟨F', N', hf2.nd, hf2.H, hf2.na, hf2.nn⟩
        · cases hk2
      · split at hk2
        · rename_i i xs hi
          split at hk2
          · rename_i hz
            obtain ⟨hn, hz⟩ := Bool.and_eq_true_iff.mp hz
            obtain ⟨d, vs, k', hx, _, hl, ht, _⟩ := hf2.list hi
            rw [hu2.obj_eq hx]
            have hlen := size_ok hz hl
            have e : kms_pick vs.toArray.toList (some (j : Int)) none = vs.drop j := by
              unfold kms_pick kms_lo kms_hi
              have hneg : ¬ ((j : Int) < 0) := by omega
              simp only [hneg, if_false, Int.toNat_natCast]
              by_cases q : j ≤ vs.length
              · rw [Nat.min_eq_left q]
                exact List.take_of_length_le (by simp)
              · have q' : vs.length ≤ j := by omega
                rw [Nat.min_eq_right q', List.drop_of_length_le q', List.drop_of_length_le (Nat.le_refl _)]
                simp
            refine kms_slice_lit hf2.F hf2.N ht (.int _ t) .none e (fun D h' F' N' hlt => ?_) slice_sub (fun r => let_name hn _ r) (by simp; exact Nat.le_trans hlen (by decide))
            exact al_post hk2 hQ2 hf2 F' N' hlt ⟨D, vs.drop j, 0, Mp.addA_at hf2.na, rfl, (hl.drop j).mono fun _ _ z => z.le (p2.le_addA D)⟩
          · cases hk2
        · cases hk2
      · cases hk2
  · cases hk2

theorem subHi_ok (R : RecOK prog w PF K pr lo mean mg mb lv n r) (o l : Expr) (sp pos : Pos) :
    EvOK prog w PF K pr lo mean mg mb lv n (fun vars st k kx => r.ev sc o vars st (fun ov st => r.ev sc l vars st (fun lv st => sliceA (isName o) ov none (some lv) st k) kx) kx) (.Subscript o (.Slice none (some l) none sp) pos) sc := by
  intro vars st k kx hr c env m mv s p led Q E hC hE hV hf hQ hX
  refine Subscript_ (R.ev sc o vars st _ kx hr c env m mv s p led _ E hC hE hV hf (fun ov st1 u s1 p1 led1 hk1 hsm1 hl1 hu hf1 => ?_) hX)
  refine wpAny_Slice ?_
  rw [evalPart_some, evalPart_none]
  refine wpAny_pure ?_
  refine R.ev sc l vars st1 _ kx hk1 c env m mv s1 p1 led1 _ E hC hE (hV.le hl1) hf1 (fun lv st2 v s2 p2 led2 hk2 hsm2 hl2 hv hf2 => ?_) (hX.step hl1 hsm1)
  refine wpAny_pure ?_
  have hQ2 := (hQ.step hl1 hsm1).step hl2 hsm2
  have hu2 := hu.le hl2
  unfold sliceA at hk2
  dsimp only at hk2
  split at hk2
  · rename_i j hj
    obtain ⟨t, rfl⟩ := natOf_ok hj hv
    split at hk2
    · cases hk2
    · split at hk2
      · rename_i b
        split at hk2
        · rename_i hz
          obtain ⟨hn, hz⟩ := Bool.and_eq_true_iff.mp hz
          rw [Nat.blt_eq] at hz
          obtain ⟨t', rfl⟩ := hu2
          refine KBc.slice_K (hi := some (j : Int)) (lo := none) hf2.F hf2.N rfl .none (.int _ t) ?_ (fun h' t'' tk F' N' _ => ?_) slice_sub (fun r => let_name hn _ r)
          · rw [KBw.ints_length]
            simp
            omega
          · refine hQ2 (AV.bytes (b.take j)) st2 _ _ p2 led2 hk2 (Sm.mk s2 _ _) (Mp.le.refl p2) ⟨t'', ?_⟩ ⟨F', N', hf2.nd, hf2.H, hf2.na, hf2.nn⟩
            rw [KBc.picked_eq]
            have hneg : ¬ ((j : Int) < 0) := by omega
            have e : (some (j : Int)).elim b.toArray.size (clipAt b.toArray.size) - (none : Option Int).elim 0 (clipAt b.toArray.size) = min j b.length := by
              show clipAt b.toArray.size (j : Int) - 0 = min j b.length
              unfold clipAt
              simp only [hneg, if_false, List.size_toArray]
              omega
            rw [e]
            show Value.bytes ((b.drop 0).take (min j b.length)).toArray t'' = Value.bytes (b.take j).toArray t''
            rw [List.drop_zero, ← List.take_eq_take_min]
        · cases hk2
      · cases hk2
  · cases hk2
end
end PH
end
section
open PySem PySem.W PySem.Calls PyProof.Rows
set_option Elab.async false
set_option maxRecDepth 100000
set_option linter.unusedVariables false
namespace PH
section
variable {prog : Program} {w : World} {PF : Addr} {K : Frag} {pr : Program} {lo : List Str} {mean : ExcName → Option Value} {mg mb : Str → Option Value} {lv : Bool}
variable {c : Cx} {p : Mp} {s : Shared} {m mv : Str → Option Value} {E : Value → Shared → Prop} {led : List (Addr × Obj)} {st : St} {env : Env} {sc : Scope} {n : Nat} {h : Heap} {r : Rec}

theorem subIt_ok (R : RecOK prog w PF K pr lo mean mg mb lv n r) {o i : Expr} (hs : ∀ o' i', subscripted i false o' i' = operate [o', i'] (getItem o' i')) (pos : Pos) :
    EvOK prog w PF K pr lo mean mg mb lv n (fun vars st k kx => r.ev sc o vars st (fun ov st => r.ev sc i vars st (fun iv st => itemA K ov iv st k) kx) kx) (.Subscript o i pos) sc := by
  intro vars st k kx hr c env m mv s p led Q E hC hE hV hf hQ hX
  refine Subscript_ (R.ev sc o vars st _ kx hr c env m mv s p led _ E hC hE hV hf (fun ov st1 u s1 p1 led1 hk1 hsm1 hl1 hu hf1 => ?_) hX)
  refine R.ev sc i vars st1 _ kx hk1 c env m mv s1 p1 led1 _ E hC hE (hV.le hl1) hf1 (fun iv st2 v s2 p2 led2 hk2 hsm2 hl2 hv hf2 => ?_) (hX.step hl1 hsm1)
  exact itemA_ok hs hk2 hC (hu.le hl2) hv hf2 ((hQ.step hl1 hsm1).step hl2 hsm2)
theorem subC_ok (R : RecOK prog w PF K pr lo mean mg mb lv n r) (o i : Expr) (pos : Pos) : EvOK prog w PF K pr lo mean mg mb lv n ((subC K sc o i).run r) (.Subscript o i pos) sc := by
  intro vars st k kx hr
  cases i with
  | Slice a b d p =>
    cases d with
    | some => cases a <;> cases b <;> exact (Bool.false_ne_true hr).elim
    | none =>
      cases a with
      | some l =>
        cases b with
        | none => exact subLo_ok R _ _ _ _ vars st k kx hr
        | some => exact (Bool.false_ne_true hr).elim
      | none =>
        cases b with
        | some h => exact subHi_ok R _ _ _ _ vars st k kx hr
        | none => exact (Bool.false_ne_true hr).elim
  | _ => exact subIt_ok R (fun _ _ => rfl) pos vars st k kx hr

/-- more objects set aside -/
noncomputable def Cx.aside (c : Cx) (l : List (Addr × Obj)) : Cx := { c with X := l ++ c.X }
theorem CxOK.aside (h : CxOK K pr lo mean mg mb lv n c) (l : List (Addr × Obj)) : CxOK K pr lo mean mg mb lv n (c.aside l) := ⟨h.B, h.X, h.T, h.fr, h.hh, h.hd, h.hu, h.ck, h.lo⟩
theorem EnvK.aside (h : EnvK c env sc m mv) (l : List (Addr × Obj)) : EnvK (c.aside l) env sc m mv := by
  cases h with
  | fn => exact EnvK.fn (c := c.aside l)
  | comp hx hn hk hz => exact EnvK.comp (c := c.aside l) (List.mem_append_right _ hx) hn hk hz
theorem nodup_sub {l l' : List (Addr × Obj)} (h : ((l ++ l').map (·.1)).Nodup) : (l'.map (·.1)).Nodup := by
  rw [List.map_append] at h
  exact (List.nodup_append.mp h).2.1
theorem Exc.back {l : List (Addr × Obj)} {e : Addr} (x : Exc prog w PF (c.aside l) p st h e) : Exc prog w PF c p st h e := by
  obtain ⟨p', led, h1, h2, h3, h4, h5, h6⟩ := x.of
  have sub : ∀ q ∈ c.X ++ led, q ∈ (c.aside l).X ++ led := fun q hq => by
    show q ∈ (l ++ c.X) ++ led
    rw [List.append_assoc]
    exact List.mem_append_right _ hq
  refine ⟨p', led, h1, h2, nodup_sub (l := l) (by rw [← List.append_assoc]; exact h3), h4, h5, ?_⟩
  rcases h6 with ⟨g, m, a, b, d⟩ | ⟨G, m, a, b, d⟩
  · exact .inl ⟨g, m, a, b, fun q hq => d q (sub q hq)⟩
  · exact .inr ⟨G, m, a, b.sub sub, d⟩
theorem XPost.aside {kx : KX} (hX : XPost prog w PF c p kx E s) (l : List (Addr × Obj)) : XPost prog w PF (c.aside l) p kx E s :=
  fun st' s' e hk hs hx => hX st' s' e hk hs hx.back

/-- the values of a dict's display -/
theorem pairs_ok (R : RecOK prog w PF K pr lo mean mg mb lv n r) {pos : Pos} {kx : KX} : ∀ {keys : List (Option Expr)} {ks : List Str} {vals : List Expr} {vars : Vars} {st : St} {k : List AV → St → Bool} {s : Shared} {p : Mp} {led : List (Addr × Obj)} {Q : List (Value × Value) → Shared → Prop},
    litKeys keys = some ks → ks.length = vals.length → (evs sc vals).run r vars st k kx = true → CxOK K pr lo mean mg mb lv n c → EnvK c env sc m mv → VarsRel p vars mv → Fm prog w c m s.heap st p led →
    (∀ as st' vs s' p' led', k as st' = true → Sm s s' → p.le p' → allStrKeys vs = true → L2 (SKRel p') (ks.zip as) (strPairs vs) → as.length = ks.length → vs.length = ks.length → (strPairs vs).map (·.1) = ks → Fm prog w c m s'.heap st' p' led' → Q vs s') →
    XPost prog w PF c p kx E s → wpAny (model prog w) c.A (evalPairs (pairTrees keys vals env pos)) Q E s
  | [], ks, vals, vars, st, k, s, p, led, Q, hk, hlen, hr, hC, hE, hV, hf, hQ, hX => by
    cases hk
    cases vals with
    | nil => exact wpAny_pure (hQ [] st [] s p led hr (Sm.refl s) (Mp.le.refl p) rfl .nil rfl rfl rfl hf)
    | cons => cases hlen
  | none :: _, _, _, _, _, _, _, _, _, _, hk, _, _, _, _, _, _, _, _ => by cases hk
  | some key :: keys, ks, vals, vars, st, k, s, p, led, Q, hk, hlen, hr, hC, hE, hV, hf, hQ, hX => by
    unfold litKeys at hk
    split at hk
    · rename_i h; cases h
    · rename_i x kd kp r' he
      injection he with h1 h2
      injection h1 with h1
      subst h1 h2
      split at hk
      · rename_i xs hxs
        cases hk
        cases vals with
        | nil => cases hlen
        | cons v vals =>
          show wpAny (model prog w) c.A (do
            let kv ← eval (.Constant (.str x) kd kp) env
            let vv ← holding [kv] (do let x ← eval v env; standAt pos; pure x)
            return (kv, vv) :: (← holding [kv, vv] (evalPairs (pairTrees keys vals env pos)))) Q E s
          refine wpAny_bind (Constant_str ?_)
          refine wpAny_bind (wpAny_holding (wpAny_bind ?_))
          refine R.ev sc v vars st _ kx hr c env m mv _ p led _ E hC hE hV hf (fun a st1 u s1 p1 led1 hk1 hsm1 hl1 hu hf1 => ?_) (hX.step (Mp.le.refl p) (Sm.mk s _ _))
          refine wpAny_bind (wpAny_standAt (wpAny_pure ?_))
          refine wpAny_bind (wpAny_holding ?_)
          refine pairs_ok R hxs (by simpa using hlen) hk1 hC hE (hV.le hl1) hf1 (fun as st2 vs s2 p2 led2 hk2 hsm2 hl2 e1 e2 e3 e4 e5 hf2 => ?_) ((hX.step (Mp.le.refl p) (Sm.mk s _ _)).step hl1 hsm1)
          exact wpAny_pure (hQ _ _ _ _ _ _ hk2 (((Sm.mk s s.heap (s.toks + 1)).trans hsm1).trans hsm2) (hl1.trans hl2) e1 (.cons ⟨rfl, hu.le hl2⟩ e2) (by simp [e3]) (by simp [e4]) (by simp [strPairs, e5]) hf2)
      · cases hk
    · cases hk

theorem strLits_of : ∀ {keys : List (Option Expr)} {ks : List Str}, litKeys keys = some ks → strLits keys = true ∧ (keys.all fun x => x.isSome) = true ∧ keys.length = ks.length
  | [], ks, h => by cases h; exact ⟨rfl, rfl, rfl⟩
  | none :: _, _, h => by cases h
  | some key :: keys, ks, h => by
    unfold litKeys at h
    split at h
    · rename_i q; cases q
    · rename_i x kd kp r' he
      injection he with h1 h2
      injection h1 with h1
      subst h1 h2
      split at h
      · rename_i xs hxs
        cases h
        obtain ⟨e1, e2, e3⟩ := strLits_of hxs
        exact ⟨e1, by simpa using e2, by simp [e3]⟩
      · cases h
    · cases h

theorem dictC_ok (R : RecOK prog w PF K pr lo mean mg mb lv n r) (keys : List (Option Expr)) (vals : List Expr) (pos : Pos) : EvOK prog w PF K pr lo mean mg mb lv n ((dictC sc keys vals).run r) (.Dict keys vals pos) sc := by
  intro vars st k kx hr c env m mv s p led Q E hC hE hV hf hQ hX
  unfold dictC at hr
  split at hr
  · split at hr
    · dsimp only at hr
      exact newDict_K hf.F hf.N hC.T.nolimit (fun d h' o F' N' hlt hn h1 _ h2 _ => al_post hr hQ hf F' N' hlt ⟨d, o, Mp.addA_at hf.na, rfl, h1, h2, hn⟩)
    · cases hr
  · rename_i hne
    split at hr
    · rename_i ks hks
      split at hr
      · rename_i hb
        simp only [Bool.and_eq_true, Nat.blt_eq, decide_eq_true_eq] at hb
        obtain ⟨⟨hb1, hb2⟩, hnd⟩ := hb
        have hb1 := Nat.eq_of_beq_eq_true hb1
        dsimp only at hr
        obtain ⟨e1, e2, e3⟩ := strLits_of hks
        refine kdn_str e1 hf.F hf.N hC.T.nolimit e2 (by rw [e3, hb1]) hne (by omega) (fun d h' o F' N' hlt hn hd => ?_)
        have hf1 : Fm prog w (c.aside [(d, o)]) m h' st p led := by
          refine ⟨F', N', ?_, hf.H, hf.na, hf.nn⟩
          show ((d :: (c.X ++ led).map (·.1))).Nodup
          refine List.nodup_cons.mpr ⟨fun q => ?_, hf.nd⟩
          obtain ⟨y, hy, e⟩ := List.mem_map.mp q
          exact absurd (hlt y hy) (by rw [e]; exact Nat.lt_irrefl _)
        refine pairs_ok (c := c.aside [(d, o)]) R hks hb1 hr (hC.aside [(d, o)]) (hE.aside [(d, o)]) hV hf1 (fun as st1 vs s1 p1 led1 hk1 hsm1 hl1 g1 g2 g3 g4 g5 hf2 => ?_) ((hX.aside _).step (Mp.le.refl p) (Sm.mk s _ _))
        have hnd2 : (d :: (c.X ++ led1).map (·.1)).Nodup := hf2.nd
        have N2 : News c.h₀ c.L s1.heap ((d, o) :: (c.X ++ led1)) := hf2.N
        refine kdn_made_str (news := (d, o) :: (c.X ++ led1)) hf2.F N2 (UpdF.head fun q hq e => (List.nodup_cons.mp hnd2).1 (List.mem_map.mpr ⟨q, hq, e⟩)) hd g1 (by rw [g5]; exact hnd) (fun h2 o2 F2 N2 hd2 => ?_)
        have hs2 : Sm s { heap := h2, gens := s1.gens, drawn := s1.drawn, toks := s1.toks + vs.length, os := s1.os } := ((Sm.mk s h' s.toks).trans hsm1).trans (Sm.mk s1 _ _)
        have hf3 : Fm prog w c m s1.heap st1 p1 led1 := ⟨hf2.F, fun q hq => hf2.N q (.tail _ hq), (List.nodup_cons.mp hnd2).2, hf2.H, hf2.na, hf2.nn⟩
        refine al_post' (s := s1) hk1 (((hQ.step (Mp.le.refl p) (Sm.mk s h' s.toks)).step hl1 hsm1)) hf3 F2 N2 (fun q hq e => (List.nodup_cons.mp hnd2).1 (List.mem_map.mpr ⟨q, hq, e⟩)) ⟨d, o2, strPairs vs, Mp.addA_at hf3.na, rfl, hd2, ?_, hn⟩
        exact g2.mono fun _ _ z => z.le (p1.le_addA d)
      · cases hr
    · cases hr
end
end PH
end
section
open PySem PySem.W PySem.Calls PyProof.Rows PyProof.Rows.LCg
set_option Elab.async false
set_option maxRecDepth 100000
set_option linter.unusedVariables false
namespace PH
section
variable {prog : Program} {w : World} {PF : Addr} {K : Frag} {pr : Program} {lo : List Str} {mean : ExcName → Option Value} {mg mb : Str → Option Value} {lv : Bool}
variable {c : Cx} {p : Mp} {s : Shared} {m mv : Str → Option Value} {E : Value → Shared → Prop} {led : List (Addr × Obj)} {st : St} {env : Env} {sc : Scope} {n : Nat} {h : Heap} {r : Rec}

/-- the state and its ledger, without a heap -/
structure Ld (prog : Program) (w : World) (c : Cx) (st : St) (p : Mp) (led : List (Addr × Obj)) : Prop where
  nd : ((c.X ++ led).map (·.1)).Nodup
  H : HRel prog w p st.objs led
  na : p.as.length = st.nxt
  nn : p.ns.length = st.nn
theorem Fm.ld (f : Fm prog w c m h st p led) : Ld prog w c st p led := ⟨f.nd, f.H, f.na, f.nn⟩
theorem Ld.fm (f : Ld prog w c st p led) (F : Fr c.h₀ c.L h m) (N : News c.h₀ c.L h (c.X ++ led)) : Fm prog w c m h st p led := ⟨F, N, f.nd, f.H, f.na, f.nn⟩

theorem closure_none {csc : Scope} {env : Env} (h : ∀ y ∈ csc.names, y.2 ≠ .free) : closureFor csc env = pure [] := by
  have go : ∀ (l : List (Str × NameKind)), (∀ y ∈ l, y.2 ≠ .free) → (forIn l ([] : List (Str × Addr)) fun x r => (match x with
        | (name, kind) => if (kind == NameKind.free) = true then do
            let a ← cellOf env name
            pure (ForInStep.yield ((name, a) :: r))
          else pure (ForInStep.yield r) : Sem (ForInStep (List (Str × Addr))))) = (pure [] : Sem (List (Str × Addr))) := by
    intro l hl
    induction l with
    | nil => rfl
    | cons a t ih =>
      obtain ⟨x, k⟩ := a
      rw [List.forIn_cons]
      have hk : (k == NameKind.free) = false := by
        have := hl (x, k) (.head _)
        simpa using this
      simp only [hk]
      exact ih fun y hy => hl y (.tail _ hy)
  have e := go csc.names h
  unfold closureFor
  show (forIn csc.names ([] : List (Str × Addr)) (fun x r => (match x with
        | (name, kind) => if (kind == NameKind.free) = true then do
            let a ← cellOf env name
            pure (ForInStep.yield ((name, a) :: r))
          else pure (ForInStep.yield r) : Sem (ForInStep (List (Str × Addr))))) >>= fun s => pure s) = pure []
  rw [e]
  rfl

theorem cscOk_iff {csc : Scope} {x : Str} (h : cscOk csc x = true) : (∀ y ∈ csc.names, y.2 ≠ .free) ∧ (∀ y ∈ csc.names, y.2 ≠ .cell) ∧ (∀ y ∈ csc.names, y.2 = .local → csc.names.lookup y.1 = some .local) ∧ csc.kind = .function ∧ csc.names.lookup x = some .local ∧ (kindA csc ".0").isSome = true := by
  unfold cscOk at h
  simp only [Bool.and_eq_true, decide_eq_true_eq, List.all_eq_true, Bool.or_eq_true] at h
  refine ⟨fun y hy => (h.1.1.1 y hy).1.1, fun y hy => (h.1.1.1 y hy).1.2, fun y hy e => ?_, h.1.1.2, h.1.2, h.2⟩
  rcases (h.1.1.1 y hy).2 with z | z
  · exact absurd e z
  · exact z

theorem compA_ok (R : RecOK prog w PF K pr lo mean mg mb lv n r) {csc : Scope} {elt : Expr} {x : Str} (hcs : csc.kind = .function) (hcz : (kindA csc ".0").isSome = true) (hC : CxOK K pr lo mean mg mb lv n c) {S : List (Addr × Obj) → Prop} (hS : ∀ led, S (c.X ++ led)) {P : Nat → Value → Prop} {k : List AV → St → Bool} {Fin : List Value → List (Addr × Obj) → Prop} {s : Shared} {p₀ : Mp} :
    ∀ {vs : List AV} {i : Nat} {acc : List AV} {ys : List Value} {st : St} {p : Mp} {led : List (Addr × Obj)}, compA r csc elt x vs acc st k = true → p₀.le p → (∀ j a, vs[j]? = some a → ∀ v, P (i + j) v → VRel p₀ a v) → L2 (VRel p) acc ys → Ld prog w c st p led →
    (∀ acc' ys' st' p' led', k acc' st' = true → p₀.le p' → L2 (VRel p') acc' ys' → Ld prog w c st' p' led' → Fin ys' (c.X ++ led')) →
    CompRest prog w c.A c.h₀ c.L m c.env elt x csc [] s S P Fin vs.length i ys (c.X ++ led)
  | [], i, acc, ys, st, p, led, hr, hl, hP, hacc, hld, hfin => CompRest.zero (hfin acc ys st p led hr hl hacc hld)
  | a :: vs, i, acc, ys, st, p, led, hr, hl, hP, hacc, hld, hfin => by
    refine CompRest.succ fun v I oI C oC D m₂ h tk E' hv hn hx F N off hd => ?_
    have hav : VRel p₀ a v := hP 0 a rfl v hv
    have hf : Fm prog w (c.aside [(I, oI), (C, oC), (D, lst ys)]) m h st p led := by
      refine ⟨F, N, ?_, hld.H, hld.na, hld.nn⟩
      show (I :: C :: D :: (c.X ++ led).map (·.1)).Nodup
      have off' := Off3.mem off
      refine List.nodup_cons.mpr ⟨fun q => ?_, List.nodup_cons.mpr ⟨fun q => ?_, List.nodup_cons.mpr ⟨fun q => ?_, hld.nd⟩⟩⟩
      · rcases List.mem_cons.mp q with e | q
        · exact hd.1 e
        · rcases List.mem_cons.mp q with e | q
          · exact hd.2.1 e
          · obtain ⟨y, hy, e⟩ := List.mem_map.mp q
            exact (off' y hy).1 e
      · rcases List.mem_cons.mp q with e | q
        · exact hd.2.2 e
        · obtain ⟨y, hy, e⟩ := List.mem_map.mp q
          exact (off' y hy).2.1 e
      · obtain ⟨y, hy, e⟩ := List.mem_map.mp q
        exact (off' y hy).2.2 e
    have hV : VarsRel p [(x, a)] m₂ := by
      intro y b e
      unfold lk at e
      split at e
      · rename_i q
        cases e
        rw [sEq_iff] at q
        subst q
        exact ⟨v, hx, hav.le hl⟩
      · cases e
    refine R.ev csc elt [(x, a)] st _ _ hr (c.aside [(I, oI), (C, oC), (D, lst ys)]) _ m m₂ { s with heap := h, toks := tk } p led _ E' (hC.aside _) (EnvK.comp (c := c.aside [(I, oI), (C, oC), (D, lst ys)]) (.tail _ (.head _)) hn hcs hcz) hV hf (fun b st' y s' p' led' hk hsm hl' hy hf' => ?_) XPost.never
    have nd' : (I :: C :: D :: (c.X ++ led').map (·.1)).Nodup := hf'.nd
    obtain ⟨n1, nd'⟩ := List.nodup_cons.mp nd'
    obtain ⟨n2, nd'⟩ := List.nodup_cons.mp nd'
    obtain ⟨n3, nd'⟩ := List.nodup_cons.mp nd'
    refine ⟨s'.heap, s'.toks, c.X ++ led', hsm, hf'.F, hf'.N, Off3.of fun q hq => ⟨fun e => n1 ?_, fun e => n2 ?_, fun e => n3 ?_⟩, hS led', ?_⟩
    · exact .tail _ (.tail _ (List.mem_map.mpr ⟨q, hq, e⟩))
    · exact .tail _ (List.mem_map.mpr ⟨q, hq, e⟩)
    · exact List.mem_map.mpr ⟨q, hq, e⟩
    · exact compA_ok R hcs hcz hC hS hk (hl.trans hl') (fun j b e v hv => hP (j + 1) b e v (Eq.subst (motive := fun z => P z v) (show i + 1 + j = i + (j + 1) by omega) hv)) ((hacc.mono fun _ _ z => z.le hl').app (.cons hy .nil)) ⟨nd', hf'.H, hf'.na, hf'.nn⟩ hfin

theorem isRange_ok {g : Str} {e : Expr} (h : isRange K sc g e = true) : globAt K sc g = some (.typ "range") ∧ noStars [e] = true := by
  unfold isRange at h
  obtain ⟨h1, h2⟩ := Bool.and_eq_true_iff.mp h
  split at h1
  · rename_i n hn
    rw [decide_eq_true_iff] at h1
    subst h1
    exact ⟨hn, h2⟩
  · cases h1

theorem range_small (j : Nat) (h : j < 1000) : Builtin.Range.small 0 (j : Int) 1 = true ∧ Builtin.Range.rangeSize 0 (j : Int) 1 = ((j : Nat) : Int) := by
  refine ⟨?_, ?_⟩
  · unfold Builtin.Range.small
    have e : Builtin.Range.rangeSize 0 (j : Int) 1 = ((j : Nat) : Int) := by
      rw [rangeSize_one]
      split <;> omega
    rw [e]
    have fits : ∀ i : Int, 0 ≤ i → i ≤ 1000 → Builtin.Range.rangeFitsLong i = true := by
      intro i h1 h2
      unfold Builtin.Range.rangeFitsLong
      simp only [Bool.and_eq_true, decide_eq_true_eq]
      omega
    rw [fits 0 (by omega) (by omega), fits j (by omega) (by omega), fits 1 (by omega) (by omega)]
    rw [if_pos (by decide : (1 : Int) > 0), fits (↑j + (1 - 1)) (by omega) (by omega)]
    simp
  · rw [rangeSize_one]
    split <;> omega
theorem upTo_len (j i : Nat) : (upTo j i).length = j := by
  induction j generalizing i with
  | zero => rfl
  | succ j ih => simp [upTo, ih]
theorem upTo_get {j i a : Nat} {x : AV} (h : (upTo j i)[a]? = some x) : x = .int ((i + a : Nat) : Int) := by
  induction j generalizing i a with
  | zero => simp [upTo] at h
  | succ j ih =>
    cases a with
    | zero => simp [upTo] at h; exact h.symm
    | succ a =>
      simp [upTo] at h
      have := ih h
      rw [this]
      congr 2
      omega

/-- a range by a known number, for the one who walks it -/
theorem range_iter (R : RecOK prog w PF K pr lo mean mg mb lv n r) {g : Str} {gp : Pos} {e : Expr} {pos : Pos} {vars : Vars} {k : AV → St → Bool} {kx : KX} {Q : Value → Shared → Prop} (hg : isRange K sc g e = true)
    (hr : r.ev sc e vars st (fun v st => match natOf v with
      | some n => (match Nat.blt n 1000 with | true => k (.int n) st | false => false)
      | none => false) kx = true)
    (hC : CxOK K pr lo mean mg mb lv n c) (hE : EnvK c env sc m mv) (hV : VarsRel p vars mv) (hf : Fm prog w c m s.heap st p led) (hX : XPost prog w PF c p kx E s)
    (h : ∀ j st' s' p' led' h' tk x t u v, k (.int (j : Nat)) st' = true → j < 1000 → Sm s s' → p.le p' → Fm prog w c m s'.heap st' p' led' → IsRange h' x 0 (j : Int) 1 t u v → Fr c.h₀ c.L h' m → News c.h₀ c.L h' (c.X ++ led') →
      Q (.ref x) { heap := h', gens := s'.gens, drawn := s'.drawn, toks := tk, os := s'.os }) :
    wpAny (model prog w) c.A (eval (.Call (.Name g gp) [e] [] pos) env) Q E s := by
  obtain ⟨hg, hs⟩ := isRange_ok hg
  refine Call_ (globAt_ok hg hC hE hf fun v hv hg' => ?_)
  rw [hg' _ rfl]
  refine callWith_ok (fv := .typ "range") rfl rfl hs rfl hC hf (.inl rfl) ?_
  show wpAny _ _ (spliced (backTo pos (starEach [e] env))) _ _ _
  refine args_cons (R.ev sc e vars st _ kx hr c env m mv s p led _ E hC hE hV hf (fun a st1 u s1 p1 led1 hk1 hsm1 hl1 hu hf1 => args_nil ⟨hC.X.keeps hf1.F.keep, ?_⟩) hX) (star_cons hs env).1
  dsimp only at hk1
  split at hk1
  · rename_i j hj
    obtain ⟨t, rfl⟩ := natOf_ok hj hu
    split at hk1
    · rename_i hz
      rw [Nat.blt_eq] at hz
      exact range1_rows hf1.F hf1.N fun h' tk t1 u1 v1 hR F' N' _ => h j st1 s1 p1 led1 h' tk _ t1 u1 v1 hk1 hz hsm1 hl1 hf1 hR F' N'
    · cases hk1
  · cases hk1

theorem lcRange_ok (R : RecOK prog w PF K pr lo mean mg mb lv n r) {csc : Scope} {elt e : Expr} {x g : Str} {xp gp cp pos : Pos} (hg : isRange K sc g e = true) (hc : cscOk csc x = true) (h0 : (kindA sc ".0").isSome = false) :
    EvOK prog w PF K pr lo mean mg mb lv n ((lcRange sc csc elt x e).run r) (.ListComp elt [⟨.Name x xp, .Call (.Name g gp) [e] [] cp, [], 0⟩] csc pos) sc := by
  intro vars st k kx hr c env m mv s p led Q E hC hE hV hf hQ hX
  obtain ⟨c1, c2, c3, c4, c5, c6⟩ := cscOk_iff hc
  cases hE with
  | comp hx hns hck hz => rw [hz] at h0; cases h0
  | fn =>
  unfold lcRange at hr
  dsimp only at hr
  refine ListComp_U (cl := []) hf.F (closure_none c1) c2 c4 c3 c5 ?_
  refine range_iter (k := fun v st => match v with
    | .int (.ofNat n) => compA r csc elt x (upTo n 0) [] st (fun ys st => st.al (.list ys) k)
    | _ => false) R hg ?_ hC EnvK.fn hV hf hX (fun j st1 s1 p1 led1 h' tk rr t u v hk hj hsm hl hf1 hR F' N' => ?_)
  · exact hr
  · obtain ⟨q1, q2⟩ := range_small j hj
    have hlen : (upTo j 0).length = j := upTo_len j 0
    refine CompSrc.range hC.hh F' N' hR q1 q2 (by unfold sizeLine; omega) (fun g => ?_)
    have := compA_ok (m := m) (led := led1) (S := fun _ => True) (P := fun i v => ∃ t, v = .int ((0 : Int) + (i : Int)) t) (Fin := FinE c.h₀ c.L m { heap := g, gens := s1.gens, drawn := s1.drawn, toks := tk, os := s1.os } Q) (s := { heap := g, gens := s1.gens, drawn := s1.drawn, toks := tk, os := s1.os }) (p₀ := p1) (i := 0) (acc := []) (ys := []) R c4 c6 hC (fun _ => trivial) hk (Mp.le.refl p1) ?_ .nil hf1.ld ?_
    · rw [hlen] at this
      exact this
    · intro i a ha v hv
      obtain ⟨t, rfl⟩ := hv
      have := upTo_get ha
      subst this
      exact ⟨t, by rw [Int.zero_add]⟩
    · intro acc' ys' st' p' led' hk' hl' hys hld D h'' tk' F'' N'' off
      have off' : ∀ q ∈ c.X ++ led', q.1 ≠ D := by
        have go : ∀ {l : List (Addr × Obj)}, Off1 D l → ∀ q ∈ l, q.1 ≠ D := by
          intro l
          induction l with
          | nil => intro _ q hq; cases hq
          | cons a t ih =>
            intro o q hq
            rcases List.mem_cons.mp hq with rfl | hq
            · exact o.1
            · exact ih o.2 q hq
        exact go off
      have hf' : Fm prog w c m h'' st' p' led' := hld.fm F'' fun q hq => N'' q (.tail _ hq)
      have hQ1 := hQ.step hl hsm
      have hQ' : Post prog w RV c m p' k Q { heap := h'', gens := s1.gens, drawn := s1.drawn, toks := tk', os := s1.os } := hQ1.step hl' (Sm.mk s1 h'' tk')
      have ho : ORel prog w (p'.addA D) st'.nxt (.list acc') [(D, PySem.W.listOf ys'.toArray ys'.length)] := ⟨D, ys', _, Mp.addA_at hf'.na, rfl, hys.mono fun _ _ z => z.le (p'.le_addA D)⟩
      exact al_post' (s := { heap := h'', gens := s1.gens, drawn := s1.drawn, toks := tk', os := s1.os }) (tk := tk') (h' := h'') hk' hQ' hf' F'' N'' off' ho
end
end PH
end
section
open PySem PySem.W PySem.Calls PyProof.Rows PyProof.Rows.LCg
set_option Elab.async false
set_option maxRecDepth 100000
set_option linter.unusedVariables false
namespace PH
section
variable {prog : Program} {w : World} {PF : Addr} {K : Frag} {pr : Program} {lo : List Str} {mean : ExcName → Option Value} {mg mb : Str → Option Value} {lv : Bool}
variable {c : Cx} {p : Mp} {s : Shared} {m mv : Str → Option Value} {E : Value → Shared → Prop} {led : List (Addr × Obj)} {st : St} {env : Env} {sc : Scope} {n : Nat} {h : Heap} {r : Rec}

theorem Ld.takeOut (f : Ld prog w c st p led) {i : Nat} {o : AO} (e : st.get i = some o) :
    ∃ b led', ORel prog w p i o b ∧ Ld prog w (c.aside b) (st.rem i) p led' ∧ ∀ q, q ∈ (c.aside b).X ++ led' → q ∈ c.X ++ led := by
  obtain ⟨b, pre, post, hl, ho, _, hrem⟩ := f.H.at e
  refine ⟨b, pre ++ post, ho, ⟨?_, hrem, f.na, f.nn⟩, fun q hq => ?_⟩
  · have hn := f.nd
    rw [hl] at hn
    show (((b ++ c.X) ++ (pre ++ post)).map (·.1)).Nodup
    refine (List.Perm.nodup_iff (List.Perm.map _ ?_)).mpr hn
    rw [List.append_assoc]
    refine (List.perm_append_comm_assoc b c.X (pre ++ post)).trans (List.Perm.append_left _ ?_)
    exact List.perm_append_comm_assoc b pre post
  · rw [hl]
    have hq : q ∈ (b ++ c.X) ++ (pre ++ post) := hq
    simp only [List.mem_append] at hq ⊢
    rcases hq with (z | z) | (z | z)
    · exact .inr (.inr (.inl z))
    · exact .inl z
    · exact .inr (.inl z)
    · exact .inr (.inr (.inr z))
theorem Ld.putBack {b : List (Addr × Obj)} (f : Ld prog w (c.aside b) st p led) {i : Nat} {o : AO} (ho : ORel prog w p i o b) : Ld prog w c { st with objs := (i, o) :: st.objs } p (b ++ led) := by
  refine ⟨?_, .cons ho f.H, f.na, f.nn⟩
  have hn : (((b ++ c.X) ++ led).map (·.1)).Nodup := f.nd
  refine (List.Perm.nodup_iff (List.Perm.map _ ?_)).mp hn
  rw [List.append_assoc]
  exact List.perm_append_comm_assoc b c.X led
theorem mem_back {b X led : List (Addr × Obj)} {q : Addr × Obj} : q ∈ X ++ (b ++ led) ↔ q ∈ (b ++ X) ++ led := by
  simp only [List.mem_append]
  constructor
  · rintro (z | z | z)
    · exact .inl (.inr z)
    · exact .inl (.inl z)
    · exact .inr z
  · rintro ((z | z) | z)
    · exact .inr (.inl z)
    · exact .inl z
    · exact .inr (.inr z)
theorem Fm.takeOut (f : Fm prog w c m h st p led) {i : Nat} {o : AO} (e : st.get i = some o) :
    ∃ b led', ORel prog w p i o b ∧ Fm prog w (c.aside b) m h (st.rem i) p led' ∧ ∀ q, q ∈ (c.aside b).X ++ led' → q ∈ c.X ++ led := by
  obtain ⟨b, led', ho, hl, hs⟩ := f.ld.takeOut e
  exact ⟨b, led', ho, hl.fm f.F fun q hq => f.N q (hs q hq), hs⟩
theorem Fm.putBack {b : List (Addr × Obj)} (f : Fm prog w (c.aside b) m h st p led) {i : Nat} {o : AO} (ho : ORel prog w p i o b) : Fm prog w c m h { st with objs := (i, o) :: st.objs } p (b ++ led) :=
  (f.ld.putBack ho).fm f.F fun q hq => f.N q (mem_back.mp hq)

/-- a comprehension over a tuple of the ledger -/
theorem ListComp_T {A : Around} {h₀ : Heap} {L : Addr} {env : Env} {elt iter : Expr} {x : Str} {px : Pos} {scope : Scope} {cl : List (Str × Addr)} {pos : Pos} {Q : Value → Shared → Prop}
    (hclos : closureFor scope env = pure cl) (hcell : ∀ y ∈ scope.names, y.2 ≠ .cell) (hkind : scope.kind = .function)
    (hnames : ∀ y ∈ scope.names, y.2 = .local → scope.names.lookup y.1 = some .local) (hx : scope.names.lookup x = some .local)
    (h : wpAny (model prog w) A (eval iter env) (fun xv s₁ => ∃ ax ot its k news, xv = .ref ax ∧ A.handled = none ∧ Fr h₀ L s₁.heap m ∧ News h₀ L s₁.heap news ∧ (ax, ot) ∈ news ∧ ot.cls = .type "tuple" ∧ ot.data = .seq its k ∧ its.size ≤ sizeLine ∧
      ∀ s₂ : Shared, (∃ h, s₂ = { s₁ with heap := h }) → CompRest prog w A h₀ L m env elt x scope cl s₂ (fun l => (ax, ot) ∈ l) (fun i v => its[i]? = some v) (FinE h₀ L m s₂ Q) its.size 0 [] news) E s)
    (hs : ∀ x, foldedSetIterable iter env x = pure x := by intro _; rfl) :
    wpAny (model prog w) A (eval (.ListComp elt [⟨.Name x px, iter, [], 0⟩] scope pos) env) Q E s := by
  rw [eval_ListComp]
  refine wpAny_comprehension_free (use := none) rfl hs hclos hkind hnames (wpAny_mono h (fun xv s₁ h₁ => ?_) fun _ _ e => e)
  obtain ⟨ax, ot, its, k, news, rfl, hh, F, N, hm, hc, hd, hsz, R⟩ := h₁
  have hl : s₁.heap.IsTuple ax its := ⟨ot, (N _ hm).1, hc, k, hd⟩
  have hlt : ax < s₁.heap.objs.size := Heap.lt_size (N _ hm).1
  refine wpAny_pyIter_tuple hl ?_
  have up : ∀ b o, s₁.heap.get? b = some o → (s₁.heap.push { cls := .type "tuple_iterator", data := .fields #[.ref ax, .int 0 0] }).get? b = some o := fun b o e => Heap.get?_push_of_some _ e
  refine block_U (Walks.tuple hh s₁.heap.objs.size ax (Nat.ne_of_lt hlt) its) hsz (fun i h st => by obtain ⟨o, e, _⟩ := st.1; exact ⟨o, e⟩) (fun i h h' o nw st e e' kk N' S => ⟨by obtain ⟨o', q, r⟩ := st.1; rw [e] at q; cases q; exact ⟨o, e', r⟩, ⟨ot, (N' _ S).1, hc, k, hd⟩⟩) hcell hkind hx
    ⟨⟨_, Heap.get?_push_size _ rfl, rfl, rfl⟩, hl.at fun o e => up _ _ e⟩ (fun b hb => ?_)
    (F.keeps up) (N.grown up) (Nat.ne_of_lt F.ns.lt) (next_is_new F) (fun q hq => Nat.ne_of_lt (Heap.lt_size (N q hq).1)) hm (R _ ⟨_, rfl⟩) ?_
  · show b < (s₁.heap.push _).objs.size
    rw [Heap.size_push]
    rcases List.mem_cons.mp hb with rfl | hb
    · exact Nat.lt_succ_self _
    · rw [List.mem_singleton.mp hb]; exact Nat.lt_succ_of_lt hlt
  · intro D C h tk m' ys news' F' N' o1 hn hC₀ hD₀ hCL hDL hCD offC fin
    refine ⟨m', hn, fun h'' hs'' => fin D h'' tk (F'.change hs'' hCL hC₀) (fun q hq => ?_) o1⟩
    refine ⟨hs''.extBut _ _ ?_ (N' q hq).1, (N' q hq).2⟩
    rcases List.mem_cons.mp hq with rfl | hq
    · exact Ne.symm hCD
    · exact offC q hq

theorem off1_ne {D : Addr} : ∀ {l : List (Addr × Obj)}, Off1 D l → ∀ q ∈ l, q.1 ≠ D
  | [], _, q, hq => by cases hq
  | a :: t, o, q, hq => by
    rcases List.mem_cons.mp hq with rfl | hq
    · exact o.1
    · exact off1_ne o.2 q hq

theorem lcTup_ok (R : RecOK prog w PF K pr lo mean mg mb lv n r) {csc : Scope} {elt : Expr} {x y : Str} {xp yp pos : Pos} (hc : cscOk csc x = true) (h0 : (kindA sc ".0").isSome = false) :
    EvOK prog w PF K pr lo mean mg mb lv n ((lcTup sc csc elt x (.Name y yp)).run r) (.ListComp elt [⟨.Name x xp, .Name y yp, [], 0⟩] csc pos) sc := by
  intro vars st k kx hr c env m mv s p led Q E hC hE hV hf hQ hX
  obtain ⟨c1, c2, c3, c4, c5, c6⟩ := cscOk_iff hc
  cases hE with
  | comp hx hns hck hz => rw [hz] at h0; cases h0
  | fn =>
  unfold lcTup at hr
  dsimp only at hr
  refine ListComp_T (cl := []) (h₀ := c.h₀) (L := c.L) (m := m) (closure_none c1) c2 c4 c3 c5 ?_
  refine R.ev c.cs _ vars st _ kx hr c _ m m s p led _ E hC EnvK.fn hV hf (fun a st1 u s1 p1 led1 hk hsm hl hu hf1 => ?_) hX
  dsimp only at hk
  split at hk
  · rename_i i
    split at hk
    · rename_i xs hi
      split at hk
      · rename_i hz
        obtain ⟨b, led', ⟨ax, vs, hax, rfl, hvs⟩, hf2, hsub⟩ := hf1.takeOut hi
        have hlen := size_ok hz hvs
        refine ⟨ax, tupOf vs, vs.toArray, 0, (c.aside [(ax, tupOf vs)]).X ++ led', hu.obj_eq hax, hC.hh, hf2.F, hf2.N, .head _, rfl, rfl, by simp; exact Nat.le_trans hlen (by decide), ?_⟩
        rintro s2 ⟨g, rfl⟩
        have := compA_ok (c := c.aside [(ax, tupOf vs)]) (m := m) (led := led') (S := fun l => (ax, tupOf vs) ∈ l) (P := fun i v => vs.toArray[i]? = some v) (Fin := FinE c.h₀ c.L m { heap := g, gens := s1.gens, drawn := s1.drawn, toks := s1.toks, os := s1.os } Q) (s := { heap := g, gens := s1.gens, drawn := s1.drawn, toks := s1.toks, os := s1.os }) (p₀ := p1) (i := 0) (acc := []) (ys := []) R c4 c6 (hC.aside _) (fun _ => .head _) hk (Mp.le.refl p1) ?_ .nil hf2.ld ?_
        · rw [hvs.len] at this
          rw [List.size_toArray]
          exact this
        · intro j a ha v hv
          obtain ⟨v', h1, h2⟩ := hvs.get ha
          have : v' = v := by
            rw [Nat.zero_add] at hv
            simp only [List.getElem?_toArray] at hv
            rw [h1] at hv
            exact Option.some.inj hv
          rw [← this]
          exact h2
        · intro acc' ys' st' p' led'' hk' hl' hys hld D h'' tk' F'' N'' off
          have ho : ORel prog w p' i (.tup xs) [(ax, tupOf vs)] := ORel.le hl' (k := i) (o := .tup xs) ⟨ax, vs, hax, rfl, hvs⟩
          have hld2 := hld.putBack ho
          have sub : ∀ q, q ∈ c.X ++ ([(ax, tupOf vs)] ++ led'') → q ∈ (c.aside [(ax, tupOf vs)]).X ++ led'' := fun q hq => mem_back.mp hq
          have hf' : Fm prog w c m h'' { st' with objs := (i, .tup xs) :: st'.objs } p' ([(ax, tupOf vs)] ++ led'') := hld2.fm F'' fun q hq => N'' q (.tail _ (sub q hq))
          have hQ1 := hQ.step hl hsm
          have hQ' : Post prog w RV c m p' k Q { heap := h'', gens := s1.gens, drawn := s1.drawn, toks := tk', os := s1.os } := hQ1.step hl' (Sm.mk s1 h'' tk')
          have ho2 : ORel prog w (p'.addA D) st'.nxt (.list acc') [(D, PySem.W.listOf ys'.toArray ys'.length)] := ⟨D, ys', _, Mp.addA_at hf'.na, rfl, hys.mono fun _ _ z => z.le (p'.le_addA D)⟩
          refine al_post' (s := { heap := h'', gens := s1.gens, drawn := s1.drawn, toks := tk', os := s1.os }) (tk := tk') (h' := h'') hk' hQ' hf' F'' (fun q hq => ?_) (fun q hq => off1_ne off q (sub q hq)) ho2
          rcases List.mem_cons.mp hq with rfl | hq
          · exact N'' _ (.head _)
          · exact N'' q (.tail _ (sub q hq))
      · cases hk
    · cases hk
  · cases hk

theorem lcC_ok (R : RecOK prog w PF K pr lo mean mg mb lv n r) (elt : Expr) (gs : List Comprehension) (csc : Scope) (pos : Pos) : EvOK prog w PF K pr lo mean mg mb lv n ((lcC K sc csc elt gs).run r) (.ListComp elt gs csc pos) sc := by
  intro vars st k kx hr
  unfold lcC at hr
  split at hr
  · cases hr
  · rename_i h0
    split at hr
    · split at hr
      · rename_i hb
        obtain ⟨hb1, hb2⟩ := Bool.and_eq_true_iff.mp hb
        exact lcRange_ok R hb1 hb2 h0 vars st k kx hr
      · cases hr
    · split at hr
      · rename_i hb
        exact lcTup_ok R hb h0 vars st k kx hr
      · cases hr
    · cases hr

/-- every expression -/
theorem evC_ok (R : RecOK prog w PF K pr lo mean mg mb lv n r) (sc : Scope) (e : Expr) : EvOK prog w PF K pr lo mean mg mb lv n ((evC K sc e).run r) e sc := by
  intro vars st k kx hr
  cases e with
  | Name x p => exact nameC_ok _ _ vars st k kx hr
  | Constant c a b => exact constC_ok _ _ _ vars st k kx hr
  | Call f args kws pos =>
    cases kws with
    | cons => exact (Bool.false_ne_true hr).elim
    | nil =>
      cases f with
      | Name f p => exact callC_ok R _ _ _ _ vars st k kx hr
      | Attribute o x p => exact methC_ok R _ _ _ _ _ vars st k kx hr
      | _ => exact (Bool.false_ne_true hr).elim
  | Attribute o x p =>
    unfold evC at hr
    dsimp only at hr
    split at hr
    · rename_i hb
      exact attr_ok R _ _ _ hb vars st k kx hr
    · cases hr
  | Subscript o i p => exact subC_ok R _ _ _ vars st k kx hr
  | Compare l ops rs p => exact cmpC_ok R _ _ _ _ vars st k kx hr
  | BoolOp op es p => exact boolC_ok R _ _ _ vars st k kx hr
  | UnaryOp op x p => exact unC_ok R _ _ _ vars st k kx hr
  | BinOp a op b p => exact binop_ok R _ _ _ _ vars st k kx hr
  | IfExp t b o p => exact ifC_ok R _ _ _ _ vars st k kx hr
  | List es p => exact list_ok R _ _ vars st k kx hr
  | Tuple es a p => exact tuple_ok R _ _ _ vars st k kx hr
  | Dict keys vals p => exact dictC_ok R _ _ _ vars st k kx hr
  | ListComp elt gs csc p => exact lcC_ok R _ _ _ _ vars st k kx hr
  | _ => exact (Bool.false_ne_true hr).elim
end
end PH
end
section
open PySem PySem.W PySem.Calls PyProof.Rows
set_option Elab.async false
set_option maxRecDepth 100000
set_option linter.unusedVariables false
namespace PH
section
variable {prog : Program} {w : World} {PF : Addr} {K : Frag} {pr : Program} {lo : List Str} {mean : ExcName → Option Value} {mg mb : Str → Option Value} {lv : Bool}
variable {c : Cx} {p : Mp} {s : Shared} {m mv : Str → Option Value} {E : Value → Shared → Prop} {led : List (Addr × Obj)} {st : St} {env : Env} {sc : Scope} {n : Nat} {h : Heap} {r : Rec}

theorem swaps_none {e : Expr} (h : noComp e = true) (t : Option Expr) (l : Nat) (env : Env) : swapsWith e t l env = pure false := by
  cases e <;> first | rfl | cases h
theorem locA_ok {x : Str} (h : locA sc x = true) : kindA sc x = some .local := by
  unfold locA at h
  split at h
  · assumption
  · cases h

theorem store_ok {x : Str} {v : Value} {a : AV} {vars : Vars} {Q : Unit → Shared → Prop} (hC : CxOK K pr lo mean mg mb lv n c) (hx : locA c.cs x = true) (hV : VarsRel p vars m) (hf : Fm prog w c m s.heap st p led) (hv : VRel p a v)
    (h : ∀ m' s', Sm s s' → VarsRel p ((x, a) :: vars) m' → Fm prog w c m' s'.heap st p led → Q () s') : wpAny (model prog w) c.A (storeName c.env x v) Q E s :=
  storeX_L (cl := []) hf.F hf.N (fun h' F' N' => h _ _ (Sm.mk s h' (s.toks + 1)) (hV.set hv) ⟨F', N', hf.nd, hf.H, hf.na, hf.nn⟩) hC.ck (locA_ok hx)

theorem asgName_ok (R : RecOK prog w PF K pr lo mean mg mb lv n r) {x : Str} {xp pos : Pos} {e : Expr} (hx : locA sc x = true) (hn : noComp e = true) :
    StOK prog w PF K pr lo mean mg mb lv n (fun vars st kn _ kx => r.ev sc e vars st (fun v st => kn ((x, v) :: vars) st) kx) (.Assign [.Name x xp] e pos) sc := by
  rintro vars st kn kr kx hr c m s p led Q E hC rfl hV hf hN hR hX
  refine wpAny_Assign_Name (R.ev c.cs e vars st _ kx hr c _ m m s p led _ E hC EnvK.fn hV hf (fun a st1 u s1 p1 led1 hk1 hsm1 hl1 hu hf1 => ?_) hX) (swaps_none hn _ _ _)
  refine store_ok hC hx (hV.le hl1) hf1 hu fun m' s2 hs2 hV' hf2 => ?_
  exact hN _ _ _ _ _ _ hk1 (hsm1.trans hs2) hl1 hV' hf2

theorem upd_mid {X pre post : List (Addr × Obj)} {d : Addr} {o o' : Obj} (hn : ((X ++ (pre ++ (d, o) :: post)).map (·.1)).Nodup) : Upd d o o' (X ++ (pre ++ (d, o) :: post)) (X ++ (pre ++ (d, o') :: post)) := by
  rw [← List.append_assoc] at hn ⊢
  rw [← List.append_assoc]
  exact upd_of hn
theorem updF_mid {X pre post : List (Addr × Obj)} {d : Addr} {o : Obj} (hn : ((X ++ (pre ++ (d, o) :: post)).map (·.1)).Nodup) : UpdF d o (X ++ (pre ++ (d, o) :: post)) (fun o' => X ++ (pre ++ (d, o') :: post)) := by
  have := updF_of (pre := X ++ pre) (post := post) (d := d) (o := o) (by rw [List.append_assoc]; exact hn)
  simpa [List.append_assoc] using this
theorem nodup_mid {X pre post : List (Addr × Obj)} {d : Addr} {o o' : Obj} (hn : ((X ++ (pre ++ (d, o) :: post)).map (·.1)).Nodup) : ((X ++ (pre ++ (d, o') :: post)).map (·.1)).Nodup := by
  simpa using hn

theorem setAttrA_ok {ov a : AV} {o v : Value} {name : Str} {k : St → Bool} {Q : Unit → Shared → Prop} (hr : setAttrA K ov name a st k = true) (hC : CxOK K pr lo mean mg mb lv n c) (ho : VRel p ov o) (hv : VRel p a v)
    (hf : Fm prog w c m s.heap st p led) (h : ∀ st' s' led', k st' = true → Sm s s' → Fm prog w c m s'.heap st' p led' → Q () s') : wpAny (model prog w) c.A (setAttr o name v) Q E s := by
  unfold setAttrA at hr
  split at hr
  · rename_i i
    split at hr
    · rename_i C at_ hi
      split at hr
      · rename_i hb
        obtain ⟨hb1, hb2⟩ := Bool.and_eq_true_iff.mp hb
        rw [Nat.blt_eq] at hb2
        unfold storeOk at hb1
        simp only [Bool.and_eq_true, beq_iff_eq] at hb1
        obtain ⟨⟨⟨g1, g2⟩, g3⟩, g4⟩ := hb1
        obtain ⟨b, pre, post, hl, ⟨x, dx, es, kk, hx, rfl, hA⟩, hput, _⟩ := hf.H.at hi
        have m1 : (x, instObj C dx) ∈ c.X ++ led := by rw [hl]; simp
        have m2 : (dx, dictOf es kk) ∈ c.X ++ led := by rw [hl]; simp
        have hI := InstAt.of_news hf.N m1 m2
        rw [ho.obj_eq hx]
        have hg := hA.getL (x := name)
        have hsome : (PySem.W.getL name es).isSome = true := by
          cases q : lk at_ name with
          | none => rw [q] at hg; rw [hg]; rfl
          | some a => rw [q] at hg; obtain ⟨v', hg, _⟩ := hg; rw [hg]; rfl
        have hA' := hA.put (x := name) (t := s.toks + 1) hv
        have hnd := hf.nd
        rw [hl] at hnd
        have hnd' : ((c.X ++ ((pre ++ [(x, instObj C dx)]) ++ (dx, dictOf es kk) :: post)).map (·.1)).Nodup := by simpa using hnd
        have e1 : c.X ++ led = c.X ++ ((pre ++ [(x, instObj C dx)]) ++ (dx, dictOf es kk) :: post) := by rw [hl]; simp
        refine set_dict (es' := putL name (PyData.keyHash w.params name) (.str name (s.toks + 1)) v es) (n' := putN name es kk) (news := c.X ++ led) (news' := c.X ++ ((pre ++ [(x, instObj C dx)]) ++ (dx, dictOf (putL name (PyData.keyHash w.params name) (.str name (s.toks + 1)) v es) (putN name es kk)) :: post))
          hf.F hC.X hf.N hI rfl g1 g2 g3 g4 hsome rfl ?_ ?_ (fun h' F' N' => ?_)
        · rw [e1]
          exact upd_mid hnd'
        · rw [← hA'.len]
          have : ∀ (l : List (Str × AV)), (sk l name a).length ≤ l.length + 1 := by
            intro l
            induction l with
            | nil => exact Nat.le_refl _
            | cons b r ih =>
              unfold sk
              split
              · simp
              · simp
                exact ih
          have := this at_
          omega
        · refine h _ _ ((pre ++ [(x, instObj C dx)]) ++ (dx, dictOf (putL name (PyData.keyHash w.params name) (.str name (s.toks + 1)) v es) (putN name es kk)) :: post) hr (Sm.mk s _ _) ⟨F', N', ?_, ?_, hf.na, hf.nn⟩
          · exact nodup_mid hnd'
          · have := hput (.inst C (sk at_ name a)) [(x, instObj C dx), (dx, dictOf (putL name (PyData.keyHash w.params name) (.str name (s.toks + 1)) v es) (putN name es kk))] ⟨x, dx, _, _, hx, rfl, hA'⟩
            simpa [St.put] using this
      · cases hr
    · cases hr
  · cases hr

theorem asgAttr_ok (R : RecOK prog w PF K pr lo mean mg mb lv n r) {name : Str} {op pos : Pos} {o e : Expr} (hn : noComp e = true) :
    StOK prog w PF K pr lo mean mg mb lv n (fun vars st kn _ kx => r.ev sc e vars st (fun v st => r.ev sc o vars st (fun ov st => setAttrA K ov name v st (kn vars)) kx) kx) (.Assign [.Attribute o name op] e pos) sc := by
  rintro vars st kn kr kx hr c m s p led Q E hC rfl hV hf hN hR hX
  refine plainObj_wpAny_Assign_Attribute (R.ev c.cs e vars st _ kx hr c _ m m s p led _ E hC EnvK.fn hV hf (fun a st1 u s1 p1 led1 hk1 hsm1 hl1 hu hf1 => ?_) hX) (swaps_none hn _ _ _)
  refine R.ev c.cs o vars st1 _ kx hk1 c _ m m s1 p1 led1 _ E hC EnvK.fn (hV.le hl1) hf1 (fun b st2 o' s2 p2 led2 hk2 hsm2 hl2 ho hf2 => ?_) (hX.step hl1 hsm1)
  refine setAttrA_ok hk2 hC ho (hu.le hl2) hf2 fun st3 s3 led3 hk3 hsm3 hf3 => ?_
  exact hN _ _ _ _ _ _ hk3 ((hsm1.trans hsm2).trans hsm3) (hl1.trans hl2) ((hV.le hl1).le hl2) hf3

theorem valueAt_nil {K : Type} [DecidableEq K] (k : K) : valueAt ([] : List (K × Value)) k = none := rfl
theorem valueAt_cons {K : Type} [DecidableEq K] (a : K × Value) (l : List (K × Value)) (k : K) : valueAt (a :: l) k = if a.1 = k then some a.2 else valueAt l k := by
  unfold valueAt
  rw [List.find?_cons]
  by_cases q : a.1 = k
  · simp [q]
  · simp [q]
theorem valueAt_none_any {K : Type} [DecidableEq K] {l : List (K × Value)} {k : K} : valueAt l k = none ↔ (l.any fun kv => decide (kv.1 = k)) = false := by
  induction l with
  | nil => simp [valueAt_nil]
  | cons a l ih =>
    rw [valueAt_cons, List.any_cons]
    by_cases q : a.1 = k
    · simp [q]
    · simp [q, ih]
theorem valueAt_map {K : Type} [DecidableEq K] {l : List (K × Value)} {k k' : K} {v : Value} : valueAt (l.map fun kv => if kv.1 = k then (kv.1, v) else kv) k' = if k' = k then (if (l.any fun kv => decide (kv.1 = k)) = true then some v else none) else valueAt l k' := by
  induction l with
  | nil =>
    by_cases q : k' = k <;> simp [q, valueAt_nil]
  | cons a l ih =>
    rw [List.map_cons, valueAt_cons, ih, List.any_cons, valueAt_cons]
    by_cases q : a.1 = k
    · by_cases z : k' = k
      · simp [q, z]
      · have : ¬ k = k' := fun e => z e.symm
        simp [q, z, this]
    · by_cases z : k' = k
      · have : ¬ a.1 = k' := fun e => q (e.trans z)
        rw [if_neg q, if_pos z, if_pos z, if_neg this, decide_eq_false q, Bool.false_or]
      · simp [q, z]
theorem valueAt_app {K : Type} [DecidableEq K] {l : List (K × Value)} {k k' : K} {v : Value} : valueAt (l ++ [(k, v)]) k' = (valueAt l k').or (if k = k' then some v else none) := by
  induction l with
  | nil => simp [valueAt_cons, valueAt_nil]
  | cons a l ih =>
    rw [List.cons_append, valueAt_cons, ih, valueAt_cons]
    by_cases q : a.1 = k' <;> simp [q]
theorem valueAt_stored {K : Type} [DecidableEq K] (l : List (K × Value)) (k k' : K) (v : Value) : valueAt (stored l k v) k' = if k' = k then some v else valueAt l k' := by
  unfold stored
  by_cases h : (l.any fun kv => decide (kv.1 = k)) = true
  · rw [if_pos h, valueAt_map, if_pos h]
  · rw [if_neg h, valueAt_app]
    have hn : valueAt l k = none := valueAt_none_any.mpr (by cases z : l.any fun kv => decide (kv.1 = k) with
      | false => rfl
      | true => exact absurd z h)
    by_cases z : k' = k
    · subst z
      simp [hn]
    · have : ¬ k = k' := fun e => z e.symm
      simp [z, this]
theorem stored_len {K : Type} [DecidableEq K] (l : List (K × Value)) (k : K) (v : Value) : (stored l k v).length ≤ l.length + 1 := by
  unfold stored
  split <;> simp

theorem sk_stored {kvs : List (Str × AV)} {l : List (Str × Value)} {x : Str} {a : AV} {v : Value} (hv : VRel p a v) (h : L2 (SKRel p) kvs l) (hn : (l.map (·.1)).Nodup) : L2 (SKRel p) (sk kvs x a) (stored l x v) := by
  have hmap : ∀ {l : List (Str × Value)}, x ∉ l.map (·.1) → (l.map fun kv => if kv.1 = x then (kv.1, v) else kv) = l := by
    intro l
    induction l with
    | nil => intro _; rfl
    | cons b l ih =>
      intro hx
      rw [List.map_cons, List.mem_cons, not_or] at hx
      rw [List.map_cons, ih hx.2, if_neg (fun e => hx.1 e.symm)]
  unfold stored
  induction h with
  | nil => exact .cons ⟨rfl, hv⟩ .nil
  | @cons b d kvs l hbd hrest ih =>
    obtain ⟨k, av⟩ := b
    obtain ⟨k', u⟩ := d
    obtain ⟨e, hu⟩ := hbd
    dsimp only at e hu
    subst e
    rw [List.map_cons, List.nodup_cons] at hn
    unfold sk
    cases q : sEq k x with
    | true =>
      rw [sEq_iff] at q
      subst q
      rw [List.any_cons, decide_eq_true rfl, Bool.true_or, if_pos rfl, List.map_cons, if_pos rfl, hmap hn.1]
      exact .cons ⟨rfl, hv⟩ hrest
    | false =>
      have z := sEq_ne q
      rw [List.any_cons, decide_eq_false z, Bool.false_or]
      have := ih hn.2
      by_cases y : (l.any fun kv => decide (kv.1 = x)) = true
      · rw [if_pos y] at this ⊢
        rw [List.map_cons, if_neg z]
        exact .cons ⟨rfl, hu⟩ this
      · rw [if_neg y] at this ⊢
        exact .cons ⟨rfl, hu⟩ this
theorem dict_nodup {o : Obj} {l : List (Str × Value)} (h : Obj.IsDictOf (PySem.strKind prog w) o l) : (l.map (·.1)).Nodup := by
  obtain ⟨_, _, _, _, _, _, h⟩ := h
  exact h

theorem lk_sk {α : Type} {kvs : List (Str × α)} {x y : Str} {a : α} : lk (sk kvs x a) y = if y = x then some a else lk kvs y := by
  induction kvs with
  | nil =>
    show (match sEq x y with | true => some a | false => none) = if y = x then some a else none
    cases q : sEq x y with
    | true => rw [sEq_iff] at q; rw [if_pos q.symm]
    | false => rw [if_neg (fun e => sEq_ne q e.symm)]
  | cons b r ih =>
    unfold sk
    cases q : sEq b.1 x with
    | true =>
      rw [sEq_iff] at q
      show (match sEq b.1 y with | true => some a | false => lk r y) = if y = x then some a else (match sEq b.1 y with | true => some b.2 | false => lk r y)
      cases z : sEq b.1 y with
      | true => rw [sEq_iff] at z; rw [if_pos (z.symm.trans q)]
      | false => rw [if_neg (fun e => sEq_ne z (q.trans e.symm))]
    | false =>
      have q' := sEq_ne q
      show (match sEq b.1 y with | true => some b.2 | false => lk (sk r x a) y) = if y = x then some a else (match sEq b.1 y with | true => some b.2 | false => lk r y)
      cases z : sEq b.1 y with
      | true => rw [sEq_iff] at z; rw [if_neg (fun e => q' (z.trans e))]
      | false => exact ih
theorem setItemA_ok {ov kv a : AV} {o key v : Value} {k : St → Bool} {Q : Unit → Shared → Prop} (hr : setItemA ov kv a st k = true) (hC : CxOK K pr lo mean mg mb lv n c) (ho : VRel p ov o) (hk : VRel p kv key) (hv : VRel p a v)
    (hf : Fm prog w c m s.heap st p led) (h : ∀ st' s' led', k st' = true → Sm s s' → Fm prog w c m s'.heap st' p led' → Q () s') : wpAny (model prog w) c.A (setItem o key v) Q E s := by
  unfold setItemA at hr
  split at hr
  · rename_i i
    split at hr
    · rename_i ob hi
      split at hr
      · rename_i o' hd
        obtain ⟨b, pre, post, hl, hb, hput, _⟩ := hf.H.at hi
        have one : ∀ {d : Addr} {od : Obj} {K : Type} [DecidableEq K] {knd : PySem.KeyKind prog w K} {l : List (K × Value)} {key' : K}, p.as[i]? = some d → b = [(d, od)] → Obj.IsDictOf knd od l → l.length ≤ sizeLine → knd.is key' key = true →
            (∀ od', Obj.IsDictOf knd od' (stored l key' v) → ORel prog w p i o' [(d, od')]) → wpAny (model prog w) c.A (setItem o key v) Q E s := by
          intro d od K _ knd l key' hx hb' hdo hsz hkey hrel
          subst hb'
          rw [ho.obj_eq hx]
          have hnd := hf.nd
          rw [hl] at hnd
          have hN := hf.N
          rw [hl] at hN
          have U : UpdF d od (c.X ++ (pre ++ (d, od) :: post)) (fun o' => c.X ++ (pre ++ (d, o') :: post)) := updF_mid hnd
          refine kda_set hf.F hN U hdo hkey hsz (fun h' od' F' N' hd' => ?_)
          exact h _ _ _ hr (Sm.mk s _ _) ⟨F', N', nodup_mid hnd, hput o' _ (hrel od' hd'), hf.na, hf.nn⟩
        unfold dictSet at hd
        split at hd
        · split at hd
          · cases hd
            obtain ⟨t, rfl⟩ := hk
            obtain ⟨d, od, hx, hb', h1, h2, h3⟩ := hb
            exact one hx hb' h1 (by simp) (strKind_is _ _ _ _) fun od' hd' => ⟨d, od', _, hx, rfl, hd', .cons ⟨rfl, hv⟩ .nil, h3⟩
          · cases hd
        · split at hd
          · split at hd
            · rename_i hz
              rw [Nat.blt_eq] at hz
              cases hd
              obtain ⟨t, rfl⟩ := hk
              obtain ⟨d, od, l, hx, hb', h1, h2, h3⟩ := hb
              have := h2.len
              exact one hx hb' h1 (by unfold sizeLine; omega) (strKind_is _ _ _ _) fun od' hd' => ⟨d, od', _, hx, rfl, hd', sk_stored hv h2 (dict_nodup h1), h3⟩
            · cases hd
          · cases hd
        · rename_i N kvs
          split at hd
          · rename_i x
            split at hd
            · rename_i hz
              rw [Nat.blt_eq] at hz
              cases hd
              obtain ⟨t, rfl⟩ := hk
              obtain ⟨d, od, l, hx, hb', h1, h2, h3, h4⟩ := hb
              refine one hx hb' h1 (by unfold sizeLine; omega) (strKind_is _ _ _ _) fun od' hd' => ⟨d, od', _, hx, rfl, hd', h2, Nat.le_trans (stored_len _ _ _) (Nat.succ_le_succ h3), fun y => ?_⟩
              rw [lk_sk, valueAt_stored]
              by_cases z : y = x
              · rw [if_pos z, if_pos z]
                exact ⟨v, rfl, hv⟩
              · rw [if_neg z, if_neg z]
                exact h4 y
            · cases hd
          · cases hd
        · rename_i N kvs
          split at hd
          · rename_i j
            split at hd
            · rename_i hz
              rw [Nat.blt_eq] at hz
              cases hd
              obtain ⟨i', t, hj, rfl⟩ := hk
              obtain ⟨d, od, l, hx, hb', h1, h2, h3, h4⟩ := hb
              refine one hx hb' h1 (by unfold sizeLine; omega) (intKind_is _ _ _ _) fun od' hd' => ⟨d, od', _, hx, rfl, hd', h2, Nat.le_trans (stored_len _ _ _) (Nat.le_trans (Nat.succ_le_succ h3) (by omega)), fun q hq => ?_, fun q => absurd q (by omega)⟩
              rcases List.mem_cons.mp hq with rfl | hq
              · exact ⟨i', v, hj, by rw [valueAt_stored, if_pos rfl], hv⟩
              · cases hq
            · cases hd
          · cases hd
        · cases hd
      · cases hr
    · cases hr
  · cases hr
end
end PH
end
section
open PySem PySem.W PySem.Calls PyProof.Rows
set_option Elab.async false
set_option maxRecDepth 100000
set_option linter.unusedVariables false
namespace PH
section
variable {prog : Program} {w : World} {PF : Addr} {K : Frag} {pr : Program} {lo : List Str} {mean : ExcName → Option Value} {mg mb : Str → Option Value} {lv : Bool}
variable {c : Cx} {p : Mp} {s : Shared} {m mv : Str → Option Value} {E : Value → Shared → Prop} {led : List (Addr × Obj)} {st : St} {env : Env} {sc : Scope} {n : Nat} {h : Heap} {r : Rec}

theorem asgSub_ok (R : RecOK prog w PF K pr lo mean mg mb lv n r) {sp pos : Pos} {o i e : Expr} (hn : noComp e = true) :
    StOK prog w PF K pr lo mean mg mb lv n (fun vars st kn _ kx => r.ev sc e vars st (fun v st => r.ev sc o vars st (fun ov st => r.ev sc i vars st (fun iv st => setItemA ov iv v st (kn vars)) kx) kx) kx) (.Assign [.Subscript o i sp] e pos) sc := by
  rintro vars st kn kr kx hr c m s p led Q E hC rfl hV hf hN hR hX
  refine wpAny_Assign_Subscript (R.ev c.cs e vars st _ kx hr c _ m m s p led _ E hC EnvK.fn hV hf (fun a st1 u s1 p1 led1 hk1 hsm1 hl1 hu hf1 => ?_) hX) (swaps_none hn _ _ _)
  refine R.ev c.cs o vars st1 _ kx hk1 c _ m m s1 p1 led1 _ E hC EnvK.fn (hV.le hl1) hf1 (fun b st2 o' s2 p2 led2 hk2 hsm2 hl2 ho hf2 => ?_) (hX.step hl1 hsm1)
  refine R.ev c.cs i vars st2 _ kx hk2 c _ m m s2 p2 led2 _ E hC EnvK.fn ((hV.le hl1).le hl2) hf2 (fun iv st3 i' s3 p3 led3 hk3 hsm3 hl3 hi hf3 => ?_) ((hX.step hl1 hsm1).step hl2 hsm2)
  refine setItemA_ok hk3 hC (ho.le hl3) hi ((hu.le hl2).le hl3) hf3 fun st4 s4 led4 hk4 hsm4 hf4 => ?_
  exact hN _ _ _ _ _ _ hk4 (((hsm1.trans hsm2).trans hsm3).trans hsm4) ((hl1.trans hl2).trans hl3) (((hV.le hl1).le hl2).le hl3) hf4

theorem bindNames_cons {sc : Scope} {e : Expr} {es : List Expr} {xs : List AV} {vars vars' : Vars} (h : bindNames sc (e :: es) xs vars = some vars') : ∃ x xp a xs', e = .Name x xp ∧ xs = a :: xs' ∧ locA sc x = true ∧ bindNames sc es xs' ((x, a) :: vars) = some vars' := by
  cases xs with
  | nil => cases e <;> cases h
  | cons a xs =>
    cases e with
    | Name x xp =>
      unfold bindNames at h
      split at h
      · rename_i hx
        exact ⟨x, xp, a, xs, rfl, rfl, hx, h⟩
      · cases h
    | _ => cases h
theorem bindNames_props {sc : Scope} {env : Env} {vars' : Vars} : ∀ {es : List Expr} {xs : List AV} {vars : Vars}, bindNames sc es xs vars = some vars' → (assignEach es env).length = xs.length ∧ ∀ y ∈ assignEach es env, y.1 = false
  | [], xs, vars, h => by
    cases xs with
    | nil => exact ⟨rfl, fun y hy => (by cases hy)⟩
    | cons => cases h
  | e :: es, xs, vars, h => by
    obtain ⟨x, xp, a, xs', rfl, rfl, _, h⟩ := bindNames_cons h
    obtain ⟨h1, h2⟩ := bindNames_props (env := env) h
    refine ⟨congrArg (· + 1) h1, fun y hy => ?_⟩
    rcases List.mem_cons.mp hy with rfl | hy
    · rfl
    · exact h2 y hy
theorem bindNames_run {kn : KS} {Q : Unit → Shared → Prop} (hC : CxOK K pr lo mean mg mb lv n c) : ∀ {es : List Expr} {xs : List AV} {vs : List Value} {vars vars' : Vars} {m : Str → Option Value} {s : Shared},
    bindNames c.cs es xs vars = some vars' → L2 (VRel p) xs vs → VarsRel p vars m → Fm prog w c m s.heap st p led → (∀ m' s', Sm s s' → VarsRel p vars' m' → Fm prog w c m' s'.heap st p led → Q () s') →
    wpAny (model prog w) c.A (assignInOrder ((assignEach es c.env).map fun x => x.snd) vs) Q E s
  | [], xs, vs, vars, vars', m, s, hb, hl, hV, hf, h => by
    cases xs with
    | nil =>
      cases hl
      cases hb
      exact assignInOrder_nil (h m s (Sm.refl s) hV hf)
    | cons => cases hb
  | e :: es, xs, vs, vars, vars', m, s, hb, hl, hV, hf, h => by
    obtain ⟨x, xp, a, xs, rfl, rfl, hx, hb⟩ := bindNames_cons hb
    cases hl with
    | cons hv hl =>
    refine assignInOrder_cons (PyProof.Rows.assign_Name (store_ok hC hx hV hf hv fun m' s' hs hV' hf' => ?_))
    exact bindNames_run hC (kn := kn) (Q := Q) (s := s') hb hl hV' hf' (fun m'' s'' hs' hV'' hf'' => h m'' s'' (hs.trans hs') hV'' hf'')
theorem bindNames_ok {kn : KS} {Q : Unit → Shared → Prop} (hC : CxOK K pr lo mean mg mb lv n c) {es : List Expr} {xs : List AV} {vs : List Value} {vars vars' : Vars} {m : Str → Option Value} {s : Shared}
    (hb : bindNames c.cs es xs vars = some vars') (hl : L2 (VRel p) xs vs) (hV : VarsRel p vars m) (hf : Fm prog w c m s.heap st p led) (h : ∀ m' s', Sm s s' → VarsRel p vars' m' → Fm prog w c m' s'.heap st p led → Q () s') :
    (assignEach es c.env).length = vs.length ∧ (assignEach es c.env).findIdx? (fun x => x.fst) = none ∧ wpAny (model prog w) c.A (assignInOrder ((assignEach es c.env).map fun x => x.snd) vs) Q E s := by
  obtain ⟨h1, h2⟩ := bindNames_props (env := c.env) hb
  exact ⟨h1.trans hl.len, List.findIdx?_eq_none_iff.mpr h2, bindNames_run hC (kn := kn) hb hl hV hf h⟩

theorem asgTup_ok (R : RecOK prog w PF K pr lo mean mg mb lv n r) {kd : Nat} {tp pos : Pos} {es : List Expr} {e : Expr} (hn : noComp e = true) (ht : noTup e = true) :
    StOK prog w PF K pr lo mean mg mb lv n (fun vars st kn _ kx => r.ev sc e vars st (fun v st => match v with
      | .obj i => (match st.get i with
        | some (.tup xs) => (match bindNames sc es xs vars with | some vars => kn vars st | none => false)
        | _ => false)
      | _ => false) kx) (.Assign [.Tuple es kd tp] e pos) sc := by
  rintro vars st kn kr kx hr c m s p led Q E hC rfl hV hf hN hR hX
  refine Assign_Tuple (R.ev c.cs e vars st _ kx hr c _ m m s p led _ E hC EnvK.fn hV hf (fun a st1 u s1 p1 led1 hk1 hsm1 hl1 hu hf1 => ?_) hX) (show swapsWith e (some (.Tuple es kd tp)) pos.line c.env = pure false from swaps_none hn _ _ _) ?_
  · dsimp only at hk1
    split at hk1
    · rename_i i
      split at hk1
      · rename_i xs hi
        split at hk1
        · rename_i vars' hb
          obtain ⟨d, vs, hx, _, hvs, htup, _⟩ := hf1.tup hi
          rw [hu.obj_eq hx]
          have go := fun (s2 : Shared) (hs2 : Sm s1 s2) (hf2 : Fm prog w c m s2.heap st1 p1 led1) => bindNames_ok (E := E) (kn := kn) (Q := fun _ => Q .next) hC (s := s2) hb hvs (hV.le hl1) hf2 (fun m' s3 hs3 hV' hf' => hN _ _ _ _ _ _ hk1 ((hsm1.trans hs2).trans hs3) hl1 hV' hf')
          obtain ⟨g1, g2, _⟩ := go s1 (Sm.refl s1) hf1
          refine unpackN_ hf1.F hf1.N htup hC.hh (by simpa using g1) g2 (fun h' F' N' => ?_)
          exact (go _ (Sm.mk s1 h' s1.toks) ⟨F', N', hf1.nd, hf1.H, hf1.na, hf1.nn⟩).2.2
        · cases hk1
      · cases hk1
    · cases hk1
  · cases e <;> first | rfl | cases ht

theorem asgC_ok (R : RecOK prog w PF K pr lo mean mg mb lv n r) (t e : Expr) (pos : Pos) (hn : noComp e = true) : StOK prog w PF K pr lo mean mg mb lv n ((asgC K sc t e).run r) (.Assign [t] e pos) sc := by
  intro vars st kn kr kx hr
  unfold asgC at hr
  split at hr
  · split at hr
    · rename_i hx
      exact asgName_ok R hx hn vars st kn kr kx hr
    · cases hr
  · exact asgAttr_ok R hn vars st kn kr kx hr
  · exact asgSub_ok R hn vars st kn kr kx hr
  · split at hr
    · cases hr
    · rename_i ht
      exact asgTup_ok R hn ht vars st kn kr kx hr
  · cases hr

theorem if_ok (R : RecOK prog w PF K pr lo mean mg mb lv n r) (t : Expr) (b o : List Stmt) (pos : Pos) :
    StOK prog w PF K pr lo mean mg mb lv n (fun vars st kn kr kx => r.ts sc t vars st (fun c st => match c with | true => r.ex sc b vars st kn kr kx | false => r.ex sc o vars st kn kr kx) kx) (.If t b o pos) sc := by
  rintro vars st kn kr kx hr c m s p led Q E hC rfl hV hf hN hR hX
  refine wpAny_If (R.ts c.cs t vars st _ kx hr c _ m m s p led _ E hC EnvK.fn hV hf (fun a st1 u s1 p1 led1 hk1 hsm1 hl1 hu hf1 => ?_) hX)
  cases hu
  cases a with
  | true => exact R.ex c.cs b vars st1 kn kr kx hk1 c m s1 p1 led1 Q E hC rfl (hV.le hl1) hf1 (hN.step hl1 hsm1) (hR.step hl1 hsm1) (hX.step hl1 hsm1)
  | false => exact R.ex c.cs o vars st1 kn kr kx hk1 c m s1 p1 led1 Q E hC rfl (hV.le hl1) hf1 (hN.step hl1 hsm1) (hR.step hl1 hsm1) (hX.step hl1 hsm1)

theorem while_ok (R : RecOK prog w PF K pr lo mean mg mb lv n r) (t : Expr) (b : List Stmt) (hC : CxOK K pr lo mean mg mb lv n c) {kn : KS} {kr : KB} {Q : Flow → Shared → Prop} : ∀ (k : Nat) {vars : Vars} {st : St} {m : Str → Option Value} {s : Shared} {p : Mp} {led : List (Addr × Obj)},
    whileA c.cs t b r k vars st kn kr = true → VarsRel p vars m → Fm prog w c m s.heap st p led → NPost prog w c p kn Q s → RPost prog w c p kr Q s → WhlRest prog w c.A (fun _ _ => False) c.env t b [] Q k s
  | 0, vars, st, m, s, p, led, hr, hV, hf, hN, hR => by cases hr
  | k + 1, vars, st, m, s, p, led, hr, hV, hf, hN, hR => by
    refine whl_turn PassesOwn.never (R.ts c.cs t vars st _ _ hr c _ m m s p led _ _ hC EnvK.fn hV hf (fun a st1 u s1 p1 led1 hk1 hsm1 hl1 hu hf1 => ?_) XPost.never)
    cases hu
    cases a with
    | false => exact wpAny_execs_nil (hN vars st1 m s1 p1 led1 hk1 hsm1 hl1 (hV.le hl1) hf1)
    | true =>
      refine R.ex c.cs b vars st1 _ kr _ hk1 c m s1 p1 led1 _ _ hC rfl (hV.le hl1) hf1 (fun vars2 st2 m2 s2 p2 led2 hk2 hsm2 hl2 hV2 hf2 => ?_) (fun a st2 v m2 s2 p2 led2 hk2 hsm2 hl2 hv hf2 => hR a st2 v m2 s2 p2 led2 hk2 (hsm1.trans hsm2) (hl1.trans hl2) hv hf2) XPost.never
      exact while_ok R t b hC k hk2 hV2 hf2 ((hN.step hl1 hsm1).step hl2 hsm2) ((hR.step hl1 hsm1).step hl2 hsm2)

theorem Fm.drop {l : List (Addr × Obj)} (f : Fm prog w (c.aside l) m h st p led) : Fm prog w c m h st p led := by
  have sub : ∀ q ∈ c.X ++ led, q ∈ (c.aside l).X ++ led := fun q hq => by
    show q ∈ (l ++ c.X) ++ led
    rw [List.append_assoc]
    exact List.mem_append_right _ hq
  refine ⟨f.F, fun q hq => f.N q (sub q hq), ?_, f.H, f.na, f.nn⟩
  have hn : (((l ++ c.X) ++ led).map (·.1)).Nodup := f.nd
  rw [List.append_assoc] at hn
  exact nodup_sub hn
theorem Ld.aside1 {I : Addr} {o : Obj} (f : Ld prog w c st p led) (hI : ∀ q ∈ c.X ++ led, q.1 ≠ I) : Ld prog w (c.aside [(I, o)]) st p led := by
  refine ⟨?_, f.H, f.na, f.nn⟩
  show (I :: (c.X ++ led).map (·.1)).Nodup
  refine List.nodup_cons.mpr ⟨fun q => ?_, f.nd⟩
  obtain ⟨y, hy, e⟩ := List.mem_map.mp q
  exact hI y hy e
theorem Ld.back1 {I : Addr} {o : Obj} (f : Ld prog w (c.aside [(I, o)]) st p led) : Ld prog w c st p led ∧ ∀ q ∈ c.X ++ led, q.1 ≠ I := by
  have hn : (I :: (c.X ++ led).map (·.1)).Nodup := f.nd
  rw [List.nodup_cons] at hn
  exact ⟨⟨hn.2, f.H, f.na, f.nn⟩, fun q hq e => hn.1 (List.mem_map.mpr ⟨q, hq, e⟩)⟩

theorem forRange_turns (R : RecOK prog w PF K pr lo mean mg mb lv n r) (hC : CxOK K pr lo mean mg mb lv n c) {x : Str} {b : List Stmt} {kn : KS} {kr : KB} {Q : Flow → Shared → Prop} {s : Shared} {p₀ : Mp} {I : Addr} {N : Nat}
    (hN : NPost prog w c p₀ kn Q s) (hR : RPost prog w c p₀ kr Q s) : ∀ {k i : Nat} {vars : Vars} {st : St} {m : Str → Option Value} {p : Mp} {led : List (Addr × Obj)},
    forA c.cs x b r (upTo k i) vars st kn kr = true → p₀.le p → VarsRel p vars m → Ld prog w c st p led → (∀ q ∈ c.X ++ led, q.1 ≠ I) →
    RangeRest prog w c.A (fun _ _ => False) c.h₀ c.env x b Q s I 0 N k i m (c.X ++ led)
  | 0, i, vars, st, m, p, led, hr, hl, hV, hld, hI => fun h tk F N' => hN vars st m _ p led hr (Sm.mk s h tk) hl hV (hld.fm F N')
  | k + 1, i, vars, st, m, p, led, hr, hl, hV, hld, hI => by
    refine RangeRest.succ fun t h tk F N' => ?_
    have hV' : VarsRel p ((x, .int (i : Int)) :: vars) (fun y => if y = x then some (.int ((0 : Int) + (i : Int)) t) else m y) := hV.set ⟨t, by rw [Int.zero_add]⟩
    refine R.ex c.cs b _ st _ kr _ hr (c.aside [(I, itR ((0 : Int) + ((i + 1 : Nat) : Int)) ((N : Int) - ((i + 1 : Nat) : Int)))]) _ _ p led _ _ (hC.aside _) rfl hV' ((hld.aside1 hI).fm F N') (fun vars2 st2 m2 s2 p2 led2 hk2 hsm2 hl2 hV2 hf2 => ?_) (fun a st2 v m2 s2 p2 led2 hk2 hsm2 hl2 hv hf2 => ?_) XPost.never
    · obtain ⟨g1, g2⟩ := hf2.ld.back1
      exact ⟨s2.heap, s2.toks, m2, c.X ++ led2, hsm2, hf2.F, hf2.N, g2, forRange_turns R hC hN hR hk2 (hl.trans hl2) hV2 g1 g2⟩
    · exact hR a st2 v m2 s2 p2 led2 hk2 ((Sm.mk s h tk).trans hsm2) (hl.trans hl2) hv hf2.drop

theorem forRange_ok (R : RecOK prog w PF K pr lo mean mg mb lv n r) {x g : Str} {xp gp cp pos : Pos} {e : Expr} {b : List Stmt} (hx : locA sc x = true) (hg : isRange K sc g e = true) :
    StOK prog w PF K pr lo mean mg mb lv n ((forRange sc x e b).run r) (.For (.Name x xp) (.Call (.Name g gp) [e] [] cp) b [] pos) sc := by
  rintro vars st kn kr kx hr c m s p led Q E hC rfl hV hf hN hR hX
  unfold forRange at hr
  dsimp only at hr
  refine wpAny_mono (E := fun _ _ => False) (Q := Q) ?_ (fun _ _ q => q) (fun _ _ q => q.elim)
  refine For_invVF hf.F (locA_ok hx) ?_ ?_ (fun _ => rfl) PassesOwn.never
  · show (c.cs.kind == ScopeKind.class || c.cs.kind == ScopeKind.module && c.env.locals != c.env.globals) = false
    rw [hC.ck]
    rfl
  · refine range_iter (k := fun v st => match v with
      | .int (.ofNat n) => forA c.cs x b r (upTo n 0) vars st kn kr
      | _ => false) R hg ?_ hC EnvK.fn hV hf XPost.never (fun j st1 s1 p1 led1 h' tk rr t u v hk hj hsm hl hf1 hRg F' N' => ?_)
    · exact hr
    · obtain ⟨q1, q2⟩ := range_small j hj
      have hs1 : Sm s { heap := h', gens := s1.gens, drawn := s1.drawn, toks := tk, os := s1.os } := hsm.trans (Sm.mk s1 h' tk)
      refine iter_rangeUnr hC.hh hRg q1 q2 F' N' (fun I hI => ?_)
      exact forRange_turns R hC (hN.step hl hs1) (hR.step hl hs1) hk (Mp.le.refl p1) (hV.le hl) hf1.ld fun q hq e => absurd (hI q hq) (by rw [e]; exact Nat.lt_irrefl _)

theorem forList_turns (R : RecOK prog w PF K pr lo mean mg mb lv n r) (hC : CxOK K pr lo mean mg mb lv n c) {x : Str} {b : List Stmt} {kn : KS} {kr : KB} {Q : Flow → Shared → Prop} {s : Shared} {p₀ : Mp} {I : Addr} {lp : Addr × Obj} {kn' : KS}
    (hlp : lp ∈ c.X) (hkn : ∀ vars st m s' p led, kn' vars st = true → Sm s s' → p₀.le p → VarsRel p vars m → Fm prog w c m s'.heap st p led → Q .next s') (hR : RPost prog w c p₀ kr Q s) :
    ∀ {as : List AV} {vs : List Value} {vars : Vars} {st : St} {m : Str → Option Value} {p : Mp} {led : List (Addr × Obj)},
    forA c.cs x b r as vars st kn' kr = true → p₀.le p → L2 (VRel p) as vs → VarsRel p vars m → Ld prog w c st p led → (∀ q ∈ c.X ++ led, q.1 ≠ I) →
    ListRest prog w c.A (fun _ _ => False) c.h₀ c.env x b Q s I lp vs m (c.X ++ led)
  | [], vs, vars, st, m, p, led, hr, hl, hvs, hV, hld, hI => by
    cases hvs
    exact fun h tk F N' => hkn vars st m _ p led hr (Sm.mk s h tk) hl hV (hld.fm F N')
  | a :: as, vs, vars, st, m, p, led, hr, hl, hvs, hV, hld, hI => by
    cases hvs with
    | @cons _ v _ vs hv hvs =>
    refine ListRest.succ fun it h tk _ F N' => ?_
    have hV' : VarsRel p ((x, a) :: vars) (fun y => if y = x then some v else m y) := hV.set hv
    refine R.ex c.cs b _ st _ kr _ hr (c.aside [(I, it)]) _ _ p led _ _ (hC.aside _) rfl hV' ((hld.aside1 hI).fm F N') (fun vars2 st2 m2 s2 p2 led2 hk2 hsm2 hl2 hV2 hf2 => ?_) (fun a st2 v m2 s2 p2 led2 hk2 hsm2 hl2 hv hf2 => ?_) XPost.never
    · obtain ⟨g1, g2⟩ := hf2.ld.back1
      exact ⟨s2.heap, s2.toks, m2, c.X ++ led2, hsm2, hf2.F, hf2.N, g2, List.mem_append_left _ hlp, forList_turns (kn := kn) R hC hlp hkn hR hk2 (hl.trans hl2) (hvs.mono fun _ _ z => z.le hl2) hV2 g1 g2⟩
    · exact hR a st2 v m2 s2 p2 led2 hk2 ((Sm.mk s h tk).trans hsm2) (hl.trans hl2) hv hf2.drop

theorem forList_ok (R : RecOK prog w PF K pr lo mean mg mb lv n r) {x y : Str} {xp yp pos : Pos} {b : List Stmt} (hx : locA sc x = true) :
    StOK prog w PF K pr lo mean mg mb lv n ((forList sc x (.Name y yp) b).run r) (.For (.Name x xp) (.Name y yp) b [] pos) sc := by
  rintro vars st kn kr kx hr c m s p led Q E hC rfl hV hf hN hR hX
  unfold forList at hr
  dsimp only at hr
  refine wpAny_mono (E := fun _ _ => False) (Q := Q) ?_ (fun _ _ q => q) (fun _ _ q => q.elim)
  refine For_invVF hf.F (locA_ok hx) ?_ ?_ (fun _ => rfl) PassesOwn.never
  · show (c.cs.kind == ScopeKind.class || c.cs.kind == ScopeKind.module && c.env.locals != c.env.globals) = false
    rw [hC.ck]
    rfl
  · refine R.ev c.cs _ vars st _ _ hr c _ m m s p led _ _ hC EnvK.fn hV hf (fun a st1 u s1 p1 led1 hk hsm hl hu hf1 => ?_) XPost.never
    dsimp only at hk
    split at hk
    · rename_i i
      split at hk
      · rename_i xs hi
        obtain ⟨bl, led', hob, hf2, hsub⟩ := hf1.takeOut hi
        obtain ⟨ax, vs, ep, hax, rfl, hvs⟩ := hob
        rw [hu.obj_eq hax]
        refine iter_listUnr (lo := PySem.W.listOf vs.toArray ep) (vs := vs) (n := ep) (news := (c.aside [(ax, PySem.W.listOf vs.toArray ep)]).X ++ led') hC.hh hf2.F hf2.N (.head _) rfl rfl (fun I hI => ?_)
        refine forList_turns (c := c.aside [(ax, PySem.W.listOf vs.toArray ep)]) (kn := kn) R (hC.aside _) (.head _) (fun vars2 st2 m2 s2 p2 led2 hk2 hsm2 hl2 hV2 hf3 => ?_) (fun a2 st2 v2 m2 s2 p2 led2 hk2 hsm2 hl2 hv2 hf3 => ?_) hk (Mp.le.refl p1) hvs (hV.le hl) hf2.ld fun q hq e => absurd (hI q hq) (by rw [e]; exact Nat.lt_irrefl _)
        · have ho : ORel prog w p2 i (.list xs) [(ax, PySem.W.listOf vs.toArray ep)] := ORel.le hl2 (k := i) (o := .list xs) ⟨ax, vs, ep, hax, rfl, hvs⟩
          exact hN vars2 _ m2 s2 p2 _ hk2 (hsm.trans hsm2) (hl.trans hl2) hV2 (hf3.putBack ho)
        · exact hR a2 st2 v2 m2 s2 p2 led2 hk2 (hsm.trans hsm2) (hl.trans hl2) hv2 hf3.drop
      · cases hk
    · cases hk
end
end PH
end
section
open PySem PySem.W PySem.Calls PyProof.Rows
set_option Elab.async false
set_option maxRecDepth 100000
set_option linter.unusedVariables false
namespace PH
section
variable {prog : Program} {w : World} {PF : Addr} {K : Frag} {pr : Program} {lo : List Str} {mean : ExcName → Option Value} {mg mb : Str → Option Value} {lv : Bool}
variable {c : Cx} {p : Mp} {s : Shared} {m mv : Str → Option Value} {E : Value → Shared → Prop} {led : List (Addr × Obj)} {st : St} {env : Env} {sc : Scope} {n : Nat} {h : Heap} {r : Rec}

theorem forIt_turns (R : RecOK prog w PF K pr lo mean mg mb lv n r) (hC : CxOK K pr lo mean mg mb lv n c) {x y : Str} {xp yp tp : Pos} {kd : Nat} {b : List Stmt} {kr : KB} {Q : Flow → Shared → Prop} {s : Shared} {p₀ : Mp} {I : Addr} {lp : Addr × Obj} {kn' : KS} (hx : locA c.cs x = true) (hy : locA c.cs y = true)
    (hlp : lp ∈ c.X) (hkn : ∀ vars st m s' p led, kn' vars st = true → Sm s s' → p₀.le p → VarsRel p vars m → Fm prog w c m s'.heap st p led → Q .next s') (hR : RPost prog w c p₀ kr Q s) :
    ∀ {kvs : List (Str × AV)} {l : List (Str × Value)} {vars : Vars} {st : St} {m : Str → Option Value} {p : Mp} {led : List (Addr × Obj)},
    forIt c.cs x y b r kvs vars st kn' kr = true → p₀.le p → L2 (SKRel p) kvs l → VarsRel p vars m → Ld prog w c st p led → (∀ q ∈ c.X ++ led, q.1 ≠ I) →
    ItemsRest prog w c.A (fun _ _ => False) c.h₀ c.env (.Tuple [.Name x xp, .Name y yp] kd tp) b Q s [(I, "dict_itemiterator")] [lp] (l.map (fun q => Itm.pair (kyVal (.str q.1)) q.2)) m (c.X ++ led)
  | [], l, vars, st, m, p, led, hr, hl, hvs, hV, hld, hI => by
    cases hvs
    exact fun h tk F N' => hkn vars st m _ p led hr (Sm.mk s h tk) hl hV (hld.fm F N')
  | (a, av) :: kvs, l, vars, st, m, p, led, hr, hl, hvs, hV, hld, hI => by
    cases hvs with
    | @cons _ d _ l hv hvs =>
    obtain ⟨k, v⟩ := d
    obtain ⟨e, hv⟩ := hv
    dsimp only at e hv
    subst e
    refine ItemsRest.pair fun T t h tk hT F => ?_
    intro it hit
    intro N'
    have hld' := hld.aside1 (I := I) (o := it) hI
    have hb : bindNames c.cs [.Name x xp, .Name y yp] [.str a, av] vars = some ((y, av) :: (x, .str a) :: vars) := by
      unfold bindNames
      rw [hx]
      show bindNames c.cs [.Name y yp] [av] ((x, .str a) :: vars) = _
      unfold bindNames
      rw [hy]
      rfl
    have hf0 : Fm prog w (c.aside [(I, it)]) m h st p led := hld'.fm F N'
    have go := fun (s2 : Shared) (hs2 : Sm { s with heap := h, toks := tk } s2) (hf2 : Fm prog w (c.aside [(I, it)]) m s2.heap st p led) =>
      bindNames_ok (c := c.aside [(I, it)]) (s := s2) (E := fun _ _ => False) (kn := kn') (Q := fun _ s₂ => wpAny (model prog w) c.A (execs b c.env) (UnrPostW c.h₀ c.env.locals { s with heap := h, toks := tk } [(I, it)] (fun m' n' => SubL [lp] n' ∧ ItemsRest prog w c.A (fun _ _ => False) c.h₀ c.env (.Tuple [.Name x xp, .Name y yp] kd tp) b Q s [(I, "dict_itemiterator")] [lp] (l.map (fun q => Itm.pair (kyVal (.str q.1)) q.2)) m' n') Q) (fun _ _ => False) s₂)
        (hC.aside _) (vs := [kyVal (.str a) t, v]) hb (.cons ⟨t, rfl⟩ (.cons hv .nil)) hV hf2 (fun m3 s3 hs3 hV3 hf3 => by
          refine R.ex c.cs b _ st _ kr _ hr (c.aside [(I, it)]) m3 s3 p led _ _ (hC.aside _) rfl hV3 hf3 (fun vars4 st4 m4 s4 p4 led4 hk4 hsm4 hl4 hV4 hf4 => ?_) (fun a4 st4 v4 m4 s4 p4 led4 hk4 hsm4 hl4 hv4 hf4 => ?_) XPost.never
          · obtain ⟨g1, g2⟩ := hf4.ld.back1
            have hs4 := (hs2.trans hs3).trans hsm4
            refine ⟨s4.heap, s4.toks, m4, c.X ++ led4, hs4, hf4.F, hf4.N, ?_, ⟨List.mem_append_left _ hlp, trivial⟩, forIt_turns R hC hx hy hlp hkn hR hk4 (hl.trans hl4) (hvs.mono fun _ _ z => z.le hl4) hV4 g1 g2⟩
            intro q hq q' hq'
            rw [List.mem_singleton.mp hq']
            exact g2 q hq
          · exact hR a4 st4 v4 m4 s4 p4 led4 hk4 (((Sm.mk s h tk).trans (hs2.trans hs3)).trans hsm4) (hl.trans hl4) hv4 hf4.drop)
    obtain ⟨g1, g2, _⟩ := go _ (Sm.refl _) hf0
    exact unpackN_ (news := (c.aside [(I, it)]).X ++ led) F N' hT hC.hh g1 g2 (fun h' F' N'' => (go _ (Sm.mk _ h' tk) ⟨F', N'', hf0.nd, hf0.H, hf0.na, hf0.nn⟩).2.2)

theorem items_call {M : Model} {A : Around} {o : Expr} {ap cp : Pos} {pl : Sem Bool} {Q : Value → Shared → Prop} (hb : itemsBase o = true) (hl : (ap.endLine == cp.line) = true)
    (h : wpAny M A (eval o env) (fun ov s₁ => ∀ pl, wpAny M A (getMethod ov "items" pl) (fun fx s₂ => wpAny M A (callWith cp fx.1 fx.2 (backTo cp (starEach [] env)) []) Q E s₂) E s₁) E s) :
    wpAny M A (eval (.Call (.Attribute o "items" ap) [] [] cp) env) Q E s := by
  unfold itemsBase at hb
  split at hb
  · rename_i id ip op
    rw [PySem.arm_eval_Call]
    refine wpAny_bind ?_
    unfold attributeBase
    have hb' : (id != ("super" : Str) || ("items" : Str) == "__class__" || env.kindOf "super" != some .globalImplicit || env.kindOf "__class__" != some .free) = true := by rw [hb]; rfl
    simp only [hb', if_true]
    refine wpAny_mono h (fun ov s₁ h₁ => ?_) fun _ _ x => x
    refine wpAny_bind (wpAny_standAt ?_)
    unfold methodCall
    refine wpAny_bind (wpAny_holding ?_)
    show wpAny M A (getMethod ov "items" _) _ E s₁
    refine wpAny_mono (h₁ _) (fun fx s₂ h₂ => ?_) fun _ _ x => x
    unfold methodCallPos
    rw [hl]
    exact wpAny_bind (wpAny_pure h₂)
  · cases hb

theorem forItems_ok (R : RecOK prog w PF K pr lo mean mg mb lv n r) {x y : Str} {xp yp tp ap cp pos : Pos} {kd : Nat} {o : Expr} {b : List Stmt} (hx : locA sc x = true) (hy : locA sc y = true) (hb : itemsBase o = true) (hln : (ap.endLine == cp.line) = true) :
    StOK prog w PF K pr lo mean mg mb lv n ((forItems sc x y o b).run r) (.For (.Tuple [.Name x xp, .Name y yp] kd tp) (.Call (.Attribute o "items" ap) [] [] cp) b [] pos) sc := by
  rintro vars st kn kr kx hr c m s p led Q E hC rfl hV hf hN hR hX
  unfold forItems at hr
  dsimp only at hr
  refine wpAny_mono (E := fun _ _ => False) (Q := Q) ?_ (fun _ _ q => q) (fun _ _ q => q.elim)
  refine For_turns hf.F (items_call (pl := pure true) hb hln ?_) (fun _ => rfl) PassesOwn.never
  refine R.ev c.cs o vars st _ _ hr c _ m m s p led _ _ hC EnvK.fn hV hf (fun a st1 u s1 p1 led1 hk hsm hl hu hf1 pl => ?_) XPost.never
  dsimp only at hk
  split at hk
  · rename_i i
    split at hk
    · rename_i kvs hi
      obtain ⟨bl, led', hob, hf2, hsub⟩ := hf1.takeOut hi
      obtain ⟨d, od, l, hd, rfl, hdo, hkv, hns⟩ := hob
      rw [hu.obj_eq hd]
      have hm : (d, od) ∈ (c.aside [(d, od)]).X ++ led' := .head _
      refine kdl_method (knd := PySem.strKind prog w) (kvs := l) PySem.F.slot_dict_items PySem.F.type_dict_items hf2.N hm hdo ?_
      refine callWith_method0 ?_
      refine kta_callItems hf2.F hf2.N hm hdo hns (fun h' hvw F' N' => ?_)
      refine kta_items (knd := PySem.strKind prog w) (enc := PyData.str) (kvs := l) (xs := l.map (fun q => Itm.pair (kyVal (.str q.1)) q.2)) (news := (c.aside [(d, od)]).X ++ led') hC.hh F' N' hvw hm hdo (fun k v hk => ?_) rfl (fun I hI => ?_)
      · obtain ⟨t, rfl⟩ := Value.isStrOf_shape (x := k) (v := v) hk
        exact ⟨t, rfl⟩
      · refine forIt_turns (c := c.aside [(d, od)]) R (hC.aside _) hx hy (.head _) (fun vars2 st2 m2 s2 p2 led2 hk2 hsm2 hl2 hV2 hf3 => ?_) (fun a2 st2 v2 m2 s2 p2 led2 hk2 hsm2 hl2 hv2 hf3 => ?_) hk (Mp.le.refl p1) hkv (hV.le hl) hf2.ld fun q hq e => absurd (hI q hq) (by rw [e]; exact Nat.lt_irrefl _)
        · have ho : ORel prog w p2 i (.sd kvs) [(d, od)] := ORel.le hl2 (k := i) (o := .sd kvs) ⟨d, od, l, hd, rfl, hdo, hkv, hns⟩
          exact hN vars2 _ m2 s2 p2 _ hk2 ((hsm.trans (Sm.mk s1 h' s1.toks)).trans hsm2) (hl.trans hl2) hV2 (hf3.putBack ho)
        · exact hR a2 st2 v2 m2 s2 p2 led2 hk2 ((hsm.trans (Sm.mk s1 h' s1.toks)).trans hsm2) (hl.trans hl2) hv2 hf3.drop
    · cases hk
  · cases hk

/-- a raise of the one own exception -/
noncomputable def RaiseOK (prog : Program) (w : World) (PF : Addr) (K : Frag) (pr : Program) (lo : List Str) (mean : ExcName → Option Value) (mg mb : Str → Option Value) : Prop :=
  ∀ (lv : Bool) (n : Nat) (r : Rec), RecOK prog w PF K pr lo mean mg mb lv n r → ∀ (sc : Scope) (x : Str) (e : Expr) (np cp pos : Pos), StOK prog w PF K pr lo mean mg mb lv n ((raiseC K sc x e).run r) (.Raise (some (.Call (.Name x np) [e] [] cp)) none pos) sc

theorem forC_ok (R : RecOK prog w PF K pr lo mean mg mb lv n r) (t it : Expr) (b : List Stmt) (pos : Pos) : StOK prog w PF K pr lo mean mg mb lv n ((forC K sc t it b).run r) (.For t it b [] pos) sc := by
  intro vars st kn kr kx hr
  cases t with
  | Name x xp =>
    unfold forC at hr
    dsimp only at hr
    split at hr
    · rename_i hx
      cases it with
      | Name y yp => exact forList_ok R hx vars st kn kr kx hr
      | Call f args ks cp =>
        cases f with
        | Name g gp =>
          cases args with
          | nil => exact (Bool.false_ne_true hr).elim
          | cons e args =>
            cases args with
            | cons => exact (Bool.false_ne_true hr).elim
            | nil =>
              cases ks with
              | cons => exact (Bool.false_ne_true hr).elim
              | nil =>
                dsimp only at hr
                split at hr
                · rename_i hg
                  exact forRange_ok R hx hg vars st kn kr kx hr
                · exact (Bool.false_ne_true hr).elim
        | _ => exact (Bool.false_ne_true hr).elim
      | _ => exact (Bool.false_ne_true hr).elim
    · exact (Bool.false_ne_true hr).elim
  | Tuple es kd tp =>
    cases es with
    | nil => exact (Bool.false_ne_true hr).elim
    | cons x es =>
      cases x with
      | Name x xp =>
        cases es with
        | nil => exact (Bool.false_ne_true hr).elim
        | cons y es =>
          cases y with
          | Name y yp =>
            cases es with
            | cons => exact (Bool.false_ne_true hr).elim
            | nil =>
              unfold forC at hr
              dsimp only at hr
              split at hr
              · rename_i hx
                obtain ⟨hx, hy⟩ := Bool.and_eq_true_iff.mp hx
                cases it with
                | Call f args ks cp =>
                  cases f with
                  | Attribute o nm ap =>
                    cases args with
                    | cons => exact (Bool.false_ne_true hr).elim
                    | nil =>
                      cases ks with
                      | cons => exact (Bool.false_ne_true hr).elim
                      | nil =>
                        dsimp only at hr
                        split at hr
                        · rename_i hb
                          rw [Bool.and_eq_true, Bool.and_eq_true] at hb
                          obtain ⟨⟨h1, h2⟩, h3⟩ := hb
                          rw [sEq_iff] at h1
                          subst h1
                          exact forItems_ok R hx hy h2 h3 vars st kn kr kx hr
                        · exact (Bool.false_ne_true hr).elim
                  | _ => exact (Bool.false_ne_true hr).elim
                | _ => exact (Bool.false_ne_true hr).elim
              · exact (Bool.false_ne_true hr).elim
          | _ => exact (Bool.false_ne_true hr).elim
      | _ => exact (Bool.false_ne_true hr).elim
  | _ => exact (Bool.false_ne_true hr).elim
theorem exC_ok (HR : RaiseOK prog w PF K pr lo mean mg mb) (R : RecOK prog w PF K pr lo mean mg mb lv n r) (sc : Scope) (t : Stmt) : StOK prog w PF K pr lo mean mg mb lv n ((exC K sc t).run r) t sc := by
  intro vars st kn kr kx hr
  cases t with
  | Assign ts e pos =>
    cases ts with
    | nil => exact (Bool.false_ne_true hr).elim
    | cons t ts =>
      cases ts with
      | cons => exact (Bool.false_ne_true hr).elim
      | nil =>
        unfold exC at hr
        dsimp only at hr
        split at hr
        · rename_i hn
          exact asgC_ok R _ _ _ hn vars st kn kr kx hr
        · exact (Bool.false_ne_true hr).elim
  | Return v pos =>
    cases v with
    | none => exact (Bool.false_ne_true hr).elim
    | some e =>
      rintro c m s p led Q E hC rfl hV hf hN hR hX
      exact wpAny_Return_some (R.ev c.cs _ vars st _ kx hr c _ m m s p led _ E hC EnvK.fn hV hf (fun a st1 u s1 p1 led1 hk1 hsm1 hl1 hu hf1 => hR a st1 u m s1 p1 led1 hk1 hsm1 hl1 hu hf1) hX)
  | Expr e pos =>
    unfold exC at hr
    dsimp only at hr
    split at hr
    · rename_i hn
      rintro c m s p led Q E hC rfl hV hf hN hR hX
      refine wpAny_Expr_any (R.ev c.cs _ vars st _ kx hr c _ m m s p led _ E hC EnvK.fn hV hf (fun a st1 u s1 p1 led1 hk1 hsm1 hl1 hu hf1 => hN vars st1 m s1 p1 led1 hk1 hsm1 hl1 (hV.le hl1) hf1) hX) ?_ (swaps_none hn _ _ _)
      show (c.cs.kind == ScopeKind.module && _) = false
      rw [hC.ck]
      rfl
    · exact (Bool.false_ne_true hr).elim
  | If t b o pos => exact if_ok R _ _ _ _ vars st kn kr kx hr
  | While t b o pos =>
    cases o with
    | cons => exact (Bool.false_ne_true hr).elim
    | nil =>
      rintro c m s p led Q E hC rfl hV hf hN hR hX
      exact wpAny_mono (E := fun _ _ => False) (Q := Q) (whl_start 64 (while_ok R _ _ hC 64 hr hV hf hN hR)) (fun _ _ q => q) (fun _ _ q => q.elim)
  | For t it b o pos =>
    cases o with
    | cons => exact (Bool.false_ne_true hr).elim
    | nil => exact forC_ok R _ _ _ _ vars st kn kr kx hr
  | Raise ex cause pos =>
    cases cause with
    | some => exact (Bool.false_ne_true hr).elim
    | none =>
      cases ex with
      | none => exact (Bool.false_ne_true hr).elim
      | some ex =>
        cases ex with
        | Call f args ks cp =>
          cases f with
          | Name c xp =>
            cases args with
            | nil => exact (Bool.false_ne_true hr).elim
            | cons e args =>
              cases args with
              | cons => exact (Bool.false_ne_true hr).elim
              | nil =>
                cases ks with
                | cons => exact (Bool.false_ne_true hr).elim
                | nil => exact HR lv n r R _ _ _ _ _ _ vars st kn kr kx hr
          | _ => exact (Bool.false_ne_true hr).elim
        | _ => exact (Bool.false_ne_true hr).elim
  | Pass pos =>
    rintro c m s p led Q E hC rfl hV hf hN hR hX
    exact wpAny_Pass (hN vars st m s p led hr (Sm.refl s) (Mp.le.refl p) hV hf)
  | _ => exact (Bool.false_ne_true hr).elim
theorem exsC_ok (HR : RaiseOK prog w PF K pr lo mean mg mb) (R : RecOK prog w PF K pr lo mean mg mb lv n r) (sc : Scope) (ss : List Stmt) : ExOK prog w PF K pr lo mean mg mb lv n ((exsC K sc ss).run r) ss sc := by
  intro vars st kn kr kx hr
  unfold exsC at hr
  split at hr
  · rintro c m s p led Q E hC rfl hV hf hN hR hX
    exact wpAny_execs_nil (hN vars st m s p led hr (Sm.refl s) (Mp.le.refl p) hV hf)
  · rename_i t ts
    rintro c m s p led Q E hC rfl hV hf hN hR hX
    dsimp only at hr
    refine wpAny_execs_cons (exC_ok HR R c.cs t vars st _ kr kx hr c m s p led _ E hC rfl hV hf (fun vars1 st1 m1 s1 p1 led1 hk1 hsm1 hl1 hV1 hf1 => ?_) (fun a st1 v m1 s1 p1 led1 hk1 hsm1 hl1 hv hf1 => hR a st1 v m1 s1 p1 led1 hk1 hsm1 hl1 hv hf1) hX)
    exact R.ex c.cs ts vars1 st1 kn kr kx hk1 c m1 s1 p1 led1 Q E hC rfl hV1 hf1 (hN.step hl1 hsm1) (hR.step hl1 hsm1) (hX.step hl1 hsm1)
end
end PH
end
section
open PySem PySem.W PySem.Calls PyProof.Rows
set_option Elab.async false
set_option maxRecDepth 100000
set_option linter.unusedVariables false
namespace PH
section
variable {prog : Program} {w : World} {PF : Addr} {K : Frag} {pr : Program} {lo : List Str} {mean : ExcName → Option Value} {mg mb : Str → Option Value} {lv : Bool}
variable {c : Cx} {p : Mp} {s : Shared} {m mv : Str → Option Value} {E : Value → Shared → Prop} {led : List (Addr × Obj)} {st : St} {env : Env} {sc : Scope} {n : Nat} {h : Heap} {r : Rec}

noncomputable def BlOK (prog : Program) (w : World) (K : Frag) (pr : Program) (lo : List Str) (mean : ExcName → Option Value) (mg mb : Str → Option Value) (lv : Bool) (n : Nat) (f : ClB) (g : Value) : Prop :=
  ∀ (as : List AV) (st : St) (k : KB), f.run as st k = true → ∀ (c : Cx) (m : Str → Option Value) (s : Shared) (p : Mp) (led : List (Addr × Obj)) (vs : List Value) (Q : Value → Shared → Prop) (E : Value → Shared → Prop),
    CxOK K pr lo mean mg mb lv n c → L2 (VRel p) as vs → Fm prog w c m s.heap st p led → Post prog w RV c m p k Q s → wpAny (model prog w) c.A (call g vs) Q E s

theorem l2_1 {a : AV} {vs : List Value} (h : L2 (VRel p) [a] vs) : ∃ v, vs = [v] ∧ VRel p a v := by
  cases h with
  | cons h t => cases t; exact ⟨_, rfl, h⟩
theorem l2_2 {a b : AV} {vs : List Value} (h : L2 (VRel p) [a, b] vs) : ∃ v u, vs = [v, u] ∧ VRel p a v ∧ VRel p b u := by
  cases h with
  | cons h t => obtain ⟨u, rfl, hu⟩ := l2_1 t; exact ⟨_, _, rfl, h, hu⟩
theorem l2_3 {a b d : AV} {vs : List Value} (h : L2 (VRel p) [a, b, d] vs) : ∃ v u x, vs = [v, u, x] ∧ VRel p a v ∧ VRel p b u ∧ VRel p d x := by
  cases h with
  | cons h t => obtain ⟨u, x, rfl, hu, hx⟩ := l2_2 t; exact ⟨_, _, _, rfl, h, hu, hx⟩

theorem lenB_ok : BlOK prog w K pr lo mean mg mb lv n lenB (.builtin "len") := by
  intro as st k hr c m s p led vs Q E hC hvs hf hQ
  unfold lenB at hr
  dsimp only at hr
  split at hr
  · rename_i v
    obtain ⟨x, rfl, hx⟩ := l2_1 hvs
    split at hr
    · rename_i N hN
      split at hr
      · rename_i hz
        rw [Nat.blt_eq] at hz
        have hq : ∀ t tk, Q (.int (N : Int) t) { heap := s.heap, gens := s.gens, drawn := s.drawn, toks := tk, os := s.os } := fun t tk => hQ.toks (x := AV.int (Int.ofNat N)) hr ⟨t, rfl⟩ hf
        unfold lenA at hN
        split at hN
        · cases hN
          obtain ⟨t, rfl⟩ := hx
          exact len_writK _ rfl (by omega) (hq _ _)
        · cases hN
          obtain ⟨t, rfl⟩ := hx
          rename_i b
          have e : (KBw.bInts b.toArray).length = b.length := by rw [KBw.ints_length]; simp
          exact KBw.len_K rfl (by rw [e]; omega) (by rw [e]; exact hq _ _)
        · split at hN
          · rename_i xs hi
            cases hN
            obtain ⟨d, us, kk, hd, _, hl, hlist, _⟩ := hf.list hi
            rw [hx.obj_eq hd]
            exact kun_lenL hlist (k := (xs.length : Int)) (by simp [hl.len]) (by omega) (hq _ _)
          · rename_i xs hi
            cases hN
            obtain ⟨d, us, hd, _, hl, hlist, _⟩ := hf.tup hi
            rw [hx.obj_eq hd]
            exact kun_lenT hlist (k := (xs.length : Int)) (by simp [hl.len]) (by omega) (hq _ _)
          · cases hN
        · cases hN
      · cases hr
    · cases hr
  · cases hr

theorem appB_ok : BlOK prog w K pr lo mean mg mb lv n appB (.builtin "list.append") := by
  intro as st k hr c m s p led vs Q E hC hvs hf hQ
  unfold appB at hr
  dsimp only at hr
  split at hr
  · rename_i i v
    obtain ⟨x, u, rfl, hx, hu⟩ := l2_2 hvs
    split at hr
    · rename_i xs hi
      split at hr
      · rename_i hz
        obtain ⟨b, pre, post, hl, ⟨d, us, kk, hd, rfl, hus⟩, hput, _⟩ := hf.H.at hi
        have hlen := size_ok hz hus
        rw [hx.obj_eq hd]
        have hnd := hf.nd
        rw [hl] at hnd
        have hN := hf.N
        rw [hl] at hN
        refine append_K (news' := c.X ++ (pre ++ (d, PySem.W.listOf (us.toArray.push u) (kk + 1)) :: post)) hf.F hN (upd_mid hnd) (fun h' F' N' => ?_) (by simp; exact Nat.le_trans hlen (by decide))
        have e : us.toArray.push u = (us ++ [u]).toArray := by simp
        rw [e] at N'
        refine hQ AV.none _ Value.none _ p (pre ++ ([(d, PySem.W.listOf (us ++ [u]).toArray (kk + 1))] ++ post)) hr (Sm.mk s h' s.toks) (Mp.le.refl p) rfl ⟨F', N', nodup_mid hnd, ?_, hf.na, hf.nn⟩
        exact hput (.list (xs ++ [v])) _ ⟨d, us ++ [u], kk + 1, hd, rfl, hus.app (.cons hu .nil)⟩
      · cases hr
    · cases hr
  · cases hr

theorem tupB_ok : BlOK prog w K pr lo mean mg mb lv n tupB (.type "tuple") := by
  intro as st k hr c m s p led vs Q E hC hvs hf hQ
  unfold tupB at hr
  dsimp only at hr
  split at hr
  · rename_i i
    obtain ⟨x, rfl, hx⟩ := l2_1 hvs
    split at hr
    · rename_i xs hi
      split at hr
      · rename_i hz
        obtain ⟨d, us, kk, hd, _, hl, hlist, _⟩ := hf.list hi
        have hlen := size_ok hz hl
        rw [hx.obj_eq hd]
        refine kde_tupleOf (zs := us) hf.F hf.N hlist (by simp; omega) (by simp) (fun D h' F' N' hlt => ?_)
        exact al_post hr hQ hf F' N' hlt ⟨D, us, Mp.addA_at hf.na, rfl, hl.mono fun _ _ z => z.le (p.le_addA D)⟩
      · cases hr
    · cases hr
  · cases hr

theorem strB_ok : BlOK prog w K pr lo mean mg mb lv n strB (.type "str") := by
  intro as st k hr c m s p led vs Q E hC hvs hf hQ
  unfold strB at hr
  dsimp only at hr
  split at hr
  · rename_i i
    obtain ⟨x, rfl, hx⟩ := l2_1 hvs
    split at hr
    · rename_i hz
      obtain ⟨t, rfl⟩ := hx
      have hs := small_lt hz
      refine P.str_of_int ?_ (hQ.toks hr ⟨_, rfl⟩ hf)
      have : i.natAbs < 2 ^ 20 := by omega
      have h2 := (Nat.log2_lt (n := i.natAbs) (k := 20))
      by_cases q : i.natAbs = 0
      · rw [q]; decide
      · exact Nat.lt_trans ((Nat.log2_lt q).mpr this) (by decide)
    · cases hr
  · cases hr

theorem getB_ok : BlOK prog w K pr lo mean mg mb lv n getB (.builtin "dict.get") := by
  have main : ∀ {i : Nat} {o : AO} {kv : AV} {g : Option AV} {d : Addr} {key : Value} {st : St} {c : Cx} {m : Str → Option Value} {s : Shared} {p : Mp} {led : List (Addr × Obj)} {G : Option Value → Prop}, CxOK K pr lo mean mg mb lv n c → Fm prog w c m s.heap st p led → st.get i = some o → dictGet o kv = some g → p.as[i]? = some d → VRel p kv key →
      (match g with | some a => ∀ v, VRel p a v → G (some v) | none => G none) →
      ∃ (KT : Type) (_ : DecidableEq KT) (knd : PySem.KeyKind prog w KT) (ob : Obj) (l : List (KT × Value)) (k : KT), (d, ob) ∈ c.X ++ led ∧ Obj.IsDictOf knd ob l ∧ (d == sysModules) = false ∧ knd.is k key = true ∧ G (valueAt l k) := by
    intro i o kv g d key st c m s p led G hC hf hi hg hd hk hG
    obtain ⟨b, pre, post, hl, hb, _, _⟩ := hf.H.at hi
    have mem : ∀ {x : Addr} {ob : Obj}, b = [(x, ob)] → (x, ob) ∈ c.X ++ led := by
      rintro x ob rfl
      rw [hl]
      simp
    unfold dictGet at hg
    split at hg
    · split at hg
      · cases hg
        obtain ⟨t, rfl⟩ := hk
        obtain ⟨x, ob, hx, hb', h1, _, h3⟩ := hb
        rw [hd] at hx
        cases hx
        exact ⟨Str, inferInstance, PySem.strKind prog w, ob, [], _, mem hb', h1, h3, strKind_is _ _ _ _, hG⟩
      · cases hg
    · split at hg
      · rename_i kvs _ x
        cases hg
        obtain ⟨t, rfl⟩ := hk
        obtain ⟨y, ob, l, hx, hb', h1, h2, h3⟩ := hb
        rw [hd] at hx
        cases hx
        refine ⟨Str, inferInstance, PySem.strKind prog w, ob, l, x, mem hb', h1, h3, strKind_is _ _ _ _, ?_⟩
        have := lk_valueAt h2 x
        cases q : lk kvs x with
        | none => rw [q] at this hG; rw [this]; exact hG
        | some a => rw [q] at this hG; obtain ⟨v, e, hv⟩ := this; rw [e]; exact hG v hv
      · cases hg
    · split at hg
      · rename_i kvs _ x
        obtain ⟨t, rfl⟩ := hk
        obtain ⟨y, ob, l, hx, hb', h1, h3, _, h2⟩ := hb
        rw [hd] at hx
        cases hx
        refine ⟨Str, inferInstance, PySem.strKind prog w, ob, l, x, mem hb', h1, h3, strKind_is _ _ _ _, ?_⟩
        have := h2 x
        rw [hg] at this
        cases g with
        | none => dsimp only at this; rw [this]; exact hG
        | some a => dsimp only at this; obtain ⟨v, e, hv⟩ := this; rw [e]; exact hG v hv
      · cases hg
    · split at hg
      · rename_i N kvs a ha
        cases hg
        obtain ⟨y, ob, l, hx, hb', h1, h3, _, h2, _⟩ := hb
        rw [hd] at hx
        cases hx
        have : ∀ {kvs : List (AV × AV)}, lkI kvs kv = some a → (kv, a) ∈ kvs := by
          intro kvs
          induction kvs with
          | nil => intro e; cases e
          | cons z r ih =>
            intro e
            unfold lkI at e
            split at e
            · rename_i q
              cases e
              rw [← q]
              exact .head _
            · exact .tail _ (ih e)
        obtain ⟨i', v, e1, e2, e3⟩ := h2 _ (this ha)
        have hkey : ∃ t, key = .int i' t := by
          cases kv with
          | int j => obtain ⟨t, rfl⟩ := hk; cases e1; exact ⟨t, rfl⟩
          | sint j =>
            obtain ⟨i2, t, h4, rfl⟩ := hk
            have e1 : p.ns[j]? = some i' := e1
            rw [h4] at e1
            cases e1
            exact ⟨t, rfl⟩
          | _ => cases e1
        obtain ⟨t, rfl⟩ := hkey
        exact ⟨Int, inferInstance, PySem.intKind prog w, ob, l, i', mem hb', h1, h3, intKind_is _ _ _ _, by rw [e2]; exact hG v e3⟩
      · cases hg
    · cases hg
  intro as st k hr c m s p led vs Q E hC hvs hf hQ
  unfold getB at hr
  dsimp only at hr
  split at hr
  · rename_i i kv
    obtain ⟨x, u, rfl, hx, hu⟩ := l2_2 hvs
    obtain ⟨d, hd, rfl⟩ := hx
    split at hr
    · rename_i o hi
      have fin : ∀ {g : Option AV}, dictGet o kv = some g → (match g with | some a => k a st = true | none => k .none st = true) → wpAny (model prog w) c.A (call (.builtin "dict.get") [.ref d, u]) Q E s := by
        intro g hg hk
        obtain ⟨KT, _, knd, ob, l, k', h1, h2, h3, h4, h5⟩ := main (G := fun x => Q (x.getD .none) { heap := s.heap, gens := s.gens, drawn := s.drawn, toks := s.toks + 1, os := s.os }) hC hf hi hg hd hu (by
          cases g with
          | none => exact hQ.toks (x := AV.none) hk rfl hf
          | some a => exact fun v hv => hQ.toks hk hv hf)
        exact kdg_get1 hf.N h1 h2 h3 h4 _ rfl h5
      split at hr
      · rename_i v hg
        exact fin hg hr
      · rename_i hg
        exact fin hg hr
      · cases hr
    · cases hr
  · rename_i i kv dv
    obtain ⟨x, u, z, rfl, hx, hu, hz⟩ := l2_3 hvs
    obtain ⟨d, hd, rfl⟩ := hx
    split at hr
    · rename_i o hi
      have fin : ∀ {g : Option AV}, dictGet o kv = some g → (match g with | some a => k a st = true | none => k dv st = true) → wpAny (model prog w) c.A (call (.builtin "dict.get") [.ref d, u, z]) Q E s := by
        intro g hg hk
        obtain ⟨KT, _, knd, ob, l, k', h1, h2, h3, h4, h5⟩ := main (G := fun x => Q (x.getD z) { heap := s.heap, gens := s.gens, drawn := s.drawn, toks := s.toks + 1, os := s.os }) hC hf hi hg hd hu (by
          cases g with
          | none => exact hQ.toks (x := dv) hk hz hf
          | some a => exact fun v hv => hQ.toks hk hv hf)
        exact kdg_get2 hf.N h1 h2 h3 h4 _ rfl h5
      split at hr
      · rename_i v hg
        exact fin hg hr
      · rename_i hg
        exact fin hg hr
      · cases hr
    · cases hr
  · cases hr

theorem kit_of {v : AV} {x t : Value} (e : typeA K v st = some t) (hv : VRel p v x) (hf : Fm prog w c m h st p led) : ∃ H : Heap → Prop, KitX K x t H ∧ H h ∧ x ≠ .builtin "__main__.__loader__#opaque" := by
  have nb : ∀ a : Addr, (Value.ref a) ≠ .builtin "__main__.__loader__#opaque" := fun a q => by cases q
  unfold typeA at e
  split at e
  · cases e; cases hv; exact ⟨_, kitx_none, trivial, fun q => by cases q⟩
  · cases e; cases hv; exact ⟨_, kitx_bool, trivial, fun q => by cases q⟩
  · cases e; obtain ⟨t, rfl⟩ := hv; exact ⟨_, kitx_int, trivial, fun q => by cases q⟩
  · cases e; obtain ⟨i, t, _, rfl⟩ := hv; exact ⟨_, kitx_int, trivial, fun q => by cases q⟩
  · cases e; obtain ⟨t, rfl⟩ := hv; exact ⟨_, kitx_str, trivial, fun q => by cases q⟩
  · cases e; obtain ⟨t, rfl⟩ := hv; exact ⟨_, kitx_bytes, trivial, fun q => by cases q⟩
  · split at e
    · rename_i C at_ hi
      split at e
      · rename_i ok
        cases e
        unfold instOk at ok
        simp only [Bool.and_eq_true, beq_iff_eq] at ok
        obtain ⟨⟨⟨⟨⟨k1, k2⟩, k3⟩, k4⟩, k5⟩, k6⟩ := ok
        obtain ⟨y, dx, es, kk, hy, hI, _⟩ := hf.inst hi
        rw [hv.obj_eq hy]
        exact ⟨_, kitx_own k1 k2 k3 k4 k5 k6, hI, nb y⟩
      · cases e
    · rename_i xs hi
      cases e
      obtain ⟨y, us, kk, hy, _, _, _, hg⟩ := hf.list hi
      rw [hv.obj_eq hy]
      exact ⟨_, kitx_list, ⟨_, hg, rfl⟩, nb y⟩
    · rename_i xs hi
      cases e
      obtain ⟨y, us, hy, _, _, _, hg⟩ := hf.tup hi
      rw [hv.obj_eq hy]
      exact ⟨_, kitx_tuple, ⟨_, hg, rfl⟩, nb y⟩
    all_goals first
      | (rename_i hi
         cases e
         obtain ⟨y, ob, hy, _, hcls, hg⟩ := hf.one (P := fun _ ob => ob.cls = .type "dict") hi (fun b hb => by
           first
           | (obtain ⟨x, o, h1, h2, h3, _⟩ := hb; obtain ⟨_, _, hex, _⟩ := h3; exact ⟨x, o, h1, h2, hex.1⟩)
           | (obtain ⟨x, o, l, h1, h2, h3, _⟩ := hb; obtain ⟨_, _, hex, _⟩ := h3; exact ⟨x, o, h1, h2, hex.1⟩))
         rw [hv.obj_eq hy]
         exact ⟨_, kitx_dict, ⟨_, hg, hcls⟩, nb y⟩)
      | cases e
  · cases e

theorem isAny_ok {t : Value} : ∀ {cs : List AV} {vs : List Value} {b : Bool}, isAny K t cs = some b → L2 (VRel p) cs vs → kitAny K t vs = some b
  | [], vs, b, e, h => by cases h; exact e
  | a :: r, vs, b, e, h => by
    cases h with
    | @cons _ v _ vs hv hr =>
    unfold isAny at e
    split at e
    · rename_i cv hcv
      have : v = cv := by
        cases a with
        | typ n => cases hcv; exact hv
        | prog x => cases hcv; exact hv
        | _ => cases hcv
      subst this
      show (match kitOne K t v with | some true => some true | some false => kitAny K t vs | none => none) = some b
      split at e
      · rename_i q; first | exact e | (rw [q]; exact e)
      · rename_i q; first | exact isAny_ok e hr | (rw [q]; exact isAny_ok e hr)
      · cases e
    · cases e

theorem isiB_ok : BlOK prog w K pr lo mean mg mb lv n (isiB K) (.builtin "isinstance") := by
  intro as st k hr c m s p led vs Q E hC hvs hf hQ
  unfold isiB at hr
  dsimp only at hr
  split at hr
  · rename_i v cl
    obtain ⟨x, u, rfl, hx, hu⟩ := l2_2 hvs
    split at hr
    · rename_i b hb
      have hX : K.In s.heap := hC.X.keeps hf.F.keep
      have hq : ∀ tk, Q (.bool b) { heap := s.heap, gens := s.gens, drawn := s.drawn, toks := tk, os := s.os } := fun tk => hQ.toks (x := AV.bool b) hr rfl hf
      unfold isInstA at hb
      split at hb
      · rename_i t ht
        obtain ⟨H, kx, hH, hnb⟩ := kit_of ht hx hf
        have one : ∀ {cl : AV} {u : Value}, isAny K t [cl] = some b → VRel p cl u → wpAny (model prog w) c.A (call (.builtin "isinstance") [x, u]) Q E s := by
          intro cl u hb hu
          have h1 := isAny_ok hb (.cons hu .nil)
          have h2 : kitOne K t u = some b := by
            have h1 : (match kitOne K t u with | some true => some true | some false => kitAny K t [] | none => none) = some b := h1
            split at h1
            · rename_i q; rw [q]; exact h1
            · rename_i q; rw [q]; exact h1
            · cases h1
          exact kia_one kx hX hH h2 hnb hq
        split at hb
        · rename_i i
          split at hb
          · rename_i xs hi
            obtain ⟨d, us, hd, _, hl, _, hg⟩ := hf.tup hi
            rw [hu.obj_eq hd]
            exact kia_tup kx hX hH hg (isAny_ok hb hl) hnb hq
          · cases hb
        · exact one hb hu
      · cases hb
    · cases hr
  · cases hr

theorem bltA_ok (id : String) : BlOK prog w K pr lo mean mg mb lv n (bltA K id) (.builtin id) := by
  intro as st k hr
  unfold bltA at hr
  split at hr
  · rename_i q; subst q; exact lenB_ok as st k hr
  · split at hr
    · rename_i q; subst q; exact isiB_ok as st k hr
    · split at hr
      · rename_i q; subst q; exact getB_ok as st k hr
      · split at hr
        · rename_i q; subst q; exact appB_ok as st k hr
        · cases hr
end
end PH
end
section
open PySem PySem.W PySem.Calls PyProof.Rows
set_option Elab.async false
set_option maxRecDepth 100000
set_option linter.unusedVariables false
namespace PH
theorem no_bytes_int : typeLookup (.type "int") "__bytes__" = pure none := by rw [typeLookup_type, builtinLookup_eq_fast]; kernel_rfl
theorem index_int : typeLookup (.type "int") "__index__" = pure (some (.builtin "int.__index__")) := by rw [typeLookup_type, builtinLookup_eq_fast]; kernel_rfl
theorem bytes_bytes : typeLookup (.type "bytes") "__bytes__" = pure (some (.builtin "bytes.__bytes__")) := by rw [typeLookup_type, builtinLookup_eq_fast]; kernel_rfl
theorem isType_bytes : isType (.type "bytes") = pure true := by first | rfl | kernel_rfl
section
variable {prog : Program} {w : World} {A : Around} {E : Value → Shared → Prop} {s : Shared}

theorem bm_new_int {n : Int} {t : Tok} {Q : Value → Shared → Prop} (h0 : 0 ≤ n) (hn : n < 1000) (hQ : ∀ t k, Q (.bytes (Array.replicate n.toNat 0) t) { s with toks := k }) :
    codeAny (model prog w) A (.call (.builtin "bytes.__new__") ⟨[.type "bytes", .int n t], []⟩) (wants Q E) s := by
  refine codeAny_of_tree ?_
  show wpAny _ A.in1 (do checkBuiltinCall "bytes.__new__" ⟨[.type "bytes", .int n t], []⟩; again (.builtin "bytes.__new__" ⟨[.type "bytes", .int n t], []⟩)) _ _ s
  refine wpAny_bind (wpAny_of_eq (F.bm_newCall _) (wpAny_pure ⟨plainId_quiet F.bm_plain _, codeAny_builtin F.bm_entry ?_⟩))
  rw [Around.under_plainId F.bm_plain _]
  have hT : s.TypeIs (.int n t) "int" := rfl
  unfold Builtin.«bytes.__new__»
  dsimp only
  refine wpAny_bind (wpAny_of_eq isType_bytes ?_)
  refine bm_if_false rfl ?_
  refine wpAny_bind (wpAny_of_eq F.bm_sub ?_)
  refine bm_if_false rfl ?_
  refine wpAny_bind (wpAny_of_eq (F.bm_bind _) ?_)
  refine wpAny_bind (wpAny_of_eq (a := ()) rfl ?_)
  refine wpAny_bind (wpAny_of_eq (a := ()) rfl ?_)
  refine bm_if_false rfl ?_
  refine wpAny_bind (wpAny_specialOf hT no_bytes_int ?_)
  refine wpAny_bind (wpAny_bind ?_)
  refine wpAny_of_eq (a := none) rfl (wpAny_pure ?_)
  refine bm_if_false rfl ?_
  
  refine wpAny_bind (wpAny_specialOf hT index_int ?_)
  refine bm_if_false rfl ?_
  refine wpAny_bind (wpAny_attempt (wpAny_of_eq (rfl : asIndex (.int n t) = pure n) ?_))
  dsimp only
  have e1 : Builtin.Bytes.fitsIndex n = true := by unfold Builtin.Bytes.fitsIndex; simp only [Bool.and_eq_true, decide_eq_true_eq]; omega
  rw [e1]
  refine bm_if_false rfl ?_
  rw [if_neg (by omega)]
  rw [if_neg (by omega)]
  have hz : n.toNat < 1000 := by omega
  refine bm_if_false (by unfold Builtin.Bytes.tooLong; simp only [decide_eq_false_iff_not]; have : sizeLine = 2 ^ 24 := rfl; omega) ?_
  refine wpAny_bind (wpAny_rule ?_)
  refine wpAny_bind (wpAny_mkBytes ?_ (by rw [Array.size_replicate]; have : sizeLine = 2 ^ 24 := rfl; omega))
  show wpAny _ _ (if (Value.type "bytes" == Value.type "bytes") = true then _ else _) _ _ _
  refine bm_if_true (by decide) ?_
  first
    | exact wpAny_pure (hQ _ _)
    | exact wpAny_bind (wpAny_pure (wpAny_pure (hQ _ _)))

theorem bm_new_bytes {b : Array UInt8} {t : Tok} {Q : Value → Shared → Prop} (hQ : Q (.bytes b t) s) :
    codeAny (model prog w) A (.call (.builtin "bytes.__new__") ⟨[.type "bytes", .bytes b t], []⟩) (wants Q E) s := by
  refine codeAny_of_tree ?_
  show wpAny _ A.in1 (do checkBuiltinCall "bytes.__new__" ⟨[.type "bytes", .bytes b t], []⟩; again (.builtin "bytes.__new__" ⟨[.type "bytes", .bytes b t], []⟩)) _ _ s
  refine wpAny_bind (wpAny_of_eq (F.bm_newCall _) (wpAny_pure ⟨plainId_quiet F.bm_plain _, codeAny_builtin F.bm_entry ?_⟩))
  rw [Around.under_plainId F.bm_plain _]
  have hT : s.TypeIs (.bytes b t) "bytes" := rfl
  unfold Builtin.«bytes.__new__»
  dsimp only
  refine wpAny_bind (wpAny_of_eq isType_bytes ?_)
  refine bm_if_false rfl ?_
  refine wpAny_bind (wpAny_of_eq F.bm_sub ?_)
  refine bm_if_false rfl ?_
  refine wpAny_bind (wpAny_of_eq (F.bm_bind _) ?_)
  refine wpAny_bind (wpAny_of_eq (a := ()) rfl ?_)
  refine wpAny_bind (wpAny_of_eq (a := ()) rfl ?_)
  refine bm_if_false rfl ?_
  refine wpAny_bind (wpAny_specialOf hT bytes_bytes ?_)
  refine wpAny_bind (wpAny_rule ?_)
  refine wpAny_bind (wpAny_typeOf hT ?_)
  refine bm_if_true (by decide) ?_
  show wpAny _ _ (if (Value.type "bytes" == Value.type "bytes") = true then _ else _) _ _ _
  refine bm_if_true (by decide) ?_
  first
    | exact wpAny_pure hQ
    | exact wpAny_bind (wpAny_pure (wpAny_pure hQ))

theorem call_bytes_of {x : Value} {Q : Value → Shared → Prop} (h : ∀ Q' : Value → Shared → Prop, (∀ b t k, Q (.bytes b t) { s with toks := k } → Q' (.bytes b t) { s with toks := k }) → codeAny (model prog w) A.in1 (.call (.builtin "bytes.__new__") ⟨[.type "bytes", x], []⟩) (wants Q' E) s) :
    wpAny (model prog w) A (call (.type "bytes") [x]) Q E s := by
  refine callType_codes (Q₁ := fun obj s₁ => s₁.TypeIs obj "bytes" ∧ Q obj s₁) F.bm_called (F.bm_typeCall _) F.entry_object_init
    (h _ fun b t k hq => ⟨PySem.W.typeIs_bytes _ _ _, hq⟩) fun obj s₁ h₁ => ?_
  exact ⟨h₁.1, F.args_object_init_2 obj _, object_init_meets F.bm_called.init.lookup F.bm_called.made (by decide) prog w A.in1 _ s₁ ⟨h₁.1, rfl, h₁.2⟩⟩
end
section
variable {prog : Program} {w : World} {PF : Addr} {K : Frag} {pr : Program} {lo : List Str} {mean : ExcName → Option Value} {mg mb : Str → Option Value} {lv : Bool} {n : Nat}
theorem bytB_ok : BlOK prog w K pr lo mean mg mb lv n bytB (.type "bytes") := by
  intro as st k hr c m s p led vs Q E hC hvs hf hQ
  unfold bytB at hr
  dsimp only at hr
  split at hr
  · rename_i N
    obtain ⟨x, rfl, hx⟩ := l2_1 hvs
    obtain ⟨t, rfl⟩ := hx
    split at hr
    · rename_i hz
      rw [Nat.blt_eq] at hz
      refine call_bytes_of fun Q' hQ' => bm_new_int (by simp) (by simp; omega) fun t k => hQ' _ _ _ (hQ.toks (x := AV.bytes (List.replicate N 0)) hr ⟨t, ?_⟩ hf)
      simp
    · cases hr
  · rename_i b
    obtain ⟨x, rfl, hx⟩ := l2_1 hvs
    obtain ⟨t, rfl⟩ := hx
    exact call_bytes_of fun Q' hQ' => bm_new_bytes (hQ' _ _ s.toks (hQ.toks (x := AV.bytes b) hr ⟨t, rfl⟩ hf))
  · cases hr

theorem typA_ok (id : String) : BlOK prog w K pr lo mean mg mb lv n (typA id) (.type id) := by
  intro as st k hr
  unfold typA at hr
  split at hr
  · rename_i q; subst q; exact tupB_ok as st k hr
  · split at hr
    · rename_i q; subst q; exact strB_ok as st k hr
    · split at hr
      · rename_i q; subst q; exact bytB_ok as st k hr
      · cases hr
end
end PH
end
section
open PySem PySem.W PySem.Calls PyProof.Rows
set_option Elab.async false
set_option maxRecDepth 100000
set_option linter.unusedVariables false
namespace PH
section
variable {prog : Program} {w : World} {PF : Addr} {K : Frag} {pr : Program} {lo : List Str} {mean : ExcName → Option Value} {mg mb : Str → Option Value} {lv : Bool}
variable {c : Cx} {p : Mp} {s : Shared} {m mv : Str → Option Value} {E : Value → Shared → Prop} {led : List (Addr × Obj)} {st : St} {env : Env} {sc : Scope} {n : Nat} {h : Heap} {r : Rec}

theorem leave_newM {M : Model} {A : Around} {s' : Shared} {base g h : Heap} {outer : List Env} {L a e : Addr} {name : Str} {scope : Scope} {cd : Value} {Q : Unit → Shared → Prop} {news : List (Addr × Obj)} {cls : Value}
    (K : Below A base outer g) (hx : NewX h s'.heap e cls) (F : Fr g L h m) (N : News g L h news) (hk : scope.kind = .function)
    (hQ : ∀ h', RaisedM base g outer e cls news h' → g.UpToSlots h' → Q () { s' with heap := h' }) :
    wpAny M (A.deeper (envOf name scope L a cd)) (leaving (envOf name scope L a cd) (.ref e)) Q E s' := by
  have K' := K.push (name := name) (a := a) (cd := cd) F hk
  have hin : ∀ env ∈ (envOf name scope L a cd :: outer), ∀ b, env.frame = some b → b ∈ (envOf name scope L a cd :: outer).filterMap (·.frame) := fun env he b hb => List.mem_filterMap.mpr ⟨env, he, hb⟩
  have st : base.StaysIn (hideAll h ((envOf name scope L a cd :: outer).filterMap (·.frame))) := fun b o q => hideAll_get _ (K'.stays b o q) fun hm => by
    rw [(K'.frames.mem hm).1] at q; cases q
  have sg : ∀ b o, g.get? b = some o → b ∉ outer.filterMap (·.frame) → (hideAll h ((envOf name scope L a cd :: outer).filterMap (·.frame))).get? b = some o := fun b o q nm => hideAll_get _ (F.keep b o q) fun hm => by
    rcases kts_mem hm with z | z
    · rw [z, kts_self F] at q
      cases q
    · exact nm z
  have hl : ∀ q ∈ news, (hideAll h ((envOf name scope L a cd :: outer).filterMap (·.frame))).get? q.1 = some q.2 ∧ g.get? q.1 = none ∧ base.get? q.1 = none := fun q hq => by
    refine ⟨hideAll_get _ (N q hq).1 fun hm => ?_, (N q hq).2.2, fresh_of_stays K.stays (N q hq).2.2⟩
    obtain ⟨env, he, hf⟩ := List.mem_filterMap.mp hm
    rcases List.mem_cons.mp he with rfl | he
    · exact (N q hq).2.1 (Option.some.inj hf).symm
    · obtain ⟨o, ho, _⟩ := (K.frames.mem (List.mem_filterMap.mpr ⟨env, he, hf⟩)).2
      rw [(N q hq).2.2] at ho; cases ho
  obtain ⟨ob, vs, a0, he, hcls, hd, h1, h0⟩ := hx.there
  have hen : (hideAll h ((envOf name scope L a cd :: outer).filterMap (·.frame))).get? e = none := by
    cases q : (hideAll h ((envOf name scope L a cd :: outer).filterMap (·.frame))).get? e with
    | none => rfl
    | some o => have := of_hideAll _ q; rw [hx.new] at this; cases this
  refine wpAny_leaving_firstW (a0 := a0) K'.stack ((funFrames_hide K'.frames hin).of_keeps fun b o hb _ => ⟨o, hx.keeps b o hb, rfl⟩) rfl he (fun b o hb => hx.keeps b o (of_hideAll _ hb)) hen hd h1 h0 fun h' hL => ?_
  obtain ⟨k1, ⟨_, _, k2⟩, k3, k4⟩ := hL
  have R : RaisedM base g outer e cls news h' := ⟨_, a0, st, sg, hl, k1, hen, k2, by rw [← hcls]; exact k3⟩
  exact hQ h' R (((Heap.UpToSlots.of_keeps F.keep).trans (Heap.UpToSlots.of_keeps hx.keeps)).trans k4)

/-- the place within a call of a def -/
noncomputable def Cx.within (c : Cx) (AA : Around) (g : Heap) (L : Addr) (cn : Str) (cs : Scope) (a : Addr) (ccd : Value) : Cx :=
  { A := AA.deeper (envOf cn cs L a ccd), A₀ := AA, base := c.base, h₀ := g, outer := c.env :: c.outer, L := L, cn := cn, cs := cs, a := a, ccd := ccd, X := c.X }

theorem Exc.leave {M : Model} {AA : Around} {g : Heap} {L : Addr} {cn : Str} {cs : Scope} {a : Addr} {ccd : Value} {e : Addr} {s' : Shared} {Q : Unit → Shared → Prop} (x : Exc prog w PF (c.within AA g L cn cs a ccd) p st s'.heap e)
    (hB : Below AA c.base (c.env :: c.outer) g) (F : Fr c.h₀ c.L g m) (hk : cs.kind = .function) (hQ : ∀ h', Exc prog w PF c p st h' e → Q () { s' with heap := h' }) :
    wpAny M (AA.deeper (envOf cn cs L a ccd)) (leaving (envOf cn cs L a ccd) (.ref e)) Q E s' := by
  obtain ⟨p', led, h1, h2, h3, h4, h5, h6⟩ := x.of
  rcases h6 with ⟨g₁, m₁, hx, F₁, N₁⟩ | ⟨G, m₁, F₁, R, hsm⟩
  · exact leave_newM hB hx F₁ N₁ hk fun h' R hu => hQ h' ⟨p', led, h1, h2, h3, h4, h5, .inr ⟨g, m, F, R, hu⟩⟩
  · exact leave_onSN hB F₁ R hsm fun h' R _ hu => hQ h' ⟨p', led, h1, h2, h3, h4, h5, .inr ⟨g, m, F, R, hu⟩⟩

theorem lookup_mem {α : Type} : ∀ {l : List (Str × α)} {x : Str} {v : α}, (l.map (·.1)).Nodup → (x, v) ∈ l → l.lookup x = some v
  | [], _, _, _, h => by cases h
  | (y, u) :: r, x, v, hn, h => by
    rw [List.map_cons, List.nodup_cons] at hn
    rcases List.mem_cons.mp h with e | e
    · cases e
      simp [List.lookup_cons]
    · have : (x == y) = false := by
        rw [beq_eq_false_iff_ne]
        intro q
        exact hn.1 (q ▸ List.mem_map.mpr ⟨_, e, rfl⟩)
      rw [List.lookup_cons, this]
      exact lookup_mem hn.2 e
theorem lk_mem {α : Type} : ∀ {l : List (Str × α)} {x : Str} {v : α}, lk l x = some v → (x, v) ∈ l
  | [], _, _, h => by cases h
  | (y, u) :: r, x, v, h => by
    unfold lk at h
    split at h
    · rename_i q
      cases h
      rw [sEq_iff.mp q]
      exact .head _
    · exact .tail _ (lk_mem h)

theorem varsRel_binds {bs : Vars} {vb : List (Str × Value)} (h : L2 (SKRel p) bs vb) (hn : (vb.map (·.1)).Nodup) : VarsRel p bs (fun y => vb.reverse.lookup y) := by
  intro x a e
  have hm := lk_mem e
  have : ∀ {bs : Vars} {vb : List (Str × Value)}, L2 (SKRel p) bs vb → (x, a) ∈ bs → ∃ v, (x, v) ∈ vb ∧ VRel p a v := by
    intro bs vb h
    induction h with
    | nil => intro e; cases e
    | @cons u v l m hr _ ih =>
      intro e
      rcases List.mem_cons.mp e with rfl | e
      · obtain ⟨y, v⟩ := v
        obtain ⟨h1, h2⟩ := hr
        dsimp only at h1
        subst h1
        exact ⟨v, .head _, h2⟩
      · obtain ⟨v', h1, h2⟩ := ih e
        exact ⟨v', .tail _ h1, h2⟩
  obtain ⟨v, hv, hr⟩ := this h hm
  refine ⟨v, lookup_mem ?_ (List.mem_reverse.mpr hv), hr⟩
  rw [List.map_reverse]
  exact List.pairwise_reverse.mpr (hn.imp fun h q => h q.symm)

noncomputable def progTupV (K : Frag) (a : Nat) : Option (List Value) := match K.lookup a with
  | some ⟨.type "tuple", _, .seq xs _, _⟩ => if xs.toList.all avOk then some xs.toList else none
  | _ => none
theorem progTupV_eq (a : Nat) : match progTupV K a with
    | some l => progTup K a = some (l.map avOf) ∧ l.all avOk = true
    | none => progTup K a = none := by
  unfold progTupV progTup
  generalize K.lookup a = o
  split
  · rename_i h
    split at h
    · split at h
      · rename_i ok
        cases h
        refine ⟨?_, ok⟩
        show (if _ then _ else _) = _
        rw [if_pos ok]
      · cases h
    · cases h
  · rename_i h
    split at h
    · split at h
      · cases h
      · rename_i ok
        show (if _ then _ else _) = _
        rw [if_neg ok]
    · rename_i hno
      first
      | rfl
      | (split
         · exact absurd rfl (hno _ _ _ _)
         · rfl)
noncomputable def dfltVs (K : Frag) (fd : FuncData) : List Value := match fd.defaults with
  | .ref t => (progTupV K t).getD []
  | _ => []
theorem dflt_ok (p : Mp) (fd : FuncData) : L2 (VRel p) (dfltOf K fd) (dfltVs K fd) := by
  have main : ∀ l : List Value, l.all avOk = true → L2 (VRel p) (l.map avOf) l := by
    intro l
    induction l with
    | nil => intro _; exact .nil
    | cons v r ih => intro h; rw [List.all_cons, Bool.and_eq_true] at h; exact .cons (vrel_avOf p h.1) (ih h.2)
  unfold dfltOf dfltVs
  cases fd.defaults with
  | ref t =>
    dsimp only
    have := progTupV_eq (K := K) t
    cases q : progTupV K t with
    | none => rw [q] at this; rw [this]; exact .nil
    | some l => rw [q] at this; rw [this.1]; exact main l this.2
  | _ => exact .nil

noncomputable def bindsV (K : Frag) (fd : FuncData) (vs : List Value) : List (Str × Value) := (parsOf fd).zip (vs ++ (dfltVs K fd).drop ((dfltVs K fd).length - ((parsOf fd).length - vs.length)))
/-- how the defs take what they are handed -/
noncomputable def BindOK (K : Frag) (fns : List Nat) : Prop := ∀ f fd, f ∈ fns → fnAt K f = some fd → ∀ (s : Shared) (vs : List Value), K.In s.heap → vs.length ≤ (parsOf fd).length → (parsOf fd).length - vs.length ≤ (dfltVs K fd).length → BindsTo s fd ⟨vs, []⟩ (bindsV K fd vs)

theorem zip_fst {α β : Type} : ∀ {l : List α} {m : List β}, ∃ t, l = (l.zip m).map (·.1) ++ t
  | [], _ => ⟨[], rfl⟩
  | a :: l, [] => ⟨a :: l, rfl⟩
  | a :: l, b :: m => by
    obtain ⟨t, h⟩ := @zip_fst α β l m
    exact ⟨t, by rw [List.zip_cons_cons, List.map_cons, List.cons_append, ← h]⟩
theorem zip_rel {l : List Str} {as : List AV} {vs : List Value} (h : L2 (VRel p) as vs) : L2 (SKRel p) (l.zip as) (l.zip vs) := by
  induction h generalizing l with
  | nil => rw [List.zip_nil_right, List.zip_nil_right]; exact .nil
  | cons h _ ih =>
    cases l with
    | nil => exact .nil
    | cons x l => exact .cons ⟨rfl, h⟩ ih

theorem enter_ex {AA : Around} {f : Addr} {fd : FuncData} {R : Result → Shared → Prop} {args : List AV} {vs : List Value} {binds : Vars} {kn : KS} {kr : KB} {kx : KX} {fns : List Nat}
    {fx : Vars → St → KS → KB → KX → Bool} (HE : ExOK prog w PF K pr lo mean mg mb false n fx (bodyOf fd) fd.scope) (HB : BindOK K fns) (hfn : f ∈ fns) (hfd : fnAt K f = some fd) (hok : fdOk K fd = true) (hb : bindsOf K fd args = some binds)
    (hr : fx binds st kn kr kx = true) (hB : Below c.A₀ c.base c.outer c.h₀) (hX : K.In c.h₀) (hT : Top pr lo mean mg mb c.h₀) (hck : c.cs.kind = .function)
    (hfr : AA.frames = some (c.env :: c.outer)) (hh : AA.handled = none) (hd : AA.depth + 1 + 2 * n + 10 < recursionLimit) (hu : AA.units + 3 + 10 * n + 200 < cLine)
    (hv : L2 (VRel p) args vs) (hf : Fm prog w c m s.heap st p led)
    (hR : ∀ (a : AV) st' v s' p' led', (kn = kn → (∃ vars, kn vars st' = true ∧ a = .none) ∨ kr a st' = true) → Sm s s' → p.le p' → VRel p' a v → Fm prog w c m s'.heap st' p' led' → R (.ok (.ret v)) s')
    (hRX : ∀ st' s' e, kx st' = true → Sm s s' → Exc prog w PF c p st' s'.heap e → R (.error (.ref e)) s') :
    codeAny (model prog w) AA (.call (.ref f) ⟨vs, []⟩) R s := by
  have hfd' := hfd
  unfold fnAt at hfd
  split at hfd
  · rename_i oc od fd' osl hl
    cases hfd
    unfold fdOk at hok
    simp only [Bool.and_eq_true, decide_eq_true_eq, List.all_eq_true, Bool.not_eq_true', List.isEmpty_iff, Nat.beq_eq] at hok
    obtain ⟨⟨⟨⟨⟨⟨⟨⟨⟨⟨h1, h2⟩, h3⟩, h4⟩, h5⟩, h6⟩, h7⟩, h8⟩, h9⟩, h10⟩, h11⟩ := hok
    unfold bindsOf at hb
    split at hb
    · rename_i hlen
      rw [Bool.and_eq_true] at hlen
      obtain ⟨l1, l2⟩ := hlen
      have l1 := Nat.le_of_ble_eq_true l1
      have l2 := Nat.le_of_ble_eq_true l2
      have hdl := (dflt_ok (K := K) p fd).len
      have hvl := hv.len
      have hbind := HB f fd hfn hfd' s vs (hX.keeps hf.F.keep) (by omega) (by omega)
      have hrel : L2 (SKRel p) binds (bindsV K fd vs) := by
        cases hb
        unfold bindsV
        rw [← hvl, ← hdl]
        exact zip_rel (hv.app ((dflt_ok p fd).drop _))
      have hnd : ((bindsV K fd vs).map (·.1)).Nodup := by
        obtain ⟨t, ht⟩ := @zip_fst _ _ (parsOf fd) (vs ++ (dfltVs K fd).drop ((dfltVs K fd).length - ((parsOf fd).length - vs.length)))
        rw [ht] at h11
        exact (List.nodup_append.mp h11).1
      have hpar : ∀ y ∈ bindsV K fd vs, y.1 ∈ parsOf fd := fun y hy => (List.of_mem_zip (a := y.1) (b := y.2) hy).1
      obtain ⟨nm, q, ps, bd, scp, gl, cl, df, kd, dc, pm, an, cd, ct, bu⟩ := fd
      dsimp only at h1 h2 h3 h4 h5 h6 h7 h8 h9 h10
      cases bd with
      | expr _ => cases h1
      | stmts body =>
      subst h2 h3 h4
      refine code_def (binds := bindsV K _ vs) hB hf.F hX hf.N hT hfr rfl hck hl h5 (by omega) hbind (fun y hy => h10 _ (hpar y hy)) (fun g L' h₁ Fg F1 N1 Bg Xg Tg => ?_) h6 h7 h8 (fun x hx => h9 x hx)
      have hC' : CxOK K pr lo mean mg mb false n (c.within AA g L' q scp f cd) := ⟨Bg, Xg, Tg, Around.frames_deeper hfr, hh, hd, hu, h8, fun z => by cases z⟩
      have hf' : Fm prog w (c.within AA g L' q scp f cd) (fun y => List.lookup y (bindsV K _ vs).reverse) h₁ st p led := ⟨F1, N1, hf.nd, hf.H, hf.na, hf.nn⟩
      refine HE binds st kn kr kx hr (c.within AA g L' q scp f cd) _ _ p led _ _ hC' rfl (varsRel_binds hrel hnd) hf' (fun vars st' m' s' p' led' hk hsm hle hV hf2 => ?_) (fun a st' v m' s' p' led' hk hsm hle hv2 hf2 => ?_) (fun st' s' e hk hsm hx => ?_)
      · exact leaveK_ hf2.F hf2.N fun F2 N2 => hR .none st' .none s' p' led' (fun _ => .inl ⟨vars, hk, rfl⟩) ((Sm.mk s h₁ _).trans hsm) hle rfl ⟨F2, N2, hf2.nd, hf2.H, hf2.na, hf2.nn⟩
      · exact leaveK_ hf2.F hf2.N fun F2 N2 => hR a st' v s' p' led' (fun _ => .inr hk) ((Sm.mk s h₁ _).trans hsm) hle hv2 ⟨F2, N2, hf2.nd, hf2.H, hf2.na, hf2.nn⟩
      · exact hx.leave Bg Fg h8 fun h' hx' => hRX st' _ e hk (((Sm.mk s h₁ _).trans hsm).trans (Sm.mk s' h' s'.toks)) hx'
    · cases hb
  · cases hfd


theorem defC_ok {f : Addr} {fd : FuncData} {fns : List Nat} (RO : RecOK prog w PF K pr lo mean mg mb false n r) (HB : BindOK K fns) (hfn : f ∈ fns) (hfd : fnAt K f = some fd) (hok : fdOk K fd = true) :
    CaOK prog w PF K pr lo mean mg mb lv (n + 1) ((defC K fd).run r) (.ref f) := by
  intro as st k kx hr c m s p led vs Q E hC hvs hf hQ hX
  unfold defC at hr
  dsimp only at hr
  split at hr
  · rename_i binds hb
    have hd := hC.hd
    have hu := hC.hu
    refine wpAny_call (enter_ex (RO.ex fd.scope (bodyOf fd)) HB hfn hfd hok hb hr hC.B hC.X hC.T hC.ck hC.fr hC.hh (by omega) (by omega) hvs hf (fun a st' v s' p' led' hk hsm hle hv hf' => ?_) (fun st' s' e hk hsm hx => hX st' s' e hk hsm hx))
    rcases hk rfl with ⟨vars, h1, rfl⟩ | h1
    · exact hQ .none st' v s' p' led' h1 hsm hle hv hf'
    · exact hQ a st' v s' p' led' h1 hsm hle hv hf'
  · cases hr
end
end PH
end
section
open PySem PySem.W PySem.Calls PyProof.Rows
set_option Elab.async false
set_option maxRecDepth 100000
set_option linter.unusedVariables false
namespace PH
section
variable {prog : Program} {w : World} {PF : Addr} {K : Frag} {pr : Program} {lo : List Str} {mean : ExcName → Option Value} {mg mb : Str → Option Value} {lv : Bool}
variable {c : Cx} {p : Mp} {s : Shared} {m mv : Str → Option Value} {E : Value → Shared → Prop} {led : List (Addr × Obj)} {st : St} {env : Env} {sc : Scope} {n : Nat} {h : Heap} {r : Rec}

theorem Fm.allocB (f : Fm prog w c m h st p led) {h' : Heap} {D : Addr} {b : List (Addr × Obj)} {o : AO} (F' : Fr c.h₀ c.L h' m) (N' : News c.h₀ c.L h' (b ++ (c.X ++ led))) (hb : (b.map (·.1)).Nodup) (hlt : ∀ q ∈ c.X ++ led, ∀ z ∈ b, z.1 ≠ q.1)
    (ho : ORel prog w (p.addA D) st.nxt o b) : Fm prog w c m h' { objs := (st.nxt, o) :: st.objs, nxt := st.nxt + 1, nn := st.nn } (p.addA D) (b ++ led) := by
  refine ⟨F', fun q hq => N' q ?_, ?_, .cons ho (f.H.le (p.le_addA D)), by simp [Mp.addA, f.na], f.nn⟩
  · simp only [List.mem_append] at hq ⊢
    rcases hq with z | z | z
    · exact .inr (.inl z)
    · exact .inl z
    · exact .inr (.inr z)
  · have hn := f.nd
    have hp : (c.X ++ (b ++ led)).Perm (b ++ (c.X ++ led)) := by
      rw [← List.append_assoc, ← List.append_assoc]
      exact List.Perm.append_right led List.perm_append_comm
    refine ((hp.map _).nodup_iff).mpr ?_
    rw [List.map_append]
    refine List.nodup_append.mpr ⟨hb, hn, ?_⟩
    intro x hx y hy e
    obtain ⟨z, hz, rfl⟩ := List.mem_map.mp hx
    obtain ⟨q, hq, rfl⟩ := List.mem_map.mp hy
    exact hlt q hq z hz e

theorem newC_ok {C f : Addr} {fd : FuncData} {fns : List Nat} (RO : RecOK prog w PF K pr lo mean mg mb false n r) (HB : BindOK K fns) (hfn : f ∈ fns) (hi : initAt K C = some f) (hfd : fnAt K f = some fd) (hok : fdOk K fd = true) :
    CaOK prog w PF K pr lo mean mg mb lv (n + 1) ((newC K C fd).run r) (.ref C) := by
  intro as st k kx hr c m s p led vs Q E hC hvs hf hQ hX
  unfold initAt at hi
  split at hi
  · rename_i hmk
    split at hi
    · rename_i f' hfi
      split at hi
      · rename_i hfn'
        cases hi
        unfold newC at hr
        dsimp only at hr
        rw [al_eq] at hr
        split at hr
        · rename_i binds hb
          have hd := hC.hd
          have hu := hC.hu
          refine call_cls hf.F hC.X hf.N hmk hfi hfn' (fun x dx h' F' N' hlt hx => ?_)
          have ho : ORel prog w (p.addA x) st.nxt (.inst C []) [(x, instObj C dx), (dx, dictOf [] 0)] := ⟨x, dx, [], 0, Mp.addA_at hf.na, rfl, .nil⟩
          have hf' := hf.allocB (D := x) (b := [(x, instObj C dx), (dx, dictOf [] 0)]) F' N' (by
            rw [List.map_cons, List.nodup_cons]
            refine ⟨?_, by simp⟩
            intro z
            rw [List.map_cons, List.map_nil, List.mem_singleton] at z
            have z : x = dx := z
            exact absurd hx (by rw [z]; exact Nat.lt_irrefl _)) (by
            intro q hq z hz e
            have h1 := hlt q hq
            rcases List.mem_cons.mp hz with rfl | hz
            · have e : x = q.1 := e
              exact absurd hx (by rw [e]; exact Nat.lt_asymm h1)
            · rw [List.mem_singleton.mp hz] at e
              have e : dx = q.1 := e
              exact absurd h1 (by rw [← e]; exact Nat.lt_irrefl _)) ho
          refine enter_ex (c := c) (RO.ex fd.scope (bodyOf fd)) HB hfn hfd hok hb hr hC.B hC.X hC.T hC.ck (show c.A.frames = _ from hC.fr) hC.hh (by rw [depth_under_make]; omega) (by rw [units_under_make]; omega) (.cons ⟨x, Mp.addA_at hf.na, rfl⟩ (hvs.mono fun _ _ z => z.le (p.le_addA x))) hf' (fun a st' v s' p' led' hk hsm hle hv hf2 => ?_) (fun st' s' e hk hsm hx => ?_)
          · rcases hk rfl with ⟨vars, h1, rfl⟩ | h1
            · have hv : v = .none := hv
              subst hv
              exact ⟨rfl, hQ (.obj st.nxt) st' (.ref x) s' p' led' h1 ((Sm.mk s h' s.toks).trans hsm) ((p.le_addA x).trans hle) ⟨x, app_get hle.as (Mp.addA_at hf.na), rfl⟩ hf2⟩
            · cases h1
          · exact hX st' s' e hk ((Sm.mk s h' s.toks).trans hsm) (hx.le (p.le_addA x))
        · cases hr
      · cases hi
    · cases hi
  · cases hi
end
end PH
end
section
open PySem PySem.W PySem.Calls PyProof.Rows
set_option Elab.async false
set_option maxRecDepth 100000
set_option linter.unusedVariables false
namespace PH
/-- the loop of the defaults -/
noncomputable def bstep (S : List (Str × Value)) (x : Str × Value) : List (Str × Value) := if (S.lookup x.1).isNone = true then S ++ [(x.1, x.2)] else S
theorem forIn_fold {f : Str × Value → List (Str × Value) → Sem (ForInStep (List (Str × Value)))} (hf : ∀ x S, f x S = pure (.yield (bstep S x))) : ∀ (l : List (Str × Value)) (S : List (Str × Value)), forIn l S f = pure (l.foldl bstep S)
  | [], S => rfl
  | x :: l, S => by
    rw [List.forIn_cons, hf]
    exact forIn_fold hf l _
theorem lookup_none {α : Type} {x : Str} : ∀ {l : List (Str × α)}, x ∉ l.map (·.1) → l.lookup x = none
  | [], _ => rfl
  | (y, u) :: r, h => by
    rw [List.map_cons, List.mem_cons, not_or] at h
    rw [List.lookup_cons, beq_eq_false_iff_ne.mpr h.1]
    exact lookup_none h.2
theorem fold_id : ∀ {l S : List (Str × Value)}, (∀ x ∈ l, x.1 ∈ S.map (·.1)) → (S.map (·.1)).Nodup → l.foldl bstep S = S
  | [], S, _, _ => rfl
  | x :: l, S, h, hn => by
    rw [List.foldl_cons]
    have : bstep S x = S := by
      unfold bstep
      obtain ⟨q, hq, e⟩ := List.mem_map.mp (h x (.head _))
      rw [← e, lookup_mem hn hq]
      rfl
    rw [this]
    exact fold_id (fun y hy => h y (.tail _ hy)) hn
theorem fold_app : ∀ {l S : List (Str × Value)}, ((S ++ l).map (·.1)).Nodup → l.foldl bstep S = S ++ l
  | [], S, _ => by simp
  | x :: l, S, h => by
    rw [List.foldl_cons]
    have : bstep S x = S ++ [x] := by
      unfold bstep
      rw [lookup_none]
      · rfl
      intro hx
      rw [List.map_append, List.nodup_append] at h
      exact h.2.2 _ hx x.1 (by simp) rfl
    rw [this, fold_app (by rw [List.append_assoc]; exact h), List.append_assoc]
    rfl
theorem filterMap_lookup {S T : List (Str × Value)} (hn : (S.map (·.1)).Nodup) (hs : ∀ x ∈ T, x ∈ S) : (T.map (·.1)).filterMap (fun n => (S.lookup n).map fun x => (n, x)) = T := by
  induction T with
  | nil => rfl
  | cons x T ih =>
    rw [List.map_cons, List.filterMap_cons, lookup_mem hn (hs x (.head _))]
    show (x.1, x.2) :: _ = _
    rw [ih fun y hy => hs y (.tail _ hy)]
theorem map_fst_zip' {α β : Type} : ∀ {l : List α} {m : List β}, l.length ≤ m.length → (l.zip m).map (·.1) = l
  | [], _, _ => rfl
  | _ :: _, [], h => by cases h
  | a :: l, b :: m, h => by
    rw [List.zip_cons_cons, List.map_cons, map_fst_zip' (Nat.le_of_succ_le_succ h)]
theorem map_fst_zip_take {α β : Type} : ∀ {l : List α} {m : List β}, (l.zip m).map (·.1) = l.take m.length
  | [], _ => by simp
  | _ :: _, [] => by simp
  | a :: l, b :: m => by
    rw [List.zip_cons_cons, List.map_cons, map_fst_zip_take]
    rfl
theorem zip_split {α β : Type} (l : List α) (m m' : List β) (h : m.length ≤ l.length) : l.zip (m ++ m') = l.zip m ++ (l.drop m.length).zip m' := by
  conv => lhs; rw [← List.take_append_drop m.length l]
  rw [List.zip_append (by rw [List.length_take]; omega)]
  congr 1
  conv => rhs; rw [← List.take_append_drop m.length l]
  rw [show m = m ++ [] by simp, List.zip_append (by simp; omega)]
  simp

noncomputable def sigOk (K : Frag) (fd : FuncData) : Bool := fd.params.posonlyargs.isEmpty && fd.params.kwonlyargs.isEmpty && fd.params.vararg.isNone && fd.params.kwarg.isNone && decide (parsOf fd).Nodup && Nat.ble (dfltVs K fd).length (parsOf fd).length &&
  (match fd.defaults with | .ref t => (progTupV K t).isSome | .none => true | _ => false)
theorem progTupV_at {K : Frag} {a : Nat} {l : List Value} (h : progTupV K a = some l) : ∃ d xs e sl, K.lookup a = some ⟨.type "tuple", d, .seq xs e, sl⟩ ∧ xs.toList = l := by
  unfold progTupV at h
  split at h
  · rename_i hk
    split at h
    · cases h
      exact ⟨_, _, _, _, hk, rfl⟩
    · cases h
  · cases h

theorem binds_gen {K : Frag} {fd : FuncData} {s : Shared} {vs : List Value} (hX : K.In s.heap) (hs : sigOk K fd = true) (hl : vs.length ≤ (parsOf fd).length) (hdl : (parsOf fd).length - vs.length ≤ (dfltVs K fd).length) : BindsTo s fd ⟨vs, []⟩ (bindsV K fd vs) := by
  unfold sigOk at hs
  simp only [Bool.and_eq_true, List.isEmpty_iff, Option.isNone_iff_eq_none, decide_eq_true_eq] at hs
  obtain ⟨⟨⟨⟨⟨⟨h1, h2⟩, h3⟩, h4⟩, hn⟩, hD⟩, h5⟩ := hs
  have hD := Nat.le_of_ble_eq_true hD
  intro M A E Q hq
  unfold bindArgs
  refine wpAny_bind (wpAny_pure ?_)
  refine wpAny_bind ?_
  have hd : ∀ {Q' : Option (Array Value) → Shared → Prop}, (∀ o, (o.getD #[]).toList = dfltVs K fd → Q' o s) → wpAny M A (seqItems? fd.defaults) Q' E s := by
    intro Q' hQ'
    unfold dfltVs at hQ'
    split at h5
    · rename_i t ht
      rw [ht] at hQ' ⊢
      obtain ⟨l, hl⟩ := Option.isSome_iff_exists.mp h5
      obtain ⟨d, xs, e, sl, hk, rfl⟩ := progTupV_at hl
      unfold seqItems?
      refine wpAny_bind (wpAny_load (hX _ _ hk) ?_)
      exact wpAny_pure (hQ' _ (by dsimp only; rw [hl]; rfl))
    · rename_i ht
      rw [ht] at hQ' ⊢
      exact wpAny_of_eq (a := none) rfl (hQ' _ rfl)
    · cases h5
  refine hd fun o ho => ?_
  dsimp only
  rw [ho, h1, h2, h3, h4]
  simp only [List.map_nil, List.nil_append, List.append_nil]
  have hp : fd.params.args.map (·.arg) = parsOf fd := rfl
  unfold bindsV at hq
  generalize dfltVs K fd = D at *
  rw [hp]
  clear hp
  generalize parsOf fd = P at *
  have e0 : D.length - P.length = 0 := by omega
  rw [e0, List.drop_zero]
  have hz : (P.zip vs).map (·.1) = P.take vs.length := map_fst_zip_take
  have hzn : ((P.zip vs).map (·.1)).Nodup := by
    rw [hz]
    exact hn.sublist (List.take_sublist _ _)
  refine bm_if_false ?_ ?_
  · simp only [Option.isNone_none, Bool.and_true, decide_eq_false_iff_not]
    omega
  have hmiss : (P.take (P.length - D.length)).filter (fun n => (List.lookup n (P.zip vs)).isNone) = [] := by
    rw [List.filter_eq_nil_iff]
    intro x hx hno
    have : x ∈ (P.zip vs).map (·.1) := by
      rw [hz]
      have : P.length - D.length ≤ vs.length := by omega
      exact (List.take_sublist_take_left this).subset hx
    obtain ⟨q, hq', e⟩ := List.mem_map.mp this
    rw [← e, lookup_mem hzn hq'] at hno
    cases hno
  rw [hmiss]
  refine bm_if_false rfl ?_
  refine wpAny_bind (wpAny_of_eq (forIn_fold (fun x S => ?_) _ _) ?_)
  · unfold bstep
    split <;> rfl
  have hS : ((P.drop (P.length - D.length)).zip D).foldl bstep (P.zip vs) = P.zip (vs ++ D.drop (D.length - (P.length - vs.length))) := by
    have hk : D.length - (P.length - vs.length) ≤ D.length := by omega
    have hsp : (P.drop (P.length - D.length)).zip D = (P.drop (P.length - D.length)).zip (D.take (D.length - (P.length - vs.length))) ++ (P.drop vs.length).zip (D.drop (D.length - (P.length - vs.length))) := by
      have hj : (D.take (D.length - (P.length - vs.length))).length = D.length - (P.length - vs.length) := by rw [List.length_take]; omega
      have := zip_split (P.drop (P.length - D.length)) (D.take (D.length - (P.length - vs.length))) (D.drop (D.length - (P.length - vs.length))) (by rw [hj, List.length_drop]; omega)
      rw [List.take_append_drop, hj, List.drop_drop, show P.length - D.length + (D.length - (P.length - vs.length)) = vs.length by omega] at this
      exact this
    rw [hsp, List.foldl_append, fold_id _ hzn, fold_app, zip_split _ _ _ hl]
    · rw [← zip_split _ _ _ hl, map_fst_zip' (by rw [List.length_append, List.length_drop]; omega)]
      exact hn
    · intro x hx
      rw [hz]
      have h1 : x.1 ∈ ((P.drop (P.length - D.length)).zip (D.take (D.length - (P.length - vs.length)))).map (·.1) := List.mem_map.mpr ⟨x, hx, rfl⟩
      rw [map_fst_zip_take] at h1
      have e1 : (P.drop (P.length - D.length)).take (D.take (D.length - (P.length - vs.length))).length = (P.take vs.length).drop (P.length - D.length) := by
        rw [List.drop_take, List.length_take]
        congr 1
        omega
      rw [e1] at h1
      exact List.mem_of_mem_drop h1
  rw [hS]
  refine wpAny_bind (wpAny_pure ?_)
  refine bm_if_false rfl ?_
  refine wpAny_pure ?_
  have e2 : (P.zip (vs ++ D.drop (D.length - (P.length - vs.length)))).map (·.1) = P := map_fst_zip' (by rw [List.length_append, List.length_drop]; omega)
  have := filterMap_lookup (S := P.zip (vs ++ D.drop (D.length - (P.length - vs.length)))) (T := P.zip (vs ++ D.drop (D.length - (P.length - vs.length)))) (by rw [e2]; exact hn) fun x hx => hx
  rw [e2] at this
  rw [this]
  exact hq

noncomputable def sigsOk (K : Frag) (fns : List Nat) : Bool := fns.all fun f => match fnAt K f with | some fd => sigOk K fd | none => false
theorem bind_ok {K : Frag} {fns : List Nat} (h : sigsOk K fns = true) : BindOK K fns := by
  intro f fd hf hfd s vs hX hl hd
  refine binds_gen hX ?_ hl hd
  have := List.all_eq_true.mp h f hf
  rw [hfd] at this
  exact this
end PH
end
section
open PySem PySem.W PySem.Calls PyProof.Rows
set_option Elab.async false
set_option maxRecDepth 100000
set_option linter.unusedVariables false
namespace PH
section
variable {prog : Program} {w : World} {PF : Addr} {K : Frag} {pr : Program} {lo : List Str} {mean : ExcName → Option Value} {mg mb : Str → Option Value} {lv : Bool}
variable {c : Cx} {m : Str → Option Value} {h : Heap} {n : Nat} {gn : Array GenState} {dr : Drawn} {os : OsState}

/-- an expression that reads: whatever the tokens -/
noncomputable def EvV (prog : Program) (w : World) (c : Cx) (gn : Array GenState) (dr : Drawn) (os : OsState) (h : Heap) (e : Expr) (P : Value → Prop) : Prop :=
  ∀ (tk : Nat) (Q : Value → Shared → Prop) (E : Value → Shared → Prop), (∀ v tk', P v → Q v ⟨h, gn, dr, tk', os⟩) → wpAny (model prog w) c.A (eval e c.env) Q E ⟨h, gn, dr, tk, os⟩
noncomputable abbrev IsI (i : Int) (v : Value) : Prop := ∃ t, v = .int i t
theorem ev_name {x : Str} {v : Value} {pos : Pos} (F : Fr c.h₀ c.L h m) (hC : CxOK K pr lo mean mg mb lv n c) (hm : m x = some v) (hk : kindA c.cs x = some .local) (hd : (x == ("__debug__" : Str)) = false) : EvV prog w c gn dr os h (.Name x pos) (fun u => u = v) :=
  fun tk Q E hQ => nameX_L (cl := []) (s := ⟨h, gn, dr, tk, os⟩) F hm (hQ v tk rfl) hC.ck hk hd
theorem ev_boot {x : Str} {v : Value} {pos : Pos} (F : Fr c.h₀ c.L h m) (hC : CxOK K pr lo mean mg mb lv n c) (hn : nsIn K mainGlobals x = some none) (hb : bootBuiltins x = some v) (hx : x ≠ "__name__") (hk : kindA c.cs x = some .globalImplicit) (hd : (x == ("__debug__" : Str)) = false) :
    EvV prog w c gn dr os h (.Name x pos) (fun u => u = v) :=
  fun tk Q E hQ => nameX_B (cl := []) (s := ⟨h, gn, dr, tk, os⟩) F hC.X hC.top hn hb hx (hQ v tk rfl) hC.ck hk hd
theorem ev_int {i : Int} {k : Nat} {pos : Pos} : EvV prog w c gn dr os h (.Constant (.int i) k pos) (IsI i) :=
  fun tk Q E hQ => wpAny_Constant_int (hQ _ _ ⟨_, rfl⟩)
theorem ev_bin {a b : Expr} {op : Operator} {pos : Pos} {x y : Int} {P : Value → Prop} (ha : EvV prog w c gn dr os h a (IsI x)) (hb : EvV prog w c gn dr os h b (IsI y))
    (hop : ∀ t u tk (Q : Value → Shared → Prop) (E : Value → Shared → Prop), (∀ v tk', P v → Q v ⟨h, gn, dr, tk', os⟩) → wpAny (model prog w) c.A (binaryOp op (.int x t) (.int y u)) Q E ⟨h, gn, dr, tk, os⟩) : EvV prog w c gn dr os h (.BinOp a op b pos) P := by
  intro tk Q E hQ
  refine wpAny_BinOp (ha _ _ _ fun v tk1 hv => ?_)
  obtain ⟨t, rfl⟩ := hv
  refine hb _ _ _ fun v tk2 hv => ?_
  obtain ⟨u, rfl⟩ := hv
  exact hop t u _ _ _ hQ
theorem ev_add {a b : Expr} {pos : Pos} {x y : Int} (ha : EvV prog w c gn dr os h a (IsI x)) (hb : EvV prog w c gn dr os h b (IsI y)) : EvV prog w c gn dr os h (.BinOp a .Add b pos) (IsI (x + y)) :=
  ev_bin ha hb fun t u tk Q E hQ => add_int (hQ _ _ ⟨_, rfl⟩)
theorem ev_sub {a b : Expr} {pos : Pos} {x y : Int} (ha : EvV prog w c gn dr os h a (IsI x)) (hb : EvV prog w c gn dr os h b (IsI y)) : EvV prog w c gn dr os h (.BinOp a .Sub b pos) (IsI (x - y)) :=
  ev_bin ha hb fun t u tk Q E hQ => sub_int (hQ _ _ ⟨_, rfl⟩)
theorem ev_mul {a b : Expr} {pos : Pos} {x y : Int} (ha : EvV prog w c gn dr os h a (IsI x)) (hb : EvV prog w c gn dr os h b (IsI y)) (hx : -(2 ^ 64) < x ∧ x < 2 ^ 64) : EvV prog w c gn dr os h (.BinOp a .Mult b pos) (IsI (x * y)) :=
  ev_bin ha hb fun t u tk Q E hQ => mul_int (hQ _ _ ⟨_, rfl⟩) (IntMulOk.of_left (intBits_le_64 hx.1 hx.2))
theorem ev_mod {a b : Expr} {pos : Pos} {x y : Int} (ha : EvV prog w c gn dr os h a (IsI x)) (hb : EvV prog w c gn dr os h b (IsI y)) (hy : y ≠ 0) : EvV prog w c gn dr os h (.BinOp a .Mod b pos) (IsI (x.fmod y)) :=
  ev_bin ha hb fun t u tk Q E hQ => mod_int' hy (hQ _ _ ⟨_, rfl⟩)
theorem ev_div {a b : Expr} {pos : Pos} {x y : Int} (ha : EvV prog w c gn dr os h a (IsI x)) (hb : EvV prog w c gn dr os h b (IsI y)) (hy : y ≠ 0) (hs : y.natAbs < 2 ^ 64) : EvV prog w c gn dr os h (.BinOp a .FloorDiv b pos) (IsI (x.fdiv y)) :=
  ev_bin ha hb fun t u tk Q E hQ => floordiv_int hy (hQ _ _ ⟨_, rfl⟩) (.inl (PyProof.noPylong_of_log2 (by
    have h1 : y.natAbs ≠ 0 := by omega
    exact Nat.lt_trans ((Nat.log2_lt h1).mpr hs) (by decide))))
theorem ev_pow {a b : Expr} {pos : Pos} {x y : Int} (ha : EvV prog w c gn dr os h a (IsI x)) (hb : EvV prog w c gn dr os h b (IsI y)) (hy : 0 ≤ y) (hy2 : y ≤ 1000000) (hs : x.natAbs < 2 ^ 64) : EvV prog w c gn dr os h (.BinOp a .Pow b pos) (IsI (x ^ y.toNat)) :=
  ev_bin ha hb fun t u tk Q E hQ => pow_int_small hy hy2 hs (hQ _ _ ⟨_, rfl⟩)
theorem ev_args1 {e : Expr} {pos : Pos} {P : Value → Prop} {tk : Nat} {Q : List Value → Shared → Prop} {E : Value → Shared → Prop} (hs : noStars [e] = true) (he : EvV prog w c gn dr os h e P) (hQ : ∀ v tk', P v → Q [v] ⟨h, gn, dr, tk', os⟩) :
    wpAny (model prog w) c.A (spliced (backTo pos (starEach [e] c.env))) Q E ⟨h, gn, dr, tk, os⟩ := by
  obtain ⟨e1, e2⟩ := star_cons hs c.env
  refine args_cons (he _ _ _ fun v tk1 hv => ?_) e1
  exact args_nil (hQ v tk1 hv)
theorem ev_typ {f : Str} {T : String} {fp pos : Pos} {e : Expr} {P P' : Value → Prop} (hf : EvV prog w c gn dr os h (.Name f fp) (fun u => u = .type T)) (hs : noStars [e] = true) (he : EvV prog w c gn dr os h e P)
    (hc : ∀ v tk (Q : Value → Shared → Prop) (E : Value → Shared → Prop), P v → (∀ v tk', P' v → Q v ⟨h, gn, dr, tk', os⟩) → wpAny (model prog w) c.A (call (.type T) [v]) Q E ⟨h, gn, dr, tk, os⟩) : EvV prog w c gn dr os h (.Call (.Name f fp) [e] [] pos) P' := by
  intro tk Q E hQ
  refine Call_ (hf _ _ _ fun v tk1 hv => ?_)
  subst hv
  obtain ⟨e1, e2⟩ := star_cons hs c.env
  exact PyProof.Rows.callWith_type1 (ev_args1 hs he fun v tk2 hv => hc v tk2 _ _ hv hQ) e1 (star_any e2)
theorem ev_bi {f : Str} {T : String} {fp pos : Pos} {e : Expr} {P P' : Value → Prop} (hf : EvV prog w c gn dr os h (.Name f fp) (fun u => u = .builtin T)) (hs : noStars [e] = true) (he : EvV prog w c gn dr os h e P)
    (hc : ∀ v tk (Q : Value → Shared → Prop) (E : Value → Shared → Prop), P v → (∀ v tk', P' v → Q v ⟨h, gn, dr, tk', os⟩) → wpAny (model prog w) c.A (call (.builtin T) [v]) Q E ⟨h, gn, dr, tk, os⟩) : EvV prog w c gn dr os h (.Call (.Name f fp) [e] [] pos) P' := by
  intro tk Q E hQ
  refine Call_ (hf _ _ _ fun v tk1 hv => ?_)
  subst hv
  obtain ⟨e1, e2⟩ := star_cons hs c.env
  exact callWith_method1 (first := []) (ev_args1 hs he fun v tk2 hv => hc v tk2 _ _ hv hQ) e1 (star_any e2)
theorem ev_toint {f : Str} {fp pos : Pos} {e : Expr} {i : Int} (hf : EvV prog w c gn dr os h (.Name f fp) (fun u => u = .type "int")) (hs : noStars [e] = true) (he : EvV prog w c gn dr os h e (IsI i)) : EvV prog w c gn dr os h (.Call (.Name f fp) [e] [] pos) (IsI i) :=
  ev_typ hf hs he fun v tk Q E hv hQ => by
    obtain ⟨t, rfl⟩ := hv
    exact call_int_int (hQ _ _ ⟨_, rfl⟩)
theorem ev_abs {f : Str} {fp pos : Pos} {e : Expr} {i : Int} (hf : EvV prog w c gn dr os h (.Name f fp) (fun u => u = .builtin "abs")) (hs : noStars [e] = true) (he : EvV prog w c gn dr os h e (IsI i)) : EvV prog w c gn dr os h (.Call (.Name f fp) [e] [] pos) (IsI (if i < 0 then -i else i)) :=
  ev_bi hf hs he fun v tk Q E hv hQ => by
    obtain ⟨t, rfl⟩ := hv
    exact call_abs_int fun u tk => hQ _ _ ⟨_, rfl⟩
theorem ev_len {f : Str} {fp pos : Pos} {e : Expr} {l : Addr} {its : Array Value} (hf : EvV prog w c gn dr os h (.Name f fp) (fun u => u = .builtin "len")) (hs : noStars [e] = true) (he : EvV prog w c gn dr os h e (fun v => v = .ref l)) (hl : h.IsList l its) (hz : its.size ≤ 1000) :
    EvV prog w c gn dr os h (.Call (.Name f fp) [e] [] pos) (IsI its.size) :=
  ev_bi hf hs he fun v tk Q E hv hQ => by
    subst hv
    exact kun_lenL hl rfl (by omega) (hQ _ _ ⟨_, rfl⟩)
theorem ev_item {o i : Expr} {pos : Pos} {l : Addr} {its : List Value} {k : Int} {v : Value} (ho : EvV prog w c gn dr os h o (fun v => v = .ref l)) (hi : EvV prog w c gn dr os h i (IsI k)) (hl : h.IsList l its.toArray) (h0 : 0 ≤ k) (h1 : k < 2 ^ 63) (hv : its[k.toNat]? = some v)
    (hs : ∀ o' i', subscripted i false o' i' = operate [o', i'] (getItem o' i')) : EvV prog w c gn dr os h (.Subscript o i pos) (fun u => u = v) := by
  intro tk Q E hQ
  refine Subscript_ (ho _ _ _ fun v' tk1 hv' => ?_)
  subst hv'
  refine hi _ _ _ fun v' tk2 hv' => ?_
  obtain ⟨t, rfl⟩ := hv'
  exact item_litK hl h0 h1 hv (hQ _ _ rfl) (hs _ _)
theorem ev_to {e : Expr} {P P' : Value → Prop} (he : EvV prog w c gn dr os h e P) (hp : ∀ v, P v → P' v) : EvV prog w c gn dr os h e P' := fun tk Q E hQ => he tk Q E fun v tk' hv => hQ v tk' (hp v hv)
end
end PH
end
section
open PySem PySem.W PySem.Calls PyProof.Rows
set_option Elab.async false
set_option maxRecDepth 100000
set_option linter.unusedVariables false
namespace PH
noncomputable abbrev dsc : Scope := { kind := PySem.ScopeKind.function, names := [((PySem.Str.ofString "pen"), PySem.NameKind.local), ((PySem.Str.ofString "many"), PySem.NameKind.local), ((PySem.Str.ofString "digit"), PySem.NameKind.local), ((PySem.Str.ofString "spot"), PySem.NameKind.local), ((PySem.Str.ofString "cell"), PySem.NameKind.local), ((PySem.Str.ofString "great"), PySem.NameKind.local), ((PySem.Str.ofString "churned"), PySem.NameKind.local), ((PySem.Str.ofString "int"), PySem.NameKind.globalImplicit), ((PySem.Str.ofString "len"), PySem.NameKind.globalImplicit), ((PySem.Str.ofString "abs"), PySem.NameKind.globalImplicit)], isGenerator := false, isCoroutine := false, more := [] }
noncomputable abbrev dbd : List Stmt := [(PySem.Stmt.If (PySem.Expr.Compare (PySem.Expr.Subscript (PySem.Expr.Name (PySem.Str.ofString "pen") ⟨320, 7, 320, 10⟩) (PySem.Expr.Constant (PySem.Const.int 2) 0 ⟨320, 11, 320, 12⟩) ⟨320, 7, 320, 13⟩) [PySem.CmpOp.Gt] [(PySem.Expr.Constant (PySem.Const.int 0) 0 ⟨320, 16, 320, 17⟩)] ⟨320, 7, 320, 17⟩) [(PySem.Stmt.Assign [(PySem.Expr.Name (PySem.Str.ofString "digit") ⟨321, 8, 321, 13⟩)] (PySem.Expr.BinOp (PySem.Expr.Call (PySem.Expr.Name (PySem.Str.ofString "int") ⟨321, 16, 321, 19⟩) [(PySem.Expr.Subscript (PySem.Expr.Name (PySem.Str.ofString "pen") ⟨321, 20, 321, 23⟩) (PySem.Expr.Constant (PySem.Const.int 2) 0 ⟨321, 24, 321, 25⟩) ⟨321, 20, 321, 26⟩)] [] ⟨321, 16, 321, 27⟩) PySem.Operator.Mod (PySem.Expr.Name (PySem.Str.ofString "many") ⟨321, 30, 321, 34⟩) ⟨321, 16, 321, 34⟩) ⟨321, 8, 321, 34⟩), (PySem.Stmt.Assign [(PySem.Expr.Subscript (PySem.Expr.Name (PySem.Str.ofString "pen") ⟨322, 8, 322, 11⟩) (PySem.Expr.Constant (PySem.Const.int 2) 0 ⟨322, 12, 322, 13⟩) ⟨322, 8, 322, 14⟩)] (PySem.Expr.BinOp (PySem.Expr.Call (PySem.Expr.Name (PySem.Str.ofString "int") ⟨322, 17, 322, 20⟩) [(PySem.Expr.Subscript (PySem.Expr.Name (PySem.Str.ofString "pen") ⟨322, 21, 322, 24⟩) (PySem.Expr.Constant (PySem.Const.int 2) 0 ⟨322, 25, 322, 26⟩) ⟨322, 21, 322, 27⟩)] [] ⟨322, 17, 322, 28⟩) PySem.Operator.FloorDiv (PySem.Expr.Name (PySem.Str.ofString "many") ⟨322, 32, 322, 36⟩) ⟨322, 17, 322, 36⟩) ⟨322, 8, 322, 36⟩), (PySem.Stmt.Return (some (PySem.Expr.Name (PySem.Str.ofString "digit") ⟨323, 15, 323, 20⟩)) ⟨323, 8, 323, 20⟩)] [] ⟨320, 4, 323, 20⟩), (PySem.Stmt.Assign [(PySem.Expr.Name (PySem.Str.ofString "spot") ⟨324, 4, 324, 8⟩)] (PySem.Expr.Subscript (PySem.Expr.Name (PySem.Str.ofString "pen") ⟨324, 11, 324, 14⟩) (PySem.Expr.Constant (PySem.Const.int 1) 0 ⟨324, 15, 324, 16⟩) ⟨324, 11, 324, 17⟩) ⟨324, 4, 324, 17⟩), (PySem.Stmt.Assign [(PySem.Expr.Subscript (PySem.Expr.Name (PySem.Str.ofString "pen") ⟨325, 4, 325, 7⟩) (PySem.Expr.Constant (PySem.Const.int 1) 0 ⟨325, 8, 325, 9⟩) ⟨325, 4, 325, 10⟩)] (PySem.Expr.BinOp (PySem.Expr.Name (PySem.Str.ofString "spot") ⟨325, 13, 325, 17⟩) PySem.Operator.Add (PySem.Expr.Constant (PySem.Const.int 1) 0 ⟨325, 20, 325, 21⟩) ⟨325, 13, 325, 21⟩) ⟨325, 4, 325, 21⟩), (PySem.Stmt.Assign [(PySem.Expr.Name (PySem.Str.ofString "cell") ⟨326, 4, 326, 8⟩)] (PySem.Expr.Constant (PySem.Const.int 0) 0 ⟨326, 11, 326, 12⟩) ⟨326, 4, 326, 12⟩), (PySem.Stmt.If (PySem.Expr.Compare (PySem.Expr.Subscript (PySem.Expr.Name (PySem.Str.ofString "pen") ⟨327, 7, 327, 10⟩) (PySem.Expr.Constant (PySem.Const.int 0) 0 ⟨327, 11, 327, 12⟩) ⟨327, 7, 327, 13⟩) [PySem.CmpOp.NotEq] [(PySem.Expr.List [] ⟨327, 17, 327, 19⟩)] ⟨327, 7, 327, 19⟩) [(PySem.Stmt.Assign [(PySem.Expr.Name (PySem.Str.ofString "cell") ⟨328, 8, 328, 12⟩)] (PySem.Expr.Subscript (PySem.Expr.Subscript (PySem.Expr.Name (PySem.Str.ofString "pen") ⟨328, 15, 328, 18⟩) (PySem.Expr.Constant (PySem.Const.int 0) 0 ⟨328, 19, 328, 20⟩) ⟨328, 15, 328, 21⟩) (PySem.Expr.BinOp (PySem.Expr.Call (PySem.Expr.Name (PySem.Str.ofString "int") ⟨328, 22, 328, 25⟩) [(PySem.Expr.Name (PySem.Str.ofString "spot") ⟨328, 26, 328, 30⟩)] [] ⟨328, 22, 328, 31⟩) PySem.Operator.Mod (PySem.Expr.Call (PySem.Expr.Name (PySem.Str.ofString "len") ⟨328, 34, 328, 37⟩) [(PySem.Expr.Subscript (PySem.Expr.Name (PySem.Str.ofString "pen") ⟨328, 38, 328, 41⟩) (PySem.Expr.Constant (PySem.Const.int 0) 0 ⟨328, 42, 328, 43⟩) ⟨328, 38, 328, 44⟩)] [] ⟨328, 34, 328, 45⟩) ⟨328, 22, 328, 45⟩) ⟨328, 15, 328, 46⟩) ⟨328, 8, 328, 46⟩)] [] ⟨327, 4, 328, 46⟩), (PySem.Stmt.If (PySem.Expr.BoolOp PySem.BoolOp.And [(PySem.Expr.Compare (PySem.Expr.Name (PySem.Str.ofString "spot") ⟨329, 7, 329, 11⟩) [PySem.CmpOp.Lt] [(PySem.Expr.Call (PySem.Expr.Name (PySem.Str.ofString "len") ⟨329, 14, 329, 17⟩) [(PySem.Expr.Subscript (PySem.Expr.Name (PySem.Str.ofString "pen") ⟨329, 18, 329, 21⟩) (PySem.Expr.Constant (PySem.Const.int 0) 0 ⟨329, 22, 329, 23⟩) ⟨329, 18, 329, 24⟩)] [] ⟨329, 14, 329, 25⟩)] ⟨329, 7, 329, 25⟩), (PySem.Expr.Compare (PySem.Expr.Call (PySem.Expr.Name (PySem.Str.ofString "abs") ⟨329, 30, 329, 33⟩) [(PySem.Expr.Name (PySem.Str.ofString "cell") ⟨329, 34, 329, 38⟩)] [] ⟨329, 30, 329, 39⟩) [PySem.CmpOp.GtE] [(PySem.Expr.BinOp (PySem.Expr.Constant (PySem.Const.int 10) 0 ⟨329, 43, 329, 45⟩) PySem.Operator.Pow (PySem.Expr.Constant (PySem.Const.int 18) 0 ⟨329, 49, 329, 51⟩) ⟨329, 43, 329, 51⟩)] ⟨329, 30, 329, 51⟩)] ⟨329, 7, 329, 51⟩) [(PySem.Stmt.Assign [(PySem.Expr.Name (PySem.Str.ofString "great") ⟨330, 8, 330, 13⟩)] (PySem.Expr.BinOp (PySem.Expr.Call (PySem.Expr.Name (PySem.Str.ofString "abs") ⟨330, 16, 330, 19⟩) [(PySem.Expr.Name (PySem.Str.ofString "cell") ⟨330, 20, 330, 24⟩)] [] ⟨330, 16, 330, 25⟩) PySem.Operator.Sub (PySem.Expr.BinOp (PySem.Expr.Constant (PySem.Const.int 10) 0 ⟨330, 28, 330, 30⟩) PySem.Operator.Pow (PySem.Expr.Constant (PySem.Const.int 18) 0 ⟨330, 34, 330, 36⟩) ⟨330, 28, 330, 36⟩) ⟨330, 16, 330, 36⟩) ⟨330, 8, 330, 36⟩), (PySem.Stmt.Assign [(PySem.Expr.Subscript (PySem.Expr.Name (PySem.Str.ofString "pen") ⟨331, 8, 331, 11⟩) (PySem.Expr.Constant (PySem.Const.int 2) 0 ⟨331, 12, 331, 13⟩) ⟨331, 8, 331, 14⟩)] (PySem.Expr.BinOp (PySem.Expr.Call (PySem.Expr.Name (PySem.Str.ofString "int") ⟨331, 17, 331, 20⟩) [(PySem.Expr.Name (PySem.Str.ofString "great") ⟨331, 21, 331, 26⟩)] [] ⟨331, 17, 331, 27⟩) PySem.Operator.FloorDiv (PySem.Expr.Name (PySem.Str.ofString "many") ⟨331, 31, 331, 35⟩) ⟨331, 17, 331, 35⟩) ⟨331, 8, 331, 35⟩), (PySem.Stmt.Return (some (PySem.Expr.BinOp (PySem.Expr.Call (PySem.Expr.Name (PySem.Str.ofString "int") ⟨332, 15, 332, 18⟩) [(PySem.Expr.Name (PySem.Str.ofString "great") ⟨332, 19, 332, 24⟩)] [] ⟨332, 15, 332, 25⟩) PySem.Operator.Mod (PySem.Expr.Name (PySem.Str.ofString "many") ⟨332, 28, 332, 32⟩) ⟨332, 15, 332, 32⟩)) ⟨332, 8, 332, 32⟩)] [] ⟨329, 4, 332, 32⟩), (PySem.Stmt.Assign [(PySem.Expr.Name (PySem.Str.ofString "churned") ⟨333, 4, 333, 11⟩)] (PySem.Expr.BinOp (PySem.Expr.Call (PySem.Expr.Name (PySem.Str.ofString "int") ⟨333, 14, 333, 17⟩) [(PySem.Expr.BinOp (PySem.Expr.BinOp (PySem.Expr.BinOp (PySem.Expr.BinOp (PySem.Expr.Call (PySem.Expr.Name (PySem.Str.ofString "int") ⟨333, 19, 333, 22⟩) [(PySem.Expr.Name (PySem.Str.ofString "cell") ⟨333, 23, 333, 27⟩)] [] ⟨333, 19, 333, 28⟩) PySem.Operator.Mod (PySem.Expr.Constant (PySem.Const.int 2147483587) 0 ⟨333, 31, 333, 41⟩) ⟨333, 19, 333, 41⟩) PySem.Operator.Add (PySem.Expr.BinOp (PySem.Expr.Constant (PySem.Const.int 70037) 0 ⟨333, 44, 333, 49⟩) PySem.Operator.Mult (PySem.Expr.Name (PySem.Str.ofString "spot") ⟨333, 52, 333, 56⟩) ⟨333, 44, 333, 56⟩) ⟨333, 19, 333, 56⟩) PySem.Operator.Add (PySem.Expr.Constant (PySem.Const.int 6007) 0 ⟨333, 59, 333, 63⟩) ⟨333, 19, 333, 63⟩) PySem.Operator.Pow (PySem.Expr.Constant (PySem.Const.int 5) 0 ⟨333, 68, 333, 69⟩) ⟨333, 18, 333, 69⟩)] [] ⟨333, 14, 333, 70⟩) PySem.Operator.Mod (PySem.Expr.Constant (PySem.Const.int 2147483629) 0 ⟨333, 73, 333, 83⟩) ⟨333, 14, 333, 83⟩) ⟨333, 4, 333, 83⟩), (PySem.Stmt.Assign [(PySem.Expr.Name (PySem.Str.ofString "churned") ⟨334, 4, 334, 11⟩)] (PySem.Expr.BinOp (PySem.Expr.Call (PySem.Expr.Name (PySem.Str.ofString "int") ⟨334, 14, 334, 17⟩) [(PySem.Expr.BinOp (PySem.Expr.BinOp (PySem.Expr.BinOp (PySem.Expr.BinOp (PySem.Expr.Name (PySem.Str.ofString "churned") ⟨334, 19, 334, 26⟩) PySem.Operator.Mult (PySem.Expr.BinOp (PySem.Expr.BinOp (PySem.Expr.Constant (PySem.Const.int 2) 0 ⟨334, 30, 334, 31⟩) PySem.Operator.Mult (PySem.Expr.Name (PySem.Str.ofString "spot") ⟨334, 34, 334, 38⟩) ⟨334, 30, 334, 38⟩) PySem.Operator.Add (PySem.Expr.Constant (PySem.Const.int 3011) 0 ⟨334, 41, 334, 45⟩) ⟨334, 30, 334, 45⟩) ⟨334, 19, 334, 46⟩) PySem.Operator.Add (PySem.Expr.BinOp (PySem.Expr.BinOp (PySem.Expr.Constant (PySem.Const.int 701) 0 ⟨334, 49, 334, 52⟩) PySem.Operator.Mult (PySem.Expr.Name (PySem.Str.ofString "spot") ⟨334, 55, 334, 59⟩) ⟨334, 49, 334, 59⟩) PySem.Operator.Mult (PySem.Expr.Name (PySem.Str.ofString "spot") ⟨334, 62, 334, 66⟩) ⟨334, 49, 334, 66⟩) ⟨334, 19, 334, 66⟩) PySem.Operator.Add (PySem.Expr.Constant (PySem.Const.int 37) 0 ⟨334, 69, 334, 71⟩) ⟨334, 19, 334, 71⟩) PySem.Operator.Pow (PySem.Expr.Constant (PySem.Const.int 3) 0 ⟨334, 76, 334, 77⟩) ⟨334, 18, 334, 77⟩)] [] ⟨334, 14, 334, 78⟩) PySem.Operator.Mod (PySem.Expr.Constant (PySem.Const.int 2147483579) 0 ⟨334, 81, 334, 91⟩) ⟨334, 14, 334, 91⟩) ⟨334, 4, 334, 91⟩), (PySem.Stmt.Return (some (PySem.Expr.BinOp (PySem.Expr.Call (PySem.Expr.Name (PySem.Str.ofString "int") ⟨335, 11, 335, 14⟩) [(PySem.Expr.BinOp (PySem.Expr.Name (PySem.Str.ofString "churned") ⟨335, 15, 335, 22⟩) PySem.Operator.FloorDiv (PySem.Expr.Constant (PySem.Const.int 32) 0 ⟨335, 26, 335, 28⟩) ⟨335, 15, 335, 28⟩)] [] ⟨335, 11, 335, 29⟩) PySem.Operator.Mod (PySem.Expr.Name (PySem.Str.ofString "many") ⟨335, 32, 335, 36⟩) ⟨335, 11, 335, 36⟩)) ⟨335, 4, 335, 36⟩)]

section
variable {prog : Program} {w : World} {PF : Addr} {K : Frag} {pr : Program} {lo : List Str} {mean : ExcName → Option Value} {mg mb : Str → Option Value} {lv : Bool}
variable {c : Cx} {m : Str → Option Value} {h : Heap} {n : Nat} {gn : Array GenState} {dr : Drawn} {os : OsState}

theorem ts_cmp {a b : Expr} {op : CmpOp} {pos : Pos} {whole : Sem Value} {P P' : Value → Prop} {r : Bool} {tk : Nat} {Q : Bool → Shared → Prop} {E : Value → Shared → Prop} (ha : EvV prog w c gn dr os h a P) (hb : EvV prog w c gn dr os h b P')
    (hop : ∀ x y tk (Q : Value → Shared → Prop) (E : Value → Shared → Prop), P x → P' y → (∀ tk', Q (.bool r) ⟨h, gn, dr, tk', os⟩) → wpAny (model prog w) c.A (compareOp op x y) Q E ⟨h, gn, dr, tk, os⟩)
    (hm : behindInMarks op b = false) (hQ : ∀ tk', Q r ⟨h, gn, dr, tk', os⟩) : wpAny (model prog w) c.A (PySem.isTrue (.Compare a [op] [b] pos) c.env whole) Q E ⟨h, gn, dr, tk, os⟩ := by
  refine wpAny_isTrue_Compare1 (ha _ _ _ fun x tk1 hx => ?_) hm
  refine hb _ _ _ fun y tk2 hy => ?_
  exact hop x y tk2 _ _ hx hy fun tk' => wpAny_truthy_bool (hQ tk')
theorem st_name {x : Str} {xp pos : Pos} {e : Expr} {P : Value → Prop} {news : List (Addr × Obj)} {tk : Nat} {Q : Flow → Shared → Prop} {E : Value → Shared → Prop} (hC : CxOK K pr lo mean mg mb lv n c) (F : Fr c.h₀ c.L h m) (N : News c.h₀ c.L h news) (he : EvV prog w c gn dr os h e P)
    (hx : locA c.cs x = true) (hn : noComp e = true) (hQ : ∀ v h' tk', P v → Fr c.h₀ c.L h' (fun y => if y = x then some v else m y) → News c.h₀ c.L h' news → Q .next ⟨h', gn, dr, tk', os⟩) :
    wpAny (model prog w) c.A (exec (.Assign [.Name x xp] e pos) c.env) Q E ⟨h, gn, dr, tk, os⟩ := by
  refine wpAny_Assign_Name (he _ _ _ fun v tk1 hv => ?_) (swaps_none hn _ _ _)
  exact storeX_L (cl := []) F N (fun h' F' N' => hQ v h' _ hv F' N') hC.ck (locA_ok hx)
theorem st_item {o i e : Expr} {pos pos' : Pos} {pre post : List (Addr × Obj)} {x : Addr} {its : List Value} {ep : Nat} {k : Int} {P : Value → Prop} {q : Value → List Value} {tk : Nat} {Q : Flow → Shared → Prop} {E : Value → Shared → Prop}
    (F : Fr c.h₀ c.L h m) (N : News c.h₀ c.L h (c.X ++ (pre ++ (x, PySem.W.listOf its.toArray ep) :: post))) (hnd : ((c.X ++ (pre ++ (x, PySem.W.listOf its.toArray ep) :: post)).map (·.1)).Nodup) (he : EvV prog w c gn dr os h e P)
    (ho : EvV prog w c gn dr os h o (fun v => v = .ref x)) (hi : EvV prog w c gn dr os h i (IsI k)) (h0 : 0 ≤ k) (h1 : k < 2 ^ 63) (hset : ∀ v, ki_setL its k.toNat v = some (q v)) (hn : noComp e = true)
    (hQ : ∀ v h' tk', P v → Fr c.h₀ c.L h' m → News c.h₀ c.L h' (c.X ++ (pre ++ (x, PySem.W.listOf (q v).toArray ep) :: post)) → Q .next ⟨h', gn, dr, tk', os⟩) :
    wpAny (model prog w) c.A (exec (.Assign [.Subscript o i pos'] e pos) c.env) Q E ⟨h, gn, dr, tk, os⟩ := by
  refine wpAny_Assign_Subscript (he _ _ _ fun v tk1 hv => ?_) (swaps_none hn _ _ _)
  refine ho _ _ _ fun ov tk2 hov => ?_
  subst hov
  refine hi _ _ _ fun iv tk3 hiv => ?_
  obtain ⟨t, rfl⟩ := hiv
  exact ki_set (its := its.toArray) (q := q v) F N h0 h1 (hset v) (upd_mid hnd) fun h' F' N' => hQ v h' _ hv F' N'

theorem fmod_small {x : Int} {M : Nat} (hM : 0 < M) : 0 ≤ x.fmod M ∧ x.fmod M < M := ⟨Int.fmod_nonneg_of_pos x (by omega), Int.fmod_lt_of_pos x (by omega)⟩
theorem natAbs_fdiv_le {x : Int} {M : Nat} (h0 : 0 ≤ x) (hM : 0 < M) : 0 ≤ x.fdiv M ∧ (x.fdiv M).natAbs ≤ x.natAbs := by
  obtain ⟨k, rfl⟩ := Int.eq_ofNat_of_zero_le h0
  have : (k : Int).fdiv (M : Int) = ((k / M : Nat) : Int) := by
    rw [Int.fdiv_eq_ediv_of_nonneg _ (by omega)]
    rfl
  rw [this]
  refine ⟨Int.natCast_nonneg _, ?_⟩
  rw [Int.natAbs_natCast, Int.natAbs_natCast]
  exact Nat.div_le_self _ _
theorem log2_mono {a b : Nat} (h : a ≤ b) : a.log2 ≤ b.log2 := by
  by_cases ha : a = 0
  · subst ha; simp
  · have h1 := Nat.log2_self_le ha
    exact (Nat.le_log2 (by omega)).mpr (Nat.le_trans h1 h)

noncomputable def drawF : Vars → St → KS → KB → KX → Bool := fun vars st _ kr kx => match lk vars "pen" with
  | some a => (match lk vars "many" with
    | some b => penDraw.run Rec.bad [a, b] st kr kx
    | none => false)
  | none => false

theorem draw_ok (gi : nsIn K mainGlobals "int" = some none) (gl : nsIn K mainGlobals "len" = some none) (ga : nsIn K mainGlobals "abs" = some none) : ExOK prog w PF K pr lo mean mg mb lv n drawF dbd dsc := by
  rintro vars st kn kr kx hr c m s p led Q E hC hcs hV hf hN hR hX
  unfold drawF at hr
  split at hr
  · rename_i a ha
    split at hr
    · rename_i b hb
      unfold penDraw at hr
      dsimp only at hr
      split at hr
      · rename_i i many heq
        cases heq
        split at hr
        · rename_i M hM
          split at hr
          · rename_i N hi
            split at hr
            · rename_i hlt
              simp only [Bool.and_eq_true, Nat.blt_eq] at hlt
              obtain ⟨⟨hlN, hlM'⟩, hlM0⟩ := hlt
              have hlM : M < 100 ∧ 0 < M := ⟨hlM', hlM0⟩
              obtain ⟨v1, hm1, ⟨x, hx, rfl⟩⟩ := hV "pen" _ ha
              obtain ⟨v2, hm2, hv2⟩ := hV "many" _ hb
              have hmany : ∃ t, v2 = .int (M : Int) t := by
                unfold natOf at hM
                split at hM
                · cases hM
                  exact hv2
                · cases hM
              obtain ⟨tm, rfl⟩ := hmany
              obtain ⟨blk, pre, post, hl, ⟨x', l, sp, gr, t, u, e, vs, e', ns, hx', rfl, hI, hP⟩, hput, _⟩ := hf.H.at hi
              rw [hx] at hx'
              cases hx'
              have hlM0 := hlM.2
              have hlM := hlM.1
              obtain ⟨h, gn, dr, tk, os⟩ := s
              have hnd := hf.nd
              rw [hl] at hnd
              have N0 := hf.N
              rw [hl] at N0
              have F0 := hf.F
              have N0 : News c.h₀ c.L h (c.X ++ (pre ++ (x, PySem.W.listOf [Value.ref l, .int sp t, .int gr u].toArray e) :: (l, PySem.W.listOf vs.toArray e') :: post)) := N0
              have hndA : ∀ {its : List Value} {e'' : Nat}, ((c.X ++ (pre ++ (x, PySem.W.listOf its.toArray e'') :: (l, PySem.W.listOf vs.toArray e') :: post)).map (·.1)).Nodup := fun {its e''} => by simpa using hnd
              have hvl : vs.length = ns.length := hI.length
              have hP1 := hP.len
              have fin : ∀ {m' h' tk sp' gr' t' u' e''} {d : Int} {td}, 0 ≤ d → d < M → PenOk (N + 1) sp' gr' ns → Fr c.h₀ c.L h' m' → News c.h₀ c.L h' (c.X ++ (pre ++ (x, PySem.W.listOf [Value.ref l, .int sp' t', .int gr' u'].toArray e'') :: (l, PySem.W.listOf vs.toArray e') :: post)) →
                  Q (.ret (.int d td)) ⟨h', gn, dr, tk, os⟩ := by
                intro m' h' tk' sp' gr' t' u' e'' d td h0 h1 hP' F' N'
                have hk : kr (.int d) (st.put i (.pen (N + 1))) = true := by
                  have := List.all_eq_true.mp hr d.toNat (List.mem_range.mpr (by omega))
                  rw [Int.toNat_of_nonneg h0] at this
                  exact this
                exact hR (.int d) _ (.int d td) m' ⟨h', gn, dr, tk', os⟩ p (pre ++ ([(x, PySem.W.listOf [Value.ref l, .int sp' t', .int gr' u'].toArray e''), (l, PySem.W.listOf vs.toArray e')] ++ post)) hk (Sm.mk _ h' tk') (Mp.le.refl p) ⟨td, rfl⟩
                  ⟨F', N', hndA, hput (.pen (N + 1)) _ ⟨x, l, sp', gr', t', u', e'', vs, e', ns, hx, rfl, hI, hP'⟩, hf.na, hf.nn⟩
              have kl : ∀ x, dsc.names.lookup x = some .local → kindA c.cs x = some .local := fun x hx => by rw [hcs]; exact hx
              have kg : ∀ x, dsc.names.lookup x = some .globalImplicit → kindA c.cs x = some .globalImplicit := fun x hx => by rw [hcs]; exact hx
              have kloc : ∀ x, dsc.names.lookup x = some .local → locA c.cs x = true := fun x hx => by unfold locA; rw [kl x hx]
              have nm : ∀ {x : Str} {v : Value} {pos : Pos} {h' : Heap} {m' : Str → Option Value}, Fr c.h₀ c.L h' m' → m' x = some v → dsc.names.lookup x = some .local → (x == ("__debug__" : Str)) = false → EvV prog w c gn dr os h' (.Name x pos) (fun u => u = v) :=
                fun F hm hk hd => ev_name F hC hm (kl _ hk) hd
              have nmI : ∀ {x : Str} {y : Int} {t : Tok} {pos : Pos} {h' : Heap} {m' : Str → Option Value}, Fr c.h₀ c.L h' m' → m' x = some (.int y t) → dsc.names.lookup x = some .local → (x == ("__debug__" : Str)) = false → EvV prog w c gn dr os h' (.Name x pos) (IsI y) :=
                fun F hm hk hd => ev_to (nm F hm hk hd) fun v hv => ⟨_, hv⟩
              have rd : ∀ {its : List Value} {e'' : Nat} {k : Int} {v : Value} {p1 p2 p3 : Pos} {k0 : Nat} {h' : Heap} {m' : Str → Option Value}, Fr c.h₀ c.L h' m' → News c.h₀ c.L h' (c.X ++ (pre ++ (x, PySem.W.listOf its.toArray e'') :: (l, PySem.W.listOf vs.toArray e') :: post)) →
                  m' "pen" = some (.ref x) → 0 ≤ k → k < 2 ^ 63 → its[k.toNat]? = some v → EvV prog w c gn dr os h' (.Subscript (.Name "pen" p1) (.Constant (.int k) k0 p2) p3) (fun u => u = v) :=
                fun F' N' hm h0 h1 hv => ev_item (nm F' hm rfl rfl) ev_int ⟨_, (N' _ (List.mem_append_right _ (List.mem_append_right _ (.head _)))).1, rfl, _, rfl⟩ h0 h1 hv fun _ _ => rfl
              have hlist : ∀ {its : List Value} {e'' : Nat} {h' : Heap}, News c.h₀ c.L h' (c.X ++ (pre ++ (x, PySem.W.listOf its.toArray e'') :: (l, PySem.W.listOf vs.toArray e') :: post)) → h'.IsList l vs.toArray := fun N' =>
                ⟨_, (N' _ (List.mem_append_right _ (List.mem_append_right _ (.tail _ (.head _))))).1, rfl, _, rfl⟩
              have bI : ∀ {pos : Pos} {h' : Heap} {m' : Str → Option Value}, Fr c.h₀ c.L h' m' → EvV prog w c gn dr os h' (.Name "int" pos) (fun u => u = .type "int") := fun F' => ev_boot F' hC gi rfl (by decide) (kg _ rfl) rfl
              have bL : ∀ {pos : Pos} {h' : Heap} {m' : Str → Option Value}, Fr c.h₀ c.L h' m' → EvV prog w c gn dr os h' (.Name "len" pos) (fun u => u = .builtin "len") := fun F' => ev_boot F' hC gl rfl (by decide) (kg _ rfl) rfl
              have bA : ∀ {pos : Pos} {h' : Heap} {m' : Str → Option Value}, Fr c.h₀ c.L h' m' → EvV prog w c gn dr os h' (.Name "abs" pos) (fun u => u = .builtin "abs") := fun F' => ev_boot F' hC ga rfl (by decide) (kg _ rfl) rfl
              have hsp0 := hP.sp0
              have hspn := hP.spn
              have hgr0 := hP.gr0
              have big : (2:Int)^64 = 18446744073709551616 := by decide
              refine wpAny_execs_cons (wpAny_If (ts_cmp (P := IsI gr) (P' := IsI 0) (r := decide (0 < gr)) (ev_to (rd F0 N0 hm1 (by decide) (by decide) rfl) fun v hv => ⟨_, hv⟩) ev_int
                (fun a b tk Q E ha hb hQ => by obtain ⟨_, rfl⟩ := ha; obtain ⟨_, rfl⟩ := hb; exact gt_int (hQ _)) rfl fun tk1 => ?_))
              by_cases hg : 0 < gr
              · rw [if_pos (decide_eq_true hg)]
                refine wpAny_execs_cons (st_name hC F0 N0 (ev_mod (ev_toint (bI F0) rfl (ev_to (rd F0 N0 hm1 (by decide) (by decide) rfl) fun v hv => ⟨_, hv⟩)) (nmI F0 hm2 rfl rfl) (by omega)) (kloc _ rfl) rfl fun v h1 tk2 hv F1 N1 => ?_)
                obtain ⟨td, rfl⟩ := hv
                refine wpAny_execs_cons (st_item (q := fun v => [.ref l, .int sp t, v]) F1 N1 hndA (ev_div (ev_toint (bI F1) rfl (ev_to (rd F1 N1 (by rw [if_neg (by decide)]; exact hm1) (by decide) (by decide) rfl) fun v hv => ⟨_, hv⟩)) (nmI F1 (by rw [if_neg (by decide)]; exact hm2) rfl rfl) (by omega) (by omega))
                  (nm F1 (by rw [if_neg (by decide)]; exact hm1) rfl rfl) ev_int (by decide) (by decide) (fun v => rfl) rfl fun v h2 tk3 hv F2 N2 => ?_)
                obtain ⟨u2, rfl⟩ := hv
                refine wpAny_execs_cons (wpAny_Return_some (nm F2 (if_pos rfl) rfl rfl _ _ _ fun v tk4 hv => ?_))
                subst hv
                have hfm := fmod_small (x := gr) hlM0
                have hfd := natAbs_fdiv_le hgr0 hlM0
                exact fin hfm.1 hfm.2 ⟨hP.len, hP.bits, hP.sp0, by omega, hfd.1, Nat.le_trans (log2_mono hfd.2) hP.grb⟩ F2 N2
              · rw [if_neg (by simpa using hg)]
                refine wpAny_execs_nil ?_
                refine wpAny_execs_cons (st_name hC F0 N0 (rd F0 N0 hm1 (by decide) (by decide) rfl) (kloc _ rfl) rfl fun v h1 tk2 hv F1 N1 => ?_)
                subst hv
                refine wpAny_execs_cons (st_item (q := fun v => [.ref l, v, .int gr u]) F1 N1 hndA (ev_add (nmI F1 (if_pos rfl) rfl rfl) ev_int) (nm F1 (by rw [if_neg (by decide)]; exact hm1) rfl rfl) ev_int (by decide) (by decide) (fun v => rfl) rfl fun v h2 tk3 hv F2 N2 => ?_)
                obtain ⟨t2, rfl⟩ := hv
                refine wpAny_execs_cons (st_name hC F2 N2 ev_int (kloc _ rfl) rfl fun v h3 tk4 hv F3 N3 => ?_)
                obtain ⟨t3, rfl⟩ := hv
                have hrest : ∀ {h4 : Heap} {m4 : Str → Option Value} {tk : Nat} {cv : Int} {tc : Tok}, Fr c.h₀ c.L h4 m4 → News c.h₀ c.L h4 (c.X ++ (pre ++ (x, PySem.W.listOf [Value.ref l, .int (sp + 1) t2, .int gr u].toArray e) :: (l, PySem.W.listOf vs.toArray e') :: post)) →
                    m4 "pen" = some (.ref x) → m4 "many" = some (.int M tm) → m4 "spot" = some (.int sp t) → m4 "cell" = some (.int cv tc) → Nat.log2 cv.natAbs ≤ 2 ^ 21 → wpAny (model prog w) c.A (execs (dbd.drop 5) c.env) Q E ⟨h4, gn, dr, tk, os⟩ := by
                  intro h4 m4 tk cv tc F4 N4 q1 q2 q3 q4 hcv
                  have hpen : PenOk (N + 1) (sp + 1) gr ns := ⟨hP.len, hP.bits, by omega, by omega, hgr0, hP.grb⟩
                  refine wpAny_execs_cons (wpAny_If (isTrue_and (ts_cmp (P := IsI sp) (P' := IsI vs.toArray.size) (r := decide (sp < vs.toArray.size)) (nmI F4 q3 rfl rfl) (ev_len (bL F4) rfl (rd F4 N4 q1 (by decide) (by decide) rfl) (hlist N4) (by simp; omega))
                    (fun a b tk Q E ha hb hQ => by obtain ⟨_, rfl⟩ := ha; obtain ⟨_, rfl⟩ := hb; exact lt_int (hQ _)) rfl fun tk1 => ?_)))
                  have tail : ∀ {tk}, wpAny (model prog w) c.A (execs (dbd.drop 6) c.env) Q E ⟨h4, gn, dr, tk, os⟩ := by
                    intro tk
                    have hcm : 0 ≤ cv.fmod 2147483587 ∧ cv.fmod 2147483587 < 2147483587 := ⟨Int.fmod_nonneg_of_pos cv (by decide), Int.fmod_lt_of_pos cv (by decide)⟩
                    have b1 : (cv.fmod 2147483587 + 70037 * sp + 6007).natAbs < 2 ^ 64 := by
                      have := hcm.1; have := hcm.2; omega
                    refine wpAny_execs_cons (st_name hC F4 N4 (ev_mod (ev_toint (bI F4) rfl (ev_pow (ev_add (ev_add (ev_mod (ev_toint (bI F4) rfl (nmI F4 q4 rfl rfl)) ev_int (by decide)) (ev_mul ev_int (nmI F4 q3 rfl rfl) (by decide))) ev_int) ev_int (by decide) (by decide) b1)) ev_int (by decide)) (kloc _ rfl) rfl fun v h5 tk5 hv F5 N5 => ?_)
                    obtain ⟨t5, rfl⟩ := hv
                    generalize hch : ((cv.fmod 2147483587 + 70037 * sp + 6007) ^ (5 : Int).toNat).fmod 2147483629 = ch at F5
                    have hchb := fmod_small (x := (cv.fmod 2147483587 + 70037 * sp + 6007) ^ (5 : Int).toNat) (M := 2147483629) (by decide)
                    have hch0 : 0 ≤ ch := by rw [← hch]; exact hchb.1
                    have hch1 : ch < 2147483629 := by rw [← hch]; exact hchb.2
                    have e1 : 0 ≤ ch * (2 * sp + 3011) := Int.mul_nonneg hch0 (by omega)
                    have e2 : ch * (2 * sp + 3011) ≤ 2147483629 * 3300 := Int.mul_le_mul (by omega) (by omega) (by omega) (by omega)
                    have e3 : 0 ≤ 701 * sp * sp := Int.mul_nonneg (by omega) hsp0
                    have e4 : 701 * sp * sp ≤ 70100 * 100 := Int.mul_le_mul (by omega) (by omega) hsp0 (by omega)
                    have b2 : (ch * (2 * sp + 3011) + 701 * sp * sp + 37).natAbs < 2 ^ 64 := by omega
                    have s5 : ∀ y, y ≠ ("churned" : Str) → (if y = ("churned" : Str) then some (Value.int ch t5) else m4 y) = m4 y := fun y hy => if_neg hy
                    refine wpAny_execs_cons (st_name hC F5 N5 (ev_mod (ev_toint (bI F5) rfl (ev_pow (ev_add (ev_add (ev_mul (nmI F5 (if_pos rfl) rfl rfl) (ev_add (ev_mul ev_int (nmI F5 ((s5 _ (by decide)).trans q3) rfl rfl) (by decide)) ev_int) (by omega))
                      (ev_mul (ev_mul ev_int (nmI F5 ((s5 _ (by decide)).trans q3) rfl rfl) (by decide)) (nmI F5 ((s5 _ (by decide)).trans q3) rfl rfl) (by omega))) ev_int) ev_int (by decide) (by decide) b2)) ev_int (by decide)) (kloc _ rfl) rfl fun v h6 tk6 hv F6 N6 => ?_)
                    obtain ⟨t6, rfl⟩ := hv
                    refine wpAny_execs_cons (wpAny_Return_some (ev_mod (ev_toint (bI F6) rfl (ev_div (nmI F6 (if_pos rfl) rfl rfl) ev_int (by decide) (by decide))) (nmI F6 (by rw [if_neg (by decide)]; exact (s5 _ (by decide)).trans q2) rfl rfl) (by omega) _ _ _ fun v tk7 hv => ?_))
                    obtain ⟨t7, rfl⟩ := hv
                    have hfm := fmod_small (x := (((ch * (2 * sp + 3011) + 701 * sp * sp + 37) ^ (3 : Int).toNat).fmod 2147483579).fdiv 32) hlM0
                    exact fin hfm.1 hfm.2 hpen F6 N6
                  by_cases hlen : sp < vs.toArray.size
                  · rw [if_pos (decide_eq_true hlen)]
                    refine isTrue_and (ts_cmp (P := IsI (if cv < 0 then -cv else cv)) (P' := IsI ((10 : Int) ^ (18 : Int).toNat)) (r := decide ((10 : Int) ^ (18 : Int).toNat ≤ (if cv < 0 then -cv else cv))) (ev_abs (bA F4) rfl (nmI F4 q4 rfl rfl)) (ev_pow ev_int ev_int (by decide) (by decide) (by decide))
                      (fun a b tk Q E ha hb hQ => by obtain ⟨_, rfl⟩ := ha; obtain ⟨_, rfl⟩ := hb; exact ge_int (hQ _)) rfl fun tk2 => ?_)
                    by_cases hbig : (10 : Int) ^ (18 : Int).toNat ≤ (if cv < 0 then -cv else cv)
                    · rw [if_pos (decide_eq_true hbig)]
                      refine isTrue_and_nil ?_
                      rw [if_pos rfl]
                      refine wpAny_execs_cons (st_name hC F4 N4 (ev_sub (ev_abs (bA F4) rfl (nmI F4 q4 rfl rfl)) (ev_pow ev_int ev_int (by decide) (by decide) (by decide))) (kloc _ rfl) rfl fun v h5 tk5 hv F5 N5 => ?_)
                      obtain ⟨t5, rfl⟩ := hv
                      generalize hgt : (if cv < 0 then -cv else cv) - (10 : Int) ^ (18 : Int).toNat = gt at F5
                      have hg0 : 0 ≤ gt := by omega
                      have hgl : gt.natAbs ≤ cv.natAbs := by
                        have : (0:Int) ≤ (10 : Int) ^ (18 : Int).toNat := by decide
                        split at hgt <;> omega
                      have s5 : ∀ y, y ≠ ("great" : Str) → (if y = ("great" : Str) then some (Value.int gt t5) else m4 y) = m4 y := fun y hy => if_neg hy
                      refine wpAny_execs_cons (st_item (q := fun v => [.ref l, .int (sp + 1) t2, v]) F5 N5 hndA (ev_div (ev_toint (bI F5) rfl (nmI F5 (if_pos rfl) rfl rfl)) (nmI F5 ((s5 _ (by decide)).trans q2) rfl rfl) (by omega) (by omega)) (nm F5 ((s5 _ (by decide)).trans q1) rfl rfl) ev_int (by decide) (by decide) (fun v => rfl) rfl fun v h6 tk6 hv F6 N6 => ?_)
                      obtain ⟨t6, rfl⟩ := hv
                      refine wpAny_execs_cons (wpAny_Return_some (ev_mod (ev_toint (bI F6) rfl (nmI F6 (if_pos rfl) rfl rfl)) (nmI F6 ((s5 _ (by decide)).trans q2) rfl rfl) (by omega) _ _ _ fun v tk7 hv => ?_))
                      obtain ⟨t7, rfl⟩ := hv
                      have hfm := fmod_small (x := gt) hlM0
                      have hfd := natAbs_fdiv_le hg0 hlM0
                      exact fin hfm.1 hfm.2 ⟨hP.len, hP.bits, by omega, by omega, hfd.1, Nat.le_trans (log2_mono (Nat.le_trans hfd.2 hgl)) hcv⟩ F6 N6
                    · rw [if_neg (by simpa using hbig)]
                      rw [if_neg (by decide)]
                      exact wpAny_execs_nil tail
                  · rw [if_neg (by simpa using hlen)]
                    rw [if_neg (by decide)]
                    exact wpAny_execs_nil tail
                have a1 : ∀ {y}, y ≠ ("cell" : Str) → y ≠ ("spot" : Str) → (if y = ("cell" : Str) then some (Value.int 0 t3) else if y = ("spot" : Str) then some (Value.int sp t) else m y) = m y := fun h1 h2 => by rw [if_neg h1, if_neg h2]
                have p1 := (a1 (y := "pen") (by decide) (by decide)).trans hm1
                have p2 := (a1 (y := "many") (by decide) (by decide)).trans hm2
                refine wpAny_execs_cons (wpAny_If (wpAny_isTrue_Compare1 (rd F3 N3 p1 (by decide) (by decide) rfl _ _ _ fun v tk5 hv => ?_) rfl))
                subst hv
                refine List_ (args_nil ?_)
                refine newList_K F3 N3 (fun ln h4 F4 N4 hlt => ?_)
                have hln : h4.IsList ln ([] : List Value).toArray := ⟨_, (N4 _ (.head _)).1, rfl, _, rfl⟩
                have N4' : News c.h₀ c.L h4 (c.X ++ (pre ++ (x, PySem.W.listOf [Value.ref l, .int (sp + 1) t2, .int gr u].toArray e) :: (l, PySem.W.listOf vs.toArray e') :: post)) := fun q hq => N4 q (.tail _ hq)
                have hlv := hlist N4'
                have hu : c.A.units < cLine := by have := hC.hu; omega
                cases hvs : vs with
                | nil =>
                  rw [hvs] at hlv
                  have := SeqAt.RcNeAt.lists (A := c.A) (s := ⟨h4, gn, dr, tk5, os⟩) (e := fun _ => true) hlv hln rfl hu (fun j h1 _ => by simp at h1) prog w E
                  refine this _ (wpAny_truthy_bool ?_)
                  rw [if_neg (by decide)]
                  refine wpAny_execs_nil ?_
                  refine hrest F4 N4' p1 p2 ?_ (if_pos rfl) (by decide)
                  rw [if_neg (by decide), if_pos rfl]
                | cons v0 vr =>
                  have hlv' := hlv
                  rw [hvs] at hlv'
                  have := SeqAt.RcNeAt.lists_lengths (A := c.A) (s := ⟨h4, gn, dr, tk5, os⟩) hlv' hln (by simp) hu prog w E
                  refine this _ (wpAny_truthy_bool ?_)
                  rw [if_pos rfl]
                  have hpos : 0 < vs.toArray.size := by rw [hvs]; simp
                  have hfm := fmod_small (x := sp) hpos
                  have hsz : vs.toArray.size ≤ 63 := by simp; omega
                  obtain ⟨y, hy⟩ : ∃ y, vs[(sp.fmod vs.toArray.size).toNat]? = some y := ⟨_, List.getElem?_eq_getElem (by simp at hfm ⊢; omega)⟩
                  obtain ⟨ni, ti, rfl, hni⟩ := hI.at _ _ hy
                  refine wpAny_execs_cons (st_name hC F4 N4' (ev_item (l := l) (its := vs) (rd F4 N4' p1 (by decide) (by decide) rfl) (ev_mod (ev_toint (bI F4) rfl (nmI F4 (by rw [if_neg (by decide)]; exact if_pos rfl) rfl rfl)) (ev_len (bL F4) rfl (rd F4 N4' p1 (by decide) (by decide) rfl) hlv (by omega)) (by omega)) hlv hfm.1 (by omega) hy fun _ _ => rfl) (kloc _ rfl) rfl fun v h5 tk6 hv F5 N5 => ?_)
                  subst hv
                  refine wpAny_execs_nil ?_
                  refine hrest F5 N5 ?_ ?_ ?_ (if_pos rfl) (hP.bits _ (List.mem_of_getElem? hni))
                  · rw [if_neg (by decide)]; exact p1
                  · rw [if_neg (by decide)]; exact p2
                  · rw [if_neg (by decide), if_neg (by decide), if_pos rfl]
            · cases hr
          · cases hr
        · cases hr
      · cases hr
    · cases hr
  · cases hr
end
end PH
end
section
open PySem PySem.W PySem.Calls PyProof.Rows
set_option Elab.async false
set_option maxRecDepth 100000
set_option linter.unusedVariables false
namespace PH
noncomputable abbrev asc : Scope := { kind := PySem.ScopeKind.function, names := [((PySem.Str.ofString "self"), PySem.NameKind.local), ((PySem.Str.ofString "value"), PySem.NameKind.local), ((PySem.Str.ofString "number"), PySem.NameKind.local), ((PySem.Str.ofString "Reference"), PySem.NameKind.globalImplicit)], isGenerator := false, isCoroutine := false, more := [] }
noncomputable abbrev abd : List Stmt := [(PySem.Stmt.Assign [(PySem.Expr.Name (PySem.Str.ofString "number") ⟨159, 8, 159, 14⟩)] (PySem.Expr.Constant (PySem.Const.int 1) 0 ⟨159, 17, 159, 18⟩) ⟨159, 8, 159, 18⟩), (PySem.Stmt.While (PySem.Expr.Compare (PySem.Expr.Name (PySem.Str.ofString "number") ⟨160, 14, 160, 20⟩) [PySem.CmpOp.In] [(PySem.Expr.Attribute (PySem.Expr.Name (PySem.Str.ofString "self") ⟨160, 24, 160, 28⟩) (PySem.Str.ofString "table") ⟨160, 24, 160, 34⟩)] ⟨160, 14, 160, 34⟩) [(PySem.Stmt.Assign [(PySem.Expr.Name (PySem.Str.ofString "number") ⟨161, 12, 161, 18⟩)] (PySem.Expr.BinOp (PySem.Expr.Name (PySem.Str.ofString "number") ⟨161, 21, 161, 27⟩) PySem.Operator.Add (PySem.Expr.Constant (PySem.Const.int 1) 0 ⟨161, 30, 161, 31⟩) ⟨161, 21, 161, 31⟩) ⟨161, 12, 161, 31⟩)] [] ⟨160, 8, 161, 31⟩), (PySem.Stmt.Assign [(PySem.Expr.Subscript (PySem.Expr.Attribute (PySem.Expr.Name (PySem.Str.ofString "self") ⟨162, 8, 162, 12⟩) (PySem.Str.ofString "table") ⟨162, 8, 162, 18⟩) (PySem.Expr.Name (PySem.Str.ofString "number") ⟨162, 19, 162, 25⟩) ⟨162, 8, 162, 26⟩)] (PySem.Expr.Tuple [(PySem.Expr.Constant (PySem.Const.int 0) 0 ⟨162, 30, 162, 31⟩), (PySem.Expr.Name (PySem.Str.ofString "value") ⟨162, 33, 162, 38⟩)] 0 ⟨162, 29, 162, 39⟩) ⟨162, 8, 162, 39⟩), (PySem.Stmt.Return (some (PySem.Expr.Call (PySem.Expr.Name (PySem.Str.ofString "Reference") ⟨163, 15, 163, 24⟩) [(PySem.Expr.Name (PySem.Str.ofString "number") ⟨163, 25, 163, 31⟩), (PySem.Expr.Constant (PySem.Const.int 0) 0 ⟨163, 33, 163, 34⟩)] [] ⟨163, 15, 163, 35⟩)) ⟨163, 8, 163, 35⟩)]

section
variable {prog : Program} {w : World} {PF : Addr} {K : Frag} {pr : Program} {lo : List Str} {mean : ExcName → Option Value} {mg mb : Str → Option Value} {lv : Bool} {r : Rec}
variable {c : Cx} {m : Str → Option Value} {h : Heap} {n : Nat} {gn : Array GenState} {dr : Drawn} {os : OsState}

theorem ev_attr {o : Expr} {name : Str} {pos : Pos} {x dx C : Addr} {es : List DictEntry} {kk : Nat} {v : Value} {news : List (Addr × Obj)} (hob : baseOk o = true) (ho : EvV prog w c gn dr os h o (fun u => u = .ref x)) (hC : CxOK K pr lo mean mg mb lv n c) (F : Fr c.h₀ c.L h m) (N : News c.h₀ c.L h news)
    (m1 : (x, instObj C dx) ∈ news) (m2 : (dx, dictOf es kk) ∈ news) (hat : attrOk K C name = true) (hg : PySem.W.getL name es = some (some v)) (hh : handedIn v = true) : EvV prog w c gn dr os h (.Attribute o name pos) (fun u => u = v) := by
  intro tk Q E hQ
  refine Attribute_any_ (ho _ _ _ fun u tk1 hu => ?_) (by rw [PySem.arm_eval_Attribute, base_eq hob])
  subst hu
  unfold attrOk at hat
  simp only [Bool.and_eq_true] at hat
  obtain ⟨⟨h1, h2⟩, h3⟩ := hat
  split at h3
  · rename_i attr h4
    exact get_own F hC.X (InstAt.of_news N m1 m2) h1 h2 h4 h3 hg hh (hQ _ _ rfl)
  · cases h3

theorem valueAt_mem {α : Type} [DecidableEq α] {l : List (α × Value)} {k : α} (h : (valueAt l k).isSome = true) : k ∈ l.map (·.1) := by
  unfold valueAt at h
  rw [Option.isSome_map] at h
  obtain ⟨q, hq⟩ := Option.isSome_iff_exists.mp h
  have h1 := List.find?_some hq
  have h2 := List.mem_of_find?_eq_some hq
  exact List.mem_map.mpr ⟨q, h2, of_decide_eq_true h1⟩
theorem pigeon {l : List (Int × Value)} {N : Nat} (h : ∀ i : Nat, 1 ≤ i → i ≤ N → (valueAt l (i : Int)).isSome = true) : N ≤ l.length := by
  have := List.Nodup.length_le_of_subset (l₁ := (List.range N).map (fun i : Nat => ((i + 1 : Nat) : Int))) (l₂ := l.map (·.1)) ?_ ?_
  · simpa using this
  · refine List.pairwise_map.mpr (List.nodup_range.imp fun {a b} hab e => ?_)
    have e : ((a + 1 : Nat) : Int) = ((b + 1 : Nat) : Int) := e
    omega
  · intro x hx
    obtain ⟨i, hi, rfl⟩ := List.mem_map.mp hx
    exact valueAt_mem (h (i + 1) (by omega) (by have := List.mem_range.mp hi; omega))

theorem HRel.at' {p : Mp} {os : List (Nat × AO)} {led : List (Addr × Obj)} (r : HRel prog w p os led) {i : Nat} {o : AO} (e : getO os i = some o) :
    ∃ b pre post, led = pre ++ (b ++ post) ∧ ORel prog w p i o b ∧ ∀ q, p.le q → ∀ o' b', ORel prog w q i o' b' → HRel prog w q (putO os i o') (pre ++ (b' ++ post)) := by
  induction r with
  | nil => cases e
  | @cons k o₁ b₁ os led hb hr ih =>
    unfold getO at e
    cases z : Nat.beq k i with
    | true =>
      rw [z] at e
      cases e
      have hk : k = i := Nat.eq_of_beq_eq_true z
      subst hk
      refine ⟨b₁, [], led, rfl, hb, fun q hq o' b' h' => ?_⟩
      unfold putO
      rw [z]
      show HRel prog w q ((k, o') :: os) (b' ++ led)
      exact HRel.cons h' (hr.le hq)
    | false =>
      rw [z] at e
      obtain ⟨b, pre, post, hl, ho, hput⟩ := ih e
      refine ⟨b, b₁ ++ pre, post, by rw [hl]; simp, ho, fun q hq o' b' h' => ?_⟩
      unfold putO
      rw [z]
      have := HRel.cons (hb.le hq) (hput q hq o' b' h')
      simpa using this

noncomputable def addF (K : Frag) (refC : Nat) (r : Rec) : Vars → St → KS → KB → KX → Bool := fun vars st _ kr kx => match lk vars "self" with
  | some a => (match lk vars "value" with
    | some b => (shelfAdd K refC).run r [a, b] st kr kx
    | none => false)
  | none => false

theorem add_ok {refC : Nat} (R : RecOK prog w PF K pr lo mean mg mb lv n r) (gr : globAt K asc "Reference" = some (.prog refC)) (gk : keepA K (.prog refC) = true) : ExOK prog w PF K pr lo mean mg mb lv n (addF K refC r) abd asc := by
  rintro vars st kn kr kx hr c m s p led Q E hC hcs hV hf hN hR hX
  unfold addF at hr
  split at hr
  · rename_i a ha
    split at hr
    · rename_i b hb
      unfold shelfAdd at hr
      dsimp only at hr
      split at hr
      · rename_i i v heq
        cases heq
        split at hr
        · rename_i C at_ hi
          split at hr
          · rename_i t hlk
            split at hr
            · rename_i o ht
              split at hr
              · rename_i bd kvs hto
                split at hr
                · rename_i hbt
                  rw [Bool.and_eq_true, Nat.blt_eq] at hbt
                  obtain ⟨hb1, hat⟩ := hbt
                  have frc_eq : ∀ (n : Nat) (k : Nat → Bool), frc n k = k n := fun n k => by unfold frc; cases n <;> rfl
                  rw [frc_eq, frc_eq] at hr
                  obtain ⟨v1, hm1, hv1⟩ := hV "self" _ ha
                  obtain ⟨v2, hm2, hv2⟩ := hV "value" _ hb
                  obtain ⟨x, dx, es, kk, hx, hI, hA, q1, q2⟩ := hf.inst hi
                  obtain rfl := hv1.obj_eq hx
                  have hg := hA.getL (x := "table")
                  rw [hlk] at hg
                  obtain ⟨v3, hg, hv3⟩ := hg
                  obtain ⟨blk, pre, post, hl, hob, hput⟩ := hf.H.at' ht
                  have hdict : ∃ d od l, p.as[t]? = some d ∧ blk = [(d, od)] ∧ Obj.IsDictOf (PySem.intKind prog w) od l ∧ (d == sysModules) = false ∧ l.length ≤ bd ∧ (∀ q ∈ kvs, ∃ i v, keyI p q.1 = some i ∧ valueAt l i = some v ∧ VRel p q.2 v) ∧ (bd < 1000 → ∀ i v, p.dI i = some v → valueAt l i = some v) := by
                    unfold tabOf at hto
                    split at hto
                    · cases hto
                      obtain ⟨d, od, e1, e2, _, e3, e4⟩ := hob
                      exact ⟨d, od, [], e1, e2, e3, e4, Nat.zero_le _, (fun q hq => by cases hq), fun q => absurd q (by omega)⟩
                    · cases hto
                      obtain ⟨d, od, l, e1, e2, e3, e4, e5, e6⟩ := hob
                      exact ⟨d, od, l, e1, e2, e3, e4, e5, e6⟩
                    · cases hto
                  obtain ⟨d, od, l, hd, rfl, hdo, hns, hdl, hkv, hxt⟩ := hdict
                  obtain rfl := hv3.obj_eq hd
                  obtain ⟨h, gn, dr, tk, os⟩ := s
                  have F0 := hf.F
                  have N0 := hf.N
                  have md : (d, od) ∈ c.X ++ led := by rw [hl]; simp
                  have kl : ∀ x, asc.names.lookup x = some .local → kindA c.cs x = some .local := fun x hx => by rw [hcs]; exact hx
                  have kloc : ∀ x, asc.names.lookup x = some .local → locA c.cs x = true := fun x hx => by unfold locA; rw [kl x hx]
                  have nm : ∀ {x : Str} {v : Value} {pos : Pos} {h' : Heap} {m' : Str → Option Value}, Fr c.h₀ c.L h' m' → m' x = some v → asc.names.lookup x = some .local → (x == ("__debug__" : Str)) = false → EvV prog w c gn dr os h' (.Name x pos) (fun u => u = v) :=
                    fun F hm hk hd => ev_name F hC hm (kl _ hk) hd
                  have nmI : ∀ {x : Str} {y : Int} {t : Tok} {pos : Pos} {h' : Heap} {m' : Str → Option Value}, Fr c.h₀ c.L h' m' → m' x = some (.int y t) → asc.names.lookup x = some .local → (x == ("__debug__" : Str)) = false → EvV prog w c gn dr os h' (.Name x pos) (IsI y) :=
                    fun F hm hk hd => ev_to (nm F hm hk hd) fun v hv => ⟨_, hv⟩
                  have tab : ∀ {p1 p2 : Pos} {h' : Heap} {m' : Str → Option Value} {news : List (Addr × Obj)}, Fr c.h₀ c.L h' m' → News c.h₀ c.L h' news → (∀ q ∈ c.X ++ led, q ∈ news) → m' "self" = some (.ref x) → EvV prog w c gn dr os h' (.Attribute (.Name "self" p1) "table" p2) (fun u => u = .ref d) :=
                    fun F' N' hs hm => ev_attr rfl (nm F' hm rfl rfl) hC F' N' (hs _ q1) (hs _ q2) hat hg rfl
                  refine wpAny_execs_cons (st_name hC F0 N0 ev_int (kloc _ rfl) rfl fun v h1 tk1 hv F1 N1 => ?_)
                  obtain ⟨t1, rfl⟩ := hv
                  -- what follows the loop
                  have hrest : ∀ {h4 : Heap} {m4 : Str → Option Value} {tk : Nat} {nu : Int} {tn : Tok}, Fr c.h₀ c.L h4 m4 → News c.h₀ c.L h4 (c.X ++ led) → m4 "self" = some (.ref x) → m4 "value" = some v2 → m4 "number" = some (.int nu tn) → valueAt l nu = none →
                      wpAny (model prog w) c.A (execs (abd.drop 2) c.env) Q E ⟨h4, gn, dr, tk, os⟩ := by
                    intro h4 m4 tk nu tn F4 N4 w1 w2 w3 hno
                    refine wpAny_execs_cons (wpAny_Assign_Subscript (Tuple_ (args_cons (ev_int _ _ _ fun z tk5 hz => ?_) rfl)) rfl)
                    refine args_cons (nm F4 w2 rfl rfl _ _ _ fun z2 tk6 hz2 => args_nil ?_) rfl
                    subst hz2
                    refine kup_newTuple F4 N4 (fun D h5 F5 N5 hlt => ?_) (by rw [List.length_cons, List.length_cons]; decide)
                    obtain ⟨tz, rfl⟩ := hz
                    have N5' : News c.h₀ c.L h5 (c.X ++ (((D, tupOf [.int 0 tz, z2]) :: pre) ++ (d, od) :: post)) := fun q hq => N5 q (by
                      rw [hl]
                      simp only [List.mem_append, List.mem_cons] at hq ⊢
                      rcases hq with z | (z | z) | z | z <;> simp [z, tupOf])
                    have hnd5 : ((c.X ++ (((D, tupOf [.int 0 tz, z2]) :: pre) ++ (d, od) :: post)).map (·.1)).Nodup := by
                      have h1 := hf.nd
                      rw [hl] at h1
                      have h2 : D ∉ (c.X ++ (pre ++ ([(d, od)] ++ post))).map (·.1) := fun hm => by
                        obtain ⟨y, hy, e⟩ := List.mem_map.mp hm
                        rw [← hl] at hy
                        exact absurd (hlt y hy) (by rw [e]; exact Nat.lt_irrefl _)
                      have h3 : (c.X ++ (((D, tupOf [.int 0 tz, z2]) :: pre) ++ (d, od) :: post)).Perm ((D, tupOf [.int 0 tz, z2]) :: (c.X ++ (pre ++ ([(d, od)] ++ post)))) := List.perm_middle
                      refine ((h3.map (·.1)).nodup_iff).mpr ?_
                      rw [List.map_cons]
                      exact List.nodup_cons.mpr ⟨h2, h1⟩
                    refine tab F5 N5 (fun q hq => .tail _ hq) w1 _ _ _ fun ov tk7 hov => ?_
                    subst hov
                    refine nm F5 w3 rfl rfl _ _ _ fun iv tk8 hiv => ?_
                    subst hiv
                    have hsl : sizeLine = 16777216 := rfl
                    refine kda_set (knd := PySem.intKind prog w) (k := nu) F5 N5' (updF_mid hnd5) hdo (intKind_is _ _ _ _) (by omega) fun h6 o6 F6 N6 hd6 => ?_
                    have hle : p.le ((p.addN nu).addA D) := (p.le_addN nu).trans ((p.addN nu).le_addA D)
                    have hD : ((p.addN nu).addA D).as[st.nxt]? = some D := Mp.addA_at (p := p.addN nu) hf.na
                    have hns2 : ((p.addN nu).addA D).ns[st.nn]? = some nu := by
                      have := hf.nn
                      show (p.ns ++ [nu])[st.nn]? = some nu
                      rw [← this]
                      simp
                    have ho6 : ORel prog w ((p.addN nu).addA D) t (.pi (bd + 1) ((.sint st.nn, .obj st.nxt) :: kvs)) [(d, o6)] := by
                      refine ⟨d, o6, _, app_get hle.as hd, rfl, hd6, hns, Nat.le_trans (stored_len _ _ _) (by omega), fun q hq => ?_, fun hz i' u hiu => ?_⟩
                      rcases List.mem_cons.mp hq with rfl | hq
                      · exact ⟨nu, .ref D, hns2, by rw [valueAt_stored, if_pos rfl], ⟨D, hD, rfl⟩⟩
                      · obtain ⟨i', u, e1, e2, e3⟩ := hkv q hq
                        refine ⟨i', u, keyI.le hle e1, ?_, e3.le hle⟩
                        rw [valueAt_stored, if_neg]
                        · exact e2
                        · intro e
                          rw [e, hno] at e2
                          cases e2
                      · have e2 := hxt (by omega) i' u hiu
                        rw [valueAt_stored, if_neg]
                        · exact e2
                        · intro e
                          rw [e, hno] at e2
                          cases e2
                    have hf6 : Fm prog w c m4 h6 { objs := (st.nxt, .tup [.int 0, b]) :: putO st.objs t (.pi (bd + 1) ((.sint st.nn, .obj st.nxt) :: kvs)), nxt := st.nxt + 1, nn := st.nn + 1 } ((p.addN nu).addA D) ([(D, tupOf [.int 0 tz, z2])] ++ (pre ++ ([(d, o6)] ++ post))) := by
                      refine ⟨F6, N6, by simpa using hnd5, .cons ⟨D, _, hD, rfl, .cons ⟨tz, rfl⟩ (.cons (hv2.le hle) .nil)⟩ (hput _ hle _ _ ho6), ?_, ?_⟩
                      · simp [Mp.addA, Mp.addN, hf.na]
                      · simp [Mp.addA, Mp.addN, hf.nn]
                    refine wpAny_execs_cons (wpAny_Return_some (Call_ (globAt_ok (s := ⟨h6, gn, dr, tk8 + 1, os⟩) (by rw [hcs]; exact gr) hC EnvK.fn hf6 fun g hg hg' => ?_)))
                    obtain rfl := hg' _ rfl
                    refine callWith_ok (fv := .prog refC) rfl gk rfl rfl hC hf6 (.inl rfl) ?_
                    refine args_cons (nm F6 w3 rfl rfl _ _ _ fun z3 tk9 hz3 => ?_) rfl
                    subst hz3
                    refine args_cons (ev_int _ _ _ fun z4 tk10 hz4 => args_nil ?_) rfl
                    obtain ⟨t4, rfl⟩ := hz4
                    refine ⟨hC.X.keeps F6.keep, ?_⟩
                    exact R.call (.prog refC) _ rfl [.sint st.nn, .int 0] _ _ kx hr c m4 ⟨h6, gn, dr, tk10, os⟩ _ _ _ _ E hC (.cons ⟨nu, tn, hns2, rfl⟩ (.cons ⟨t4, rfl⟩ .nil)) hf6
                      (fun a' st' u s' p' led' hk hsm hl hu hf' => hR a' st' u m4 s' p' led' hk ((Sm.mk _ h6 tk10).trans hsm) (hle.trans hl) hu hf') (hX.step hle (Sm.mk _ h6 tk10))
                  have loop : ∀ (f : Nat) {nu : Nat} {h4 : Heap} {m4 : Str → Option Value} {tk : Nat} {tn : Tok}, f + nu = bd + 2 → 1 ≤ nu → (∀ i : Nat, 1 ≤ i → i < nu → (valueAt l (i : Int)).isSome = true) → Fr c.h₀ c.L h4 m4 → News c.h₀ c.L h4 (c.X ++ led) → m4 "self" = some (.ref x) → m4 "value" = some v2 → m4 "number" = some (.int nu tn) →
                      WhlRest prog w c.A (fun _ _ => False) c.env (Expr.Compare (Expr.Name "number" ⟨160, 14, 160, 20⟩) [CmpOp.In] [Expr.Attribute (Expr.Name "self" ⟨160, 24, 160, 28⟩) "table" ⟨160, 24, 160, 34⟩] ⟨160, 14, 160, 34⟩)
                        [Stmt.Assign [Expr.Name "number" ⟨161, 12, 161, 18⟩] (Expr.BinOp (Expr.Name "number" ⟨161, 21, 161, 27⟩) Operator.Add (Expr.Constant (Const.int 1) 0 ⟨161, 30, 161, 31⟩) ⟨161, 21, 161, 31⟩) ⟨161, 12, 161, 31⟩] []
                        (fun f s' => match f with | Flow.next => wpAny (model prog w) c.A (execs (abd.drop 2) c.env) Q E s' | f => Q f s') 0 ⟨h4, gn, dr, tk, os⟩ := by
                    intro f
                    induction f with
                    | zero =>
                      intro nu h4 m4 tk tn e1 e2 e3
                      exact absurd (pigeon (l := l) (N := bd + 1) fun i i1 i2 => e3 i i1 (by omega)) (by omega)
                    | succ f ih =>
                      intro nu h4 m4 tk tn e1 e2 e3 F4 N4 w1 w2 w3
                      refine whl_turn (k := 0) PassesOwn.never (wpAny_isTrue_Compare1 (nm F4 w3 rfl rfl _ _ _ fun z tk2 hz => ?_) rfl)
                      subst hz
                      refine tab F4 N4 (fun q hq => hq) w1 _ _ _ fun ov tk3 hov => ?_
                      subst hov
                      refine kda_in (knd := PySem.intKind prog w) (k := (nu : Int)) N4 md hdo hns (intKind_is _ _ _ _) _ rfl (wpAny_truthy_bool ?_)
                      cases hvv : (valueAt l (nu : Int)).isSome with
                      | false =>
                        refine wpAny_execs_nil (hrest F4 N4 w1 w2 w3 ?_)
                        cases q : valueAt l (nu : Int) with
                        | none => rfl
                        | some _ => rw [q] at hvv; cases hvv
                      | true =>
                        refine wpAny_execs_cons (st_name hC F4 N4 (ev_add (nmI F4 w3 rfl rfl) ev_int) (kloc _ rfl) rfl fun v h5 tk5 hv F5 N5 => wpAny_execs_nil ?_)
                        obtain ⟨t5, rfl⟩ := hv
                        refine ih (nu := nu + 1) (by omega) (by omega) (fun i i1 i2 => ?_) F5 N5 ?_ ?_ (if_pos rfl)
                        · by_cases q : i = nu
                          · rw [q]; exact hvv
                          · exact e3 i i1 (by omega)
                        · rw [if_neg (by decide)]; exact w1
                        · rw [if_neg (by decide)]; exact w2
                  refine wpAny_execs_cons (wpAny_mono (E := fun _ _ => False) (whl_start 0 (loop (bd + 1) (nu := 1) (by omega) (by omega) (fun i i1 i2 => by omega) F1 N1 ?_ ?_ (if_pos rfl))) (fun _ _ q => q) (fun _ _ q => q.elim))
                  · rw [if_neg (by decide)]; exact hm1
                  · rw [if_neg (by decide)]; exact hm2
                · cases hr
              · cases hr
            · cases hr
          · cases hr
        · cases hr
      · cases hr
    · cases hr
  · cases hr
end
end PH
end
section
open PySem PySem.W PySem.Calls PyProof.Rows
set_option Elab.async false
set_option maxRecDepth 100000
set_option linter.unusedVariables false
namespace PH
section
variable {prog : Program} {w : World} {PF : Addr} {K : Frag} {pr : Program} {lo : List Str} {mean : ExcName → Option Value} {mg mb : Str → Option Value} {lv : Bool} {r : Rec} {n : Nat} {S : Spc}

structure Stat (K : Frag) (S : Spc) : Prop where
  hb : BindOK K (S.draw :: S.add :: S.heard :: S.fns)
  dr : (fnAt K S.draw).map (fun fd => (fdOk K fd, bodyOf fd, fd.scope, parsOf fd, dfltOf K fd)) = some (true, dbd, dsc, [("pen" : Str), ("many" : Str)], [])
  gi : nsIn K mainGlobals "int" = some none
  gl : nsIn K mainGlobals "len" = some none
  ga : nsIn K mainGlobals "abs" = some none
  ad : (fnAt K S.add).map (fun fd => (fdOk K fd, bodyOf fd, fd.scope, parsOf fd, dfltOf K fd)) = some (true, abd, asc, [("self" : Str), ("value" : Str)], [])
  gr : globAt K asc "Reference" = some (.prog S.refC)
  gk : keepA K (.prog S.refC) = true

theorem EvOK.up {f : Vars → St → KB → KX → Bool} {e : Expr} {sc : Scope} (h : EvOK prog w PF K pr lo mean mg mb lv n f e sc) : EvOK prog w PF K pr lo mean mg mb lv (n + 1) f e sc :=
  fun vars st k kx hr c env m mv s p led Q E hC => h vars st k kx hr c env m mv s p led Q E hC.less
theorem TsOK.up {f : Vars → St → (Bool → St → Bool) → KX → Bool} {e : Expr} {sc : Scope} (h : TsOK prog w PF K pr lo mean mg mb lv n f e sc) : TsOK prog w PF K pr lo mean mg mb lv (n + 1) f e sc :=
  fun vars st k kx hr c env m mv s p led Q E hC => h vars st k kx hr c env m mv s p led Q E hC.less
theorem ExOK.up {f : Vars → St → KS → KB → KX → Bool} {e : List Stmt} {sc : Scope} (h : ExOK prog w PF K pr lo mean mg mb lv n f e sc) : ExOK prog w PF K pr lo mean mg mb lv (n + 1) f e sc :=
  fun vars st kn kr kx hr c m s p led Q E hC => h vars st kn kr kx hr c m s p led Q E hC.less
theorem BlOK.ca {f : ClB} {g : Value} (h : BlOK prog w K pr lo mean mg mb lv n f g) : CaOK prog w PF K pr lo mean mg mb lv n (fun as st k _ => f.run as st k) g :=
  fun as st k kx hr c m s p led vs Q E hC hvs hf hQ hX => h as st k hr c m s p led vs Q E hC hvs hf hQ

/-- a def of two places, by its contract -/
theorem call2_ok {f : Addr} {fx : Vars → St → KS → KB → KX → Bool} {run : List AV → St → KB → KX → Bool} {bd : List Stmt} {sc : Scope} {x y : Str} {fns : List Nat} (HB : BindOK K fns) (hfn : f ∈ fns)
    (hst : (fnAt K f).map (fun fd => (fdOk K fd, bodyOf fd, fd.scope, parsOf fd, dfltOf K fd)) = some (true, bd, sc, [x, y], [])) (HE : ExOK prog w PF K pr lo mean mg mb false n fx bd sc)
    (hrun : ∀ as st k kx, run as st k kx = true → ∃ a b, as = [a, b] ∧ fx [(x, a), (y, b)] st (fun _ _ => false) k kx = true) : CaOK prog w PF K pr lo mean mg mb lv (n + 1) run (.ref f) := by
  intro as st k kx hr c m s p led vs Q E hC hvs hf hQ hX
  obtain ⟨a, b, rfl, hfx⟩ := hrun as st k kx hr
  rw [Option.map_eq_some_iff] at hst
  obtain ⟨fd, hfd, e⟩ := hst
  simp only [Prod.mk.injEq] at e
  obtain ⟨e1, e2, e3, e4, e5⟩ := e
  have hbi : bindsOf K fd [a, b] = some [(x, a), (y, b)] := by
    unfold bindsOf
    rw [e4, e5]
    rfl
  have hd := hC.hd
  have hu := hC.hu
  refine wpAny_call (enter_ex (c := c) (by rw [e2, e3]; exact HE) HB hfn hfd e1 hbi hfx hC.B hC.X hC.T hC.ck hC.fr hC.hh (by omega) (by omega) hvs hf (fun a st' v s' p' led' hk hsm hle hv hf' => ?_) (fun st' s' e hk hsm hx => hX st' s' e hk hsm hx))
  rcases hk rfl with ⟨vars, h1, rfl⟩ | h1
  · cases h1
  · exact hQ a st' v s' p' led' h1 hsm hle hv hf'

theorem progC_ok (HT : ∀ (lv : Bool) (n : Nat) (r : Rec), CaOK prog w PF K pr lo mean mg mb lv n (toldC.run r) (.ref S.told)) (T : Stat K S) (RO : RecOK prog w PF K pr lo mean mg mb false n r) (a : Nat) :
    CaOK prog w PF K pr lo mean mg mb lv (n + 1) ((progC K S a).run r) (.ref a) := by
  intro as st k kx hr
  unfold progC at hr
  split at hr
  · rename_i q
    have q := Nat.eq_of_beq_eq_true q
    subst q
    refine call2_ok T.hb (.head _) T.dr (draw_ok T.gi T.gl T.ga) (fun as st k kx hr => ?_) as st k kx hr
    have hr' := hr
    unfold penDraw at hr
    dsimp only at hr
    split at hr
    · exact ⟨_, _, rfl, hr'⟩
    · cases hr
  · split at hr
    · rename_i q
      have q := Nat.eq_of_beq_eq_true q
      subst q
      refine call2_ok T.hb (.tail _ (.head _)) T.ad (add_ok RO T.gr T.gk) (fun as st k kx hr => ?_) as st k kx hr
      have hr' := hr
      unfold shelfAdd at hr
      dsimp only at hr
      split at hr
      · exact ⟨_, _, rfl, hr'⟩
      · cases hr
    · split at hr
      · rename_i q
        have q := Nat.eq_of_beq_eq_true q
        subst q
        exact HT lv (n + 1) r as st k kx hr
      · have hhas : ∀ {x}, has S.fns x = true → x ∈ S.draw :: S.add :: S.heard :: S.fns := fun {x} hx => by
          unfold has at hx
          obtain ⟨y, hy, e⟩ := List.any_eq_true.mp hx
          rw [← Nat.eq_of_beq_eq_true e]
          exact .tail _ (.tail _ (.tail _ hy))
        split at hr
        · rename_i fd hfd
          split at hr
          · rename_i hb
            obtain ⟨h1, h2⟩ := Bool.and_eq_true_iff.mp hb
            exact defC_ok RO T.hb (hhas h1) hfd h2 as st k kx hr
          · cases hr
        · split at hr
          · rename_i f hf
            split at hr
            · rename_i fd hfd
              split at hr
              · rename_i hb
                obtain ⟨h1, h2⟩ := Bool.and_eq_true_iff.mp hb
                exact newC_ok RO T.hb (hhas h1) hf hfd h2 as st k kx hr
              · cases hr
            · cases hr
          · cases hr

theorem runR_ok (HR : RaiseOK prog w PF K pr lo mean mg mb) (HT : ∀ (lv : Bool) (n : Nat) (r : Rec), CaOK prog w PF K pr lo mean mg mb lv n (toldC.run r) (.ref S.told)) (T : Stat K S) : ∀ n, RecOK prog w PF K pr lo mean mg mb false n (runR K S n)
  | 0 => RecOK.bad prog w PF K pr lo mean mg mb false 0
  | n + 1 => by
    have R := runR_ok HR HT T n
    refine ⟨fun sc e => (evC_ok R sc e).up, fun sc e => (tsC_ok R e).up, fun sc ss => (exsC_ok HR R sc ss).up, fun fv g hg => ?_⟩
    cases fv with
    | prog a => cases hg; exact progC_ok HT T R a
    | bi id => cases hg; exact (bltA_ok id).ca
    | typ id => cases hg; exact (typA_ok id).ca
    | _ => cases hg

theorem runT_ok (HR : RaiseOK prog w PF K pr lo mean mg mb) (HT : ∀ (lv : Bool) (n : Nat) (r : Rec), CaOK prog w PF K pr lo mean mg mb lv n (toldC.run r) (.ref S.told)) (T : Stat K S)
    (HH : ∀ (n : Nat) (r : Rec), RecOK prog w PF K pr lo mean mg mb false n r → CaOK prog w PF K pr lo mean mg mb true (n + 1) ((heardC K S.heard).run r) (.ref S.heard)) : ∀ n, RecOK prog w PF K pr lo mean mg mb true n (runT K S n)
  | 0 => RecOK.bad prog w PF K pr lo mean mg mb true 0
  | n + 1 => by
    have R := runT_ok HR HT T HH n
    have R1 := runR_ok HR HT T n
    refine ⟨fun sc e => (evC_ok R sc e).up, fun sc e => (tsC_ok R e).up, fun sc ss => (exsC_ok HR R sc ss).up, fun fv g hg => ?_⟩
    cases fv with
    | prog a =>
      cases hg
      intro as st k kx hr
      have hr : (topC K S a).run (runR K S n) as st k kx = true := hr
      unfold topC at hr
      split at hr
      · rename_i q
        have q := Nat.eq_of_beq_eq_true q
        subst q
        exact HH n _ R1 as st k kx hr
      · exact progC_ok HT T R1 a as st k kx hr
    | bi id => cases hg; exact (bltA_ok id).ca
    | typ id => cases hg; exact (typA_ok id).ca
    | _ => cases hg
end
end PH
end
section
open PySem PySem.W PySem.Calls PyProof.Rows
set_option Elab.async false
set_option maxRecDepth 100000
set_option maxHeartbeats 4000000
set_option linter.unusedVariables false
namespace PH
section
variable {prog : Program} {w : World} {A : Around} {M : Model} {R : Result → Shared → Prop} {E : Value → Shared → Prop} {h : Heap} {g : Array GenState} {d : Drawn} {t : Nat} {os : OsState} {K : Frag}
variable {nm q : Str} {C N : Addr} {bs bm bmB : List Value} {hdct : Bool} {sn : List Str} {sub : List Value} {ab : Bool} {col : Option Bool} {dd : Option Addr} {k0 k1 k2 k3 k5 : Option Value} {B newId initId : String}

structure BmOK (B : String) (bm : List Value) : Prop where
  hasB : bm.contains (.type B) = true
  hasBase : bm.contains (.type "BaseException") = true
  noAttr : bm.contains (.type "AttributeError") = false
  noName : bm.contains (.type "NameError") = false

theorem xc_check_new (F : ExcBaseFacts B newId initId bmB) (T : BmOK B bm) {rest : List Value} {Q : Unit → Shared → Prop} (hC : h.get? C = some (excClassObj nm q C N bs bm hdct sn sub ab col dd k0 k1 k2 k3 k5 newId))
    (hq : Q () ⟨h, g, d, t, os⟩) : wpAny M A (checkBuiltinCall newId ⟨.ref C :: rest, []⟩) Q E ⟨h, g, d, t, os⟩ := by
  have hcont : (Value.ref C :: bm).contains (.type B) = true := by rw [List.contains_cons, T.hasB, Bool.or_true]
  have hstar := F.noStar
  simp only [checkBuiltinCall, F.newKind, F.newSplit, F.newRow]
  repeat (first | refine wpAny_loadPart_at hC ?_ | (refine wpAny_isSubtype_exc hC ?_; rw [hcont]) | refine wpAny_staticBase_exc hC ?_ | refine wpAny_madeBy_exc hC ?_ | simp only [bne_self_eq_false, Bool.false_eq_true, if_false] | wp_step)
  exact hq

theorem xc_new (F : ExcBaseFacts B newId initId bmB) (T : BmOK B bm) {rest : List Value} (hC : h.get? C = some (excClassObj nm q C N bs bm hdct sn sub ab col dd k0 k1 k2 k3 k5 newId))
    (hq : R (.ok (.ret (.ref (h.objs.size + 1)))) ⟨(h.push { cls := .type "tuple", data := .seq rest.toArray }).push
      { cls := .ref C, data := .fields #[.ref h.objs.size, .none, .none, .none, .bool false, .none] }, g, d, t, os⟩) (hrest : rest.length ≤ sizeLine) :
    codeAny (model prog w) A (.builtin newId ⟨.ref C :: rest, []⟩) R ⟨h, g, d, t, os⟩ := by
  have hends := F.ends
  have hcB : (Value.ref C :: bm).contains (.type B) = true := by rw [List.contains_cons, T.hasB, Bool.or_true]
  have hcA : (Value.ref C :: bm).contains (.type "AttributeError") = false := by rw [List.contains_cons, T.noAttr]; rfl
  have hcN : (Value.ref C :: bm).contains (.type "NameError") = false := by rw [List.contains_cons, T.noName]; rfl
  refine codeAny_builtinAt F.entry ?_
  unfold Builtin.«BaseException.__new__»
  refine PySem.wpAt_bind ?_
  show PySem.wpAt _ _ _ (stack >>= _) _ _ _
  refine PySem.wpAt_bind (PySem.wpAt_stack fun p below => PySem.wpAt_of_wpAny ?_)
  wp_walk
  refine PySem.wpAt_of_wpAny ?_
  rw [F.owner]
  repeat (first | with_reducible refine wpAny_madeHere_exc F.canon hC ?_ | with_reducible refine wpAny_loadPart_at hC ?_ | (with_reducible refine wpAny_isSubtype_exc hC ?_; first | rw [hcB] | rw [hcA] | rw [hcN]) | wp_step)
  show R _ _
  rw [Heap.size_push]
  exact hq

theorem xc_check_init (F : ExcBaseFacts B newId initId bmB) (T : BmOK B bm) {e : Addr} {oe : Obj} {rest : List Value} {Q : Unit → Shared → Prop}
    (hC : h.get? C = some (excClassObj nm q C N bs bm hdct sn sub ab col dd k0 k1 k2 k3 k5 newId)) (he : h.get? e = some oe) (hcls : oe.cls = .ref C) (hq : Q () ⟨h, g, d, t, os⟩) :
    wpAny M A (checkBuiltinCall initId ⟨.ref e :: rest, []⟩) Q E ⟨h, g, d, t, os⟩ := by
  have hcB : (Value.ref C :: bm).contains (.type B) = true := by rw [List.contains_cons, T.hasB, Bool.or_true]
  have hshort := F.noStar
  simp only [checkBuiltinCall, F.initKind, F.initSplit, F.initRow]
  repeat (first | (with_reducible refine wpAny_loadPart_at he ?_; rw [hcls]) | with_reducible refine wpAny_loadPart_at hC ?_ | (with_reducible refine wpAny_isSubtype_exc hC ?_; rw [hcB]) | wp_step)
  refine wpAny_onRaise ?_
  rw [show ∀ (a b : String) (n : Nat), Bind.check ⟨.positional, "*", B, .self, [⟨"args", .varPos, false⟩]⟩ a b n (List.map (fun x => x.fst) ({ pos := Value.ref e :: rest } : Args).kw) = pure () from
    fun a b n => check_star_args _ _ _ _ _ _]
  exact wpAny_pure hq

/-- a call of the base's __init__ on the exception -/
theorem xc_init (F : ExcBaseFacts B newId initId bmB) (T : BmOK B bm) (hpl : plainId initId = true) {e : Addr} {ob : Obj} {vs : Array Value} {t0 : Addr} {rest : List Value} {Q : Value → Shared → Prop}
    (hC : h.get? C = some (excClassObj nm q C N bs bm hdct sn sub ab col dd k0 k1 k2 k3 k5 newId)) (he : h.get? e = some ob) (hcls : ob.cls = .ref C) (hd : ob.data = .fields vs) (h0 : vs[0]? = some (.ref t0))
    (hq : Q .none ⟨(h.push { cls := .type "tuple", data := .seq rest.toArray }).update e (Obj.mapFields (·.setIfInBounds 0 (.ref h.objs.size))), g, d, t, os⟩) (hrest : rest.length ≤ sizeLine) :
    wpAny (model prog w) A (call (.builtin initId) (.ref e :: rest)) Q E ⟨h, g, d, t, os⟩ := by
  refine wpAny_call (codeAny_call_builtin hpl F.initEntry (xc_check_init F T hC he hcls ?_))
  unfold Builtin.«BaseException.__init__»
  dsimp only
  rw [if_neg (by simp)]
  unfold newTuple Builtin.BaseException.bexcPut
  have hsz : 0 < vs.size := (Array.getElem?_eq_some_iff.mp h0).1
  have he₁ := Heap.get?_push_of_some (h := h) { cls := .type "tuple", data := .seq rest.toArray } he
  refine wpAny_bind (wpAny_newObj_type (wpAny_bind (wpAny_bind (wpAny_field he₁ hd h0 (wpAny_bind (wpAny_setField he₁ hd hsz ?_))))) (by show rest.toArray.size ≤ sizeLine; rw [List.size_toArray]; exact hrest))
  exact wpAny_letGo (wpAny_pure hq)

theorem xc_type_call (F : ExcBaseFacts B newId initId bmB) (T : BmOK B bm) (X : K.In h) {rest : List Value} {fI : Addr} {oI : Obj} {Q : Fin → Shared → Prop}
    (hC : h.get? C = some (excClassObj nm q C N bs bm hdct sn sub ab col dd k0 k1 k2 k3 k5 newId)) (hi : findIn K (.ref C) "__init__" = some (some (.ref fI)))
    (hfI : h.get? fI = some oI) (hfc : oI.cls = .type "function")
    (hq : ∀ h' e, Heap.MadeExcOf h h' e (.ref C) rest →
      wpAny (model prog w) A (call (.ref fI) (.ref e :: rest)) (fun r s' => r = .none ∧ Q (.done (.ret (.ref e))) s') E ⟨h', g, d, t, os⟩) (hrest : rest.length ≤ sizeLine) :
    wpAny (model prog w) A (Builtin.«type.__call__» ⟨.ref C :: rest, []⟩) Q E ⟨h, g, d, t, os⟩ := by
  repeat (first | with_reducible refine wpAny_loadPart_at hC ?_ | with_reducible refine wpAny_madeBy_exc hC ?_ | wp_step)
  refine codeAny_call_builtin_code (Code.quiet_builtin _ F.quiet) (xc_check_new F T hC ?_)
  refine xc_new F T hC ?_ hrest
  show wpAny _ _ _ _ _ _
  have hC₁ := Heap.get?_push_of_some { cls := .ref C, data := .fields #[.ref h.objs.size, .none, .none, .none, .bool false, .none] }
    (Heap.get?_push_of_some { cls := .type "tuple", data := .seq rest.toArray } hC)
  have hfI₁ := Heap.get?_push_of_some { cls := .ref C, data := .fields #[.ref h.objs.size, .none, .none, .none, .bool false, .none] }
    (Heap.get?_push_of_some { cls := .type "tuple", data := .seq rest.toArray } hfI)
  have X₁ : K.In ((h.push { cls := .type "tuple", data := .seq rest.toArray }).push { cls := .ref C, data := .fields #[.ref h.objs.size, .none, .none, .none, .bool false, .none] }) :=
    X.keeps fun b o e => Heap.get?_push_of_some _ (Heap.get?_push_of_some _ e)
  have hget : ((h.push { cls := .type "tuple", data := .seq rest.toArray }).push
      { cls := .ref C, data := .fields #[.ref h.objs.size, .none, .none, .none, .bool false, .none] }).get? (h.objs.size + 1) = some
      { cls := .ref C, data := .fields #[.ref h.objs.size, .none, .none, .none, .bool false, .none] } := by heap_get
  have hcC : (Value.ref C :: bm).contains (.ref C) = true := by simp
  unfold isInstance
  repeat (first | with_reducible refine wpAny_loadPart_at hget ?_ | (with_reducible refine wpAny_isSubtype_exc hC₁ ?_; rw [hcC]) | wp_step)
  show wpAny _ _ (typeLookup (.ref C) _) _ _ _
  refine (looks_findIn X₁ hi).here ?_
  refine wpAny_holding (wpAny_bind ?_)
  unfold bindSpecial
  refine wpAny_bind (wpAny_typeOf (T := "function") ⟨_, hfI₁, hfc⟩ ?_)
  rw [if_pos (by decide)]
  refine wpAny_pure (wpAny_bind (wpAny_mono (hq _ (h.objs.size + 1) ⟨fun b o hb => Heap.get?_push_of_some _ (Heap.get?_push_of_some _ hb), Heap.get?_none_of_le (Nat.le_succ _), h.objs.size, hget, Heap.get?_none_of_le (Nat.le_refl _), ?_⟩) (fun r s' hr => ?_) fun _ _ x => x))
  · exact Heap.get?_push_of_some _ (Heap.get?_push_at rfl rfl)
  · obtain ⟨rfl, hQ⟩ := hr
    wp_walk
    exact hQ

theorem xc_call (F : ExcBaseFacts B newId initId bmB) (T : BmOK B bm) (X : K.In h) {rest : List Value} {fI : Addr} {oI : Obj} {Q : Value → Shared → Prop}
    (hC : h.get? C = some (excClassObj nm q C N bs bm hdct sn sub ab col dd k0 k1 k2 k3 k5 newId)) (hi : findIn K (.ref C) "__init__" = some (some (.ref fI)))
    (hfI : h.get? fI = some oI) (hfc : oI.cls = .type "function")
    (hq : ∀ h' e, Heap.MadeExcOf h h' e (.ref C) rest →
      wpAny (model prog w) (A.under (.builtin "type.__call__" ⟨.ref C :: rest, []⟩)) (call (.ref fI) (.ref e :: rest)) (fun r s' => r = .none ∧ Q (.ref e) s') E ⟨h', g, d, t, os⟩) (hrest : rest.length ≤ sizeLine) :
    wpAny (model prog w) A (call (.ref C) rest) Q E ⟨h, g, d, t, os⟩ := by
  have f1 := tc_lookup
  have f2 := tc_bind (.ref C)
  have hT : (⟨h, g, d, t, os⟩ : Shared).TypeIs (.ref C) "type" := ⟨_, hC, rfl⟩
  refine wpAny_call (codeAny_of_tree ?_)
  show wpAny _ _ (callAny (.ref C) _) _ _ _
  repeat (any_goals (first | assumption | with_reducible refine wpAny_loadPart_at hC ?_ | wp_step))
  refine ⟨rfl, ?_⟩
  refine codeAny_call_builtin_at (Code.quiet_builtin _ (by decide +kernel)) entry_typeCall (wpAny_check_type_call_sub hC (xc_type_call (hrest := hrest) F T X hC hi hfI hfc fun h' e hm => ?_))
  exact hq h' e hm

/-- raise x, where x is made: whatever its dict -/
theorem xc_raise {env : Env} {s : Shared} {x : Sem Value} {Q : Flow → Shared → Prop} (hbase : bm.contains (.type "BaseException") = true) (hh : A.handled = none)
    (hx : wpAny M A x (fun v s₁ => ∃ e t od sl, v = .ref e ∧ s₁.heap.get? C = some (excClassObj nm q C N bs bm hdct sn sub ab col dd k0 k1 k2 k3 k5 newId) ∧
      s₁.heap.get? e = some { cls := .ref C, dict := od, data := .fields #[.ref t, .none, .none, .none, .bool false, .none], slots := sl } ∧ E (.ref e) s₁) E s) :
    wpAny M A (raiseStmt env (some x) none) Q E s := by
  have hcB : (Value.ref C :: bm).contains (.type "BaseException") = true := by rw [List.contains_cons, hbase, Bool.or_true]
  unfold raiseStmt
  refine wpAny_bind (wpAny_mono hx (fun v s₁ h₁ => ?_) fun _ _ x => x)
  obtain ⟨e, t, od, sl, rfl, hC, he, hE⟩ := h₁
  obtain ⟨hp, g, d, tk, os⟩ := s₁
  repeat (first | with_reducible refine wpAny_loadPart_at he ?_ | with_reducible refine wpAny_loadPart_at hC ?_ | (with_reducible refine wpAny_isSubtype_exc hC ?_; rw [hcB]) | wp_step)
  exact wpAny_raiseNew_none hh hE
end
end PH
end
section
open PySem PySem.W PySem.Calls PyProof.Rows
set_option Elab.async false
set_option maxRecDepth 100000
set_option maxHeartbeats 4000000
set_option linter.unusedVariables false
namespace PH
section
variable {prog : Program} {w : World} {A : Around} {E : Value → Shared → Prop} {h : Heap} {g : Array GenState} {d : Drawn} {t : Nat} {os : OsState} {K : PySem.W.Frag}
variable {nm q : Str} {C N x : Addr} {bs bm : List Value} {sn : List Str} {sub : List Value} {ab : Bool} {col : Option Bool} {dd : Option Addr} {k0 k1 k2 k3 k5 : Option Value} {newId : String}
  {mA : Str → Option Value} {name : Str} {v : Value}

/-- what a store leaves: the object, its dict, and all else -/
structure XcStored (h h' : Heap) (x C : Addr) (mB : Str → Option Value) : Prop where
  inst : h'.Inst x C mB
  other : ∀ b o, b ≠ x → (∀ o₀ dx, h.get? x = some o₀ → o₀.dict = some dx → b ≠ dx) → h.get? b = some o → h'.get? b = some o
  obj : ∀ o₀, h.get? x = some o₀ → ∃ o₁ D, h'.get? x = some o₁ ∧ o₁.cls = o₀.cls ∧ o₁.data = o₀.data ∧ o₁.slots = o₀.slots ∧ o₁.dict = some D ∧ (o₀.dict = some D ∨ h.get? D = none)

theorem xc_store_entry {tk : Tok} {Q : Fin → Shared → Prop} {ns : List Str} (hpass : refuseLoop (.ref x) "__setattr__" (.ref C :: bm) = pure ()) (X : PySem.W.Frag.In K h)
    (hC : h.get? C = some (excClassObj nm q C N bs bm true sn sub ab col dd k0 k1 k2 k3 k5 newId)) (hna : PySem.W.findIn K (.ref C) name = some none) (I : h.Inst x C mA)
    (hq : ∀ h' tk', XcStored h h' x C (fun y => if y = name then some v else mA y) → Q (.done (.ret .none)) ⟨h', g, d, tk', os⟩) (hw : Within mA ns) (hsz : ns.length ≤ 1000) :
    wpAny (model prog w) A (Builtin.«object.__setattr__» ⟨[.ref x, .str name tk, v], []⟩) Q E ⟨h, g, d, t, os⟩ := by
  obtain ⟨o, hx, hc, hnc, hd⟩ := I
  have hz : sizeLine = 2 ^ 24 := rfl
  unfold Builtin.«object.__setattr__»
  repeat (first | rw [refuse_eq] | rw [hpass] | (with_reducible refine wpAny_loadPart_at hx ?_; rw [hc]) | with_reducible refine wpAny_mroOf_exc hC ?_ | (with_reducible refine (PySem.W.looks_findIn X hna).here ?_) | wp_step)
  rcases hd with ⟨hdn, hmA⟩ | ⟨dx, hdx, hne, hns⟩
  ·
    rw [hdn, if_neg (by simp [typeHasDict])]
    split
    · rename_i hcd
      cases hcd
    split
    · rename_i c hcd
      exact absurd hcd (hnc c)
    · have hx₁ : (h.push { cls := .type "dict", data := .dict #[] }).get? x = some o := Heap.get?_push_of_some _ hx
      have hxs : x ≠ h.objs.size := Nat.ne_of_lt (Heap.lt_size hx)
      refine wpAny_bind (wpAny_alloc' ?_)
      refine wpAny_bind (wpAny_update' hx₁ ?_)
      refine wpAny_pure ?_
      have hgd : ((h.push { cls := .type "dict", data := .dict #[] }).update x fun o => { cls := o.cls, dict := some h.objs.size, data := o.data, slots := o.slots }).get? h.objs.size
          = some { cls := .type "dict", data := .dict #[] } :=
        (Heap.get?_update_ne _ _ _ _ hxs.symm).trans (Heap.get?_push_at rfl rfl)
      have hnd : ((h.push { cls := .type "dict", data := .dict #[] }).update x fun o => { cls := o.cls, dict := some h.objs.size, data := o.data, slots := o.slots }).Ns h.objs.size (fun _ => none) :=
        ⟨_, #[], _, hgd, rfl, fun e he => absurd he (by simp), fun _ => rfl⟩
      show wpAny _ _ (Builtin.ObjectAttr.storeInDict h.objs.size (.str name tk) name v) _ _ _
      unfold Builtin.ObjectAttr.storeInDict Builtin.ObjectAttr.newKeyGuard
      refine wpAny_bind (wpAny_pure (wpAny_bind (wpAny_nsSet1 (Heap.Ns1.of_empty hnd) fun h' hn' hs => ?_)))
      obtain ⟨oD, esD, epD, hoD, hdD, hcD⟩ := hn'.count (Within.cons name v Within.nil)
      refine wpAny_bind (wpAny_lookBehind hoD (by rw [hdD]; exact pastItsLine_dict (Nat.le_trans hcD (by rw [List.length_cons, List.length_nil, hz]; omega))) ?_)
      wp_walk
      have hx' : h'.get? x = some { cls := o.cls, dict := some h.objs.size, data := o.data, slots := o.slots } := ?_
      refine hq h' _ ⟨⟨{ cls := o.cls, dict := some h.objs.size, data := o.data, slots := o.slots }, hx', hc, hnc, .inr ⟨h.objs.size, rfl, hxs.symm, ?_⟩⟩, (fun b ob hbx _ hb => ?_),
        (fun o₀ h₀ => by obtain rfl : o = o₀ := Option.some.inj (hx.symm.trans h₀); exact ⟨_, _, hx', rfl, rfl, rfl, rfl, .inr (Heap.get?_none_of_le (Nat.le_refl _))⟩)⟩
      · obtain ⟨o', es, ep, e1, e2, e3, eu, e4⟩ := hn'
        exact ⟨o', es, ep, e1, e2, e3, eu, fun y => by rw [e4 y]; by_cases hy : y = name <;> simp [hy, hmA]⟩
      · exact (hs.2 b (Nat.ne_of_lt (Heap.lt_size hb))).trans ((Heap.get?_update_ne _ _ _ _ hbx).trans (Heap.get?_push_of_some _ hb))
      · refine (hs.2 x hxs).trans (Heap.get?_update_self _ hx₁ ?_)
        have hfr := (Heap.get?_some_iff.mp hx).2
        obtain ⟨oc, od, odt, osl⟩ := o
        cases odt <;> first | rfl | exact hfr
  ·
    rw [hdx]
    refine wpAny_pure ?_
    show wpAny _ _ (Builtin.ObjectAttr.storeInDict dx (.str name tk) name v) _ _ _
    unfold Builtin.ObjectAttr.storeInDict Builtin.ObjectAttr.newKeyGuard
    refine wpAny_bind (wpAny_pure (wpAny_bind (wpAny_nsSet1 hns fun h' hn' hs => ?_)))
    obtain ⟨oD, esD, epD, hoD, hdD, hcD⟩ := hn'.count (Within.cons name v hw)
    refine wpAny_bind (wpAny_lookBehind hoD (by rw [hdD]; exact pastItsLine_dict (Nat.le_trans hcD (by rw [List.length_cons, hz]; omega))) ?_)
    wp_walk
    refine hq h' _ ⟨⟨o, (hs.2 x hne.symm).trans hx, hc, hnc, .inr ⟨dx, hdx, hne, hn'⟩⟩, (fun b ob _ hbd hb => ?_),
      (fun o₀ h₀ => by obtain rfl : o = o₀ := Option.some.inj (hx.symm.trans h₀); exact ⟨o, dx, (hs.2 x hne.symm).trans h₀, rfl, rfl, rfl, hdx, .inl hdx⟩)⟩
    exact (hs.2 b (hbd o dx hx hdx)).trans hb

theorem xc_check_sa {M : Model} {o : Obj} {nameV : Value} {Q : Unit → Shared → Prop} (hcB : (Value.ref C :: bm).contains (.type "object") = true)
    (hC : h.get? C = some (excClassObj nm q C N bs bm true sn sub ab col dd k0 k1 k2 k3 k5 newId)) (hx : h.get? x = some o) (hc : o.cls = .ref C) (hq : Q () ⟨h, g, d, t, os⟩) :
    wpAny M A (checkBuiltinCall "object.__setattr__" ⟨[.ref x, nameV, v], []⟩) Q E ⟨h, g, d, t, os⟩ := by
  have SF := PySem.F.store_object
  have ha := SF.args (.ref x) nameV v
  simp only [checkBuiltinCall, SF.kind, SF.split]
  refine wpAny_bind ?_
  · unfold isInstance
    repeat (first | (with_reducible refine wpAny_loadPart_at hx ?_; rw [hc]) | (with_reducible refine wpAny_isSubtype_exc hC ?_; rw [hcB]) | wp_step)
    exact hq

theorem xc_store_attr {Q : Unit → Shared → Prop} {ns : List Str} (hcB : (Value.ref C :: bm).contains (.type "object") = true) (hpass : refuseLoop (.ref x) "__setattr__" (.ref C :: bm) = pure ()) (X : PySem.W.Frag.In K h)
    (hC : h.get? C = some (excClassObj nm q C N bs bm true sn sub ab col dd k0 k1 k2 k3 k5 newId)) (hsa : PySem.W.findIn K (.ref C) "__setattr__" = some (some (.builtin "object.__setattr__"))) (hna : PySem.W.findIn K (.ref C) name = some none) (I : h.Inst x C mA)
    (hq : ∀ h' tk', XcStored h h' x C (fun y => if y = name then some v else mA y) → Q () ⟨h', g, d, tk', os⟩) (hw : Within mA ns) (hsz : ns.length ≤ 1000) :
    wpAny (model prog w) A (setAttr (.ref x) name v) Q E ⟨h, g, d, t, os⟩ := by
  obtain ⟨o, hx, hc, _⟩ := id I
  have SF := PySem.F.store_object
  have f3 := SF.slot.bind (.ref x)
  unfold setAttr callSpecial? specialOf
  repeat (any_goals (first | assumption | (with_reducible refine wpAny_loadPart_at hx ?_; rw [hc]) | (with_reducible refine (PySem.W.looks_findIn X hsa).here ?_) | wp_step))
  refine codeAny_call_builtin SF.slot.plain SF.entry (xc_check_sa hcB hC hx hc (xc_store_entry hpass X hC hna I (fun h' tk' hst => ?_) hw hsz))
  repeat (any_goals (first | assumption | wp_step))
  exact hq h' tk' hst
end
end PH
end
section
open PySem PySem.W PySem.Calls PyProof.Rows
set_option Elab.async false
set_option maxRecDepth 100000
set_option maxHeartbeats 4000000
set_option linter.unusedVariables false
namespace PH
noncomputable abbrev isc : Scope := { kind := PySem.ScopeKind.function, names := [((PySem.Str.ofString "self"), PySem.NameKind.local), ((PySem.Str.ofString "what"), PySem.NameKind.local), ((PySem.Str.ofString "at"), PySem.NameKind.local), ((PySem.Str.ofString "Exception"), PySem.NameKind.globalImplicit)], isGenerator := false, isCoroutine := false, more := [] }
noncomputable abbrev ibd : List Stmt := [(PySem.Stmt.Expr (PySem.Expr.Call (PySem.Expr.Attribute (PySem.Expr.Name (PySem.Str.ofString "Exception") ⟨8, 8, 8, 17⟩) (PySem.Str.ofString "__init__") ⟨8, 8, 8, 26⟩) [(PySem.Expr.Name (PySem.Str.ofString "self") ⟨8, 27, 8, 31⟩), (PySem.Expr.Name (PySem.Str.ofString "what") ⟨8, 33, 8, 37⟩)] [] ⟨8, 8, 8, 38⟩) ⟨8, 8, 8, 38⟩), (PySem.Stmt.Assign [(PySem.Expr.Attribute (PySem.Expr.Name (PySem.Str.ofString "self") ⟨9, 8, 9, 12⟩) (PySem.Str.ofString "what") ⟨9, 8, 9, 17⟩)] (PySem.Expr.Name (PySem.Str.ofString "what") ⟨9, 20, 9, 24⟩) ⟨9, 8, 9, 24⟩), (PySem.Stmt.Assign [(PySem.Expr.Attribute (PySem.Expr.Name (PySem.Str.ofString "self") ⟨10, 8, 10, 12⟩) (PySem.Str.ofString "at") ⟨10, 8, 10, 15⟩)] (PySem.Expr.Name (PySem.Str.ofString "at") ⟨10, 18, 10, 20⟩) ⟨10, 8, 10, 20⟩)]

section
variable {prog : Program} {w : World} {PF : Addr} {K : Frag} {pr : Program} {lo : List Str} {mean : ExcName → Option Value} {mg mb : Str → Option Value} {lv : Bool} {r : Rec}
variable {c : Cx} {p : Mp} {st : St} {m : Str → Option Value} {h : Heap} {n : Nat} {gn : Array GenState} {dr : Drawn} {os : OsState} {led : List (Addr × Obj)}

structure XStat (K : Frag) (PF PE fI : Addr) (fns : List Nat) : Prop where
  cls : ∃ nm q N bs sn sub ab col dd k0 k1 k2 k3 k5, K.lookup PF = some (excClassObj nm q PF N bs [.ref PE, .type "Exception", .type "BaseException", .type "object"] true sn sub ab col dd k0 k1 k2 k3 k5 "Exception.__new__")
  initIn : findIn K (.ref PF) "__init__" = some (some (.ref fI))
  init : (fnAt K fI).map (fun fd => (fdOk K fd, bodyOf fd, fd.scope, parsOf fd, (dfltVs K fd).length)) = some (true, ibd, isc, [("self" : Str), ("what" : Str), ("at" : Str)], 1)
  icls : (K.lookup fI).map (·.cls) = some (.type "function")
  setattr : findIn K (.ref PF) "__setattr__" = some (some (.builtin "object.__setattr__"))
  w1 : findIn K (.ref PF) "what" = some none
  w2 : findIn K (.ref PF) "at" = some none
  ex : nsIn K mainGlobals "Exception" = some none
  ec : findCls K (.type "Exception") (.type "type") "__init__" = some (.val (.builtin "Exception.__init__"))
  own : nsIn K mainGlobals "PaintFault" = some (some (.ref PF))
  keep : keepA K (.prog PF) = true
  hb : BindOK K fns
  mem : fI ∈ fns

theorem xbm_ok (PE : Addr) : BmOK "Exception" [.ref PE, .type "Exception", .type "BaseException", .type "object"] := ⟨rfl, rfl, rfl, rfl⟩
theorem xpass (x PF PE : Addr) : refuseLoop (.ref x) "__setattr__" (.ref PF :: [.ref PE, .type "Exception", .type "BaseException", .type "object"]) = pure () := by
  rw [refuseLoop_ref, refuseLoop_ref]
  exact PySem.F.store_Exception.passes _

/-- the state within the __init__: all but the exception as it was -/
structure XcSt (hb h : Heap) (e C : Addr) (k : Nat) : Prop where
  keep : ∀ b o, hb.get? b = some o → h.get? b = some o
  obj : ∃ ob t, h.get? e = some ob ∧ ob.cls = .ref C ∧ ob.data = .fields #[.ref t, .none, .none, .none, .bool false, .none]
  inst : ∃ mA ns, h.Inst e C mA ∧ Within mA ns ∧ ns.length ≤ k
  dict : ∀ ob D, h.get? e = some ob → ob.dict = some D → hb.get? D = none

theorem XcSt.store {hb h h' : Heap} {e C : Addr} {k : Nat} (S : XcSt hb h e C k) (he : hb.get? e = none) {name : Str} {v : Value} {mA : Str → Option Value} {ns : List Str} (hw : Within mA ns) (hk : ns.length ≤ k) (T : XcStored h h' e C (fun y => if y = name then some v else mA y)) : XcSt hb h' e C (k + 1) := by
  obtain ⟨s1, ⟨ob, t, s2, s3, s4⟩, s5, s6⟩ := S
  obtain ⟨t1, t2, t3⟩ := T
  obtain ⟨o₁, D, u1, u2, u3, u4, u5, u6⟩ := t3 ob s2
  refine ⟨fun b o hbo => t2 b o (fun q => by rw [q, he] at hbo; cases hbo) (fun o₀ dx q1 q2 q3 => ?_) (s1 b o hbo), ⟨o₁, t, u1, u2.trans s3, u3.trans s4⟩, ⟨_, name :: ns, t1, Within.cons name v hw, by rw [List.length_cons]; omega⟩, fun ob' D' v1 v2 => ?_⟩
  · have := s6 o₀ dx q1 q2
    rw [← q3, hbo] at this
    cases this
  · rw [u1] at v1
    cases v1
    rw [u5] at v2
    cases v2
    rcases u6 with u6 | u6
    · exact s6 ob D s2 u6
    · cases q : hb.get? D with
      | none => rfl
      | some o => have := s1 D o q; rw [u6] at this; cases this

theorem xc_assign {hb : Heap} {e C PE fI : Addr} {fns : List Nat} {k : Nat} {name x : Str} {xp ap sp pos : Pos} {v : Value} {tk : Nat} {Q : Flow → Shared → Prop} {E : Value → Shared → Prop} (XS : XStat K C PE fI fns) (X : K.In h) (hna : findIn K (.ref C) name = some none) (S : XcSt hb h e C k) (hk : k ≤ 900) (he : hb.get? e = none)
    (hs : EvV prog w c gn dr os h (.Name "self" sp) (fun u => u = .ref e)) (hx : EvV prog w c gn dr os h (.Name x xp) (fun u => u = v)) (hQ : ∀ h' tk', XcSt hb h' e C (k + 1) → Q .next ⟨h', gn, dr, tk', os⟩) :
    wpAny (model prog w) c.A (exec (.Assign [.Attribute (.Name "self" sp) name ap] (.Name x xp) pos) c.env) Q E ⟨h, gn, dr, tk, os⟩ := by
  obtain ⟨nm, q, N, bs, sn, sub, ab, col, dd, k0, k1, k2, k3, k5, hC⟩ := XS.cls
  refine plainObj_wpAny_Assign_Attribute (hx _ _ _ fun u tk1 hu => ?_) (swaps_none rfl _ _ _)
  subst hu
  refine hs _ _ _ fun u2 tk2 hu2 => ?_
  subst hu2
  obtain ⟨mA, ns, i1, i2, i3⟩ := S.inst
  exact xc_store_attr (K := K) rfl (xpass e C PE) X (X _ _ hC) XS.setattr hna i1 (fun h' tk' T => hQ h' tk' (S.store he i2 i3 T)) i2 (by omega)

theorem xc_body {PE fI : Addr} {fns : List Nat} (XS : XStat K PF PE fI fns) {ea ta : Addr} {hb h₁ : Heap} {mL : Str → Option Value} {v2 v3 : Value} {tk : Nat} {Q : Flow → Shared → Prop} {E : Value → Shared → Prop} (Xg : K.In c.h₀) (hT : Top pr lo mean mg mb c.h₀) (hcs : c.cs = isc)
    (Fb : Fr c.h₀ c.L hb mL) (heb : hb.get? ea = none) (q1 : mL "self" = some (.ref ea)) (q2 : mL "what" = some v2) (q3 : mL "at" = some v3) (hkb : ∀ b o, hb.get? b = some o → h₁.get? b = some o)
    (hea : h₁.get? ea = some { cls := .ref PF, data := .fields #[.ref ta, .none, .none, .none, .bool false, .none] }) (hQ : ∀ h' tk', XcSt hb h' ea PF 2 → Q .next ⟨h', gn, dr, tk', os⟩) :
    wpAny (model prog w) c.A (execs ibd c.env) Q E ⟨h₁, gn, dr, tk, os⟩ := by
  have hck : c.cs.kind = .function := by rw [hcs]
  have kl : ∀ x, isc.names.lookup x = some .local → kindA c.cs x = some .local := fun x hx => by rw [hcs]; exact hx
  have nm : ∀ {x : Str} {v : Value} {pos : Pos} {h' : Heap}, (∀ b o, hb.get? b = some o → h'.get? b = some o) → mL x = some v → isc.names.lookup x = some .local → (x == ("__debug__" : Str)) = false → EvV prog w c gn dr os h' (.Name x pos) (fun u => u = v) :=
    fun hk hm hl hd tk Q E hQ => nameX_L (cl := []) (s := ⟨_, gn, dr, tk, os⟩) (Fb.keeps hk) hm (hQ _ tk rfl) hck (kl _ hl) hd
  obtain ⟨nmC, q, N, bs, sn, sub, ab, col, dd, k0, k1, k2, k3, k5, hCl⟩ := XS.cls
  have hX : ∀ {h' : Heap}, (∀ b o, hb.get? b = some o → h'.get? b = some o) → K.In h' := fun hk => Xg.keeps (Fb.keeps hk).keep
  refine wpAny_execs_cons (wpAny_Expr_any (MethodCall_ (nameX_B (cl := []) (s := ⟨h₁, gn, dr, tk, os⟩) (Fb.keeps hkb) Xg (topRead_of hT) XS.ex (v := .type "Exception") rfl (by decide) ?_ hck (show kindA c.cs "Exception" = some .globalImplicit by rw [hcs]; rfl) rfl) (methodCall_eq rfl rfl rfl rfl)) ?_ (swaps_none rfl _ _ _))
  · refine method_type (Fb.keeps hkb) Xg (by first | rfl | kernel_rfl) (by decide +kernel) XS.ec (by decide +kernel) ?_
    refine callWith_method1 (first := []) (args_cons (nm hkb q1 rfl rfl _ _ _ fun u tk2 hu => ?_) rfl) rfl rfl
    subst hu
    refine args_cons (nm hkb q2 rfl rfl _ _ _ fun u tk3 hu => args_nil ?_) rfl
    subst hu
    refine xc_init PySem.F.excBase_Exception (xbm_ok PE) (by decide +kernel) (hX hkb _ _ hCl) hea rfl rfl rfl ?_ (by rw [List.length_cons]; exact Nat.le_of_ble_eq_true rfl)
    have hlt : ea < h₁.objs.size := Heap.lt_size hea
    have S1 : XcSt hb ((h₁.push { cls := .type "tuple", data := .seq [u].toArray }).update ea (Obj.mapFields (·.setIfInBounds 0 (.ref h₁.objs.size)))) ea PF 0 := by
      have ho := Heap.get?_update_self (Obj.mapFields (·.setIfInBounds 0 (.ref h₁.objs.size))) (Heap.get?_push_of_some { cls := .type "tuple", data := .seq [u].toArray } hea) rfl
      refine ⟨fun b o hbo => ?_, ⟨_, h₁.objs.size, ho, rfl, rfl⟩, ⟨fun _ => none, [], ⟨_, ho, rfl, (fun c q => by cases q), .inl ⟨rfl, fun _ => rfl⟩⟩, Within.nil, Nat.le_refl _⟩, fun ob D e1 e2 => ?_⟩
      · have : b ≠ ea := fun q => by rw [q, heb] at hbo; cases hbo
        exact (Heap.get?_update_ne _ _ _ _ this).trans (Heap.get?_push_of_some _ (hkb b o hbo))
      · rw [ho] at e1
        cases e1
        cases e2
    generalize (h₁.push { cls := .type "tuple", data := .seq [u].toArray }).update ea (Obj.mapFields (·.setIfInBounds 0 (.ref h₁.objs.size))) = h1 at S1 ⊢
    show wpAny (model prog w) c.A (execs (ibd.drop 1) c.env) Q E _
    have X1 := hX S1.keep
    have n1 : ∀ {pos : Pos}, EvV prog w c gn dr os h1 (.Name "self" pos) (fun u => u = .ref ea) := nm S1.keep q1 rfl rfl
    have n2 : ∀ {pos : Pos}, EvV prog w c gn dr os h1 (.Name "what" pos) (fun z => z = u) := nm S1.keep q2 rfl rfl
    refine wpAny_execs_cons ?_
    refine xc_assign XS X1 XS.w1 S1 (Nat.zero_le _) heb n1 n2 ?_
    intro h2 tk4 S2
    show wpAny (model prog w) c.A (execs (ibd.drop 2) c.env) Q E _
    have X2 := hX S2.keep
    have n3 : ∀ {pos : Pos}, EvV prog w c gn dr os h2 (.Name "self" pos) (fun u => u = .ref ea) := nm S2.keep q1 rfl rfl
    have n4 : ∀ {pos : Pos}, EvV prog w c gn dr os h2 (.Name "at" pos) (fun z => z = v3) := nm S2.keep q3 rfl rfl
    refine wpAny_execs_cons ?_
    refine xc_assign XS X2 XS.w2 S2 (Nat.le_of_ble_eq_true rfl) heb n3 n4 ?_
    intro h3 tk5 S3
    exact wpAny_execs_nil (hQ h3 tk5 S3)
  · show (c.cs.kind == ScopeKind.module && _) = false
    rw [hck]
    rfl

theorem raise_ok {PE fI : Addr} {fns : List Nat} (XS : XStat K PF PE fI fns) : RaiseOK prog w PF K pr lo mean mg mb := by
  rintro lv n r R sc x e np cp pos vars st kn kr kx hr c m s p led Q E hC hcs hV hf hN hR hX
  subst hcs
  unfold raiseC at hr
  split at hr
  · rename_i hg
    split at hr
    · rename_i hs
      have hown : globOf K "PaintFault" = some (.prog PF) := by
        unfold globOf
        rw [XS.own]
        rfl
      rw [hown] at hg
      obtain ⟨nm, q, N, bs, sn, sub, ab, col, dd, k0, k1, k2, k3, k5, hCl⟩ := XS.cls
      dsimp only at hr
      rw [arm_exec_Raise]
      refine wpAny_bind (wpAny_standAt (xc_raise (C := PF) (nm := nm) (q := q) (N := N) (bs := bs) (hdct := true) (sn := sn) (sub := sub) (ab := ab) (col := col) (dd := dd) (k0 := k0) (k1 := k1) (k2 := k2) (k3 := k3) (k5 := k5) (newId := "Exception.__new__") (xbm_ok PE).hasBase hC.hh ?_))
      refine wpAny_bind (wpAny_mono (Call_ (globAt_ok hg hC EnvK.fn hf fun v hv hg' => ?_)) (fun v s₃ h₃ => wpAny_bind (wpAny_standAt (wpAny_pure h₃))) fun _ _ x => x)
      obtain rfl := hg' _ rfl
      refine callWith_ok (fv := .prog PF) rfl XS.keep hs rfl hC hf (.inl rfl) ?_
      obtain ⟨e1, e2⟩ := star_cons hs c.env
      refine args_cons (R.ev c.cs e vars st _ kx hr c _ m m s p led _ E hC EnvK.fn hV hf (fun a st1 u s1 p1 led1 hk1 hsm1 hl1 hu hf1 => ?_) hX) e1
      dsimp only at hk1
      split at hk1
      · rename_i xs
        obtain ⟨tu, rfl⟩ := hu
        obtain ⟨h1, gn, dr, tk, os⟩ := s1
        have X1 : K.In h1 := hC.X.keeps hf1.F.keep
        refine args_nil ⟨X1, ?_⟩
        have hst := XS.init
        rw [Option.map_eq_some_iff] at hst
        obtain ⟨fd, hfd, e5⟩ := hst
        simp only [Prod.mk.injEq] at e5
        obtain ⟨f1, f2, f3, f4, f5⟩ := e5
        have hic := XS.icls
        rw [Option.map_eq_some_iff] at hic
        obtain ⟨oI, hoI, hoc⟩ := hic
        refine xc_call (K := K) PySem.F.excBase_Exception (xbm_ok PE) X1 (X1 _ _ hCl) XS.initIn (X1 _ _ hoI) hoc (fun h2 ea hm => ?_) (by rw [List.nil_append, List.length_cons]; decide)
        obtain ⟨ta, g1, g2, g3⟩ := hm.there
        have F2 : Fr c.h₀ c.L h2 m := hf1.F.keeps hm.keeps
        have neOf : ∀ b o, h1.get? b = some o → b ≠ ea := fun b o hb q => by rw [q, hm.new] at hb; cases hb
        have heL : ea ≠ c.L := by
          obtain ⟨o, es, ep, ho, _⟩ := hf1.F.ns
          exact fun q => neOf _ _ ho q.symm
        have he0 : c.h₀.get? ea = none := by
          cases q : c.h₀.get? ea with
          | none => rfl
          | some o => exact absurd rfl (neOf _ _ (hf1.F.keep _ _ q))
        have hnX : ∀ q ∈ c.X ++ led1, q.1 ≠ ea := fun q hq => neOf _ _ (hf1.N q hq).1
        have N2 : News c.h₀ c.L h2 ((ea, { cls := .ref PF, data := .fields #[.ref ta, .none, .none, .none, .bool false, .none] }) :: (c.X ++ led1)) := fun q hq => by
          rcases List.mem_cons.mp hq with rfl | hq
          · exact ⟨g1, heL, he0⟩
          · exact ⟨hm.keeps _ _ (hf1.N q hq).1, (hf1.N q hq).2⟩
        have hbind := XS.hb fI fd XS.mem hfd ⟨h2, gn, dr, tk, os⟩ [.ref ea, .str xs tu] (hC.X.keeps F2.keep) (by rw [f4]; exact Nat.le_of_ble_eq_true rfl) (by rw [f4, f5]; exact Nat.le_of_ble_eq_true rfl)
        obtain ⟨d0, hd0⟩ : ∃ d0, dfltVs K fd = [d0] := by
          cases q : dfltVs K fd with
          | nil => rw [q] at f5; cases f5
          | cons a l => cases l with
            | nil => exact ⟨a, rfl⟩
            | cons _ _ => rw [q] at f5; cases f5
        have hbv : bindsV K fd [.ref ea, .str xs tu] = [(("self" : Str), Value.ref ea), (("what" : Str), Value.str xs tu), (("at" : Str), d0)] := by
          unfold bindsV
          rw [f4, hd0]
          rfl
        rw [hbv] at hbind
        unfold fnAt at hfd
        split at hfd
        · rename_i oc od fd' osl hlk
          cases hfd
          unfold fdOk at f1
          simp only [Bool.and_eq_true, decide_eq_true_eq, List.all_eq_true, Bool.not_eq_true', List.isEmpty_iff, Nat.beq_eq] at f1
          obtain ⟨⟨⟨⟨⟨⟨⟨⟨⟨⟨h1', h2'⟩, h3⟩, h4⟩, h5⟩, h6⟩, h7⟩, h8⟩, h9⟩, h10⟩, h11⟩ := f1
          rw [f4] at h10
          obtain ⟨nmf, qf, ps, bd, scp, gl, cl, df, kd, dc, pm, an, cd, ct, bu⟩ := fd
          dsimp only at h1' h2' h3 h4 h5 h6 h7 h8 h9 h10 f3
          cases bd with
          | expr _ => cases h1'
          | stmts body =>
          have f2 : body = ibd := f2
          subst h2' h3 h4 f2 f3
          have hdp := hC.hd
          refine wpAny_call (code_def (binds := [(("self" : Str), Value.ref ea), (("what" : Str), Value.str xs tu), (("at" : Str), d0)]) hC.B F2 hC.X N2 hC.T (show c.A.frames = _ from hC.fr) rfl hC.ck hlk h5 (by rw [depth_under_make]; omega) hbind (fun y hy => ?_) (fun g L' h₁ Fg F1 N1 Bg Xg Tg => ?_) h6 h7 h8 (fun x hx => h9 x hx))
          · simp only [List.mem_cons, List.not_mem_nil, or_false] at hy
            rcases hy with rfl | rfl | rfl
            · exact h10 _ (.head _)
            · exact h10 _ (.tail _ (.head _))
            · exact h10 _ (.tail _ (.tail _ (.head _)))
          · have hob := N1 _ (.head _)
            have hbe : (hideAll h₁ [ea]).get? ea = none := hideAll_none _ (.head _)
            have hkb : ∀ b o, (hideAll h₁ [ea]).get? b = some o → h₁.get? b = some o := fun b o q => of_hideAll _ q
            have hkeep : ∀ b o, b ≠ ea → h₁.get? b = some o → (hideAll h₁ [ea]).get? b = some o := fun b o hne hb => hideAll_get _ hb (by simp [hne])
            have Fb : Fr g L' (hideAll h₁ [ea]) (fun y => List.lookup y [(("self" : Str), Value.ref ea), (("what" : Str), Value.str xs tu), (("at" : Str), d0)].reverse) := by
              obtain ⟨o, es, ep, ho, hr⟩ := F1.ns
              exact ⟨⟨o, es, ep, hkeep _ _ (fun q => hob.2.1 q.symm) ho, hr⟩, fun b o hb => hkeep b o (fun q => by rw [q, hob.2.2] at hb; cases hb) (F1.keep b o hb), F1.above⟩
            have Nb : News g L' (hideAll h₁ [ea]) (c.X ++ led1) := fun q hq => ⟨hkeep _ _ (hnX q hq) (N1 q (.tail _ hq)).1, (N1 q (.tail _ hq)).2⟩
            refine xc_body (c := c.within (c.A.under (Code.builtin "type.__call__" ⟨[.ref PF, .str xs tu], []⟩)) g L' qf isc fI cd) XS Xg Tg rfl Fb hbe rfl rfl rfl hkb hob.1 fun hF tkF S => ?_
            have F3 := Fb.keeps S.keep
            have N3 := Nb.grown S.keep
            obtain ⟨ob, t', o1, o2, o3⟩ := S.obj
            have N4 : News g L' hF ((ea, ob) :: (c.X ++ led1)) := fun q hq => by
              rcases List.mem_cons.mp hq with rfl | hq
              · exact ⟨o1, hob.2⟩
              · exact N3 q hq
            refine leaveK_ F3 N4 fun Fo No => ⟨rfl, ea, t', ob.dict, ob.slots, rfl, hC.X.keeps Fo.keep _ _ hCl, ?_, ?_⟩
            · rw [o1]
              obtain ⟨oc, od, oda, osl⟩ := ob
              dsimp only at o2 o3
              subst o2 o3
              rfl
            · refine hX st1 ⟨hF, gn, dr, tkF, os⟩ ea hk1 (hsm1.trans (Sm.mk _ hF tkF)) ⟨p1, led1, hl1, hf1.H, hf1.nd, hf1.na, hf1.nn, .inl ⟨hideAll hF [ea], m, ⟨hideAll_none _ (.head _), fun b o q => of_hideAll _ q, ob, _, .ref t', o1, o2, o3, rfl, rfl⟩, ?_, ?_⟩⟩
              · obtain ⟨o, es, ep, ho, hr⟩ := Fo.ns
                exact ⟨⟨o, es, ep, hideAll_get _ ho (by simp [Ne.symm heL]), hr⟩, fun b o hb => hideAll_get _ (Fo.keep b o hb) (by
                  simp only [List.mem_singleton]
                  intro q
                  rw [q, he0] at hb
                  cases hb), Fo.above⟩
              · exact fun q hq => ⟨hideAll_get _ (No q (.tail _ hq)).1 (by simp [hnX q hq]), (No q (.tail _ hq)).2⟩
        · cases hfd
      · cases hk1
    · cases hr
  · cases hr
end
end PH
end
section
open PySem PySem.W PySem.Calls PyProof.Rows
set_option Elab.async false
set_option maxRecDepth 100000
set_option linter.unusedVariables false
namespace PH
section
variable {prog : Program} {w : World} {PF : Addr} {K : Frag} {pr : Program} {lo : List Str} {mean : ExcName → Option Value} {mg mb : Str → Option Value} {lv : Bool} {r : Rec}
variable {c : Cx} {p : Mp} {st : St} {n : Nat}

theorem looks_firstW {M : Model} {A : Around} {E : Value → Shared → Prop} {s : Shared} {base : Heap} {env : Env} {outer : List Env} {L e : Addr} {oe : Obj} {vs : Array Value} {a0 : Value} {Q : Unit → Shared → Prop}
    (hfr : A.frames = some (env :: outer)) (hl : s.heap.FunFrames base (env :: outer)) (hf : env.frame = some L)
    (he : s.heap.get? e = some oe) (hkb : base.StaysIn s.heap) (hen : base.get? e = none) (hd : oe.data = .fields vs) (h1 : vs[1]? = some .none) (h0 : vs[0]? = some a0)
    (h : ∀ h', Heap.HeldW base (env :: outer) e oe.cls a0 L h' → s.heap.UpToSlots h' → Q () { s with heap := h' }) : wpAny M A (noteFrame (.ref e) env) Q E s := by
  unfold noteFrame
  simp only [hf]
  refine wpAny_bind (wpAny_field he hd h1 ?_)
  rw [if_neg (by decide)]
  exact wpAny_entryW hfr hl hf he hkb hen hd (Array.getElem?_eq_some_iff.mp h1).1 h0 fun h' ⟨k1, k2, k3, k4⟩ => h h' ⟨k1, hen, k2, k3⟩ k4

/-- the exception in its handler's frame -/
structure HeldM (c : Cx) (G : Heap) (m : Str → Option Value) (B : Heap) (news : List (Addr × Obj)) : Prop where
  F : Fr c.h₀ c.L G m
  st : c.base.StaysIn B
  g : ∀ b o, G.get? b = some o → b ∉ (c.env :: c.outer).filterMap (·.frame) → B.get? b = some o
  l : ∀ q ∈ news, B.get? q.1 = some q.2 ∧ G.get? q.1 = none ∧ c.base.get? q.1 = none

theorem looks_ok {M : Model} {E : Value → Shared → Prop} {s' : Shared} {e : Addr} {Q : Unit → Shared → Prop} (x : Exc prog w PF c p st s'.heap e) (hfr : c.A.frames = some (c.env :: c.outer)) (hB : Below c.A₀ c.base c.outer c.h₀) (hk : c.cs.kind = .function)
    (hQ : ∀ h' G m B a0 p' led, p.le p' → HRel prog w p' st.objs led → ((c.X ++ led).map (·.1)).Nodup → p'.as.length = st.nxt → p'.ns.length = st.nn → HeldM c G m B (c.X ++ led) → Heap.HeldW B (c.env :: c.outer) e (.ref PF) a0 c.L h' → G.UpToSlots h' → Q () { s' with heap := h' }) :
    wpAny M c.A (noteFrame (.ref e) c.env) Q E s' := by
  obtain ⟨p', led, h1, h2, h3, h4, h5, h6⟩ := x.of
  rcases h6 with ⟨g₁, m₁, hx, F₁, N₁⟩ | ⟨G, m₁, F₁, R, hsm⟩
  · have K' := hB.push (name := c.cn) (a := c.a) (cd := c.ccd) F₁ hk
    have hin : ∀ env ∈ (c.env :: c.outer), ∀ b, env.frame = some b → b ∈ (c.env :: c.outer).filterMap (·.frame) := fun env he b hb => List.mem_filterMap.mpr ⟨env, he, hb⟩
    have stB : c.base.StaysIn (hideAll g₁ ((c.env :: c.outer).filterMap (·.frame))) := fun b o q => hideAll_get _ (K'.stays b o q) fun hm => by
      rw [(K'.frames.mem hm).1] at q; cases q
    have nf : ∀ q ∈ c.X ++ led, q.1 ∉ (c.env :: c.outer).filterMap (·.frame) := fun q hq hm => by
      obtain ⟨env, he, hf⟩ := List.mem_filterMap.mp hm
      rcases List.mem_cons.mp he with rfl | he
      · exact (N₁ q hq).2.1 (Option.some.inj hf).symm
      · obtain ⟨o, ho, _⟩ := (hB.frames.mem (List.mem_filterMap.mpr ⟨env, he, hf⟩)).2
        rw [(N₁ q hq).2.2] at ho; cases ho
    have nn : ∀ b o, c.h₀.get? b = some o → b ∉ (c.X ++ led).map (·.1) := fun b o hb hm => by
      obtain ⟨q, hq, rfl⟩ := List.mem_map.mp hm
      rw [(N₁ q hq).2.2] at hb; cases hb
    have FG : Fr c.h₀ c.L (hideAll g₁ ((c.X ++ led).map (·.1))) m₁ := by
      obtain ⟨o, es, ep, ho, hr⟩ := F₁.ns
      refine ⟨⟨o, es, ep, hideAll_get _ ho fun hm => ?_, hr⟩, fun b o hb => hideAll_get _ (F₁.keep b o hb) (nn b o hb), F₁.above⟩
      obtain ⟨q, hq, e⟩ := List.mem_map.mp hm
      exact (N₁ q hq).2.1 e
    have H : HeldM c (hideAll g₁ ((c.X ++ led).map (·.1))) m₁ (hideAll g₁ ((c.env :: c.outer).filterMap (·.frame))) (c.X ++ led) :=
      ⟨FG, stB, fun b o hb hn => hideAll_get _ (of_hideAll _ hb) hn, fun q hq => ⟨hideAll_get _ (N₁ q hq).1 (nf q hq), hideAll_none _ (List.mem_map_of_mem hq), fresh_of_stays hB.stays (N₁ q hq).2.2⟩⟩
    obtain ⟨ob, vs, a0, he, hcls, hd, hn1, hn0⟩ := hx.there
    have hen : (hideAll g₁ ((c.env :: c.outer).filterMap (·.frame))).get? e = none := by
      cases q : (hideAll g₁ ((c.env :: c.outer).filterMap (·.frame))).get? e with
      | none => rfl
      | some o => have := of_hideAll _ q; rw [hx.new] at this; cases this
    refine looks_firstW (a0 := a0) hfr ((funFrames_hide K'.frames hin).of_keeps fun b o hb _ => ⟨o, hx.keeps b o hb, rfl⟩) rfl he (fun b o hb => hx.keeps b o (of_hideAll _ hb)) hen hd hn1 hn0 fun h' hL hu => ?_
    rw [hcls] at hL
    exact hQ h' _ m₁ _ a0 p' led h1 h2 h3 h4 h5 H hL ((Heap.UpToSlots.of_keeps fun b o hb => hx.keeps b o (of_hideAll _ hb)).trans hu)
  · obtain ⟨B, a0, r1, r2, r3, r4⟩ := R
    exact wpAny_looks_onW hfr rfl r4 fun h' hL hu => hQ h' G m₁ B a0 p' led h1 h2 h3 h4 h5 ⟨F₁, r1, r2, r3⟩ hL (hsm.trans hu)

theorem caught_M {E' : Value → Shared → Prop} {s₂ : Shared} {e : Addr} {G B : Heap} {m : Str → Option Value} {a0 : Value} {news : List (Addr × Obj)} {Q : Flow → Shared → Prop} {x : Str} {np pos : Pos} {b₀ : Stmt} {suite : List Stmt} {rest : List ExceptHandler}
    {nm q : Str} {N : Addr} {bs bm : List Value} {hdct : Bool} {sn : List Str} {sub : List Value} {ab : Bool} {col : Option Bool} {dd : Option Addr} {k0 k1 k2 k3 k5 : Option Value} {newId : String}
    (H : HeldM c G m B news) (hheld₄ : Heap.HeldW B (c.env :: c.outer) e (.ref PF) a0 c.L s₂.heap) (hsm₄ : G.UpToSlots s₂.heap) (hB : Below c.A₀ c.base c.outer c.h₀) (XB : K.In c.base) (TB : Top pr lo mean mg mb c.base)
    (hCl : K.lookup PF = some (excClassObj nm q PF N bs bm hdct sn sub ab col dd k0 k1 k2 k3 k5 newId)) (hbase : bm.contains (.type "BaseException") = true) (own : nsIn K mainGlobals x = some (some (.ref PF)))
    (hk : c.cs.kind = .function) (hx : kindA c.cs x = some .globalImplicit) (hd : (x == ("__debug__" : Str)) = false)
    (k : ∀ h' g', KtsTurn (c.outer.filterMap (·.frame)) c.h₀ g' → Fr g' c.L h' m → News g' c.L h' news → wpAny (model prog w) (c.A.mark (some (.ref e))) (execs (b₀ :: suite) c.env) Q (fun _ _ => False) { s₂ with heap := h' }) :
    wpAny (model prog w) c.A (setFlight (.ref e) none) (fun _ s₃ => wpAny (model prog w) c.A (handleBy (.ref e) c.env (.ExceptHandler (some (.Name x np)) none (b₀ :: suite) pos :: rest)) Q (fun _ _ => False) s₃) E' s₂ := by
  obtain ⟨F, hBs, hBG, hl⟩ := H
  have hL : B.get? c.L = none := by
    obtain ⟨_, ⟨L', _, hf, hn', _⟩, _⟩ := hheld₄.2.2.1
    obtain rfl : c.L = L' := Option.some.inj hf
    exact hn'
  refine wpAny_landsW hheld₄ fun h₅ hheld hsm₅' => ?_
  have hsm₅ := hsm₄.trans hsm₅'
  obtain ⟨g₅, T₅, F₅, K₅⟩ := kts_ground (name := c.cn) (scope := c.cs) (a := c.a) (cd := c.ccd) hB F hBG hheld.1 hsm₅
  have X₅ : K.In g₅ := XB.keeps K₅.stays
  have P₅ : TopRead pr lo mg mb g₅ := topRead_of (TB.keeps K₅.stays)
  obtain ⟨ob, hob, hobc⟩ := hheld.there
  refine wpAny_handleBy_cons (codeAny_handlers_test (nameX_K (cl := []) F₅ X₅ P₅ own ?_ hk hx hd)) (by intro q; cases q)
  refine wpAny_excMatches_sub_self (X₅.keeps F₅.keep _ _ hCl) hob hobc hbase (codeAny_handlers_suite ?_)
  refine lands_againW hheld fun h₆ hfl₆ hsm₆ => ?_
  obtain ⟨g₆, T₆, F₆, K₆⟩ := kts_ground (name := c.cn) (scope := c.cs) (a := c.a) (cd := c.ccd) hB F hBG hfl₆.1 (hsm₅.trans hsm₆)
  have Nl : News g₆ c.L h₆ news := fun q hq => ⟨hfl₆.1 _ _ (hl q hq).1, (fun z => by have := (hl q hq).1; rw [z, hL] at this; cases this), T₆.none_ _ (kts_none F.keep (hl q hq).2.1)⟩
  exact wpAny_passesOwnAt (by passes_own) (k h₆ g₆ T₆ F₆ Nl)
end
end PH
end
section
open PySem PySem.W PySem.Calls PyProof.Rows
set_option Elab.async false
set_option maxRecDepth 100000
set_option maxHeartbeats 4000000
set_option linter.unusedVariables false
namespace PH
noncomputable abbrev hsc : Scope := { kind := PySem.ScopeKind.function, names := [((PySem.Str.ofString "shelf"), PySem.NameKind.local), ((PySem.Str.ofString "names"), PySem.NameKind.local), ((PySem.Str.ofString "value"), PySem.NameKind.local), ((PySem.Str.ofString "heard"), PySem.NameKind.local), ((PySem.Str.ofString "space_of"), PySem.NameKind.globalImplicit), ((PySem.Str.ofString "PaintFault"), PySem.NameKind.globalImplicit)], isGenerator := false, isCoroutine := false, more := [] }
noncomputable abbrev hbd : List Stmt := [(PySem.Stmt.Assign [(PySem.Expr.Name (PySem.Str.ofString "heard") ⟨356, 4, 356, 9⟩)] (PySem.Expr.Constant PySem.Const.none 0 ⟨356, 12, 356, 16⟩) ⟨356, 4, 356, 16⟩), (PySem.Stmt.Try [(PySem.Stmt.Assign [(PySem.Expr.Name (PySem.Str.ofString "heard") ⟨358, 8, 358, 13⟩)] (PySem.Expr.Call (PySem.Expr.Attribute (PySem.Expr.Call (PySem.Expr.Name (PySem.Str.ofString "space_of") ⟨358, 16, 358, 24⟩) [(PySem.Expr.Name (PySem.Str.ofString "shelf") ⟨358, 25, 358, 30⟩), (PySem.Expr.Name (PySem.Str.ofString "names") ⟨358, 32, 358, 37⟩), (PySem.Expr.Name (PySem.Str.ofString "value") ⟨358, 39, 358, 44⟩)] [] ⟨358, 16, 358, 45⟩) (PySem.Str.ofString "told") ⟨358, 16, 358, 50⟩) [] [] ⟨358, 16, 358, 52⟩) ⟨358, 8, 358, 52⟩)] [(PySem.ExceptHandler.ExceptHandler (some (PySem.Expr.Name (PySem.Str.ofString "PaintFault") ⟨359, 11, 359, 21⟩)) none [(PySem.Stmt.Return (some (PySem.Expr.Constant (PySem.Const.str (PySem.Str.ofString "refused")) 0 ⟨360, 15, 360, 24⟩)) ⟨360, 8, 360, 24⟩)] ⟨359, 4, 360, 24⟩)] [] [] ⟨357, 4, 360, 24⟩), (PySem.Stmt.Return (some (PySem.Expr.Name (PySem.Str.ofString "heard") ⟨361, 11, 361, 16⟩)) ⟨361, 4, 361, 16⟩)]

section
variable {prog : Program} {w : World} {PF : Addr} {K : Frag} {pr : Program} {lo : List Str} {mean : ExcName → Option Value} {mg mb : Str → Option Value} {lv : Bool} {r : Rec}
variable {c : Cx} {p : Mp} {st : St} {n : Nat} {S : Spc}

theorem keepTups_ok {n : Nat} {os : List (Nat × AO)} {led : List (Addr × Obj)} (h : HRel prog w p os led) : ∃ led', HRel prog w p (keepTups n os) led' ∧ led'.Sublist led := by
  induction h with
  | nil => exact ⟨[], .nil, .slnil⟩
  | @cons k o b os led hb _ ih =>
    obtain ⟨led', h1, h2⟩ := ih
    unfold keepTups
    cases Nat.blt k n with
    | true => exact ⟨b ++ led', .cons hb h1, List.Sublist.append (List.Sublist.refl b) h2⟩
    | false =>
      have hdrop : led'.Sublist (b ++ led) := h2.trans (List.sublist_append_right b led)
      cases o with
      | tup xs => exact ⟨b ++ led', .cons hb h1, List.Sublist.append (List.Sublist.refl b) h2⟩
      | _ => exact ⟨led', h1, hdrop⟩

structure HStat (K : Frag) (S : Spc) (PF PE fI : Addr) (fns : List Nat) : Prop extends XStat K PF PE fI fns where
  he : (fnAt K S.heard).map (fun fd => (fdOk K fd, bodyOf fd, fd.scope, parsOf fd, dfltOf K fd)) = some (true, hbd, hsc, [("shelf" : Str), ("names" : Str), ("value" : Str)], [])
  hbind : BindOK K (S.draw :: S.add :: S.heard :: S.fns)

theorem heard_ok {PE fI : Addr} {fns : List Nat} (XS : HStat K S PF PE fI fns) (n : Nat) (r : Rec) (RO : RecOK prog w PF K pr lo mean mg mb false n r) : CaOK prog w PF K pr lo mean mg mb true (n + 1) ((heardC K S.heard).run r) (.ref S.heard) := by
  intro as st k kx hr c m s p led vs Q E hC hvs hf hQ hX
  have hst := XS.he
  rw [Option.map_eq_some_iff] at hst
  obtain ⟨fd, hfd, e⟩ := hst
  simp only [Prod.mk.injEq] at e
  obtain ⟨f1, f2, f3, f4, f5⟩ := e
  unfold heardC at hr
  rw [hfd] at hr
  dsimp only at hr
  rw [f2] at hr
  dsimp only [hbd] at hr
  split at hr
  · rename_i binds hb
    obtain ⟨hout, XB, TB⟩ := hC.lo rfl
    have hd := hC.hd
    have hu := hC.hu
    have hb0 := hb
    unfold bindsOf at hb
    rw [f4, f5] at hb
    split at hb
    · rename_i hlen
      obtain ⟨a1, a2, a3, rfl⟩ : ∃ a1 a2 a3, as = [a1, a2, a3] := by
        match as, hlen with
        | [a1, a2, a3], _ => exact ⟨a1, a2, a3, rfl⟩
        | [], h => simp at h
        | [_], h => simp at h
        | [_, _], h => simp at h
        | _ :: _ :: _ :: _ :: _, h => simp [Nat.ble_eq] at h
      obtain ⟨v1, v2, v3, rfl, hv1, hv2, hv3⟩ := l2_3 hvs
      cases hb
      have hd0 : dfltVs K fd = [] := by
        have := (dflt_ok (K := K) p fd).len
        rw [f5] at this
        exact List.eq_nil_of_length_eq_zero this.symm
      have hbv : bindsV K fd [v1, v2, v3] = [(("shelf" : Str), v1), (("names" : Str), v2), (("value" : Str), v3)] := by
        unfold bindsV
        rw [f4, hd0]
        rfl
      have hbind := XS.hbind S.heard fd (.tail _ (.tail _ (.head _))) hfd s [v1, v2, v3] (hC.X.keeps hf.F.keep) (by rw [f4]; exact Nat.le_refl _) (by rw [f4, hd0]; exact Nat.le_refl _)
      rw [hbv] at hbind
      unfold fnAt at hfd
      split at hfd
      · rename_i oc od fd' osl hlk
        cases hfd
        unfold fdOk at f1
        simp only [Bool.and_eq_true, decide_eq_true_eq, List.all_eq_true, Bool.not_eq_true', List.isEmpty_iff, Nat.beq_eq] at f1
        obtain ⟨⟨⟨⟨⟨⟨⟨⟨⟨⟨h1', h2'⟩, h3⟩, h4⟩, h5⟩, h6⟩, h7⟩, h8⟩, h9⟩, h10⟩, h11⟩ := f1
        rw [f4] at h10
        obtain ⟨nmf, qf, ps, bd, scp, gl, cl, df, kd, dc, pm, an, cd, ct, bu⟩ := fd
        dsimp only at h1' h2' h3 h4 h5 h6 h7 h8 h9 h10 f3 hr
        cases bd with
        | expr _ => cases h1'
        | stmts body =>
        have f2 : body = hbd := f2
        subst h2' h3 h4 f2 f3
        have hB0 := hC.B
        have hfr0 := hC.fr
        rw [hout] at hB0 hfr0
        refine wpAny_call (code_defS0 (binds := [(("shelf" : Str), v1), (("names" : Str), v2), (("value" : Str), v3)]) hB0 hf.F hC.X hf.N hC.T hfr0 hlk h5 (by omega) hbind (fun y hy => ?_) (fun g L' h₁ Fg F1 N1 Bg Xg Tg Dg => ?_) hC.ck h6 h7 h8 (fun x hx => h9 x hx))
        · simp only [List.mem_cons, List.not_mem_nil, or_false] at hy
          rcases hy with rfl | rfl | rfl
          · exact h10 _ (.head _)
          · exact h10 _ (.tail _ (.head _))
          · exact h10 _ (.tail _ (.tail _ (.head _)))
        · have Bg' : Below c.A c.base (c.env :: c.outer) g := by rw [hout]; exact Bg
          have hC2 : CxOK K pr lo mean mg mb false n (c.within c.A g L' qf hsc S.heard cd) := ⟨Bg', Xg, Tg, Around.frames_deeper hC.fr, hC.hh, by show c.A.depth + 1 + 2 * n + 10 < _; omega, by show c.A.units + 3 + 10 * n + 200 < _; omega, h8, fun z => by cases z⟩
          have hf1 : Fm prog w (c.within c.A g L' qf hsc S.heard cd) (fun y => List.lookup y [(("shelf" : Str), v1), (("names" : Str), v2), (("value" : Str), v3)].reverse) h₁ st p led := ⟨F1, N1, hf.nd, hf.H, hf.na, hf.nn⟩
          have hV1 : VarsRel p [(("shelf" : Str), a1), (("names" : Str), a2), (("value" : Str), a3)] (fun y => List.lookup y [(("shelf" : Str), v1), (("names" : Str), v2), (("value" : Str), v3)].reverse) :=
            varsRel_binds (.cons ⟨rfl, hv1⟩ (.cons ⟨rfl, hv2⟩ (.cons ⟨rfl, hv3⟩ .nil))) (by show [("shelf" : Str), ("names" : Str), ("value" : Str)].Nodup; decide)
          obtain ⟨nmC, qC, NC, bs, sn, sub, ab, col, dd, k0, k1, k2, k3, k5, hCl⟩ := XS.cls
          refine wpAny_execs_cons (wpAny_Assign_Name (Constant_none ?_) (swaps_none rfl _ _ _))
          refine store_ok (c := c.within c.A g L' qf hsc S.heard cd) (x := "heard") (a := .none) (v := .none) hC2 rfl hV1 hf1 rfl fun m2 s2 hs2 hV2 hf2 => ?_
          have hV3 : VarsRel p [(("shelf" : Str), a1), (("names" : Str), a2), (("value" : Str), a3)] m2 := fun x a ha => by
            refine hV2 x a ?_
            show (match sEq ("heard" : Str) x with | true => some AV.none | false => lk [(("shelf" : Str), a1), (("names" : Str), a2), (("value" : Str), a3)] x) = some a
            cases q : sEq ("heard" : Str) x with
            | false => exact ha
            | true =>
              rw [sEq_iff] at q
              subst q
              cases ha
          refine wpAny_execs_cons (wpAny_Try_except ?_)
          refine wpAny_execs_cons (wpAny_Assign_Name (RO.ev hsc _ _ st _ _ hr (c.within c.A g L' qf hsc S.heard cd) _ m2 m2 s2 p led _ _ hC2 EnvK.fn hV3 hf2 (fun a st1 u s1 p1 led1 hk1 hsm1 hl1 hu hf3 => ?_) (fun st1 s1 e hk1 hsm1 hx => ?_)) (swaps_none rfl _ _ _))
          · refine store_ok (c := c.within c.A g L' qf hsc S.heard cd) (x := "heard") hC2 rfl (hV3.le hl1) hf3 hu fun m3 s3 hs3 hV4 hf4 => ?_
            refine wpAny_execs_nil (wpAny_execs_nil ?_)
            obtain ⟨u', hu1, hu2⟩ := hV4 "heard" a rfl
            refine wpAny_execs_cons (wpAny_Return_some (nameX_L (cl := []) hf4.F hu1 ?_ h8 rfl rfl))
            refine leaveS0_ hf4.F hf4.N KtsTurn.refl fun Fo No => ?_
            obtain ⟨ledK, kH, kS⟩ := keepTups_ok (n := st.nxt) hf4.H
            have sub : ∀ q ∈ c.X ++ ledK, q ∈ c.X ++ led1 := fun q hq => by
              rcases List.mem_append.mp hq with z | z
              · exact List.mem_append_left _ z
              · exact List.mem_append_right _ (kS.subset z)
            exact hQ a _ u' s3 p1 ledK hk1 (((Sm.mk s h₁ _).trans hs2).trans (hsm1.trans hs3)) hl1 hu2 ⟨Fo, fun q hq => No q (sub q hq), hf4.nd.sublist ((List.Sublist.append (List.Sublist.refl c.X) kS).map _), kH, hf4.na, hf4.nn⟩
          · refine looks_ok (c := c.within c.A g L' qf hsc S.heard cd) hx (Around.frames_deeper hC.fr) Bg' h8 fun h' G mG B a0 p' led' hle hH hnd hna hnn HM hheld hu => ?_
            refine wpAny_mono (caught_M (c := c.within c.A g L' qf hsc S.heard cd) (K := K) HM hheld hu Bg' XB TB hCl rfl XS.own h8 rfl rfl fun h2 g' T F' N' => ?_) (fun _ s₃ h₃ => wpAny_mono h₃ (fun _ _ q => q) fun _ _ q => q.elim) fun _ _ q => q
            refine wpAny_execs_cons (wpAny_Return_some (Constant_str ?_))
            have T' : KtsTurn ([c.env].filterMap (·.frame)) g g' := by
              have T : KtsTurn ((c.env :: c.outer).filterMap (·.frame)) g g' := T
              rw [hout] at T
              exact T
            refine leaveS0_ F' N' T' fun Fo No => ?_
            obtain ⟨ledK, kH, kS⟩ := keepTups_ok (n := st.nxt) hH
            have sub : ∀ q ∈ c.X ++ ledK, q ∈ c.X ++ led' := fun q hq => by
              rcases List.mem_append.mp hq with z | z
              · exact List.mem_append_left _ z
              · exact List.mem_append_right _ (kS.subset z)
            exact hQ (.str "refused") _ _ _ p' ledK hk1 ((((Sm.mk s h₁ _).trans hs2).trans hsm1).trans (Sm.mk s1 h2 _)) hle ⟨_, rfl⟩ ⟨Fo, fun q hq => No q (sub q hq), hnd.sublist ((List.Sublist.append (List.Sublist.refl c.X) kS).map _), kH, hna, hnn⟩
      · cases hfd
    · cases hb
  · cases hr
end
end PH
end
section
open PySem PySem.W PySem.Calls PyProof.Rows
set_option Elab.async false
set_option maxRecDepth 100000
set_option maxHeartbeats 4000000
namespace HN
noncomputable abbrev pw : Program := PySem.Challenge.pw_pq0824_01
noncomputable def stm (i : Nat) : Stmt := (pw.main.body[i]?).getD (.Pass default)
noncomputable def stm2 (i j : Nat) : Stmt := match stm i with
  | .ClassDef _ _ _ b _ _ _ _ _ _ _ => (b[j]?).getD (.Pass default)
  | _ => .Pass default
noncomputable def fnO (st : Stmt) (q m : Str) (mt : Tok) (d : Value) (cd : Addr) : Obj := match st with
  | .FunctionDef name args body _ _ _ scope _ _ _ => { cls := .type "function", data := .func { name := name, qualname := q, params := args, body := .stmts body, scope := scope, globals := 3, closure := [], defaults := d, kwdefaults := .none, pyModule := .str m mt, code := .ref cd } }
  | _ => default
noncomputable def K (P : Params) : Frag :=
  (nat_lit 2, { cls := Value.none, data := Data.dict #[{ hash := PyData.keyHash P (Str.ofString "type.__subclasses__.Exception.0"), key := Value.str (Str.ofString "type.__subclasses__.Exception.0") 232, val := Value.int 46 0 }, { hash := PyData.keyHash P (Str.ofString "type.__subclasses__.Exception.n"), key := Value.str (Str.ofString "type.__subclasses__.Exception.n") 233, val := Value.int 1 0 }] 2 }) ::
  (nat_lit 3, { cls := Value.type "dict", data := Data.dict #[{ hash := PyData.keyHash P (Str.ofString "__name__"), key := Value.str (Str.ofString "__name__") 165, val := Value.str (Str.ofString "law_pq0824_01") 895 }, { hash := PyData.keyHash P (Str.ofString "__doc__"), key := Value.str (Str.ofString "__doc__") 166, val := Value.none }, { hash := PyData.keyHash P (Str.ofString "__package__"), key := Value.str (Str.ofString "__package__") 167, val := Value.none }, { hash := PyData.keyHash P (Str.ofString "__loader__"), key := Value.str (Str.ofString "__loader__") 168, val := Value.builtin "__main__.__loader__#opaque" }, { hash := PyData.keyHash P (Str.ofString "__spec__"), key := Value.str (Str.ofString "__spec__") 169, val := Value.none }, { hash := PyData.keyHash P (Str.ofString "__annotations__"), key := Value.str (Str.ofString "__annotations__") 170, val := Value.ref 6 }, { hash := PyData.keyHash P (Str.ofString "__builtins__"), key := Value.str (Str.ofString "__builtins__") 171, val := Value.ref 4 }, { hash := PyData.keyHash P (Str.ofString "__file__"), key := Value.str (Str.ofString "__file__") 173, val := Value.str (Str.ofString "/claim/cut.py") 172 }, { hash := PyData.keyHash P (Str.ofString "__cached__"), key := Value.str (Str.ofString "__cached__") 174, val := Value.none }, { hash := PyData.keyHash P (Str.ofString "_wall"), key := Value.str (Str.ofString "_wall") 193, val := Value.ref 21 }, { hash := PyData.keyHash P (Str.ofString "PaperError"), key := Value.str (Str.ofString "PaperError") 235, val := Value.ref 46 }, { hash := PyData.keyHash P (Str.ofString "PaintFault"), key := Value.str (Str.ofString "PaintFault") 251, val := Value.ref 59 }, { hash := PyData.keyHash P (Str.ofString "Decimal"), key := Value.str (Str.ofString "Decimal") 367, val := Value.ref 155 }, { hash := PyData.keyHash P (Str.ofString "sign_text"), key := Value.str (Str.ofString "sign_text") 374, val := Value.ref 166 }, { hash := PyData.keyHash P (Str.ofString "MOST_HOPS"), key := Value.str (Str.ofString "MOST_HOPS") 378, val := Value.int 30 377 }, { hash := PyData.keyHash P (Str.ofString "Name"), key := Value.str (Str.ofString "Name") 407, val := Value.ref 183 }, { hash := PyData.keyHash P (Str.ofString "String"), key := Value.str (Str.ofString "String") 438, val := Value.ref 205 }, { hash := PyData.keyHash P (Str.ofString "Stream"), key := Value.str (Str.ofString "Stream") 469, val := Value.ref 226 }, { hash := PyData.keyHash P (Str.ofString "Reference"), key := Value.str (Str.ofString "Reference") 507, val := Value.ref 254 }, { hash := PyData.keyHash P (Str.ofString "kind_of"), key := Value.str (Str.ofString "kind_of") 514, val := Value.ref 265 }, { hash := PyData.keyHash P (Str.ofString "told_plain"), key := Value.str (Str.ofString "told_plain") 522, val := Value.ref 272 }, { hash := PyData.keyHash P (Str.ofString "told"), key := Value.str (Str.ofString "told") 528, val := Value.ref 277 }, { hash := PyData.keyHash P (Str.ofString "told_objects"), key := Value.str (Str.ofString "told_objects") 529, val := Value.ref 277 }, { hash := PyData.keyHash P (Str.ofString "Lookup"), key := Value.str (Str.ofString "Lookup") 581, val := Value.ref 309 }, { hash := PyData.keyHash P (Str.ofString "Shelf"), key := Value.str (Str.ofString "Shelf") 644, val := Value.ref 363 }, { hash := PyData.keyHash P (Str.ofString "MOST_SPACES"), key := Value.str (Str.ofString "MOST_SPACES") 648, val := Value.int 8 647 }, { hash := PyData.keyHash P (Str.ofString "MOST_INKS"), key := Value.str (Str.ofString "MOST_INKS") 650, val := Value.int 32 649 }, { hash := PyData.keyHash P (Str.ofString "MOST_INDEX"), key := Value.str (Str.ofString "MOST_INDEX") 652, val := Value.int 255 651 }, { hash := PyData.keyHash P (Str.ofString "SPECIAL"), key := Value.str (Str.ofString "SPECIAL") 657, val := Value.ref 366 }, { hash := PyData.keyHash P (Str.ofString "Space"), key := Value.str (Str.ofString "Space") 708, val := Value.ref 392 }, { hash := PyData.keyHash P (Str.ofString "device_spaces"), key := Value.str (Str.ofString "device_spaces") 714, val := Value.ref 403 }, { hash := PyData.keyHash P (Str.ofString "device_space"), key := Value.str (Str.ofString "device_space") 721, val := Value.ref 410 }, { hash := PyData.keyHash P (Str.ofString "device_of_count"), key := Value.str (Str.ofString "device_of_count") 730, val := Value.ref 417 }, { hash := PyData.keyHash P (Str.ofString "Source"), key := Value.str (Str.ofString "Source") 780, val := Value.ref 448 }, { hash := PyData.keyHash P (Str.ofString "space_of"), key := Value.str (Str.ofString "space_of") 790, val := Value.ref 460 }, { hash := PyData.keyHash P (Str.ofString "space_within"), key := Value.str (Str.ofString "space_within") 801, val := Value.ref 467 }, { hash := PyData.keyHash P (Str.ofString "space_by_name"), key := Value.str (Str.ofString "space_by_name") 811, val := Value.ref 474 }, { hash := PyData.keyHash P (Str.ofString "default_space"), key := Value.str (Str.ofString "default_space") 822, val := Value.ref 481 }, { hash := PyData.keyHash P (Str.ofString "space_by_array"), key := Value.str (Str.ofString "space_by_array") 834, val := Value.ref 488 }, { hash := PyData.keyHash P (Str.ofString "base_space"), key := Value.str (Str.ofString "base_space") 845, val := Value.ref 495 }, { hash := PyData.keyHash P (Str.ofString "profile_space"), key := Value.str (Str.ofString "profile_space") 856, val := Value.ref 502 }, { hash := PyData.keyHash P (Str.ofString "indexed_space"), key := Value.str (Str.ofString "indexed_space") 870, val := Value.ref 509 }, { hash := PyData.keyHash P (Str.ofString "opened"), key := Value.str (Str.ofString "opened") 878, val := Value.ref 516 }, { hash := PyData.keyHash P (Str.ofString "ink_space"), key := Value.str (Str.ofString "ink_space") 894, val := Value.ref 523 }, { hash := PyData.keyHash P (Str.ofString "_law_devices"), key := Value.str (Str.ofString "_law_devices") 900, val := Value.ref 524 }, { hash := PyData.keyHash P (Str.ofString "_law_pen"), key := Value.str (Str.ofString "_law_pen") 906, val := Value.ref 529 }, { hash := PyData.keyHash P (Str.ofString "_law_draw"), key := Value.str (Str.ofString "_law_draw") 919, val := Value.ref 536 }, { hash := PyData.keyHash P (Str.ofString "_law_default"), key := Value.str (Str.ofString "_law_default") 925, val := Value.ref 541 }, { hash := PyData.keyHash P (Str.ofString "_law_heard"), key := Value.str (Str.ofString "_law_heard") 935, val := Value.ref 548 }, { hash := PyData.keyHash P (Str.ofString "_law_nested"), key := Value.str (Str.ofString "_law_nested") 946, val := Value.ref 555 }, { hash := PyData.keyHash P (Str.ofString "_law_named"), key := Value.str (Str.ofString "_law_named") 957, val := Value.ref 562 }, { hash := PyData.keyHash P (Str.ofString "law"), key := Value.str (Str.ofString "law") 983, val := Value.ref 569 }] 52 }) ::
  (nat_lit 29, { cls := Value.type "tuple", data := Data.seq #[Value.int (-1) 209] }) ::
  (nat_lit 35, { cls := Value.type "code", data := Data.fields #[Value.str (Str.ofString "__init__") 210, Value.str (Str.ofString "PaperError.__init__") 211, Value.str (Str.ofString "/claim/cut.py") 212, Value.int 7 0, Value.int 3 0, Value.int 0 0, Value.int 0 0, Value.int 3 0, Value.ref 30, Value.bool true, Value.int 181 0, Value.ref 31, Value.none, Value.ref 32, Value.ref 33, Value.ref 34, Value.int 216 0, Value.int 7 0, Value.str (Str.ofString "/claim/cut.py") 217] }) ::
  (nat_lit 36, fnO (stm2 2 0) (Str.ofString "PaperError.__init__") (Str.ofString "paperhold.errors") 194 (.ref 29) 35) ::
  (nat_lit 45, { cls := Value.type "dict", data := Data.dict #[{ hash := PyData.keyHash P (Str.ofString "__module__"), key := Value.str (Str.ofString "__module__") 203, val := Value.str (Str.ofString "paperhold.errors") 194 }, { hash := PyData.keyHash P (Str.ofString "__firstlineno__"), key := Value.str (Str.ofString "__firstlineno__") 207, val := Value.int 5 206 }, { hash := PyData.keyHash P (Str.ofString "__init__"), key := Value.str (Str.ofString "__init__") 218, val := Value.ref 36 }, { hash := PyData.keyHash P (Str.ofString "told"), key := Value.str (Str.ofString "told") 225, val := Value.ref 43 }, { hash := PyData.keyHash P (Str.ofString "__static_attributes__"), key := Value.str (Str.ofString "__static_attributes__") 228, val := Value.ref 44 }, { hash := PyData.keyHash P (Str.ofString "__weakref__"), key := Value.str (Str.ofString "__weakref__") 230, val := Value.ref 47 }, { hash := PyData.keyHash P (Str.ofString "__doc__"), key := Value.str (Str.ofString "__doc__") 231, val := Value.none }] 3 }) ::
  (nat_lit 46, { cls := Value.type "type", data := Data.cls { name := Str.ofString "PaperError", bases := [Value.type "Exception"], mro := [Value.ref 46, Value.type "Exception", Value.type "BaseException", Value.type "object"], ns := 45, qualname := Str.ofString "PaperError", subclasses := [Value.ref 59] }, slots := #[some (Value.ref 22), none, some (Value.str (Str.ofString "PaperError") 196), some (Value.str (Str.ofString "PaperError") 204), some (Value.builtin "Exception.__new__"), some (Value.bool true)] }) ::
  (nat_lit 58, { cls := Value.type "dict", data := Data.dict #[{ hash := PyData.keyHash P (Str.ofString "__module__"), key := Value.str (Str.ofString "__module__") 243, val := Value.str (Str.ofString "paperhold.errors") 194 }, { hash := PyData.keyHash P (Str.ofString "__firstlineno__"), key := Value.str (Str.ofString "__firstlineno__") 247, val := Value.int 14 246 }, { hash := PyData.keyHash P (Str.ofString "__static_attributes__"), key := Value.str (Str.ofString "__static_attributes__") 248, val := Value.ref 57 }, { hash := PyData.keyHash P (Str.ofString "__doc__"), key := Value.str (Str.ofString "__doc__") 249, val := Value.none }] 2 }) ::
  (nat_lit 59, { cls := Value.type "type", data := Data.cls { name := Str.ofString "PaintFault", bases := [Value.ref 46], mro := [Value.ref 59, Value.ref 46, Value.type "Exception", Value.type "BaseException", Value.type "object"], ns := 58, qualname := Str.ofString "PaintFault" }, slots := #[some (Value.ref 50), none, some (Value.str (Str.ofString "PaintFault") 236), some (Value.str (Str.ofString "PaintFault") 244), some (Value.builtin "Exception.__new__"), some (Value.bool true)] }) ::
  (nat_lit 154, { cls := Value.type "dict", data := Data.dict #[{ hash := PyData.keyHash P (Str.ofString "__module__"), key := Value.str (Str.ofString "__module__") 261, val := Value.str (Str.ofString "paperhold.decimals") 252 }, { hash := PyData.keyHash P (Str.ofString "__firstlineno__"), key := Value.str (Str.ofString "__firstlineno__") 265, val := Value.int 17 264 }, { hash := PyData.keyHash P (Str.ofString "__init__"), key := Value.str (Str.ofString "__init__") 274, val := Value.ref 75 }, { hash := PyData.keyHash P (Str.ofString "plus"), key := Value.str (Str.ofString "plus") 282, val := Value.ref 82 }, { hash := PyData.keyHash P (Str.ofString "minus"), key := Value.str (Str.ofString "minus") 290, val := Value.ref 89 }, { hash := PyData.keyHash P (Str.ofString "times"), key := Value.str (Str.ofString "times") 298, val := Value.ref 96 }, { hash := PyData.keyHash P (Str.ofString "negated"), key := Value.str (Str.ofString "negated") 305, val := Value.ref 103 }, { hash := PyData.keyHash P (Str.ofString "compared"), key := Value.str (Str.ofString "compared") 313, val := Value.ref 110 }, { hash := PyData.keyHash P (Str.ofString "is_whole"), key := Value.str (Str.ofString "is_whole") 320, val := Value.ref 117 }, { hash := PyData.keyHash P (Str.ofString "floor"), key := Value.str (Str.ofString "floor") 327, val := Value.ref 124 }, { hash := PyData.keyHash P (Str.ofString "rounded"), key := Value.str (Str.ofString "rounded") 335, val := Value.ref 131 }, { hash := PyData.keyHash P (Str.ofString "told"), key := Value.str (Str.ofString "told") 342, val := Value.ref 138 }, { hash := PyData.keyHash P (Str.ofString "text"), key := Value.str (Str.ofString "text") 350, val := Value.ref 145 }, { hash := PyData.keyHash P (Str.ofString "least_text"), key := Value.str (Str.ofString "least_text") 357, val := Value.ref 152 }, { hash := PyData.keyHash P (Str.ofString "__static_attributes__"), key := Value.str (Str.ofString "__static_attributes__") 360, val := Value.ref 153 }, { hash := PyData.keyHash P (Str.ofString "__dict__"), key := Value.str (Str.ofString "__dict__") 362, val := Value.ref 156 }, { hash := PyData.keyHash P (Str.ofString "__weakref__"), key := Value.str (Str.ofString "__weakref__") 364, val := Value.ref 157 }, { hash := PyData.keyHash P (Str.ofString "__doc__"), key := Value.str (Str.ofString "__doc__") 365, val := Value.none }] 4 }) ::
  (nat_lit 155, { cls := Value.type "type", data := Data.cls { name := Str.ofString "Decimal", bases := [Value.type "object"], mro := [Value.ref 155, Value.type "object"], ns := 154, qualname := Str.ofString "Decimal" }, slots := #[none, none, some (Value.str (Str.ofString "Decimal") 254), some (Value.str (Str.ofString "Decimal") 262), some (Value.builtin "object.__new__"), some (Value.bool true)] }) ::
  (nat_lit 179, { cls := Value.type "code", data := Data.fields #[Value.str (Str.ofString "__init__") 391, Value.str (Str.ofString "Name.__init__") 392, Value.str (Str.ofString "/claim/cut.py") 393, Value.int 68 0, Value.int 2 0, Value.int 0 0, Value.int 0 0, Value.int 3 0, Value.ref 174, Value.bool true, Value.int 181 0, Value.ref 175, Value.none, Value.ref 176, Value.ref 177, Value.ref 178, Value.int 396 0, Value.int 68 0, Value.str (Str.ofString "/claim/cut.py") 397] }) ::
  (nat_lit 180, fnO (stm2 9 0) (Str.ofString "Name.__init__") (Str.ofString "paperhold.objects") 375 .none 179) ::
  (nat_lit 182, { cls := Value.type "dict", data := Data.dict #[{ hash := PyData.keyHash P (Str.ofString "__module__"), key := Value.str (Str.ofString "__module__") 386, val := Value.str (Str.ofString "paperhold.objects") 375 }, { hash := PyData.keyHash P (Str.ofString "__firstlineno__"), key := Value.str (Str.ofString "__firstlineno__") 390, val := Value.int 66 389 }, { hash := PyData.keyHash P (Str.ofString "__init__"), key := Value.str (Str.ofString "__init__") 398, val := Value.ref 180 }, { hash := PyData.keyHash P (Str.ofString "__static_attributes__"), key := Value.str (Str.ofString "__static_attributes__") 400, val := Value.ref 181 }, { hash := PyData.keyHash P (Str.ofString "__dict__"), key := Value.str (Str.ofString "__dict__") 402, val := Value.ref 184 }, { hash := PyData.keyHash P (Str.ofString "__weakref__"), key := Value.str (Str.ofString "__weakref__") 404, val := Value.ref 185 }, { hash := PyData.keyHash P (Str.ofString "__doc__"), key := Value.str (Str.ofString "__doc__") 405, val := Value.none }] 4 }) ::
  (nat_lit 183, { cls := Value.type "type", data := Data.cls { name := Str.ofString "Name", bases := [Value.type "object"], mro := [Value.ref 183, Value.type "object"], ns := 182, qualname := Str.ofString "Name" }, slots := #[none, none, some (Value.str (Str.ofString "Name") 379), some (Value.str (Str.ofString "Name") 387), some (Value.builtin "object.__new__"), some (Value.bool true)] }) ::
  (nat_lit 195, { cls := Value.type "tuple", data := Data.seq #[Value.bool false] }) ::
  (nat_lit 201, { cls := Value.type "code", data := Data.fields #[Value.str (Str.ofString "__init__") 420, Value.str (Str.ofString "String.__init__") 421, Value.str (Str.ofString "/claim/cut.py") 422, Value.int 72 0, Value.int 3 0, Value.int 0 0, Value.int 0 0, Value.int 3 0, Value.ref 196, Value.bool true, Value.int 181 0, Value.ref 197, Value.none, Value.ref 198, Value.ref 199, Value.ref 200, Value.int 426 0, Value.int 72 0, Value.str (Str.ofString "/claim/cut.py") 427] }) ::
  (nat_lit 202, fnO (stm2 10 0) (Str.ofString "String.__init__") (Str.ofString "paperhold.objects") 375 (.ref 195) 201) ::
  (nat_lit 204, { cls := Value.type "dict", data := Data.dict #[{ hash := PyData.keyHash P (Str.ofString "__module__"), key := Value.str (Str.ofString "__module__") 415, val := Value.str (Str.ofString "paperhold.objects") 375 }, { hash := PyData.keyHash P (Str.ofString "__firstlineno__"), key := Value.str (Str.ofString "__firstlineno__") 419, val := Value.int 70 418 }, { hash := PyData.keyHash P (Str.ofString "__init__"), key := Value.str (Str.ofString "__init__") 428, val := Value.ref 202 }, { hash := PyData.keyHash P (Str.ofString "__static_attributes__"), key := Value.str (Str.ofString "__static_attributes__") 431, val := Value.ref 203 }, { hash := PyData.keyHash P (Str.ofString "__dict__"), key := Value.str (Str.ofString "__dict__") 433, val := Value.ref 206 }, { hash := PyData.keyHash P (Str.ofString "__weakref__"), key := Value.str (Str.ofString "__weakref__") 435, val := Value.ref 207 }, { hash := PyData.keyHash P (Str.ofString "__doc__"), key := Value.str (Str.ofString "__doc__") 436, val := Value.none }] 4 }) ::
  (nat_lit 205, { cls := Value.type "type", data := Data.cls { name := Str.ofString "String", bases := [Value.type "object"], mro := [Value.ref 205, Value.type "object"], ns := 204, qualname := Str.ofString "String" }, slots := #[none, none, some (Value.str (Str.ofString "String") 408), some (Value.str (Str.ofString "String") 416), some (Value.builtin "object.__new__"), some (Value.bool true)] }) ::
  (nat_lit 222, { cls := Value.type "code", data := Data.fields #[Value.str (Str.ofString "__init__") 451, Value.str (Str.ofString "Stream.__init__") 452, Value.str (Str.ofString "/claim/cut.py") 453, Value.int 77 0, Value.int 3 0, Value.int 0 0, Value.int 0 0, Value.int 3 0, Value.ref 217, Value.bool true, Value.int 181 0, Value.ref 218, Value.none, Value.ref 219, Value.ref 220, Value.ref 221, Value.int 457 0, Value.int 77 0, Value.str (Str.ofString "/claim/cut.py") 458] }) ::
  (nat_lit 223, fnO (stm2 11 0) (Str.ofString "Stream.__init__") (Str.ofString "paperhold.objects") 375 .none 222) ::
  (nat_lit 225, { cls := Value.type "dict", data := Data.dict #[{ hash := PyData.keyHash P (Str.ofString "__module__"), key := Value.str (Str.ofString "__module__") 446, val := Value.str (Str.ofString "paperhold.objects") 375 }, { hash := PyData.keyHash P (Str.ofString "__firstlineno__"), key := Value.str (Str.ofString "__firstlineno__") 450, val := Value.int 75 449 }, { hash := PyData.keyHash P (Str.ofString "__init__"), key := Value.str (Str.ofString "__init__") 459, val := Value.ref 223 }, { hash := PyData.keyHash P (Str.ofString "__static_attributes__"), key := Value.str (Str.ofString "__static_attributes__") 462, val := Value.ref 224 }, { hash := PyData.keyHash P (Str.ofString "__dict__"), key := Value.str (Str.ofString "__dict__") 464, val := Value.ref 227 }, { hash := PyData.keyHash P (Str.ofString "__weakref__"), key := Value.str (Str.ofString "__weakref__") 466, val := Value.ref 228 }, { hash := PyData.keyHash P (Str.ofString "__doc__"), key := Value.str (Str.ofString "__doc__") 467, val := Value.none }] 4 }) ::
  (nat_lit 226, { cls := Value.type "type", data := Data.cls { name := Str.ofString "Stream", bases := [Value.type "object"], mro := [Value.ref 226, Value.type "object"], ns := 225, qualname := Str.ofString "Stream" }, slots := #[none, none, some (Value.str (Str.ofString "Stream") 439), some (Value.str (Str.ofString "Stream") 447), some (Value.builtin "object.__new__"), some (Value.bool true)] }) ::
  (nat_lit 243, { cls := Value.type "code", data := Data.fields #[Value.str (Str.ofString "__init__") 482, Value.str (Str.ofString "Reference.__init__") 483, Value.str (Str.ofString "/claim/cut.py") 484, Value.int 82 0, Value.int 3 0, Value.int 0 0, Value.int 0 0, Value.int 3 0, Value.ref 238, Value.bool true, Value.int 181 0, Value.ref 239, Value.none, Value.ref 240, Value.ref 241, Value.ref 242, Value.int 488 0, Value.int 82 0, Value.str (Str.ofString "/claim/cut.py") 489] }) ::
  (nat_lit 244, fnO (stm2 12 0) (Str.ofString "Reference.__init__") (Str.ofString "paperhold.objects") 375 .none 243) ::
  (nat_lit 253, { cls := Value.type "dict", data := Data.dict #[{ hash := PyData.keyHash P (Str.ofString "__module__"), key := Value.str (Str.ofString "__module__") 477, val := Value.str (Str.ofString "paperhold.objects") 375 }, { hash := PyData.keyHash P (Str.ofString "__firstlineno__"), key := Value.str (Str.ofString "__firstlineno__") 481, val := Value.int 80 480 }, { hash := PyData.keyHash P (Str.ofString "__init__"), key := Value.str (Str.ofString "__init__") 490, val := Value.ref 244 }, { hash := PyData.keyHash P (Str.ofString "pair"), key := Value.str (Str.ofString "pair") 497, val := Value.ref 251 }, { hash := PyData.keyHash P (Str.ofString "__static_attributes__"), key := Value.str (Str.ofString "__static_attributes__") 500, val := Value.ref 252 }, { hash := PyData.keyHash P (Str.ofString "__dict__"), key := Value.str (Str.ofString "__dict__") 502, val := Value.ref 255 }, { hash := PyData.keyHash P (Str.ofString "__weakref__"), key := Value.str (Str.ofString "__weakref__") 504, val := Value.ref 256 }, { hash := PyData.keyHash P (Str.ofString "__doc__"), key := Value.str (Str.ofString "__doc__") 505, val := Value.none }] 4 }) ::
  (nat_lit 254, { cls := Value.type "type", data := Data.cls { name := Str.ofString "Reference", bases := [Value.type "object"], mro := [Value.ref 254, Value.type "object"], ns := 253, qualname := Str.ofString "Reference" }, slots := #[none, none, some (Value.str (Str.ofString "Reference") 470), some (Value.str (Str.ofString "Reference") 478), some (Value.builtin "object.__new__"), some (Value.bool true)] }) ::
  (nat_lit 264, { cls := Value.type "code", data := Data.fields #[Value.str (Str.ofString "kind_of") 508, Value.str (Str.ofString "kind_of") 509, Value.str (Str.ofString "/claim/cut.py") 510, Value.int 88 0, Value.int 1 0, Value.int 0 0, Value.int 0 0, Value.int 3 0, Value.ref 259, Value.bool true, Value.int 181 0, Value.ref 260, Value.none, Value.ref 261, Value.ref 262, Value.ref 263, Value.int 512 0, Value.int 88 0, Value.str (Str.ofString "/claim/cut.py") 513] }) ::
  (nat_lit 265, fnO (stm 13) (Str.ofString "kind_of") (Str.ofString "paperhold.objects") 375 .none 264) ::
  (nat_lit 271, { cls := Value.type "code", data := Data.fields #[Value.str (Str.ofString "told_plain") 515, Value.str (Str.ofString "told_plain") 516, Value.str (Str.ofString "/claim/cut.py") 517, Value.int 110 0, Value.int 2 0, Value.int 0 0, Value.int 0 0, Value.int 3 0, Value.ref 266, Value.bool true, Value.int 181 0, Value.ref 267, Value.none, Value.ref 268, Value.ref 269, Value.ref 270, Value.int 520 0, Value.int 110 0, Value.str (Str.ofString "/claim/cut.py") 521] }) ::
  (nat_lit 272, fnO (stm 14) (Str.ofString "told_plain") (Str.ofString "paperhold.objects") 375 .none 271) ::
  (nat_lit 276, { cls := Value.type "code", data := Data.fields #[Value.str (Str.ofString "told") 523, Value.str (Str.ofString "told") 524, Value.str (Str.ofString "/claim/cut.py") 525, Value.int 124 0, Value.int 1 0, Value.int 0 0, Value.int 0 0, Value.int 3 0, Value.ref 273, Value.bool true, Value.int 181 0, Value.ref 274, Value.none, Value.none, Value.none, Value.ref 275, Value.int 526 0, Value.int 124 0, Value.str (Str.ofString "/claim/cut.py") 527] }) ::
  (nat_lit 277, fnO (stm 15) (Str.ofString "told") (Str.ofString "paperhold.objects") 375 .none 276) ::
  (nat_lit 285, { cls := Value.type "tuple", data := Data.seq #[Value.none, Value.none] }) ::
  (nat_lit 291, { cls := Value.type "code", data := Data.fields #[Value.str (Str.ofString "__init__") 542, Value.str (Str.ofString "Lookup.__init__") 543, Value.str (Str.ofString "/claim/cut.py") 544, Value.int 136 0, Value.int 3 0, Value.int 0 0, Value.int 0 0, Value.int 3 0, Value.ref 286, Value.bool true, Value.int 181 0, Value.ref 287, Value.none, Value.ref 288, Value.ref 289, Value.ref 290, Value.int 548 0, Value.int 136 0, Value.str (Str.ofString "/claim/cut.py") 549] }) ::
  (nat_lit 292, fnO (stm2 17 0) (Str.ofString "Lookup.__init__") (Str.ofString "paperhold.objects") 375 (.ref 285) 291) ::
  (nat_lit 298, { cls := Value.type "code", data := Data.fields #[Value.str (Str.ofString "fetch") 551, Value.str (Str.ofString "Lookup.fetch") 552, Value.str (Str.ofString "/claim/cut.py") 553, Value.int 140 0, Value.int 2 0, Value.int 0 0, Value.int 0 0, Value.int 3 0, Value.ref 293, Value.bool true, Value.int 181 0, Value.ref 294, Value.none, Value.ref 295, Value.ref 296, Value.ref 297, Value.int 560 0, Value.int 140 0, Value.str (Str.ofString "/claim/cut.py") 561] }) ::
  (nat_lit 299, fnO (stm2 17 1) (Str.ofString "Lookup.fetch") (Str.ofString "paperhold.objects") 375 .none 298) ::
  (nat_lit 305, { cls := Value.type "code", data := Data.fields #[Value.str (Str.ofString "get") 563, Value.str (Str.ofString "Lookup.get") 564, Value.str (Str.ofString "/claim/cut.py") 565, Value.int 151 0, Value.int 3 0, Value.int 0 0, Value.int 0 0, Value.int 3 0, Value.ref 300, Value.bool true, Value.int 181 0, Value.ref 301, Value.none, Value.ref 302, Value.ref 303, Value.ref 304, Value.int 569 0, Value.int 151 0, Value.str (Str.ofString "/claim/cut.py") 570] }) ::
  (nat_lit 306, fnO (stm2 17 2) (Str.ofString "Lookup.get") (Str.ofString "paperhold.objects") 375 .none 305) ::
  (nat_lit 308, { cls := Value.type "dict", data := Data.dict #[{ hash := PyData.keyHash P (Str.ofString "__module__"), key := Value.str (Str.ofString "__module__") 537, val := Value.str (Str.ofString "paperhold.objects") 375 }, { hash := PyData.keyHash P (Str.ofString "__firstlineno__"), key := Value.str (Str.ofString "__firstlineno__") 541, val := Value.int 134 540 }, { hash := PyData.keyHash P (Str.ofString "__init__"), key := Value.str (Str.ofString "__init__") 550, val := Value.ref 292 }, { hash := PyData.keyHash P (Str.ofString "fetch"), key := Value.str (Str.ofString "fetch") 562, val := Value.ref 299 }, { hash := PyData.keyHash P (Str.ofString "get"), key := Value.str (Str.ofString "get") 571, val := Value.ref 306 }, { hash := PyData.keyHash P (Str.ofString "__static_attributes__"), key := Value.str (Str.ofString "__static_attributes__") 574, val := Value.ref 307 }, { hash := PyData.keyHash P (Str.ofString "__dict__"), key := Value.str (Str.ofString "__dict__") 576, val := Value.ref 310 }, { hash := PyData.keyHash P (Str.ofString "__weakref__"), key := Value.str (Str.ofString "__weakref__") 578, val := Value.ref 311 }, { hash := PyData.keyHash P (Str.ofString "__doc__"), key := Value.str (Str.ofString "__doc__") 579, val := Value.none }] 4 }) ::
  (nat_lit 309, { cls := Value.type "type", data := Data.cls { name := Str.ofString "Lookup", bases := [Value.type "object"], mro := [Value.ref 309, Value.type "object"], ns := 308, qualname := Str.ofString "Lookup", subclasses := [Value.ref 363] }, slots := #[none, none, some (Value.str (Str.ofString "Lookup") 530), some (Value.str (Str.ofString "Lookup") 538), some (Value.builtin "object.__new__"), some (Value.bool true)] }) ::
  (nat_lit 326, { cls := Value.type "code", data := Data.fields #[Value.str (Str.ofString "put") 594, Value.str (Str.ofString "Shelf.put") 595, Value.str (Str.ofString "/claim/cut.py") 596, Value.int 155 0, Value.int 4 0, Value.int 0 0, Value.int 0 0, Value.int 3 0, Value.ref 321, Value.bool true, Value.int 181 0, Value.ref 322, Value.none, Value.ref 323, Value.ref 324, Value.ref 325, Value.int 601 0, Value.int 155 0, Value.str (Str.ofString "/claim/cut.py") 602] }) ::
  (nat_lit 327, fnO (stm2 18 0) (Str.ofString "Shelf.put") (Str.ofString "paperhold.objects") 375 .none 326) ::
  (nat_lit 333, { cls := Value.type "code", data := Data.fields #[Value.str (Str.ofString "add") 604, Value.str (Str.ofString "Shelf.add") 605, Value.str (Str.ofString "/claim/cut.py") 606, Value.int 158 0, Value.int 2 0, Value.int 0 0, Value.int 0 0, Value.int 3 0, Value.ref 328, Value.bool true, Value.int 181 0, Value.ref 329, Value.none, Value.ref 330, Value.ref 331, Value.ref 332, Value.int 610 0, Value.int 158 0, Value.str (Str.ofString "/claim/cut.py") 611] }) ::
  (nat_lit 334, fnO (stm2 18 1) (Str.ofString "Shelf.add") (Str.ofString "paperhold.objects") 375 .none 333) ::
  (nat_lit 362, { cls := Value.type "dict", data := Data.dict #[{ hash := PyData.keyHash P (Str.ofString "__module__"), key := Value.str (Str.ofString "__module__") 589, val := Value.str (Str.ofString "paperhold.objects") 375 }, { hash := PyData.keyHash P (Str.ofString "__firstlineno__"), key := Value.str (Str.ofString "__firstlineno__") 593, val := Value.int 153 592 }, { hash := PyData.keyHash P (Str.ofString "put"), key := Value.str (Str.ofString "put") 603, val := Value.ref 327 }, { hash := PyData.keyHash P (Str.ofString "add"), key := Value.str (Str.ofString "add") 612, val := Value.ref 334 }, { hash := PyData.keyHash P (Str.ofString "drop"), key := Value.str (Str.ofString "drop") 620, val := Value.ref 341 }, { hash := PyData.keyHash P (Str.ofString "numbers"), key := Value.str (Str.ofString "numbers") 627, val := Value.ref 348 }, { hash := PyData.keyHash P (Str.ofString "root"), key := Value.str (Str.ofString "root") 634, val := Value.ref 355 }, { hash := PyData.keyHash P (Str.ofString "told"), key := Value.str (Str.ofString "told") 640, val := Value.ref 360 }, { hash := PyData.keyHash P (Str.ofString "__static_attributes__"), key := Value.str (Str.ofString "__static_attributes__") 641, val := Value.ref 361 }, { hash := PyData.keyHash P (Str.ofString "__doc__"), key := Value.str (Str.ofString "__doc__") 642, val := Value.none }] 2 }) ::
  (nat_lit 363, { cls := Value.type "type", data := Data.cls { name := Str.ofString "Shelf", bases := [Value.ref 309], mro := [Value.ref 363, Value.ref 309, Value.type "object"], ns := 362, qualname := Str.ofString "Shelf" }, slots := #[some (Value.ref 314), none, some (Value.str (Str.ofString "Shelf") 582), some (Value.str (Str.ofString "Shelf") 590), some (Value.builtin "object.__new__"), some (Value.bool true)] }) ::
  (nat_lit 366, { cls := Value.type "tuple", data := Data.seq #[Value.str (Str.ofString "Pattern") 653, Value.str (Str.ofString "Indexed") 654, Value.str (Str.ofString "Separation") 655, Value.str (Str.ofString "DeviceN") 656] }) ::
  (nat_lit 374, { cls := Value.type "tuple", data := Data.seq #[] }) ::
  (nat_lit 375, { cls := Value.type "tuple", data := Data.seq #[Value.none, Value.bytes #[] 670, Value.int 0 671, Value.none, Value.ref 374] }) ::
  (nat_lit 381, { cls := Value.type "code", data := Data.fields #[Value.str (Str.ofString "__init__") 672, Value.str (Str.ofString "Space.__init__") 673, Value.str (Str.ofString "/claim/cut.py") 674, Value.int 184 0, Value.int 8 0, Value.int 0 0, Value.int 0 0, Value.int 3 0, Value.ref 376, Value.bool true, Value.int 181 0, Value.ref 377, Value.none, Value.ref 378, Value.ref 379, Value.ref 380, Value.int 683 0, Value.int 184 0, Value.str (Str.ofString "/claim/cut.py") 684] }) ::
  (nat_lit 382, fnO (stm2 24 0) (Str.ofString "Space.__init__") (Str.ofString "paperhold.colours") 645 (.ref 375) 381) ::
  (nat_lit 388, { cls := Value.type "code", data := Data.fields #[Value.str (Str.ofString "told") 686, Value.str (Str.ofString "Space.told") 687, Value.str (Str.ofString "/claim/cut.py") 688, Value.int 193 0, Value.int 1 0, Value.int 0 0, Value.int 0 0, Value.int 3 0, Value.ref 383, Value.bool true, Value.int 181 0, Value.ref 384, Value.none, Value.ref 385, Value.ref 386, Value.ref 387, Value.int 691 0, Value.int 193 0, Value.str (Str.ofString "/claim/cut.py") 692] }) ::
  (nat_lit 389, fnO (stm2 24 1) (Str.ofString "Space.told") (Str.ofString "paperhold.colours") 645 .none 388) ::
  (nat_lit 391, { cls := Value.type "dict", data := Data.dict #[{ hash := PyData.keyHash P (Str.ofString "__module__"), key := Value.str (Str.ofString "__module__") 665, val := Value.str (Str.ofString "paperhold.colours") 645 }, { hash := PyData.keyHash P (Str.ofString "__firstlineno__"), key := Value.str (Str.ofString "__firstlineno__") 669, val := Value.int 182 668 }, { hash := PyData.keyHash P (Str.ofString "__init__"), key := Value.str (Str.ofString "__init__") 685, val := Value.ref 382 }, { hash := PyData.keyHash P (Str.ofString "told"), key := Value.str (Str.ofString "told") 693, val := Value.ref 389 }, { hash := PyData.keyHash P (Str.ofString "__static_attributes__"), key := Value.str (Str.ofString "__static_attributes__") 701, val := Value.ref 390 }, { hash := PyData.keyHash P (Str.ofString "__dict__"), key := Value.str (Str.ofString "__dict__") 703, val := Value.ref 393 }, { hash := PyData.keyHash P (Str.ofString "__weakref__"), key := Value.str (Str.ofString "__weakref__") 705, val := Value.ref 394 }, { hash := PyData.keyHash P (Str.ofString "__doc__"), key := Value.str (Str.ofString "__doc__") 706, val := Value.none }] 4 }) ::
  (nat_lit 392, { cls := Value.type "type", data := Data.cls { name := Str.ofString "Space", bases := [Value.type "object"], mro := [Value.ref 392, Value.type "object"], ns := 391, qualname := Str.ofString "Space" }, slots := #[none, none, some (Value.str (Str.ofString "Space") 658), some (Value.str (Str.ofString "Space") 666), some (Value.builtin "object.__new__"), some (Value.bool true)] }) ::
  (nat_lit 402, { cls := Value.type "code", data := Data.fields #[Value.str (Str.ofString "device_spaces") 709, Value.str (Str.ofString "device_spaces") 710, Value.str (Str.ofString "/claim/cut.py") 711, Value.int 196 0, Value.int 0 0, Value.int 0 0, Value.int 0 0, Value.int 3 0, Value.ref 397, Value.bool true, Value.int 181 0, Value.ref 398, Value.none, Value.ref 399, Value.ref 400, Value.ref 401, Value.int 712 0, Value.int 196 0, Value.str (Str.ofString "/claim/cut.py") 713] }) ::
  (nat_lit 403, fnO (stm 25) (Str.ofString "device_spaces") (Str.ofString "paperhold.colours") 645 .none 402) ::
  (nat_lit 409, { cls := Value.type "code", data := Data.fields #[Value.str (Str.ofString "device_space") 715, Value.str (Str.ofString "device_space") 716, Value.str (Str.ofString "/claim/cut.py") 717, Value.int 198 0, Value.int 1 0, Value.int 0 0, Value.int 0 0, Value.int 3 0, Value.ref 404, Value.bool true, Value.int 181 0, Value.ref 405, Value.none, Value.ref 406, Value.ref 407, Value.ref 408, Value.int 719 0, Value.int 198 0, Value.str (Str.ofString "/claim/cut.py") 720] }) ::
  (nat_lit 410, fnO (stm 26) (Str.ofString "device_space") (Str.ofString "paperhold.colours") 645 .none 409) ::
  (nat_lit 416, { cls := Value.type "code", data := Data.fields #[Value.str (Str.ofString "device_of_count") 722, Value.str (Str.ofString "device_of_count") 723, Value.str (Str.ofString "/claim/cut.py") 724, Value.int 200 0, Value.int 1 0, Value.int 0 0, Value.int 0 0, Value.int 3 0, Value.ref 411, Value.bool true, Value.int 181 0, Value.ref 412, Value.none, Value.ref 413, Value.ref 414, Value.ref 415, Value.int 728 0, Value.int 200 0, Value.str (Str.ofString "/claim/cut.py") 729] }) ::
  (nat_lit 417, fnO (stm 27) (Str.ofString "device_of_count") (Str.ofString "paperhold.colours") 645 .none 416) ::
  (nat_lit 430, { cls := Value.type "code", data := Data.fields #[Value.str (Str.ofString "__init__") 743, Value.str (Str.ofString "Source.__init__") 744, Value.str (Str.ofString "/claim/cut.py") 745, Value.int 207 0, Value.int 4 0, Value.int 0 0, Value.int 0 0, Value.int 3 0, Value.ref 425, Value.bool true, Value.int 181 0, Value.ref 426, Value.none, Value.ref 427, Value.ref 428, Value.ref 429, Value.int 750 0, Value.int 207 0, Value.str (Str.ofString "/claim/cut.py") 751] }) ::
  (nat_lit 431, fnO (stm2 28 0) (Str.ofString "Source.__init__") (Str.ofString "paperhold.colours") 645 .none 430) ::
  (nat_lit 437, { cls := Value.type "code", data := Data.fields #[Value.str (Str.ofString "fetch") 753, Value.str (Str.ofString "Source.fetch") 754, Value.str (Str.ofString "/claim/cut.py") 755, Value.int 212 0, Value.int 2 0, Value.int 0 0, Value.int 0 0, Value.int 3 0, Value.ref 432, Value.bool true, Value.int 181 0, Value.ref 433, Value.none, Value.ref 434, Value.ref 435, Value.ref 436, Value.int 758 0, Value.int 212 0, Value.str (Str.ofString "/claim/cut.py") 759] }) ::
  (nat_lit 438, fnO (stm2 28 1) (Str.ofString "Source.fetch") (Str.ofString "paperhold.colours") 645 .none 437) ::
  (nat_lit 444, { cls := Value.type "code", data := Data.fields #[Value.str (Str.ofString "named") 761, Value.str (Str.ofString "Source.named") 762, Value.str (Str.ofString "/claim/cut.py") 763, Value.int 215 0, Value.int 2 0, Value.int 0 0, Value.int 0 0, Value.int 3 0, Value.ref 439, Value.bool true, Value.int 181 0, Value.ref 440, Value.none, Value.ref 441, Value.ref 442, Value.ref 443, Value.int 767 0, Value.int 215 0, Value.str (Str.ofString "/claim/cut.py") 768] }) ::
  (nat_lit 445, fnO (stm2 28 2) (Str.ofString "Source.named") (Str.ofString "paperhold.colours") 645 .none 444) ::
  (nat_lit 447, { cls := Value.type "dict", data := Data.dict #[{ hash := PyData.keyHash P (Str.ofString "__module__"), key := Value.str (Str.ofString "__module__") 738, val := Value.str (Str.ofString "paperhold.colours") 645 }, { hash := PyData.keyHash P (Str.ofString "__firstlineno__"), key := Value.str (Str.ofString "__firstlineno__") 742, val := Value.int 205 741 }, { hash := PyData.keyHash P (Str.ofString "__init__"), key := Value.str (Str.ofString "__init__") 752, val := Value.ref 431 }, { hash := PyData.keyHash P (Str.ofString "fetch"), key := Value.str (Str.ofString "fetch") 760, val := Value.ref 438 }, { hash := PyData.keyHash P (Str.ofString "named"), key := Value.str (Str.ofString "named") 769, val := Value.ref 445 }, { hash := PyData.keyHash P (Str.ofString "__static_attributes__"), key := Value.str (Str.ofString "__static_attributes__") 773, val := Value.ref 446 }, { hash := PyData.keyHash P (Str.ofString "__dict__"), key := Value.str (Str.ofString "__dict__") 775, val := Value.ref 449 }, { hash := PyData.keyHash P (Str.ofString "__weakref__"), key := Value.str (Str.ofString "__weakref__") 777, val := Value.ref 450 }, { hash := PyData.keyHash P (Str.ofString "__doc__"), key := Value.str (Str.ofString "__doc__") 778, val := Value.none }] 4 }) ::
  (nat_lit 448, { cls := Value.type "type", data := Data.cls { name := Str.ofString "Source", bases := [Value.type "object"], mro := [Value.ref 448, Value.type "object"], ns := 447, qualname := Str.ofString "Source" }, slots := #[none, none, some (Value.str (Str.ofString "Source") 731), some (Value.str (Str.ofString "Source") 739), some (Value.builtin "object.__new__"), some (Value.bool true)] }) ::
  (nat_lit 453, { cls := Value.type "tuple", data := Data.seq #[Value.none] }) ::
  (nat_lit 459, { cls := Value.type "code", data := Data.fields #[Value.str (Str.ofString "space_of") 781, Value.str (Str.ofString "space_of") 782, Value.str (Str.ofString "/claim/cut.py") 783, Value.int 218 0, Value.int 4 0, Value.int 0 0, Value.int 0 0, Value.int 3 0, Value.ref 454, Value.bool true, Value.int 181 0, Value.ref 455, Value.none, Value.ref 456, Value.ref 457, Value.ref 458, Value.int 788 0, Value.int 218 0, Value.str (Str.ofString "/claim/cut.py") 789] }) ::
  (nat_lit 460, fnO (stm 29) (Str.ofString "space_of") (Str.ofString "paperhold.colours") 645 (.ref 453) 459) ::
  (nat_lit 466, { cls := Value.type "code", data := Data.fields #[Value.str (Str.ofString "space_within") 791, Value.str (Str.ofString "space_within") 792, Value.str (Str.ofString "/claim/cut.py") 793, Value.int 220 0, Value.int 3 0, Value.int 0 0, Value.int 0 0, Value.int 3 0, Value.ref 461, Value.bool true, Value.int 181 0, Value.ref 462, Value.none, Value.ref 463, Value.ref 464, Value.ref 465, Value.int 799 0, Value.int 220 0, Value.str (Str.ofString "/claim/cut.py") 800] }) ::
  (nat_lit 467, fnO (stm 30) (Str.ofString "space_within") (Str.ofString "paperhold.colours") 645 .none 466) ::
  (nat_lit 473, { cls := Value.type "code", data := Data.fields #[Value.str (Str.ofString "space_by_name") 802, Value.str (Str.ofString "space_by_name") 803, Value.str (Str.ofString "/claim/cut.py") 804, Value.int 234 0, Value.int 3 0, Value.int 0 0, Value.int 0 0, Value.int 3 0, Value.ref 468, Value.bool true, Value.int 181 0, Value.ref 469, Value.none, Value.ref 470, Value.ref 471, Value.ref 472, Value.int 809 0, Value.int 234 0, Value.str (Str.ofString "/claim/cut.py") 810] }) ::
  (nat_lit 474, fnO (stm 31) (Str.ofString "space_by_name") (Str.ofString "paperhold.colours") 645 .none 473) ::
  (nat_lit 480, { cls := Value.type "code", data := Data.fields #[Value.str (Str.ofString "default_space") 812, Value.str (Str.ofString "default_space") 813, Value.str (Str.ofString "/claim/cut.py") 814, Value.int 243 0, Value.int 3 0, Value.int 0 0, Value.int 0 0, Value.int 3 0, Value.ref 475, Value.bool true, Value.int 181 0, Value.ref 476, Value.none, Value.ref 477, Value.ref 478, Value.ref 479, Value.int 820 0, Value.int 243 0, Value.str (Str.ofString "/claim/cut.py") 821] }) ::
  (nat_lit 481, fnO (stm 32) (Str.ofString "default_space") (Str.ofString "paperhold.colours") 645 .none 480) ::
  (nat_lit 487, { cls := Value.type "code", data := Data.fields #[Value.str (Str.ofString "space_by_array") 823, Value.str (Str.ofString "space_by_array") 824, Value.str (Str.ofString "/claim/cut.py") 825, Value.int 251 0, Value.int 4 0, Value.int 0 0, Value.int 0 0, Value.int 3 0, Value.ref 482, Value.bool true, Value.int 181 0, Value.ref 483, Value.none, Value.ref 484, Value.ref 485, Value.ref 486, Value.int 832 0, Value.int 251 0, Value.str (Str.ofString "/claim/cut.py") 833] }) ::
  (nat_lit 488, fnO (stm 33) (Str.ofString "space_by_array") (Str.ofString "paperhold.colours") 645 .none 487) ::
  (nat_lit 494, { cls := Value.type "code", data := Data.fields #[Value.str (Str.ofString "base_space") 835, Value.str (Str.ofString "base_space") 836, Value.str (Str.ofString "/claim/cut.py") 837, Value.int 267 0, Value.int 4 0, Value.int 0 0, Value.int 0 0, Value.int 3 0, Value.ref 489, Value.bool true, Value.int 181 0, Value.ref 490, Value.none, Value.ref 491, Value.ref 492, Value.ref 493, Value.int 843 0, Value.int 267 0, Value.str (Str.ofString "/claim/cut.py") 844] }) ::
  (nat_lit 495, fnO (stm 34) (Str.ofString "base_space") (Str.ofString "paperhold.colours") 645 .none 494) ::
  (nat_lit 501, { cls := Value.type "code", data := Data.fields #[Value.str (Str.ofString "profile_space") 846, Value.str (Str.ofString "profile_space") 847, Value.str (Str.ofString "/claim/cut.py") 848, Value.int 272 0, Value.int 3 0, Value.int 0 0, Value.int 0 0, Value.int 3 0, Value.ref 496, Value.bool true, Value.int 181 0, Value.ref 497, Value.none, Value.ref 498, Value.ref 499, Value.ref 500, Value.int 854 0, Value.int 272 0, Value.str (Str.ofString "/claim/cut.py") 855] }) ::
  (nat_lit 502, fnO (stm 35) (Str.ofString "profile_space") (Str.ofString "paperhold.colours") 645 .none 501) ::
  (nat_lit 508, { cls := Value.type "code", data := Data.fields #[Value.str (Str.ofString "indexed_space") 857, Value.str (Str.ofString "indexed_space") 858, Value.str (Str.ofString "/claim/cut.py") 859, Value.int 282 0, Value.int 3 0, Value.int 0 0, Value.int 0 0, Value.int 3 0, Value.ref 503, Value.bool true, Value.int 181 0, Value.ref 504, Value.none, Value.ref 505, Value.ref 506, Value.ref 507, Value.int 868 0, Value.int 282 0, Value.str (Str.ofString "/claim/cut.py") 869] }) ::
  (nat_lit 509, fnO (stm 36) (Str.ofString "indexed_space") (Str.ofString "paperhold.colours") 645 .none 508) ::
  (nat_lit 515, { cls := Value.type "code", data := Data.fields #[Value.str (Str.ofString "opened") 871, Value.str (Str.ofString "opened") 872, Value.str (Str.ofString "/claim/cut.py") 873, Value.int 295 0, Value.int 2 0, Value.int 0 0, Value.int 0 0, Value.int 3 0, Value.ref 510, Value.bool true, Value.int 181 0, Value.ref 511, Value.none, Value.ref 512, Value.ref 513, Value.ref 514, Value.int 876 0, Value.int 295 0, Value.str (Str.ofString "/claim/cut.py") 877] }) ::
  (nat_lit 516, fnO (stm 37) (Str.ofString "opened") (Str.ofString "paperhold.colours") 645 .none 515) ::
  (nat_lit 522, { cls := Value.type "code", data := Data.fields #[Value.str (Str.ofString "ink_space") 879, Value.str (Str.ofString "ink_space") 880, Value.str (Str.ofString "/claim/cut.py") 881, Value.int 301 0, Value.int 5 0, Value.int 0 0, Value.int 0 0, Value.int 3 0, Value.ref 517, Value.bool true, Value.int 181 0, Value.ref 518, Value.none, Value.ref 519, Value.ref 520, Value.ref 521, Value.int 892 0, Value.int 301 0, Value.str (Str.ofString "/claim/cut.py") 893] }) ::
  (nat_lit 523, fnO (stm 38) (Str.ofString "ink_space") (Str.ofString "paperhold.colours") 645 .none 522) ::
  (nat_lit 524, { cls := Value.type "tuple", data := Data.seq #[Value.str (Str.ofString "DeviceGray") 897, Value.str (Str.ofString "DeviceRGB") 898, Value.str (Str.ofString "DeviceCMYK") 899] }) ::
  (nat_lit 528, { cls := Value.type "code", data := Data.fields #[Value.str (Str.ofString "_law_pen") 901, Value.str (Str.ofString "_law_pen") 902, Value.str (Str.ofString "/claim/cut.py") 903, Value.int 317 0, Value.int 1 0, Value.int 0 0, Value.int 0 0, Value.int 3 0, Value.ref 525, Value.bool true, Value.int 181 0, Value.ref 526, Value.none, Value.none, Value.none, Value.ref 527, Value.int 904 0, Value.int 317 0, Value.str (Str.ofString "/claim/cut.py") 905] }) ::
  (nat_lit 529, fnO (stm 41) (Str.ofString "_law_pen") (Str.ofString "law_pq0824_01") 895 .none 528) ::
  (nat_lit 535, { cls := Value.type "code", data := Data.fields #[Value.str (Str.ofString "_law_draw") 907, Value.str (Str.ofString "_law_draw") 908, Value.str (Str.ofString "/claim/cut.py") 909, Value.int 319 0, Value.int 2 0, Value.int 0 0, Value.int 0 0, Value.int 3 0, Value.ref 530, Value.bool true, Value.int 181 0, Value.ref 531, Value.none, Value.ref 532, Value.ref 533, Value.ref 534, Value.int 917 0, Value.int 319 0, Value.str (Str.ofString "/claim/cut.py") 918] }) ::
  (nat_lit 536, fnO (stm 42) (Str.ofString "_law_draw") (Str.ofString "law_pq0824_01") 895 .none 535) ::
  (nat_lit 540, { cls := Value.type "code", data := Data.fields #[Value.str (Str.ofString "_law_default") 920, Value.str (Str.ofString "_law_default") 921, Value.str (Str.ofString "/claim/cut.py") 922, Value.int 336 0, Value.int 3 0, Value.int 0 0, Value.int 0 0, Value.int 3 0, Value.ref 537, Value.bool true, Value.int 181 0, Value.ref 538, Value.none, Value.none, Value.none, Value.ref 539, Value.int 923 0, Value.int 336 0, Value.str (Str.ofString "/claim/cut.py") 924] }) ::
  (nat_lit 541, fnO (stm 43) (Str.ofString "_law_default") (Str.ofString "law_pq0824_01") 895 .none 540) ::
  (nat_lit 547, { cls := Value.type "code", data := Data.fields #[Value.str (Str.ofString "_law_heard") 926, Value.str (Str.ofString "_law_heard") 927, Value.str (Str.ofString "/claim/cut.py") 928, Value.int 355 0, Value.int 3 0, Value.int 0 0, Value.int 0 0, Value.int 3 0, Value.ref 542, Value.bool true, Value.int 181 0, Value.ref 543, Value.none, Value.ref 544, Value.ref 545, Value.ref 546, Value.int 933 0, Value.int 355 0, Value.str (Str.ofString "/claim/cut.py") 934] }) ::
  (nat_lit 548, fnO (stm 44) (Str.ofString "_law_heard") (Str.ofString "law_pq0824_01") 895 .none 547) ::
  (nat_lit 554, { cls := Value.type "code", data := Data.fields #[Value.str (Str.ofString "_law_nested") 936, Value.str (Str.ofString "_law_nested") 937, Value.str (Str.ofString "/claim/cut.py") 938, Value.int 362 0, Value.int 3 0, Value.int 0 0, Value.int 0 0, Value.int 3 0, Value.ref 549, Value.bool true, Value.int 181 0, Value.ref 550, Value.none, Value.ref 551, Value.ref 552, Value.ref 553, Value.int 944 0, Value.int 362 0, Value.str (Str.ofString "/claim/cut.py") 945] }) ::
  (nat_lit 555, fnO (stm 45) (Str.ofString "_law_nested") (Str.ofString "law_pq0824_01") 895 .none 554) ::
  (nat_lit 561, { cls := Value.type "code", data := Data.fields #[Value.str (Str.ofString "_law_named") 947, Value.str (Str.ofString "_law_named") 948, Value.str (Str.ofString "/claim/cut.py") 949, Value.int 367 0, Value.int 3 0, Value.int 0 0, Value.int 0 0, Value.int 3 0, Value.ref 556, Value.bool true, Value.int 181 0, Value.ref 557, Value.none, Value.ref 558, Value.ref 559, Value.ref 560, Value.int 955 0, Value.int 367 0, Value.str (Str.ofString "/claim/cut.py") 956] }) ::
  (nat_lit 562, fnO (stm 46) (Str.ofString "_law_named") (Str.ofString "law_pq0824_01") 895 .none 561) ::
  (nat_lit 568, { cls := Value.type "code", data := Data.fields #[Value.str (Str.ofString "law") 958, Value.str (Str.ofString "law") 959, Value.str (Str.ofString "/claim/cut.py") 960, Value.int 373 0, Value.int 1 0, Value.int 0 0, Value.int 0 0, Value.int 3 0, Value.ref 563, Value.bool true, Value.int 181 0, Value.ref 564, Value.none, Value.ref 565, Value.ref 566, Value.ref 567, Value.int 981 0, Value.int 373 0, Value.str (Str.ofString "/claim/cut.py") 982] }) ::
  (nat_lit 569, fnO (stm 47) (Str.ofString "law") (Str.ofString "law_pq0824_01") 895 .none 568) :: []
noncomputable def as : List Addr := [2, 3, 29, 35, 36, 45, 46, 58, 59, 154, 155, 179, 180, 182, 183, 195, 201, 202, 204, 205, 222, 223, 225, 226, 243, 244, 253, 254, 264, 265, 271, 272, 276, 277, 285, 291, 292, 298, 299, 305, 306, 308, 309, 326, 327, 333, 334, 362, 363, 366, 374, 375, 381, 382, 388, 389, 391, 392, 402, 403, 409, 410, 416, 417, 430, 431, 437, 438, 444, 445, 447, 448, 453, 459, 460, 466, 467, 473, 474, 480, 481, 487, 488, 494, 495, 501, 502, 508, 509, 515, 516, 522, 523, 524, 528, 529, 535, 536, 540, 541, 547, 548, 554, 555, 561, 562, 568, 569]
end HN
end
section
open PySem PySem.W PySem.Calls PyProof.Rows
set_option Elab.async false
set_option maxRecDepth 100000
set_option maxHeartbeats 4000000
namespace HN
/-- the top, run on a tree of objects -/
noncomputable def runTr (tb : String → Option Builtin) (p : Program) (w : World) (n₀ : Nat) (ann : Option Value) : Nat → SharedT → Thread → Option SharedT
  | 0, _, _ => none
  | n + 1, s, t => match through t with
    | true => some s
    | false => match stepOk n₀ ann t with
      | false => none
      | true => match stepT (denote tb) p w s t with
        | some (s', t') => runTr tb p w n₀ ann n s' t'
        | none => none
theorem runTr_of {tb : String → Option Builtin} {p : Program} {w : World} {n₀ : Nat} {ann : Option Value} : ∀ {n : Nat} {s s' : SharedT} {t : Thread}, runTr tb p w n₀ ann n s t = some s' → topRun tb p w n₀ ann n s.abs t = some s'.abs
  | 0, _, _, _, h => by cases h
  | n + 1, s, s', t, h => by
    unfold runTr at h
    unfold topRun
    cases he : through t with
    | true => rw [he] at h; cases h; rfl
    | false =>
      rw [he] at h
      cases hk : stepOk n₀ ann t with
      | false => rw [hk] at h; cases h
      | true =>
        rw [hk] at h
        cases hs : stepT (denote tb) p w s t with
        | none => rw [hs] at h; cases h
        | some r => obtain ⟨s₂, t₂⟩ := r; rw [hs] at h; rw [stepT_spec hs]; exact runTr_of h
/-- the same by the library's quick forms -/
noncomputable def runQ (p : Program) (w : World) (n₀ : Nat) (ann : Option Value) : Nat → SharedT → Thread → Option SharedT
  | 0, _, _ => none
  | n + 1, s, t => match through t with
    | true => some s
    | false => match PySem.W.Fast.tw6613529449190102663 n₀ ann t with
      | false => none
      | true => match PySem.W.Fast.tw10156331382660048174 (PySem.W.Fast.tw11892475500146522536 PySem.W.Fast.tw14364793385576792824) p w s t with
        | some (s', t') => runQ p w n₀ ann n s' t'
        | none => none
theorem runQ_eq {p : Program} {w : World} {n₀ : Nat} {ann : Option Value} : ∀ (n : Nat) (s : SharedT) (t : Thread), runTr treeTable p w n₀ ann n s t = runQ p w n₀ ann n s t
  | 0, _, _ => rfl
  | n + 1, s, t => by
    have e1 : @stepOk = PySem.W.Fast.tw6613529449190102663 := PySem.W.Fast.te6613529449190102663
    have e2 : stepT (denote treeTable) = PySem.W.Fast.tw10156331382660048174 (PySem.W.Fast.tw11892475500146522536 PySem.W.Fast.tw14364793385576792824) := by
      rw [PySem.W.Fast.te10156331382660048174, PySem.W.Fast.te11892475500146522536, PySem.W.Fast.te14364793385576792824]
    unfold runTr runQ
    rw [e1, e2]
    split
    · rfl
    · split
      · rfl
      · split
        · exact runQ_eq n _ _
        · rfl
noncomputable def treeOf : List Obj → Nat → BT → BT
  | [], _, t => t
  | o :: r, n, t => treeOf r (n + 1) (t.ins n o)
noncomputable def S0 (w : World) (os : OsState) : SharedT := ⟨treeOf (boot_heap w.params).objs.toList 0 .nil, 11, (boot_heap w.params).life, #[], boot_drawn, boot_toks, os⟩
theorem S0_abs (w : World) (os : OsState) : (S0 w os).abs = ⟨boot_heap w.params, #[], boot_drawn, boot_toks, os⟩ := by kernel_rfl
noncomputable def obsK (s : SharedT) : List (Option Obj) := as.map s.abs.heap.get?
set_option maxHeartbeats 0
end HN
end
section
open PySem PySem.W PySem.Calls PyProof.Rows
set_option Elab.async false
set_option maxRecDepth 100000
set_option maxHeartbeats 0
namespace HN
theorem law_said : PySem.Challenge.rw_pq0824_01.wellSaid = true := by
  rw [show @OpenLaw.wellSaid = PySem.W.Fast.tw9446332074065402090 from PySem.W.Fast.te9446332074065402090]
  unfold PySem.W.Fast.tw9446332074065402090
  repeat' (with_reducible refine look_both ?_ ?_)
  all_goals try unfold PySem.W.Fast.tw17960256430627541270
  repeat' (with_reducible refine look_both ?_ ?_)
  all_goals try unfold PySem.W.Fast.tw2436336058641802641
  repeat' (with_reducible refine look_both ?_ ?_)
  all_goals try unfold PySem.W.Fast.tw12908688711261696721
  repeat' (with_reducible refine look_both ?_ ?_)
  all_goals decide +kernel
end HN
end
section
open PySem PySem.W PySem.Calls PyProof.Rows
set_option Elab.async false
set_option maxRecDepth 100000
set_option maxHeartbeats 0
namespace HN
noncomputable def keep : List Nat := [0, 2, 3, 5, 6, 8, 9, 10, 11, 12, 13, 14, 15, 16, 17, 18, 20, 21, 22, 23, 24, 25, 26, 27, 28, 30, 31, 32, 33, 34, 35, 36, 37, 38, 40, 41, 42, 43, 44, 45, 46, 47]
noncomputable def q : Program := view pw keep
noncomputable def loose : List Str := [Str.ofString "PaperError", Str.ofString "told_objects", Str.ofString "Space", Str.ofString "space_of"]
noncomputable def run (w : World) (os : OsState) : Option SharedT := runQ pw w 11 (some (.ref 6)) 4200 (S0 w os) (topStub pw)
noncomputable abbrev Xf (s : Shared) : Bool := xlAt q [] s && recOk [] s
theorem chkA (w : World) : (fun os => (run w os).map (fun s => ((staticsOk (importedModules pw.main.body) (boot_heap w.params) s.abs.heap && namesBound pw s.abs.heap && gensDone s.abs && laidKept (boot_heap w.params) s.abs.heap), (PySem.W.Fast.tw4187177175401517315 q loose (importedModules pw.main.body) Xf true s.abs).2.1, (PySem.W.Fast.tw4187177175401517315 q loose (importedModules pw.main.body) Xf true s.abs).2.2.2.2.1, (PySem.W.Fast.tw4187177175401517315 q loose (importedModules pw.main.body) Xf true s.abs).2.2.2.2.2.2.2.2, as.map s.abs.heap.get?))) = (fun _ => some (true, bltViewBooted, (pinGoodD (drecsOf q)), (clsGoodW q loose), ((K w.params).map fun p => some p.2))) := by kernel_rfl
end HN
end
section
open PySem PySem.W PySem.Calls PyProof.Rows
set_option Elab.async false
set_option maxRecDepth 100000
set_option maxHeartbeats 0
namespace HN
theorem chkB (w : World) : (fun os => (run w os).map (fun s => ((PySem.W.Fast.tw4187177175401517315 q loose (importedModules pw.main.body) Xf true s.abs).1, (PySem.W.Fast.tw4187177175401517315 q loose (importedModules pw.main.body) Xf true s.abs).2.2.2.2.2.2.1, (PySem.W.Fast.tw4187177175401517315 q loose (importedModules pw.main.body) Xf true s.abs).2.2.2.2.2.2.2.1))) = (fun _ => some ((expectedOf q), (plainGoodD q loose), (wideGood q))) := by kernel_rfl
end HN
end
section
open PySem PySem.W PySem.Calls PyProof.Rows
set_option Elab.async false
set_option maxRecDepth 100000
set_option maxHeartbeats 0
namespace HN
theorem chkC (w : World) : (fun os => (run w os).map (fun s => ((PySem.W.Fast.tw4187177175401517315 q loose (importedModules pw.main.body) Xf true s.abs).2.2.1, (PySem.W.Fast.tw4187177175401517315 q loose (importedModules pw.main.body) Xf true s.abs).2.2.2.1))) = (fun _ => some (true, true)) := by kernel_rfl
end HN
end
section
open PySem PySem.W PySem.Calls PyProof.Rows
set_option Elab.async false
set_option maxRecDepth 100000
set_option maxHeartbeats 0
namespace HN
theorem chkD (w : World) : (fun os => (run w os).map (fun s => (PySem.W.Fast.tw4187177175401517315 q loose (importedModules pw.main.body) Xf true s.abs).2.2.2.2.2.1)) = (fun _ => some (plainGoodE q (looseW q loose))) := by kernel_rfl
end HN
end
section
open PySem PySem.W PySem.Calls PyProof.Rows
set_option Elab.async false
set_option maxRecDepth 100000
set_option maxHeartbeats 4000000
namespace HN
theorem as_ok (P : Params) : as = (K P).map (·.1) := by kernel_rfl
noncomputable abbrev H : Hook := kHook K as as_ok
theorem sees : @openSeen = PySem.W.Fast.tw4187177175401517315 := PySem.W.Fast.te4187177175401517315
theorem op1 : opening pw = plainProg pw.main.scope.names := by kernel_rfl
theorem op2 (s : Shared) : fenceModules? pw s = some s := by kernel_rfl
theorem z1 (w : World) : ((boot_heap w.params).isNs mainGlobals && (#[] : Array GenState).size == 0) = true := by kernel_rfl
theorem z2 (w : World) : (boot_heap w.params).objs.size = 11 := by kernel_rfl
theorem z3 (w : World) : (boot_heap w.params).nsMap mainGlobals "__annotations__" = some (.ref 6) := by kernel_rfl
theorem top_run {w : World} {os : OsState} {s : SharedT} (es : run w os = some s) : topRun treeTable pw w 11 (some (.ref 6)) (4200 + 4800) ⟨boot_heap w.params, #[], boot_drawn, boot_toks, os⟩ (topStub pw) = some s.abs := by
  have r : topRun treeTable pw w 11 (some (.ref 6)) 4200 (S0 w os).abs (topStub pw) = some s.abs := runTr_of ((runQ_eq 4200 (S0 w os) (topStub pw)).trans es)
  rw [S0_abs] at r
  exact topRun_mono 4800 _ _ _ _ r
theorem from_gen {p : Program} {w : World} {H₀ : Heap} {d : Drawn} {k N m : Nat} {a : Option Value} {os : OsState} {s : Shared} (z1 : (H₀.isNs mainGlobals && (#[] : Array GenState).size == 0) = true) (z2 : H₀.objs.size = m) (z3 : H₀.nsMap mainGlobals "__annotations__" = a)
    (r : topRun treeTable p w m a N ⟨H₀, #[], d, k, os⟩ (topStub p) = some s) (l : (staticsOk (importedModules p.main.body) H₀ s.heap && namesBound p s.heap && gensDone s && laidKept H₀ s.heap) = true) : topFrom treeTable p w N ⟨H₀, #[], d, k, os⟩ = some s := by
  unfold topFrom
  dsimp only
  rw [z1, z2, z3, r]
  show (match staticsOk (importedModules p.main.body) H₀ s.heap && namesBound p s.heap && gensDone s && laidKept H₀ s.heap with | true => _ | false => _) = _
  rw [l]
theorem left_gen {p q : Program} {loose : List Str} {Xt : Shared → Bool} {α : Type} {Yf : Shared → α} {Ya : World → α} {N : Nat} {w : World} {s₀ s : Shared} (e0 : fencedOpening treeTable p w N = some s₀) (t : topFrom treeTable p w N s₀ = some s)
    (l1 : openSeen q loose (importedModules p.main.body) Xt true s = openGood q loose) (l2 : Yf s = Ya w) : (openEnds treeTable p w N).map (fun s => (openSeen q loose (importedModules p.main.body) Xt true s, Yf s)) = some (openGood q loose, Ya w) := by
  unfold openEnds
  rw [e0]
  show (topFrom treeTable p w N _).map _ = _
  rw [t]
  exact congrArg some (Prod.ext l1 l2)
theorem left_open {p : Program} {N : Nat} {w : World} {H : Heap} {g : Array GenState} {d : Drawn} {k : Nat} (h : (fencedOpening treeTable p w N).map (fun s => (s.heap, s.gens, s.drawn, s.toks)) = some (H, g, d, k)) : ∃ os, fencedOpening treeTable p w N = some ⟨H, g, d, k, os⟩ := by
  obtain ⟨⟨h, gs, d, k, os⟩, e0, e1⟩ := Option.map_eq_some_iff.mp h
  simp only [Prod.mk.injEq] at e1
  obtain ⟨rfl, rfl, rfl, rfl⟩ := e1
  exact ⟨os, e0⟩
theorem nine {A B C D E F G I J : Type} {x : A × B × C × D × E × F × G × I × J} {a : A} {b : B} {c : C} {d : D} {e : E} {f : F} {g : G} {i : I} {j : J} (h0 : x.1 = a) (h1 : x.2.1 = b) (h2 : x.2.2.1 = c) (h3 : x.2.2.2.1 = d) (h4 : x.2.2.2.2.1 = e)
    (h5 : x.2.2.2.2.2.1 = f) (h6 : x.2.2.2.2.2.2.1 = g) (h7 : x.2.2.2.2.2.2.2.1 = i) (h8 : x.2.2.2.2.2.2.2.2 = j) : x = (a, b, c, d, e, f, g, i, j) := by
  subst h0 h1 h2 h3 h4 h5 h6 h7 h8
  rfl
theorem map_of {α β : Type} {o : Option α} {f : α → β} {s : α} {b : β} (es : o = some s) (h : o.map f = some b) : f s = b := by
  rw [es] at h
  exact Option.some.inj h
theorem run_some {α β : Type} {o : Option α} {f : α → β} {b : β} (h : o.map f = some b) : ∃ s, o = some s := by
  cases o with
  | none => cases h
  | some s => exact ⟨s, rfl⟩
theorem top_left : LeftO pw q loose Xf H.obs H.val (4200 + 4800) := by
  intro w
  obtain ⟨os, e0⟩ := left_open (boot_open (p := pw) (N := 4200 + 4800) op1 (by decide) op2 w)
  have hA := congrFun (chkA w) os
  have hB := congrFun (chkB w) os
  have hC := congrFun (chkC w) os
  have hD := congrFun (chkD w) os
  obtain ⟨s, es⟩ := run_some hA
  have hA := map_of es hA
  have hB := map_of es hB
  have hC := map_of es hC
  have hD := map_of es hD
  simp only [Prod.mk.injEq] at hA hB hC
  obtain ⟨a1, a2, a3, a4, a5⟩ := hA
  obtain ⟨b1, b2, b3⟩ := hB
  obtain ⟨c1, c2⟩ := hC
  refine left_gen e0 (from_gen (z1 w) (z2 w) (z3 w) (top_run es) a1) ?_ a5
  rw [sees]
  exact nine b1 a2 c1 c2 a3 hD b2 b3 a4
end HN
end
section
open PySem PySem.W PySem.Calls PyProof.Rows
set_option Elab.async false
set_option maxRecDepth 100000
set_option maxHeartbeats 8000000
namespace HN
noncomputable def lawBody : List Stmt := match stm 47 with | .FunctionDef _ _ b _ _ _ _ _ _ _ => b | _ => []
noncomputable def lawScope : Scope := match stm 47 with | .FunctionDef _ _ _ _ _ _ s _ _ _ => s | _ => default
noncomputable def lawArgs : Arguments := match stm 47 with | .FunctionDef _ a _ _ _ _ _ _ _ _ => a | _ => default
noncomputable def lawPos : Pos := match stm 47 with | .FunctionDef _ _ _ _ _ _ _ _ _ p => p | _ => default
noncomputable def lawD : DefRec := ⟨Str.ofString "law", lawArgs, lawBody, lawScope, lawPos⟩
theorem d1 : defOf q "law" = some (lawD, []) := by kernel_rfl
theorem d2 : Program.theDef pw "law" = some (lawArgs, lawBody, lawScope) := by kernel_rfl
theorem d3 : kwWritten? lawArgs.kwonlyargs lawArgs.kw_defaults = some [] := by kernel_rfl
theorem hd (walk : WalkO HN.q HN.loose (XL HN.q []) HN.H.says PySem.Challenge.rw_pq0824_01.row.toRowW HN.lawD [] fun f vs => call f vs) : PySem.Challenge.rw_pq0824_01.Holds := by
  refine holds_law HN.law_said fun said => ?_
  refine PySem.W.holds_open (q := HN.q) (loose := HN.loose) (Xt := fun s => xlAt HN.q [] s && recOk [] s) (XP := XL HN.q []) (Yf := HN.H.obs) (Ya := HN.H.val) (YP := HN.H.says) (d := HN.lawD) (kwd := []) (N := 4200 + 4800) ?hl HN.H.of HN.H.keeps (fun s e => xl_of s (Bool.and_eq_true_iff.mp e).1) XL.keeps HN.d1 HN.d2 HN.d3 (fun s e => recFacts_of (Bool.and_eq_true_iff.mp e).2) (by rfl) said (by decide +kernel) ⟨rfl, rfl, rfl, rfl, rfl, by decide +kernel⟩ ?hw ?hc
  case hl => exact HN.top_left
  case hw => w_witness2
  case hc => exact walk
end HN
end
section
open PySem PySem.W PyProof.Rows PySem.Calls
set_option Elab.async false
set_option maxRecDepth 100000
set_option maxHeartbeats 2000000
namespace TL
noncomputable abbrev P := PySem.Challenge.pw_pq0824_01
noncomputable abbrev lo : List Str := looseW HN.q HN.loose
local macro_rules | `(tactic| k_room) => `(tactic| ktr_room)
local macro_rules | `(tactic| k_units) => `(tactic| ktr_units)
theorem news2 {h₀ h : Heap} {L : Addr} {a b : Addr × Obj} {rest : List (Addr × Obj)} (N : News h₀ L h (a :: b :: rest)) : News h₀ L h (a :: rest) := fun q hq => N q (by
  rcases List.mem_cons.mp hq with rfl | hq
  · exact .head _
  · exact .tail _ (.tail _ hq))
theorem news5 {h₀ h : Heap} {L : Addr} {a b1 b2 b3 b4 : Addr × Obj} {rest : List (Addr × Obj)} (N : News h₀ L h (b1 :: b2 :: b3 :: a :: b4 :: rest)) : News h₀ L h (a :: rest) := fun q hq => N q (by
  rcases List.mem_cons.mp hq with rfl | hq
  · exact .tail _ (.tail _ (.tail _ (.head _)))
  · exact .tail _ (.tail _ (.tail _ (.tail _ (.tail _ hq)))))
theorem tn {w : World} {mean : ExcName → Option Value} {mg mb : Str → Option Value} (a : Addr) (cd : Value) (q : Str) (outer : List Env) (A₀ : Around) (base h₀ : Heap) (L : Addr) (s : Shared) (nms : List (Str × NameKind)) (ig ic : Bool) (mo : List (Str × Const)) (m : Str → Option Value)
    (rest : List (Addr × Obj)) 
    (Q : Value → Shared → Prop) (E : Value → Shared → Prop) (B : Below A₀ base outer h₀) (F : Fr h₀ L s.heap m) (X : (HN.K w.params).In h₀)
    (N : News h₀ L s.heap rest) (T : Top HN.q lo mean mg mb h₀)
    (dp un : Nat) (gd : Option (List Code)) (hd : dp + 9 < recursionLimit) (hu : un + 190 < cLine)
    (hQ : ∀ D h' tk t, Fr h₀ L h' m → News h₀ L h' ((D, PH.tupOf [.str (Str.ofString "null") t]) :: rest) → (∀ q ∈ rest, q.1 < D) → Q (.ref D) { s with heap := h', toks := tk }) :
    wpAny (model P w) (ktrTop dp un gd q { kind := .function, names := nms, isGenerator := ig, isCoroutine := ic, more := mo } L a cd [] outer) (call (.ref 277) [.none]) Q E s := by
  have fil : (PySem.Challenge.rw_pq0824_01, HN.K) = (PySem.Challenge.rw_pq0824_01, HN.K) := by
    k_fill
    rfl
  clear fil
  k_steps
  have N' := ‹News h₀ L _ _›
  exact hQ _ _ _ _ (by assumption) (news2 N') (fun q hq => kst_ltOf (And.right (by assumption)) q hq)
theorem tab_of {prog : Program} {w : World} {h₀ h : Heap} {L d : Addr} {o : Obj} {news : List (Addr × Obj)} (N : News h₀ L h news) (hm : (d, o) ∈ news) (hns : (d == sysModules) = false) (hd : o.IsDictOf (PySem.strKind prog w) []) : TabAt (PySem.strKind prog w) PyData.str h d [] :=
  ⟨hns, [], Heap.dictOf_iff.mpr ⟨o, (N _ hm).1, hd⟩, by constructor⟩
local macro_rules | `(tactic| walk_at "call builtin:sorted") => `(tactic| (k_here; (refine kdu_sortedD (knd := PySem.strKind _ _) (enc := PyData.str) (D := []) (fun _ _ => kdl_flat_str) (by rfl) (by k_asm) (by k_asm) ?tab (by decide) ?_); (case tab => exact tab_of (by k_asm) (by k_mem) (by assumption) (by assumption)); intro D' h' tk'; kdl_open))
local macro_rules | `(tactic| walk_at "eval ListComp") => `(tactic| (k_here; k_dflt (refine LCt.ListComp_T (F₀ := by k_asm) (by with_unfolding_all rfl) (by decide) (by rfl) (by decide) (by rfl) ?_)))
theorem td {w : World} {mean : ExcName → Option Value} {mg mb : Str → Option Value} (a : Addr) (cd : Value) (q : Str) (outer : List Env) (A₀ : Around) (base h₀ : Heap) (L : Addr) (s : Shared) (nms : List (Str × NameKind)) (ig ic : Bool) (mo : List (Str × Const)) (m : Str → Option Value)
    (rest : List (Addr × Obj)) (d : Addr) (dd : Option Addr) (da : Data) (sl : Array (Option Value)) (h1 : Obj.IsDictOf (PySem.strKind P w) { cls := .type "dict", dict := dd, data := da, slots := sl } []) (h3 : (d == sysModules) = false)
    (Q : Value → Shared → Prop) (E : Value → Shared → Prop) (B : Below A₀ base outer h₀) (F : Fr h₀ L s.heap m) (X : (HN.K w.params).In h₀)
    (N : News h₀ L s.heap ((d, { cls := .type "dict", dict := dd, data := da, slots := sl }) :: rest)) (T : Top HN.q lo mean mg mb h₀)
    (dp un : Nat) (gd : Option (List Code)) (hd : dp + 9 < recursionLimit) (hu : un + 190 < cLine)
    (hQ : ∀ D h' tk t, Fr h₀ L h' m → News h₀ L h' ((D, PH.tupOf [.str (Str.ofString "dict") t]) :: ((d, { cls := .type "dict", dict := dd, data := da, slots := sl }) :: rest)) → (∀ q ∈ ((d, { cls := .type "dict", dict := dd, data := da, slots := sl }) :: rest), q.1 < D) → Q (.ref D) { s with heap := h', toks := tk }) :
    wpAny (model P w) (ktrTop dp un gd q { kind := .function, names := nms, isGenerator := ig, isCoroutine := ic, more := mo } L a cd [] outer) (call (.ref 277) [.ref d]) Q E s := by
  have fil : (PySem.Challenge.rw_pq0824_01, HN.K) = (PySem.Challenge.rw_pq0824_01, HN.K) := by
    k_fill
    rfl
  clear fil
  k_steps
  have hv := ‹IntsAre _ _›
  have he := ‹(_ : List Int).length = 0›
  cases hv with
  | cons n t h => exact absurd he (by simp)
  | nil =>
  refine LCt.CompSrcT.ledger (its := #[]) (by rfl) (by k_asm) (by k_asm) (.head _) (Nat.zero_le _) fun g => ?_
  refine LCt.CompRestT.zero ?_
  intro D h tk F N off
  dsimp only
  k_steps
  have N' := ‹News h₀ L _ _›
  exact hQ _ _ _ _ (by assumption) (news5 N') (fun q hq => kst_ltOf (And.right (by assumption)) q hq)
end TL
end
section
open PySem PySem.W PySem.Calls PyProof.Rows
set_option Elab.async false
set_option maxRecDepth 100000
set_option linter.unusedVariables false
namespace PH
theorem told_ok {w : World} {PF : Addr} {mean : ExcName → Option Value} {mg mb : Str → Option Value} {lv : Bool} {n : Nat} {r : Rec} : CaOK TL.P w PF (HN.K w.params) HN.q TL.lo mean mg mb lv n (toldC.run r) (.ref 277) := by
  intro as st k kx hr c m s p led vs Q E hC hvs hf hQ hX
  obtain ⟨A, A₀, base, h₀, outer, L, cn, cs, a, ccd, X⟩ := c
  obtain ⟨kd, nms, ig, ic, mo⟩ := cs
  obtain ⟨hdl, dp, fr, gd, un⟩ := A
  have h1 : fr = some (envOf cn { kind := kd, names := nms, isGenerator := ig, isCoroutine := ic, more := mo } L a ccd :: outer) := hC.fr
  have h2 : hdl = none := hC.hh
  have h3 : kd = .function := hC.ck
  subst h3
  subst h1
  subst h2
  have e1 : dp + 9 < recursionLimit := by have := hC.hd; dsimp only at this; omega
  have e2 : un + 190 < cLine := by have := hC.hu; dsimp only at this; omega
  unfold toldC at hr
  dsimp only at hr
  split at hr
  · obtain ⟨x, rfl, hx⟩ := l2_1 hvs
    cases hx
    refine TL.tn a ccd cn outer A₀ base h₀ L s nms ig ic mo m (X ++ led) Q E hC.B hf.F hC.X hf.N hC.T dp un gd e1 e2 fun D h' tk t F' N' hlt => ?_
    exact al_post hr hQ hf F' N' hlt ⟨D, _, Mp.addA_at hf.na, rfl, .cons ⟨t, rfl⟩ .nil⟩
  · rename_i i
    obtain ⟨x, rfl, hx⟩ := l2_1 hvs
    split at hr
    · rename_i hi
      obtain ⟨blk, pre, post, hl, ⟨d, od, hd, rfl, hdo, hdi, hns⟩, _, _⟩ := hf.H.at hi
      obtain rfl := hx.obj_eq hd
      obtain ⟨cls, dd, da, sl⟩ := od
      have hcls : cls = .type "dict" := by obtain ⟨_, _, he, _⟩ := hdo; exact he.1
      subst hcls
      have md : (d, ({ cls := .type "dict", dict := dd, data := da, slots := sl } : Obj)) ∈ X ++ led := by
        have hl : led = _ := hl
        rw [hl]; simp
      refine TL.td a ccd cn outer A₀ base h₀ L s nms ig ic mo m (X ++ led) d dd da sl hdo hns Q E hC.B hf.F hC.X (fun q hq => hf.N q ?_) hC.T dp un gd e1 e2 fun D h' tk t F' N' hlt => ?_
      · rcases List.mem_cons.mp hq with rfl | hq
        · exact md
        · exact hq
      · exact al_post hr hQ hf F' (fun q hq => N' q (by
          rcases List.mem_cons.mp hq with rfl | hq
          · exact .head _
          · exact .tail _ (.tail _ hq))) (fun q hq => hlt q (.tail _ hq)) ⟨D, _, Mp.addA_at hf.na, rfl, .cons ⟨t, rfl⟩ .nil⟩
    · cases hr
  · cases hr
end PH
end
section
open PySem PySem.W PySem.Calls PyProof.Rows
set_option Elab.async false
set_option maxRecDepth 100000
set_option linter.unusedVariables false
namespace PH
noncomputable def spc : Spc := ⟨277, 536, 334, 548, 254, [403, 410, 417, 460, 467, 474, 481, 488, 495, 502, 509, 516, 523, 541, 555, 562, 180, 202, 223, 244, 292, 382, 431, 299, 306, 327, 389, 438, 445]⟩
noncomputable def allF : List Nat := 536 :: 334 :: 548 :: spc.fns
theorem allF_ok (w : World) : BindOK (HN.K w.params) (spc.draw :: spc.add :: spc.heard :: spc.fns) := bind_ok (by kernel_rfl)
theorem init_ok (w : World) : BindOK (HN.K w.params) [36] := bind_ok (by kernel_rfl)
theorem stat_ok (w : World) : Stat (HN.K w.params) spc where
  hb := allF_ok w
  dr := by kernel_rfl
  gi := by kernel_rfl
  gl := by kernel_rfl
  ga := by kernel_rfl
  ad := by kernel_rfl
  gr := by kernel_rfl
  gk := by kernel_rfl
theorem xstat_ok (w : World) : XStat (HN.K w.params) 59 46 36 [36] where
  cls := ⟨_, _, _, _, _, _, _, _, _, _, _, _, _, _, rfl⟩
  initIn := by kernel_rfl
  init := by kernel_rfl
  icls := by kernel_rfl
  setattr := by kernel_rfl
  w1 := by kernel_rfl
  w2 := by kernel_rfl
  ex := by kernel_rfl
  ec := by kernel_rfl
  own := by kernel_rfl
  keep := by kernel_rfl
  hb := init_ok w
  mem := .head _
theorem hstat_ok (w : World) : HStat (HN.K w.params) spc 59 46 36 [36] where
  toXStat := xstat_ok w
  he := by kernel_rfl
  hbind := allF_ok w
theorem runR_all {w : World} {mean : ExcName → Option Value} {mg mb : Str → Option Value} : ∀ n, RecOK TL.P w 59 (HN.K w.params) HN.q TL.lo mean mg mb false n (runR (HN.K w.params) spc n) :=
  runR_ok (raise_ok (xstat_ok w)) (fun lv n r => told_ok) (stat_ok w)
theorem runT_all {w : World} {mean : ExcName → Option Value} {mg mb : Str → Option Value} : ∀ n, RecOK TL.P w 59 (HN.K w.params) HN.q TL.lo mean mg mb true n (runT (HN.K w.params) spc n) :=
  runT_ok (raise_ok (xstat_ok w)) (fun lv n r => told_ok) (stat_ok w) (fun n r R => heard_ok (hstat_ok w) n r R)
end PH
end
section
open PySem PySem.W PySem.Calls PyProof.Rows
set_option Elab.async false
set_option maxRecDepth 100000
namespace PH
/-- a state that a turn of the first loop reaches: its private objects, its own key's value, its numbers' entries, its due, the next places -/
structure Sv where
  pv : List (Nat × AO)
  kv : Option AV
  kt : List (AV × AV)
  x : AV
  nxt : Nat
  nn : Nat
noncomputable def sv0a : List Sv := [
  ⟨[(18, .tup [.str "DeviceGray", .int 1, .none, .bytes [], .int 0, .obj 16, .obj 17]), (17, .tup []), (16, .tup [.str "null"]), (15, .list [.int 1, .int 3, .int 4]), (14, .tup [.none, .none]), (13, .tup [.str "DeviceGray", .int 1, .none, .bytes [], .int 0, .obj 11, .obj 12]), (12, .tup []), (11, .tup [.str "null"]), (10, .list [.int 1, .int 3, .int 4])], none, [], .obj 18, 19, 1⟩,
  ⟨[(17, .inst 254 [("number", .sint 1), ("generation", .int 0)]), (16, .tup [.int 0, .obj 14]), (15, .tup [.obj 14, .obj 13]), (14, .inst 183 [("text", .str "DeviceGray")]), (13, .tup [.str "DeviceGray", .int 1, .none, .bytes [], .int 0, .obj 11, .obj 12]), (12, .tup []), (11, .tup [.str "null"]), (10, .list [.int 1, .int 3, .int 4])], (some (.obj 17)), [(.sint 1, .obj 16)], .obj 13, 18, 2⟩,
  ⟨[(15, .tup [.obj 14, .obj 13]), (14, .inst 183 [("text", .str "DeviceGray")]), (13, .tup [.str "DeviceGray", .int 1, .none, .bytes [], .int 0, .obj 11, .obj 12]), (12, .tup []), (11, .tup [.str "null"]), (10, .list [.int 1, .int 3, .int 4])], (some (.obj 14)), [], .obj 13, 16, 1⟩,
  ⟨[(26, .inst 254 [("number", .sint 2), ("generation", .int 0)]), (25, .tup [.int 0, .obj 20]), (24, .tup [.obj 20, .obj 23]), (23, .tup [.str "ICCBased", .int 1, .obj 13, .bytes [], .int 0, .obj 21, .obj 22]), (22, .tup []), (21, .tup [.str "null"]), (20, .list [.obj 15, .obj 19]), (19, .inst 254 [("number", .sint 1), ("generation", .int 0)]), (18, .tup [.int 0, .obj 17]), (17, .inst 226 [("head", .obj 16), ("octets", .bytes [])]), (16, .sd [("N", .int 1), ("Alternate", .obj 14)]), (15, .inst 183 [("text", .str "ICCBased")]), (14, .inst 183 [("text", .str "DeviceGray")]), (13, .tup [.str "DeviceGray", .int 1, .none, .bytes [], .int 0, .obj 11, .obj 12]), (12, .tup []), (11, .tup [.str "null"]), (10, .list [.int 1, .int 3, .int 4])], (some (.obj 26)), [(.sint 2, .obj 25), (.sint 1, .obj 18)], .obj 23, 27, 3⟩,
  ⟨[(24, .tup [.obj 20, .obj 23]), (23, .tup [.str "ICCBased", .int 1, .obj 13, .bytes [], .int 0, .obj 21, .obj 22]), (22, .tup []), (21, .tup [.str "null"]), (20, .list [.obj 15, .obj 19]), (19, .inst 254 [("number", .sint 1), ("generation", .int 0)]), (18, .tup [.int 0, .obj 17]), (17, .inst 226 [("head", .obj 16), ("octets", .bytes [])]), (16, .sd [("N", .int 1), ("Alternate", .obj 14)]), (15, .inst 183 [("text", .str "ICCBased")]), (14, .inst 183 [("text", .str "DeviceGray")]), (13, .tup [.str "DeviceGray", .int 1, .none, .bytes [], .int 0, .obj 11, .obj 12]), (12, .tup []), (11, .tup [.str "null"]), (10, .list [.int 1, .int 3, .int 4])], (some (.obj 20)), [(.sint 1, .obj 18)], .obj 23, 25, 2⟩]
noncomputable def sv0b : List Sv := [
  ⟨[(24, .inst 254 [("number", .sint 1), ("generation", .int 0)]), (23, .tup [.int 0, .obj 17]), (22, .tup [.obj 17, .obj 21]), (21, .tup [.str "CalGray", .int 1, .obj 13, .bytes [], .int 0, .obj 19, .obj 20]), (20, .tup []), (19, .tup [.str "null"]), (18, .list [.str "CalGray", .str "CalRGB"]), (17, .list [.obj 15, .obj 16]), (16, .ed), (15, .inst 183 [("text", .str "CalGray")]), (14, .list [.str "CalGray", .str "CalRGB"]), (13, .tup [.str "DeviceGray", .int 1, .none, .bytes [], .int 0, .obj 11, .obj 12]), (12, .tup []), (11, .tup [.str "null"]), (10, .list [.int 1, .int 3, .int 4])], (some (.obj 24)), [(.sint 1, .obj 23)], .obj 21, 25, 2⟩,
  ⟨[(22, .tup [.obj 17, .obj 21]), (21, .tup [.str "CalGray", .int 1, .obj 13, .bytes [], .int 0, .obj 19, .obj 20]), (20, .tup []), (19, .tup [.str "null"]), (18, .list [.str "CalGray", .str "CalRGB"]), (17, .list [.obj 15, .obj 16]), (16, .ed), (15, .inst 183 [("text", .str "CalGray")]), (14, .list [.str "CalGray", .str "CalRGB"]), (13, .tup [.str "DeviceGray", .int 1, .none, .bytes [], .int 0, .obj 11, .obj 12]), (12, .tup []), (11, .tup [.str "null"]), (10, .list [.int 1, .int 3, .int 4])], (some (.obj 17)), [], .obj 21, 23, 1⟩,
  ⟨[(29, .inst 254 [("number", .sint 1), ("generation", .int 0)]), (28, .tup [.int 0, .obj 24]), (27, .tup [.obj 24, .obj 26]), (26, .tup [.str "DeviceN", .int 1, .obj 18, .bytes [], .int 0, .obj 25, .obj 15]), (25, .tup [.str "dict"]), (24, .list [.obj 19, .obj 21, .obj 22, .obj 23]), (23, .ed), (22, .inst 183 [("text", .str "DeviceGray")]), (21, .list [.obj 20]), (15, .tup [.str "I0"]), (20, .inst 183 [("text", .str "I0")]), (19, .inst 183 [("text", .str "DeviceN")]), (18, .tup [.str "DeviceGray", .int 1, .none, .bytes [], .int 0, .obj 16, .obj 17]), (17, .tup []), (16, .tup [.str "null"]), (14, .list [.str "I0"]), (13, .tup [.str "DeviceGray", .int 1, .none, .bytes [], .int 0, .obj 11, .obj 12]), (12, .tup []), (11, .tup [.str "null"]), (10, .list [.int 1, .int 3, .int 4])], (some (.obj 29)), [(.sint 1, .obj 28)], .obj 26, 30, 2⟩,
  ⟨[(27, .tup [.obj 24, .obj 26]), (26, .tup [.str "DeviceN", .int 1, .obj 18, .bytes [], .int 0, .obj 25, .obj 15]), (25, .tup [.str "dict"]), (24, .list [.obj 19, .obj 21, .obj 22, .obj 23]), (23, .ed), (22, .inst 183 [("text", .str "DeviceGray")]), (21, .list [.obj 20]), (15, .tup [.str "I0"]), (20, .inst 183 [("text", .str "I0")]), (19, .inst 183 [("text", .str "DeviceN")]), (18, .tup [.str "DeviceGray", .int 1, .none, .bytes [], .int 0, .obj 16, .obj 17]), (17, .tup []), (16, .tup [.str "null"]), (14, .list [.str "I0"]), (13, .tup [.str "DeviceGray", .int 1, .none, .bytes [], .int 0, .obj 11, .obj 12]), (12, .tup []), (11, .tup [.str "null"]), (10, .list [.int 1, .int 3, .int 4])], (some (.obj 24)), [], .obj 26, 28, 1⟩,
  ⟨[(24, .inst 254 [("number", .sint 1), ("generation", .int 0)]), (23, .tup [.int 0, .obj 14]), (22, .tup [.obj 14, .str "bad"]), (21, .list [.obj 14, .obj 15, .obj 16, .obj 20]), (20, .list [.obj 17, .obj 18, .int 0, .obj 19]), (19, .inst 205 [("octets", .bytes [0, 0, 0]), ("is_hex", .bool false)]), (18, .inst 183 [("text", .str "DeviceRGB")]), (17, .inst 183 [("text", .str "Indexed")]), (16, .inst 183 [("text", .str "CS9")]), (15, .inst 183 [("text", .str "DeviceRGB")]), (14, .inst 183 [("text", .str "Pattern")]), (13, .tup [.str "DeviceGray", .int 1, .none, .bytes [], .int 0, .obj 11, .obj 12]), (12, .tup []), (11, .tup [.str "null"]), (10, .list [.int 1, .int 3, .int 4])], (some (.obj 24)), [(.sint 1, .obj 23)], .str "bad", 25, 2⟩,
  ⟨[(22, .tup [.obj 14, .str "bad"]), (21, .list [.obj 14, .obj 15, .obj 16, .obj 20]), (20, .list [.obj 17, .obj 18, .int 0, .obj 19]), (19, .inst 205 [("octets", .bytes [0, 0, 0]), ("is_hex", .bool false)]), (18, .inst 183 [("text", .str "DeviceRGB")]), (17, .inst 183 [("text", .str "Indexed")]), (16, .inst 183 [("text", .str "CS9")]), (15, .inst 183 [("text", .str "DeviceRGB")]), (14, .inst 183 [("text", .str "Pattern")]), (13, .tup [.str "DeviceGray", .int 1, .none, .bytes [], .int 0, .obj 11, .obj 12]), (12, .tup []), (11, .tup [.str "null"]), (10, .list [.int 1, .int 3, .int 4])], (some (.obj 14)), [], .str "bad", 23, 1⟩]
noncomputable def sv0c : List Sv := [
  ⟨[(24, .inst 254 [("number", .sint 1), ("generation", .int 0)]), (23, .tup [.int 0, .obj 15]), (22, .tup [.obj 15, .str "bad"]), (21, .list [.obj 14, .obj 15, .obj 16, .obj 20]), (20, .list [.obj 17, .obj 18, .int 0, .obj 19]), (19, .inst 205 [("octets", .bytes [0, 0, 0]), ("is_hex", .bool false)]), (18, .inst 183 [("text", .str "DeviceRGB")]), (17, .inst 183 [("text", .str "Indexed")]), (16, .inst 183 [("text", .str "CS9")]), (15, .inst 183 [("text", .str "DeviceRGB")]), (14, .inst 183 [("text", .str "Pattern")]), (13, .tup [.str "DeviceGray", .int 1, .none, .bytes [], .int 0, .obj 11, .obj 12]), (12, .tup []), (11, .tup [.str "null"]), (10, .list [.int 1, .int 3, .int 4])], (some (.obj 24)), [(.sint 1, .obj 23)], .str "bad", 25, 2⟩,
  ⟨[(22, .tup [.obj 15, .str "bad"]), (21, .list [.obj 14, .obj 15, .obj 16, .obj 20]), (20, .list [.obj 17, .obj 18, .int 0, .obj 19]), (19, .inst 205 [("octets", .bytes [0, 0, 0]), ("is_hex", .bool false)]), (18, .inst 183 [("text", .str "DeviceRGB")]), (17, .inst 183 [("text", .str "Indexed")]), (16, .inst 183 [("text", .str "CS9")]), (15, .inst 183 [("text", .str "DeviceRGB")]), (14, .inst 183 [("text", .str "Pattern")]), (13, .tup [.str "DeviceGray", .int 1, .none, .bytes [], .int 0, .obj 11, .obj 12]), (12, .tup []), (11, .tup [.str "null"]), (10, .list [.int 1, .int 3, .int 4])], (some (.obj 15)), [], .str "bad", 23, 1⟩,
  ⟨[(24, .inst 254 [("number", .sint 1), ("generation", .int 0)]), (23, .tup [.int 0, .obj 16]), (22, .tup [.obj 16, .str "bad"]), (21, .list [.obj 14, .obj 15, .obj 16, .obj 20]), (20, .list [.obj 17, .obj 18, .int 0, .obj 19]), (19, .inst 205 [("octets", .bytes [0, 0, 0]), ("is_hex", .bool false)]), (18, .inst 183 [("text", .str "DeviceRGB")]), (17, .inst 183 [("text", .str "Indexed")]), (16, .inst 183 [("text", .str "CS9")]), (15, .inst 183 [("text", .str "DeviceRGB")]), (14, .inst 183 [("text", .str "Pattern")]), (13, .tup [.str "DeviceGray", .int 1, .none, .bytes [], .int 0, .obj 11, .obj 12]), (12, .tup []), (11, .tup [.str "null"]), (10, .list [.int 1, .int 3, .int 4])], (some (.obj 24)), [(.sint 1, .obj 23)], .str "bad", 25, 2⟩,
  ⟨[(22, .tup [.obj 16, .str "bad"]), (21, .list [.obj 14, .obj 15, .obj 16, .obj 20]), (20, .list [.obj 17, .obj 18, .int 0, .obj 19]), (19, .inst 205 [("octets", .bytes [0, 0, 0]), ("is_hex", .bool false)]), (18, .inst 183 [("text", .str "DeviceRGB")]), (17, .inst 183 [("text", .str "Indexed")]), (16, .inst 183 [("text", .str "CS9")]), (15, .inst 183 [("text", .str "DeviceRGB")]), (14, .inst 183 [("text", .str "Pattern")]), (13, .tup [.str "DeviceGray", .int 1, .none, .bytes [], .int 0, .obj 11, .obj 12]), (12, .tup []), (11, .tup [.str "null"]), (10, .list [.int 1, .int 3, .int 4])], (some (.obj 16)), [], .str "bad", 23, 1⟩,
  ⟨[(24, .inst 254 [("number", .sint 1), ("generation", .int 0)]), (23, .tup [.int 0, .obj 20]), (22, .tup [.obj 20, .str "bad"]), (21, .list [.obj 14, .obj 15, .obj 16, .obj 20]), (20, .list [.obj 17, .obj 18, .int 0, .obj 19]), (19, .inst 205 [("octets", .bytes [0, 0, 0]), ("is_hex", .bool false)]), (18, .inst 183 [("text", .str "DeviceRGB")]), (17, .inst 183 [("text", .str "Indexed")]), (16, .inst 183 [("text", .str "CS9")]), (15, .inst 183 [("text", .str "DeviceRGB")]), (14, .inst 183 [("text", .str "Pattern")]), (13, .tup [.str "DeviceGray", .int 1, .none, .bytes [], .int 0, .obj 11, .obj 12]), (12, .tup []), (11, .tup [.str "null"]), (10, .list [.int 1, .int 3, .int 4])], (some (.obj 24)), [(.sint 1, .obj 23)], .str "bad", 25, 2⟩,
  ⟨[(22, .tup [.obj 20, .str "bad"]), (21, .list [.obj 14, .obj 15, .obj 16, .obj 20]), (20, .list [.obj 17, .obj 18, .int 0, .obj 19]), (19, .inst 205 [("octets", .bytes [0, 0, 0]), ("is_hex", .bool false)]), (18, .inst 183 [("text", .str "DeviceRGB")]), (17, .inst 183 [("text", .str "Indexed")]), (16, .inst 183 [("text", .str "CS9")]), (15, .inst 183 [("text", .str "DeviceRGB")]), (14, .inst 183 [("text", .str "Pattern")]), (13, .tup [.str "DeviceGray", .int 1, .none, .bytes [], .int 0, .obj 11, .obj 12]), (12, .tup []), (11, .tup [.str "null"]), (10, .list [.int 1, .int 3, .int 4])], (some (.obj 20)), [], .str "bad", 23, 1⟩]
noncomputable def sv1a : List Sv := [
  ⟨[(18, .tup [.str "DeviceRGB", .int 3, .none, .bytes [], .int 0, .obj 16, .obj 17]), (17, .tup []), (16, .tup [.str "null"]), (15, .list [.int 1, .int 3, .int 4]), (14, .tup [.none, .none]), (13, .tup [.str "DeviceRGB", .int 3, .none, .bytes [], .int 0, .obj 11, .obj 12]), (12, .tup []), (11, .tup [.str "null"]), (10, .list [.int 1, .int 3, .int 4])], none, [], .obj 18, 19, 1⟩,
  ⟨[(17, .inst 254 [("number", .sint 1), ("generation", .int 0)]), (16, .tup [.int 0, .obj 14]), (15, .tup [.obj 14, .obj 13]), (14, .inst 183 [("text", .str "DeviceRGB")]), (13, .tup [.str "DeviceRGB", .int 3, .none, .bytes [], .int 0, .obj 11, .obj 12]), (12, .tup []), (11, .tup [.str "null"]), (10, .list [.int 1, .int 3, .int 4])], (some (.obj 17)), [(.sint 1, .obj 16)], .obj 13, 18, 2⟩,
  ⟨[(15, .tup [.obj 14, .obj 13]), (14, .inst 183 [("text", .str "DeviceRGB")]), (13, .tup [.str "DeviceRGB", .int 3, .none, .bytes [], .int 0, .obj 11, .obj 12]), (12, .tup []), (11, .tup [.str "null"]), (10, .list [.int 1, .int 3, .int 4])], (some (.obj 14)), [], .obj 13, 16, 1⟩,
  ⟨[(26, .inst 254 [("number", .sint 2), ("generation", .int 0)]), (25, .tup [.int 0, .obj 20]), (24, .tup [.obj 20, .obj 23]), (23, .tup [.str "ICCBased", .int 3, .obj 13, .bytes [], .int 0, .obj 21, .obj 22]), (22, .tup []), (21, .tup [.str "null"]), (20, .list [.obj 15, .obj 19]), (19, .inst 254 [("number", .sint 1), ("generation", .int 0)]), (18, .tup [.int 0, .obj 17]), (17, .inst 226 [("head", .obj 16), ("octets", .bytes [])]), (16, .sd [("N", .int 3), ("Alternate", .obj 14)]), (15, .inst 183 [("text", .str "ICCBased")]), (14, .inst 183 [("text", .str "DeviceRGB")]), (13, .tup [.str "DeviceRGB", .int 3, .none, .bytes [], .int 0, .obj 11, .obj 12]), (12, .tup []), (11, .tup [.str "null"]), (10, .list [.int 1, .int 3, .int 4])], (some (.obj 26)), [(.sint 2, .obj 25), (.sint 1, .obj 18)], .obj 23, 27, 3⟩,
  ⟨[(24, .tup [.obj 20, .obj 23]), (23, .tup [.str "ICCBased", .int 3, .obj 13, .bytes [], .int 0, .obj 21, .obj 22]), (22, .tup []), (21, .tup [.str "null"]), (20, .list [.obj 15, .obj 19]), (19, .inst 254 [("number", .sint 1), ("generation", .int 0)]), (18, .tup [.int 0, .obj 17]), (17, .inst 226 [("head", .obj 16), ("octets", .bytes [])]), (16, .sd [("N", .int 3), ("Alternate", .obj 14)]), (15, .inst 183 [("text", .str "ICCBased")]), (14, .inst 183 [("text", .str "DeviceRGB")]), (13, .tup [.str "DeviceRGB", .int 3, .none, .bytes [], .int 0, .obj 11, .obj 12]), (12, .tup []), (11, .tup [.str "null"]), (10, .list [.int 1, .int 3, .int 4])], (some (.obj 20)), [(.sint 1, .obj 18)], .obj 23, 25, 2⟩]
noncomputable def sv1b : List Sv := [
  ⟨[(24, .inst 254 [("number", .sint 1), ("generation", .int 0)]), (23, .tup [.int 0, .obj 17]), (22, .tup [.obj 17, .obj 21]), (21, .tup [.str "CalRGB", .int 3, .obj 13, .bytes [], .int 0, .obj 19, .obj 20]), (20, .tup []), (19, .tup [.str "null"]), (18, .list [.str "CalGray", .str "CalRGB"]), (17, .list [.obj 15, .obj 16]), (16, .ed), (15, .inst 183 [("text", .str "CalRGB")]), (14, .list [.str "CalGray", .str "CalRGB"]), (13, .tup [.str "DeviceRGB", .int 3, .none, .bytes [], .int 0, .obj 11, .obj 12]), (12, .tup []), (11, .tup [.str "null"]), (10, .list [.int 1, .int 3, .int 4])], (some (.obj 24)), [(.sint 1, .obj 23)], .obj 21, 25, 2⟩,
  ⟨[(22, .tup [.obj 17, .obj 21]), (21, .tup [.str "CalRGB", .int 3, .obj 13, .bytes [], .int 0, .obj 19, .obj 20]), (20, .tup []), (19, .tup [.str "null"]), (18, .list [.str "CalGray", .str "CalRGB"]), (17, .list [.obj 15, .obj 16]), (16, .ed), (15, .inst 183 [("text", .str "CalRGB")]), (14, .list [.str "CalGray", .str "CalRGB"]), (13, .tup [.str "DeviceRGB", .int 3, .none, .bytes [], .int 0, .obj 11, .obj 12]), (12, .tup []), (11, .tup [.str "null"]), (10, .list [.int 1, .int 3, .int 4])], (some (.obj 17)), [], .obj 21, 23, 1⟩,
  ⟨[(31, .inst 254 [("number", .sint 1), ("generation", .int 0)]), (30, .tup [.int 0, .obj 26]), (29, .tup [.obj 26, .obj 28]), (28, .tup [.str "DeviceN", .int 3, .obj 18, .bytes [], .int 0, .obj 27, .obj 15]), (27, .tup [.str "dict"]), (26, .list [.obj 19, .obj 23, .obj 24, .obj 25]), (25, .ed), (24, .inst 183 [("text", .str "DeviceGray")]), (23, .list [.obj 20, .obj 21, .obj 22]), (15, .tup [.str "I0", .str "I1", .str "I2"]), (22, .inst 183 [("text", .str "I2")]), (21, .inst 183 [("text", .str "I1")]), (20, .inst 183 [("text", .str "I0")]), (19, .inst 183 [("text", .str "DeviceN")]), (18, .tup [.str "DeviceGray", .int 1, .none, .bytes [], .int 0, .obj 16, .obj 17]), (17, .tup []), (16, .tup [.str "null"]), (14, .list [.str "I0", .str "I1", .str "I2"]), (13, .tup [.str "DeviceRGB", .int 3, .none, .bytes [], .int 0, .obj 11, .obj 12]), (12, .tup []), (11, .tup [.str "null"]), (10, .list [.int 1, .int 3, .int 4])], (some (.obj 31)), [(.sint 1, .obj 30)], .obj 28, 32, 2⟩,
  ⟨[(29, .tup [.obj 26, .obj 28]), (28, .tup [.str "DeviceN", .int 3, .obj 18, .bytes [], .int 0, .obj 27, .obj 15]), (27, .tup [.str "dict"]), (26, .list [.obj 19, .obj 23, .obj 24, .obj 25]), (25, .ed), (24, .inst 183 [("text", .str "DeviceGray")]), (23, .list [.obj 20, .obj 21, .obj 22]), (15, .tup [.str "I0", .str "I1", .str "I2"]), (22, .inst 183 [("text", .str "I2")]), (21, .inst 183 [("text", .str "I1")]), (20, .inst 183 [("text", .str "I0")]), (19, .inst 183 [("text", .str "DeviceN")]), (18, .tup [.str "DeviceGray", .int 1, .none, .bytes [], .int 0, .obj 16, .obj 17]), (17, .tup []), (16, .tup [.str "null"]), (14, .list [.str "I0", .str "I1", .str "I2"]), (13, .tup [.str "DeviceRGB", .int 3, .none, .bytes [], .int 0, .obj 11, .obj 12]), (12, .tup []), (11, .tup [.str "null"]), (10, .list [.int 1, .int 3, .int 4])], (some (.obj 26)), [], .obj 28, 30, 1⟩,
  ⟨[(24, .inst 254 [("number", .sint 1), ("generation", .int 0)]), (23, .tup [.int 0, .obj 14]), (22, .tup [.obj 14, .str "bad"]), (21, .list [.obj 14, .obj 15, .obj 16, .obj 20]), (20, .list [.obj 17, .obj 18, .int 0, .obj 19]), (19, .inst 205 [("octets", .bytes [0, 0, 0]), ("is_hex", .bool false)]), (18, .inst 183 [("text", .str "DeviceRGB")]), (17, .inst 183 [("text", .str "Indexed")]), (16, .inst 183 [("text", .str "CS9")]), (15, .inst 183 [("text", .str "DeviceCMYK")]), (14, .inst 183 [("text", .str "Pattern")]), (13, .tup [.str "DeviceRGB", .int 3, .none, .bytes [], .int 0, .obj 11, .obj 12]), (12, .tup []), (11, .tup [.str "null"]), (10, .list [.int 1, .int 3, .int 4])], (some (.obj 24)), [(.sint 1, .obj 23)], .str "bad", 25, 2⟩,
  ⟨[(22, .tup [.obj 14, .str "bad"]), (21, .list [.obj 14, .obj 15, .obj 16, .obj 20]), (20, .list [.obj 17, .obj 18, .int 0, .obj 19]), (19, .inst 205 [("octets", .bytes [0, 0, 0]), ("is_hex", .bool false)]), (18, .inst 183 [("text", .str "DeviceRGB")]), (17, .inst 183 [("text", .str "Indexed")]), (16, .inst 183 [("text", .str "CS9")]), (15, .inst 183 [("text", .str "DeviceCMYK")]), (14, .inst 183 [("text", .str "Pattern")]), (13, .tup [.str "DeviceRGB", .int 3, .none, .bytes [], .int 0, .obj 11, .obj 12]), (12, .tup []), (11, .tup [.str "null"]), (10, .list [.int 1, .int 3, .int 4])], (some (.obj 14)), [], .str "bad", 23, 1⟩]
noncomputable def sv1c : List Sv := [
  ⟨[(24, .inst 254 [("number", .sint 1), ("generation", .int 0)]), (23, .tup [.int 0, .obj 15]), (22, .tup [.obj 15, .str "bad"]), (21, .list [.obj 14, .obj 15, .obj 16, .obj 20]), (20, .list [.obj 17, .obj 18, .int 0, .obj 19]), (19, .inst 205 [("octets", .bytes [0, 0, 0]), ("is_hex", .bool false)]), (18, .inst 183 [("text", .str "DeviceRGB")]), (17, .inst 183 [("text", .str "Indexed")]), (16, .inst 183 [("text", .str "CS9")]), (15, .inst 183 [("text", .str "DeviceCMYK")]), (14, .inst 183 [("text", .str "Pattern")]), (13, .tup [.str "DeviceRGB", .int 3, .none, .bytes [], .int 0, .obj 11, .obj 12]), (12, .tup []), (11, .tup [.str "null"]), (10, .list [.int 1, .int 3, .int 4])], (some (.obj 24)), [(.sint 1, .obj 23)], .str "bad", 25, 2⟩,
  ⟨[(22, .tup [.obj 15, .str "bad"]), (21, .list [.obj 14, .obj 15, .obj 16, .obj 20]), (20, .list [.obj 17, .obj 18, .int 0, .obj 19]), (19, .inst 205 [("octets", .bytes [0, 0, 0]), ("is_hex", .bool false)]), (18, .inst 183 [("text", .str "DeviceRGB")]), (17, .inst 183 [("text", .str "Indexed")]), (16, .inst 183 [("text", .str "CS9")]), (15, .inst 183 [("text", .str "DeviceCMYK")]), (14, .inst 183 [("text", .str "Pattern")]), (13, .tup [.str "DeviceRGB", .int 3, .none, .bytes [], .int 0, .obj 11, .obj 12]), (12, .tup []), (11, .tup [.str "null"]), (10, .list [.int 1, .int 3, .int 4])], (some (.obj 15)), [], .str "bad", 23, 1⟩,
  ⟨[(24, .inst 254 [("number", .sint 1), ("generation", .int 0)]), (23, .tup [.int 0, .obj 16]), (22, .tup [.obj 16, .str "bad"]), (21, .list [.obj 14, .obj 15, .obj 16, .obj 20]), (20, .list [.obj 17, .obj 18, .int 0, .obj 19]), (19, .inst 205 [("octets", .bytes [0, 0, 0]), ("is_hex", .bool false)]), (18, .inst 183 [("text", .str "DeviceRGB")]), (17, .inst 183 [("text", .str "Indexed")]), (16, .inst 183 [("text", .str "CS9")]), (15, .inst 183 [("text", .str "DeviceCMYK")]), (14, .inst 183 [("text", .str "Pattern")]), (13, .tup [.str "DeviceRGB", .int 3, .none, .bytes [], .int 0, .obj 11, .obj 12]), (12, .tup []), (11, .tup [.str "null"]), (10, .list [.int 1, .int 3, .int 4])], (some (.obj 24)), [(.sint 1, .obj 23)], .str "bad", 25, 2⟩,
  ⟨[(22, .tup [.obj 16, .str "bad"]), (21, .list [.obj 14, .obj 15, .obj 16, .obj 20]), (20, .list [.obj 17, .obj 18, .int 0, .obj 19]), (19, .inst 205 [("octets", .bytes [0, 0, 0]), ("is_hex", .bool false)]), (18, .inst 183 [("text", .str "DeviceRGB")]), (17, .inst 183 [("text", .str "Indexed")]), (16, .inst 183 [("text", .str "CS9")]), (15, .inst 183 [("text", .str "DeviceCMYK")]), (14, .inst 183 [("text", .str "Pattern")]), (13, .tup [.str "DeviceRGB", .int 3, .none, .bytes [], .int 0, .obj 11, .obj 12]), (12, .tup []), (11, .tup [.str "null"]), (10, .list [.int 1, .int 3, .int 4])], (some (.obj 16)), [], .str "bad", 23, 1⟩,
  ⟨[(24, .inst 254 [("number", .sint 1), ("generation", .int 0)]), (23, .tup [.int 0, .obj 20]), (22, .tup [.obj 20, .str "bad"]), (21, .list [.obj 14, .obj 15, .obj 16, .obj 20]), (20, .list [.obj 17, .obj 18, .int 0, .obj 19]), (19, .inst 205 [("octets", .bytes [0, 0, 0]), ("is_hex", .bool false)]), (18, .inst 183 [("text", .str "DeviceRGB")]), (17, .inst 183 [("text", .str "Indexed")]), (16, .inst 183 [("text", .str "CS9")]), (15, .inst 183 [("text", .str "DeviceCMYK")]), (14, .inst 183 [("text", .str "Pattern")]), (13, .tup [.str "DeviceRGB", .int 3, .none, .bytes [], .int 0, .obj 11, .obj 12]), (12, .tup []), (11, .tup [.str "null"]), (10, .list [.int 1, .int 3, .int 4])], (some (.obj 24)), [(.sint 1, .obj 23)], .str "bad", 25, 2⟩,
  ⟨[(22, .tup [.obj 20, .str "bad"]), (21, .list [.obj 14, .obj 15, .obj 16, .obj 20]), (20, .list [.obj 17, .obj 18, .int 0, .obj 19]), (19, .inst 205 [("octets", .bytes [0, 0, 0]), ("is_hex", .bool false)]), (18, .inst 183 [("text", .str "DeviceRGB")]), (17, .inst 183 [("text", .str "Indexed")]), (16, .inst 183 [("text", .str "CS9")]), (15, .inst 183 [("text", .str "DeviceCMYK")]), (14, .inst 183 [("text", .str "Pattern")]), (13, .tup [.str "DeviceRGB", .int 3, .none, .bytes [], .int 0, .obj 11, .obj 12]), (12, .tup []), (11, .tup [.str "null"]), (10, .list [.int 1, .int 3, .int 4])], (some (.obj 20)), [], .str "bad", 23, 1⟩]
noncomputable def sv2a : List Sv := [
  ⟨[(18, .tup [.str "DeviceCMYK", .int 4, .none, .bytes [], .int 0, .obj 16, .obj 17]), (17, .tup []), (16, .tup [.str "null"]), (15, .list [.int 1, .int 3, .int 4]), (14, .tup [.none, .none]), (13, .tup [.str "DeviceCMYK", .int 4, .none, .bytes [], .int 0, .obj 11, .obj 12]), (12, .tup []), (11, .tup [.str "null"]), (10, .list [.int 1, .int 3, .int 4])], none, [], .obj 18, 19, 1⟩,
  ⟨[(17, .inst 254 [("number", .sint 1), ("generation", .int 0)]), (16, .tup [.int 0, .obj 14]), (15, .tup [.obj 14, .obj 13]), (14, .inst 183 [("text", .str "DeviceCMYK")]), (13, .tup [.str "DeviceCMYK", .int 4, .none, .bytes [], .int 0, .obj 11, .obj 12]), (12, .tup []), (11, .tup [.str "null"]), (10, .list [.int 1, .int 3, .int 4])], (some (.obj 17)), [(.sint 1, .obj 16)], .obj 13, 18, 2⟩,
  ⟨[(15, .tup [.obj 14, .obj 13]), (14, .inst 183 [("text", .str "DeviceCMYK")]), (13, .tup [.str "DeviceCMYK", .int 4, .none, .bytes [], .int 0, .obj 11, .obj 12]), (12, .tup []), (11, .tup [.str "null"]), (10, .list [.int 1, .int 3, .int 4])], (some (.obj 14)), [], .obj 13, 16, 1⟩,
  ⟨[(26, .inst 254 [("number", .sint 2), ("generation", .int 0)]), (25, .tup [.int 0, .obj 20]), (24, .tup [.obj 20, .obj 23]), (23, .tup [.str "ICCBased", .int 4, .obj 13, .bytes [], .int 0, .obj 21, .obj 22]), (22, .tup []), (21, .tup [.str "null"]), (20, .list [.obj 15, .obj 19]), (19, .inst 254 [("number", .sint 1), ("generation", .int 0)]), (18, .tup [.int 0, .obj 17]), (17, .inst 226 [("head", .obj 16), ("octets", .bytes [])]), (16, .sd [("N", .int 4), ("Alternate", .obj 14)]), (15, .inst 183 [("text", .str "ICCBased")]), (14, .inst 183 [("text", .str "DeviceCMYK")]), (13, .tup [.str "DeviceCMYK", .int 4, .none, .bytes [], .int 0, .obj 11, .obj 12]), (12, .tup []), (11, .tup [.str "null"]), (10, .list [.int 1, .int 3, .int 4])], (some (.obj 26)), [(.sint 2, .obj 25), (.sint 1, .obj 18)], .obj 23, 27, 3⟩,
  ⟨[(24, .tup [.obj 20, .obj 23]), (23, .tup [.str "ICCBased", .int 4, .obj 13, .bytes [], .int 0, .obj 21, .obj 22]), (22, .tup []), (21, .tup [.str "null"]), (20, .list [.obj 15, .obj 19]), (19, .inst 254 [("number", .sint 1), ("generation", .int 0)]), (18, .tup [.int 0, .obj 17]), (17, .inst 226 [("head", .obj 16), ("octets", .bytes [])]), (16, .sd [("N", .int 4), ("Alternate", .obj 14)]), (15, .inst 183 [("text", .str "ICCBased")]), (14, .inst 183 [("text", .str "DeviceCMYK")]), (13, .tup [.str "DeviceCMYK", .int 4, .none, .bytes [], .int 0, .obj 11, .obj 12]), (12, .tup []), (11, .tup [.str "null"]), (10, .list [.int 1, .int 3, .int 4])], (some (.obj 20)), [(.sint 1, .obj 18)], .obj 23, 25, 2⟩]
noncomputable def sv2b : List Sv := [
  ⟨[(24, .inst 254 [("number", .sint 1), ("generation", .int 0)]), (23, .tup [.int 0, .obj 14]), (22, .tup [.obj 14, .str "bad"]), (21, .list [.obj 14, .obj 15, .obj 16, .obj 20]), (20, .list [.obj 17, .obj 18, .int 0, .obj 19]), (19, .inst 205 [("octets", .bytes [0, 0, 0]), ("is_hex", .bool false)]), (18, .inst 183 [("text", .str "DeviceRGB")]), (17, .inst 183 [("text", .str "Indexed")]), (16, .inst 183 [("text", .str "CS9")]), (15, .inst 183 [("text", .str "DeviceGray")]), (14, .inst 183 [("text", .str "Pattern")]), (13, .tup [.str "DeviceCMYK", .int 4, .none, .bytes [], .int 0, .obj 11, .obj 12]), (12, .tup []), (11, .tup [.str "null"]), (10, .list [.int 1, .int 3, .int 4])], (some (.obj 24)), [(.sint 1, .obj 23)], .str "bad", 25, 2⟩,
  ⟨[(22, .tup [.obj 14, .str "bad"]), (21, .list [.obj 14, .obj 15, .obj 16, .obj 20]), (20, .list [.obj 17, .obj 18, .int 0, .obj 19]), (19, .inst 205 [("octets", .bytes [0, 0, 0]), ("is_hex", .bool false)]), (18, .inst 183 [("text", .str "DeviceRGB")]), (17, .inst 183 [("text", .str "Indexed")]), (16, .inst 183 [("text", .str "CS9")]), (15, .inst 183 [("text", .str "DeviceGray")]), (14, .inst 183 [("text", .str "Pattern")]), (13, .tup [.str "DeviceCMYK", .int 4, .none, .bytes [], .int 0, .obj 11, .obj 12]), (12, .tup []), (11, .tup [.str "null"]), (10, .list [.int 1, .int 3, .int 4])], (some (.obj 14)), [], .str "bad", 23, 1⟩,
  ⟨[(24, .inst 254 [("number", .sint 1), ("generation", .int 0)]), (23, .tup [.int 0, .obj 15]), (22, .tup [.obj 15, .str "bad"]), (21, .list [.obj 14, .obj 15, .obj 16, .obj 20]), (20, .list [.obj 17, .obj 18, .int 0, .obj 19]), (19, .inst 205 [("octets", .bytes [0, 0, 0]), ("is_hex", .bool false)]), (18, .inst 183 [("text", .str "DeviceRGB")]), (17, .inst 183 [("text", .str "Indexed")]), (16, .inst 183 [("text", .str "CS9")]), (15, .inst 183 [("text", .str "DeviceGray")]), (14, .inst 183 [("text", .str "Pattern")]), (13, .tup [.str "DeviceCMYK", .int 4, .none, .bytes [], .int 0, .obj 11, .obj 12]), (12, .tup []), (11, .tup [.str "null"]), (10, .list [.int 1, .int 3, .int 4])], (some (.obj 24)), [(.sint 1, .obj 23)], .str "bad", 25, 2⟩,
  ⟨[(22, .tup [.obj 15, .str "bad"]), (21, .list [.obj 14, .obj 15, .obj 16, .obj 20]), (20, .list [.obj 17, .obj 18, .int 0, .obj 19]), (19, .inst 205 [("octets", .bytes [0, 0, 0]), ("is_hex", .bool false)]), (18, .inst 183 [("text", .str "DeviceRGB")]), (17, .inst 183 [("text", .str "Indexed")]), (16, .inst 183 [("text", .str "CS9")]), (15, .inst 183 [("text", .str "DeviceGray")]), (14, .inst 183 [("text", .str "Pattern")]), (13, .tup [.str "DeviceCMYK", .int 4, .none, .bytes [], .int 0, .obj 11, .obj 12]), (12, .tup []), (11, .tup [.str "null"]), (10, .list [.int 1, .int 3, .int 4])], (some (.obj 15)), [], .str "bad", 23, 1⟩,
  ⟨[(24, .inst 254 [("number", .sint 1), ("generation", .int 0)]), (23, .tup [.int 0, .obj 16]), (22, .tup [.obj 16, .str "bad"]), (21, .list [.obj 14, .obj 15, .obj 16, .obj 20]), (20, .list [.obj 17, .obj 18, .int 0, .obj 19]), (19, .inst 205 [("octets", .bytes [0, 0, 0]), ("is_hex", .bool false)]), (18, .inst 183 [("text", .str "DeviceRGB")]), (17, .inst 183 [("text", .str "Indexed")]), (16, .inst 183 [("text", .str "CS9")]), (15, .inst 183 [("text", .str "DeviceGray")]), (14, .inst 183 [("text", .str "Pattern")]), (13, .tup [.str "DeviceCMYK", .int 4, .none, .bytes [], .int 0, .obj 11, .obj 12]), (12, .tup []), (11, .tup [.str "null"]), (10, .list [.int 1, .int 3, .int 4])], (some (.obj 24)), [(.sint 1, .obj 23)], .str "bad", 25, 2⟩]
noncomputable def sv2c : List Sv := [
  ⟨[(22, .tup [.obj 16, .str "bad"]), (21, .list [.obj 14, .obj 15, .obj 16, .obj 20]), (20, .list [.obj 17, .obj 18, .int 0, .obj 19]), (19, .inst 205 [("octets", .bytes [0, 0, 0]), ("is_hex", .bool false)]), (18, .inst 183 [("text", .str "DeviceRGB")]), (17, .inst 183 [("text", .str "Indexed")]), (16, .inst 183 [("text", .str "CS9")]), (15, .inst 183 [("text", .str "DeviceGray")]), (14, .inst 183 [("text", .str "Pattern")]), (13, .tup [.str "DeviceCMYK", .int 4, .none, .bytes [], .int 0, .obj 11, .obj 12]), (12, .tup []), (11, .tup [.str "null"]), (10, .list [.int 1, .int 3, .int 4])], (some (.obj 16)), [], .str "bad", 23, 1⟩,
  ⟨[(24, .inst 254 [("number", .sint 1), ("generation", .int 0)]), (23, .tup [.int 0, .obj 20]), (22, .tup [.obj 20, .str "bad"]), (21, .list [.obj 14, .obj 15, .obj 16, .obj 20]), (20, .list [.obj 17, .obj 18, .int 0, .obj 19]), (19, .inst 205 [("octets", .bytes [0, 0, 0]), ("is_hex", .bool false)]), (18, .inst 183 [("text", .str "DeviceRGB")]), (17, .inst 183 [("text", .str "Indexed")]), (16, .inst 183 [("text", .str "CS9")]), (15, .inst 183 [("text", .str "DeviceGray")]), (14, .inst 183 [("text", .str "Pattern")]), (13, .tup [.str "DeviceCMYK", .int 4, .none, .bytes [], .int 0, .obj 11, .obj 12]), (12, .tup []), (11, .tup [.str "null"]), (10, .list [.int 1, .int 3, .int 4])], (some (.obj 24)), [(.sint 1, .obj 23)], .str "bad", 25, 2⟩,
  ⟨[(22, .tup [.obj 20, .str "bad"]), (21, .list [.obj 14, .obj 15, .obj 16, .obj 20]), (20, .list [.obj 17, .obj 18, .int 0, .obj 19]), (19, .inst 205 [("octets", .bytes [0, 0, 0]), ("is_hex", .bool false)]), (18, .inst 183 [("text", .str "DeviceRGB")]), (17, .inst 183 [("text", .str "Indexed")]), (16, .inst 183 [("text", .str "CS9")]), (15, .inst 183 [("text", .str "DeviceGray")]), (14, .inst 183 [("text", .str "Pattern")]), (13, .tup [.str "DeviceCMYK", .int 4, .none, .bytes [], .int 0, .obj 11, .obj 12]), (12, .tup []), (11, .tup [.str "null"]), (10, .list [.int 1, .int 3, .int 4])], (some (.obj 20)), [], .str "bad", 23, 1⟩,
  ⟨[(32, .inst 254 [("number", .sint 1), ("generation", .int 0)]), (31, .tup [.int 0, .obj 27]), (30, .tup [.obj 27, .obj 29]), (29, .tup [.str "DeviceN", .int 4, .obj 18, .bytes [], .int 0, .obj 28, .obj 15]), (28, .tup [.str "dict"]), (27, .list [.obj 19, .obj 24, .obj 25, .obj 26]), (26, .ed), (25, .inst 183 [("text", .str "DeviceGray")]), (24, .list [.obj 20, .obj 21, .obj 22, .obj 23]), (15, .tup [.str "I0", .str "I1", .str "I2", .str "I3"]), (23, .inst 183 [("text", .str "I3")]), (22, .inst 183 [("text", .str "I2")]), (21, .inst 183 [("text", .str "I1")]), (20, .inst 183 [("text", .str "I0")]), (19, .inst 183 [("text", .str "DeviceN")]), (18, .tup [.str "DeviceGray", .int 1, .none, .bytes [], .int 0, .obj 16, .obj 17]), (17, .tup []), (16, .tup [.str "null"]), (14, .list [.str "I0", .str "I1", .str "I2", .str "I3"]), (13, .tup [.str "DeviceCMYK", .int 4, .none, .bytes [], .int 0, .obj 11, .obj 12]), (12, .tup []), (11, .tup [.str "null"]), (10, .list [.int 1, .int 3, .int 4])], (some (.obj 32)), [(.sint 1, .obj 31)], .obj 29, 33, 2⟩,
  ⟨[(30, .tup [.obj 27, .obj 29]), (29, .tup [.str "DeviceN", .int 4, .obj 18, .bytes [], .int 0, .obj 28, .obj 15]), (28, .tup [.str "dict"]), (27, .list [.obj 19, .obj 24, .obj 25, .obj 26]), (26, .ed), (25, .inst 183 [("text", .str "DeviceGray")]), (24, .list [.obj 20, .obj 21, .obj 22, .obj 23]), (15, .tup [.str "I0", .str "I1", .str "I2", .str "I3"]), (23, .inst 183 [("text", .str "I3")]), (22, .inst 183 [("text", .str "I2")]), (21, .inst 183 [("text", .str "I1")]), (20, .inst 183 [("text", .str "I0")]), (19, .inst 183 [("text", .str "DeviceN")]), (18, .tup [.str "DeviceGray", .int 1, .none, .bytes [], .int 0, .obj 16, .obj 17]), (17, .tup []), (16, .tup [.str "null"]), (14, .list [.str "I0", .str "I1", .str "I2", .str "I3"]), (13, .tup [.str "DeviceCMYK", .int 4, .none, .bytes [], .int 0, .obj 11, .obj 12]), (12, .tup []), (11, .tup [.str "null"]), (10, .list [.int 1, .int 3, .int 4])], (some (.obj 27)), [], .obj 29, 31, 1⟩]
noncomputable def chunks : Nat → List (List Sv)
  | 0 => [sv0a, sv0b, sv0c]
  | 1 => [sv1a, sv1b, sv1c]
  | _ => [sv2a, sv2b, sv2c]
end PH
end
section
open PySem PySem.W PySem.Calls PyProof.Rows
set_option Elab.async false
set_option maxRecDepth 100000
namespace PH
/-- the objects that the law holds in its own names -/
noncomputable def shO (n N1 N2 : Nat) (kn : List (Str × Option AV)) (kt : List (AV × AV)) (ds : List AV) : List (Nat × AO) :=
  [(6, .list ds), (5, .ps N1 kn), (4, .inst 183 [("text", .str "DeviceGray")]), (3, .ed), (2, .pi N2 kt), (1, .inst 363 [("table", .obj 2), ("trailer", .obj 3)]), (0, .pen n)]
noncomputable def ownO : Bool → List (Nat × AO)
  | false => [(7, .sd [("ColorSpace", .obj 5)])]
  | true => [(9, .sd [("ColorSpace", .obj 8)]), (8, .inst 254 [("number", .sint 0), ("generation", .int 0)]), (7, .tup [.int 0, .obj 5])]
noncomputable def ownT : Bool → List (AV × AV)
  | false => []
  | true => [(.sint 0, .obj 7)]
noncomputable def ownV : Bool → AV
  | false => .obj 7
  | true => .obj 9
noncomputable def vars0 : Vars := [("dues", .obj 6), ("names", .obj 5), ("shelf", .obj 1), ("pen", .obj 0)]
noncomputable def keyJ : Nat → Str
  | 0 => "DefaultGray"
  | 1 => "DefaultRGB"
  | _ => "DefaultCMYK"
noncomputable def symsTo : Nat → List AV
  | 0 => []
  | n + 1 => symsTo n ++ [.sym n]
noncomputable def duesI : Nat → AV → List AV
  | 0, x => [x, .sym 1, .sym 2]
  | 1, x => [.sym 0, x, .sym 2]
  | _, x => [.sym 0, .sym 1, x]
noncomputable def beqAO (a b : AO) : Bool := match a with
  | .inst C l => (match b with | .inst C' l' => Nat.beq C C' && decide (l = l') | _ => false)
  | .list l => (match b with | .list l' => decide (l = l') | _ => false)
  | .tup l => (match b with | .tup l' => decide (l = l') | _ => false)
  | .ed => (match b with | .ed => true | _ => false)
  | .sd l => (match b with | .sd l' => decide (l = l') | _ => false)
  | .ps n l => (match b with | .ps n' l' => Nat.beq n n' && decide (l = l') | _ => false)
  | .pi n l => (match b with | .pi n' l' => Nat.beq n n' && decide (l = l') | _ => false)
  | .pen n => (match b with | .pen n' => Nat.beq n n' | _ => false)
noncomputable def beqOs : List (Nat × AO) → List (Nat × AO) → Bool
  | [], [] => true
  | (k, a) :: r, (k', b) :: r' => Nat.beq k k' && beqAO a b && beqOs r r'
  | _, _ => false
noncomputable def beqVs : Vars → Vars → Bool
  | [], _ => true
  | (x, a) :: r, vs => (match lk vs x with | some b => decide (b = a) | none => false) && beqVs r vs
/-- what a private thing may speak of -/
noncomputable def okA : AV → Bool
  | .obj k => Nat.blt k 7 || Nat.ble 10 k
  | .sint k => Nat.ble 1 k
  | .sym _ => false
  | .bi _ => false
  | .typ _ => false
  | _ => true
noncomputable def okS : List (Str × AV) → Bool
  | [] => true
  | (_, a) :: r => okA a && okS r
noncomputable def okL : List AV → Bool
  | [] => true
  | a :: r => okA a && okL r
noncomputable def okAO : AO → Bool
  | .inst _ l => okS l
  | .list l => okL l
  | .tup l => okL l
  | .ed => true
  | .sd l => okS l
  | _ => false
noncomputable def okOs : List (Nat × AO) → Bool
  | [] => true
  | (k, o) :: r => Nat.ble 10 k && okAO o && okOs r
noncomputable def okT : List (AV × AV) → Bool
  | [] => true
  | (k, v) :: r => okA k && okA v && okT r
noncomputable def okO : Option AV → Bool
  | some a => okA a
  | none => true
noncomputable def frcL {α : Type} : List α → (List α → Bool) → Bool
  | [], k => k []
  | a :: r, k => frcL r fun r => k (a :: r)
noncomputable def lastA : List AV → AV
  | [] => .none
  | [x] => x
  | _ :: r => lastA r
noncomputable def bdy : Stmt → List Stmt
  | .For _ _ b _ _ => b
  | _ => []
noncomputable def lawB (i : Nat) : Stmt := (HN.lawBody[i]?).getD (.Pass default)
noncomputable def body1 : List Stmt := bdy (lawB 4)
noncomputable def body2 : List Stmt := bdy (lawB 6)
/-- a state's end, of so many things: as the law's names hold them -/
noncomputable def endS (l : List (Nat × AO)) (k : Nat → Nat → Nat → List (Str × Option AV) → List (AV × AV) → List AV → Bool) : Bool :=
  match getO l 6 with
  | some (.list ds) => (match getO l 5 with
    | some (.ps N1 kn) => (match getO l 2 with
      | some (.pi N2 kt) => (match getO l 0 with
        | some (.pen n) => k n N1 N2 kn kt ds
        | _ => false)
      | _ => false)
    | _ => false)
  | _ => false
section
variable (K : Frag)
noncomputable def lawR : Rec := runT K spc 300
/-- the second loop's turn -/
noncomputable def endV (V : Bool) (i : Nat) (x : AV) (vars : Vars) (st : St) : Bool := beqVs (("own", ownV V) :: vars0) vars &&
  frcL (st.objs.drop (st.objs.length - ((ownO V).length + 7))) fun t => endS t fun n N1 N2 kn kt ds => beqOs t (ownO V ++ shO n N1 N2 kn kt ds) && Nat.ble N1 100 && Nat.ble N2 100 && Nat.ble n 50 &&
    decide (kt.reverse.take (ownT V).length = ownT V) && decide (ds = duesI i x) && (match kn with | [(k, _)] => sEq k (keyJ i) | _ => false)
noncomputable def turn2 (V : Bool) (i : Nat) (pv : List (Nat × AO)) (kv : Option AV) (kt : List (AV × AV)) (x : AV) (nxt nn : Nat) : Bool :=
  (lawR K).ex HN.lawScope body2 (("spot", .int (Int.ofNat i)) :: ("own", ownV V) :: vars0) { objs := pv ++ (ownO V ++ shO 50 100 100 [(keyJ i, kv)] (kt ++ ownT V) (duesI i x)), nxt := nxt, nn := nn } (endV V i x) (fun _ _ => false) (fun _ => false)
noncomputable def good (i : Nat) (pv : List (Nat × AO)) (kv : Option AV) (kt : List (AV × AV)) (x : AV) (nxt nn : Nat) : Bool :=
  okOs pv && okO kv && okT kt && okA x && turn2 K false i pv kv kt x nxt nn && turn2 K true i pv kv kt x nxt nn
noncomputable def eqSv (s : Sv) (pv : List (Nat × AO)) (kv : Option AV) (kt : List (AV × AV)) (x : AV) (nxt nn : Nat) : Bool :=
  Nat.beq nxt s.nxt && Nat.beq nn s.nn && beqOs pv s.pv && decide (kv = s.kv) && decide (kt = s.kt) && decide (x = s.x)
noncomputable def inSv : List Sv → List (Nat × AO) → Option AV → List (AV × AV) → AV → Nat → Nat → Bool
  | [], _, _, _, _, _, _ => false
  | s :: r, pv, kv, kt, x, nxt, nn => eqSv s pv kv kt x nxt nn || inSv r pv kv kt x nxt nn
noncomputable def inCh : List (List Sv) → List (Nat × AO) → Option AV → List (AV × AV) → AV → Nat → Nat → Bool
  | [], _, _, _, _, _, _ => false
  | l :: r, pv, kv, kt, x, nxt, nn => inSv l pv kv kt x nxt nn || inCh r pv kv kt x nxt nn
noncomputable def goodL (j : Nat) : List Sv → Bool
  | [] => true
  | s :: r => good K j s.pv s.kv s.kt s.x s.nxt s.nn && goodL j r
/-- the first loop's turn -/
noncomputable def endT (j : Nat) (vars : Vars) (st : St) : Bool := beqVs vars0 vars &&
  frcL (st.objs.take (st.objs.length - 7)) fun pv => frcL (st.objs.drop (st.objs.length - 7)) fun t => endS t fun n N1 N2 kn kt ds => beqOs t (shO n N1 N2 kn kt ds) && Nat.ble N1 (10 * j + 10) && Nat.ble N2 (10 * j + 10) && Nat.ble n (10 * j + 10) &&
    decide (ds = symsTo j ++ [lastA ds]) && (match kn with | [(k, kv)] => sEq k (keyJ j) && inCh (chunks j) pv kv kt (lastA ds) st.nxt st.nn | _ => false)
noncomputable def turn1 (j : Nat) : Bool :=
  (lawR K).ex HN.lawScope body1 (("spot", .int (Int.ofNat j)) :: vars0) { objs := shO (10 * j) (10 * j + 1) (10 * j) [(keyJ j, none)] [] (symsTo j), nxt := 10, nn := 1 } (endT j) (fun _ _ => false) (fun _ => false)
/-- the start -/
noncomputable def endI (vars : Vars) (st : St) : Bool := beqVs vars0 vars && beqOs st.objs [(6, .list []), (5, .sd [("CS9", .obj 4)]), (4, .inst 183 [("text", .str "DeviceGray")]), (3, .ed), (2, .ed), (1, .inst 363 [("table", .obj 2), ("trailer", .obj 3)]), (0, .pen 0)]
noncomputable def start_ : Bool := (lawR K).ex HN.lawScope [lawB 1, lawB 2, lawB 3] [("pen", .obj 0)] { objs := [(0, .pen 0)], nxt := 1, nn := 0 } (fun vars st => endI vars st) (fun _ _ => false) (fun _ => false)
/-- own -/
noncomputable def endO (vars : Vars) (st : St) : Bool := 
  (beqVs (("own", ownV false) :: vars0) vars && Nat.beq st.nxt 8 && Nat.beq st.nn 0 && beqOs st.objs (ownO false ++ shO 31 31 30 [] [] (symsTo 3))) ||
  (beqVs (("own", ownV true) :: vars0) vars && Nat.beq st.nxt 10 && Nat.beq st.nn 1 && beqOs st.objs (ownO true ++ shO 31 31 31 [] (ownT true) (symsTo 3)))
noncomputable def own_ : Bool := (lawR K).ex HN.lawScope [lawB 5] vars0 { objs := shO 30 31 30 [] [] (symsTo 3), nxt := 7, nn := 0 } endO (fun _ _ => false) (fun _ => false)
/-- what follows the loops -/
noncomputable def rest_ : Bool := (lawR K).ex HN.lawScope (HN.lawBody.drop 7) vars0 { objs := shO 50 100 1000 [] [] (symsTo 3), nxt := 7, nn := 0 } (fun _ _ => false) (fun v _ => match v with | .bool b => b | _ => false) (fun _ => false)
end
end PH
end
section
open PySem PySem.W
set_option Elab.async false
set_option maxRecDepth 100000
set_option maxHeartbeats 0
namespace PH
theorem start_ok (w : World) : start_ (HN.K w.params) = true := by kernel_rfl
theorem own_ok (w : World) : own_ (HN.K w.params) = true := by kernel_rfl
end PH
end
section
open PySem PySem.W
set_option Elab.async false
set_option maxRecDepth 100000
set_option maxHeartbeats 0
namespace PH
theorem turn1_0 (w : World) : turn1 (HN.K w.params) 0 = true := by kernel_rfl
theorem turn1_1 (w : World) : turn1 (HN.K w.params) 1 = true := by kernel_rfl
theorem turn1_2 (w : World) : turn1 (HN.K w.params) 2 = true := by kernel_rfl
end PH
end
section
open PySem PySem.W
set_option Elab.async false
set_option maxRecDepth 100000
set_option maxHeartbeats 0
namespace PH
theorem good_0a (w : World) : goodL (HN.K w.params) 0 sv0a = true := by kernel_rfl
theorem good_0b (w : World) : goodL (HN.K w.params) 0 sv0b = true := by kernel_rfl
theorem good_0c (w : World) : goodL (HN.K w.params) 0 sv0c = true := by kernel_rfl
theorem good_1a (w : World) : goodL (HN.K w.params) 1 sv1a = true := by kernel_rfl
theorem good_1b (w : World) : goodL (HN.K w.params) 1 sv1b = true := by kernel_rfl
theorem good_1c (w : World) : goodL (HN.K w.params) 1 sv1c = true := by kernel_rfl
theorem good_2a (w : World) : goodL (HN.K w.params) 2 sv2a = true := by kernel_rfl
theorem good_2b (w : World) : goodL (HN.K w.params) 2 sv2b = true := by kernel_rfl
theorem good_2c (w : World) : goodL (HN.K w.params) 2 sv2c = true := by kernel_rfl
end PH
end
section
open PySem PySem.W
set_option Elab.async false
set_option maxRecDepth 100000
set_option maxHeartbeats 0
namespace PH
theorem rest_ok (w : World) : rest_ (HN.K w.params) = true := by kernel_rfl
end PH
end
section
open PySem PySem.W PySem.Calls PyProof.Rows
set_option Elab.async false
set_option maxRecDepth 100000
set_option linter.unusedVariables false
namespace PH
section
variable {M : Model} {A : Around} {env : Env} {ys : List Stmt}
theorem execs_app_wp {Γ : Ctx} {Q : Flow → Pos → Shared → Prop} {E : Value → Pos → Shared → Prop} : ∀ {xs : List Stmt} {p : Pos} {s : Shared},
    Sem.wp M Γ (execs xs env) (fun f p s' => match f with | .next => Sem.wp M Γ (execs ys env) Q E p s' | f => Q f p s') E p s → Sem.wp M Γ (execs (xs ++ ys) env) Q E p s
  | [], p, s, h => h
  | x :: xs, p, s, h => by
    rw [execs_cons, Sem.wp_bind'] at h
    rw [List.cons_append, execs_cons, Sem.wp_bind']
    refine Sem.wp_mono M Γ _ (fun f p' s' h' => ?_) (fun _ _ _ h' => h') _ _ h
    cases f <;> first | exact execs_app_wp h' | exact h'
theorem execs_app {Q : Flow → Shared → Prop} {E : Value → Shared → Prop} {xs : List Stmt} {s : Shared} (h : wpAny M A (execs xs env) (fun f s' => match f with | .next => wpAny M A (execs ys env) Q E s' | f => Q f s') E s) : wpAny M A (execs (xs ++ ys) env) Q E s := by
  intro Γ p hΓ
  refine execs_app_wp (Sem.wp_mono M Γ _ (fun f p' s' h' => ?_) (fun _ _ _ h' => h') _ _ (h Γ p hΓ))
  cases f <;> first | exact h' Γ p' hΓ | exact h'
end

theorem L2.split_app {α β : Type} {R : α → β → Prop} : ∀ {a b : List α} {m : List β}, L2 R (a ++ b) m → ∃ m1 m2, m = m1 ++ m2 ∧ L2 R a m1 ∧ L2 R b m2
  | [], b, m, h => ⟨[], m, rfl, .nil, h⟩
  | x :: a, b, m, h => by
    cases h with
    | cons h t =>
    obtain ⟨m1, m2, rfl, h1, h2⟩ := L2.split_app t
    exact ⟨_ :: m1, m2, rfl, .cons h h1, h2⟩
section
variable {prog : Program} {w : World} {p q : Mp}
theorem HRel.split : ∀ {xs ys : List (Nat × AO)} {led : List (Addr × Obj)}, HRel prog w p (xs ++ ys) led → ∃ l1 l2, led = l1 ++ l2 ∧ HRel prog w p xs l1 ∧ HRel prog w p ys l2
  | [], ys, led, h => ⟨[], led, rfl, .nil, h⟩
  | x :: xs, ys, led, h => by
    cases h with
    | @cons _ _ b _ _ h t =>
    obtain ⟨l1, l2, rfl, h1, h2⟩ := HRel.split t
    exact ⟨b ++ l1, l2, (List.append_assoc ..).symm, .cons h h1, h2⟩
theorem HRel.join : ∀ {xs ys : List (Nat × AO)} {l1 l2 : List (Addr × Obj)}, HRel prog w p xs l1 → HRel prog w p ys l2 → HRel prog w p (xs ++ ys) (l1 ++ l2)
  | [], ys, l1, l2, h, h' => by cases h; exact h'
  | x :: xs, ys, l1, l2, h, h' => by
    cases h with
    | cons h t =>
    rw [List.append_assoc]
    exact .cons h (HRel.join t h')

theorem HRel.uncons {k : Nat} {o : AO} {os : List (Nat × AO)} {led : List (Addr × Obj)} (h : HRel prog w p ((k, o) :: os) led) : ∃ b l, led = b ++ l ∧ ORel prog w p k o b ∧ HRel prog w p os l := by
  cases h with
  | cons h t => exact ⟨_, _, rfl, h, t⟩
theorem HRel.nil_inv {led : List (Addr × Obj)} (h : HRel prog w p [] led) : led = [] := by
  cases h
  rfl
noncomputable def valsAO : AO → List AV
  | .inst _ l => l.map (·.2)
  | .list l => l
  | .tup l => l
  | .sd l => l.map (·.2)
  | _ => []
noncomputable def plainAO : AO → Bool
  | .ps _ _ => false
  | .pi _ _ => false
  | _ => true
theorem L2.move {R S : AV → Value → Prop} : ∀ {l : List AV} {m : List Value}, (∀ a v, a ∈ l → R a v → S a v) → L2 R l m → L2 S l m
  | [], m, f, h => by cases h; exact .nil
  | a :: l, m, f, h => by
    cases h with
    | cons h t => exact .cons (f _ _ (.head _) h) (L2.move (fun a v ha => f a v (.tail _ ha)) t)
theorem L2.moveS : ∀ {l : List (Str × AV)} {m : List (Str × Value)}, (∀ a v, a ∈ l.map (·.2) → VRel p a v → VRel q a v) → L2 (SKRel p) l m → L2 (SKRel q) l m
  | [], m, f, h => by cases h; exact .nil
  | a :: l, m, f, h => by
    cases h with
    | cons h t => exact .cons ⟨h.1, f _ _ (.head _) h.2⟩ (L2.moveS (fun a v ha => f a v (.tail _ ha)) t)
theorem ARel.move {w : World} : ∀ {l : List (Str × AV)} {m : List DictEntry}, (∀ a v, a ∈ l.map (·.2) → VRel p a v → VRel q a v) → ARel w p l m → ARel w q l m
  | [], m, f, h => by cases h; exact .nil
  | a :: l, m, f, h => by
    cases h with
    | cons h t => exact .cons (f _ _ (.head _) h) (ARel.move (fun a v ha => f a v (.tail _ ha)) t)
theorem ORel.move {k : Nat} {o : AO} {b : List (Addr × Obj)} (f : ∀ a v, a ∈ valsAO o → VRel p a v → VRel q a v) (ha : ∀ x, p.as[k]? = some x → q.as[k]? = some x) (hp : plainAO o = true) (h : ORel prog w p k o b) : ORel prog w q k o b := by
  cases o with
  | inst C l => obtain ⟨x, dx, es, n, e, hb, a⟩ := h; exact ⟨x, dx, es, n, ha _ e, hb, a.move f⟩
  | list xs => obtain ⟨x, vs, n, e, hb, a⟩ := h; exact ⟨x, vs, n, ha _ e, hb, a.move f⟩
  | tup xs => obtain ⟨x, vs, e, hb, a⟩ := h; exact ⟨x, vs, ha _ e, hb, a.move f⟩
  | ed => obtain ⟨x, o, e, r⟩ := h; exact ⟨x, o, ha _ e, r⟩
  | sd kvs => obtain ⟨x, o, l, e, hb, d, a, n⟩ := h; exact ⟨x, o, l, ha _ e, hb, d, L2.moveS f a, n⟩
  | ps N kvs => cases hp
  | pi N kvs => cases hp
  | pen n => obtain ⟨x, l, sp, gr, t, u, e, vs, e', ns, h1, r⟩ := h; exact ⟨x, l, sp, gr, t, u, e, vs, e', ns, ha _ h1, r⟩
theorem HRel.move : ∀ {os : List (Nat × AO)} {led : List (Addr × Obj)}, (∀ k o, (k, o) ∈ os → plainAO o = true ∧ (∀ x, p.as[k]? = some x → q.as[k]? = some x) ∧ ∀ a v, a ∈ valsAO o → VRel p a v → VRel q a v) → HRel prog w p os led → HRel prog w q os led
  | [], led, f, h => by cases h; exact .nil
  | (k, o) :: os, led, f, h => by
    cases h with
    | cons h t =>
    obtain ⟨f1, f2, f3⟩ := f k o (.head _)
    exact .cons (h.move f3 f2 f1) (HRel.move (fun k o hm => f k o (.tail _ hm)) t)
end

/-- the checks of a state, as equations -/
theorem beqAO_ok {a b : AO} (h : beqAO a b = true) : a = b := by
  cases a <;> cases b <;> first | rfl | (cases h; done) | skip
  all_goals
    unfold beqAO at h
    dsimp only at h
    simp only [Bool.and_eq_true, Nat.beq_eq, decide_eq_true_eq] at h
    first | (obtain ⟨rfl, rfl⟩ := h; rfl) | (subst h; rfl)
theorem beqOs_ok : ∀ {a b : List (Nat × AO)}, beqOs a b = true → a = b
  | [], [], _ => rfl
  | [], _ :: _, h => by cases h
  | _ :: _, [], h => by cases h
  | (k, o) :: r, (k', o') :: r', h => by
    unfold beqOs at h
    simp only [Bool.and_eq_true, Nat.beq_eq] at h
    obtain ⟨⟨rfl, h1⟩, h2⟩ := h
    rw [beqAO_ok h1, beqOs_ok h2]
theorem beqVs_ok : ∀ {vs vars : Vars}, beqVs vs vars = true → ∀ x a, (x, a) ∈ vs → lk vars x = some a
  | [], vars, h, x, a, hm => by cases hm
  | (y, b) :: r, vars, h, x, a, hm => by
    unfold beqVs at h
    rw [Bool.and_eq_true] at h
    rcases List.mem_cons.mp hm with e | hm
    · cases e
      have h1 := h.1
      split at h1
      · rename_i b hb
        rw [hb, of_decide_eq_true h1]
      · cases h1
    · exact beqVs_ok h.2 x a hm
theorem frcL_ok {α : Type} : ∀ {l : List α} {k : List α → Bool}, frcL l k = k l
  | [], k => rfl
  | a :: r, k => by
    unfold frcL
    exact frcL_ok
theorem endS_ok {l : List (Nat × AO)} {k : Nat → Nat → Nat → List (Str × Option AV) → List (AV × AV) → List AV → Bool} (h : endS l k = true) : ∃ n N1 N2 kn kt ds, k n N1 N2 kn kt ds = true := by
  unfold endS at h
  split at h
  · split at h
    · split at h
      · split at h
        · exact ⟨_, _, _, _, _, _, h⟩
        · cases h
      · cases h
    · cases h
  · cases h
end PH
end
section
open PySem PySem.W PySem.Calls PyProof.Rows
set_option Elab.async false
set_option maxRecDepth 100000
set_option linter.unusedVariables false
namespace PH
noncomputable def Ext (L7 : List Addr) (p : Mp) : Prop := ∃ t, p.as = L7 ++ t
noncomputable def Cmp (L7 as' : List Addr) (ns' : List Int) (p : Mp) : Prop := (∃ j3 : List Addr, j3.length = 3 ∧ p.as = L7 ++ (j3 ++ as')) ∧ ∃ z, p.ns = z :: ns'
noncomputable def Own (L7 o3 : List Addr) (z : Int) (p : Mp) : Prop := (∃ t, p.as = L7 ++ (o3 ++ t)) ∧ ∃ t, p.ns = z :: t
noncomputable def KnOK (p : Mp) (dS : Str → Option Value) (kn : List (Str × Option AV)) : Prop := ∀ x, match lk kn x with
  | some (some a) => ∃ v, dS x = some v ∧ VRel p a v
  | some none => dS x = none
  | none => True
noncomputable def KtOK (p : Mp) (dI : Int → Option Value) (kt : List (AV × AV)) : Prop := ∀ q ∈ kt, ∃ i v, keyI p q.1 = some i ∧ dI i = some v ∧ VRel p q.2 v
noncomputable def VL (L7 : List Addr) (m : Str → Option Value) : Prop := ∀ x k, (x, AV.obj k) ∈ vars0 → ∃ a, L7[k]? = some a ∧ m x = some (.ref a)

theorem Ext.get {L7 : List Addr} {p q : Mp} (h7 : L7.length = 7) (hp : Ext L7 p) (hq : Ext L7 q) {k : Nat} (hk : k < 7) {x : Addr} (e : p.as[k]? = some x) : q.as[k]? = some x := by
  obtain ⟨t, hp⟩ := hp
  obtain ⟨u, hq⟩ := hq
  rw [hp, List.getElem?_append_left (by omega)] at e
  rw [hq, List.getElem?_append_left (by omega)]
  exact e
theorem Cmp.ext {L7 as' : List Addr} {ns' : List Int} {p : Mp} (h : Cmp L7 as' ns' p) : Ext L7 p := by
  obtain ⟨⟨j, _, e⟩, _⟩ := h
  exact ⟨_, e⟩
theorem Own.ext {L7 o3 : List Addr} {z : Int} {p : Mp} (h : Own L7 o3 z p) : Ext L7 p := by
  obtain ⟨⟨t, e⟩, _⟩ := h
  exact ⟨_, e⟩
theorem Ext.le {L7 : List Addr} {p q : Mp} (h : Ext L7 p) (l : p.le q) : Ext L7 q := by
  obtain ⟨t, e⟩ := h
  obtain ⟨u, hu⟩ := l.as
  exact ⟨t ++ u, by rw [hu, e, List.append_assoc]⟩
theorem Own.le {L7 o3 : List Addr} {z : Int} {p q : Mp} (h : Own L7 o3 z p) (l : p.le q) : Own L7 o3 z q := by
  obtain ⟨⟨t, e⟩, ⟨t', e'⟩⟩ := h
  obtain ⟨u, hu⟩ := l.as
  obtain ⟨u', hu'⟩ := l.ns
  exact ⟨⟨t ++ u, by rw [hu, e]; simp⟩, ⟨t' ++ u', by rw [hu', e']; rfl⟩⟩

/-- a private value, under every map that holds the private things at their places -/
theorem VRel.moveA {L7 as' : List Addr} {ns' : List Int} {p q : Mp} (h7 : L7.length = 7) (hp : Cmp L7 as' ns' p) (hq : Cmp L7 as' ns' q) {a : AV} {v : Value} (ok : okA a = true) (h : VRel p a v) : VRel q a v := by
  cases a with
  | obj k =>
    obtain ⟨x, e, rfl⟩ := h
    refine ⟨x, ?_, rfl⟩
    have ok : (Nat.blt k 7 || Nat.ble 10 k) = true := ok
    rw [Bool.or_eq_true, Nat.blt_eq, Nat.ble_eq] at ok
    rcases ok with ok | ok
    · exact Ext.get h7 hp.ext hq.ext ok e
    · obtain ⟨⟨j, hj, ep⟩, _⟩ := hp
      obtain ⟨⟨j', hj', eq⟩, _⟩ := hq
      rw [ep, List.getElem?_append_right (by omega), List.getElem?_append_right (by omega), h7, hj] at e
      rw [eq, List.getElem?_append_right (by omega), List.getElem?_append_right (by omega), h7, hj']
      exact e
  | sint k =>
    obtain ⟨i, t, e, rfl⟩ := h
    refine ⟨i, t, ?_, rfl⟩
    have ok : Nat.ble 1 k = true := ok
    rw [Nat.ble_eq] at ok
    obtain ⟨_, ⟨z, ep⟩⟩ := hp
    obtain ⟨_, ⟨z', eq⟩⟩ := hq
    obtain ⟨k, rfl⟩ : ∃ j, k = j + 1 := ⟨k - 1, by omega⟩
    rw [ep] at e
    rw [eq]
    simpa using e
  | sym k => cases ok
  | bi n => cases ok
  | typ n => cases ok
  | _ => exact h
theorem keyI.moveA {L7 as' : List Addr} {ns' : List Int} {p q : Mp} (h7 : L7.length = 7) (hp : Cmp L7 as' ns' p) (hq : Cmp L7 as' ns' q) {a : AV} {i : Int} (ok : okA a = true) (h : keyI p a = some i) : keyI q a = some i := by
  cases a with
  | sint k =>
    obtain ⟨i', t, e, he⟩ := VRel.moveA h7 hp hq ok (a := .sint k) (v := .int i 0) ⟨i, 0, h, rfl⟩
    cases he
    exact e
  | int j => exact h
  | _ => cases h
noncomputable def okB : AV → Bool
  | .obj k => Nat.blt k 10
  | .sint k => Nat.beq k 0
  | .sym _ => false
  | _ => true
theorem VRel.moveB {L7 o3 : List Addr} {z : Int} {p q : Mp} (h7 : L7.length = 7) (h3 : o3.length = 3) (hp : Own L7 o3 z p) (hq : Own L7 o3 z q) {a : AV} {v : Value} (ok : okB a = true) (h : VRel p a v) : VRel q a v := by
  cases a with
  | obj k =>
    obtain ⟨x, e, rfl⟩ := h
    refine ⟨x, ?_, rfl⟩
    have ok : Nat.blt k 10 = true := ok
    rw [Nat.blt_eq] at ok
    obtain ⟨⟨j, ep⟩, _⟩ := hp
    obtain ⟨⟨j', eq⟩, _⟩ := hq
    rw [ep, ← List.append_assoc, List.getElem?_append_left (by simp; omega)] at e
    rw [eq, ← List.append_assoc, List.getElem?_append_left (by simp; omega)]
    exact e
  | sint k =>
    obtain ⟨i, t, e, rfl⟩ := h
    refine ⟨i, t, ?_, rfl⟩
    have ok : Nat.beq k 0 = true := ok
    rw [Nat.beq_eq] at ok
    subst ok
    obtain ⟨_, ⟨z, ep⟩⟩ := hp
    obtain ⟨_, ⟨z', eq⟩⟩ := hq
    rw [ep] at e
    rw [eq]
    exact e
  | sym k => cases ok
  | _ => exact h
theorem VRel.moveE {L7 : List Addr} {p q : Mp} (h7 : L7.length = 7) (hp : Ext L7 p) (hq : Ext L7 q) {k : Nat} {v : Value} (hk : k < 7) (h : VRel p (.obj k) v) : VRel q (.obj k) v := by
  obtain ⟨x, e, rfl⟩ := h
  exact ⟨x, hp.get h7 hq hk e, rfl⟩
theorem VL.rel {L7 : List Addr} {m : Str → Option Value} (h : VL L7 m) (h7 : L7.length = 7) {p : Mp} (hp : Ext L7 p) : VarsRel p vars0 m := by
  intro x a e
  have hm := lk_mem e
  have : ∃ k, a = .obj k ∧ k < 7 := by
    unfold vars0 at hm
    simp only [List.mem_cons, Prod.mk.injEq, List.not_mem_nil, or_false] at hm
    rcases hm with ⟨_, rfl⟩ | ⟨_, rfl⟩ | ⟨_, rfl⟩ | ⟨_, rfl⟩ <;> exact ⟨_, rfl, by decide⟩
  obtain ⟨k, rfl, hk⟩ := this
  obtain ⟨b, h1, h2⟩ := h x k hm
  refine ⟨_, h2, b, ?_, rfl⟩
  obtain ⟨t, e⟩ := hp
  rw [e, List.getElem?_append_left (by omega)]
  exact h1
theorem VL.of {L7 : List Addr} {m : Str → Option Value} {vs vars : Vars} (h7 : L7.length = 7) {p : Mp} (hp : Ext L7 p) (hb : beqVs vs vars = true) (hs : ∀ y ∈ vars0, y ∈ vs) (hV : VarsRel p vars m) : VL L7 m := by
  intro x k hm
  obtain ⟨v, h1, b, h2, rfl⟩ := hV x _ (beqVs_ok hb x _ (hs _ hm))
  refine ⟨b, ?_, h1⟩
  have hk : k < 7 := by
    unfold vars0 at hm
    simp only [List.mem_cons, Prod.mk.injEq, AV.obj.injEq, List.not_mem_nil, or_false] at hm
    omega
  obtain ⟨t, e⟩ := hp
  rw [e, List.getElem?_append_left (by omega)] at h2
  exact h2

/-- the law's own objects, whatever else the map holds -/
noncomputable def Sh (w : World) (L7 : List Addr) (n N1 N2 : Nat) (dS : Str → Option Value) (dI : Int → Option Value) (dv : List Value) (led : List (Addr × Obj)) : Prop :=
  ∀ (p : Mp) kn kt ds n' N1' N2', Ext L7 p → p.dS = dS → p.dI = dI → KnOK p dS kn → KtOK p dI kt → L2 (VRel p) ds dv → n ≤ n' → N1 ≤ N1' → N2 ≤ N2' → HRel TL.P w p (shO n' N1' N2' kn kt ds) led
theorem ps_of {kn : List (Str × Option AV)} {p : Mp} {l : List (Str × Value)} {d : Str → Option Value} (a : ∀ x, match lk kn x with
        | some (some a) => ∃ v, valueAt l x = some v ∧ VRel p a v
        | some none => valueAt l x = none
        | none => valueAt l x = d x) : KnOK p (valueAt l) kn ∧ ∀ x, lk kn x = none → valueAt l x = d x := by
  refine ⟨fun x => ?_, fun x e => ?_⟩
  · have := a x
    split at this <;> rename_i e
    · exact this
    · exact this
    · trivial
  · have := a x
    rw [e] at this
    exact this
theorem sh_of {w : World} {L7 : List Addr} {p : Mp} {n N1 N2 : Nat} {kn : List (Str × Option AV)} {kt : List (AV × AV)} {ds : List AV} {led : List (Addr × Obj)} (h7 : L7.length = 7) (hp : Ext L7 p) (H : HRel TL.P w p (shO n N1 N2 kn kt ds) led) :
    ∃ dS dI dv, Sh w L7 n N1 N2 dS dI dv led ∧ L2 (VRel p) ds dv ∧ KnOK p dS kn ∧ (∀ x, lk kn x = none → dS x = p.dS x) ∧ KtOK p dI kt ∧ (N2 < 1000 → ∀ i v, p.dI i = some v → dI i = some v) := by
  unfold shO at H
  obtain ⟨b6, _, rfl, h6, H⟩ := H.uncons
  obtain ⟨b5, _, rfl, h5, H⟩ := H.uncons
  obtain ⟨b4, _, rfl, h4, H⟩ := H.uncons
  obtain ⟨b3, _, rfl, h3, H⟩ := H.uncons
  obtain ⟨b2, _, rfl, h2, H⟩ := H.uncons
  obtain ⟨b1, _, rfl, h1, H⟩ := H.uncons
  obtain ⟨b0, _, rfl, h0, H⟩ := H.uncons
  obtain rfl := H.nil_inv
  clear H
  obtain ⟨x6, v6, e6, a6, rfl, r6⟩ := h6
  obtain ⟨x5, o5, l5, a5, rfl, d5, s5, z5, r5⟩ := h5
  obtain ⟨x2, o2, l2, a2, rfl, d2, s2, z2, r2, q2⟩ := h2
  obtain ⟨x0, lx, sp, gr, t, u, e0, vs, e', ns, a0, rfl, i0, k0⟩ := h0
  obtain ⟨g5, g5'⟩ := ps_of r5
  refine ⟨valueAt l5, valueAt l2, v6, fun q kn' kt' ds' n' N1' N2' hq hS hI hkn hkt hds hn hN1 hN2 => ?_, r6, g5, g5', r2, q2⟩
  have mv : ∀ {k x}, k < 7 → p.as[k]? = some x → q.as[k]? = some x := fun hk e => hp.get h7 hq hk e
  refine .cons ⟨x6, v6, e6, mv (by decide) a6, rfl, hds⟩ (.cons ⟨x5, o5, l5, mv (by decide) a5, rfl, d5, s5, Nat.le_trans z5 hN1, fun x => ?_⟩ (.cons (h4.move ?_ (fun x => mv (by decide)) rfl) (.cons (h3.move ?_ (fun x => mv (by decide)) rfl)
    (.cons ⟨x2, o2, l2, mv (by decide) a2, rfl, d2, s2, Nat.le_trans z2 hN2, hkt, ?_⟩ (.cons (h1.move ?_ (fun x => mv (by decide)) rfl) (.cons ⟨x0, lx, sp, gr, t, u, e0, vs, e', ns, mv (by decide) a0, rfl, i0, ?_⟩ .nil))))))
  · have := hkn x
    split at this <;> rename_i e
    · first | exact this | (rw [e]; exact this)
    · first | exact this | (rw [e]; exact this)
    · first | (rw [e]; rw [hS]; done) | (rw [hS]; done)
  · intro a v ha h
    cases ha with
    | head => exact h
    | tail _ ha => cases ha
  · intro a v ha h; cases ha
  · intro _ i v h
    rw [hI] at h
    exact h
  · intro a v ha h
    have ha : a ∈ [AV.obj 2, AV.obj 3] := ha
    cases ha with
    | head => exact VRel.moveE h7 hp hq (by decide) h
    | tail _ ha =>
      cases ha with
      | head => exact VRel.moveE h7 hp hq (by decide) h
      | tail _ ha => cases ha
  · exact ⟨k0.len, k0.bits, k0.sp0, Int.le_trans k0.spn (by exact_mod_cast hn), k0.gr0, k0.grb⟩

/-- own's objects -/
noncomputable def Ow (w : World) (V : Bool) (L7 o3 : List Addr) (z : Int) (dI : Int → Option Value) (led : List (Addr × Obj)) (ov : Value) : Prop :=
  ∀ p, Own L7 o3 z p → HRel TL.P w p (ownO V) led ∧ KtOK p dI (ownT V) ∧ VRel p (ownV V) ov
theorem ow_of {w : World} {V : Bool} {L7 o3 : List Addr} {z : Int} {dI : Int → Option Value} {led : List (Addr × Obj)} {ov : Value} {p : Mp} (h7 : L7.length = 7) (h3 : o3.length = 3) (hp : Own L7 o3 z p) (H : HRel TL.P w p (ownO V) led) (hk : KtOK p dI (ownT V)) (hv : VRel p (ownV V) ov) : Ow w V L7 o3 z dI led ov := by
  intro q hq
  have mv : ∀ {a v}, okB a = true → VRel p a v → VRel q a v := fun ok h => VRel.moveB h7 h3 hp hq ok h
  refine ⟨H.move fun k o hm => ?_, fun y hy => ?_, ?_⟩
  · have : plainAO o = true ∧ Nat.blt k 10 = true ∧ (valsAO o).all okB = true := by
      cases V
      · simp only [ownO, List.mem_cons, Prod.mk.injEq, List.not_mem_nil, or_false] at hm
        obtain ⟨rfl, rfl⟩ := hm
        exact ⟨rfl, rfl, rfl⟩
      · simp only [ownO, List.mem_cons, Prod.mk.injEq, List.not_mem_nil, or_false] at hm
        rcases hm with ⟨rfl, rfl⟩ | ⟨rfl, rfl⟩ | ⟨rfl, rfl⟩ <;> exact ⟨rfl, rfl, rfl⟩
    obtain ⟨t1, t2, t3⟩ := this
    refine ⟨t1, fun x e => ?_, fun a v ha h => mv (List.all_eq_true.mp t3 a ha) h⟩
    obtain ⟨y, hy, he⟩ := mv (a := .obj k) (v := .ref x) t2 ⟨x, e, rfl⟩
    cases he
    exact hy
  · obtain ⟨i, v, h1, h2, h3'⟩ := hk y hy
    cases V with
    | false => cases hy
    | true =>
      have hy : y ∈ [(AV.sint 0, AV.obj 7)] := hy
      cases List.mem_singleton.mp hy
      refine ⟨i, v, ?_, h2, mv rfl h3'⟩
      obtain ⟨i', t, e, he⟩ := mv (a := .sint 0) (v := .int i 0) rfl ⟨i, 0, h1, rfl⟩
      cases he
      exact e
  · cases V <;> exact mv rfl hv

/-- what the first loop's turn leaves of its own -/
noncomputable def Prv (w : World) (L7 : List Addr) (i : Nat) (dS : Str → Option Value) (dI : Int → Option Value) (xv : Value) (pl : List (Addr × Obj)) : Prop :=
  ∃ pv kv kt x nxt nn as' ns', good (HN.K w.params) i pv kv kt x nxt nn = true ∧ nxt = as'.length + 10 ∧ nn = ns'.length + 1 ∧ ∀ p, Cmp L7 as' ns' p → HRel TL.P w p pv pl ∧ VRel p x xv ∧ KnOK p dS [(keyJ i, kv)] ∧ KtOK p dI kt
theorem Prv.mono {w : World} {L7 : List Addr} {i : Nat} {dS dS' : Str → Option Value} {dI dI' : Int → Option Value} {xv : Value} {pl : List (Addr × Obj)} (h : Prv w L7 i dS dI xv pl) (hS : dS' (keyJ i) = dS (keyJ i)) (hI : ∀ i v, dI i = some v → dI' i = some v) : Prv w L7 i dS' dI' xv pl := by
  obtain ⟨pv, kv, kt, x, nxt, nn, as', ns', h1, h2, h3, h4⟩ := h
  refine ⟨pv, kv, kt, x, nxt, nn, as', ns', h1, h2, h3, fun p hp => ?_⟩
  obtain ⟨g1, g2, g3, g4⟩ := h4 p hp
  refine ⟨g1, g2, fun y => ?_, fun q hq => ?_⟩
  · have := g3 y
    unfold lk at this ⊢
    cases e : sEq (keyJ i) y with
    | true =>
      rw [e] at this
      rw [sEq_iff] at e
      subst e
      cases kv with
      | none => exact hS.trans this
      | some a => obtain ⟨v, h1, h2⟩ := this; exact ⟨v, hS.trans h1, h2⟩
    | false => exact trivial
  · obtain ⟨i, v, h1, h2, h3⟩ := g4 q hq
    exact ⟨i, v, h1, hI _ _ h2, h3⟩
theorem okS_ok : ∀ {l : List (Str × AV)}, okS l = true → ∀ a, a ∈ l.map (·.2) → okA a = true
  | [], _, a, h => by cases h
  | (_, b) :: r, ok, a, h => by
    have ok : (okA b && okS r) = true := ok
    rw [Bool.and_eq_true] at ok
    rcases List.mem_cons.mp h with e | h
    · rw [e]; exact ok.1
    · exact okS_ok ok.2 a h
theorem okL_ok : ∀ {l : List AV}, okL l = true → ∀ a, a ∈ l → okA a = true
  | [], _, a, h => by cases h
  | b :: r, ok, a, h => by
    have ok : (okA b && okL r) = true := ok
    rw [Bool.and_eq_true] at ok
    rcases List.mem_cons.mp h with e | h
    · rw [e]; exact ok.1
    · exact okL_ok ok.2 a h
theorem okAO_ok {o : AO} (h : okAO o = true) : plainAO o = true ∧ ∀ a, a ∈ valsAO o → okA a = true := by
  cases o with
  | inst C l => exact ⟨rfl, okS_ok h⟩
  | list l => exact ⟨rfl, okL_ok h⟩
  | tup l => exact ⟨rfl, okL_ok h⟩
  | ed => exact ⟨rfl, fun a ha => by cases ha⟩
  | sd l => exact ⟨rfl, okS_ok h⟩
  | _ => cases h
theorem okOs_ok : ∀ {l : List (Nat × AO)}, okOs l = true → ∀ k o, (k, o) ∈ l → 10 ≤ k ∧ okAO o = true
  | [], _, k, o, h => by cases h
  | (j, b) :: r, ok, k, o, h => by
    have ok : (Nat.ble 10 j && okAO b && okOs r) = true := ok
    simp only [Bool.and_eq_true, Nat.ble_eq] at ok
    rcases List.mem_cons.mp h with e | h
    · cases e; exact ok.1
    · exact okOs_ok ok.2 k o h
theorem okT_ok : ∀ {l : List (AV × AV)}, okT l = true → ∀ q ∈ l, okA q.1 = true ∧ okA q.2 = true
  | [], _, q, h => by cases h
  | (k, v) :: r, ok, q, h => by
    have ok : (okA k && okA v && okT r) = true := ok
    simp only [Bool.and_eq_true] at ok
    rcases List.mem_cons.mp h with e | h
    · cases e; exact ok.1
    · exact okT_ok ok.2 q h
theorem prv_of {w : World} {L7 as' : List Addr} {ns' : List Int} {i : Nat} {dS : Str → Option Value} {dI : Int → Option Value} {xv : Value} {pl : List (Addr × Obj)} {p : Mp} {pv : List (Nat × AO)} {kv : Option AV} {kt : List (AV × AV)} {x : AV} {nxt nn : Nat} (h7 : L7.length = 7) (hp : Cmp L7 as' ns' p)
    (hg : good (HN.K w.params) i pv kv kt x nxt nn = true) (hx : nxt = as'.length + 10) (hn : nn = ns'.length + 1) (H : HRel TL.P w p pv pl) (hv : VRel p x xv) (hk : KnOK p dS [(keyJ i, kv)]) (ht : KtOK p dI kt) : Prv w L7 i dS dI xv pl := by
  refine ⟨pv, kv, kt, x, nxt, nn, as', ns', hg, hx, hn, fun q hq => ?_⟩
  unfold good at hg
  simp only [Bool.and_eq_true] at hg
  obtain ⟨⟨⟨⟨⟨g1, g2⟩, g3⟩, g4⟩, _⟩, _⟩ := hg
  refine ⟨H.move fun k o hm => ?_, VRel.moveA h7 hp hq g4 hv, fun y => ?_, fun y hy => ?_⟩
  · obtain ⟨t1, t2⟩ := okOs_ok g1 k o hm
    obtain ⟨t3, t4⟩ := okAO_ok t2
    refine ⟨t3, fun x e => ?_, fun a v ha h => VRel.moveA h7 hp hq (t4 a ha) h⟩
    obtain ⟨y, hy, he⟩ := VRel.moveA h7 hp hq (a := .obj k) (v := .ref x) (by show (Nat.blt k 7 || Nat.ble 10 k) = true; rw [Bool.or_eq_true, Nat.ble_eq]; exact .inr t1) ⟨x, e, rfl⟩
    cases he
    exact hy
  · have := hk y
    unfold lk at this ⊢
    cases e : sEq (keyJ i) y with
    | true =>
      rw [e] at this
      cases kv with
      | none => exact this
      | some a => obtain ⟨v, h1, h2⟩ := this; exact ⟨v, h1, VRel.moveA h7 hp hq g2 h2⟩
    | false => exact trivial
  · obtain ⟨t1, t2⟩ := okT_ok g3 y hy
    obtain ⟨i, v, h1, h2, h3⟩ := ht y hy
    exact ⟨i, v, keyI.moveA h7 hp hq t1 h1, h2, VRel.moveA h7 hp hq t2 h3⟩
end PH
end
section
open PySem PySem.W PySem.Calls PyProof.Rows
set_option Elab.async false
set_option maxRecDepth 100000
set_option linter.unusedVariables false
namespace PH
noncomputable def Cx.wx (c : Cx) (X : List (Addr × Obj)) : Cx := { c with X := X }
theorem CxOK.wx {K : Frag} {pr : Program} {lo : List Str} {mean : ExcName → Option Value} {mg mb : Str → Option Value} {lv : Bool} {n : Nat} {c : Cx} (h : CxOK K pr lo mean mg mb lv n c) (X : List (Addr × Obj)) : CxOK K pr lo mean mg mb lv n (c.wx X) := ⟨h.B, h.X, h.T, h.fr, h.hh, h.hd, h.hu, h.ck, h.lo⟩
theorem keyJ_inj : ∀ i, i < 3 → ∀ j, j < 3 → keyJ i = keyJ j → i = j := by decide +kernel
theorem syms_rel {p : Mp} (h : ∀ v ∈ p.vs, handedIn v = true) : ∀ n, n ≤ p.vs.length → L2 (VRel p) (symsTo n) (p.vs.take n)
  | 0, _ => by rw [List.take_zero]; exact .nil
  | n + 1, hn => by
    rw [List.take_add_one, List.getElem?_eq_getElem (by omega : n < p.vs.length)]
    exact (syms_rel h n (by omega)).app (.cons ⟨List.getElem?_eq_getElem _, h _ (List.getElem_mem _)⟩ .nil)
theorem syms_inv {p : Mp} : ∀ {n : Nat} {d : List Value}, L2 (VRel p) (symsTo n) d → d = p.vs.take n
  | 0, d, h => by cases h; rw [List.take_zero]
  | n + 1, d, h => by
    obtain ⟨d1, d2, rfl, h1, h2⟩ := L2.split_app h
    cases h2 with
    | cons hv h2 =>
    cases h2
    rw [List.take_add_one, syms_inv h1, hv.1]
    rfl
noncomputable def plsA (pl : Nat → List (Addr × Obj)) : Nat → List (Addr × Obj)
  | 0 => []
  | n + 1 => plsA pl n ++ pl n
noncomputable def plsR (pl : Nat → List (Addr × Obj)) : Nat → List (Addr × Obj)
  | 0 => []
  | n + 1 => plsR pl n ++ pl (2 - n)
theorem plsA_congr {pl pl' : Nat → List (Addr × Obj)} : ∀ {n}, (∀ i, i < n → pl i = pl' i) → plsA pl n = plsA pl' n
  | 0, _ => rfl
  | n + 1, h => by
    show plsA pl n ++ pl n = plsA pl' n ++ pl' n
    rw [plsA_congr (fun i hi => h i (by omega)), h n (by omega)]

structure J1 (w : World) (j : Nat) (m : Str → Option Value) (news : List (Addr × Obj)) (L7 : List Addr) (dv : List Value) (dS : Str → Option Value) (dI : Int → Option Value) (ls : List (Addr × Obj)) (pl : Nat → List (Addr × Obj)) : Prop where
  h7 : L7.length = 7
  hd : dv.length = j
  hh : ∀ v ∈ dv, handedIn v = true
  nw : news = plsA pl j ++ ls
  nd : (news.map (·.1)).Nodup
  hV : VL L7 m
  sh : Sh w L7 (10 * j) (10 * j + 1) (10 * j) dS dI dv ls
  no : ∀ i, j ≤ i → i < 3 → dS (keyJ i) = none
  pr : ∀ i, i < j → ∃ xv, dv[i]? = some xv ∧ Prv w L7 i dS dI xv (pl i)

theorem lk_one {α : Type} {k x : Str} {a : α} : lk [(k, a)] x = if sEq k x then some a else none := by
  unfold lk
  cases sEq k x <;> rfl
theorem kn_none {p : Mp} {dS : Str → Option Value} {k : Str} (h : dS k = none) : KnOK p dS [(k, none)] := by
  intro x
  rw [lk_one]
  cases e : sEq k x with
  | true => rw [sEq_iff] at e; subst e; exact h
  | false => exact trivial

/-- what a state of the first loop's turn is, at its end -/
theorem endT_ok {j : Nat} {vars : Vars} {st : St} (h : endT j vars st = true) : ∃ pv n N1 N2 kv kt x, beqVs vars0 vars = true ∧ st.objs = pv ++ shO n N1 N2 [(keyJ j, kv)] kt (symsTo j ++ [x]) ∧ N1 ≤ 10 * j + 10 ∧ N2 ≤ 10 * j + 10 ∧ n ≤ 10 * j + 10 ∧ inCh (chunks j) pv kv kt x st.nxt st.nn = true := by
  unfold endT at h
  rw [Bool.and_eq_true] at h
  obtain ⟨h0, h⟩ := h
  rw [frcL_ok, frcL_ok] at h
  obtain ⟨n, N1, N2, kn, kt, ds, h⟩ := endS_ok h
  simp only [Bool.and_eq_true, Nat.ble_eq, decide_eq_true_eq] at h
  obtain ⟨⟨⟨⟨⟨h1, h2⟩, h3⟩, h4⟩, h5⟩, h6⟩ := h
  split at h6
  · rename_i k kv
    rw [Bool.and_eq_true, sEq_iff] at h6
    obtain ⟨rfl, h6⟩ := h6
    refine ⟨_, n, N1, N2, kv, kt, lastA ds, h0, ?_, h2, h3, h4, h6⟩
    rw [← h5, ← beqOs_ok h1, List.take_append_drop]
  · cases h6

theorem inSv_ok {K : Frag} {j : Nat} {pv : List (Nat × AO)} {kv : Option AV} {kt : List (AV × AV)} {x : AV} {nxt nn : Nat} : ∀ {l : List Sv}, inSv l pv kv kt x nxt nn = true → goodL K j l = true → good K j pv kv kt x nxt nn = true
  | [], h, _ => by cases h
  | s :: r, h, g => by
    unfold goodL at g
    rw [Bool.and_eq_true] at g
    unfold inSv at h
    rw [Bool.or_eq_true] at h
    rcases h with h | h
    · unfold eqSv at h
      simp only [Bool.and_eq_true, Nat.beq_eq, decide_eq_true_eq] at h
      obtain ⟨⟨⟨⟨⟨rfl, rfl⟩, e⟩, rfl⟩, rfl⟩, rfl⟩ := h
      rw [beqOs_ok e]
      exact g.1
    · exact inSv_ok h g.2
theorem good_of {K : Frag} {j : Nat} {pv : List (Nat × AO)} {kv : Option AV} {kt : List (AV × AV)} {x : AV} {nxt nn : Nat} : ∀ {c : List (List Sv)}, inCh c pv kv kt x nxt nn = true → (∀ l, l ∈ c → goodL K j l = true) → good K j pv kv kt x nxt nn = true
  | [], h, _ => by cases h
  | l :: r, h, g => by
    unfold inCh at h
    rw [Bool.or_eq_true] at h
    rcases h with h | h
    · exact inSv_ok h (g l (List.mem_cons_self ..))
    · exact good_of h (fun l' hl => g l' (List.mem_cons_of_mem _ hl))

theorem step1 {w : World} {mean : ExcName → Option Value} {mg mb : Str → Option Value} {c0 : Cx} {j : Nat} (hj : j < 3) (ht : turn1 (HN.K w.params) j = true) (hgd : ∀ l, l ∈ chunks j → goodL (HN.K w.params) j l = true) (hC : CxOK (HN.K w.params) HN.q TL.lo mean mg mb true 300 c0) (hcs : c0.cs = HN.lawScope)
    {I : Addr} {it : Obj} {s : Shared} {t : Tok} {m : Str → Option Value} {news : List (Addr × Obj)} {L7 : List Addr} {dv : List Value} {dS : Str → Option Value} {dI : Int → Option Value} {ls : List (Addr × Obj)} {pl : Nat → List (Addr × Obj)} (J : J1 w j m news L7 dv dS dI ls pl)
    (F : Fr c0.h₀ c0.L s.heap (fun y => if y = "spot" then some (.int (0 + (j : Int)) t) else m y)) (N : News c0.h₀ c0.L s.heap ((I, it) :: news)) (hI : ∀ q ∈ news, q.1 ≠ I) :
    wpAny (model TL.P w) c0.A (execs body1 c0.env) (fun f s' => f = .next ∧ ∃ m' news', Sm s s' ∧ Fr c0.h₀ c0.L s'.heap m' ∧ News c0.h₀ c0.L s'.heap ((I, it) :: news') ∧ (∀ q ∈ news', q.1 ≠ I) ∧ ∃ L7 dv dS dI ls pl, J1 w (j + 1) m' news' L7 dv dS dI ls pl) (fun _ _ => False) s := by
  obtain ⟨h7, hd, hh, rfl, nd, hV, sh, no, pr⟩ := J
  have hp : Ext L7 ⟨L7 ++ [0, 0, 0], [0], dv, dS, dI⟩ := ⟨_, rfl⟩
  have hsy := syms_rel (p := ⟨L7 ++ [0, 0, 0], [0], dv, dS, dI⟩) hh j (by show j ≤ dv.length; omega)
  rw [show (Mp.vs ⟨L7 ++ [0, 0, 0], [0], dv, dS, dI⟩).take j = dv from List.take_of_length_le (by show dv.length ≤ j; omega)] at hsy
  have H := sh ⟨L7 ++ [0, 0, 0], [0], dv, dS, dI⟩ [(keyJ j, none)] [] (symsTo j) _ _ _ hp rfl rfl (kn_none (no j (Nat.le_refl _) hj)) (fun q hq => by cases hq) hsy (Nat.le_refl _) (Nat.le_refl _) (Nat.le_refl _)
  have hf : Fm TL.P w (c0.wx ((I, it) :: plsA pl j)) (fun y => if y = "spot" then some (.int (0 + (j : Int)) t) else m y) s.heap ⟨shO (10 * j) (10 * j + 1) (10 * j) [(keyJ j, none)] [] (symsTo j), 10, 1⟩ ⟨L7 ++ [0, 0, 0], [0], dv, dS, dI⟩ ls := by
    refine ⟨F, N, ?_, H, ?_, rfl⟩
    · show (I :: (plsA pl j ++ ls).map (·.1)).Nodup
      refine List.nodup_cons.mpr ⟨fun q => ?_, nd⟩
      obtain ⟨y, hy, e⟩ := List.mem_map.mp q
      exact hI y hy e
    · show (L7 ++ [0, 0, 0]).length = 10
      rw [List.length_append, h7]
      rfl
  refine (runT_all 300).ex HN.lawScope body1 _ _ _ _ _ ht (c0.wx ((I, it) :: plsA pl j)) _ s _ ls _ _ (hC.wx _) hcs ((hV.rel h7 hp).set ⟨t, by rw [Int.zero_add]; rfl⟩) hf (fun vars st m' s' p' led' hk hsm hl hV' hf' => ?_) (fun a st v m' s' p' led' hk => by cases hk) XPost.never
  obtain ⟨pv, n, N1, N2, kv, kt, x, hb, ho, b1, b2, b3, hg⟩ := endT_ok hk
  have hg := good_of hg hgd
  have hp' : Ext L7 p' := hp.le hl
  obtain ⟨⟨as', ha'⟩, ⟨ns', hn'⟩, hvs, hdS, hdI⟩ := hl
  dsimp only at ha' hn' hvs hdS hdI
  have hcm : Cmp L7 as' ns' p' := ⟨⟨[0, 0, 0], rfl, by rw [ha', List.append_assoc]⟩, ⟨0, hn'⟩⟩
  have hH := hf'.H
  rw [ho] at hH
  obtain ⟨lp, l2, rfl, hH1, hH2⟩ := hH.split
  obtain ⟨dS', dI', dv', sh', hds, hkn, hkn', hkt, hpin⟩ := sh_of h7 hp' hH2
  obtain ⟨d1, d2, rfl, hd1, hd2⟩ := L2.split_app hds
  have hd1 := syms_inv hd1
  rw [hvs, List.take_of_length_le (by omega : dv.length ≤ j)] at hd1
  subst hd1
  cases hd2 with
  | @cons _ xv _ _ hx hd2 =>
  cases hd2
  have hne : ∀ i, i < 3 → i ≠ j → dS' (keyJ i) = dS (keyJ i) := fun i hi hij => by
    rw [← hdS]
    refine hkn' _ ?_
    rw [lk_one, if_neg]
    intro e
    exact hij (keyJ_inj i hi j hj (sEq_iff.mp e).symm)
  have hpin' : ∀ i v, dI i = some v → dI' i = some v := fun i v h => hpin (by omega) i v (by rw [hdI]; exact h)
  have hgx : okA x = true := by
    unfold good at hg
    simp only [Bool.and_eq_true] at hg
    exact hg.1.1.2
  have hxa : hAV x = true := by
    cases x <;> first | rfl | cases hgx
  have hlen : st.nxt = as'.length + 10 := by
    rw [← hf'.na, ha']
    simp [h7]
    omega
  have hlen2 : st.nn = ns'.length + 1 := by
    rw [← hf'.nn, hn']
    rfl
  have hprv : Prv w L7 j dS' dI' xv lp := prv_of h7 hcm hg hlen hlen2 hH1 hx hkn hkt
  have hsub : ∀ q, q ∈ (I, it) :: ((plsA pl j ++ lp) ++ l2) → q ∈ ((I, it) :: plsA pl j) ++ (lp ++ l2) := fun q hq => by
    rw [List.cons_append, ← List.append_assoc]
    exact hq
  have hnd : ((((I, it) :: ((plsA pl j ++ lp) ++ l2)) : List (Addr × Obj)).map (·.1)).Nodup := by
    rw [List.append_assoc, ← List.cons_append]
    exact hf'.nd
  rw [List.map_cons, List.nodup_cons] at hnd
  have hpl : plsA (fun i => if i = j then lp else pl i) (j + 1) = plsA pl j ++ lp := by
    show plsA (fun i => if i = j then lp else pl i) j ++ (if j = j then lp else pl j) = _
    rw [if_pos rfl, plsA_congr (pl' := pl) (fun i hi => by rw [if_neg (by omega)])]
  refine ⟨rfl, m', (plsA pl j ++ lp) ++ l2, hsm, hf'.F, fun q hq => hf'.N q (hsub q hq), fun q hq e => hnd.1 (List.mem_map.mpr ⟨q, hq, e⟩), L7, d1 ++ [xv], dS', dI', l2, fun i => if i = j then lp else pl i, h7, ?_, ?_, ?_, hnd.2, VL.of h7 hp' hb (fun y hy => hy) hV', ?_, ?_, ?_⟩
  · rw [List.length_append, hd]; rfl
  · intro v hv
    rcases List.mem_append.mp hv with hv | hv
    · exact hh v hv
    · cases List.mem_singleton.mp hv
      exact hx.handed hxa
  · rw [hpl]
  · intro q kn' kt' ds' n' N1' N2' hq e1 e2 e3 e4 e5 e6 e7 e8
    exact sh' q kn' kt' ds' n' N1' N2' hq e1 e2 e3 e4 e5 (by omega) (by omega) (by omega)
  · intro i h1 h2
    rw [hne i h2 (by omega)]
    exact no i (by omega) h2
  · intro i hi
    by_cases hij : i = j
    · subst hij
      refine ⟨xv, ?_, ?_⟩
      · rw [List.getElem?_append_right (by omega), hd, Nat.sub_self]
        rfl
      · rw [if_pos rfl]
        exact hprv
    · obtain ⟨yv, hy, hp⟩ := pr i (by omega)
      refine ⟨yv, ?_, ?_⟩
      · rw [List.getElem?_append_left (by omega)]
        exact hy
      · rw [if_neg hij]
        exact hp.mono (hne i (by omega) hij) hpin'
end PH
end
section
open PySem PySem.W PySem.Calls PyProof.Rows
set_option Elab.async false
set_option maxRecDepth 100000
set_option linter.unusedVariables false
namespace PH
structure J2 (w : World) (V : Bool) (L7 o3 : List Addr) (z : Int) (pl : Nat → List (Addr × Obj)) (i : Nat) (m : Str → Option Value) (news : List (Addr × Obj)) (dv : List Value) (dS : Str → Option Value) (dI : Int → Option Value) (lo ls : List (Addr × Obj)) (ov : Value) : Prop where
  hd : dv.length = 3
  hh : ∀ v ∈ dv, handedIn v = true
  nw : news = plsR pl (3 - i) ++ (lo ++ ls)
  nd : (news.map (·.1)).Nodup
  hV : VL L7 m
  ho : m "own" = some ov
  sh : Sh w L7 50 100 100 dS dI dv ls
  ow : Ow w V L7 o3 z dI lo ov
  pr : ∀ k, i ≤ k → k < 3 → ∃ xv, dv[k]? = some xv ∧ Prv w L7 k dS dI xv (pl k)

theorem endV_ok {V : Bool} {i : Nat} {x : AV} {vars : Vars} {st : St} (h : endV V i x vars st = true) : ∃ t n N1 N2 kv kt, beqVs (("own", ownV V) :: vars0) vars = true ∧ st.objs = t ++ (ownO V ++ shO n N1 N2 [(keyJ i, kv)] kt (duesI i x)) ∧ N1 ≤ 100 ∧ N2 ≤ 100 ∧ n ≤ 50 ∧ ∀ q ∈ ownT V, q ∈ kt := by
  unfold endV at h
  rw [Bool.and_eq_true] at h
  obtain ⟨h0, h⟩ := h
  rw [frcL_ok] at h
  obtain ⟨n, N1, N2, kn, kt, ds, h⟩ := endS_ok h
  simp only [Bool.and_eq_true, Nat.ble_eq, decide_eq_true_eq] at h
  obtain ⟨⟨⟨⟨⟨⟨h1, h2⟩, h3⟩, h4⟩, h5⟩, h6⟩, h7⟩ := h
  split at h7
  · rename_i k kv
    rw [sEq_iff] at h7
    subst h7 h6
    refine ⟨st.objs.take (st.objs.length - ((ownO V).length + 7)), n, N1, N2, kv, kt, h0, ?_, h2, h3, h4, fun q hq => ?_⟩
    · rw [← beqOs_ok h1]
      exact (List.take_append_drop _ _).symm
    · rw [← h5] at hq
      exact List.mem_reverse.mp (List.mem_of_mem_take hq)
  · cases h7
theorem len3 {α : Type} {l : List α} (h : l.length = 3) : ∃ a b c, l = [a, b, c] := by
  match l, h with
  | [a, b, c], _ => exact ⟨a, b, c, rfl⟩
theorem dues_rel {p : Mp} {i : Nat} {x : AV} {xv : Value} {dv : List Value} (hi : i < 3) (hd : dv.length = 3) (hp : p.vs = dv) (hh : ∀ v ∈ dv, handedIn v = true) (hx : dv[i]? = some xv) (hv : VRel p x xv) : L2 (VRel p) (duesI i x) dv := by
  obtain ⟨a, b, c, rfl⟩ := len3 hd
  have h0 : VRel p (.sym 0) a := ⟨by rw [hp]; rfl, hh _ (.head _)⟩
  have h1 : VRel p (.sym 1) b := ⟨by rw [hp]; rfl, hh _ (.tail _ (.head _))⟩
  have h2 : VRel p (.sym 2) c := ⟨by rw [hp]; rfl, hh _ (.tail _ (.tail _ (.head _)))⟩
  match i, hi, hx with
  | 0, _, hx => cases hx; exact .cons hv (.cons h1 (.cons h2 .nil))
  | 1, _, hx => cases hx; exact .cons h0 (.cons hv (.cons h2 .nil))
  | 2, _, hx => cases hx; exact .cons h0 (.cons h1 (.cons hv .nil))
theorem dues_inv {p : Mp} {i : Nat} {x : AV} {dv dv' : List Value} (hi : i < 3) (hd : dv.length = 3) (hp : p.vs = dv) (hx : hAV x = true) (hq : L2 (VRel p) (duesI i x) dv') : dv'.length = 3 ∧ (∀ k, k ≠ i → dv'[k]? = dv[k]?) ∧ ∀ v ∈ dv', handedIn v = true := by
  obtain ⟨a, b, c, rfl⟩ := len3 hd
  have sy : ∀ {k u v}, [a, b, c][k]? = some u → VRel p (.sym k) v → v = u ∧ handedIn v = true := fun e h => by
    have h1 := h.1
    rw [hp, e] at h1
    exact ⟨(Option.some.inj h1).symm, h.2⟩
  match i, hi, hq with
  | 0, _, hz =>
    have h : L2 (VRel p) [x, .sym 1, .sym 2] dv' := hz
    clear hz hq
    cases h with
    | cons g0 h =>
    cases h with
    | cons g1 h =>
    cases h with
    | cons g2 h =>
    cases h
    obtain ⟨rfl, q1⟩ := sy (k := 1) rfl g1
    obtain ⟨rfl, q2⟩ := sy (k := 2) rfl g2
    refine ⟨rfl, fun k hk => ?_, fun v hv => ?_⟩
    · match k, hk with
      | k + 1, _ => rfl
    · simp only [List.mem_cons, List.not_mem_nil, or_false] at hv
      rcases hv with rfl | rfl | rfl
      · exact g0.handed hx
      · exact q1
      · exact q2
  | 1, _, hz =>
    have h : L2 (VRel p) [.sym 0, x, .sym 2] dv' := hz
    clear hz hq
    cases h with
    | cons g0 h =>
    cases h with
    | cons g1 h =>
    cases h with
    | cons g2 h =>
    cases h
    obtain ⟨rfl, q1⟩ := sy (k := 0) rfl g0
    obtain ⟨rfl, q2⟩ := sy (k := 2) rfl g2
    refine ⟨rfl, fun k hk => ?_, fun v hv => ?_⟩
    · match k, hk with
      | 0, _ => rfl
      | k + 2, _ => rfl
    · simp only [List.mem_cons, List.not_mem_nil, or_false] at hv
      rcases hv with rfl | rfl | rfl
      · exact q1
      · exact g1.handed hx
      · exact q2
  | 2, _, hz =>
    have h : L2 (VRel p) [.sym 0, .sym 1, x] dv' := hz
    clear hz hq
    cases h with
    | cons g0 h =>
    cases h with
    | cons g1 h =>
    cases h with
    | cons g2 h =>
    cases h
    obtain ⟨rfl, q1⟩ := sy (k := 0) rfl g0
    obtain ⟨rfl, q2⟩ := sy (k := 1) rfl g1
    refine ⟨rfl, fun k hk => ?_, fun v hv => ?_⟩
    · match k, hk with
      | 0, _ => rfl
      | 1, _ => rfl
      | k + 3, _ => rfl
    · simp only [List.mem_cons, List.not_mem_nil, or_false] at hv
      rcases hv with rfl | rfl | rfl
      · exact q1
      · exact q2
      · exact g2.handed hx

theorem step2 {w : World} {mean : ExcName → Option Value} {mg mb : Str → Option Value} {c0 : Cx} {V : Bool} {i : Nat} (hi : i < 3) (hC : CxOK (HN.K w.params) HN.q TL.lo mean mg mb true 300 c0) (hcs : c0.cs = HN.lawScope)
    {I : Addr} {it : Obj} {s : Shared} {t : Tok} {m : Str → Option Value} {news : List (Addr × Obj)} {L7 o3 : List Addr} {z : Int} {dv : List Value} {dS : Str → Option Value} {dI : Int → Option Value} {lo ls : List (Addr × Obj)} {pl : Nat → List (Addr × Obj)} {ov : Value} (h7 : L7.length = 7) (h3 : o3.length = 3) (J : J2 w V L7 o3 z pl i m news dv dS dI lo ls ov)
    (F : Fr c0.h₀ c0.L s.heap (fun y => if y = "spot" then some (.int (0 + (i : Int)) t) else m y)) (N : News c0.h₀ c0.L s.heap ((I, it) :: news)) (hI : ∀ q ∈ news, q.1 ≠ I) :
    wpAny (model TL.P w) c0.A (execs body2 c0.env) (fun f s' => f = .next ∧ ∃ m' news', Sm s s' ∧ Fr c0.h₀ c0.L s'.heap m' ∧ News c0.h₀ c0.L s'.heap ((I, it) :: news') ∧ (∀ q ∈ news', q.1 ≠ I) ∧ ∃ dv dS dI lo ls ov, J2 w V L7 o3 z pl (i + 1) m' news' dv dS dI lo ls ov) (fun _ _ => False) s := by
  obtain ⟨hd, hh, rfl, nd, hV, ho, sh, ow, pr⟩ := J
  obtain ⟨xv, hxv, pv, kv, kt, x, nxt, nn, as', ns', hg, rfl, rfl, hall⟩ := pr i (Nat.le_refl _) hi
  have hpl : plsR pl (3 - i) = plsR pl (2 - i) ++ pl i := by
    rw [show 3 - i = (2 - i) + 1 by omega]
    show plsR pl (2 - i) ++ pl (2 - (2 - i)) = _
    rw [show 2 - (2 - i) = i by omega]
  rw [hpl] at N nd hI
  have hcm : Cmp L7 as' ns' ⟨L7 ++ (o3 ++ as'), z :: ns', dv, dS, dI⟩ := ⟨⟨o3, h3, rfl⟩, ⟨z, rfl⟩⟩
  have how : Own L7 o3 z ⟨L7 ++ (o3 ++ as'), z :: ns', dv, dS, dI⟩ := ⟨⟨_, rfl⟩, ⟨_, rfl⟩⟩
  obtain ⟨g1, g2, g3, g4⟩ := hall _ hcm
  obtain ⟨o1, o2, o3'⟩ := ow _ how
  have hg' := hg
  unfold good at hg
  simp only [Bool.and_eq_true] at hg
  obtain ⟨⟨⟨⟨⟨_, _⟩, _⟩, hgx⟩, hg1⟩, hg2⟩ := hg
  have hxa : hAV x = true := by
    cases x <;> first | rfl | cases hgx
  have ht : turn2 (HN.K w.params) V i pv kv kt x (as'.length + 10) (ns'.length + 1) = true := by
    cases V
    · exact hg1
    · exact hg2
  have H := sh ⟨L7 ++ (o3 ++ as'), z :: ns', dv, dS, dI⟩ [(keyJ i, kv)] (kt ++ ownT V) (duesI i x) 50 100 100 hcm.ext rfl rfl g3 (fun q hq => by
    rcases List.mem_append.mp hq with hq | hq
    · exact g4 q hq
    · exact o2 q hq) (dues_rel hi hd rfl hh hxv g2) (Nat.le_refl _) (Nat.le_refl _) (Nat.le_refl _)
  have hnd : ((((I, it) :: plsR pl (2 - i)) ++ (pl i ++ (lo ++ ls))).map (·.1)).Nodup := by
    rw [List.cons_append, ← List.append_assoc (plsR pl (2 - i)), List.map_cons, List.nodup_cons]
    refine ⟨fun q => ?_, nd⟩
    obtain ⟨y, hy, e⟩ := List.mem_map.mp q
    exact hI y hy e
  have hf : Fm TL.P w (c0.wx ((I, it) :: plsR pl (2 - i))) (fun y => if y = "spot" then some (.int (0 + (i : Int)) t) else m y) s.heap ⟨pv ++ (ownO V ++ shO 50 100 100 [(keyJ i, kv)] (kt ++ ownT V) (duesI i x)), as'.length + 10, ns'.length + 1⟩ ⟨L7 ++ (o3 ++ as'), z :: ns', dv, dS, dI⟩ (pl i ++ (lo ++ ls)) := by
    refine ⟨F, fun q hq => N q ?_, hnd, g1.join (o1.join H), ?_, ?_⟩
    · have hq : q ∈ ((I, it) :: plsR pl (2 - i)) ++ (pl i ++ (lo ++ ls)) := hq
      rw [List.cons_append, ← List.append_assoc (plsR pl (2 - i))] at hq
      exact hq
    · show (L7 ++ (o3 ++ as')).length = as'.length + 10
      rw [List.length_append, List.length_append, h7, h3]
      omega
    · rfl
  have hV' : VarsRel ⟨L7 ++ (o3 ++ as'), z :: ns', dv, dS, dI⟩ (("own", ownV V) :: vars0) m := by
    intro y a e
    unfold lk at e
    cases q : sEq "own" y with
    | true =>
      rw [q] at e
      cases e
      rw [sEq_iff] at q
      subst q
      exact ⟨ov, ho, o3'⟩
    | false =>
      rw [q] at e
      exact hV.rel h7 hcm.ext y a e
  refine (runT_all 300).ex HN.lawScope body2 _ _ _ _ _ ht (c0.wx ((I, it) :: plsR pl (2 - i))) _ s _ _ _ _ (hC.wx _) hcs (hV'.set ⟨t, by rw [Int.zero_add]; rfl⟩) hf (fun vars st m' s' p' led' hk hsm hl hVr hf' => ?_) (fun a st v m' s' p' led' hk => by cases hk) XPost.never
  obtain ⟨t0, n, N1, N2, kv', kt', hb, hob, b1, b2, b3, hkt⟩ := endV_ok hk
  have hp' : Ext L7 p' := hcm.ext.le hl
  have how' : Own L7 o3 z p' := how.le hl
  obtain ⟨_, _, hvs, hdS, hdI⟩ := hl
  dsimp only at hvs hdS hdI
  have hH := hf'.H
  rw [hob] at hH
  obtain ⟨lt, l2, rfl, hH1, hH2⟩ := hH.split
  obtain ⟨lo', ls', rfl, hH2, hH3⟩ := hH2.split
  obtain ⟨dS', dI', dv', sh', hds, hkn, hkn', hkt', hpin⟩ := sh_of h7 hp' hH3
  obtain ⟨hd', hdk, hhd⟩ := dues_inv hi hd hvs hxa hds
  have hne : ∀ k, k < 3 → k ≠ i → dS' (keyJ k) = dS (keyJ k) := fun k hk hki => by
    rw [← hdS]
    refine hkn' _ ?_
    rw [lk_one, if_neg]
    intro e
    exact hki (keyJ_inj k hk i hi (sEq_iff.mp e).symm)
  have hpin' : ∀ i v, dI i = some v → dI' i = some v := fun i v h => hpin (by omega) i v (by rw [hdI]; exact h)
  have hnd' : ((((I, it) :: (plsR pl (2 - i) ++ (lo' ++ ls'))) : List (Addr × Obj)).map (·.1)).Nodup := by
    refine hf'.nd.sublist (List.Sublist.map _ ?_)
    exact List.Sublist.append (List.Sublist.refl ((I, it) :: plsR pl (2 - i))) (List.sublist_append_right _ _)
  rw [List.map_cons, List.nodup_cons] at hnd'
  obtain ⟨ov', hov, hovr⟩ := hVr "own" _ (beqVs_ok hb _ _ (.head _))
  refine ⟨rfl, m', plsR pl (2 - i) ++ (lo' ++ ls'), hsm, hf'.F, fun q hq => hf'.N q ?_, fun q hq e => hnd'.1 (List.mem_map.mpr ⟨q, hq, e⟩), dv', dS', dI', lo', ls', ov', hd', hhd, ?_, hnd'.2, VL.of h7 hp' hb (fun y hy => .tail _ hy) hVr, hov, ?_, ow_of h7 h3 how' hH2 (fun q hq => hkt' q (hkt q hq)) hovr, ?_⟩
  · show q ∈ ((I, it) :: plsR pl (2 - i)) ++ (lt ++ (lo' ++ ls'))
    have hq : q ∈ ((I, it) :: plsR pl (2 - i)) ++ (lo' ++ ls') := hq
    rcases List.mem_append.mp hq with hq | hq
    · exact List.mem_append_left _ hq
    · exact List.mem_append_right _ (List.mem_append_right _ hq)
  · rw [show 3 - (i + 1) = 2 - i by omega]
  · intro q kn' kt' ds' n' N1' N2' hq e1 e2 e3 e4 e5 e6 e7 e8
    exact sh' q kn' kt' ds' n' N1' N2' hq e1 e2 e3 e4 e5 (by omega) (by omega) (by omega)
  · intro k h1 h2
    obtain ⟨yv, hy, hp⟩ := pr k (by omega) h2
    exact ⟨yv, by rw [hdk k (by omega)]; exact hy, hp.mono (hne k h2 (by omega)) hpin'⟩

theorem for3 {w : World} {mean : ExcName → Option Value} {mg mb : Str → Option Value} {c0 : Cx} (hC : CxOK (HN.K w.params) HN.q TL.lo mean mg mb true 300 c0) (hcs : c0.cs = HN.lawScope) {xp gp kp cp pos : Pos} {kk : Nat} {b : List Stmt}
    {J : Nat → (Str → Option Value) → List (Addr × Obj) → Prop} {news : List (Addr × Obj)} {m : Str → Option Value} {s : Shared} (F : Fr c0.h₀ c0.L s.heap m) (N : News c0.h₀ c0.L s.heap news) (nd : (news.map (·.1)).Nodup) (J0 : J 0 m news)
    (step : ∀ j, j < 3 → ∀ m news I it s t, J j m news → Fr c0.h₀ c0.L s.heap (fun y => if y = "spot" then some (.int (0 + (j : Int)) t) else m y) → News c0.h₀ c0.L s.heap ((I, it) :: news) → (∀ q ∈ news, q.1 ≠ I) →
      wpAny (model TL.P w) c0.A (execs b c0.env) (fun f s' => f = .next ∧ ∃ m' news', Sm s s' ∧ Fr c0.h₀ c0.L s'.heap m' ∧ News c0.h₀ c0.L s'.heap ((I, it) :: news') ∧ (∀ q ∈ news', q.1 ≠ I) ∧ J (j + 1) m' news') (fun _ _ => False) s) :
    wpAny (model TL.P w) c0.A (exec (.For (.Name "spot" xp) (.Call (.Name "range" gp) [.Constant (.int 3) kk kp] [] cp) b [] pos) c0.env) (fun f s' => f = .next ∧ ∃ m' news', Sm s s' ∧ Fr c0.h₀ c0.L s'.heap m' ∧ News c0.h₀ c0.L s'.heap news' ∧ J 3 m' news') (fun _ _ => False) s := by
  have turns : ∀ (I : Addr) (s : Shared) (k i : Nat) m news, k + i = 3 → J i m news → (∀ q ∈ news, q.1 ≠ I) → ∀ s0, Sm s0 s → RangeRest TL.P w c0.A (fun _ _ => False) c0.h₀ c0.env "spot" b (fun f s' => f = .next ∧ ∃ m' news', Sm s0 s' ∧ Fr c0.h₀ c0.L s'.heap m' ∧ News c0.h₀ c0.L s'.heap news' ∧ J 3 m' news') s I 0 3 k i m news := by
    intro I s k
    induction k with
    | zero =>
      intro i m news hk hJ hI s0 hs0 h tk F N
      obtain rfl : i = 3 := by omega
      exact ⟨rfl, m, news, hs0.trans (Sm.mk s h tk), F, N, hJ⟩
    | succ k ih =>
      intro i m news hk hJ hI s0 hs0
      refine RangeRest.succ fun t h tk F N => ?_
      refine wpAny_mono (step i (by omega) m news I _ ⟨h, s.gens, s.drawn, tk, s.os⟩ t hJ F N hI) (fun f s' h => ?_) fun _ _ h => h
      obtain ⟨rfl, m', news', hsm, F', N', hI', hJ'⟩ := h
      exact ⟨s'.heap, s'.toks, m', news', hsm, F', N', hI', ih (i + 1) m' news' (by omega) hJ' hI' s0 hs0⟩
  have hrg : isRange (HN.K w.params) HN.lawScope "range" (.Constant (.int 3) kk kp) = true := by kernel_rfl
  have hev : (lawR (HN.K w.params)).ev HN.lawScope (.Constant (.int 3) kk kp) [] ⟨[], 0, 0⟩ (fun v st => match natOf v with
      | some n => (match Nat.blt n 1000 with | true => (fun (v : AV) (st : St) => match v with | .int (.ofNat n) => Nat.beq n 3 && st.objs.isEmpty | _ => false) (.int n) st | false => false)
      | none => false) (fun _ => false) = true := by kernel_rfl
  have hf : Fm TL.P w (c0.wx news) m s.heap ⟨[], 0, 0⟩ ⟨[], [], [], fun _ => none, fun _ => none⟩ [] := ⟨F, by show News _ _ _ (news ++ []); rw [List.append_nil]; exact N, by show ((news ++ []).map _).Nodup; rw [List.append_nil]; exact nd, .nil, rfl, rfl⟩
  have hx : locA (c0.wx news).cs "spot" = true := by
    show locA c0.cs "spot" = true
    rw [hcs]
    kernel_rfl
  refine For_invVF hf.F (locA_ok hx) ?_ ?_ (fun _ => rfl) PassesOwn.never
  · show (c0.cs.kind == ScopeKind.class || c0.cs.kind == ScopeKind.module && c0.env.locals != c0.env.globals) = false
    rw [hC.ck]
    rfl
  · refine range_iter (c := c0.wx news) (sc := HN.lawScope) (n := 300) (PF := 59) (mv := m) (vars := []) (st := ⟨[], 0, 0⟩) (kx := fun _ => false) (k := fun v st => match v with | .int (.ofNat n) => Nat.beq n 3 && st.objs.isEmpty | _ => false) (runT_all 300) hrg hev (hC.wx _) ?_ (fun x a e => by cases e) hf XPost.never (fun j st1 s1 p1 led1 h' tk rr t u v hk hj hsm hl hf1 hRg F' N' => ?_)
    · have : EnvK (c0.wx news) (c0.wx news).env (c0.wx news).cs m m := EnvK.fn
      rw [← hcs]
      exact this
    · have hk : (Nat.beq j 3 && st1.objs.isEmpty) = true := hk
      rw [Bool.and_eq_true, Nat.beq_eq, List.isEmpty_iff] at hk
      obtain ⟨rfl, he⟩ := hk
      have hH := hf1.H
      rw [he] at hH
      cases hH
      have N' : News c0.h₀ c0.L h' (news ++ []) := N'
      rw [List.append_nil] at N'
      obtain ⟨q1, q2⟩ := range_small 3 hj
      refine iter_rangeUnr (env := c0.env) hC.hh hRg q1 q2 F' N' (fun I hI => ?_)
      exact turns I _ 3 0 m news rfl J0 (fun q hq e => absurd (hI q hq) (by rw [e]; exact Nat.lt_irrefl _)) s (hsm.trans (Sm.mk s1 h' tk))
end PH
end
section
open PySem PySem.W PySem.Calls PyProof.Rows
set_option Elab.async false
set_option maxRecDepth 100000
set_option linter.unusedVariables false
namespace PH
theorem endI_ok {vars : Vars} {st : St} (h : endI vars st = true) : beqVs vars0 vars = true ∧ st.objs = [(6, .list []), (5, .sd [("CS9", .obj 4)]), (4, .inst 183 [("text", .str "DeviceGray")]), (3, .ed), (2, .ed), (1, .inst 363 [("table", .obj 2), ("trailer", .obj 3)]), (0, .pen 0)] := by
  unfold endI at h
  rw [Bool.and_eq_true] at h
  exact ⟨h.1, beqOs_ok h.2⟩
theorem endO_ok {vars : Vars} {st : St} (h : endO vars st = true) : ∃ V n N1 N2, beqVs (("own", ownV V) :: vars0) vars = true ∧ st.objs = ownO V ++ shO n N1 N2 [] (ownT V) (symsTo 3) ∧ n ≤ 50 ∧ N1 ≤ 100 ∧ N2 ≤ 100 ∧ st.nxt = (match V with | false => 8 | true => 10) ∧ st.nn = (match V with | false => 0 | true => 1) := by
  unfold endO at h
  rw [Bool.or_eq_true] at h
  simp only [Bool.and_eq_true, Nat.beq_eq] at h
  rcases h with ⟨⟨⟨h1, h2⟩, h3⟩, h4⟩ | ⟨⟨⟨h1, h2⟩, h3⟩, h4⟩
  · exact ⟨false, 31, 31, 30, h1, beqOs_ok h4, by decide, by decide, by decide, h2, h3⟩
  · exact ⟨true, 31, 31, 31, h1, beqOs_ok h4, by decide, by decide, by decide, h2, h3⟩

/-- the first statements' end: the first loop's start -/
theorem start_J {w : World} {c : Cx} {vars : Vars} {st : St} {m : Str → Option Value} {h : Heap} {p : Mp} {led : List (Addr × Obj)} (hX : c.X = []) (hk : endI vars st = true) (hV : VarsRel p vars m) (hf : Fm TL.P w c m h st p led) : ∃ L7 dv dS dI ls pl, J1 w 0 m led L7 dv dS dI ls pl := by
  obtain ⟨hb, ho⟩ := endI_ok hk
  have H := hf.H
  have nd := hf.nd
  rw [hX, List.nil_append] at nd
  rw [ho] at H
  obtain ⟨b6, _, rfl, h6, H⟩ := H.uncons
  obtain ⟨b5, _, rfl, h5, H⟩ := H.uncons
  obtain ⟨b4, _, rfl, h4, H⟩ := H.uncons
  obtain ⟨b3, _, rfl, h3, H⟩ := H.uncons
  obtain ⟨b2, _, rfl, h2, H⟩ := H.uncons
  obtain ⟨b1, _, rfl, h1, H⟩ := H.uncons
  obtain ⟨b0, _, rfl, h0, H⟩ := H.uncons
  obtain rfl := H.nil_inv
  clear H
  obtain ⟨x6, v6, e6, a6, rfl, r6⟩ := h6
  obtain ⟨x5, o5, l5, a5, rfl, d5, r5, s5⟩ := h5
  obtain ⟨x2, o2, a2, rfl, d2, d2', s2⟩ := h2
  cases r5 with
  | @cons _ y _ _ ry r5 =>
  cases r5
  obtain ⟨y1, y2⟩ := y
  obtain ⟨rfl, ry⟩ := ry
  have hlen : 7 ≤ p.as.length := (List.getElem?_eq_some_iff.mp a6).1
  have h7 : (p.as.take 7).length = 7 := by rw [List.length_take]; omega
  have hp : Ext (p.as.take 7) p := ⟨p.as.drop 7, (List.take_append_drop 7 p.as).symm⟩
  have mv : ∀ {a : AV} {v : Value}, VRel p a v → VRel { p with dS := valueAt [("CS9", y2)], dI := fun _ => none } a v := fun {a v} h => by
    cases a <;> exact h
  have hH : HRel TL.P w { p with dS := valueAt [("CS9", y2)], dI := fun _ => none } (shO 0 1 0 [("DefaultGray", none), ("DefaultRGB", none), ("DefaultCMYK", none)] [] []) _ :=
    .cons ⟨x6, v6, e6, a6, rfl, r6.mono fun _ _ h => mv h⟩ (.cons ⟨x5, o5, _, a5, rfl, d5, s5, Nat.le_refl _, fun x => (by
      split
      · rename_i a e
        unfold lk at e
        split at e
        · cases e
        · unfold lk at e
          split at e
          · cases e
          · unfold lk at e
            split at e
            · cases e
            · cases e
      · rename_i e
        have : x = "DefaultGray" ∨ x = "DefaultRGB" ∨ x = "DefaultCMYK" := by
          unfold lk at e
          split at e
          · rename_i q; exact .inl (sEq_iff.mp q).symm
          · unfold lk at e
            split at e
            · rename_i q; exact .inr (.inl (sEq_iff.mp q).symm)
            · unfold lk at e
              split at e
              · rename_i q; exact .inr (.inr (sEq_iff.mp q).symm)
              · cases e
        rcases this with rfl | rfl | rfl <;> rfl
      · rfl)⟩ (.cons (h4.move (fun _ _ _ h => mv h) (fun _ h => h) rfl) (.cons (h3.move (fun _ _ _ h => mv h) (fun _ h => h) rfl)
      (.cons ⟨x2, o2, [], a2, rfl, d2', s2, Nat.le_refl _, fun q hq => (by cases hq), fun _ i v e => (by cases e)⟩ (.cons (h1.move (fun _ _ _ h => mv h) (fun _ h => h) rfl) (.cons (h0.move (fun _ _ _ h => mv h) (fun _ h => h) rfl) .nil))))))
  have hp' : Ext (p.as.take 7) { p with dS := valueAt [("CS9", y2)], dI := fun _ => none } := hp
  obtain ⟨dS, dI, dv, sh, hds, hkn, hkn', hkt, hpin⟩ := sh_of h7 hp' hH
  cases hds
  refine ⟨p.as.take 7, [], dS, dI, _, fun _ => [], h7, rfl, fun v hv => (by cases hv), rfl, nd, VL.of h7 hp hb (fun y hy => hy) hV, sh, fun i _ hi => ?_, fun i hi => absurd hi (Nat.not_lt_zero _)⟩
  match i, hi with
  | 0, _ => exact hkn "DefaultGray"
  | 1, _ => exact hkn "DefaultRGB"
  | 2, _ => exact hkn "DefaultCMYK"

/-- own is made -/
theorem own_J {w : World} {c : Cx} {vars : Vars} {st : St} {m m' : Str → Option Value} {h : Heap} {p' : Mp} {led news : List (Addr × Obj)} {L7 : List Addr} {dv : List Value} {dS : Str → Option Value} {dI : Int → Option Value} {ls : List (Addr × Obj)} {pl : Nat → List (Addr × Obj)}
    (J : J1 w 3 m news L7 dv dS dI ls pl) (hX : c.X = plsA pl 3) (hk : endO vars st = true) (hl : Mp.le ⟨L7, [], dv, dS, dI⟩ p') (hV : VarsRel p' vars m') (hf : Fm TL.P w c m' h st p' led) :
    ∃ V o3 z dv dS dI lo ls ov, o3.length = 3 ∧ J2 w V L7 o3 z pl 0 m' (plsR pl 3 ++ led) dv dS dI lo ls ov ∧ News c.h₀ c.L h (plsR pl 3 ++ led) := by
  obtain ⟨h7, hd, hh, rfl, nd, _, sh, no, pr⟩ := J
  obtain ⟨V, n, N1, N2, hb, ho, b1, b2, b3, hnx, hnn⟩ := endO_ok hk
  have hper : List.Perm (plsA pl 3 ++ led) (plsR pl 3 ++ led) := by
    refine List.Perm.append_right _ ?_
    show List.Perm ((([] ++ pl 0) ++ pl 1) ++ pl 2) ((([] ++ pl 2) ++ pl 1) ++ pl 0)
    simp only [List.nil_append]
    refine (List.perm_append_comm (l₁ := pl 0 ++ pl 1)).trans ?_
    rw [List.append_assoc]
    exact List.Perm.append_left _ List.perm_append_comm
  have hN : News c.h₀ c.L h (plsR pl 3 ++ led) := fun q hq => hf.N q (by rw [hX]; exact hper.mem_iff.mpr hq)
  have hnd : ((plsR pl 3 ++ led).map (·.1)).Nodup := (hper.map _).nodup_iff.mp (by have := hf.nd; rw [hX] at this; exact this)
  have hp : Ext L7 p' := Ext.le (p := ⟨L7, [], dv, dS, dI⟩) ⟨[], (List.append_nil _).symm⟩ hl
  obtain ⟨⟨t, ht⟩, ⟨u, hu⟩, hvs, hdS, hdI⟩ := hl
  dsimp only at ht hu hvs hdS hdI
  have hH := hf.H
  rw [ho] at hH
  obtain ⟨lo, l2, rfl, hH1, hH2⟩ := hH.split
  obtain ⟨dS', dI', dv', sh', hds, hkn, hkn', hkt, hpin⟩ := sh_of h7 hp hH2
  have hds := syms_inv hds
  rw [hvs, List.take_of_length_le (by omega : dv.length ≤ 3)] at hds
  subst hds
  obtain ⟨ov, hov, hovr⟩ := hV "own" _ (beqVs_ok hb _ _ (.head _))
  -- a map that holds own's things at 7, 8, 9
  have hown : ∃ o3 z p'', o3.length = 3 ∧ p'.le p'' ∧ Own L7 o3 z p'' := by
    have h1 := hf.na
    have h2 := hf.nn
    rw [hnx, ht, List.length_append, h7] at h1
    rw [hnn, hu] at h2
    cases V with
    | false =>
      refine ⟨t ++ [0, 0], 0, { p' with as := L7 ++ (t ++ [0, 0]), ns := [0] }, ?_, ⟨⟨[0, 0], ?_⟩, ⟨[0], ?_⟩, rfl, rfl, rfl⟩, ⟨[], ?_⟩, ⟨[], rfl⟩⟩
      · rw [List.length_append]
        have h1 : 7 + t.length = 8 := h1
        show t.length + 2 = 3
        omega
      · rw [ht, List.append_assoc]
      · have h2 : ([] ++ u).length = 0 := h2
        rw [hu, List.length_eq_zero_iff.mp h2]
        rfl
      · rw [List.append_nil]
    | true =>
      have h2 : ([] ++ u).length = 1 := h2
      obtain ⟨z, hz⟩ := List.length_eq_one_iff.mp h2
      refine ⟨t, z, p', ?_, Mp.le.refl _, ⟨[], ?_⟩, ⟨[], ?_⟩⟩
      · have h1 : 7 + t.length = 10 := h1
        omega
      · rw [List.append_nil, ht]
      · rw [hu, hz]
  obtain ⟨o3, z, p'', h3, hle, how⟩ := hown
  have hktp : KtOK p'' dI' (ownT V) := fun q hq => by
    obtain ⟨i, v, h1, h2, h3⟩ := hkt q hq
    exact ⟨i, v, keyI.le hle h1, h2, h3.le hle⟩
  refine ⟨V, o3, z, dv', dS', dI', lo, l2, ov, h3, ⟨hd, hh, rfl, hnd, VL.of h7 hp hb (fun y hy => .tail _ hy) hV, hov, ?_, ow_of h7 h3 how (hH1.le hle) hktp (hovr.le hle), fun k _ hk => ?_⟩, hN⟩
  · intro q kn' kt' ds' n' N1' N2' hq e1 e2 e3 e4 e5 e6 e7 e8
    exact sh' q kn' kt' ds' n' N1' N2' hq e1 e2 e3 e4 e5 (by omega) (by omega) (by omega)
  · obtain ⟨xv, hx, hp⟩ := pr k hk
    refine ⟨xv, hx, hp.mono ?_ fun i v h => hpin (by omega) i v (by rw [hdI]; exact h)⟩
    rw [← hdS]
    exact hkn' _ rfl
end PH
end
section
open PySem PySem.W PySem.Calls PyProof.Rows
set_option Elab.async false
set_option maxRecDepth 100000
set_option linter.unusedVariables false
set_option maxHeartbeats 4000000
namespace PH
theorem lawB4 : ∃ xp gp kk kp cp pos, lawB 4 = .For (.Name "spot" xp) (.Call (.Name "range" gp) [.Constant (.int 3) kk kp] [] cp) body1 [] pos := ⟨_, _, _, _, _, _, rfl⟩
theorem lawB6 : ∃ xp gp kk kp cp pos, lawB 6 = .For (.Name "spot" xp) (.Call (.Name "range" gp) [.Constant (.int 3) kk kp] [] cp) body2 [] pos := ⟨_, _, _, _, _, _, rfl⟩
theorem law_texts : HN.lawBody = lawB 0 :: ([lawB 1, lawB 2, lawB 3] ++ (lawB 4 :: ([lawB 5] ++ (lawB 6 :: HN.lawBody.drop 7)))) := by kernel_rfl

structure RunOK (K : Frag) (ss : List Stmt) (vars : Vars) (st : St) (kn : KS) (kr : KB) : Prop where
  h : (runT K spc 300).ex HN.lawScope ss vars st kn kr (fun _ => false) = true
theorem start_eq (w : World) : RunOK (HN.K w.params) [lawB 1, lawB 2, lawB 3] [("pen", .obj 0)] ⟨[(0, .pen 0)], 1, 0⟩ endI (fun _ _ => false) := ⟨start_ok w⟩
theorem own_eq (w : World) : RunOK (HN.K w.params) [lawB 5] vars0 ⟨shO 30 31 30 [] [] (symsTo 3), 7, 0⟩ endO (fun _ _ => false) := ⟨own_ok w⟩
noncomputable def isT : AV → St → Bool := fun v _ => match v with | .bool b => b | _ => false
theorem rest_eq (w : World) : RunOK (HN.K w.params) (HN.lawBody.drop 7) vars0 ⟨shO 50 100 1000 [] [] (symsTo 3), 7, 0⟩ (fun _ _ => false) isT := ⟨rest_ok w⟩
theorem turn1_all (w : World) (j : Nat) (hj : j < 3) : turn1 (HN.K w.params) j = true := by
  obtain e | e | e : j = 0 ∨ j = 1 ∨ j = 2 := by omega
  · rw [e]; exact turn1_0 w
  · rw [e]; exact turn1_1 w
  · rw [e]; exact turn1_2 w
theorem goods3 {K : Frag} {j : Nat} {a b c : List Sv} (ha : goodL K j a = true) (hb : goodL K j b = true) (hc : goodL K j c = true) : ∀ l, l ∈ [a, b, c] → goodL K j l = true := by
  intro l hl
  rcases List.mem_cons.mp hl with rfl | hl
  · exact ha
  rcases List.mem_cons.mp hl with rfl | hl
  · exact hb
  rcases List.mem_cons.mp hl with rfl | hl
  · exact hc
  cases hl
theorem goods_all (w : World) (j : Nat) (hj : j < 3) : ∀ l, l ∈ chunks j → goodL (HN.K w.params) j l = true := by
  obtain e | e | e : j = 0 ∨ j = 1 ∨ j = 2 := by omega
  · rw [e]; exact goods3 (good_0a w) (good_0b w) (good_0c w)
  · rw [e]; exact goods3 (good_1a w) (good_1b w) (good_1c w)
  · rw [e]; exact goods3 (good_2a w) (good_2b w) (good_2c w)
theorem exW {w : World} {mean : ExcName → Option Value} {mg mb : Str → Option Value} {c0 : Cx} (X : List (Addr × Obj)) {ss : List Stmt} {vars : Vars} {st : St} {kn : KS} {kr : KB} {m : Str → Option Value} {s : Shared} {p : Mp} {led : List (Addr × Obj)} {Q : Flow → Shared → Prop}
    (hr : RunOK (HN.K w.params) ss vars st kn kr) (hC : CxOK (HN.K w.params) HN.q TL.lo mean mg mb true 300 c0) (hcs : c0.cs = HN.lawScope) (hV : VarsRel p vars m) (hf : Fm TL.P w (c0.wx X) m s.heap st p led)
    (hN : ∀ vars st' m' s' p' led', kn vars st' = true → Sm s s' → p.le p' → VarsRel p' vars m' → Fm TL.P w (c0.wx X) m' s'.heap st' p' led' → Q .next s')
    (hR : ∀ a st' v m' s' p' led', kr a st' = true → Sm s s' → p.le p' → VRel p' a v → Fm TL.P w (c0.wx X) m' s'.heap st' p' led' → Q (.ret v) s') : wpAny (model TL.P w) c0.A (execs ss c0.env) Q (fun _ _ => False) s :=
  (runT_all (w := w) (mean := mean) (mg := mg) (mb := mb) 300).ex HN.lawScope ss vars st kn kr _ hr.h (c0.wx X) m s p led Q _ (hC.wx X) hcs hV hf hN hR XPost.never
theorem law_after {w : World} {mean : ExcName → Option Value} {mg mb : Str → Option Value} {c0 : Cx} (hC : CxOK (HN.K w.params) HN.q TL.lo mean mg mb true 300 c0) (hcs : c0.cs = HN.lawScope) (hX0 : c0.X = []) {m : Str → Option Value} {s : Shared} {x : Addr} {led : List (Addr × Obj)}
    (F : Fr c0.h₀ c0.L s.heap m) (hm : m "pen" = some (.ref x)) (hb : ORel TL.P w ⟨[x], [], [], fun _ => none, fun _ => none⟩ 0 (.pen 0) led) (N : News c0.h₀ c0.L s.heap led) (nd : (led.map (·.1)).Nodup) :
    wpAny (model TL.P w) c0.A (execs ([lawB 1, lawB 2, lawB 3] ++ (lawB 4 :: ([lawB 5] ++ (lawB 6 :: HN.lawBody.drop 7)))) c0.env) (fun f s' => f = .ret (.bool true) ∧ Sm s s' ∧ ∃ m', Fr c0.h₀ c0.L s'.heap m') (fun _ _ => False) s := by
  have hf : Fm TL.P w c0 m s.heap ⟨[(0, .pen 0)], 1, 0⟩ ⟨[x], [], [], fun _ => none, fun _ => none⟩ led := by
    refine ⟨F, ?_, ?_, ?_, rfl, rfl⟩
    · rw [hX0]; exact N
    · rw [hX0]; exact nd
    · have := HRel.cons hb HRel.nil
      rw [List.append_nil] at this
      exact this
  have hV : VarsRel ⟨[x], [], [], fun _ => none, fun _ => none⟩ [("pen", .obj 0)] m := by
    intro y a e
    rw [lk_one] at e
    split at e
    · rename_i q
      cases e
      rw [sEq_iff] at q
      subst q
      exact ⟨_, hm, x, rfl, rfl⟩
    · cases e
  refine execs_app ((runT_all 300).ex HN.lawScope [lawB 1, lawB 2, lawB 3] _ _ _ _ _ (start_eq w).h c0 m s _ led _ _ hC hcs hV hf (fun vars st m1 s1 p1 led1 hk hsm1 hl hV1 hf1 => ?_) (fun a st v m' s' p' led' hk => by cases hk) XPost.never)
  dsimp only
  have hJ := start_J hX0 hk hV1 hf1
  have N1 : News c0.h₀ c0.L s1.heap led1 := by have := hf1.N; rw [hX0] at this; exact this
  have nd1 : (led1.map (·.1)).Nodup := by have := hf1.nd; rw [hX0] at this; exact this
  refine wpAny_execs_cons ?_
  obtain ⟨xp, gp, kk, kp, cp, pos, e4⟩ := lawB4
  rw [e4]
  refine wpAny_mono (for3 (J := fun j m news => ∃ L7 dv dS dI ls pl, J1 w j m news L7 dv dS dI ls pl) hC hcs hf1.F N1 nd1 hJ fun j hj m news I it s t J F N hI => ?_) (fun f s2 h2 => ?_) fun _ _ h => h
  · obtain ⟨L7, dv, dS, dI, ls, pl, J⟩ := J
    exact step1 hj (turn1_all w j hj) (goods_all w j hj) hC hcs J F N hI
  obtain ⟨rfl, m2, news2, hsm2, F2, N2, L7, dv, dS, dI, ls, pl, J⟩ := h2
  dsimp only
  have h7 := J.h7
  have J' := J
  obtain ⟨_, hd, hh, rfl, nd2, hV2, sh, no, pr⟩ := J'
  have hp : Ext L7 ⟨L7, [], dv, dS, dI⟩ := ⟨[], (List.append_nil _).symm⟩
  have hsy := syms_rel (p := ⟨L7, [], dv, dS, dI⟩) hh 3 (by show 3 ≤ dv.length; omega)
  rw [show (Mp.vs ⟨L7, [], dv, dS, dI⟩).take 3 = dv from List.take_of_length_le (by show dv.length ≤ 3; omega)] at hsy
  have hf2 : Fm TL.P w (c0.wx (plsA pl 3)) m2 s2.heap ⟨shO 30 31 30 [] [] (symsTo 3), 7, 0⟩ ⟨L7, [], dv, dS, dI⟩ ls :=
    ⟨F2, N2, nd2, sh _ [] [] (symsTo 3) 30 31 30 hp rfl rfl (fun x => trivial) (fun q hq => by cases hq) hsy (Nat.le_refl _) (Nat.le_refl _) (Nat.le_refl _), h7, rfl⟩
  have e5 := own_eq w
  have v5 := hV2.rel h7 hp
  have r5 := fun Q => @exW w mean mg mb c0 (plsA pl 3) [lawB 5] vars0 ⟨shO 30 31 30 [] [] (symsTo 3), 7, 0⟩ endO (fun _ _ => false) m2 s2 ⟨L7, [], dv, dS, dI⟩ ls Q e5
  refine execs_app (r5 _ hC hcs v5 hf2 (fun vars3 st3 m3 s3 p3 led3 hk3 hsm3 hl3 hV3 hf3 => ?_) (fun a st v m' s' p' led' hk => by cases hk))
  dsimp only
  obtain ⟨V, o3, z, dv3, dS3, dI3, lo3, ls3, ov3, ho3, J3, N3⟩ := own_J (c := c0.wx (plsA pl 3)) J rfl hk3 hl3 hV3 hf3
  refine wpAny_execs_cons ?_
  obtain ⟨xp, gp, kk, kp, cp, pos, e6⟩ := lawB6
  rw [e6]
  refine wpAny_mono (for3 (J := fun i m news => ∃ dv dS dI lo ls ov, J2 w V L7 o3 z pl i m news dv dS dI lo ls ov) hC hcs hf3.F N3 J3.nd ⟨_, _, _, _, _, _, J3⟩ fun i hi m news I it s t J F N hI => ?_) (fun f s4 h4 => ?_) fun _ _ h => h
  · obtain ⟨dv, dS, dI, lo, ls, ov, J⟩ := J
    exact step2 hi hC hcs h7 ho3 J F N hI
  obtain ⟨rfl, m4, news4, hsm4, F4, N4, dv4, dS4, dI4, lo4, ls4, ov4, J4⟩ := h4
  dsimp only
  obtain ⟨hd4, hh4, rfl, nd4, hV4, _, sh4, _, _⟩ := J4
  have hp4 : Ext L7 ⟨L7, [], dv4, dS4, dI4⟩ := ⟨[], (List.append_nil _).symm⟩
  have hsy4 := syms_rel (p := ⟨L7, [], dv4, dS4, dI4⟩) hh4 3 (by show 3 ≤ dv4.length; omega)
  rw [show (Mp.vs ⟨L7, [], dv4, dS4, dI4⟩).take 3 = dv4 from List.take_of_length_le (by show dv4.length ≤ 3; omega)] at hsy4
  have hf4 : Fm TL.P w (c0.wx lo4) m4 s4.heap ⟨shO 50 100 1000 [] [] (symsTo 3), 7, 0⟩ ⟨L7, [], dv4, dS4, dI4⟩ ls4 :=
    ⟨F4, N4, nd4, sh4 _ [] [] (symsTo 3) 50 100 1000 hp4 rfl rfl (fun x => trivial) (fun q hq => by cases hq) hsy4 (Nat.le_refl _) (Nat.le_refl _) (by decide), h7, rfl⟩
  have e7 := rest_eq w
  have v7 := hV4.rel h7 hp4
  have r7 := fun Q => @exW w mean mg mb c0 lo4 (HN.lawBody.drop 7) vars0 ⟨shO 50 100 1000 [] [] (symsTo 3), 7, 0⟩ (fun _ _ => false) isT m4 s4 ⟨L7, [], dv4, dS4, dI4⟩ ls4 Q e7
  refine r7 _ hC hcs v7 hf4 (fun vars st m' s' p' led' hk => by cases hk) (fun a st5 v m5 s5 p5 led5 hk5 hsm5 hl5 hv5 hf5 => ?_)
  have : v = .bool true := by
    unfold isT at hk5
    split at hk5
    · subst hk5
      exact hv5
    · cases hk5
  subst this
  exact ⟨rfl, (((hsm1.trans hsm2).trans hsm3).trans hsm4).trans hsm5, m5, hf5.F⟩
end PH
end
section
open PySem PySem.W PySem.Calls PyProof.Rows
set_option Elab.async false
set_option maxRecDepth 100000
set_option maxHeartbeats 4000000
namespace PN
noncomputable abbrev b0 : Stmt := (PySem.Stmt.Assign
                (targets := [(PySem.Expr.Name "pen" ⟨374, 4, 374, 7⟩)])
                (value := (PySem.Expr.Call
                  (func := (PySem.Expr.Name "_law_pen" ⟨374, 10, 374, 18⟩))
                  (args := [(PySem.Expr.Name "script" ⟨374, 19, 374, 25⟩)])
                  (keywords := [])
                  (pos := ⟨374, 10, 374, 26⟩)))
                (pos := ⟨374, 4, 374, 26⟩))
theorem news23 {h₀ h : Heap} {L : Addr} {a b c : Addr × Obj} (N : News h₀ L h [a, b, c]) : News h₀ L h [a, b] := fun q hq => N q (by
  rcases List.mem_cons.mp hq with rfl | hq
  · exact .head _
  · rcases List.mem_cons.mp hq with rfl | hq
    · exact .tail _ (.head _)
    · cases hq)
theorem lt_ne2 {a b c : Nat} (h : a < b ∧ c < b) (e : b = a) : False := by obtain ⟨h1, h2⟩ := h; omega
theorem pen_walk {w : World} {mean : ExcName → Option Value} {mg mb : Str → Option Value} {g h₁ : Heap} {L fa l : Addr} {ccd : Value} {nm : Str} {vs : List Value} {ns : List Int} {gn : Array GenState} {dr : Drawn} {tk : Nat} {os : OsState} {Q : Flow → Shared → Prop} {E : Value → Shared → Prop}
    (F : Fr g L h₁ (fun x => List.lookup x [((Str.ofString "script"), Value.ref l)].reverse)) (X : (HN.K w.params).In g)
    (T : Top HN.q TL.lo mean mg mb g) (B : Below callerA g [] g) (hl : g.IsList l vs.toArray) (hI : IntsAre vs ns) (hz : (PyData.list (ns.map PyData.int)).layable0 = true)
    (hQ : ∀ h' tk' x lx (vs' : List Value) (ns' : List Int) e e' t u, Fr g L h' (fun y => if y = "pen" then some (.ref x) else List.lookup y [((Str.ofString "script"), Value.ref l)].reverse) → News g L h' [(x, PySem.W.listOf #[.ref lx, .int 0 t, .int 0 u] e), (lx, PySem.W.listOf vs'.toArray e')] →
      IntsAre vs' ns' → ns'.length ≤ 63 → (∀ i ∈ ns', Nat.log2 i.natAbs ≤ 2 ^ 21) → x ≠ lx → Q .next ⟨h', gn, dr, tk', os⟩) :
    wpAny (model TL.P w) (callerA.deeper (envOf nm { kind := .function, names := HN.lawScope.names, isGenerator := false, isCoroutine := false, more := HN.lawScope.more } L fa ccd)) (exec b0 (envOf nm { kind := .function, names := HN.lawScope.names, isGenerator := false, isCoroutine := false, more := HN.lawScope.more } L fa ccd)) Q E ⟨h₁, gn, dr, tk, os⟩ := by
  have fil : (PySem.Challenge.rw_pq0824_01, HN.K) = (PySem.Challenge.rw_pq0824_01, HN.K) := by
    k_fill
    rfl
  clear fil
  have N : News g L h₁ [] := fun q hq => by cases hq
  k_steps
  have hN' := ‹News g L _ _›
  have hF' := ‹Fr g L _ _›
  have hI' := ‹IntsAre _ (List.map (fun k' => k') (List.take 63 ns))›
  refine hQ _ _ _ _ _ _ _ _ _ _ hF' (news23 hN') hI' ?_ (fun i hi => ?_) (fun e => ?_)
  · rw [List.length_map, List.length_take]
    omega
  · rw [List.map_id'] at hi
    have hb := PyData.bits_item_of_ints hz (List.mem_of_mem_take hi)
    unfold Builtin.Int.intBits at hb
    split at hb
    · rename_i h0
      rw [beq_iff_eq] at h0
      subst h0
      decide
    · omega
  · exact lt_ne2 (by assumption) e
end PN
end
section
open PySem PySem.W PyProof.Rows PySem.Calls
set_option Elab.async false
set_option maxRecDepth 100000
set_option maxHeartbeats 8000000
namespace PH
theorem fin_of {M : Model} {A : Around} {t : Sem Flow} {Q : Flow → Shared → Prop} {E : Value → Shared → Prop} {s : Shared} {h₀ h : Heap} {L : Addr} {m : Str → Option Value} (F : Fr h₀ L h m)
    (a : wpAny M A t (fun f s' => f = .ret (.bool true) ∧ (∀ b o, h₀.get? b = some o → s'.heap.get? b = some o) ∧ s'.os = s.os ∧ s'.gens = s.gens) (fun _ _ => False) s)
    (b : ∀ s', (∀ b o, h₀.get? b = some o → s'.heap.get? b = some o) → s'.os = s.os → s'.gens = s.gens → Q (.ret (.bool true)) s') : wpAny M A t Q E s :=
  wpAny_mono a (fun f s' h => by obtain ⟨rfl, h1, h2, h3⟩ := h; exact b s' h1 h2 h3) fun _ _ h => h.elim
noncomputable def lawFn (K : Frag) : Option FuncData := match nsIn K mainGlobals "law" with
  | some (some (.ref a)) => fnAt K a
  | _ => none
noncomputable def lawCx (g : Heap) (L fa : Addr) (ccd : Value) (nm : Str) (sc : Scope) : Cx := { A := callerA.deeper (envOf nm sc L fa ccd), A₀ := callerA, base := g, h₀ := g, outer := [], L := L, cn := nm, cs := sc, a := fa, ccd := ccd, X := [] }
theorem law_cx {K : Frag} {pr : Program} {lo : List Str} {mean : ExcName → Option Value} {mg mb : Str → Option Value} {g : Heap} {L fa : Addr} {ccd : Value} {nm : Str} {sc : Scope} (X : K.In g) (T : Top pr lo mean mg mb g) (B : Below callerA g [] g) (hk : sc.kind = .function) : CxOK K pr lo mean mg mb true 300 (lawCx g L fa ccd nm sc) :=
  ⟨B, X, T, rfl, rfl, by show 1 + claimMargin + 1 + 2 * 300 + 10 < recursionLimit; decide, by show 4 + 3 + 10 * 300 + 200 < cLine; decide, hk, fun _ => ⟨rfl, X, T⟩⟩
theorem lawFn_eq (P : Params) : (lawFn (HN.K P)).map (fun fd => (bodyOf fd, fd.scope)) = some (HN.lawBody, HN.lawScope) := by kernel_rfl
theorem lawB0 : lawB 0 = PN.b0 := by kernel_rfl
theorem law_main {w : World} {mean : ExcName → Option Value} {mg mb : Str → Option Value} {g : Heap} {h₁ : Heap} {L fa l : Addr} {ccd : Value} {nm : Str} {sc : Scope} {body : List Stmt} {vs : List Value} {ns : List Int} {gn : Array GenState} {dr : Drawn} {tk : Nat} {os : OsState}
    (hb : (lawFn (HN.K w.params)).map (fun fd => (bodyOf fd, fd.scope)) = some (body, sc)) (F : Fr g L h₁ (fun x => List.lookup x [((Str.ofString "script"), Value.ref l)].reverse)) (X : (HN.K w.params).In g)
    (T : Top HN.q TL.lo mean mg mb g) (B : Below callerA g [] g) (hl : g.IsList l vs.toArray) (hI : IntsAre vs ns) (hz : (PyData.list (ns.map PyData.int)).layable0 = true) :
    wpAny (model TL.P w) (callerA.deeper (envOf nm sc L fa ccd)) (execs body (envOf nm sc L fa ccd))
      (fun f s' => f = .ret (.bool true) ∧ (∀ b o, g.get? b = some o → s'.heap.get? b = some o) ∧ s'.os = os ∧ s'.gens = gn) (fun _ _ => False) ⟨h₁, gn, dr, tk, os⟩ := by
  rw [lawFn_eq] at hb
  have hb := Option.some.inj hb
  obtain ⟨rfl, rfl⟩ := Prod.mk.inj hb
  rw [law_texts]
  refine wpAny_execs_cons ?_
  rw [lawB0]
  refine PN.pen_walk F X T B hl hI hz fun h' tk' x lx vs' ns' e e' t u F' N' I' hlen hbits hne => ?_
  dsimp only
  have A := law_after (c0 := lawCx g L fa ccd nm HN.lawScope) (law_cx X T B rfl) rfl rfl (m := fun y => if y = "pen" then some (.ref x) else List.lookup y [((Str.ofString "script"), Value.ref l)].reverse) (s := ⟨h', gn, dr, tk', os⟩) (x := x) F' (if_pos rfl)
    ⟨x, lx, 0, 0, t, u, e, vs', e', ns', rfl, rfl, I', ⟨hlen, hbits, Int.le_refl _, Int.le_refl _, Int.le_refl _, by decide⟩⟩ N' (by
      refine List.nodup_cons.mpr ⟨fun q => ?_, List.nodup_cons.mpr ⟨fun q => (by cases q), List.nodup_nil⟩⟩
      cases q with
      | head => exact hne rfl
      | tail _ q => cases q)
  refine wpAny_mono A (fun f s' h => ?_) fun _ _ h => h
  obtain ⟨rfl, hsm, m', F⟩ := h
  refine ⟨rfl, fun b o hb => F.keep b o hb, ?_, ?_⟩
  · rw [hsm]
  · rw [hsm]
theorem walk_all (q' : Program) (hq : q' = HN.q) : WalkO q' HN.loose (XL q' []) HN.H.says PySem.Challenge.rw_pq0824_01.row.toRowW HN.lawD [] fun f vs => call f vs := by
  k_go0
  subst hq
  refine fin_of ‹Fr _ _ _ _› ?_ ?_
  · exact PH.law_main (by kernel_rfl) ‹Fr _ _ _ _› (by assumption) (by assumption) (by assumption) (by assumption) (by assumption) (by assumption)
  · intro s' hk hos hgn
    dsimp only
    refine ⟨.inl ⟨.bool true, ofPy (.bool true), [], rfl, ?_, ?_, ?_, ?_⟩, hk, hos, hgn.trans (by assumption)⟩
    · intro cls
      rfl
    · first | exact ⟨rfl, rfl⟩ | constructor | rfl
    · first | kernel_rfl | (with_unfolding_all rfl) | (simp; done)
    · intro _
      exact ⟨List.nodup_nil, fun _ h => by cases h⟩
end PH
end
open PySem PySem.W PyProof.Rows PySem.Calls
set_option maxRecDepth 100000 in
set_option maxHeartbeats 8000000 in
theorem PySem.Challenge.cw_pq0824_01_holds : PySem.Challenge.rw_pq0824_01.Holds := by
  exact HN.hd (PH.walk_all HN.q rfl)
