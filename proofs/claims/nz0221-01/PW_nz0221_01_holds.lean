import PyProof.Rows.All
import Wide.All
import OpenK.AllK
import Wide.FinOn
import Lean
import PySem.Challenge.RW_nz0221_01
set_option Elab.async false
/- V1 -/
section
open PySem PySem.W PyProof.Rows
namespace Mine

/-- the built-ins that the program calls -/
inductive Bi where
  | len | int_ | bytes | bytearray | range | min | divmod | sorted
noncomputable def Bi.val : Bi → Value
  | .len => .builtin "len"
  | .int_ => .type "int"
  | .bytes => .type "bytes"
  | .bytearray => .type "bytearray"
  | .range => .type "range"
  | .min => .builtin "min"
  | .divmod => .builtin "divmod"
  | .sorted => .builtin "sorted"

/-- values: s.. is symbolic, its fellow is known -/
inductive V where
  | none
  | bool (b : Bool)
  | sbool (b : Bool)
  | int (i : Int)
  | sint (i : Int)
  | str (s : Str)
  | bytes (xs : List Int)
  | bi (b : Bi)
  | top (a : Nat)
  | obj (i : Nat)
  | ro (xs : List Int)

/-- objects; references among them are numbers of the heap list -/
inductive O where
  | inst (C : Nat) (d : Nat)
  | dict (es : List (Str × V))
  | list (xs : List V)
  | il (xs : List Int)
  | tup (xs : List V)
  | barr (xs : List Int)
  | rng (lo hi : Int) (known : Bool)

/-- a branch on a symbolic bool -/
inductive Br (b : Bool) (P Q : Prop) : Prop where
  | mk : (b = true → P) → (b = false → Q) → Br b P Q

noncomputable def natsEq : List Nat → List Nat → Bool
  | [], [] => true
  | x :: xs, y :: ys => match Nat.beq x y with
    | true => natsEq xs ys
    | false => false
  | [], _ :: _ => false
  | _ :: _, [] => false
noncomputable def strEq (a b : Str) : Bool := natsEq a.cps.toList b.cps.toList

noncomputable def lget {α : Type} (x : Str) : List (Str × α) → Option α
  | [] => none
  | p :: r => match strEq p.1 x with
    | true => some p.2
    | false => lget x r
noncomputable def lset {α : Type} (x : Str) (v : α) : List (Str × α) → List (Str × α)
  | [] => [(x, v)]
  | p :: r => match strEq p.1 x with
    | true => (p.1, v) :: r
    | false => p :: lset x v r
noncomputable def lrep {α : Type} (x : Str) (v : α) : List (Str × α) → List (Str × α)
  | [] => []
  | p :: r => match strEq p.1 x with
    | true => (p.1, v) :: lrep x v r
    | false => p :: lrep x v r
/-- entries, one behind the other -/
noncomputable def lsets {α : Type} : List (Str × α) → List (Str × α) → List (Str × α)
  | es, [] => es
  | es, p :: r => lsets (lset p.1 p.2 es) r
/-- a local is set; all that bears the name -/
noncomputable def lsetL {α : Type} (x : Str) (v : α) : List (Str × α) → List (Str × α)
  | [] => [(x, v)]
  | p :: r => match strEq p.1 x with
    | true => (p.1, v) :: lrep x v r
    | false => p :: lsetL x v r
noncomputable def aget {α : Type} (a : Nat) : List (Nat × α) → Option α
  | [] => none
  | p :: r => match Nat.beq p.1 a with
    | true => some p.2
    | false => aget a r

structure St where
  H : List O
  l : List (Str × V)
  s : List V
  sc : List (Str × NameKind)

inductive Fl where
  | next
  | ret (v : V)

noncomputable abbrev KV := V → St → Prop
noncomputable abbrev KB := Bool → St → Prop
noncomputable abbrev KF := Fl → St → Prop

/-- what a summarised def does with its arguments and the state -/
noncomputable abbrev Spec := List V → St → KV → Prop

structure Tab where
  glob : List (Str × V)
  fld : List (Nat × List Str)
  mth : List (Nat × List (Str × Nat))
  con : List (Nat × List (Str × V))
  ini : List (Nat × Nat)
  dfl : List (Nat × List V)
  fn : Nat → Option FuncData
  fns : List Nat
  spec : List (Nat × Spec)
  cuts : List Nat
  bad : List Nat
  soft : List Str
  dead : List (Nat × List Str)

structure Ev where
  e : Expr → St → KV → Prop
  t : Expr → St → KB → Prop
  ss : List Stmt → St → KF → Prop
  call : V → List V → St → KV → Prop

noncomputable def Ev.nil : Ev := ⟨fun _ _ _ => False, fun _ _ _ => False, fun _ _ _ => False, fun _ _ _ _ => False⟩

noncomputable def push (v : V) (st : St) : St := ⟨st.H, st.l, v :: st.s, st.sc⟩
noncomputable def pushAll (vs : List V) (st : St) : St := ⟨st.H, st.l, vs ++ st.s, st.sc⟩
noncomputable def pop (st : St) (k : KV) : Prop := match st.s with
  | v :: s => k v ⟨st.H, st.l, s, st.sc⟩
  | [] => False
noncomputable def setH (st : St) (H : List O) : St := ⟨H, st.l, st.s, st.sc⟩
noncomputable def new (o : O) (st : St) (k : KV) : Prop := k (.obj st.H.length) ⟨st.H ++ [o], st.l, st.s, st.sc⟩

noncomputable def truth (v : V) (k : Bool → Prop) : Prop := match v with
  | .none => k false
  | .bool b => k b
  | .sbool b => Br b (k true) (k false)
  | .int i => k (!(eqI i 0))
  | .sint i => Br (decide (i ≠ 0)) (k true) (k false)
  | _ => False
where eqI (a b : Int) : Bool := Z.eqB a b

/-- the int behind a value, and whether it is known -/
noncomputable def asInt : V → Option (Int × Bool)
  | .int i => some (i, true)
  | .sint i => some (i, false)
  | _ => none
noncomputable def asBool : V → Option (Bool × Bool)
  | .bool b => some (b, true)
  | .sbool b => some (b, false)
  | _ => none
noncomputable def mkI (known : Bool) (i : Int) : V := match known with
  | true => .int i
  | false => .sint i
noncomputable def mkB (known : Bool) (b : Bool) : V := match known with
  | true => .bool b
  | false => .sbool b
/-- a condition that is asked: known ones are computed -/
noncomputable def need (known : Bool) (c : Bool) (k : Prop) : Prop := match known with
  | true => match c with
    | true => k
    | false => False
  | false => Br c k False

noncomputable def intsOf : List V → Option (List Int)
  | [] => some []
  | v :: r => match asInt v with
    | some (i, _) => match intsOf r with
      | some l => some (i :: l)
      | none => none
    | none => none
noncomputable def asInts : O → Option (List Int)
  | .il xs => some xs
  | .list xs => intsOf xs
  | _ => none

noncomputable def ltB := Z.ltB
noncomputable def leB := Z.leB
noncomputable def eqB := Z.eqB

noncomputable def iop (op : Operator) (a b : Int) (ka kb : Bool) (k : Int → Prop) : Prop := match op with
  | .Add => k (a + b)
  | .Sub => k (a - b)
  | .Mult => need ka (decide (a.natAbs < 2 ^ 64)) (k (a * b))
  | .FloorDiv => need kb (decide (b ≠ 0 ∧ b.natAbs < 1073741824)) (k (a.fdiv b))
  | .Mod => need kb (decide (b ≠ 0)) (k (a.fmod b))
  | .Pow => need (ka && kb) (decide (0 ≤ b ∧ b ≤ 1000000 ∧ a.natAbs < 2 ^ 64)) (k (a ^ b.toNat))
  | .LShift => need (ka && kb) (decide (0 ≤ b ∧ b ≤ 1000000 ∧ a.natAbs < 2 ^ 64)) (k (a * 2 ^ b.toNat))
  | .RShift => need kb (decide (0 ≤ b)) (k (a.fdiv (2 ^ b.toNat)))
  | .BitOr => k (Builtin.bitOr a b)
  | .BitAnd => k (Builtin.bitAnd a b)
  | _ => False

noncomputable def listOf : O → Option (List V)
  | .list xs => some xs
  | .il [] => some []
  | _ => none
/-- two lists joined: the condition on their sizes apart -/
noncomputable def listCat (a b : O) (k : O → Prop) : Prop := match asInts a, asInts b with
  | some xs, some ys => Br (decide (xs.length + ys.length ≤ 1000000)) (k (.il (xs ++ ys))) False
  | _, _ => match listOf a, listOf b with
    | some xs, some ys => match Nat.ble (xs.length + ys.length) 1000000 with
      | true => k (.list (xs ++ ys))
      | false => False
    | _, _ => False

noncomputable def repL {α : Type} (xs : List α) : Nat → List α
  | 0 => []
  | n + 1 => xs ++ repL xs n

noncomputable def binop (op : Operator) (a b : V) (st : St) (k : KV) : Prop := match asInt a, asInt b with
  | some (x, kx), some (y, ky) => iop op x y kx ky fun z => k (mkI (kx && ky) z) st
  | _, _ => match a, b, op with
    | .obj i, .obj j, .Add => match st.H[i]?, st.H[j]? with
      | some x, some y => listCat x y fun o => new o st k
      | _, _ => False
    | .obj i, .int n, .Mult => match st.H[i]? with
      | some (.list xs) => match leB 0 n && leB n 64 && Nat.ble xs.length 4 with
        | true => new (.list (repL xs n.toNat)) st k
        | false => False
      | _ => False
    | _, _, _ => False

noncomputable def icmp (op : CmpOp) (a b : Int) : Option Bool := match op with
  | .Eq => some (eqB a b)
  | .NotEq => some (!(eqB a b))
  | .Lt => some (ltB a b)
  | .LtE => some (leB a b)
  | .Gt => some (ltB b a)
  | .GtE => some (leB b a)
  | _ => none

noncomputable def isNoneV : V → Bool
  | .none => true
  | _ => false
/-- one comparison -/
noncomputable def inInts (x : Int) (kx : Bool) : List V → Option (Bool × Bool)
  | [] => some (false, true)
  | v :: r => match asInt v with
    | some (y, ky) => match inInts x kx r with
      | some (b, kb) => some (eqB x y || b, kx && ky && kb)
      | none => none
    | none => none
noncomputable def cmp (op : CmpOp) (a b : V) (st : St) (k : KV) : Prop := match op, b with
  | .Is, .none => k (.bool (isNoneV a)) st
  | .IsNot, .none => k (.bool (!(isNoneV a))) st
  | .In, .obj j => match asInt a, st.H[j]? with
    | some (x, kx), some (.tup xs) => match inInts x kx xs with
      | some (c, kc) => k (mkB kc c) st
      | none => False
    | some (x, _), some (.il xs) => k (.sbool (decide (x ∈ xs))) st
    | _, _ => False
  | .NotIn, .obj j => match asInt a, st.H[j]? with
    | some (x, kx), some (.tup xs) => match inInts x kx xs with
      | some (c, kc) => k (mkB kc (!c)) st
      | none => False
    | _, _ => False
  | .In, .top _ => False
  | .NotIn, .top t => match Nat.beq t 306, asInt a with
    | true, some (x, kx) => k (mkB kx (!(eqB x 1 || (eqB x 2 || eqB x 4)))) st
    | _, _ => False
  | _, _ => match asInt a, asInt b with
    | some (x, kx), some (y, ky) => match icmp op x y with
      | some c => k (mkB (kx && ky) c) st
      | none => False
    | _, _ => match op, a, b with
      | .Eq, .bytes xs, .bytes ys => k (.sbool (decide (xs = ys))) st
      | .NotEq, .obj i, .obj j => match st.H[i]?, st.H[j]? with
        | some (.il xs), some (.il ys) => k (.sbool (!(decide (xs = ys)))) st
        | _, _ => False
      | .Eq, .obj i, .obj j => match st.H[i]?, st.H[j]? with
        | some (.il xs), some (.il ys) => k (.sbool (decide (xs = ys))) st
        | _, _ => False
      | .NotEq, a, b => match asBool a, asBool b with
        | some (x, kx), some (y, ky) => k (mkB (kx && ky) (Bool.xor x y)) st
        | _, _ => False
      | _, _, _ => False

noncomputable def unop (op : UnaryOp) (a : V) (st : St) (k : KV) : Prop := match op with
  | .Not => match a with
    | .bool b => k (.bool (!b)) st
    | .sbool b => k (.sbool (!b)) st
    | _ => False
  | .USub => match asInt a with
    | some (x, kx) => k (mkI kx (-x)) st
    | none => False
  | .Invert => match asInt a with
    | some (x, kx) => k (mkI kx (-x - 1)) st
    | none => False
  | .UAdd => False

end Mine

end
/- V2 -/
section
open PySem PySem.W PyProof.Rows
namespace Mine

noncomputable def isStar : Expr → Bool
  | .Starred .. => true
  | _ => false
noncomputable def isSlice : Expr → Bool
  | .Slice .. => true
  | _ => false
noncomputable def isAttrE : Expr → Bool
  | .Attribute .. => true
  | _ => false
/-- not of the form that the semantics reads as super() -/
noncomputable def noSup : Expr → Bool
  | .Call (.Name ..) [] [] _ => false
  | _ => true
noncomputable def isSetE : Expr → Bool
  | .Set .. => true
  | _ => false
noncomputable def isComp : Expr → Bool
  | .ListComp .. => true
  | .SetComp .. => true
  | .DictComp .. => true
  | _ => false
/-- a pair of tuples whose stores the semantics does not leave open -/
noncomputable def okSwap : Expr → Expr → Bool
  | .Tuple _ _ _, .Tuple vs _ _ => !(vs.all (constantsAlone 8)) || vs.all (foldedForSure 8)
  | .List _ _, _ => false
  | _, _ => true

/-- arguments, displays: one behind the other, what is there already held -/
noncomputable def evArgs (ih : Ev) : List Expr → St → (List V → St → Prop) → Prop
  | [], st, k => k [] st
  | e :: r, st, k => match isStar e with
    | true => False
    | false => ih.e e st fun v st1 => evArgs ih r (push v st1) fun vs st2 => pop st2 fun v' st3 => k (v' :: vs) st3

noncomputable def getAttr (T : Tab) (v : V) (a : Str) (st : St) (k : KV) : Prop := match v with
  | .obj i => match st.H[i]? with
    | some (.inst C d) => match aget C T.fld, st.H[d]? with
      | some fs, some (.dict es) => match fs.any (strEq a), lget a es with
        | true, some w => k w st
        | _, _ => False
      | _, _ => False
    | _ => False
  | .top C => match aget C T.con with
    | some cs => match lget a cs with
      | some w => k w st
      | none => False
    | none => False
  | _ => False

noncomputable def setAttr (T : Tab) (ov : V) (a : Str) (v : V) (st : St) (k : St → Prop) : Prop := match ov with
  | .obj i => match st.H[i]? with
    | some (.inst C d) => match aget C T.fld, st.H[d]? with
      | some fs, some (.dict es) => match fs.any (strEq a) && Nat.ble es.length 900 with
        | true => k (setH st (st.H.set d (.dict (lset a v es))))
        | false => False
      | _, _ => False
    | _ => False
  | _ => False

noncomputable def lenV (v : V) (st : St) (k : KV) : Prop := match v with
  | .obj i => match st.H[i]? with
    | some (.list xs) => k (.int (Int.ofNat xs.length)) st
    | some (.il xs) => k (.sint (Int.ofNat xs.length)) st
    | some (.barr xs) => k (.sint (Int.ofNat xs.length)) st
    | _ => False
  | .ro xs => k (.sint (Int.ofNat xs.length)) st
  | _ => False

noncomputable def octets (xs : List Int) : Bool := xs.all fun x => leB 0 x && ltB x 256

/-- a call's one argument, and its two -/
noncomputable def arg1 (vs : List V) (k : V → Prop) : Prop := match vs with
  | [v] => k v
  | _ => False
noncomputable def arg2 (vs : List V) (k : V → V → Prop) : Prop := match vs with
  | [v, w] => k v w
  | _ => False
theorem arg1_is {vs : List V} {k : V → Prop} (h : arg1 vs k) : ∃ v, vs = [v] ∧ k v := by
  cases vs with
  | nil => cases h
  | cons v r => cases r with
    | nil => exact ⟨v, rfl, h⟩
    | cons _ _ => cases h
theorem arg2_is {vs : List V} {k : V → V → Prop} (h : arg2 vs k) : ∃ v w, vs = [v, w] ∧ k v w := by
  cases vs with
  | nil => cases h
  | cons v r => cases r with
    | nil => cases h
    | cons w r => cases r with
      | nil => exact ⟨v, w, rfl, h⟩
      | cons _ _ => cases h
noncomputable def callB (b : Bi) (vs : List V) (st : St) (k : KV) : Prop := match b with
  | .len => arg1 vs fun v => lenV v st k
  | .int_ => arg1 vs fun v => match v with
    | .bool c => k (.int (match c with | true => 1 | false => 0)) st
    | .sbool c => Br c (k (.int 1) st) (k (.int 0) st)
    | _ => False
  | .bytes => arg1 vs fun v => match v with
    | .obj i => match st.H[i]? with
      | some (.barr xs) => k (.bytes xs) st
      | some o => match asInts o with
        | some xs => Br (octets xs) (k (.bytes xs) st) False
        | none => False
      | none => False
    | _ => False
  | .bytearray => match vs with
    | [] => new (.barr []) st k
    | _ => False
  | .range => match vs with
    | [a] => match asInt a with
      | some (x, kx) => new (.rng 0 x kx) st k
      | none => False
    | [a, b] => match asInt a, asInt b with
      | some (x, kx), some (y, ky) => new (.rng x y (kx && ky)) st k
      | _, _ => False
    | _ => False
  | .min => arg2 vs fun a b => match asInt a, asInt b with
    | some (x, kx), some (y, ky) => k (mkI (kx && ky) (match ltB y x with | true => y | false => x)) st
    | _, _ => False
  | .divmod => arg2 vs fun a b => match a, b with
    | .int x, .int y => match eqB y 0, decide (y.natAbs < 1073741824) with
      | false, true => new (.tup [.int (x.fdiv y), .int (x.fmod y)]) st k
      | _, _ => False
    | _, _ => False
  | .sorted => False

/-- a method: a def, or one of a made list or bytearray -/
inductive Mt where
  | fn (f : Nat)
  | lapp
  | lpop
  | bapp
  | bext
noncomputable def lapp (i : Nat) (v : V) (st : St) (k : KV) : Prop := match st.H[i]? with
  | some (.il xs) => match asInt v with
    | some (x, _) => Br (decide (xs.length < 1000000)) (k .none (setH st (st.H.set i (.il (xs ++ [x]))))) False
    | none => match xs with
      | [] => k .none (setH st (st.H.set i (.list [v])))
      | _ => False
  | some (.list xs) => match Nat.blt xs.length 1000000 with
    | true => k .none (setH st (st.H.set i (.list (xs ++ [v]))))
    | false => False
  | _ => False
noncomputable def callM (mt : Mt) (i : Nat) (v : V) (st : St) (k : KV) : Prop := match mt with
  | .lapp => lapp i v st k
  | .lpop => match st.H[i]?, v with
    | some (.il xs), .int j => match eqB j 0 with
      | true => Br (decide (0 < xs.length)) (k (.sint (xs.headD 0)) (setH st (st.H.set i (.il xs.tail)))) False
      | false => False
    | _, _ => False
  | .bapp => match st.H[i]?, v with
    | some (.barr xs), .sint x => Br (octets [x] && decide (xs.length < 1000000)) (k .none (setH st (st.H.set i (.barr (xs ++ [x]))))) False
    | _, _ => False
  | .bext => match st.H[i]?, v with
    | some (.barr xs), .bytes ys => Br (decide (xs.length + ys.length ≤ 1000000)) (k .none (setH st (st.H.set i (.barr (xs ++ ys))))) False
    | _, _ => False
  | .fn _ => False

/-- an item at a symbolic place of a short list -/
noncomputable def pick (j : Int) (n : Int) : List V → (V → Prop) → Prop
  | [], _ => False
  | v :: r, k => Br (decide (j = n)) (k v) (pick j (n + 1) r k)
noncomputable def getItem (ov iv : V) (st : St) (k : KV) : Prop := match ov with
  | .obj i => match st.H[i]?, iv with
    | some (.list xs), .int j => match leB 0 j, xs[j.toNat]? with
      | true, some v => k v st
      | _, _ => False
    | some (.tup xs), .int j => match leB 0 j, xs[j.toNat]? with
      | true, some v => k v st
      | _, _ => False
    | some (.list xs), .sint j => pick j 0 xs fun v => k v st
    | some (.barr xs), .int j => match eqB j 0 with
      | true => Br (decide (0 < xs.length)) (k (.sint (xs.headD 0)) st) False
      | false => False
    | some (.dict es), .str a => match lget a es with
      | some v => k v st
      | none => False
    | _, _ => False
  | _ => False
noncomputable def getSlice (ov : V) (lo hi : Option V) (st : St) (k : KV) : Prop := match ov, lo, hi with
  | .ro xs, none, some h => match asInt h with
    | some (n, kn) => need kn (leB 0 n) (new (.il (xs.take n.toNat)) st k)
    | none => False
  | .obj i, none, some h => match st.H[i]?, asInt h with
    | some (.il xs), some (n, kn) => need kn (leB 0 n) (new (.il (xs.take n.toNat)) st k)
    | _, _ => False
  | .obj i, some (.int n), none => match st.H[i]?, leB 0 n with
    | some (.barr xs), true => new (.barr (xs.drop n.toNat)) st k
    | _, _ => False
  | _, _, _ => False
noncomputable def setItem (ov iv v : V) (st : St) (k : St → Prop) : Prop := match ov with
  | .obj i => match st.H[i]?, iv with
    | some (.list xs), .int j => match leB 0 j && ltB j (Int.ofNat xs.length) with
      | true => k (setH st (st.H.set i (.list (xs.set j.toNat v))))
      | false => False
    | some (.dict es), .str a => match Nat.ble es.length 900 with
      | true => k (setH st (st.H.set i (.dict (lset a v es))))
      | false => False
    | _, _ => False
  | _ => False

noncomputable def okLocal (sc : List (Str × NameKind)) (x : Str) : Bool := match lget x sc with
  | some .local => !(strEq x ("__debug__" : Str))
  | _ => false
noncomputable def okGlobal (sc : List (Str × NameKind)) (x : Str) : Bool := match lget x sc with
  | some .globalImplicit => true
  | _ => false

noncomputable def callable (T : Tab) (a : Nat) : Bool := T.fns.any (Nat.beq a) || (aget a T.ini).isSome
noncomputable def callableV (T : Tab) : V → Bool
  | .bi _ => true
  | .top a => callable T a
  | _ => false
/-- a def's frame: the caller's locals go onto the held stack -/
noncomputable def enter (st : St) (l : List (Str × V)) (sc : List (Str × NameKind)) : St := ⟨st.H, l, st.l.map (·.2) ++ st.s, sc⟩
noncomputable def unzipL : List (Str × V) → List V → Option (List (Str × V) × List V)
  | [], s => some ([], s)
  | p :: r, v :: s => match unzipL r s with
    | some (l, s') => some ((p.1, v) :: l, s')
    | none => none
  | _ :: _, [] => none
noncomputable def leave (st : St) (v : V) (st' : St) (k : KV) : Prop := match unzipL st.l st'.s with
  | some (l, s) => k v ⟨st'.H, l, s, st.sc⟩
  | none => False

noncomputable def bindP : List Str → List V → Option (List (Str × V))
  | [], [] => some []
  | x :: xs, v :: vs => match bindP xs vs with
    | some l => some ((x, v) :: l)
    | none => none
  | _, _ => none
noncomputable def okParam (sc : List (Str × NameKind)) (x : Str) : Bool := match lget x sc with
  | some .local => !(strEq x ("__debug__" : Str))
  | some .cell => !(strEq x ("__debug__" : Str))
  | _ => false
/-- the arguments with the defaults behind them -/
noncomputable def withDfl (n : Nat) (vs dfl : List V) : List V := vs ++ dfl.drop (dfl.length - (n - vs.length))

noncomputable def callF (T : Tab) (ih : Ev) (f : Nat) (vs : List V) (st : St) (k : KV) : Prop := match aget f T.spec with
  | some R => R vs st k
  | none => match T.fns.any (Nat.beq f) with
   | false => False
   | true => match T.fn f with
    | some fd => match fd.body, bindP (fd.params.args.map (·.arg)) (withDfl fd.params.args.length vs ((aget f T.dfl).getD [])) with
      | .stmts body, some l => match l.all fun e => okParam fd.scope.names e.1 with
        | true => ih.ss body (enter st l fd.scope.names) fun fl st' => leave st (match fl with | .next => .none | .ret v => v) st' k
        | false => False
      | _, _ => False
    | none => False

noncomputable def callV (T : Tab) (ih : Ev) (f : V) (vs : List V) (st : St) (k : KV) : Prop := match f with
  | .bi b => callB b vs st k
  | .top a => match aget a T.ini with
    | some fi =>
      let d := st.H.length
      callF T ih fi (.obj (d + 1) :: vs) ⟨st.H ++ [.dict [], .inst a d], st.l, .obj (d + 1) :: st.s, st.sc⟩ fun v st' => match v with
        | .none => pop st' k
        | _ => False
    | none => callF T ih a vs st k
  | _ => False

/-- the methods are looked up ahead of the arguments -/
noncomputable def findMeth (T : Tab) (ov : V) (m : Str) (st : St) : Option Mt := match ov with
  | .obj i => match st.H[i]? with
    | some (.inst C d) => match aget C T.mth, st.H[d]? with
      | some ms, some (.dict es) => match lget m ms, lget m es with
        | some f, none => some (.fn f)
        | _, _ => none
      | _, _ => none
    | some (.il _) => match strEq m ("append" : Str), strEq m ("pop" : Str) with
      | true, _ => some .lapp
      | _, true => some .lpop
      | _, _ => none
    | some (.list _) => match strEq m ("append" : Str) with
      | true => some .lapp
      | _ => none
    | some (.barr _) => match strEq m ("append" : Str), strEq m ("extend" : Str) with
      | true, _ => some .bapp
      | _, true => some .bext
      | _, _ => none
    | _ => none
  | _ => none
noncomputable def callMt (T : Tab) (ih : Ev) (mt : Mt) (ov : V) (vs : List V) (st : St) (k : KV) : Prop := match mt with
  | .fn f => callF T ih f (ov :: vs) st k
  | mt => match ov, vs with
    | .obj i, [v] => callM mt i v st k
    | _, _ => False

noncomputable def evCmp (ih : Ev) (a : V) : List CmpOp → List Expr → St → KV → Prop
  | [op], [r], st, k => ih.e r (push a st) fun b st1 => pop st1 fun a st2 => cmp op a b st2 k
  | op :: op' :: ops, r :: r' :: rs, st, k => ih.e r (push a st) fun b st1 => pop st1 fun a st2 => cmp op a b (push b st2) fun c st3 => truth c fun t => pop st3 fun b st4 => match t with
    | true => evCmp ih b (op' :: ops) (r' :: rs) st4 k
    | false => k c st4
  | _, _, _, _ => False
noncomputable def tsCmp (ih : Ev) (a : V) : List CmpOp → List Expr → St → KB → Prop
  | [op], [r], st, k => ih.e r (push a st) fun b st1 => pop st1 fun a st2 => cmp op a b st2 fun c st3 => truth c fun t => k t st3
  | op :: op' :: ops, r :: r' :: rs, st, k => ih.e r (push a st) fun b st1 => pop st1 fun a st2 => cmp op a b (push b st2) fun c st3 => truth c fun t => pop st3 fun b st4 => match t with
    | true => tsCmp ih b (op' :: ops) (r' :: rs) st4 k
    | false => k false st4
  | _, _, _, _ => False

noncomputable def evBool (ih : Ev) (op : BoolOp) : List Expr → St → KV → Prop
  | [e], st, k => ih.e e st k
  | e :: r, st, k => ih.e e st fun v st1 => truth v fun t => match op, t with
    | .And, true => evBool ih op r st1 k
    | .And, false => k (match v with | .sbool _ => .bool false | v => v) st1
    | .Or, false => evBool ih op r st1 k
    | .Or, true => k (match v with | .sbool _ => .bool true | v => v) st1
  | [], _, _ => False
noncomputable def tsBool (ih : Ev) (op : BoolOp) : List Expr → St → KB → Prop
  | [], st, k => k (match op with | .And => true | .Or => false) st
  | e :: r, st, k => ih.t e st fun t st1 => match op, t with
    | .And, true => tsBool ih op r st1 k
    | .And, false => k false st1
    | .Or, false => tsBool ih op r st1 k
    | .Or, true => k true st1

noncomputable def strK : Expr → Option Str
  | .Constant (.str a) _ _ => some a
  | _ => none
noncomputable def strKs : List (Option Expr) → Option (List Str)
  | [] => some []
  | some e :: r => match strK e, strKs r with
    | some a, some l => some (a :: l)
    | _, _ => none
  | none :: _ => none

noncomputable def asg1 (T : Tab) (ih : Ev) (t : Expr) (v : V) (st : St) (k : St → Prop) : Prop := match t with
  | .Name x _ => match okLocal st.sc x with
    | true => k ⟨st.H, lsetL x v st.l, st.s, st.sc⟩
    | false => False
  | .Attribute o a _ => ih.e o (push v st) fun ov st1 => pop st1 fun v st2 => setAttr T ov a v st2 k
  | .Subscript o i _ => match isSlice i with
    | true => False
    | false => ih.e o (push v st) fun ov st1 => ih.e i (push ov st1) fun iv st2 => pop st2 fun ov st3 => pop st3 fun v st4 => setItem ov iv v st4 k
  | _ => False

noncomputable def popN : Nat → St → (List V → St → Prop) → Prop
  | 0, st, k => k [] st
  | n + 1, st, k => pop st fun v st1 => popN n st1 fun vs st2 => k (v :: vs) st2
noncomputable def asgAll (T : Tab) (ih : Ev) : List Expr → List V → St → (St → Prop) → Prop
  | [], [], st, k => k st
  | t :: ts, v :: vs, st, k => asg1 T ih t v (pushAll vs st) fun st1 => popN vs.length st1 fun vs' st2 => asgAll T ih ts vs' st2 k
  | _, _, _, _ => False
noncomputable def asg (T : Tab) (ih : Ev) (t : Expr) (v : V) (st : St) (k : St → Prop) : Prop := match t with
  | .Tuple ts _ _ => match v with
    | .obj i => match st.H[i]? with
      | some (.tup xs) => match ts.any isStar, Nat.beq ts.length xs.length with
        | false, true => asgAll T ih ts xs st k
        | _, _ => False
      | _ => False
    | _ => False
  | t => asg1 T ih t v st k

noncomputable def rngL : Nat → Int → Bool → List V
  | 0, _, _ => []
  | n + 1, lo, kn => mkI kn lo :: rngL n (lo + 1) kn

noncomputable def forGo (T : Tab) (ih : Ev) (t : Expr) (body : List Stmt) : List V → St → KF → Prop
  | [], st, k => k .next st
  | v :: r, st, k => asg T ih t v st fun st1 => ih.ss body st1 fun fl st2 => match fl with
    | .next => forGo T ih t body r st2 k
    | .ret v => k (.ret v) st2
/-- a loop over a made list, which is the first held -/
noncomputable def forLst (T : Tab) (ih : Ev) (t : Expr) (body : List Stmt) : Nat → Nat → St → KF → Prop
  | 0, _, _, _ => False
  | n + 1, j, st, k => pop st fun lv st1 => match lv with
    | .obj i => match st1.H[i]? with
      | some (.list xs) => match xs[j]? with
        | some v => asg T ih t v st fun st2 => ih.ss body st2 fun fl st3 => match fl with
          | .next => forLst T ih t body n (j + 1) st3 k
          | .ret v => pop st3 fun _ st4 => k (.ret v) st4
        | none => k .next st1
      | _ => False
    | _ => False
/-- the bounds of a range that the model walks by machine words -/
noncomputable def rngOk (lo hi : Int) : Bool := decide (-(2 ^ 62) ≤ lo ∧ lo < 2 ^ 62 ∧ -(2 ^ 62) ≤ hi ∧ hi < 2 ^ 62)
noncomputable def sints : List Int → List V
  | [] => []
  | x :: r => .sint x :: sints r

noncomputable def compGo (T : Tab) (ih : Ev) (t elt : Expr) : List V → St → List Int → (List Int → St → Prop) → Prop
  | [], st, acc, k => k acc st
  | v :: r, st, acc, k => asg T ih t v st fun st1 => ih.e elt st1 fun w st2 => match asInt w with
    | some (x, _) => compGo T ih t elt r st2 (acc ++ [x]) k
    | none => False
noncomputable def compLst (T : Tab) (ih : Ev) (t elt : Expr) : Nat → Nat → St → List Int → (List Int → St → Prop) → Prop
  | 0, _, _, _, _ => False
  | n + 1, j, st, acc, k => pop st fun lv st1 => match lv with
    | .obj i => match st1.H[i]? with
      | some (.list xs) => match xs[j]? with
        | some v => asg T ih t v st fun st2 => ih.e elt st2 fun w st3 => match asInt w with
          | some (x, _) => compLst T ih t elt n (j + 1) st3 (acc ++ [x]) k
          | none => False
        | none => k acc st1
      | _ => False
    | _ => False

end Mine

end
/- V3 -/
section
open PySem PySem.W PyProof.Rows
namespace Mine

/-- a sort's run by its asks, each of two places of the list -/
noncomputable def kasRun {α : Type} (ks : List (Int × Int)) (lt : Int × Int → Int × Int → Bool) : KasT α → Option α
  | .ret a => some a
  | .ask i j k => match ks[i]?, ks[j]? with
    | some p, some q => kasRun ks lt (k (lt p q))
    | _, _ => none
noncomputable def tupKeys (H : List O) : List V → Option (List (Int × Int))
  | [] => some []
  | .obj i :: r => match H[i]? with
    | some (.tup [.int a, .int b]) => match tupKeys H r with
      | some l => some ((a, b) :: l)
      | none => none
    | _ => none
  | _ :: _ => none
noncomputable def lexLt (p q : Int × Int) : Bool := match eqB p.1 q.1 with
  | true => ltB p.2 q.2
  | false => ltB p.1 q.1
noncomputable def sortV (xs : List V) (ks : List (Int × Int)) : Option (List V) := match Nat.blt xs.length 2 with
  | true => some xs
  | false => match kasRun ks lexLt (kas_sort xs.length) with
    | some p => match Nat.ble p.toList.length 1000 with
      | true => some (p.toList.map fun i => xs.getD i .none)
      | false => none
    | none => none
noncomputable def callSorted (vs : List V) (st : St) (k : KV) : Prop := match vs with
  | [.obj i] => match st.H[i]? with
    | some (.il []) => new (.list []) st k
    | some (.list xs) => match tupKeys st.H xs, Nat.blt xs.length 64 with
      | some ks, true => match sortV xs ks with
        | some ys => new (.list ys) st k
        | none => False
      | _, _ => False
    | _ => False
  | _ => False

noncomputable def callV' (T : Tab) (ih : Ev) (f : V) (vs : List V) (st : St) (k : KV) : Prop := match f with
  | .bi .sorted => callSorted vs st k
  | f => callV T ih f vs st k

/-- the objects that a value, an object names -/
noncomputable def refsV : V → List Nat
  | .obj i => [i]
  | _ => []
noncomputable def refsVs : List V → List Nat
  | [] => []
  | v :: r => refsV v ++ refsVs r
noncomputable def refsL : List (Str × V) → List Nat
  | [] => []
  | p :: r => refsV p.2 ++ refsL r
noncomputable def refsO : O → List Nat
  | .inst _ d => [d]
  | .dict es => refsL es
  | .list xs => refsVs xs
  | .tup xs => refsVs xs
  | _ => []
noncomputable def hasN (i : Nat) : List Nat → Bool
  | [] => false
  | j :: r => match Nat.beq i j with
    | true => true
    | false => hasN i r
/-- the objects that are reached, in the order of their finding -/
noncomputable def reach (H : List O) : Nat → List Nat → List Nat → List Nat
  | 0, _, acc => acc
  | _ + 1, [], acc => acc
  | n + 1, i :: w, acc => match hasN i acc with
    | true => reach H n w acc
    | false => match H[i]? with
      | some o => reach H n (refsO o ++ w) (acc ++ [i])
      | none => reach H n w acc
noncomputable def posN (i : Nat) : List Nat → Nat → Option Nat
  | [], _ => none
  | j :: r, n => match Nat.beq i j with
    | true => some n
    | false => posN i r (n + 1)
noncomputable def nodupB : List Nat → Bool
  | [] => true
  | i :: r => match hasN i r with
    | true => false
    | false => nodupB r
noncomputable def memS (x : Str) : List Str → Bool
  | [] => false
  | y :: r => match strEq x y with
    | true => true
    | false => memS x r
/-- the objects that stand under a soft name -/
noncomputable def softL (T : Tab) : List (Str × V) → List Nat
  | [] => []
  | p :: r => match memS p.1 T.soft with
    | true => refsV p.2 ++ softL T r
    | false => softL T r
noncomputable def softH (T : Tab) : List O → List Nat
  | [] => []
  | .dict es :: r => softL T es ++ softH T r
  | _ :: r => softH T r
/-- a value renumbered, forgotten where it is soft -/
noncomputable def renV (sel : List Nat) (soft : Bool) : V → Option V
  | .obj i => match posN i sel 0 with
    | some j => some (.obj j)
    | none => none
  | .int i => match soft with
    | true => some (.sint i)
    | false => some (.int i)
  | .bool b => match soft with
    | true => some (.sbool b)
    | false => some (.bool b)
  | v => some v
noncomputable def renVs (sel : List Nat) (soft : Bool) : List V → Option (List V)
  | [] => some []
  | v :: r => match renV sel soft v, renVs sel soft r with
    | some w, some l => some (w :: l)
    | _, _ => none
noncomputable def renL (T : Tab) (sel : List Nat) : List (Str × V) → Option (List (Str × V))
  | [] => some []
  | p :: r => match renV sel (memS p.1 T.soft) p.2, renL T sel r with
    | some w, some l => some ((p.1, w) :: l)
    | _, _ => none
noncomputable def renO (T : Tab) (sel : List Nat) (soft : Bool) : O → Option O
  | .inst C d => match posN d sel 0 with
    | some e => some (.inst C e)
    | none => none
  | .dict es => match renL T sel es with
    | some l => some (.dict l)
    | none => none
  | .list xs => match renVs sel soft xs with
    | some l => some (.list l)
    | none => none
  | .tup xs => match renVs sel soft xs with
    | some l => some (.tup l)
    | none => none
  | o => some o
noncomputable def renH (T : Tab) (H : List O) (sel : List Nat) (sf : List Nat) : List Nat → Option (List O)
  | [] => some []
  | i :: r => match H[i]? with
    | some o => match renO T sel (hasN i sf) o, renH T H sel sf r with
      | some o', some l => some (o' :: l)
      | _, _ => none
    | none => none
/-- what is reached, and no more; the bottom of the stack is reached first -/
noncomputable def norm (T : Tab) (st : St) : Option St :=
  let sel := reach st.H 400 (refsVs (st.l.map (·.2) ++ st.s).reverse) []
  match nodupB sel with
  | false => none
  | true => match renH T st.H sel (softL T st.l ++ softH T st.H) sel, renL T sel st.l, renVs sel false st.s with
    | some H, some l, some s => some ⟨H, l, s, st.sc⟩
    | _, _, _ => none

/-- names that nobody asks any more -/
noncomputable def dropS (T : Tab) (n : Nat) (st : St) : St := match aget n T.dead with
  | none => st
  | some ns => ⟨st.H, st.l.filter fun p => !(memS p.1 ns), st.s, st.sc⟩

/-- the frame of a comprehension: the cells of the def around it that it names -/
noncomputable def cellsOf (ns : List (Str × NameKind)) : List (Str × V) → List (Str × V)
  | [] => []
  | p :: r => match lget p.1 ns with
    | some .free => p :: cellsOf ns r
    | _ => cellsOf ns r
/-- a comprehension's scope that the evaluator reads -/
noncomputable def okComp (st : St) (cs : Scope) : Bool := (match cs.kind with | .function => true | _ => false) && cs.names.all fun p => match p.2 with
  | .cell => false
  | .free => (match lget p.1 st.sc, lget p.1 st.l with | some .cell, some _ => true | _, _ => false)
  | .local => (match lget p.1 cs.names with | some .local => true | _ => false)
  | _ => true
/-- the comprehension's names: those of the def's cells are cells -/
noncomputable def relabel (sc cs : List (Str × NameKind)) : List (Str × NameKind) := cs.map fun p => match p.2 with
  | .free => (p.1, match lget p.1 sc with | some .cell => .cell | _ => .free)
  | _ => p

/-- a comprehension's end: back to the def around it -/
noncomputable def compK (st1 : St) (k : KV) (xs : List Int) (st2 : St) : Prop := leave st1 .none st2 fun _ st3 => new (.il xs) st3 k
/-- a range of a size that is not known: each size up to five apart -/
noncomputable def compN (T : Tab) (ih : Ev) (t elt : Expr) (kn : Bool) (n : Nat) (lo : Int) (st : St) (k : List Int → St → Prop) : Prop := match kn with
  | true => compGo T ih t elt (rngL n lo true) st [] k
  | false => Br (decide (n = 1)) (compGo T ih t elt (rngL 1 lo false) st [] k) (Br (decide (n = 2)) (compGo T ih t elt (rngL 2 lo false) st [] k) (Br (decide (n = 3)) (compGo T ih t elt (rngL 3 lo false) st [] k)
    (Br (decide (n = 4)) (compGo T ih t elt (rngL 4 lo false) st [] k) (Br (decide (n = 5)) (compGo T ih t elt (rngL 5 lo false) st [] k) False))))

noncomputable def evComp (T : Tab) (ih : Ev) (elt t it : Expr) (cs : Scope) (st : St) (k : KV) : Prop := match isSetE it, okComp st cs with
    | false, true => ih.e it st fun v st1 => match v with
      | .obj i => match st1.H[i]? with
        | some (.rng lo hi kn) => need kn (rngOk lo hi && Nat.ble (hi - lo).toNat 1000000) (compN T ih t elt kn (hi - lo).toNat lo (enter st1 (cellsOf cs.names st1.l) (relabel st1.sc cs.names)) (compK st1 k))
        | some (.list ys) => match Nat.ble ys.length 1000000 with
          | true => compLst T ih t elt (ys.length + 1) 0 (push v (enter st1 (cellsOf cs.names st1.l) (relabel st1.sc cs.names))) [] (compK st1 k)
          | false => False
        | _ => False
      | _ => False
    | _, _ => False

noncomputable def evE (T : Tab) (ih : Ev) (e : Expr) (st : St) (k : KV) : Prop := match e with
  | .Constant c _ _ => match c with
    | .none => k .none st
    | .bool b => k (.bool b) st
    | .int i => k (.int i) st
    | .str s => k (.str s) st
    | _ => False
  | .Name x _ => match lget x st.l with
    | some v => k v st
    | none => match okGlobal st.sc x, lget x T.glob with
      | true, some v => k v st
      | _, _ => False
  | .Attribute o a _ => match noSup o with
    | true => ih.e o st fun v st1 => getAttr T v a st1 k
    | false => False
  | .Call f as [] pos => match f with
    | .Attribute o m ap => match noSup o && (Nat.blt as.length 30 && (Nat.beq ap.endLine pos.line && !(as.any isStar))) with
      | true => ih.e o st fun ov st1 => match findMeth T ov m st1 with
        | some mt => evArgs ih as (push ov st1) fun vs st2 => pop st2 fun ov st3 => callMt T ih mt ov vs st3 k
        | none => False
      | false => False
    | f => match as.any isStar with
      | true => False
      | false => ih.e f st fun fv st1 => match callableV T fv with
        | true => evArgs ih as (push fv st1) fun vs st2 => pop st2 fun fv st3 => ih.call fv vs st3 k
        | false => False
  | .Subscript o (.Slice lo hi none _) _ => ih.e o st fun ov st1 => match lo, hi with
    | none, some h => ih.e h (push ov st1) fun hv st2 => pop st2 fun ov st3 => getSlice ov none (some hv) st3 k
    | some l, none => ih.e l (push ov st1) fun lv st2 => pop st2 fun ov st3 => getSlice ov (some lv) none st3 k
    | _, _ => False
  | .Subscript o i _ => match isSlice i with
    | true => False
    | false => ih.e o st fun ov st1 => ih.e i (push ov st1) fun iv st2 => pop st2 fun ov st3 => getItem ov iv st3 k
  | .BinOp l op r _ => ih.e l st fun a st1 => ih.e r (push a st1) fun b st2 => pop st2 fun a st3 => binop op a b st3 k
  | .UnaryOp op x _ => ih.e x st fun a st1 => unop op a st1 k
  | .Compare l ops rs _ => match rs.any isSetE with
    | true => False
    | false => ih.e l st fun a st1 => evCmp ih a ops rs st1 k
  | .BoolOp op es _ => evBool ih op es st k
  | .IfExp t a b _ => ih.t t st fun c st1 => match c with
    | true => ih.e a st1 k
    | false => ih.e b st1 k
  | .Tuple es _ _ => match Nat.ble es.length 900 with
    | true => evArgs ih es st fun vs st1 => new (.tup vs) st1 k
    | false => False
  | .List es _ => match es with
    | [] => new (.il []) st k
    | es => match Nat.ble es.length 900 with
      | true => evArgs ih es st fun vs st1 => new (.list vs) st1 k
      | false => False
  | .Dict ks es _ => match strKs ks with
    | some as => match Nat.beq as.length es.length && Nat.ble es.length 15 with
      | true => evArgs ih es st fun vs st1 => new (.dict (lsets [] (as.zip vs))) st1 k
      | false => False
    | none => False
  | .ListComp elt [⟨t, it, [], 0⟩] cs _ => evComp T ih elt t it cs st k
  | _ => False

noncomputable def evT (ih : Ev) (e : Expr) (st : St) (k : KB) : Prop := match e with
  | .UnaryOp .Not x _ => ih.t x st fun b st1 => k (!b) st1
  | .BoolOp op es _ => tsBool ih op es st k
  | .Compare l ops rs _ => match rs.any isSetE with
    | true => False
    | false => ih.e l st fun a st1 => tsCmp ih a ops rs st1 k
  | .IfExp .. => False
  | e => ih.e e st fun v st1 => truth v fun b => k b st1

/-- the state, collected where that is asked -/
noncomputable def collected (T : Tab) (n : Nat) (st : St) (k : St → Prop) : Prop := match hasN n T.cuts with
  | false => k st
  | true => match norm T (dropS T n st) with
    | some st' => k st'
    | none => False

noncomputable def evS (T : Tab) (ih : Ev) (s : Stmt) (st : St) (k : KF) : Prop := match s with
  | .Expr e _ => match isComp e with
    | true => False
    | false => ih.e e st fun v st1 => match v with
      | .none => k .next st1
      | _ => False
  | .Assign [t] e _ => match isComp e || (!(okSwap t e) || isStar t) with
    | true => False
    | false => ih.e e st fun v st1 => asg T ih t v st1 fun st2 => k .next st2
  | .If t b o _ => ih.t t st fun c st1 => match c with
    | true => ih.ss b st1 k
    | false => ih.ss o st1 k
  | .For t it body [] p => match isSetE it with
    | true => False
    | false => ih.e it st fun v st1 => match v with
      | .obj i => match st1.H[i]? with
        | some (.rng lo hi kn) => need kn (rngOk lo hi) (collected T p.line st1 fun st2 => forGo T ih t body (rngL (hi - lo).toNat lo kn) st2 k)
        | some (.list ys) => forLst T ih t body (ys.length + 1) 0 (push v st1) k
        | some (.il []) => k .next st1
        | _ => False
      | .bytes xs => forGo T ih t body (sints xs) st1 k
      | _ => False
  | .Return (some e) _ => ih.e e st fun v st1 => k (.ret v) st1
  | .Return none _ => k (.ret .none) st
  | .Try body _ [] [] _ => ih.ss body st k
  | _ => False

noncomputable def lineOf : Stmt → Nat
  | .Return _ p => p.line
  | .Assign _ _ p => p.line
  | .For _ _ _ _ p => p.line
  | .If _ _ _ p => p.line
  | .Try _ _ _ _ p => p.line
  | .Expr _ p => p.line
  | _ => 0
/-- behind a statement: the state is collected at a cut; a bad line answers nothing -/
noncomputable def after (T : Tab) (n : Nat) (fl : Fl) (st : St) (k : KF) : Prop := match fl with
  | .next => match hasN n T.cuts with
    | false => k .next st
    | true => match norm T (dropS T n st) with
      | some st' => k .next st'
      | none => False
  | .ret v => match hasN n T.bad with
    | true => False
    | false => match hasN n T.cuts with
      | false => k (.ret v) st
      | true => match norm T (push v (dropS T n st)) with
        | some st' => pop st' fun w st2 => k (.ret w) st2
        | none => False

noncomputable def evSs (T : Tab) (ih : Ev) : List Stmt → St → KF → Prop
  | [], st, k => k .next st
  | s :: r, st, k => evS T ih s st fun fl st1 => after T (lineOf s) fl st1 fun fl st2 => match fl with
    | .next => evSs T ih r st2 k
    | .ret v => k (.ret v) st2

noncomputable def step (T : Tab) (ih : Ev) : Ev := ⟨evE T ih, evT ih, evSs T ih, callV' T ih⟩
noncomputable def ev (T : Tab) (n : Nat) : Ev := Nat.rec Ev.nil (fun _ ih => step T ih) n

end Mine

end
/- V4 -/
section
open PySem PySem.W PyProof.Rows
namespace Mine

noncomputable def fnK (K : Frag) (f : Nat) : Option FuncData := match K.lookup f with
  | some ⟨_, _, .func fd, _⟩ => some fd
  | _ => none
noncomputable def S (x : String) : Str := Str.ofString x
noncomputable def globT : List (Str × V) := [(S "len", .bi .len), (S "Uart", .top 195), (S "Plic", .top 301), (S "int", .bi .int_), (S "bytes", .bi .bytes), (S "bytearray", .bi .bytearray), (S "range", .bi .range), (S "divmod", .bi .divmod),
  (S "need_size", .top 313), (S "SIZES", .top 306), (S "_law_take", .top 601), (S "_law_lines", .top 615), (S "_law_served", .top 622), (S "_law_driven", .top 629), (S "_law_came", .top 636), (S "_law_due", .top 646), (S "sorted", .bi .sorted),
  (S "_law_deed", .top 641), (S "_law_round_right", .top 653), (S "_law_more", .top 608), (S "Memory", .top 490), (S "Bus", .top 590), (S "Stretch", .top 525), (S "need_stretch", .top 320), (S "WORD", .int 4), (S "SPACE", .int 4294967296), (S "min", .bi .min)]
noncomputable def fldT : List (Nat × List Str) := [(195, [S "waiting", S "size", S "enabled", S "sent", S "lost", S "line", S "out", S "divisor"]), (301, [S "lines", S "served", S "enabled", S "priorities", S "sources", S "contexts", S "thresholds"]),
  (590, [S "memory", S "stretches"]), (525, [S "begin", S "end", S "device"]), (490, [S "begin", S "end", S "size", S "words"])]
noncomputable def mthT : List (Nat × List (Str × Nat)) := [(195, [(S "load", 185), (S "store", 192), (S "is_due", 157), (S "has_received", 143), (S "is_empty_told", 150), (S "is_divisor", 164), (S "receive", 136), (S "status", 171), (S "identify", 178), (S "send", 129), (S "feed", 115), (S "take_out", 122)]),
  (301, [(S "load", 291), (S "store", 298), (S "set_line", 235), (S "need_source", 221), (S "need_context", 228), (S "pending", 242), (S "best", 249), (S "is_due", 256), (S "claim", 263), (S "complete", 270), (S "context_at", 277), (S "enable_at", 284)]),
  (590, [(S "load", 565), (S "store", 573), (S "stretch_at", 557), (S "attach", 550)]), (525, [(S "holds", 515), (S "meets", 522)])]
noncomputable def conT : List (Nat × List (Str × V)) := [(195, [(S "DATA", .int 0), (S "ENABLE", .int 1), (S "IDENT", .int 2), (S "LINE", .int 3), (S "STATUS", .int 5), (S "RECEIVED", .int 1), (S "EMPTY", .int 2)]),
  (301, [(S "PENDING", .int 4096), (S "ENABLE", .int 8192), (S "ENABLE_STEP", .int 128), (S "CONTEXT", .int 2097152), (S "CONTEXT_STEP", .int 4096)])]
noncomputable def iniT : List (Nat × Nat) := [(195, 108), (301, 214), (490, 335), (525, 508), (590, 543)]
noncomputable def dflT : List (Nat × List V) := [(108, [.int 16]), (214, [.int 31, .int 2]), (565, [.int 5]), (573, [.int 7]), (335, [.int 0])]
/-- the defs that are called -/
noncomputable def fnsT : List Nat := [601, 608, 615, 622, 629, 636, 641, 646, 653, 660, 313, 320, 185, 192, 157, 143, 150, 164, 136, 171, 178, 129, 115, 122, 291, 298, 235, 221, 228, 242, 249, 256, 263, 270, 277, 284, 565, 573, 557, 550, 515, 522, 108, 214, 335, 508, 543]
noncomputable def tab (K : Frag) (sp : List (Nat × Spec)) (cuts bad : List Nat) (soft : List Str) (dead : List (Nat × List Str)) : Tab := ⟨globT, fldT, mthT, conT, iniT, dflT, fnK K, fnsT, sp, cuts, bad, soft, dead⟩
end Mine

end
/- V5 -/
section
open PySem PySem.W PyProof.Rows
namespace Mine
noncomputable def cutsT : List Nat := [526, 529, 536, 537, 538, 539, 542, 543, 496, 515, 516, 523, 476, 477, 478, 480, 481, 484, 487, 462, 465, 467, 472, 492, 61]
noncomputable def badT : List Nat := [482, 485, 488, 518, 522, 540, 544, 546, 464, 473]
noncomputable def softT : List Str := [S "size", S "least", S "other", S "others", S "raised", S "lost", S "losses", S "waits", S "sent", S "box", S "thresholds", S "lap", S "place", S "value"]
noncomputable def deadT : List (Nat × List Str) := [(537, [S "place", S "value"]), (487, [S "lap", S "wire"]), (472, [S "lap", S "status"]), (61, [S "octet"]), (496, [S "octet"]), (492, [S "room"])]
noncomputable def tabC (K : Frag) (sp : List (Nat × Spec)) : Tab := tab K sp cutsT badT softT deadT
noncomputable def bodyOf (K : Frag) (f : Nat) : List Stmt := match fnK K f with
  | some fd => (match fd.body with | .stmts b => b | _ => [])
  | none => []
noncomputable def scOf (K : Frag) (f : Nat) : List (Str × NameKind) := match fnK K f with
  | some fd => fd.scope.names
  | none => []
end Mine

end
/- S1 -/
section
open PySem PySem.W PyProof.Rows
namespace Mine

inductive All2 {α β : Type} (R : α → β → Prop) : List α → List β → Prop
  | nil : All2 R [] []
  | cons {a b l m} : R a b → All2 R l m → All2 R (a :: l) (b :: m)
theorem All2.length {α β : Type} {R : α → β → Prop} {l : List α} {m : List β} (h : All2 R l m) : l.length = m.length := by
  induction h with
  | nil => rfl
  | cons _ _ ih => simp [ih]
theorem All2.mono {α β : Type} {R R' : α → β → Prop} {l : List α} {m : List β} (h : All2 R l m) (hr : ∀ a b, R a b → R' a b) : All2 R' l m := by
  induction h with
  | nil => exact .nil
  | cons h1 _ ih => exact .cons (hr _ _ h1) ih
theorem All2.append {α β : Type} {R : α → β → Prop} {l l' : List α} {m m' : List β} (h : All2 R l m) (h' : All2 R l' m') : All2 R (l ++ l') (m ++ m') := by
  induction h with
  | nil => exact h'
  | cons h1 _ ih => exact .cons h1 ih
theorem All2.get {α β : Type} {R : α → β → Prop} {l : List α} {m : List β} (h : All2 R l m) : ∀ {i : Nat} {a : α}, l[i]? = some a → ∃ b, m[i]? = some b ∧ R a b := by
  induction h with
  | nil => intro i a e; simp at e
  | cons h1 _ ih =>
    intro i a e
    cases i with
    | zero => simp at e; subst e; exact ⟨_, rfl, h1⟩
    | succ i => simpa using ih (by simpa using e)
theorem All2.set {α β : Type} {R : α → β → Prop} {l : List α} {m : List β} (h : All2 R l m) {a : α} {b : β} (hr : R a b) : ∀ i : Nat, All2 R (l.set i a) (m.set i b) := by
  induction h with
  | nil => intro i; exact .nil
  | cons h1 h2 ih =>
    intro i
    cases i with
    | zero => exact .cons hr h2
    | succ i => exact .cons h1 (ih i)
theorem All2.split {α β : Type} {R : α → β → Prop} : ∀ {l : List α} {m m' : List β}, All2 R l (m ++ m') → ∃ l1 l2, l = l1 ++ l2 ∧ All2 R l1 m ∧ All2 R l2 m'
  | l, [], m', h => ⟨[], l, rfl, .nil, h⟩
  | _, b :: m, m', .cons h1 h2 =>
    let ⟨l1, l2, e, x, y⟩ := All2.split h2
    ⟨_ :: l1, l2, by rw [e]; rfl, .cons h1 x, y⟩
theorem All2.splitL {α β : Type} {R : α → β → Prop} : ∀ {l l' : List α} {m : List β}, All2 R (l ++ l') m → ∃ m1 m2, m = m1 ++ m2 ∧ All2 R l m1 ∧ All2 R l' m2
  | [], l', m, h => ⟨[], m, rfl, .nil, h⟩
  | a :: l, l', _, .cons h1 h2 =>
    let ⟨m1, m2, e, x, y⟩ := All2.splitL h2
    ⟨_ :: m1, m2, by rw [e]; rfl, .cons h1 x, y⟩

theorem natsEq_iff : ∀ (a b : List Nat), natsEq a b = true ↔ a = b
  | [], [] => by simp [natsEq]
  | x :: xs, y :: ys => by
    unfold natsEq
    cases h : Nat.beq x y with
    | true =>
      have := Nat.eq_of_beq_eq_true h
      subst this
      simp [natsEq_iff xs ys]
    | false =>
      have := Nat.ne_of_beq_eq_false h
      simp [this]
  | [], _ :: _ => by simp [natsEq]
  | _ :: _, [] => by simp [natsEq]
theorem strEq_iff (a b : Str) : strEq a b = true ↔ a = b := by
  obtain ⟨⟨a⟩⟩ := a
  obtain ⟨⟨b⟩⟩ := b
  unfold strEq
  rw [natsEq_iff]
  simp
theorem strEq_false {a b : Str} (h : strEq a b = false) : a ≠ b := fun e => by
  rw [(strEq_iff a b).mpr e] at h; cases h
theorem strEq_beq (a b : Str) : strEq a b = (a == b) := by
  cases h : strEq a b with
  | true => rw [(strEq_iff a b).mp h]; simp
  | false => exact (beq_eq_false_iff_ne.mpr (strEq_false h)).symm

/-- what stands fast: the program, its written part, the facts of the top -/
structure Cx where
  prog : Program
  w : World
  K : Frag
  T : Tab
  p : Program
  loose : List Str
  mg : Str → Option Value
  mb : Str → Option Value
  ro : Heap

structure GOk (c : Cx) (g : Heap) : Prop where
  K : c.K.In g
  T : TopRead c.p c.loose c.mg c.mb g
  ro : ∀ b o, c.ro.get? b = some o → g.get? b = some o
theorem GOk.keeps {c : Cx} {g h : Heap} (G : GOk c g) (k : ∀ b o, g.get? b = some o → h.get? b = some o) : GOk c h := ⟨G.K.keeps k, G.T.keeps k, fun b o e => k b o (G.ro b o e)⟩

noncomputable abbrev toB (xs : List Int) : Array UInt8 := byteArr xs
noncomputable def inByte (xs : List Int) : Prop := ∀ x ∈ xs, 0 ≤ x ∧ x < 256

noncomputable def VR (g : Heap) (as : List Addr) : V → Value → Prop
  | .none, x => x = .none
  | .bool b, x => x = .bool b
  | .sbool b, x => x = .bool b
  | .int i, x => ∃ t, x = .int i t
  | .sint i, x => ∃ t, x = .int i t
  | .str s, x => ∃ t, x = .str s t
  | .bytes xs, x => (∃ t, x = .bytes (toB xs) t) ∧ inByte xs ∧ xs.length ≤ 1000000
  | .bi b, x => x = b.val
  | .top a, x => x = .ref a
  | .obj i, x => ∃ a, as[i]? = some a ∧ x = .ref a
  | .ro xs, x => ∃ a ys, x = .ref a ∧ g.IsList a (List.toArray ys) ∧ IntsAre ys xs ∧ xs.length ≤ 1000000

theorem VR.mono {g : Heap} {as as' : List Addr} (ha : ∀ (i : Nat) a, as[i]? = some a → as'[i]? = some a) {v : V} {x : Value} (h : VR g as v x) : VR g as' v x := by
  cases v <;> try exact h
  obtain ⟨a, e, r⟩ := h; exact ⟨a, ha _ _ e, r⟩

/-- a dict's entry -/
noncomputable def ER (c : Cx) (as : List Addr) (p : Str × V) (e : DictEntry) : Prop := (∃ t, e.key = .str p.1 t) ∧ e.hash = PyData.keyHash c.w.params p.1 ∧ VR c.ro as p.2 e.val

noncomputable def OR (c : Cx) (as : List Addr) : O → Obj → Prop
  | .inst C d, o => ∃ a, as[d]? = some a ∧ o = ⟨.ref C, some a, .plain, #[]⟩
  | .dict es, o => ∃ ds n, o = ⟨.type "dict", none, .dict (List.toArray ds) n, #[]⟩ ∧ All2 (ER c as) es ds ∧ (es.map (·.1)).Nodup
  | .list xs, o => ∃ ys n, o = ⟨.type "list", none, .seq (List.toArray ys) n, #[]⟩ ∧ All2 (VR c.ro as) xs ys ∧ xs.length ≤ 1000000
  | .il xs, o => ∃ ys n, o = ⟨.type "list", none, .seq (List.toArray ys) n, #[]⟩ ∧ IntsAre ys xs ∧ xs.length ≤ 1000000
  | .tup xs, o => ∃ ys n, o = ⟨.type "tuple", none, .seq (List.toArray ys) n, #[]⟩ ∧ All2 (VR c.ro as) xs ys ∧ xs.length ≤ 1000000
  | .barr xs, o => o = ⟨.type "bytearray", none, .bytearray (toB xs) 0, #[]⟩ ∧ inByte xs ∧ xs.length ≤ 1000000
  | .rng lo hi _, o => ∃ t u v, o = ⟨.type "range", none, .fields #[.int lo t, .int hi u, .int 1 v], #[]⟩
theorem OR.mono {c : Cx} {as as' : List Addr} (ha : ∀ (i : Nat) a, as[i]? = some a → as'[i]? = some a) {o : O} {x : Obj} (h : OR c as o x) : OR c as' o x := by
  cases o with
  | inst C d => obtain ⟨a, e, r⟩ := h; exact ⟨a, ha _ _ e, r⟩
  | dict es => obtain ⟨ds, n, e, r, z⟩ := h; exact ⟨ds, n, e, r.mono fun p e ⟨h1, h2, h3⟩ => ⟨h1, h2, h3.mono ha⟩, z⟩
  | list xs => obtain ⟨ys, n, e, r, z⟩ := h; exact ⟨ys, n, e, r.mono (fun _ _ q => q.mono ha), z⟩
  | il xs => exact h
  | tup xs => obtain ⟨ys, n, e, r, z⟩ := h; exact ⟨ys, n, e, r.mono (fun _ _ q => q.mono ha), z⟩
  | barr xs => exact h
  | rng lo hi kn => exact h
theorem OR.notFreed {c : Cx} {as : List Addr} {o : O} {x : Obj} (h : OR c as o x) : x.isFreed = false := by
  cases o with
  | inst C d => obtain ⟨a, e, r⟩ := h; subst r; rfl
  | dict es => obtain ⟨ds, n, e, r⟩ := h; subst e; rfl
  | list xs => obtain ⟨ds, n, e, r⟩ := h; subst e; rfl
  | il xs => obtain ⟨ds, n, e, r⟩ := h; subst e; rfl
  | tup xs => obtain ⟨ds, n, e, r⟩ := h; subst e; rfl
  | barr xs => obtain ⟨e, r⟩ := h; subst e; rfl
  | rng lo hi kn => obtain ⟨t, u, v, e⟩ := h; subst e; rfl

/-- a local's or a cell's value -/
noncomputable def LR (c : Cx) (g : Heap) (as : List Addr) (env : Env) (m : Str → Option Value) (p : Str × V) (y : Value) : Prop :=
  strEq p.1 ("__debug__" : Str) = false ∧ VR c.ro as p.2 y ∧
  ((env.kindOf p.1 = some .local ∧ m p.1 = some y) ∨ (env.kindOf p.1 = some .cell ∧ ∃ ca o, env.cells.lookup p.1 = some ca ∧ g.get? ca = some o ∧ o.data = .cell (some y)))

structure EnvOk (g : Heap) (env : Env) : Prop where
  kind : env.scope.kind = .function
  globals : env.globals = mainGlobals
  builtins : env.builtins = builtinsNs
  cells : ∀ x ca, env.cells.lookup x = some ca → ∃ o, g.get? ca = some o
theorem EnvOk.keeps {g h : Heap} {env : Env} (G : EnvOk g env) (k : ∀ b o, g.get? b = some o → h.get? b = some o) : EnvOk h env := ⟨G.kind, G.globals, G.builtins, fun x ca e => let ⟨o, ho⟩ := G.cells x ca e; ⟨o, k _ _ ho⟩⟩

structure InvD (c : Cx) (g : Heap) (env : Env) (as : List Addr) (m : Str → Option Value) (zs ys : List Value) (st : St) (h : Heap) : Prop where
  keep : ∀ b o, g.get? b = some o → h.get? b = some o
  len : as.length = st.H.length
  nodup : as.Nodup
  objs : ∀ (i : Nat) o a, st.H[i]? = some o → as[i]? = some a → ∃ ob, h.get? a = some ob ∧ OR c as o ob
  fresh : ∀ a ∈ as, g.get? a = none ∧ a ≠ env.locals
  lfresh : g.get? env.locals = none
  ns : h.Ns env.locals m
  loc : All2 (LR c g as env m) st.l zs
  stk : All2 (VR c.ro as) st.s ys
  sc : st.sc = env.scope.names

noncomputable def Inv (c : Cx) (g : Heap) (env : Env) (ys : List Value) (st : St) (h : Heap) : Prop := ∃ as m zs, InvD c g env as m zs ys st h

section
variable {c : Cx} {g : Heap} {env : Env} {as : List Addr} {m : Str → Option Value} {zs ys : List Value} {st : St} {h : Heap}

theorem InvD.obj (D : InvD c g env as m zs ys st h) {i : Nat} {o : O} (e : st.H[i]? = some o) : ∃ a ob, as[i]? = some a ∧ h.get? a = some ob ∧ OR c as o ob := by
  have hi : i < as.length := by rw [D.len]; exact (List.getElem?_eq_some_iff.mp e).1
  obtain ⟨ob, h1, h2⟩ := D.objs i o as[i] e (List.getElem?_eq_getElem hi)
  exact ⟨_, ob, List.getElem?_eq_getElem hi, h1, h2⟩
/-- objects are made, none turned -/
theorem InvD.gNe (D : InvD c g env as m zs ys st h) {b : Addr} {o : Obj} (e : g.get? b = some o) : b ≠ env.locals := fun q => by
  rw [q, D.lfresh] at e; cases e
theorem InvD.growL (D : InvD c g env as m zs ys st h) {h' : Heap} (k : ∀ b o, b ≠ env.locals → h.get? b = some o → h'.get? b = some o) {m' : Str → Option Value} {zs' : List Value} {l' : List (Str × V)} (n : h'.Ns env.locals m') (q : All2 (LR c g as env m') l' zs') :
    InvD c g env as m' zs' ys ⟨st.H, l', st.s, st.sc⟩ h' :=
  ⟨fun b o e => k _ _ (D.gNe e) (D.keep b o e), D.len, D.nodup, fun i o a e1 e2 => let ⟨ob, x, y⟩ := D.objs i o a e1 e2; ⟨ob, k _ _ (D.fresh a (List.mem_of_getElem? e2)).2 x, y⟩, D.fresh, D.lfresh, n, q, D.stk, D.sc⟩
theorem InvD.grow (D : InvD c g env as m zs ys st h) {h' : Heap} (k : ∀ b o, b ≠ env.locals → h.get? b = some o → h'.get? b = some o) (n : h'.Ns env.locals m) : InvD c g env as m zs ys st h' := D.growL k n D.loc
theorem InvD.stack (D : InvD c g env as m zs ys st h) {ys' : List Value} {s' : List V} (q : All2 (VR c.ro as) s' ys') : InvD c g env as m zs ys' ⟨st.H, st.l, s', st.sc⟩ h :=
  ⟨D.keep, D.len, D.nodup, D.objs, D.fresh, D.lfresh, D.ns, D.loc, q, D.sc⟩
theorem InvD.push (D : InvD c g env as m zs ys st h) {v : V} {y : Value} (q : VR c.ro as v y) : InvD c g env as m zs (y :: ys) (push v st) h := D.stack (.cons q D.stk)
theorem InvD.pop {y : Value} (D : InvD c g env as m zs (y :: ys) st h) {k : KV} (q : pop st k) : ∃ v s', st = Mine.push v ⟨st.H, st.l, s', st.sc⟩ ∧ VR c.ro as v y ∧ InvD c g env as m zs ys ⟨st.H, st.l, s', st.sc⟩ h ∧ k v ⟨st.H, st.l, s', st.sc⟩ := by
  obtain ⟨H, l, s, sc⟩ := st
  cases hs : D.stk with
  | cons h1 h2 => exact ⟨_, _, rfl, h1, D.stack h2, q⟩
theorem InvD.notIn (D : InvD c g env as m zs ys st h) {b : Addr} {o : Obj} (e : g.get? b = some o) : b ∉ as := fun q => by
  rw [(D.fresh b q).1] at e; cases e
/-- a new object, at the heap's end -/
theorem InvD.alloc (D : InvD c g env as m zs ys st h) {o : O} {ob : Obj} {h' : Heap} (k : ∀ b o, b ≠ env.locals → h.get? b = some o → h'.get? b = some o) (n' : h'.Ns env.locals m) {a : Addr} (ha : h.get? a = none) (hn : h'.get? a = some ob) (ho : OR c (as ++ [a]) o ob) :
    InvD c g env (as ++ [a]) m zs ys ⟨st.H ++ [o], st.l, st.s, st.sc⟩ h' := by
  have up : ∀ (i : Nat) x, as[i]? = some x → (as ++ [a])[i]? = some x := fun i x e => by
    rw [List.getElem?_append_left (List.getElem?_eq_some_iff.mp e).1]; exact e
  have hna : a ∉ as := fun q => by
    obtain ⟨i, hi, e⟩ := List.getElem_of_mem q
    have hiH : i < st.H.length := by rw [← D.len]; exact hi
    obtain ⟨ob', x, _⟩ := D.objs i _ a (List.getElem?_eq_getElem hiH) (by rw [List.getElem?_eq_getElem hi, e])
    rw [ha] at x; cases x
  have hga : g.get? a = none := by
    cases q : g.get? a with
    | none => rfl
    | some o' => have := D.keep _ _ q; rw [ha] at this; cases this
  refine ⟨fun b o e => k _ _ (D.gNe e) (D.keep b o e), by simp [D.len], ?_, fun i o' b e1 e2 => ?_, fun b hb => ?_, D.lfresh, n', D.loc.mono fun p y q => ⟨q.1, q.2.1.mono up, q.2.2⟩, D.stk.mono fun _ _ q => q.mono up, D.sc⟩
  · rw [List.nodup_append]
    refine ⟨D.nodup, by simp, fun x hx y hy e => ?_⟩
    simp at hy; subst hy; subst e; exact hna hx
  · by_cases hi : i < st.H.length
    · have hiA : i < as.length := by rw [D.len]; exact hi
      rw [List.getElem?_append_left hi] at e1
      rw [List.getElem?_append_left hiA] at e2
      obtain ⟨ob', x, y⟩ := D.objs i o' b e1 e2
      exact ⟨ob', k _ _ (D.fresh b (List.mem_of_getElem? e2)).2 x, y.mono up⟩
    · have : i = st.H.length := by
        have := (List.getElem?_eq_some_iff.mp e1).1
        simp at this; omega
      subst this
      rw [List.getElem?_append_right (Nat.le_refl _)] at e1
      rw [← D.len, List.getElem?_append_right (Nat.le_refl _)] at e2
      simp at e1 e2
      subst e1; subst e2
      exact ⟨ob, hn, ho⟩
  · rcases List.mem_append.mp hb with q | q
    · exact D.fresh b q
    · simp at q; subst q
      refine ⟨hga, fun e => ?_⟩
      obtain ⟨o', es, ep, ho', _⟩ := D.ns
      rw [← e, ha] at ho'; cases ho'
theorem InvD.last (D : InvD c g env as m zs ys st h) (a : Addr) : (as ++ [a])[st.H.length]? = some a := by
  rw [← D.len, List.getElem?_append_right (Nat.le_refl _)]; simp
/-- one object is turned -/
theorem InvD.setObj (D : InvD c g env as m zs ys st h) {i : Nat} {a : Addr} {o : O} {ob : Obj} {h' : Heap} (hi : as[i]? = some a) (hs : ∀ b, b ≠ a → b ≠ env.locals → ∀ o, h.get? b = some o → h'.get? b = some o) (n' : h'.Ns env.locals m) (hn : h'.get? a = some ob) (ho : OR c as o ob) :
    InvD c g env as m zs ys ⟨st.H.set i o, st.l, st.s, st.sc⟩ h' := by
  have hm : a ∈ as := List.mem_of_getElem? hi
  refine ⟨fun b x e => hs b (fun q => ?_) (D.gNe e) _ (D.keep b x e), by simp [D.len], D.nodup, fun j o' b e1 e2 => ?_, D.fresh, D.lfresh, n', D.loc, D.stk, D.sc⟩
  · subst q; rw [(D.fresh _ hm).1] at e; cases e
  · by_cases hij : i = j
    · subst hij
      rw [hi] at e2; cases e2
      have hl : i < st.H.length := by rw [← D.len]; exact (List.getElem?_eq_some_iff.mp hi).1
      rw [List.getElem?_set_self hl] at e1
      cases e1
      exact ⟨ob, hn, ho⟩
    · rw [List.getElem?_set_ne hij] at e1
      obtain ⟨ob', x, y⟩ := D.objs j o' b e1 e2
      refine ⟨ob', hs b (fun q => ?_) (D.fresh b (List.mem_of_getElem? e2)).2 _ x, y⟩
      subst q
      obtain ⟨l1, g1⟩ := List.getElem?_eq_some_iff.mp hi
      obtain ⟨l2, g2⟩ := List.getElem?_eq_some_iff.mp e2
      exact hij ((List.getElem_inj D.nodup).mp (g1.trans g2.symm))

/-- all the heap's objects but the locals', as a ledger over nothing: so that the library's rules that speak of ledgers lose nothing -/
noncomputable def heap0 : Heap := ⟨#[], {}⟩
theorem heap0_none (b : Addr) : heap0.get? b = none := rfl
theorem fr0 {L : Addr} (n : h.Ns L m) : Fr heap0 L h m := ⟨n, fun b o e => (by rw [heap0_none] at e; cases e), Nat.zero_le _⟩
noncomputable def allN (h : Heap) (L : Addr) : List (Addr × Obj) := (List.range h.objs.size).filterMap fun b => if b = L then none else (h.get? b).map fun o => (b, o)
theorem allN_mem {L b : Addr} {o : Obj} : (b, o) ∈ allN h L ↔ b ≠ L ∧ h.get? b = some o := by
  unfold allN
  rw [List.mem_filterMap]
  constructor
  · rintro ⟨x, hx, e⟩
    by_cases q : x = L
    · rw [if_pos q] at e; cases e
    · rw [if_neg q] at e
      obtain ⟨o', h1, h2⟩ := Option.map_eq_some_iff.mp e
      cases h2
      exact ⟨q, h1⟩
  · rintro ⟨hb, e⟩
    exact ⟨b, List.mem_range.mpr (Heap.lt_size e), by rw [if_neg hb, e]; rfl⟩
theorem allN_news (h : Heap) (L : Addr) : News heap0 L h (allN h L) := fun p hp => by
  have q := allN_mem.mp (show (p.1, p.2) ∈ _ from hp)
  exact ⟨q.2, q.1, heap0_none _⟩
theorem allN_keep {h' : Heap} {L : Addr} {news : List (Addr × Obj)} (N : News heap0 L h' news) (hs : ∀ p ∈ allN h L, p ∈ news) : ∀ b o, b ≠ L → h.get? b = some o → h'.get? b = some o :=
  fun b o hb e => (N (b, o) (hs _ (allN_mem.mpr ⟨hb, e⟩))).1
theorem fresh_of_lt {L D : Addr} (hD : D ≠ L) (hl : ∀ p ∈ allN h L, p.1 < D) : h.get? D = none := by
  cases q : h.get? D with
  | none => rfl
  | some o => exact absurd (hl (D, o) (allN_mem.mpr ⟨hD, q⟩)) (Nat.lt_irrefl _)
theorem allN_upd {L d : Addr} {o o' : Obj} (hd : d ≠ L) (e : h.get? d = some o) : ∃ news', Upd d o o' (allN h L) news' ∧ (∀ b x, b ≠ d → (b, x) ∈ allN h L → (b, x) ∈ news') ∧ (d, o') ∈ news' := by
  have nd : ((allN h L).map (·.1)).Nodup := by
    unfold allN
    rw [List.map_filterMap]
    have : ∀ l : List Nat, l.Nodup → (l.filterMap fun b => Option.map (fun x : Addr × Obj => x.1) (if b = L then none else (h.get? b).map fun o => (b, o))).Nodup := by
      intro l
      induction l with
      | nil => intro _; simp
      | cons b r ih =>
        intro hn
        rw [List.nodup_cons] at hn
        rw [List.filterMap_cons]
        have key : ∀ b' y, Option.map (fun x : Addr × Obj => x.1) (if b' = L then none else (h.get? b').map fun o => (b', o)) = some y → y = b' := by
          intro b' y e
          by_cases q : b' = L
          · rw [if_pos q] at e; cases e
          · rw [if_neg q] at e
            cases w : h.get? b' with
            | none => rw [w] at e; cases e
            | some o => rw [w] at e; cases e; rfl
        cases w : Option.map (fun x : Addr × Obj => x.1) (if b = L then none else (h.get? b).map fun o => (b, o)) with
        | none => exact ih hn.2
        | some y =>
          have := key b y w
          subst this
          show (y :: _).Nodup
          rw [List.nodup_cons]
          refine ⟨fun hm => ?_, ih hn.2⟩
          obtain ⟨b', hb', e'⟩ := List.mem_filterMap.mp hm
          have := key b' y e'
          subst this
          exact hn.1 hb'
    exact this _ List.nodup_range
  have hm : (d, o) ∈ allN h L := allN_mem.mpr ⟨hd, e⟩
  have gen : ∀ l : List (Addr × Obj), (l.map (·.1)).Nodup → (d, o) ∈ l → ∃ news', Upd d o o' l news' ∧ (∀ b x, b ≠ d → (b, x) ∈ l → (b, x) ∈ news') ∧ (d, o') ∈ news' := by
    intro l
    induction l with
    | nil => intro _ hm; cases hm
    | cons p r ih =>
      intro hn hm
      rw [List.map_cons, List.nodup_cons] at hn
      rcases List.mem_cons.mp hm with q | q
      · subst q
        refine ⟨(d, o') :: r, .head fun p hp e => hn.1 (List.mem_map.mpr ⟨p, hp, e⟩), fun b x hb hx => ?_, .head _⟩
        rcases List.mem_cons.mp hx with q | q
        · cases q; exact absurd rfl hb
        · exact .tail _ q
      · obtain ⟨n', u, k, k2⟩ := ih hn.2 q
        have hp : p.1 ≠ d := fun e => hn.1 (List.mem_map.mpr ⟨(d, o), q, e.symm⟩)
        refine ⟨p :: n', .tail hp u, fun b x hb hx => ?_, .tail _ k2⟩
        rcases List.mem_cons.mp hx with q | q
        · rw [q]; exact .head _
        · exact .tail _ (k b x hb q)
  exact gen _ nd hm
end
end Mine

end
/- S2 -/
section
open PySem PySem.W PyProof.Rows
namespace Mine

noncomputable abbrev MD (c : Cx) : Model := model c.prog c.w
noncomputable abbrev Post (c : Cx) (g : Heap) (env : Env) (ys : List Value) (k : KV) (Q : Value → Shared → Prop) (s : Shared) : Prop :=
  ∀ v st' y h' tk, Inv c g env (y :: ys) (push v st') h' → k v st' → Q y ⟨h', s.gens, s.drawn, tk, s.os⟩

theorem Br.elim {b : Bool} {P Q R : Prop} (h : Br b P Q) (hp : b = true → P → R) (hq : b = false → Q → R) : R := by
  cases h with
  | mk x y => cases b with
    | true => exact hp rfl (x rfl)
    | false => exact hq rfl (y rfl)
theorem need_elim {kn cnd : Bool} {k : Prop} (h : need kn cnd k) : cnd = true ∧ k := by
  unfold need at h
  cases kn with
  | true => cases cnd with
    | true => exact ⟨rfl, h⟩
    | false => exact h.elim
  | false => exact h.elim (fun e p => ⟨e, p⟩) fun _ p => p.elim
theorem VR.mkI {g : Heap} {as : List Addr} (kn : Bool) (z : Int) (t : Tok) : VR g as (mkI kn z) (.int z t) := by cases kn <;> exact ⟨t, rfl⟩
theorem VR.mkB {g : Heap} {as : List Addr} (kn : Bool) (b : Bool) : VR g as (mkB kn b) (.bool b) := by cases kn <;> rfl
theorem VR.asInt {g : Heap} {as : List Addr} {v : V} {y : Value} {x : Int} {kn : Bool} (h : VR g as v y) (e : asInt v = some (x, kn)) : ∃ t, y = .int x t := by
  cases v <;> simp [Mine.asInt] at e <;> (obtain ⟨e1, e2⟩ := e; subst e1; exact h)
theorem VR.asBool {g : Heap} {as : List Addr} {v : V} {y : Value} {x : Bool} {kn : Bool} (h : VR g as v y) (e : asBool v = some (x, kn)) : y = .bool x := by
  cases v <;> simp [Mine.asBool] at e <;> (obtain ⟨e1, e2⟩ := e; subst e1; exact h)

section
variable {c : Cx} {g : Heap} {env : Env} {as : List Addr} {m : Str → Option Value} {zs ys : List Value} {st : St} {A : Around} {s : Shared} {Q : Value → Shared → Prop} {E : Value → Shared → Prop} {k : KV}

/-- an answer: a plain value, the state as it was -/
theorem InvD.ret (D : InvD c g env as m zs ys st s.heap) (P : Post c g env ys k Q s) {v : V} {y : Value} {tk : Nat} (q : VR c.ro as v y) (hk : k v st) : Q y ⟨s.heap, s.gens, s.drawn, tk, s.os⟩ :=
  P v st y s.heap tk ⟨as, m, zs, D.push q⟩ hk

theorem sIop {op : Operator} {a b : Int} {t u : Tok} {ka kb : Bool} {kk : Int → Prop} (hk : iop op a b ka kb kk) (P : ∀ z tk, kk z → Q (.int z tk) ⟨s.heap, s.gens, s.drawn, s.toks + 1, s.os⟩) :
    wpAny (MD c) A (binaryOp op (.int a t) (.int b u)) Q E s := by
  unfold iop at hk
  cases op with
  | Add => exact PyProof.Rows.add_int (P _ _ hk)
  | Sub => exact PyProof.Rows.sub_int (P _ _ hk)
  | Mult =>
    obtain ⟨e, q⟩ := need_elim hk
    have e := of_decide_eq_true e
    exact PyProof.Rows.mul_int (P _ _ q) (IntMulOk.of_left (intBits_le_64 (by omega) (by omega)))
  | MatMult => exact hk.elim
  | Div => exact hk.elim
  | Mod =>
    obtain ⟨e, q⟩ := need_elim hk
    exact PyProof.Rows.mod_int' (of_decide_eq_true e) (P _ _ q)
  | Pow =>
    obtain ⟨e, q⟩ := need_elim hk
    have e := of_decide_eq_true e
    exact PyProof.Rows.pow_int_small e.1 e.2.1 e.2.2 (P _ _ q)
  | LShift =>
    obtain ⟨e, q⟩ := need_elim hk
    have e := of_decide_eq_true e
    exact PyProof.Rows.lshift_int_small e.1 e.2.1 e.2.2 (P _ _ q)
  | RShift =>
    obtain ⟨e, q⟩ := need_elim hk
    exact PyProof.Rows.rshift_int (of_decide_eq_true e) (P _ _ q)
  | BitOr => exact PyProof.Rows.or_int (P _ _ hk)
  | BitXor => exact hk.elim
  | BitAnd => exact PyProof.Rows.and_int (P _ _ hk)
  | FloorDiv =>
    obtain ⟨e, q⟩ := need_elim hk
    have e := of_decide_eq_true e
    exact PyProof.Rows.floordiv_int e.1 (P _ _ q) (.inl (PyProof.noPylong_small e.2))

theorem eqB_is (a b : Int) : eqB a b = (a == b) := by
  cases h : eqB a b with
  | true => rw [(Z.eqB_iff a b).mp h]; simp
  | false =>
    symm
    rw [beq_eq_false_iff_ne]
    intro e
    have := (Z.eqB_iff a b).mpr e
    rw [show Z.eqB a b = eqB a b from rfl, h] at this; cases this
theorem ltB_is (a b : Int) : ltB a b = decide (a < b) := by
  cases h : ltB a b with
  | true => exact (decide_eq_true ((Z.ltB_iff a b).mp h)).symm
  | false =>
    refine (decide_eq_false fun e => ?_).symm
    have := (Z.ltB_iff a b).mpr e
    rw [show Z.ltB a b = ltB a b from rfl, h] at this; cases this
theorem leB_is (a b : Int) : leB a b = decide (a ≤ b) := by
  cases h : leB a b with
  | true => exact (decide_eq_true ((Z.leB_iff a b).mp h)).symm
  | false =>
    refine (decide_eq_false fun e => ?_).symm
    have := (Z.leB_iff a b).mpr e
    rw [show Z.leB a b = leB a b from rfl, h] at this; cases this

theorem sIcmp {op : CmpOp} {a b : Int} {t u : Tok} {r : Bool} (e : icmp op a b = some r) (P : Q (.bool r) s) : wpAny (MD c) A (compareOp op (.int a t) (.int b u)) Q E s := by
  unfold icmp at e
  cases op <;> simp only [Option.some.injEq, reduceCtorEq] at e
  · rw [eqB_is] at e; exact PySem.P.eq_int (by rw [e]; exact P)
  · rw [eqB_is] at e; exact PySem.P.ne_int (by show Q (.bool (!(a == b))) s; rw [e]; exact P)
  · rw [ltB_is] at e; exact PySem.P.lt_int (by rw [e]; exact P)
  · rw [leB_is] at e; exact PySem.P.le_int (by rw [e]; exact P)
  · rw [ltB_is] at e; exact PySem.P.gt_int (by show Q (.bool (decide (b < a))) s; rw [e]; exact P)
  · rw [leB_is] at e; exact PySem.P.ge_int (by show Q (.bool (decide (b ≤ a))) s; rw [e]; exact P)

theorem sTruth {v : V} {y : Value} {kk : Bool → Prop} {QB : Bool → Shared → Prop} (q : VR g as v y) (hk : truth v kk) (P : ∀ b tk, (∀ b', v = .sbool b' → b' = b) → kk b → QB b ⟨s.heap, s.gens, s.drawn, tk, s.os⟩) : wpAny (MD c) A (truthy y) QB E s := by
  cases v with
  | none => obtain rfl : y = _ := q; exact truthy_none (P false s.toks (fun _ e => by cases e) hk)
  | bool b => obtain rfl : y = _ := q; exact wpAny_truthy_bool (P b s.toks (fun _ e => by cases e) hk)
  | sbool b =>
    obtain rfl : y = _ := q
    refine wpAny_truthy_bool ?_
    exact hk.elim (fun e p => by subst e; exact P true s.toks (fun _ e => by cases e; rfl) p) fun e p => by subst e; exact P false s.toks (fun _ e => by cases e; rfl) p
  | int i =>
    obtain ⟨t, rfl⟩ := q
    have hk : kk (!(eqB i 0)) := hk
    rw [eqB_is] at hk
    exact PySem.P.truthy_int (P _ s.toks (fun _ e => by cases e) hk)
  | sint i =>
    obtain ⟨t, rfl⟩ := q
    refine PySem.P.truthy_int ?_
    have hk : Br (decide (i ≠ 0)) (kk true) (kk false) := hk
    refine hk.elim (fun e p => ?_) fun e p => ?_
    · have e := of_decide_eq_true e
      rw [show (i != 0) = true from by simpa using e]
      exact P true s.toks (fun _ e => by cases e) p
    · have e := of_decide_eq_false e
      rw [show (i != 0) = false from by simpa using e]
      exact P false s.toks (fun _ e => by cases e) p
  | _ => exact hk.elim
end
end Mine

end
/- N1 -/
section
open PySem PySem.W PyProof.Rows
open PySem.Sem (wp)
namespace Mine

/-- built-ins that hold a bytearray's octets while they run -/
noncomputable def badIds : List String := Builtin.Bytes.decodersThatHold ++ ["bytearray.__contains__", "bytearray.__mod__", "bytearray.__rmod__", "_struct.pack_into.held", "bytearray.find.held"]
noncomputable def nd : Code → Bool
  | .builtin id _ => !(badIds.contains id)
  | _ => true
noncomputable def NB (Γ : Ctx) : Prop := ∀ x ∈ Γ.below, nd x.1 = true
noncomputable def ND (Γ : Ctx) : Prop := nd Γ.code = true ∧ NB Γ

theorem ND.enter {Γ : Ctx} (h : ND Γ) (c : Code) (hd : Option Value) (p : Pos) : NB (Γ.enter c hd p) := fun x hx => by
  cases hx with
  | head => exact h.1
  | tail _ hx => exact h.2 x hx

/-- the logic: as wpAny, with no such built-in on the stack, and with no exception -/
noncomputable def wpN {α : Type} (M : Model) (A : Around) (t : Sem α) (Q : α → Shared → Prop) (s : Shared) : Prop :=
  ∀ Γ p, Γ.In A → ND Γ → wp M Γ t (fun a _ s' => Q a s') (fun _ _ _ => False) p s
noncomputable def okR (R : Flow → Shared → Prop) : Result → Shared → Prop
  | .ok f, s => R f s
  | .error _, _ => False
noncomputable def codeN (M : Model) (A : Around) (c : Code) (R : Flow → Shared → Prop) (s : Shared) : Prop :=
  ∀ Γ p, Γ.code = c → Γ.Below A → NB Γ → wpCode M Γ (okR R) p s
noncomputable abbrev noE : Value → Shared → Prop := fun _ _ => False

section
variable {α β : Type} {M : Model} {A : Around} {s : Shared}

theorem wpN_any {t : Sem α} {Q : α → Shared → Prop} (h : wpAny M A t Q noE s) : wpN M A t Q s := fun Γ p hΓ _ => h Γ p hΓ
theorem wpN_mono {t : Sem α} {Q Q' : α → Shared → Prop} (h : wpN M A t Q s) (hQ : ∀ a s, Q a s → Q' a s) : wpN M A t Q' s :=
  fun Γ p hΓ hN => Sem.wp_mono M Γ t (fun a _ s => hQ a s) (fun _ _ _ x => x) p s (h Γ p hΓ hN)
theorem wpN_bind {m : Sem α} {f : α → Sem β} {Q : β → Shared → Prop} (h : wpN M A m (fun a s' => wpN M A (f a) Q s') s) : wpN M A (m >>= f) Q s := fun Γ p hΓ hN => by
  rw [Sem.wp_bind']
  exact Sem.wp_mono M Γ m (fun a p' s' h' => h' Γ p' hΓ hN) (fun _ _ _ h' => h') p s (h Γ p hΓ hN)
theorem wpN_pure {a : α} {Q : α → Shared → Prop} (h : Q a s) : wpN M A (pure a) Q s := fun _ _ _ _ => h
theorem wpN_standAt {pos : Pos} {Q : Unit → Shared → Prop} (h : Q () s) : wpN M A (standAt pos) Q s := fun _ _ _ _ => h
theorem wpN_point {Q : Unit → Shared → Prop} (h : Q () s) : wpN M A point Q s := fun _ _ _ _ => h
theorem wpN_holding {vs : List Value} {m : Sem α} {Q : α → Shared → Prop} (h : wpN M A m Q s) : wpN M A (holding vs m) Q s := fun Γ p hΓ hN => by rw [Sem.wp_holding]; exact h Γ p hΓ hN
theorem wpN_keep {vs : List Value} {m : Sem α} {Q : α → Shared → Prop} (h : wpN M A m Q s) : wpN M A (m.keep vs) Q s := fun Γ p hΓ hN => by rw [Sem.wp_keep]; exact h Γ p hΓ hN
theorem wpN_operate {vs : List Value} {m : Sem Value} {Q : Value → Shared → Prop} (h : wpN M A m Q s) : wpN M A (operate vs m) Q s := fun Γ p hΓ hN => by rw [Sem.wp_operate]; exact h Γ p hΓ hN
theorem wpN_release {vs keep : List Value} {Q : Unit → Shared → Prop} (h : Q () s) : wpN M A (release vs keep) Q s := fun Γ p hΓ hN => by rw [Sem.wp_release]; exact h
theorem wpN_onRaise {m : Sem α} {k : Value → Sem Unit} {Q : α → Shared → Prop} (h : wpN M A m Q s) : wpN M A (m.onRaise k) Q s := fun Γ p hΓ hN => by
  rw [Sem.wp_onRaise]
  exact Sem.wp_mono M Γ m (fun _ _ _ h' => h') (fun _ _ _ x => x.elim) p s (h Γ p hΓ hN)
theorem wpN_bindName {env : Env} {x : Str} {v : Value} {Q : Unit → Shared → Prop} (h : wpN M A (storeName env x v) Q s) : wpN M A (bindName env x v) Q s := fun Γ p hΓ hN => by rw [Sem.wp_bindName]; exact h Γ p hΓ hN
theorem wpN_attempt {m : Sem α} {Q : Except Value α → Shared → Prop} (h : wpN M A m (fun a => Q (.ok a)) s) : wpN M A m.attempt Q s := fun Γ p hΓ hN => by
  rw [Sem.wp_attempt]
  exact Sem.wp_mono M Γ m (fun _ _ _ h' => h') (fun _ _ _ x => x.elim) p s (h Γ p hΓ hN)
theorem wpN_tryCatch {m : Sem α} {k : Value → Sem α} {Q : α → Shared → Prop} (h : wpN M A m Q s) : wpN M A (tryCatch m k) Q s := fun Γ p hΓ hN => by
  rw [Sem.wp_tryCatch']
  exact Sem.wp_mono M Γ m (fun _ _ _ h' => h') (fun _ _ _ x => x.elim) p s (h Γ p hΓ hN)

theorem codeN_any {c : Code} {R : Flow → Shared → Prop} (h : codeAny M A c (okR R) s) : codeN M A c R s := fun Γ p hc hΓ _ => h Γ p hc hΓ
theorem codeN_mono {c : Code} {R R' : Flow → Shared → Prop} (h : codeN M A c R s) (hR : ∀ f s, R f s → R' f s) : codeN M A c R' s := fun Γ p hc hΓ hN =>
  wpCode_mono (fun r s h => by cases r with
    | ok f => exact hR f s h
    | error e => exact h) (h Γ p hc hΓ hN)

theorem wpN_run {c : Code} {Q : Flow → Shared → Prop} (hc : codeN M (A.mark none) c Q s) : wpN M A (run c none) Q s := fun Γ p hΓ hN => by
  rw [Sem.wp_run]
  refine wpCode_mono (fun r s h => ?_) (hc _ p rfl (hΓ.enter c none p (by intro x; cases x)) (hN.enter c none p))
  cases r with
  | ok f => exact h
  | error e => exact h
theorem wpN_runOwn {c : Code} {env : Env} {Q : Flow → Shared → Prop} (hc : codeN M (A.mark none) c Q s) : wpN M A (runOwn c env) Q s := by
  unfold runOwn
  exact wpN_onRaise (wpN_run hc)
noncomputable def isRet (Q : Value → Shared → Prop) : Flow → Shared → Prop
  | .ret v, s => Q v s
  | _, _ => False
theorem wpN_runValue {c : Code} {Q : Value → Shared → Prop} (hc : codeN M A c (isRet Q) s) : wpN M A (runValue c) Q s := fun Γ p hΓ hN => by
  rw [Sem.wp_runValue]
  refine wpCode_mono (fun r s h => ?_) (hc _ p rfl (hΓ.enter c none p (by intro x; cases x)) (hN.enter c none p))
  cases r with
  | ok f => cases f <;> exact h
  | error e => exact h
theorem wpN_call {f : Value} {pos : List Value} {Q : Value → Shared → Prop} (hc : codeN M A (.call f ⟨pos, []⟩) (isRet Q) s) : wpN M A (call f pos) Q s := wpN_runValue hc

noncomputable def finN (M : Model) (A : Around) (R : Flow → Shared → Prop) : Fin → Shared → Prop
  | .done f, s => R f s
  | .again c, s => c.quiet = true ∧ codeN M A c R s
theorem codeN_tree {c : Code} {R : Flow → Shared → Prop} (hn : nd c = true) (h : wpN M (A.under c) (M.den c) (finN M A R) s) : codeN M A c R s := fun Γ p hc hΓ hN => by
  rw [wpCode_iff_wp, hc]
  refine Sem.wp_mono M Γ _ (fun fin p' s' h' => ?_) (fun _ _ _ h' => h'.elim) p s (h Γ p (hc ▸ hΓ.in) ⟨by rw [hc]; exact hn, hN⟩)
  cases fin with
  | done f => exact h'
  | again c' => exact ⟨h'.1, h'.2 (Γ.goto c') p' rfl (hΓ.goto c') hN⟩
end

section
variable {prog : Program} {w : World} {A : Around} {s : Shared}

theorem codeN_call_builtin {id : String} {args : Args} {b : Builtin} {R : Flow → Shared → Prop} (hq : plainId id = true) (hn : nd (.builtin id args) = true) (hb : entryFor table id = some b)
    (h : wpN (model prog w) A.in1 (checkBuiltinCall id args) (fun _ s₁ => wpN (model prog w) A.in1 (b args) (finN (model prog w) A R) s₁) s) : codeN (model prog w) A (.call (.builtin id) args) R s := by
  refine codeN_tree rfl ?_
  show wpN _ A.in1 (do checkBuiltinCall id args; again (.builtin id args)) _ s
  refine wpN_bind (wpN_mono h fun _ s₁ h₁ => wpN_pure (And.intro (plainId_quiet hq args) (codeN_tree hn ?_)))
  show wpN _ _ (match entryFor table id with | some b => b args | none => unsupported ((withoutEnding? id "#data").getD id)) _ s₁
  rw [hb, Around.under_plainId hq args]; exact h₁

theorem codeN_func {body : List Stmt} {env : Env} {R : Flow → Shared → Prop}
    (h : wpN (model prog w) (A.deeper env) (execs body env) (fun f s' => R (.ret (match f with | .ret v => v | _ => .none)) s') s) : codeN (model prog w) A (.func body env) R s := by
  refine codeN_tree rfl ?_
  show wpN _ (A.deeper env) (do point; match ← (execs body env).onRaise (leaving env) with | .ret v => ret v | _ => ret .none) _ s
  refine wpN_bind (wpN_point (wpN_bind (wpN_onRaise (wpN_mono h fun f s' h' => ?_))))
  cases f <;> exact wpN_pure h'

theorem codeN_call_cells {R : Flow → Shared → Prop} {a : Addr} {o : Obj} {fd : FuncData} {body : List Stmt} {vals : List Value} {binds : List (Str × Value)}
    (hroom : A.depth < recursionLimit) (ho : s.heap.get? a = some o) (hdata : o.data = .func fd) (hlim : s.heap.NoLimit) (hcd : s.heap.CodeRec fd.code fd.qualname)
    (hbody : fd.body = .stmts body) (hbind : BindsTo s fd ⟨vals, []⟩ binds) (hclo : fd.closure = [])
    (hkind : ∀ x ∈ binds, fd.scope.names.lookup x.1 = some .local ∨ (fd.scope.names.lookup x.1 = some .cell ∧ ((cellsFrom (s.heap.objs.size + 1) fd.scope.names []).lookup x.1).isSome = true))
    (h : ∀ s₁, InCallC s (callEnvC fd s.heap.objs.size a).locals (bindL (callEnvC fd s.heap.objs.size a).kindOf binds fun _ => none) (callEnvC fd s.heap.objs.size a).cells
        (bindC (callEnvC fd s.heap.objs.size a).kindOf binds fun _ => none) s₁ →
      wpN (model prog w) (A.deeper (callEnvC fd s.heap.objs.size a)) (execs body (callEnvC fd s.heap.objs.size a)) (fun f s' => R (.ret (match f with | .ret v => v | _ => .none)) s') s₁)
    (hco : fd.scope.isCoroutine = false) (hgen : fd.scope.isGenerator = false) (hk : fd.scope.kind = .function) : codeN (model prog w) A (.call (.ref a) ⟨vals, []⟩) R s := by
  refine codeN_tree rfl ?_
  show wpN _ A.in1 (callAny (.ref a) ⟨vals, []⟩) _ s
  simp only [callAny]
  refine wpN_bind (wpN_any (wpAny_load ho ?_))
  obtain ⟨c, oc, vs, tq, hc, hoc, hdc, hq⟩ := hcd
  simp only [hdata, callFunction, hco, hgen, hbody, hc]
  refine wpN_bind (m := field (.ref c) 1) (wpN_any (wpAny_field hoc hdc hq (?_ : wpN _ _ _ _ _)))
  refine wpN_bind (wpN_pure (wpN_bind (wpN_any (hbind _ _ _ _ (?_ : wpN _ _ _ _ _)))))
  rw [hclo]
  refine wpN_bind (wpN_any (wpAny_newFunctionEnv_cells hk hkind fun env he s' x => (?_ : wpN _ _ _ _ _)))
  subst he
  refine wpN_bind (wpN_any (wpAny_enterFrame (hlim.keeps x.toInCall.keep) hroom (?_ : wpN _ _ _ _ _)))
  have h' := h s' (by unfold callEnvC; rw [hc]; exact x)
  unfold callEnvC at h'
  rw [hc] at h'
  exact wpN_pure (And.intro rfl (codeN_func h'))
end
end Mine

end
/- N2 -/
section
open PySem PySem.W PyProof.Rows
open PySem.Sem (wp)
namespace Mine

theorem starEach_cons {e : Expr} {r : List Expr} {env : Env} (h : isStar e = false) : starEach (e :: r) env = (false, eval e env) :: starEach r env := by
  cases e <;> first | rfl | (exact absurd h (by simp [isStar]))
theorem starEach_plain {env : Env} : ∀ {l : List Expr}, l.any isStar = false → (starEach l env).any (·.1) = false
  | [], _ => rfl
  | e :: r, h => by
    rw [List.any_cons, Bool.or_eq_false_iff] at h
    rw [starEach_cons h.1]
    show (false || (starEach r env).any (·.1)) = false
    rw [starEach_plain h.2]; rfl
theorem backTo_plain {pos : Pos} : ∀ {l : List (Bool × Sem Value)}, l.any (·.1) = false → backTo pos l = l
  | [], _ => rfl
  | (b, t) :: r, h => by
    rw [List.any_cons, Bool.or_eq_false_iff] at h
    obtain ⟨h1, h2⟩ := h
    have h1 : b = false := h1
    subst h1
    show (false, t) :: backTo pos r = _
    rw [backTo_plain h2]

section
variable {α : Type} {M : Model} {A : Around} {s : Shared} {env : Env}

theorem N_spliced_nil {pos : Pos} {Q : List Value → Shared → Prop} (h : Q [] s) : wpN M A (spliced (backTo pos (starEach [] env))) Q s := wpN_pure h
theorem N_spliced_cons {pos : Pos} {e : Expr} {r : List Expr} {Q : List Value → Shared → Prop} (he : isStar e = false)
    (h : wpN M A (eval e env) (fun v s₁ => wpN M A (spliced (backTo pos (starEach r env))) (fun vs s₂ => Q (v :: vs) s₂) s₁) s) : wpN M A (spliced (backTo pos (starEach (e :: r) env))) Q s := by
  rw [starEach_cons he]
  show wpN M A (spliced ((false, eval e env) :: backTo pos (starEach r env))) Q s
  rw [spliced]
  refine wpN_bind (wpN_mono h fun v s₁ h₁ => ?_)
  simp only [Bool.false_eq_true, if_false]
  exact wpN_bind (wpN_pure (wpN_bind (wpN_holding (wpN_mono h₁ fun vs s₂ h₂ => wpN_pure h₂))))

theorem N_BinOp {l op r pos} {Q : Value → Shared → Prop}
    (h : wpN M A (eval l env) (fun a s₁ => wpN M A (eval r env) (fun b s₂ => wpN M A (binaryOp op a b) Q s₂) s₁) s) : wpN M A (eval (.BinOp l op r pos) env) Q s := by
  rw [eval_BinOp]
  exact wpN_bind (wpN_mono h fun a s₁ h₁ => wpN_bind (wpN_holding (wpN_mono h₁ fun b s₂ h₂ => wpN_bind (wpN_standAt (wpN_operate h₂)))))
theorem N_UnaryOp {op x pos} {Q : Value → Shared → Prop} (h : wpN M A (eval x env) (fun v s₁ => wpN M A (unaryOp op v) Q s₁) s) : wpN M A (eval (.UnaryOp op x pos) env) Q s := by
  rw [eval_UnaryOp]
  exact wpN_bind (wpN_mono h fun v s₁ h₁ => wpN_bind (wpN_standAt (wpN_holding h₁)))
theorem N_IfExp {test body orelse pos} {Q : Value → Shared → Prop}
    (h : wpN M A (isTrue test env (eval test env)) (fun c s₂ => match c with | true => wpN M A (eval body env) Q s₂ | false => wpN M A (eval orelse env) Q s₂) s) : wpN M A (eval (.IfExp test body orelse pos) env) Q s := by
  rw [eval_IfExp]
  refine wpN_bind (wpN_mono h fun c s₂ h₂ => ?_)
  cases c <;> exact h₂
theorem N_Tuple {es k pos} {Q : Value → Shared → Prop} (h : wpN M A (spliced (backTo pos (starEach es env))) (fun vs s₁ => wpN M A (newTuple vs) Q s₁) s) : wpN M A (eval (.Tuple es k pos) env) Q s :=
  show wpN M A (do standAt pos; newTuple (← spliced (backTo pos (starEach es env)))) Q s from wpN_bind (wpN_standAt (wpN_bind h))
theorem N_List {es pos} {Q : Value → Shared → Prop} (h : wpN M A (spliced (backTo pos (starEach es env))) (fun vs s₁ => wpN M A (newList vs) Q s₁) s) : wpN M A (eval (.List es pos) env) Q s :=
  show wpN M A (do standAt pos; newList (← spliced (backTo pos (starEach es env)))) Q s from wpN_bind (wpN_standAt (wpN_bind h))

theorem attributeBase_plain {o : Expr} {attr : Str} {whole : Sem Value} (h : noSup o = true) : attributeBase o attr env whole = whole := by
  unfold noSup at h
  split at h
  · cases h
  · rename_i hn
    unfold attributeBase
    split
    · rename_i id p pos
      exact absurd rfl (hn _ _ _)
    · rfl
theorem N_Attribute {prog : Program} {w : World} {o : Expr} {attr : Str} {pos : Pos} {Q : Value → Shared → Prop} (hn : noSup o = true)
    (h : wpN (model prog w) A (eval o env) (fun v s₁ => wpN (model prog w) A (PySem.getAttr v attr true) Q s₁) s) : wpN (model prog w) A (eval (.Attribute o attr pos) env) Q s := by
  have e : eval (.Attribute o attr pos) env = (do
      let v ← attributeBase o attr env (eval o env)
      standAt pos.atName
      let r ← holding [v] (PySem.getAttr v attr true)
      letTemporaryGo o v r
      pure r) := rfl
  rw [e, attributeBase_plain hn]
  exact wpN_bind (wpN_mono h fun v s₁ h₁ => wpN_bind (wpN_standAt (wpN_bind (wpN_holding (wpN_mono h₁ fun r s₂ h₂ => wpN_bind (wpN_any (wpAny_letTemporaryGo (wpN_pure h₂))))))))

theorem subscripted_get {M : Model} {A : Around} {s : Shared} {slice : Expr} {o i : Value} {Q : Value → Shared → Prop} (h : wpN M A (PySem.getItem o i) Q s) : wpN M A (subscripted slice false o i) Q s := by
  unfold subscripted
  split <;> first | exact wpN_operate h | contradiction
theorem N_Subscript {prog : Program} {w : World} {o i : Expr} {pos : Pos} {Q : Value → Shared → Prop}
    (h : wpN (model prog w) A (eval o env) (fun ov s₁ => wpN (model prog w) A (eval i env) (fun iv s₂ => wpN (model prog w) A (getitemInPython ov) (fun b s₃ => b = false ∧ wpN (model prog w) A (PySem.getItem ov iv) Q s₃) s₂) s₁) s) :
    wpN (model prog w) A (eval (.Subscript o i pos) env) Q s := by
  have e : eval (.Subscript o i pos) env = (do
      let ov ← eval o env
      let iv ← holding [ov] (eval i env)
      standAt pos
      let r ← subscripted i (← getitemInPython ov) ov iv
      letTemporaryGo o ov r
      pure r) := rfl
  rw [e]
  refine wpN_bind (wpN_mono h fun ov s₁ h₁ => wpN_bind (wpN_holding (wpN_mono h₁ fun iv s₂ h₂ => wpN_bind (wpN_standAt (wpN_bind (wpN_mono h₂ fun b s₃ h₃ => ?_))))))
  obtain ⟨rfl, h₃⟩ := h₃
  exact wpN_bind (wpN_mono (subscripted_get h₃) fun r s₄ h₄ => wpN_bind (wpN_any (wpAny_letTemporaryGo (wpN_pure h₄))))

noncomputable def optE (M : Model) (A : Around) (env : Env) (Q : Value → Shared → Prop) (s : Shared) : Option Expr → Prop
  | some e => wpN M A (eval e env) Q s
  | none => Q .none s
theorem N_opt {e : Option Expr} {Q : Value → Shared → Prop} (h : optE M A env Q s e) : wpN M A (valueOrNone (evalOpt e env)) Q s := by
  cases e with
  | none => exact wpN_pure h
  | some e => exact h
theorem N_Slice {lo hi : Option Expr} {pos : Pos} {Q : Value → Shared → Prop}
    (h : optE M A env (fun l s₁ => optE M A env (fun u s₂ => wpN M A (newFields "slice" [l, u, .none]) Q s₂) s₁ hi) s lo) : wpN M A (eval (.Slice lo hi none pos) env) Q s := by
  have e : eval (.Slice lo hi none pos) env = (do
      let l ← valueOrNone (evalOpt lo env)
      let u ← holding [l] (valueOrNone (evalOpt hi env))
      let s ← holding [l, u] (valueOrNone (evalOpt none env))
      newFields "slice" [l, u, s]) := rfl
  rw [e]
  refine wpN_bind (wpN_mono (N_opt h) fun l s₁ h₁ => wpN_bind (wpN_holding (wpN_mono (N_opt h₁) fun u s₂ h₂ => wpN_bind (wpN_holding ?_))))
  exact wpN_pure (a := Value.none) h₂

theorem behind_plain {op : CmpOp} {e : Expr} (h : isSetE e = false) : behindInMarks op e = false := by
  cases e <;> first | rfl | (exact absurd h (by simp [isSetE]))
theorem marked_plain : ∀ {ops : List CmpOp} {es : List Expr} {ts : List (Sem Value)}, es.any isSetE = false → markedEach ops es ts = ts
  | [], _, _, _ => rfl
  | [op], [], _, _ => rfl
  | [op], [e], [], _ => rfl
  | [op], [e], [t], h => by
    have : isSetE e = false := by simpa using h
    show [markedBehindIn op e t] = [t]
    rw [markedBehindIn_of_false (behind_plain this)]
  | [op], [e], t :: u :: ts, h => by
    show t :: markedEach [] [] (u :: ts) = _
    rfl
  | [op], e :: f :: es, [], h => rfl
  | [op], e :: f :: es, t :: ts, h => by
    show t :: markedEach [] (f :: es) ts = _
    rfl
  | op :: op' :: ops, [], ts, _ => rfl
  | op :: op' :: ops, e :: es, [], _ => rfl
  | op :: op' :: ops, e :: es, t :: ts, h => by
    rw [List.any_cons, Bool.or_eq_false_iff] at h
    show t :: markedEach (op' :: ops) es ts = _
    rw [marked_plain h.2]
theorem N_Compare {l : Expr} {ops : List CmpOp} {rs : List Expr} {pos : Pos} {Q : Value → Shared → Prop} (hs : rs.any isSetE = false)
    (h : wpN M A (eval l env) (fun a s₁ => wpN M A (compareChain pos a ops (evalEach rs env)) Q s₁) s) : wpN M A (eval (.Compare l ops rs pos) env) Q s := by
  show wpN M A (do compareChain pos (← eval l env) ops (markedEach ops rs (evalEach rs env))) Q s
  rw [marked_plain hs]
  exact wpN_bind h
theorem N_chain1 {a : Value} {op : CmpOp} {r : Expr} {pos : Pos} {Q : Value → Shared → Prop} (h : wpN M A (eval r env) (fun b s₁ => wpN M A (compareOp op a b) Q s₁) s) : wpN M A (compareChain pos a [op] (evalEach [r] env)) Q s := by
  show wpN M A (do let rv ← holding [a] (eval r env); standAt pos; operate [a, rv] (compareOp op a rv)) Q s
  exact wpN_bind (wpN_holding (wpN_mono h fun b s₁ h₁ => wpN_bind (wpN_standAt (wpN_operate h₁))))
theorem N_chain2 {a : Value} {op op' : CmpOp} {ops : List CmpOp} {r r' : Expr} {rs : List Expr} {pos : Pos} {Q : Value → Shared → Prop}
    (h : wpN M A (eval r env) (fun b s₁ => wpN M A (compareOp op a b) (fun c s₂ => wpN M A (truthy c) (fun t s₃ => match t with | true => wpN M A (compareChain pos b (op' :: ops) (evalEach (r' :: rs) env)) Q s₃ | false => Q c s₃) s₂) s₁) s) :
    wpN M A (compareChain pos a (op :: op' :: ops) (evalEach (r :: r' :: rs) env)) Q s := by
  show wpN M A (do
    let rv ← holding [a] (eval r env)
    standAt pos
    let c ← holding [a, rv] (compareOp op a rv)
    release [a, rv] [c]
    if ← holding [c, rv] (truthy c) then compareChain pos rv (op' :: ops) (evalEach (r' :: rs) env) else pure c) Q s
  refine wpN_bind (wpN_holding (wpN_mono h fun b s₁ h₁ => wpN_bind (wpN_standAt (wpN_bind (wpN_holding (wpN_mono h₁ fun c s₂ h₂ => wpN_bind (wpN_release (wpN_bind (wpN_holding (wpN_mono h₂ fun t s₃ h₃ => ?_))))))))))
  cases t with
  | true => exact h₃
  | false => exact wpN_pure h₃
theorem N_testCompare {l : Expr} {ops : List CmpOp} {rs : List Expr} {pos : Pos} {whole : Sem Value} {Q : Bool → Shared → Prop} (hs : rs.any isSetE = false)
    (h : wpN M A (eval l env) (fun a s₁ => wpN M A (testChain pos a ops (evalEach rs env)) Q s₁) s) : wpN M A (isTrue (.Compare l ops rs pos) env whole) Q s := by
  show wpN M A (do testChain pos (← eval l env) ops (markedEach ops rs (evalEach rs env))) Q s
  rw [marked_plain hs]
  exact wpN_bind h
theorem N_test1 {a : Value} {op : CmpOp} {r : Expr} {pos : Pos} {Q : Bool → Shared → Prop} (h : wpN M A (eval r env) (fun b s₁ => wpN M A (compareOp op a b) (fun c s₂ => wpN M A (truthy c) Q s₂) s₁) s) : wpN M A (testChain pos a [op] (evalEach [r] env)) Q s := by
  show wpN M A (do let rv ← holding [a] (eval r env); standAt pos; let c ← operate [a, rv] (compareOp op a rv); holding [c] (truthy c)) Q s
  exact wpN_bind (wpN_holding (wpN_mono h fun b s₁ h₁ => wpN_bind (wpN_standAt (wpN_bind (wpN_operate (wpN_mono h₁ fun c s₂ h₂ => wpN_holding h₂))))))
theorem N_test2 {a : Value} {op op' : CmpOp} {ops : List CmpOp} {r r' : Expr} {rs : List Expr} {pos : Pos} {Q : Bool → Shared → Prop}
    (h : wpN M A (eval r env) (fun b s₁ => wpN M A (compareOp op a b) (fun c s₂ => wpN M A (truthy c) (fun t s₃ => match t with | true => wpN M A (testChain pos b (op' :: ops) (evalEach (r' :: rs) env)) Q s₃ | false => Q false s₃) s₂) s₁) s) :
    wpN M A (testChain pos a (op :: op' :: ops) (evalEach (r :: r' :: rs) env)) Q s := by
  show wpN M A (do
    let rv ← holding [a] (eval r env)
    standAt pos
    let c ← holding [a, rv] (compareOp op a rv)
    release [a, rv] [c]
    if ← holding [c, rv] (truthy c) then testChain pos rv (op' :: ops) (evalEach (r' :: rs) env) else pure false) Q s
  refine wpN_bind (wpN_holding (wpN_mono h fun b s₁ h₁ => wpN_bind (wpN_standAt (wpN_bind (wpN_holding (wpN_mono h₁ fun c s₂ h₂ => wpN_bind (wpN_release (wpN_bind (wpN_holding (wpN_mono h₂ fun t s₃ h₃ => ?_))))))))))
  cases t with
  | true => exact h₃
  | false => exact wpN_pure h₃

theorem N_BoolOp1 {op e pos} {Q : Value → Shared → Prop} (h : wpN M A (eval e env) Q s) : wpN M A (eval (.BoolOp op [e] pos) env) Q s := h
theorem N_BoolOp2 {op e₁ e₂ rest pos} {Q : Value → Shared → Prop}
    (h : wpN M A (eval e₁ env) (fun v s₁ => wpN M A (truthy v) (fun c s₂ => match op, c with
      | .And, false => Q v s₂
      | .Or, true => Q v s₂
      | _, _ => wpN M A (eval (.BoolOp op (e₂ :: rest) pos) env) Q s₂) s₁) s) : wpN M A (eval (.BoolOp op (e₁ :: e₂ :: rest) pos) env) Q s := by
  show wpN M A (do
    let v ← eval e₁ env
    standAt pos
    let c ← holding [v] (truthy v)
    match op, c with
    | .And, false | .Or, true => pure v
    | _, _ => boolOp pos op (eval e₂ env :: evalEach rest env)) Q s
  refine wpN_bind (wpN_mono h fun v s₁ h₁ => wpN_bind (wpN_standAt (wpN_bind (wpN_holding (wpN_mono h₁ fun c s₂ h₂ => ?_)))))
  cases op <;> cases c <;> first | exact wpN_pure h₂ | exact h₂
theorem N_testNot {x pos whole} {Q : Bool → Shared → Prop} (h : wpN M A (isTrue x env (eval x env)) (fun c s' => Q (!c) s') s) : wpN M A (isTrue (.UnaryOp .Not x pos) env whole) Q s := by
  show wpN M A (do return !(← isTrue x env (eval x env))) Q s
  exact wpN_bind (wpN_mono h fun c s' h' => wpN_pure h')
theorem N_testBool {op es pos whole} {Q : Bool → Shared → Prop} (h : wpN M A (allTrue op es env) Q s) : wpN M A (isTrue (.BoolOp op es pos) env whole) Q s := h
theorem N_allNil {op} {Q : Bool → Shared → Prop} (h : Q (match op with | .And => true | .Or => false) s) : wpN M A (allTrue op [] env) Q s := by
  cases op <;> exact wpN_pure h
theorem N_allCons {op x rest} {Q : Bool → Shared → Prop} (h : wpN M A (isTrue x env (eval x env)) (fun c s' => match op, c with
      | .And, false => Q false s'
      | .Or, true => Q true s'
      | _, _ => wpN M A (allTrue op rest env) Q s') s) : wpN M A (allTrue op (x :: rest) env) Q s := by
  show wpN M A (do
    match op, ← isTrue x env (eval x env) with
    | .And, false => pure false
    | .Or, true => pure true
    | _, _ => allTrue op rest env) Q s
  refine wpN_bind (wpN_mono h fun c s' h' => ?_)
  cases op <;> cases c <;> first | exact wpN_pure h' | exact h'
/-- the expressions whose truth is asked of their value -/
noncomputable def testsPlain : Expr → Bool
  | .UnaryOp .Not _ _ => false
  | .BoolOp .. => false
  | .IfExp .. => false
  | .Compare .. => false
  | _ => true
theorem isTrue_eq {e : Expr} {whole : Sem Value} (h : testsPlain e = true) : isTrue e env whole = (do let v ← whole; standAt e.pos; holding [v] (truthy v)) := by
  cases e with
  | UnaryOp op x pos => cases op <;> first | rfl | (exact absurd h (by simp [testsPlain]))
  | _ => first | rfl | (exact absurd h (by simp [testsPlain]))
theorem N_testPlain {e : Expr} {whole : Sem Value} {Q : Bool → Shared → Prop} (he : testsPlain e = true) (h : wpN M A whole (fun v s₁ => wpN M A (truthy v) Q s₁) s) : wpN M A (isTrue e env whole) Q s := by
  rw [isTrue_eq he]
  exact wpN_bind (wpN_mono h fun v s₁ h₁ => wpN_bind (wpN_standAt (wpN_holding h₁)))

theorem N_evalArgs {f : Value} {pos : Pos} {es : List Expr} {Q : Args → Shared → Prop} (hs : es.any isStar = false)
    (h : wpN M A (spliced (backTo pos (starEach es env))) (fun vs s' => Q ⟨vs, []⟩ s') s) : wpN M A (evalArgs f true (backTo pos (starEach es env)) []) Q s := by
  have hp : (backTo pos (starEach es env)).any (·.1) = false := by rw [backTo_plain (starEach_plain hs)]; exact starEach_plain hs
  generalize backTo pos (starEach es env) = l at h hp
  unfold evalArgs
  have fin : wpN M A (spliced l >>= fun vs => holding (vs ++ []) (do return ⟨← (pure vs : Sem (List Value)), []⟩ : Sem Args)) Q s :=
    wpN_bind (wpN_mono h fun vs s' h' => wpN_holding (wpN_bind (wpN_pure (wpN_pure h'))))
  cases l with
  | nil => exact fin
  | cons a r =>
    obtain ⟨b, x⟩ := a
    have hb : b = false := by rw [List.any_cons, Bool.or_eq_false_iff] at hp; exact hp.1
    subst hb
    exact fin

theorem N_callWith {pos : Pos} {f : Value} {first : List Value} {es : List Expr} {Q : Value → Shared → Prop} (hs : es.any isStar = false)
    (h : wpN M A (spliced (backTo pos (starEach es env))) (fun vs s₁ => (∃ k, (k = Keeper.frame ∨ k = Keeper.machine ∨ k = Keeper.boundFrame) ∧ Looks M s₁.heap (keeperOf f) k) ∧ wpN M A (call f (first ++ vs)) Q s₁) s) :
    wpN M A (callWith pos f first (backTo pos (starEach es env)) []) Q s := by
  have hp : (backTo pos (starEach es env)).any (·.1) = false := by rw [backTo_plain (starEach_plain hs)]; exact starEach_plain hs
  unfold callWith
  have h' : wpN M A (evalArgs f true (backTo pos (starEach es env)) []) (fun a s₁ => a.kw = [] ∧ (∃ k, (k = Keeper.frame ∨ k = Keeper.machine ∨ k = Keeper.boundFrame) ∧ Looks M s₁.heap (keeperOf f) k) ∧ wpN M A (call f (first ++ a.pos)) Q s₁) s :=
    N_evalArgs hs (wpN_mono h fun vs s' h' => ⟨rfl, h'⟩)
  refine wpN_bind (wpN_holding (wpN_mono h' fun a s₁ h₁ => wpN_bind (wpN_standAt ?_)))
  obtain ⟨ps, kw⟩ := a
  obtain ⟨hkw, ⟨k, hk', L⟩, h₁⟩ := h₁
  have hkw : kw = [] := hkw
  subst hkw
  simp only [hp, List.any_nil, Bool.or_false]
  refine wpN_bind (wpN_any (L.here (?_ : wpN _ _ _ _ _)))
  have tail : ∀ {t : Sem Value}, wpN M A t Q s₁ → wpN M A (t >>= fun r => holding [r] point >>= fun _ => pure r) Q s₁ :=
    fun ht => wpN_bind (wpN_mono ht fun r s₂ hr => wpN_bind (wpN_holding (wpN_point (wpN_pure hr))))
  have marked (mk : Value) : wpN M A (callMarked mk f (first ++ ps) []) Q s₁ := by unfold callMarked; exact wpN_keep h₁
  rcases hk' with rfl | rfl | rfl <;> dsimp only <;> first | exact tail h₁ | (split <;> first | exact tail h₁ | exact tail (marked _))
end
end Mine

end
/- N3 -/
section
open PySem PySem.W PyProof.Rows
open PySem.Sem (wp)
namespace Mine

theorem assignEach_cons {e : Expr} {r : List Expr} {env : Env} (h : isStar e = false) : assignEach (e :: r) env = (false, assign e env) :: assignEach r env := by
  cases e <;> first | rfl | (exact absurd h (by simp [isStar]))
theorem assignEach_plain {env : Env} : ∀ {l : List Expr}, l.any isStar = false → assignEach l env = l.map fun t => (false, assign t env)
  | [], _ => rfl
  | e :: r, h => by
    rw [List.any_cons, Bool.or_eq_false_iff] at h
    rw [assignEach_cons h.1, assignEach_plain h.2]; rfl
theorem swapsWith_plain {e : Expr} {t : Option Expr} {n : Nat} {env : Env} (h : isComp e = false) : swapsWith e t n env = pure false := by
  cases e <;> first | rfl | (exact absurd h (by simp [isComp]))

section
variable {M : Model} {A : Around} {s : Shared} {env : Env}

theorem N_Return {e : Expr} {pos : Pos} {Q : Flow → Shared → Prop} (h : wpN M A (eval e env) (fun v => Q (.ret v)) s) : wpN M A (exec (.Return (some e) pos) env) Q s := by
  rw [exec_Return_some]
  exact wpN_bind (wpN_standAt (wpN_bind (wpN_mono h fun v s' h' => wpN_pure h')))
theorem N_Return0 {pos : Pos} {Q : Flow → Shared → Prop} (h : Q (.ret .none) s) : wpN M A (exec (.Return none pos) env) Q s := fun _ _ _ _ => h
theorem N_If {t : Expr} {b o : List Stmt} {pos : Pos} {Q : Flow → Shared → Prop}
    (h : wpN M A (isTrue t env (eval t env)) (fun c s₂ => match c with | true => wpN M A (execs b env) Q s₂ | false => wpN M A (execs o env) Q s₂) s) : wpN M A (exec (.If t b o pos) env) Q s := by
  rw [exec_If]
  refine wpN_bind (wpN_standAt (wpN_bind (wpN_mono h fun c s₂ h₂ => ?_)))
  cases c <;> exact h₂
theorem N_nil {Q : Flow → Shared → Prop} (h : Q .next s) : wpN M A (execs [] env) Q s := fun _ _ _ _ => h
theorem N_cons {st : Stmt} {rest : List Stmt} {Q : Flow → Shared → Prop} (h : wpN M A (exec st env) (fun f s' => match f with | .next => wpN M A (execs rest env) Q s' | f => Q f s') s) : wpN M A (execs (st :: rest) env) Q s := by
  rw [execs_cons]
  refine wpN_bind (wpN_mono h fun f s' h' => ?_)
  cases f <;> first | exact h' | exact wpN_pure h'
theorem N_Expr {e : Expr} {pos : Pos} {Q : Flow → Shared → Prop} (hi : interactive env = false) (hs : isComp e = false)
    (h : wpN M A (eval e env) (fun v s' => (∀ a, v ≠ .ref a) ∧ Q .next s') s) : wpN M A (exec (.Expr e pos) env) Q s := by
  rw [exec_Expr env e pos hi (swapsWith_plain hs)]
  refine wpN_bind (wpN_standAt (wpN_bind (wpN_mono h fun v s' h' => ?_)))
  rw [dropValue_plain h'.1]
  exact wpN_pure h'.2
/-- how an assignment's stores run -/
noncomputable def storesN (M : Model) (A : Around) (env : Env) (t : Expr) (v : Value) (Q : Flow → Shared → Prop) : Option (List Str) → Shared → Prop
  | none, s => wpN M A (assign t env v) (fun _ => Q .next) s
  | some names, s => wpN M A (unpackItems v names.length none) (fun items s₁ => wpN M A (assignInOrder (names.reverse.map fun n => bindName env n) items.reverse) (fun _ => Q .next) s₁) s
theorem N_Assign {t e : Expr} {pos : Pos} {Q : Flow → Shared → Prop} (hs : isComp e = false) (ht : isStar t = false)
    (h : wpN M A (eval e env) (fun v s₁ => wpN M A (swappedStores [t] e env) (storesN M A env t v Q) s₁) s) : wpN M A (exec (.Assign [t] e pos) env) Q s := by
  have e0 : exec (.Assign [t] e pos) env = (do
      standAt pos
      if ← swapsWith e (some t) pos.line env then do
        evalThenUse e env fun v => assignAll v ((assignEach [t] env).map (·.2))
        pure .next
      else do
        let v ← eval e env
        assignStores env v (← swappedStores [t] e env) ((assignEach [t] env).map (·.2))) := rfl
  rw [e0, swapsWith_plain hs, assignEach_cons ht]
  refine wpN_bind (wpN_standAt (wpN_bind (wpN_pure ?_)))
  refine wpN_bind (wpN_mono h fun v s₁ h₁ => wpN_bind (wpN_mono h₁ fun sw s₂ h₂ => ?_))
  cases sw with
  | none =>
    show wpN M A (do assignAll v [assign t env]; pure .next) Q s₂
    exact wpN_bind (wpN_mono h₂ fun _ s₃ h₃ => wpN_pure h₃)
  | some names =>
    show wpN M A (do rule "assign.swapped-stores"; let items ← unpackItems v names.length none; assignInOrder (names.reverse.map fun n => bindName env n) items.reverse; pure .next) Q s₂
    exact wpN_bind (wpN_any (wpAny_rule (wpN_bind (wpN_mono h₂ fun items s₃ h₃ => wpN_bind (wpN_mono h₃ fun _ s₄ h₄ => wpN_pure h₄)))))
theorem N_asName {x : Str} {p : Pos} {v : Value} {Q : Unit → Shared → Prop} (h : wpN M A (storeName env x v) Q s) : wpN M A (assign (.Name x p) env v) Q s :=
  show wpN M A (do standAt p; bindName env x v) Q s from wpN_bind (wpN_standAt (wpN_bindName h))
theorem N_asAttr {o : Expr} {a : Str} {p : Pos} {v : Value} {Q : Unit → Shared → Prop} (h : wpN M A (eval o env) (fun ov s₁ => wpN M A (PySem.setAttr ov a v) Q s₁) s) : wpN M A (assign (.Attribute o a p) env v) Q s := by
  show wpN M A (do
    let ov ← holding [v] (eval o env)
    standAt p.atName
    holding [v, ov] (PySem.setAttr ov a v)
    release [v, ov] []) Q s
  exact wpN_bind (wpN_holding (wpN_mono h fun ov s₁ h₁ => wpN_bind (wpN_standAt (wpN_bind (wpN_holding (wpN_mono h₁ fun _ s₂ h₂ => wpN_release h₂))))))
noncomputable def relOf (i : Expr) (v ov iv : Value) : List Value := match i with
  | .Slice _ _ none _ => [iv, v, ov]
  | _ => [v, ov, iv]
theorem N_asItem {o i : Expr} {p : Pos} {v : Value} {Q : Unit → Shared → Prop} (h : wpN M A (eval o env) (fun ov s₁ => wpN M A (eval i env) (fun iv s₂ => wpN M A (PySem.setItem ov iv v) Q s₂) s₁) s) : wpN M A (assign (.Subscript o i p) env v) Q s := by
  show wpN M A (do
    let ov ← holding [v] (eval o env)
    let iv ← holding [v, ov] (eval i env)
    standAt p
    holding [v, ov, iv] (PySem.setItem ov iv v)
    release (relOf i v ov iv) []) Q s
  exact wpN_bind (wpN_holding (wpN_mono h fun ov s₁ h₁ => wpN_bind (wpN_holding (wpN_mono h₁ fun iv s₂ h₂ => wpN_bind (wpN_standAt (wpN_bind (wpN_holding (wpN_mono h₂ fun _ s₃ h₃ => wpN_release h₃))))))))
theorem N_asTuple {ts : List Expr} {k : Nat} {p : Pos} {v : Value} {Q : Unit → Shared → Prop} (hs : ts.any isStar = false)
    (h : wpN M A (unpackItems v ts.length none) (fun items s₁ => wpN M A (assignInOrder (ts.map fun t => assign t env) items) Q s₁) s) : wpN M A (assign (.Tuple ts k p) env v) Q s := by
  show wpN M A (do standAt p; unpack v (assignEach ts env)) Q s
  rw [assignEach_plain hs]
  refine wpN_bind (wpN_standAt ?_)
  unfold unpack
  have e1 : (ts.map fun t => ((false, assign t env) : Bool × (Value → Sem Unit))).findIdx? (·.1) = none := by
    rw [List.findIdx?_eq_none_iff]; intro x hx; obtain ⟨t, _, rfl⟩ := List.mem_map.mp hx; rfl
  have e2 : (ts.map fun t => ((false, assign t env) : Bool × (Value → Sem Unit))).map (·.2) = ts.map fun t => assign t env := by rw [List.map_map]; rfl
  rw [e1, e2, List.length_map]
  exact wpN_bind (wpN_holding h)
theorem N_order_nil {l : List Value} {Q : Unit → Shared → Prop} (h : Q () s) : wpN M A (assignInOrder [] l) Q s := wpN_pure h
theorem N_order_cons {t : Value → Sem Unit} {ts : List (Value → Sem Unit)} {x : Value} {xs : List Value} {Q : Unit → Shared → Prop} (h : wpN M A (t x) (fun _ s₁ => wpN M A (assignInOrder ts xs) Q s₁) s) : wpN M A (assignInOrder (t :: ts) (x :: xs)) Q s :=
  show wpN M A (do holding xs (t x); assignInOrder ts xs) Q s from wpN_bind (wpN_holding h)
theorem N_Try {body : List Stmt} {hs : List ExceptHandler} {pos : Pos} {Q : Flow → Shared → Prop} (h : wpN M A (execs body env) Q s) : wpN M A (exec (.Try body hs [] [] pos) env) Q s := by
  show wpN M A (do standAt pos; tryStmt false (execs body env) hs (execs [] env) [] env) Q s
  refine wpN_bind (wpN_standAt ?_)
  unfold tryStmt
  simp only [List.isEmpty_nil, if_true]
  refine wpN_bind (wpN_attempt (wpN_mono h fun f s' h' => ?_))
  cases f <;> exact wpN_pure h'
end

section
variable {prog : Program} {w : World} {A : Around} {s : Shared} {env : Env}

theorem N_For {t it : Expr} {body : List Stmt} {pos : Pos} {Q : Flow → Shared → Prop} (hi : isSetE it = false)
    (h : wpN (model prog w) A (eval it env) (fun x s₁ => wpN (model prog w) A (pyIter x) (fun i s₂ => codeN (model prog w) (A.mark none) (.forLoop t i body [] env) Q s₂) s₁) s) : wpN (model prog w) A (exec (.For t it body [] pos) env) Q s := by
  show wpN _ A (do
    standAt pos
    let x ← foldedSetIterable it env (← eval it env)
    standAt it.pos
    runOwn (.forLoop t (← holding [x] (pyIter x)) body [] env) env) Q s
  refine wpN_bind (wpN_standAt (wpN_bind (wpN_mono h fun x s₁ h₁ => ?_)))
  have e : foldedSetIterable it env x = pure x := by
    cases it <;> first | rfl | (exact absurd hi (by simp [isSetE]))
  rw [e]
  exact wpN_bind (wpN_pure (wpN_bind (wpN_standAt (wpN_bind (wpN_holding (wpN_mono h₁ fun i s₂ h₂ => wpN_runOwn h₂))))))

/-- a tuple that the iterator hands out is its own: not with these iterators -/
noncomputable def plainIt (o : Obj) : Bool := match o.cls with
  | Value.type n => !(["enumerate", "zip", "dict_itemiterator", "dict_reverseitemiterator", "odict_iterator", "itertools.zip_longest", "itertools.pairwise"].contains n)
  | _ => true
theorem N_letOwned {t : Expr} {r : Addr} {v : Value} {o : Obj} {Q : Unit → Shared → Prop} (ho : s.heap.get? r = some o) (hp : plainIt o = true) (h : Q () s) : wpN (model prog w) A (letOwnedTupleGo t (.ref r) v) Q s := by
  refine wpN_any ?_
  unfold letOwnedTupleGo
  have key : wpAny (model prog w) A (match (Value.ref r, v) with
    | (.ref r, .ref a) => do
      let o ← load r
      match o.cls, o.data with
      | .type n, .fields vs =>
        if ["enumerate", "zip", "dict_itemiterator", "dict_reverseitemiterator", "odict_iterator", "itertools.zip_longest", "itertools.pairwise"].contains n && vs[0]? == some (rawInt a) then
          rule "for.unpacks-the-owned-tuple"
          updateField r 0 .none
      | _, _ => pure ()
    | _ => pure ()) Q noE s := by
    cases v <;> try exact wpAny_pure h
    rename_i a
    refine wpAny_bind (wpAny_load ho ?_)
    split
    · rename_i n vs e1 e2
      unfold plainIt at hp
      rw [e1] at hp
      simp only [Bool.not_eq_true'] at hp
      rw [hp]
      exact wpAny_pure h
    · exact wpAny_pure h
  split
  · exact key
  · exact key
  · exact wpAny_pure h

theorem codeN_block {env : Env} {R : Flow → Shared → Prop} (h : R .next s) : codeN (model prog w) A (.block [] env) R s := by
  refine codeN_tree rfl ?_
  show wpN _ A (do return Fin.done (← (execs [] env).onRaise (fun x => do noteFrame x env; theTreesLotGoes x))) _ s
  exact wpN_bind (wpN_onRaise (N_nil (wpN_pure h)))

/-- one turn of a for -/
theorem codeN_forNext {t : Expr} {r : Addr} {body : List Stmt} {R : Flow → Shared → Prop}
    (h : wpN (model prog w) A (pyNext (.ref r)) (fun x s₁ => ∃ v o, x = some v ∧ s₁.heap.get? r = some o ∧ plainIt o = true ∧ wpN (model prog w) A (assign t env v) (fun _ s₂ => wpN (model prog w) A (execs body env) (fun f s₃ => match f with
      | .next => codeN (model prog w) A (.forLoop t (.ref r) body [] env) R s₃
      | .cont => codeN (model prog w) A (.forLoop t (.ref r) body [] env) R s₃
      | .brk => R .next s₃
      | .ret v => R (.ret v) s₃) s₂) s₁) s) : codeN (model prog w) A (.forLoop t (.ref r) body [] env) R s := by
  refine codeN_tree rfl ?_
  show wpN _ A ((forTurn t (.ref r) body [] env).onRaise _) _ s
  refine wpN_onRaise ?_
  unfold forTurn
  refine wpN_bind (wpN_standAt (wpN_bind (wpN_onRaise (wpN_mono h fun x s₁ h₁ => ?_))))
  obtain ⟨v, o, rfl, ho, hp, h₁⟩ := h₁
  refine wpN_bind (N_letOwned ho hp (wpN_bind (wpN_mono h₁ fun _ s₂ h₂ => wpN_bind (wpN_mono h₂ fun f s₃ h₃ => ?_))))
  cases f with
  | next => exact wpN_pure ⟨rfl, h₃⟩
  | cont => exact wpN_pure ⟨rfl, h₃⟩
  | brk => exact wpN_pure h₃
  | ret v => exact wpN_pure h₃
theorem codeN_forEnd {t : Expr} {r : Addr} {body : List Stmt} {R : Flow → Shared → Prop}
    (h : wpN (model prog w) A (pyNext (.ref r)) (fun x s₁ => x = none ∧ R .next s₁) s) : codeN (model prog w) A (.forLoop t (.ref r) body [] env) R s := by
  refine codeN_tree rfl ?_
  show wpN _ A ((forTurn t (.ref r) body [] env).onRaise _) _ s
  refine wpN_onRaise ?_
  unfold forTurn
  refine wpN_bind (wpN_standAt (wpN_bind (wpN_onRaise (wpN_mono h fun x s₁ h₁ => ?_))))
  obtain ⟨rfl, h₁⟩ := h₁
  exact wpN_pure ⟨rfl, codeN_block h₁⟩

theorem N_CallMeth {o : Expr} {name : Str} {apos pos : Pos} {es : List Expr} {Q : Value → Shared → Prop} (hn : noSup o = true) (hs : es.any isStar = false) (hl : es.length < 30) (hline : apos.endLine = pos.line)
    (h : wpN (model prog w) A (eval o env) (fun ov s₁ => wpN (model prog w) A (getMethod ov name (do return (← importBound o env).getD true)) (fun ff s₂ => wpN (model prog w) A (callWith pos ff.1 ff.2 (backTo pos (starEach es env)) []) Q s₂) s₁) s) :
    wpN (model prog w) A (eval (.Call (.Attribute o name apos) es [] pos) env) Q s := by
  have e : eval (.Call (.Attribute o name apos) es [] pos) env = (do
    let ov ← attributeBase o name env (eval o env)
    standAt apos.atName
    methodCall o name apos pos env ov (es.length + 0) (backTo pos (starEach es env)) []) := rfl
  rw [e, attributeBase_plain hn]
  refine wpN_bind (wpN_mono h fun ov s₁ h₁ => wpN_bind (wpN_standAt ?_))
  have hp : (backTo pos (starEach es env)).any (·.1) = false := by rw [backTo_plain (starEach_plain hs)]; exact starEach_plain hs
  have hform : methodCallForm (es.length + 0) (backTo pos (starEach es env)) [] = true := by
    unfold methodCallForm
    have : (backTo pos (starEach es env)).all (fun x => !x.1) = true := by
      rw [List.all_eq_true]
      intro x hx
      have := List.any_eq_false.mp hp x hx
      simpa using this
    rw [this]
    simp [hl]
  have hpos : methodCallPos true o env apos pos = pure pos := by unfold methodCallPos; simp [hline]
  unfold methodCall
  rw [hform]
  refine wpN_bind (wpN_holding (wpN_mono h₁ fun ff s₂ h₂ => ?_))
  rw [hpos]
  exact wpN_bind (wpN_pure h₂)
theorem N_Call {f : Expr} {pos : Pos} {es : List Expr} {Q : Value → Shared → Prop} (hf : isAttrE f = false)
    (h : wpN (model prog w) A (eval f env) (fun fv s₁ => wpN (model prog w) A (callWith pos fv [] (backTo pos (starEach es env)) []) Q s₁) s) : wpN (model prog w) A (eval (.Call f es [] pos) env) Q s := by
  have e : eval (.Call f es [] pos) env = (do callWith pos (← eval f env) [] (backTo pos (starEach es env)) []) := by
    cases f <;> first | rfl | (exact absurd hf (by simp [isAttrE]))
  rw [e]
  exact wpN_bind h
end
end Mine

end
/- N4 -/
section
open PySem PySem.W PyProof.Rows
namespace Mine
section
variable {prog : Program} {w : World} {A : Around} {s : Shared} {env : Env}

theorem wpN_standIf {α : Type} {M : Model} {c : Prop} [Decidable c] {pos : Pos} {k : PUnit → Sem α} {Q : α → Shared → Prop} (h : wpN M A (k ()) Q s) : wpN M A (if c then (standAt pos >>= k) else k ()) Q s := by
  split
  · exact wpN_bind (wpN_standAt h)
  · exact h
/-- the frame of a comprehension -/
noncomputable abbrev compFrame (scope : Scope) (cl : List (Str × Addr)) (C : Addr) (env : Env) : Env := compEnvC scope cl C env

theorem N_ListComp {elt t it : Expr} {scope : Scope} {pos : Pos} {cl : List (Str × Addr)} {Q : Value → Shared → Prop} (hi : isSetE it = false) (hclos : closureFor scope env = pure cl) (hkind : scope.kind = .function) (hcell : ∀ x ∈ scope.names, x.2 ≠ .cell)
    (hnames : ∀ x ∈ scope.names, x.2 = .local → scope.names.lookup x.1 = some .local)
    (h : wpN (model prog w) A (eval it env) (fun x s₁ => wpN (model prog w) A (pyIter x) (fun i s₂ => wpN (model prog w) A (newList []) (fun acc s₃ =>
      ∀ h₁, h₁.Ns s₃.heap.objs.size (fun _ => none) → Heap.SameBut s₃.heap.objs.size (s₃.heap.push { cls := .type "dict", data := .dict #[] }) h₁ →
        codeN (model prog w) (A.mark none) (.compStart (.ListComp elt [⟨t, it, [], 0⟩] scope pos) 0 i acc (compFrame scope cl s₃.heap.objs.size env))
          (fun _ s' => ∃ m, s'.heap.Ns s₃.heap.objs.size m ∧ ∀ h', Heap.SameBut s₃.heap.objs.size s'.heap h' → Q acc { s' with heap := h' }) { s₃ with heap := h₁ }) s₂) s₁) s) :
    wpN (model prog w) A (eval (.ListComp elt [⟨t, it, [], 0⟩] scope pos) env) Q s := by
  rw [eval_ListComp]
  unfold comprehension
  rw [hclos]
  have hs : ∀ x, foldedSetIterable it env x = pure x := fun x => by
    cases it <;> first | rfl | (exact absurd hi (by simp [isSetE]))
  refine wpN_bind (wpN_mono h fun x s₁ h₁ => wpN_bind (wpN_standAt (wpN_bind (wpN_any (wpAny_of_eq (hs x) (?_ : wpN _ _ _ _ _))))))
  refine wpN_bind (wpN_holding (wpN_mono h₁ fun i s₂ h₂ => ?_))
  refine wpN_standIf ?_
  refine wpN_bind (wpN_mono h₂ fun acc s₃ h₃ => wpN_bind (wpN_pure ?_))
  refine wpN_bind (wpN_any (wpAny_newFunctionEnv hcell (by intro y hy; simp at hy) (fun h₁ hns hsb => (?_ : wpN _ _ _ _ _)) hkind))
  dsimp only
  have hv : ∀ x ∈ (scope.names.filter fun x => (x.2 == .local || x.2 == .cell) && x.1 != (".0" : Str)).reverse, x.2 = .local →
      Env.kindOf (compFrame scope cl s₃.heap.objs.size env) x.1 = some .local := fun x hx hl => lookup_relabel_local (hnames x (List.mem_filter.mp (List.mem_reverse.mp hx)).1 hl)
  refine wpN_holding (wpN_bind (wpN_attempt (wpN_holding (wpN_run (codeN_mono (h₃ h₁ hns hsb) fun f s' hr => ?_)))))
  obtain ⟨m, hn, hr⟩ := hr
  refine wpN_bind (wpN_holding (wpN_any (wpAny_comp_letGo (cenv := compFrame scope cl s₃.heap.objs.size env) hkind _ s' m hv hn fun h' m' _ hs' => (?_ : wpN _ _ _ _ _))))
  exact wpN_pure (hr h' hs')

theorem codeN_compStart {elt t it : Expr} {scope : Scope} {pos : Pos} {i acc : Value} {R : Flow → Shared → Prop}
    (h0 : codeN (model prog w) A (.compLoop (.ListComp elt [⟨t, it, [], 0⟩] scope pos) 0 i acc env) R s)
    (h : wpN (model prog w) A (pyIter i) (fun i' s' => codeN (model prog w) A (.compLoop (.ListComp elt [⟨t, it, [], 0⟩] scope pos) 0 i' acc env) R s') s) :
    codeN (model prog w) A (.compStart (.ListComp elt [⟨t, it, [], 0⟩] scope pos) 0 i acc env) R s := by
  refine codeN_tree rfl ?_
  show wpN _ A ((compStart (.ListComp elt [⟨t, it, [], 0⟩] scope pos) 0 i acc env).onRaise (fun x => do noteFrame x env; standAt theWindowsPlace)) _ s
  refine wpN_onRaise ?_
  unfold compStart
  show wpN _ _ (ask >>= _) _ s
  refine wpN_bind (wpN_any (wpAny_askSetting (?_ : wpN _ _ _ _ _)))
  split
  · first
      | exact wpN_bind (wpN_pure (wpN_pure (And.intro rfl h0)))
      | exact wpN_pure (And.intro rfl h0)
  · refine wpN_bind (wpN_any (wpAny_rule (?_ : wpN _ _ _ _ _)))
    show wpN _ _ (standAt it.pos >>= _) _ s
    exact wpN_bind (wpN_standAt (wpN_bind (wpN_mono h fun i' s' h' => wpN_pure (And.intro rfl h'))))
theorem codeN_compNext {elt t it : Expr} {scope : Scope} {pos : Pos} {I : Addr} {acc : Value} {R : Flow → Shared → Prop}
    (h : wpN (model prog w) A (pyNext (.ref I)) (fun x s₁ => ∃ v o, x = some v ∧ s₁.heap.get? I = some o ∧ plainIt o = true ∧ wpN (model prog w) A (assign t env v) (fun _ s₂ => wpN (model prog w) A (eval elt env) (fun y s₃ =>
      wpN (model prog w) A (call (.builtin "list.append") [acc, y]) (fun _ s₄ => codeN (model prog w) A (.compLoop (.ListComp elt [⟨t, it, [], 0⟩] scope pos) 0 (.ref I) acc env) R s₄) s₃) s₂) s₁) s) :
    codeN (model prog w) A (.compLoop (.ListComp elt [⟨t, it, [], 0⟩] scope pos) 0 (.ref I) acc env) R s := by
  refine codeN_tree rfl ?_
  show wpN _ A ((compTurn (.ListComp elt [⟨t, it, [], 0⟩] scope pos) 0 (.ref I) acc env).onRaise (fun x => do noteFrame x env; theTreesLotGoes x)) _ s
  refine wpN_onRaise ?_
  rw [compTurn_list1]
  refine wpN_bind (wpN_standAt (wpN_bind (wpN_mono h fun x s₁ h₁ => ?_)))
  obtain ⟨v, o, rfl, ho, hp, h₁⟩ := h₁
  refine wpN_bind (N_letOwned ho hp (wpN_bind (wpN_mono h₁ fun _ s₂ h₂ => wpN_bind (wpN_bind (wpN_mono h₂ fun y s₃ h₃ => wpN_bind (wpN_mono h₃ fun _ s₄ h₄ => ?_))))))
  exact wpN_pure (wpN_pure ⟨rfl, h₄⟩)
theorem codeN_compEnd {elt t it : Expr} {scope : Scope} {pos : Pos} {I : Addr} {acc : Value} {R : Flow → Shared → Prop}
    (h : wpN (model prog w) A (pyNext (.ref I)) (fun x s₁ => x = none ∧ R .next s₁) s) :
    codeN (model prog w) A (.compLoop (.ListComp elt [⟨t, it, [], 0⟩] scope pos) 0 (.ref I) acc env) R s := by
  refine codeN_tree rfl ?_
  show wpN _ A ((compTurn (.ListComp elt [⟨t, it, [], 0⟩] scope pos) 0 (.ref I) acc env).onRaise (fun x => do noteFrame x env; theTreesLotGoes x)) _ s
  refine wpN_onRaise ?_
  rw [compTurn_list1]
  refine wpN_bind (wpN_standAt (wpN_bind (wpN_mono h fun x s₁ h₁ => ?_)))
  obtain ⟨rfl, h₁⟩ := h₁
  exact wpN_pure h₁
end
end Mine

end
/- S3 -/
section
open PySem PySem.W PyProof.Rows
namespace Mine

/-- room for n more calls -/
structure AOk (A : Around) (n : Nat) : Prop where
  handled : A.handled = none
  depth : A.depth + 3 * n ≤ 999
  units : A.units + 10 * n ≤ 9000
theorem AOk.less {A : Around} {n m : Nat} (h : AOk A n) (hm : m ≤ n) : AOk A m := ⟨h.handled, by have := h.depth; omega, by have := h.units; omega⟩
theorem AOk.mark {A : Around} {n : Nat} (h : AOk A n) : AOk (A.mark none) n := ⟨h.handled, h.depth, h.units⟩
theorem AOk.deeper {A : Around} {n : Nat} {env : Env} (h : AOk A (n + 1)) : AOk (A.deeper env) n :=
  ⟨h.handled, by have := h.depth; show A.depth + 1 + 3 * n ≤ 999; omega, by have := h.units; show A.units + 3 + 10 * n ≤ 9000; omega⟩
theorem AOk.room {A : Around} {n : Nat} (h : AOk A n) : A.depth < recursionLimit := by have := h.depth; show A.depth < 1000; omega
theorem AOk.line {A : Around} {n : Nat} (h : AOk A n) : A.units < cLine := by have := h.units; show A.units < 9900; omega

/-- a state's answer, without a value -/
noncomputable abbrev Post0 (c : Cx) (g : Heap) (env : Env) (ys : List Value) (k : St → Prop) (Q : Shared → Prop) (s : Shared) : Prop :=
  ∀ st' h' tk, Inv c g env ys st' h' → k st' → Q ⟨h', s.gens, s.drawn, tk, s.os⟩
noncomputable abbrev PostB (c : Cx) (g : Heap) (env : Env) (ys : List Value) (k : KB) (Q : Bool → Shared → Prop) (s : Shared) : Prop :=
  ∀ b st' h' tk, Inv c g env ys st' h' → k b st' → Q b ⟨h', s.gens, s.drawn, tk, s.os⟩
/-- a flow of control: on, or an answer -/
noncomputable def FR (c : Cx) (g : Heap) (env : Env) (ys : List Value) (fl : Fl) (f : Flow) (st : St) (h : Heap) : Prop := match fl with
  | .next => f = .next ∧ Inv c g env ys st h
  | .ret v => ∃ y, f = .ret y ∧ Inv c g env (y :: ys) (push v st) h
noncomputable abbrev PostF (c : Cx) (g : Heap) (env : Env) (ys : List Value) (k : KF) (Q : Flow → Shared → Prop) (s : Shared) : Prop :=
  ∀ fl f st' h' tk, FR c g env ys fl f st' h' → k fl st' → Q f ⟨h', s.gens, s.drawn, tk, s.os⟩

/-- the evaluator is right, with room for n calls -/
structure Sound (c : Cx) (n : Nat) (ih : Ev) : Prop where
  e : ∀ x st k, ih.e x st k → ∀ g env ys A s Q, GOk c g → EnvOk g env → AOk A n → Inv c g env ys st s.heap → Post c g env ys k Q s → wpN (MD c) A (eval x env) Q s
  t : ∀ x st k, ih.t x st k → ∀ g env ys A s Q, GOk c g → EnvOk g env → AOk A n → Inv c g env ys st s.heap → PostB c g env ys k Q s → wpN (MD c) A (isTrue x env (eval x env)) Q s
  ss : ∀ x st k, ih.ss x st k → ∀ g env ys A s Q, GOk c g → EnvOk g env → AOk A n → Inv c g env ys st s.heap → PostF c g env ys k Q s → wpN (MD c) A (execs x env) Q s
  call : ∀ f vs st k, ih.call f vs st k → ∀ g env ys A s Q y xs as m zs, GOk c g → EnvOk g env → AOk A n → InvD c g env as m zs ys st s.heap → VR c.ro as f y → All2 (VR c.ro as) vs xs → Post c g env ys k Q s → wpN (MD c) A (call y xs) Q s

theorem Inv.intro {c : Cx} {g : Heap} {env : Env} {as : List Addr} {m : Str → Option Value} {zs ys : List Value} {st : St} {h : Heap} (D : InvD c g env as m zs ys st h) : Inv c g env ys st h := ⟨as, m, zs, D⟩
section
variable {c : Cx} {g g' : Heap} {env : Env} {as : List Addr} {m : Str → Option Value} {zs ys : List Value} {st : St} {h : Heap}
/-- a larger ground is a ground -/
theorem InvD.weaken (D : InvD c g' env as m zs ys st h) (EO : EnvOk g env) (k : ∀ b o, g.get? b = some o → g'.get? b = some o) : InvD c g env as m zs ys st h := by
  have nn : ∀ b, g'.get? b = none → g.get? b = none := fun b e => by
    cases q : g.get? b with
    | none => rfl
    | some o => rw [k b o q] at e; cases e
  refine ⟨fun b o e => D.keep b o (k b o e), D.len, D.nodup, D.objs, fun a ha => ⟨nn a (D.fresh a ha).1, (D.fresh a ha).2⟩, nn _ D.lfresh, D.ns, D.loc.mono fun p y q => ⟨q.1, q.2.1, ?_⟩, D.stk, D.sc⟩
  rcases q.2.2 with q | ⟨hk, ca, o, e1, e2, e3⟩
  · exact .inl q
  · obtain ⟨o', ho'⟩ := EO.cells _ _ e1
    have := k _ _ ho'
    rw [e2] at this; cases this
    exact .inr ⟨hk, ca, o, e1, ho', e3⟩
theorem Inv.weaken (D : Inv c g' env ys st h) (EO : EnvOk g env) (k : ∀ b o, g.get? b = some o → g'.get? b = some o) : Inv c g env ys st h :=
  let ⟨as, m, zs, D⟩ := D; ⟨as, m, zs, D.weaken EO k⟩
/-- an object that is none of the state's joins the ground -/
theorem InvD.strengthen (D : InvD c g env as m zs ys st h) (hg : ∀ b o, g'.get? b = some o → h.get? b = some o) (k : ∀ b o, g.get? b = some o → g'.get? b = some o) (hn : ∀ a ∈ as, g'.get? a = none) (hl : g'.get? env.locals = none) : InvD c g' env as m zs ys st h := by
  refine ⟨hg, D.len, D.nodup, D.objs, fun a ha => ⟨hn a ha, (D.fresh a ha).2⟩, hl, D.ns, D.loc.mono fun p y q => ⟨q.1, q.2.1, ?_⟩, D.stk, D.sc⟩
  rcases q.2.2 with q | ⟨hk, ca, o, e1, e2, e3⟩
  · exact .inl q
  · exact .inr ⟨hk, ca, o, e1, k _ _ e2, e3⟩

/-- what is held is popped -/
theorem Inv.popE {y : Value} {k : KV} (D : Inv c g env (y :: ys) st h) (q : pop st k) : ∃ v st', Inv c g env (y :: ys) (push v st') h ∧ st = push v st' ∧ k v st' := by
  obtain ⟨as, m, zs, D⟩ := D
  obtain ⟨v, s', e, hv, D', hk⟩ := D.pop q
  exact ⟨v, _, ⟨as, m, zs, by rw [← e]; exact D⟩, e, hk⟩
theorem Inv.unpush {y : Value} {v : V} (D : Inv c g env (y :: ys) (push v st) h) : ∃ as m zs, InvD c g env as m zs ys st h ∧ VR c.ro as v y := by
  obtain ⟨as, m, zs, D⟩ := D
  cases hs : D.stk with
  | cons h1 h2 => exact ⟨as, m, zs, D.stack h2, h1⟩
end

section
variable {c : Cx} {g : Heap} {env : Env} {ys : List Value} {st : St} {A : Around} {s : Shared} {n : Nat} {ih : Ev}

/-- arguments, displays: the values are held -/
theorem sArgs (S : Sound c n ih) (G : GOk c g) (EO : EnvOk g env) (AO : AOk A n) {pos : Pos} : ∀ {es : List Expr} {ys : List Value} {st : St} {s : Shared} {k : List V → St → Prop} {Q : List Value → Shared → Prop}, evArgs ih es st k → Inv c g env ys st s.heap →
    (∀ vs xs st' as m zs h' tk, InvD c g env as m zs ys st' h' → All2 (VR c.ro as) vs xs → k vs st' → Q xs ⟨h', s.gens, s.drawn, tk, s.os⟩) → wpN (MD c) A (spliced (backTo pos (starEach es env))) Q s
  | [], ys, st, s, k, Q, hk, ⟨as, m, zs, D⟩, P => N_spliced_nil (P [] [] st as m zs s.heap s.toks D .nil hk)
  | e :: r, ys, st, s, k, Q, hk, D, P => by
    unfold evArgs at hk
    cases he : isStar e with
    | true => rw [he] at hk; exact hk.elim
    | false =>
      rw [he] at hk
      refine N_spliced_cons he (S.e _ _ _ hk g env ys A s _ G EO AO D fun v st1 y h1 tk1 D1 hk1 => ?_)
      refine sArgs S G EO AO (s := ⟨h1, s.gens, s.drawn, tk1, s.os⟩) hk1 D1 fun vs xs st2 as2 m2 zs2 h2 tk2 D2 hvs hk2 => ?_
      obtain ⟨v', s', _, hv, D3, hk3⟩ := D2.pop hk2
      exact P _ _ _ _ _ _ _ _ D3 (.cons hv hvs) hk3
end
end Mine

end
/- SN -/
section
open PySem PySem.W PyProof.Rows
namespace Mine

theorem hasN_iff (i : Nat) : ∀ l : List Nat, hasN i l = true ↔ i ∈ l
  | [] => by simp [hasN]
  | j :: r => by
    unfold hasN
    cases h : Nat.beq i j with
    | true => simp [Nat.eq_of_beq_eq_true h]
    | false => simp [Nat.ne_of_beq_eq_false h, hasN_iff i r]
theorem nodupB_nodup : ∀ {l : List Nat}, nodupB l = true → l.Nodup
  | [], _ => by simp
  | i :: r, h => by
    unfold nodupB at h
    cases q : hasN i r with
    | true => rw [q] at h; cases h
    | false =>
      rw [q] at h
      rw [List.nodup_cons]
      refine ⟨fun m => ?_, nodupB_nodup h⟩
      rw [(hasN_iff i r).mpr m] at q; cases q
theorem posN_get (i : Nat) : ∀ {l : List Nat} {n j : Nat}, posN i l n = some j → ∃ d, j = n + d ∧ l[d]? = some i
  | [], _, _, h => by simp [posN] at h
  | x :: r, n, j, h => by
    unfold posN at h
    cases q : Nat.beq i x with
    | true =>
      rw [q] at h
      have := Nat.eq_of_beq_eq_true q
      subst this
      simp at h
      exact ⟨0, by omega, rfl⟩
    | false =>
      rw [q] at h
      obtain ⟨d, e1, e2⟩ := posN_get i h
      exact ⟨d + 1, by omega, by simpa using e2⟩

/-- the addresses that stand behind a selection -/
noncomputable def selA (as : List Addr) (sel : List Nat) : List Addr := sel.map fun i => as.getD i 0
theorem selA_get {as : List Addr} {sel : List Nat} {i j : Nat} {a : Addr} (e : posN i sel 0 = some j) (h : as[i]? = some a) : (selA as sel)[j]? = some a := by
  obtain ⟨d, e1, e2⟩ := posN_get i e
  have : j = d := by omega
  subst this
  unfold selA
  rw [List.getElem?_map, e2]
  simp [h]

theorem VR.ren {g : Heap} {as : List Addr} {sel : List Nat} {sf : Bool} {v w : V} {x : Value} (h : VR g as v x) (e : renV sel sf v = some w) : VR g (selA as sel) w x := by
  cases v with
  | obj i =>
    unfold renV at e
    dsimp only at e
    cases q : posN i sel 0 with
    | none => rw [q] at e; cases e
    | some j =>
      rw [q] at e; cases e
      obtain ⟨a, h1, h2⟩ := h
      exact ⟨a, selA_get q h1, h2⟩
  | int i => cases sf <;> (cases e; exact h)
  | bool b => cases sf <;> (cases e; exact h)
  | _ => cases e; exact h
theorem VR.rens {g : Heap} {as : List Addr} {sel : List Nat} {sf : Bool} : ∀ {vs ws : List V} {xs : List Value}, All2 (VR g as) vs xs → renVs sel sf vs = some ws → All2 (VR g (selA as sel)) ws xs
  | [], ws, xs, h, e => by
    cases h; cases e; exact .nil
  | v :: r, ws, xs, h, e => by
    cases h with
    | cons h1 h2 =>
      unfold renVs at e
      split at e
      · rename_i w l e1 e2
        cases e
        exact .cons (h1.ren e1) (VR.rens h2 e2)
      · cases e
theorem renVs_length {sel : List Nat} {sf : Bool} : ∀ {vs ws : List V}, renVs sel sf vs = some ws → ws.length = vs.length
  | [], ws, e => by cases e; rfl
  | v :: r, ws, e => by
    unfold renVs at e
    split at e
    · rename_i w l e1 e2
      cases e
      simp [renVs_length e2]
    · cases e
/-- entries renumbered: keys as they were -/
theorem renL_rel {T : Tab} {sel : List Nat} {β : Type} {R R' : Str × V → β → Prop} (hr : ∀ x v w b sf, renV sel sf v = some w → R (x, v) b → R' (x, w) b) : ∀ {l l' : List (Str × V)} {m : List β}, All2 R l m → renL T sel l = some l' → All2 R' l' m ∧ l'.map (·.1) = l.map (·.1)
  | [], l', m, h, e => by
    cases h; cases e; exact ⟨.nil, rfl⟩
  | p :: r, l', m, h, e => by
    cases h with
    | cons h1 h2 =>
      unfold renL at e
      split at e
      · rename_i w l e1 e2
        cases e
        obtain ⟨a, b⟩ := renL_rel hr h2 e2
        exact ⟨.cons (hr _ _ _ _ _ e1 h1) a, by simp [b]⟩
      · cases e
theorem OR.ren {c : Cx} {T : Tab} {as : List Addr} {sel : List Nat} {sf : Bool} {o o' : O} {x : Obj} (h : OR c as o x) (e : renO T sel sf o = some o') : OR c (selA as sel) o' x := by
  cases o with
  | inst C d =>
    unfold renO at e
    dsimp only at e
    cases q : posN d sel 0 with
    | none => rw [q] at e; cases e
    | some j =>
      rw [q] at e; cases e
      obtain ⟨a, h1, h2⟩ := h
      exact ⟨a, selA_get q h1, h2⟩
  | dict es =>
    unfold renO at e
    dsimp only at e
    split at e
    · rename_i l e1
      cases e
      obtain ⟨ds, n, h1, h2, h3⟩ := h
      obtain ⟨a, b⟩ := renL_rel (R' := ER c (selA as sel)) (fun x v w b sf e1 h => ⟨h.1, h.2.1, VR.ren h.2.2 e1⟩) h2 e1
      exact ⟨ds, n, h1, a, by rw [b]; exact h3⟩
    · cases e
  | list xs =>
    unfold renO at e
    dsimp only at e
    split at e
    · rename_i l e1
      cases e
      obtain ⟨ds, n, h1, h2, h3⟩ := h
      exact ⟨ds, n, h1, VR.rens h2 e1, by rw [renVs_length e1]; exact h3⟩
    · cases e
  | tup xs =>
    unfold renO at e
    dsimp only at e
    split at e
    · rename_i l e1
      cases e
      obtain ⟨ds, n, h1, h2, h3⟩ := h
      exact ⟨ds, n, h1, VR.rens h2 e1, by rw [renVs_length e1]; exact h3⟩
    · cases e
  | il xs => cases e; exact h
  | barr xs => cases e; exact h
  | rng lo hi kn => cases e; exact h
theorem renH_get {T : Tab} {H : List O} {sel sf : List Nat} : ∀ {l : List Nat} {H' : List O}, renH T H sel sf l = some H' → H'.length = l.length ∧ ∀ (j : Nat) o', H'[j]? = some o' → ∃ i o, l[j]? = some i ∧ H[i]? = some o ∧ renO T sel (hasN i sf) o = some o'
  | [], H', e => by cases e; exact ⟨rfl, fun j o' h => by simp at h⟩
  | i :: r, H', e => by
    unfold renH at e
    split at e
    · rename_i o e0
      split at e
      · rename_i o1 l e1 e2
        cases e
        obtain ⟨a, b⟩ := renH_get e2
        refine ⟨by simp [a], fun j o' h => ?_⟩
        cases j with
        | zero => simp at h; subst h; exact ⟨i, o, rfl, e0, e1⟩
        | succ j => exact b j o' (by simpa using h)
      · cases e
    · cases e
theorem All2.filterL {α β : Type} {R : α → β → Prop} (q : α → Bool) {l : List α} {m : List β} (h : All2 R l m) : ∃ m', All2 R (l.filter q) m' := by
  induction h with
  | nil => exact ⟨[], .nil⟩
  | @cons a b l m h1 _ ih =>
    obtain ⟨m', ih⟩ := ih
    cases e : q a with
    | true => exact ⟨b :: m', by rw [List.filter_cons_of_pos e]; exact .cons h1 ih⟩
    | false => exact ⟨m', by rw [List.filter_cons_of_neg (by simp [e])]; exact ih⟩
theorem InvD.dropS {c : Cx} {T : Tab} {g : Heap} {env : Env} {as : List Addr} {m : Str → Option Value} {zs ys : List Value} {st : St} {h : Heap} (D : InvD c g env as m zs ys st h) (n : Nat) : ∃ zs', InvD c g env as m zs' ys (dropS T n st) h := by
  unfold Mine.dropS
  split
  · exact ⟨zs, D⟩
  · obtain ⟨zs', hz⟩ := D.loc.filterL (fun p : Str × V => !(memS p.1 _))
    exact ⟨zs', D.keep, D.len, D.nodup, D.objs, D.fresh, D.lfresh, D.ns, hz, D.stk, D.sc⟩
/-- the state renumbered and collected is a state of the same heap -/
theorem InvD.norm {c : Cx} {T : Tab} {g : Heap} {env : Env} {as : List Addr} {m : Str → Option Value} {zs ys : List Value} {st st' : St} {h : Heap} (D : InvD c g env as m zs ys st h) (e : norm T st = some st') : ∃ as', InvD c g env as' m zs ys st' h := by
  unfold Mine.norm at e
  dsimp only at e
  generalize reach st.H 400 (refsVs (st.l.map (·.2) ++ st.s).reverse) [] = sel at e
  generalize hsf : softL T st.l ++ softH T st.H = sf at e
  split at e
  · cases e
  · rename_i hnd
    split at e
    · rename_i H l s e1 e2 e3
      cases e
      obtain ⟨hlen, hget⟩ := renH_get e1
      have hin : ∀ i ∈ sel, i < as.length := fun i hi => by
        obtain ⟨j, hj, ej⟩ := List.getElem_of_mem hi
        have hjH : j < H.length := by rw [hlen]; exact hj
        obtain ⟨i', o, h1, h2, _⟩ := hget j _ (List.getElem?_eq_getElem hjH)
        rw [List.getElem?_eq_getElem hj, ej] at h1
        cases h1
        rw [D.len]
        exact (List.getElem?_eq_some_iff.mp h2).1
      have hD : ∀ i ∈ sel, as[i]? = some (as.getD i 0) := fun i hi => by
        have := hin i hi
        simp [this]
      refine ⟨selA as sel, D.keep, by simp [selA, hlen], ?_, fun j o' a h1 h2 => ?_, fun a ha => ?_, D.lfresh, D.ns, ?_, VR.rens D.stk e3, D.sc⟩
      · unfold selA
        rw [List.nodup_iff_pairwise_ne, List.pairwise_map]
        refine List.Pairwise.imp_of_mem ?_ (nodupB_nodup hnd)
        intro x y hx hy hne heq
        have h1 := hD x hx
        have h2 := hD y hy
        rw [← heq] at h2
        obtain ⟨l1, g1⟩ := List.getElem?_eq_some_iff.mp h1
        obtain ⟨l2, g2⟩ := List.getElem?_eq_some_iff.mp h2
        exact hne ((List.getElem_inj D.nodup).mp (g1.trans g2.symm))
      · obtain ⟨i, o, h3, h4, h5⟩ := hget j o' h1
        have hi : i ∈ sel := List.mem_of_getElem? h3
        unfold selA at h2
        rw [List.getElem?_map, h3] at h2
        simp only [Option.map_some, Option.some.injEq] at h2
        have h6 := hD i hi
        rw [h2] at h6
        obtain ⟨ob, x, y⟩ := D.objs i o a h4 h6
        exact ⟨ob, x, y.ren h5⟩
      · unfold selA at ha
        obtain ⟨i, hi, e⟩ := List.mem_map.mp ha
        have := hD i hi
        rw [e] at this
        exact D.fresh a (List.mem_of_getElem? this)
      · exact (renL_rel (R' := LR c g (selA as sel) env m) (fun x v w b sf e1 h => ⟨h.1, VR.ren h.2.1 e1, h.2.2⟩) D.loc e2).1
    · cases e
end Mine

end
/- S4 -/
section
open PySem PySem.W PyProof.Rows
namespace Mine

theorem key_isStr {c : Cx} {as : List Addr} {p : Str × V} {e : DictEntry} (h : ER c as p e) (a : Str) : e.key.isStr a = strEq p.1 a := by
  obtain ⟨⟨t, hk⟩, _⟩ := h
  rw [hk, strEq_beq]; rfl
theorem key_refKey {c : Cx} {as : List Addr} {p : Str × V} {e : DictEntry} (h : ER c as p e) : e.refKey = false := by
  obtain ⟨⟨t, hk⟩, _⟩ := h
  unfold DictEntry.refKey; rw [hk]
theorem no_refKey {c : Cx} {as : List Addr} {es : List (Str × V)} {ds : List DictEntry} (h : All2 (ER c as) es ds) : ds.any (·.refKey) = false := by
  induction h with
  | nil => rfl
  | cons h1 _ ih => rw [List.any_cons, key_refKey h1, ih]; rfl
theorem getL_some {c : Cx} {as : List Addr} {es : List (Str × V)} {ds : List DictEntry} (h : All2 (ER c as) es ds) {a : Str} {v : V} (e : lget a es = some v) : ∃ y, getL a ds = some (some y) ∧ VR c.ro as v y := by
  induction h with
  | nil => cases e
  | cons h1 h2 ih =>
    unfold lget at e
    unfold getL
    rw [List.find?_cons, key_isStr h1 a]
    cases q : strEq _ a with
    | true => rw [q] at e; cases e; exact ⟨_, rfl, h1.2.2⟩
    | false =>
      rw [q] at e
      obtain ⟨y, e1, e2⟩ := ih e
      refine ⟨y, ?_, e2⟩
      unfold getL at e1
      simp only [List.any_cons, key_refKey h1, Bool.false_or]
      exact e1
theorem getL_none {c : Cx} {as : List Addr} {es : List (Str × V)} {ds : List DictEntry} (h : All2 (ER c as) es ds) {a : Str} (e : lget a es = none) : getL a ds = some none := by
  induction h with
  | nil => rfl
  | cons h1 h2 ih =>
    unfold lget at e
    unfold getL
    rw [List.find?_cons, key_isStr h1 a]
    cases q : strEq _ a with
    | true => rw [q] at e; cases e
    | false =>
      rw [q] at e
      have e1 := ih e
      unfold getL at e1
      simp only [List.any_cons, key_refKey h1, Bool.false_or]
      exact e1
theorem getL_isSome {c : Cx} {as : List Addr} {es : List (Str × V)} {ds : List DictEntry} (h : All2 (ER c as) es ds) (a : Str) : (getL a ds).isSome = true := by
  cases e : lget a es with
  | none => rw [getL_none h e]; rfl
  | some v => obtain ⟨y, e1, _⟩ := getL_some h e; rw [e1]; rfl
theorem lset_keys {a : Str} {v : V} : ∀ {es : List (Str × V)} {x : Str}, x ∈ (lset a v es).map (·.1) → x = a ∨ x ∈ es.map (·.1)
  | [], x, h => by simp [lset] at h; exact .inl h
  | p :: r, x, h => by
    unfold lset at h
    split at h
    · right; exact h
    · rcases List.mem_cons.mp h with q | q
      · right; rw [q]; exact .head _
      · rcases lset_keys q with q | q
        · exact .inl q
        · exact .inr (.tail _ q)
theorem lset_nodup {a : Str} {v : V} : ∀ {es : List (Str × V)}, (es.map (·.1)).Nodup → ((lset a v es).map (·.1)).Nodup
  | [], _ => by simp [lset]
  | p :: r, h => by
    unfold lset
    rw [List.map_cons, List.nodup_cons] at h
    split
    · rw [List.map_cons, List.nodup_cons]; exact h
    · rename_i q
      rw [List.map_cons, List.nodup_cons]
      refine ⟨fun hm => ?_, lset_nodup h.2⟩
      rcases lset_keys hm with e | e
      · exact strEq_false q e
      · exact h.1 e
theorem lset_length {a : Str} {v : V} : ∀ {es : List (Str × V)}, (lset a v es).length ≤ es.length + 1
  | [] => by simp [lset]
  | p :: r => by
    unfold lset
    split
    · simp
    · simp only [List.length_cons]; have := @lset_length a v r; omega
theorem putL_all {c : Cx} {as : List Addr} {es : List (Str × V)} {ds : List DictEntry} (h : All2 (ER c as) es ds) {a : Str} {v : V} {y : Value} {t : Tok} (hv : VR c.ro as v y) : All2 (ER c as) (lset a v es) (putL a (PyData.keyHash c.w.params a) (.str a t) y ds) := by
  induction h with
  | nil => exact .cons ⟨⟨t, rfl⟩, rfl, hv⟩ .nil
  | cons h1 h2 ih =>
    unfold lset putL
    rw [key_isStr h1 a]
    cases q : strEq _ a with
    | true => exact .cons ⟨h1.1, h1.2.1, hv⟩ h2
    | false => exact .cons h1 ih

/-- the defaults of a def, as the table has them -/
noncomputable def DflOk (c : Cx) (fd : FuncData) (dv : List V) : Prop := (fd.defaults = .none ∧ dv = []) ∨ ∃ t o items n, fd.defaults = .ref t ∧ c.K.lookup t = some o ∧ o.data = .seq items n ∧ All2 (VR c.ro []) dv items.toList
structure FnOk (c : Cx) (f : Nat) (fd : FuncData) : Prop where
  at_ : ∃ oc od osl, c.K.lookup f = some ⟨oc, od, .func fd, osl⟩
  code : codeIn c.K fd.code fd.qualname = true
  clo : fd.closure = []
  kind : fd.scope.kind = .function
  co : fd.scope.isCoroutine = false
  gen : fd.scope.isGenerator = false
  glob : fd.globals = mainGlobals
  blt : fd.builtins = builtinsNs
  pos : fd.params.posonlyargs = []
  kwo : fd.params.kwonlyargs = []
  vararg : fd.params.vararg = none
  kwarg : fd.params.kwarg = none
  nodup : (fd.params.args.map (·.arg)).Nodup
  dfl : DflOk c fd ((aget f c.T.dfl).getD [])
  dlen : ((aget f c.T.dfl).getD []).length ≤ fd.params.args.length

/-- the written tables hold of the program's written part -/
structure TabOk (c : Cx) : Prop where
  glob : ∀ x v, lget x c.T.glob = some v → strEq x ("__debug__" : Str) = false ∧ ((∃ y, nsIn c.K mainGlobals x = some (some y) ∧ VR c.ro [] v y) ∨ (∃ b, v = .bi b ∧ nsIn c.K mainGlobals x = some none ∧ bootBuiltins x = some b.val ∧ x ≠ "__name__"))
  fld : ∀ C fs a, aget C c.T.fld = some fs → fs.any (strEq a) = true → plainGet c.K C a = true ∧ hasDictIn c.K C = true ∧ (∃ attr, findIn c.K (.ref C) a = some attr ∧ noGet c.K attr = true) ∧ findIn c.K (.ref C) "__setattr__" = some (some (.builtin "object.__setattr__")) ∧ plainOver c.K C = true ∧ takerIn c.K C a = some none
  mth : ∀ C ms m f, aget C c.T.mth = some ms → lget m ms = some f → plainGet c.K C m = true ∧ findIn c.K (.ref C) m = some (some (.ref f)) ∧ isFn c.K (.ref f) = true ∧ keepIn c.K (.ref f) = true
  con : ∀ C cs a v, aget C c.T.con = some cs → lget a cs = some v → ∃ mc y, readsIn c.K C mc = true ∧ findCls c.K (.ref C) mc a = some (.val y) ∧ handedIn y = true ∧ VR c.ro [] v y
  sizes : ∃ vs n, c.K.lookup 306 = some ⟨.type "tuple", none, .seq (List.toArray vs) n, #[]⟩ ∧ IntsAre vs [1, 2, 4]
  keep : ∀ a, callable c.T a = true → keepIn c.K (.ref a) = true
  fn : ∀ f fd, c.T.fns.any (Nat.beq f) = true → c.T.fn f = some fd → FnOk c f fd
  ini : ∀ C f, aget C c.T.ini = some f → makesIn c.K C = true ∧ findIn c.K (.ref C) "__init__" = some (some (.ref f)) ∧ typeIn c.K (.ref f) = some (.type "function") ∧ C ∉ c.T.fns

theorem handedIn_of {g : Heap} {as : List Addr} {v : V} {y : Value} (h : VR g as v y) : handedIn y = true := by
  cases v with
  | none => obtain rfl : y = _ := h; rfl
  | bool b => obtain rfl : y = _ := h; rfl
  | sbool b => obtain rfl : y = _ := h; rfl
  | int i => obtain ⟨t, rfl⟩ := h; rfl
  | sint i => obtain ⟨t, rfl⟩ := h; rfl
  | str s => obtain ⟨t, rfl⟩ := h; rfl
  | bytes xs => obtain ⟨⟨t, rfl⟩, _⟩ := h; rfl
  | bi b => obtain rfl : y = _ := h; cases b <;> first | rfl | decide +kernel
  | top a => obtain rfl : y = _ := h; rfl
  | obj i => obtain ⟨a, _, rfl⟩ := h; rfl
  | ro xs => obtain ⟨a, ys, rfl, _⟩ := h; rfl

section
variable {c : Cx} {g : Heap} {env : Env} {as : List Addr} {m : Str → Option Value} {zs ys : List Value} {st : St} {A : Around} {s : Shared} {Q : Value → Shared → Prop} {n : Nat} {k : KV}

theorem VR.nil {g : Heap} {as : List Addr} {v : V} {y : Value} (h : VR g [] v y) : VR g as v y := h.mono fun i a e => by simp at e

theorem InvD.gok (D : InvD c g env as m zs ys st s.heap) (G : GOk c g) : GOk c s.heap := G.keeps D.keep

theorem loc_lget {l : List (Str × V)} {x : Str} {v : V} {zs : List Value} (h : All2 (LR c g as env m) l zs) (e : lget x l = some v) : ∃ y, LR c g as env m (x, v) y := by
  induction h with
  | nil => cases e
  | @cons p y l' zs' h1 _ ih =>
    unfold lget at e
    cases q : strEq p.1 x with
    | true =>
      rw [q] at e; cases e
      have := (strEq_iff _ _).mp q
      obtain ⟨a, b⟩ := p
      cases this
      exact ⟨y, h1⟩
    | false => rw [q] at e; exact ih e

theorem sName (TO : TabOk c) (G : GOk c g) (EO : EnvOk g env) (D : InvD c g env as m zs ys st s.heap) {x : Str} {pos : Pos} (P : Post c g env ys k Q s)
    (hk : match lget x st.l with
      | some v => k v st
      | none => match okGlobal st.sc x, lget x c.T.glob with
        | true, some v => k v st
        | _, _ => False) : wpN (MD c) A (eval (.Name x pos) env) Q s := by
  refine wpN_any ?_
  split at hk
  · rename_i v e
    obtain ⟨y, hd, hv, q⟩ := loc_lget D.loc e
    have hd' : (x == ("__debug__" : Str)) = false := by rw [← strEq_beq]; exact hd
    rcases q with ⟨hl, hm⟩ | ⟨hl, ca, o, e1, e2, e3⟩
    · exact wpAny_Name (wpAny_loadName_local EO.kind hl D.ns hm (D.ret P hv hk)) hd'
    · exact wpAny_Name (wpAny_loadName_cell EO.kind hl e1 ⟨o, D.keep _ _ e2, e3⟩ (D.ret P hv hk)) hd'
  · split at hk
    · rename_i v e1 e2
      obtain ⟨hd, q⟩ := TO.glob x v e2
      have hd' : (x == ("__debug__" : Str)) = false := by rw [← strEq_beq]; exact hd
      have H := D.gok G
      have hx : env.kindOf x = some .globalImplicit := by
        unfold okGlobal at e1
        rw [D.sc] at e1
        have : ∀ l : List (Str × NameKind), lget x l = l.lookup x := by
          intro l
          induction l with
          | nil => rfl
          | cons p r ih =>
            obtain ⟨a, b⟩ := p
            unfold lget
            rw [List.lookup_cons]
            have : (x == a) = strEq a x := by
              rw [strEq_beq]
              by_cases h : x = a
              · subst h; simp
              · have h' : ¬ a = x := fun e => h e.symm
                rw [beq_eq_false_iff_ne.mpr h, beq_eq_false_iff_ne.mpr h']
            rw [this]
            show (match strEq a x with | true => some b | false => lget x r) = (match strEq a x with | true => some b | false => List.lookup x r)
            rw [ih]
        rw [this] at e1
        show env.scope.names.lookup x = _
        split at e1
        · assumption
        · cases e1
      rcases q with ⟨y, hy, hv⟩ | ⟨b, rfl, hnone, hb, hn⟩
      · refine PySem.Calls.Name_function_global EO.kind hx (PySem.Calls.loadGlobal_global (mg := c.mg) ?_ ?_ (D.ret P hv.nil hk)) hd'
        · rw [EO.globals]; exact H.T.g
        · exact mg_of H.K H.T.g hy
      · refine PySem.Calls.Name_function_global EO.kind hx (PySem.Calls.loadGlobal_builtin (mg := c.mg) (mb := c.mb) ?_ ?_ ?_ ?_ (D.ret P (v := .bi b) rfl hk)) hd'
        · rw [EO.globals]; exact H.T.g
        · exact mg_none_of H.K H.T.g hnone
        · rw [EO.builtins]; exact H.T.b
        · rw [H.T.builtins x hn]; exact hb
    · exact hk.elim

/-- an object and its dict -/
theorem InvD.inst (D : InvD c g env as m zs ys st s.heap) {i C d : Nat} {es : List (Str × V)} (e1 : st.H[i]? = some (.inst C d)) (e2 : st.H[d]? = some (.dict es)) :
    ∃ x dx ds nn, as[i]? = some x ∧ as[d]? = some dx ∧ s.heap.get? x = some ⟨.ref C, some dx, .plain, #[]⟩ ∧ s.heap.get? dx = some (dictOf ds nn) ∧ All2 (ER c as) es ds ∧ (es.map (·.1)).Nodup ∧ InstAt s.heap x ⟨.ref C, some dx, .plain, #[]⟩ C (some (dictOf ds nn)) := by
  obtain ⟨x, ob, hx, ho, dx, hdx, rfl⟩ := D.obj e1
  obtain ⟨dx', ob', hdx', ho', ds, nn, rfl, hall, hnd⟩ := D.obj e2
  rw [hdx] at hdx'; cases hdx'
  exact ⟨x, dx, ds, nn, hx, hdx, ho, ho', hall, hnd, ho, rfl, rfl, ho'⟩

theorem sGetAttr (TO : TabOk c) (G : GOk c g) (D : InvD c g env as m zs ys st s.heap) {v : V} {y : Value} (hv : VR c.ro as v y) {a : Str} (P : Post c g env ys k Q s) (hk : getAttr c.T v a st k) : wpN (MD c) A (PySem.getAttr y a true) Q s := by
  refine wpN_any ?_
  have H := D.gok G
  unfold getAttr at hk
  cases v with
  | obj i =>
    dsimp only at hk
    split at hk
    · rename_i C d e1
      split at hk
      · rename_i fs es e2 e3
        split at hk
        · rename_i w e4 e5
          obtain ⟨x, dx, ds, nn, hx, hdx, ho, ho', hall, hnd, I⟩ := D.inst e1 e3
          obtain ⟨_, hx', rfl⟩ := hv
          rw [hx] at hx'; cases hx'
          obtain ⟨h1, h2, ⟨attr, h3, h4⟩, _⟩ := TO.fld C fs a e2 e4
          obtain ⟨z, hz, hvz⟩ := getL_some hall e5
          exact get_value H.K I (plainGet_of h1).1 (findObj_own h2 h3 h4 (by rw [lookIn_dict]; exact hz)) (handedIn_of hvz) (D.ret P hvz hk)
        · exact hk.elim
      · exact hk.elim
    · exact hk.elim
  | top C =>
    dsimp only at hk
    split at hk
    · rename_i cs e1
      split at hk
      · rename_i w e2
        obtain rfl : y = _ := hv
        obtain ⟨mc, z, h1, h2, h3, h4⟩ := TO.con C cs a w e1 e2
        exact cls_value H.K h1 h2 h3 (D.ret P h4.nil hk)
      · exact hk.elim
    · exact hk.elim
  | _ => exact hk.elim

theorem ns_ne {h : Heap} {L x : Addr} {m : Str → Option Value} (n : h.Ns L m) {o : Obj} (e : h.get? x = some o) (hk : ∀ es ep, o.data ≠ .dict es ep) : x ≠ L := fun q => by
  obtain ⟨o', es, ep, ho, hd, _⟩ := n
  rw [← q, e] at ho; cases ho
  exact hk _ _ hd

theorem sSetAttr (TO : TabOk c) (G : GOk c g) (D : InvD c g env as m zs ys st s.heap) {ov v : V} {yo y : Value} (ho : VR c.ro as ov yo) (hv : VR c.ro as v y) {a : Str} {k : St → Prop} {Q : Shared → Prop} (P : Post0 c g env ys k Q s) (hk : setAttr c.T ov a v st k) : wpN (MD c) A (PySem.setAttr yo a y) (fun _ => Q) s := by
  refine wpN_any ?_
  have H := D.gok G
  unfold setAttr at hk
  cases ov with
  | obj i =>
    dsimp only at hk
    split at hk
    · rename_i C d e1
      split at hk
      · rename_i fs es e2 e3
        split at hk
        · rename_i e4
          obtain ⟨e4, e5⟩ := Bool.and_eq_true_iff.mp e4
          have e5 := Nat.le_of_ble_eq_true e5
          obtain ⟨x, dx, ds, nn, hx, hdx, hox, hod, hall, hnd, I⟩ := D.inst e1 e3
          obtain ⟨_, hx', rfl⟩ := ho
          rw [hx] at hx'; cases hx'
          obtain ⟨h1, h2, _, h3, h4, h5⟩ := TO.fld C fs a e2 e4
          have hdL : dx ≠ env.locals := (D.fresh dx (List.mem_of_getElem? hdx)).2
          obtain ⟨news', U, keep', hnew⟩ := allN_upd (o' := dictOf (putL a (PyData.keyHash c.w.params a) (.str a (s.toks + 1)) y ds) (putN a ds nn)) hdL hod
          have hall' := putL_all hall (a := a) (t := s.toks + 1) hv
          obtain ⟨pre, post, hpre, hpost, ha, hb⟩ := U.split
          have N0 := allN_news s.heap env.locals
          rw [hpre] at N0
          refine set_plain H.K I h3 (osa_dict (s := { s with toks := s.toks + 1 }) (fr0 D.ns) N0 H.K I rfl h4 h5 h2 (getL_isSome hall a) ha hb (by rw [putName_dict]) rfl ?_ fun h' F' N' => ?_)
          · rw [← hall'.length]; have := @lset_length a v es; omega
          · rw [← hpost] at N'
            refine P _ h' _ ⟨as, m, zs, D.setObj hdx (fun b hb hL o e => (N' (b, o) (keep' b o hb (allN_mem.mpr ⟨hL, e⟩))).1) F'.ns (N' _ hnew).1 ?_⟩ hk
            exact ⟨_, _, rfl, hall', lset_nodup hnd⟩
        · exact hk.elim
      · exact hk.elim
    · exact hk.elim
  | _ => exact hk.elim
end
end Mine

end
/- S5 -/
section
open PySem PySem.W PyProof.Rows
namespace Mine

section
variable {c : Cx} {g : Heap} {env : Env} {as : List Addr} {m : Str → Option Value} {zs ys : List Value} {st : St} {A : Around} {s : Shared} {Q : Value → Shared → Prop} {n : Nat} {k : KV}

theorem InvD.pushO {h : Heap} (D : InvD c g env as m zs ys st h) {o : O} {ob : Obj} (ho : OR c (as ++ [h.objs.size]) o ob) : InvD c g env (as ++ [h.objs.size]) m zs ys ⟨st.H ++ [o], st.l, st.s, st.sc⟩ (h.push ob) :=
  D.alloc (fun b o _ e => Heap.get?_push_of_some _ e) (D.ns.keeps fun b o e => Heap.get?_push_of_some _ e) (by
    cases q : h.get? h.objs.size with
    | none => rfl
    | some o => exact absurd (Heap.lt_size q) (Nat.lt_irrefl _)) (Heap.get?_push_size _ ho.notFreed) ho
theorem sNewAt (D : InvD c g env as m zs ys st s.heap) (P : Post c g env ys k Q s) {o : O} {ob : Obj} {tk : Nat} (ho : OR c (as ++ [s.heap.objs.size]) o ob) (hk : new o st k) : Q (.ref s.heap.objs.size) ⟨s.heap.push ob, s.gens, s.drawn, tk, s.os⟩ :=
  P _ _ _ _ _ ⟨_, m, zs, (D.pushO ho).push (v := .obj st.H.length) ⟨_, D.last _, rfl⟩⟩ hk
theorem InvD.newObj {h h' : Heap} (D : InvD c g env as m zs ys st h) {o : O} {ob : Obj} {D' : Addr} (F' : Fr heap0 env.locals h' m) (N' : News heap0 env.locals h' ((D', ob) :: allN h env.locals)) (hl : ∀ p ∈ allN h env.locals, p.1 < D') (ho : OR c (as ++ [D']) o ob) :
    InvD c g env (as ++ [D']) m zs ys ⟨st.H ++ [o], st.l, st.s, st.sc⟩ h' :=
  D.alloc (allN_keep N' fun p hp => .tail _ hp) F'.ns (fresh_of_lt (N' _ (.head _)).2.1 hl) (N' _ (.head _)).1 ho
theorem sNewN {h' : Heap} (D : InvD c g env as m zs ys st s.heap) (P : Post c g env ys k Q s) {o : O} {ob : Obj} {D' : Addr} {tk : Nat} (F' : Fr heap0 env.locals h' m) (N' : News heap0 env.locals h' ((D', ob) :: allN s.heap env.locals)) (hl : ∀ p ∈ allN s.heap env.locals, p.1 < D') (ho : OR c (as ++ [D']) o ob) (hk : new o st k) :
    Q (.ref D') ⟨h', s.gens, s.drawn, tk, s.os⟩ :=
  P _ _ _ _ _ ⟨_, m, zs, (D.newObj F' N' hl ho).push (v := .obj st.H.length) ⟨_, D.last _, rfl⟩⟩ hk

theorem up_last {as : List Addr} {b : Addr} : ∀ (i : Nat) a, as[i]? = some a → (as ++ [b])[i]? = some a := fun i x e => by
  rw [List.getElem?_append_left (List.getElem?_eq_some_iff.mp e).1]; exact e
theorem All2.up {as : List Addr} {b : Addr} {g : Heap} {vs : List V} {xs : List Value} (h : All2 (VR g as) vs xs) : All2 (VR g (as ++ [b])) vs xs := h.mono fun _ _ q => q.mono up_last

theorem size_ok {n : Nat} (h : n ≤ 1000000) : n ≤ sizeLine := by rw [sizeLine_eq]; omega

theorem sNewTuple (D : InvD c g env as m zs ys st s.heap) (P : Post c g env ys k Q s) {vs : List V} {xs : List Value} (hv : All2 (VR c.ro as) vs xs) (hz : vs.length ≤ 1000000) (hk : new (.tup vs) st k) : wpN (MD c) A (newTuple xs) Q s :=
  wpN_any (wpAny_newTuple (sNewAt D P (o := .tup vs) (tk := s.toks) ⟨xs, 0, rfl, hv.up, hz⟩ hk) (by rw [← hv.length]; exact size_ok hz))
theorem sNewList (D : InvD c g env as m zs ys st s.heap) (P : Post c g env ys k Q s) {vs : List V} {xs : List Value} (hv : All2 (VR c.ro as) vs xs) (hz : vs.length ≤ 1000000) (hk : new (.list vs) st k) : wpN (MD c) A (newList xs) Q s :=
  wpN_any (wpAny_newList (sNewAt D P (o := .list vs) (tk := s.toks) ⟨xs, 0, rfl, hv.up, hz⟩ hk) (by rw [← hv.length]; exact size_ok hz))
theorem sNewNil (D : InvD c g env as m zs ys st s.heap) (P : Post c g env ys k Q s) (hk : new (.il []) st k) : wpN (MD c) A (newList []) Q s :=
  wpN_any (wpAny_newList (sNewAt D P (o := .il []) (tk := s.toks) ⟨[], 0, rfl, .nil, Nat.zero_le _⟩ hk) (Nat.zero_le _))

/-- an object as a list of ints, as a list of values -/
theorem intsOf_are {g : Heap} {as : List Addr} : ∀ {vs : List V} {xs : List Value} {ns : List Int}, All2 (VR g as) vs xs → intsOf vs = some ns → IntsAre xs ns
  | [], _, ns, .nil, e => by cases e; exact .nil
  | v :: r, _, ns, .cons h1 h2, e => by
    unfold intsOf at e
    split at e
    · rename_i i kn e1
      split at e
      · rename_i l e2
        cases e
        obtain ⟨t, rfl⟩ := h1.asInt e1
        exact .cons _ _ (intsOf_are h2 e2)
      · cases e
    · cases e
theorem intsOf_length : ∀ {vs : List V} {ns : List Int}, intsOf vs = some ns → ns.length = vs.length
  | [], ns, e => by cases e; rfl
  | v :: r, ns, e => by
    unfold intsOf at e
    split at e
    · split at e
      · rename_i l e2; cases e; simp [intsOf_length e2]
      · cases e
    · cases e
theorem asInts_obj {as : List Addr} {o : O} {ob : Obj} {ns : List Int} (h : OR c as o ob) (e : asInts o = some ns) : ∃ xs n, ob = ⟨.type "list", none, .seq (List.toArray xs) n, #[]⟩ ∧ IntsAre xs ns ∧ ns.length ≤ 1000000 := by
  cases o with
  | il xs => cases e; exact h
  | list xs =>
    obtain ⟨ys, n, h1, h2, h3⟩ := h
    exact ⟨ys, n, h1, intsOf_are h2 e, by rw [intsOf_length e]; exact h3⟩
  | _ => cases e
theorem listOf_obj {as : List Addr} {o : O} {ob : Obj} {vs : List V} (h : OR c as o ob) (e : listOf o = some vs) : ∃ xs n, ob = ⟨.type "list", none, .seq (List.toArray xs) n, #[]⟩ ∧ All2 (VR c.ro as) vs xs ∧ vs.length ≤ 1000000 := by
  cases o with
  | list xs => cases e; exact h
  | il xs =>
    cases xs with
    | nil =>
      cases e
      obtain ⟨ys, n, h1, h2, h3⟩ := h
      cases h2
      exact ⟨[], n, h1, .nil, h3⟩
    | cons x r => cases e
  | _ => cases e
theorem IntsAre.len {xs : List Value} {ns : List Int} (h : IntsAre xs ns) : xs.length = ns.length := by
  induction h with
  | nil => rfl
  | cons _ _ _ ih => simp [ih]

theorem sListCat (D : InvD c g env as m zs ys st s.heap) (P : Post c g env ys k Q s) {i j : Nat} {x y : O} {a b : Addr} (e1 : st.H[i]? = some x) (e2 : st.H[j]? = some y) (ha : as[i]? = some a) (hb : as[j]? = some b) (hk : listCat x y fun o => new o st k) :
    wpN (MD c) A (binaryOp .Add (.ref a) (.ref b)) Q s := by
  obtain ⟨a', oa, ha', hoa, hra⟩ := D.obj e1
  obtain ⟨b', ob, hb', hob, hrb⟩ := D.obj e2
  rw [ha] at ha'; cases ha'
  rw [hb] at hb'; cases hb'
  have go : ∀ {xs ys' : List Value} {n n' : Nat} {o : O}, oa = ⟨.type "list", none, .seq (List.toArray xs) n, #[]⟩ → ob = ⟨.type "list", none, .seq (List.toArray ys') n', #[]⟩ → xs.length + ys'.length ≤ 1000000 →
      OR c (as ++ [s.heap.objs.size]) o ⟨.type "list", none, .seq (List.toArray (xs ++ ys')) 0, #[]⟩ → new o st k → wpN (MD c) A (binaryOp .Add (.ref a) (.ref b)) Q s := by
    intro xs ys' n n' o ea eb hz ho hn
    subst ea; subst eb
    refine wpN_any (concat_meets ⟨_, hoa, rfl⟩ ⟨_, hob, rfl⟩ noFill_list_add seq_list_add PySem.F.slot_list_add PySem.F.entry_list_add (PySem.F.args_list_add_2 _ _) (list_addW a b xs.toArray ys'.toArray n n' none none #[] #[] ?_) ⟨hoa, hob, ?_⟩)
    · simp only [List.size_toArray]; exact size_ok hz
    · have := sNewAt D P (tk := s.toks) ho hn
      rw [← List.append_toArray] at this
      exact this
  unfold listCat at hk
  split at hk
  · rename_i xs ys' q1 q2
    obtain ⟨us, n, h1, h2, h3⟩ := asInts_obj hra q1
    obtain ⟨ws, n', h1', h2', h3'⟩ := asInts_obj hrb q2
    refine hk.elim (fun e p => ?_) fun _ p => p.elim
    have e := of_decide_eq_true e
    exact go (o := .il (xs ++ ys')) h1 h1' (by rw [IntsAre.len h2, IntsAre.len h2']; exact e) ⟨_, 0, rfl, h2.append h2', by simpa using e⟩ p
  · split at hk
    · rename_i xs ys' q1 q2
      split at hk
      · rename_i e
        have e := Nat.le_of_ble_eq_true e
        obtain ⟨us, n, h1, h2, h3⟩ := listOf_obj hra q1
        obtain ⟨ws, n', h1', h2', h3'⟩ := listOf_obj hrb q2
        exact go (o := .list (xs ++ ys')) h1 h1' (by rw [← h2.length, ← h2'.length]; exact e) ⟨_, 0, rfl, h2.up.append h2'.up, by simpa using e⟩ hk
      · exact hk.elim
    · exact hk.elim

theorem repL_all {g : Heap} {as : List Addr} {vs : List V} {xs : List Value} (h : All2 (VR g as) vs xs) : ∀ n : Nat, All2 (VR g as) (repL vs n) (List.replicate n xs).flatten
  | 0 => .nil
  | n + 1 => by
    rw [List.replicate_succ, List.flatten_cons]
    exact h.append (repL_all h n)
theorem repL_length {α : Type} (vs : List α) : ∀ n : Nat, (repL vs n).length = vs.length * n
  | 0 => rfl
  | n + 1 => by
    show (vs ++ repL vs n).length = _
    rw [List.length_append, repL_length vs n, Nat.mul_succ, Nat.add_comm]

theorem sBinop (D : InvD c g env as m zs ys st s.heap) (P : Post c g env ys k Q s) {op : Operator} {a b : V} {x y : Value} (ha : VR c.ro as a x) (hb : VR c.ro as b y) (hk : binop op a b st k) : wpN (MD c) A (binaryOp op x y) Q s := by
  unfold binop at hk
  split at hk
  · rename_i i ki j kj e1 e2
    obtain ⟨t, rfl⟩ := ha.asInt e1
    obtain ⟨u, rfl⟩ := hb.asInt e2
    exact wpN_any (sIop hk fun z tk hz => D.ret P (VR.mkI _ z tk) hz)
  · split at hk
    · rename_i i j
      split at hk
      · rename_i o o' e1 e2
        obtain ⟨a, ha, rfl⟩ := ha
        obtain ⟨b, hb, rfl⟩ := hb
        exact sListCat D P e1 e2 ha hb hk
      · exact hk.elim
    · rename_i i j hno
      split at hk
      · rename_i xs e1
        split at hk
        · rename_i e2
          obtain ⟨e2, e4⟩ := Bool.and_eq_true_iff.mp e2
          obtain ⟨e2, e3⟩ := Bool.and_eq_true_iff.mp e2
          rw [leB_is] at e2 e3
          have e2 := of_decide_eq_true e2
          have e3 := of_decide_eq_true e3
          have e4 := Nat.le_of_ble_eq_true e4
          obtain ⟨a, ha, rfl⟩ := ha
          obtain ⟨u, rfl⟩ := hb
          obtain ⟨a', ob, ha', ho, us, nn, rfl, hall, hz⟩ := D.obj e1
          rw [ha] at ha'; cases ha'
          have hzz : us.length * j.toNat ≤ 256 := by
            rw [← hall.length]
            have : j.toNat ≤ 64 := by omega
            exact Nat.le_trans (Nat.mul_le_mul e4 this) (by decide)
          refine wpN_any (KMa.mul (fr0 D.ns) (allN_news _ _) (vs := us) ⟨_, ho, rfl, nn, rfl⟩ (by omega) (by omega) hzz rfl fun D' h' F' N' hl => sNewN D P (o := .list (repL xs j.toNat)) F' N' hl ⟨_, 0, rfl, (repL_all hall j.toNat).up, ?_⟩ hk)
          rw [repL_length, hall.length]
          omega
        · exact hk.elim
      · exact hk.elim
    · exact hk.elim

theorem sUnop (D : InvD c g env as m zs ys st s.heap) (P : Post c g env ys k Q s) {op : UnaryOp} {a : V} {x : Value} (ha : VR c.ro as a x) (hk : unop op a st k) : wpN (MD c) A (unaryOp op x) Q s := by
  refine wpN_any ?_
  unfold unop at hk
  cases op with
  | Not =>
    cases a with
    | bool b => obtain rfl : x = _ := ha; exact not_of (wpAny_truthy_bool (D.ret P (v := .bool (!b)) rfl hk))
    | sbool b => obtain rfl : x = _ := ha; exact not_of (wpAny_truthy_bool (D.ret P (v := .sbool (!b)) rfl hk))
    | _ => exact hk.elim
  | USub =>
    dsimp only at hk
    split at hk
    · rename_i i ki e
      obtain ⟨t, rfl⟩ := ha.asInt e
      exact PySem.P.neg_int (D.ret P (VR.mkI _ _ _) hk)
    · exact hk.elim
  | Invert =>
    dsimp only at hk
    split at hk
    · rename_i i ki e
      obtain ⟨t, rfl⟩ := ha.asInt e
      refine PyProof.Rows.invert_int ?_
      rw [show Builtin.bitNot i = -i - 1 from rfl]
      exact D.ret P (VR.mkI _ _ _) hk
    · exact hk.elim
  | UAdd => exact hk.elim
end
end Mine

end
/- S6 -/
section
open PySem PySem.W PyProof.Rows
namespace Mine

theorem byte_back {n : Int} (h : 0 ≤ n ∧ n < 256) : ((n.toNat.toUInt8).toNat : Int) = n := by
  have : n.toNat < 256 := by omega
  rw [show (n.toNat.toUInt8).toNat = n.toNat % 256 from rfl, Nat.mod_eq_of_lt this]
  omega
theorem byteArr_inj : ∀ {xs ys : List Int}, inByte xs → inByte ys → (xs.map fun n : Int => n.toNat.toUInt8) = (ys.map fun n : Int => n.toNat.toUInt8) → xs = ys
  | [], [], _, _, _ => rfl
  | [], _ :: _, _, _, e => by cases e
  | _ :: _, [], _, _, e => by cases e
  | x :: xs, y :: ys, hx, hy, e => by
    rw [List.map_cons, List.map_cons, List.cons.injEq] at e
    have h1 := byte_back (hx x (.head _))
    have h2 := byte_back (hy y (.head _))
    rw [e.1, h2] at h1
    rw [h1, byteArr_inj (fun z hz => hx z (.tail _ hz)) (fun z hz => hy z (.tail _ hz)) e.2]
theorem byteArr_eq {xs ys : List Int} (hx : inByte xs) (hy : inByte ys) : ((byteArr xs).toList == (byteArr ys).toList) = decide (xs = ys) := by
  unfold byteArr
  by_cases h : xs = ys
  · subst h; simp
  · rw [decide_eq_false h]
    refine beq_eq_false_iff_ne.mpr fun e => h (byteArr_inj hx hy e)
theorem inInts_is {g : Heap} {as : List Addr} {x : Int} {kx : Bool} : ∀ {vs : List V} {xs : List Value} {b kb : Bool}, All2 (VR g as) vs xs → inInts x kx vs = some (b, kb) → ∃ ns, IntsAre xs ns ∧ ns.any (· == x) = b
  | [], _, b, kb, .nil, e => by cases e; exact ⟨[], .nil, rfl⟩
  | v :: r, _, b, kb, .cons h1 h2, e => by
    unfold inInts at e
    split at e
    · rename_i y ky e1
      split at e
      · rename_i b' kb' e2
        cases e
        obtain ⟨t, rfl⟩ := h1.asInt e1
        obtain ⟨ns, hn, hb⟩ := inInts_is h2 e2
        refine ⟨y :: ns, .cons _ _ hn, ?_⟩
        rw [List.any_cons, hb, eqB_is]
        have : (y == x) = (x == y) := by
          by_cases q : x = y
          · subst q; simp
          · have q' : ¬ y = x := fun e => q e.symm
            rw [beq_eq_false_iff_ne.mpr q, beq_eq_false_iff_ne.mpr q']
        rw [this]
      · cases e
    · cases e

section
variable {c : Cx} {g : Heap} {env : Env} {as : List Addr} {m : Str → Option Value} {zs ys : List Value} {st : St} {A : Around} {s : Shared} {Q : Value → Shared → Prop} {n : Nat} {k : KV}

theorem isNoneV_is {g : Heap} {as : List Addr} {v : V} {y : Value} (h : VR g as v y) : isNoneV v = (y == .none) := by
  cases v with
  | none => obtain rfl : y = _ := h; rfl
  | bool b => obtain rfl : y = _ := h; rfl
  | sbool b => obtain rfl : y = _ := h; rfl
  | int i => obtain ⟨t, rfl⟩ := h; rfl
  | sint i => obtain ⟨t, rfl⟩ := h; rfl
  | str s => obtain ⟨t, rfl⟩ := h; rfl
  | bytes xs => obtain ⟨⟨t, rfl⟩, _⟩ := h; rfl
  | bi b => obtain rfl : y = _ := h; cases b <;> rfl
  | top a => obtain rfl : y = _ := h; rfl
  | obj i => obtain ⟨a, _, rfl⟩ := h; rfl
  | ro xs => obtain ⟨a, ys, rfl, _⟩ := h; rfl

theorem il_list {as : List Addr} {xs : List Int} {ob : Obj} {h : Heap} {a : Addr} (ho : h.get? a = some ob) (hr : OR c as (.il xs) ob) : ∃ vs, h.IsList a (List.toArray vs) ∧ IntsAre vs xs := by
  obtain ⟨vs, n, rfl, hi, _⟩ := hr
  exact ⟨vs, ⟨_, ho, rfl, n, rfl⟩, hi⟩

theorem any_mem (x : Int) (xs : List Int) : xs.any (· == x) = decide (x ∈ xs) := by
  by_cases h : x ∈ xs
  · rw [decide_eq_true h, List.any_eq_true]; exact ⟨x, h, by simp⟩
  · rw [decide_eq_false h, List.any_eq_false]
    intro y hy q
    have : y = x := by simpa using q
    exact h (this ▸ hy)

theorem sCmp (TO : TabOk c) (G : GOk c g) (AO : AOk A n) (D : InvD c g env as m zs ys st s.heap) (P : Post c g env ys k Q s) {op : CmpOp} {a b : V} {x y : Value} (ha : VR c.ro as a x) (hb : VR c.ro as b y) (hk : cmp op a b st k) : wpN (MD c) A (compareOp op x y) Q s := by
  have hu : A.units + 64 < cLine := by have := AO.units; show A.units + 64 < 9900; omega
  have H := D.gok G
  unfold cmp at hk
  split at hk
  · obtain rfl : y = _ := hb
    rw [isNoneV_is ha] at hk
    exact wpN_any (is_none_gen (D.ret P (v := .bool _) rfl hk))
  · obtain rfl : y = _ := hb
    rw [isNoneV_is ha] at hk
    exact wpN_any (isnot_none_gen (D.ret P (v := .bool _) rfl hk))
  · rename_i j
    obtain ⟨bj, hj, rfl⟩ := hb
    split at hk
    · rename_i i ki xs e1 e2
      obtain ⟨t, rfl⟩ := ha.asInt e1
      obtain ⟨a', ob, ha', ho, us, nn, rfl, hall, hz⟩ := D.obj e2
      rw [hj] at ha'; cases ha'
      split at hk
      · rename_i cc kc e3
        obtain ⟨ns, hn, hb⟩ := inInts_is hall e3
        refine wpN_any (in_tuple_ints (items := List.toArray us) ⟨_, ho, rfl, nn, rfl⟩ hn ?_)
        rw [hb]
        exact D.ret P (VR.mkB kc cc) hk
      · exact hk.elim
    · rename_i i ki xs e1 e2
      obtain ⟨t, rfl⟩ := ha.asInt e1
      obtain ⟨a', ob, ha', ho, hr⟩ := D.obj e2
      rw [hj] at ha'; cases ha'
      obtain ⟨vs, hl, hi⟩ := il_list ho hr
      refine wpN_any (in_list_ints hl hi ?_)
      rw [any_mem]
      exact D.ret P (v := .sbool _) rfl hk
    · exact hk.elim
  · rename_i j
    obtain ⟨bj, hj, rfl⟩ := hb
    split at hk
    · rename_i i ki xs e1 e2
      obtain ⟨t, rfl⟩ := ha.asInt e1
      obtain ⟨a', ob, ha', ho, us, nn, rfl, hall, hz⟩ := D.obj e2
      rw [hj] at ha'; cases ha'
      split at hk
      · rename_i cc kc e3
        obtain ⟨ns, hn, hb⟩ := inInts_is hall e3
        refine wpN_any (notin_tuple_ints (items := List.toArray us) ⟨_, ho, rfl, nn, rfl⟩ hn ?_)
        rw [hb]
        exact D.ret P (VR.mkB kc (!cc)) hk
      · exact hk.elim
    · exact hk.elim
  · exact hk.elim
  · rename_i t
    split at hk
    · rename_i i ki e1 e2
      obtain rfl := Nat.eq_of_beq_eq_true e1
      obtain ⟨u, rfl⟩ := ha.asInt e2
      obtain rfl : y = _ := hb
      obtain ⟨vs, nn, h1, h2⟩ := TO.sizes
      refine wpN_any (notin_tuple_ints (items := List.toArray vs) ⟨_, H.K _ _ h1, rfl, nn, rfl⟩ h2 ?_)
      have : ([1, 2, 4] : List Int).any (· == i) = (eqB i 1 || (eqB i 2 || eqB i 4)) := by
        simp only [List.any_cons, List.any_nil, eqB_is, Bool.or_false]
        have sw : ∀ z : Int, (z == i) = (i == z) := fun z => by
          by_cases q : i = z
          · subst q; simp
          · have q' : ¬ z = i := fun e => q e.symm
            rw [beq_eq_false_iff_ne.mpr q, beq_eq_false_iff_ne.mpr q']
        rw [sw, sw, sw]
      rw [this]
      exact D.ret P (VR.mkB _ _) hk
    · exact hk.elim
  · split at hk
    · rename_i i ki j kj e1 e2
      obtain ⟨t, rfl⟩ := ha.asInt e1
      obtain ⟨u, rfl⟩ := hb.asInt e2
      split at hk
      · rename_i r e3
        exact wpN_any (sIcmp e3 (D.ret P (VR.mkB _ _) hk))
      · exact hk.elim
    · split at hk
      · rename_i xs ys'
        obtain ⟨⟨t, rfl⟩, hx, _⟩ := ha
        obtain ⟨⟨u, rfl⟩, hy, _⟩ := hb
        refine wpN_any (eq_bytes ?_)
        rw [byteArr_eq hx hy]
        exact D.ret P (v := .sbool _) rfl hk
      · rename_i i j _
        split at hk
        · rename_i xs ys' e1 e2
          obtain ⟨p, hp, rfl⟩ := ha
          obtain ⟨q, hq, rfl⟩ := hb
          obtain ⟨a', ob, ha', ho, hr⟩ := D.obj e1
          obtain ⟨b', ob', hb', ho', hr'⟩ := D.obj e2
          rw [hp] at ha'; cases ha'
          rw [hq] at hb'; cases hb'
          obtain ⟨vs, hl, hi⟩ := il_list ho hr
          obtain ⟨vs', hl', hi'⟩ := il_list ho' hr'
          exact wpN_any (ne_intsK hl hi hl' hi' hu (D.ret P (v := .sbool _) rfl hk))
        · exact hk.elim
      · rename_i i j _
        split at hk
        · rename_i xs ys' e1 e2
          obtain ⟨p, hp, rfl⟩ := ha
          obtain ⟨q, hq, rfl⟩ := hb
          obtain ⟨a', ob, ha', ho, hr⟩ := D.obj e1
          obtain ⟨b', ob', hb', ho', hr'⟩ := D.obj e2
          rw [hp] at ha'; cases ha'
          rw [hq] at hb'; cases hb'
          obtain ⟨vs, hl, hi⟩ := il_list ho hr
          obtain ⟨vs', hl', hi'⟩ := il_list ho' hr'
          exact wpN_any (eq_intsK hl hi hl' hi' hu (D.ret P (v := .sbool _) rfl hk))
        · exact hk.elim
      · split at hk
        · rename_i p kp q kq e1 e2
          obtain rfl := ha.asBool e1
          obtain rfl := hb.asBool e2
          exact wpN_any (ne_bool (D.ret P (v := mkB _ _) (VR.mkB _ _) hk))
        · exact hk.elim
      · exact hk.elim
end
end Mine

end
/- B1 -/
section
open PySem PySem.W PyProof.Rows
set_option maxRecDepth 100000
namespace Mine
namespace BF
theorem slot_len : Slot "bytearray" "__len__" "bytearray.__len__" :=
  .of (owner := "bytearray") (n := "__len__") (by rw [typeLookup_type, builtinLookup_eq_fast]; kernel_rfl) (by decide +kernel) (by decide +kernel) (by decide +kernel)
    (by first | exact .inl (by decide +kernel) | exact .inr (by decide +kernel)) (by rw [isSubtype_type]; kernel_rfl)
theorem slot_getitem : Slot "bytearray" "__getitem__" "bytearray.__getitem__" :=
  .of (owner := "bytearray") (n := "__getitem__") (by rw [typeLookup_type, builtinLookup_eq_fast]; kernel_rfl) (by decide +kernel) (by decide +kernel) (by decide +kernel)
    (by first | exact .inl (by decide +kernel) | exact .inr (by decide +kernel)) (by rw [isSubtype_type]; kernel_rfl)
theorem slot_append : Slot "bytearray" "append" "bytearray.append" :=
  .of (owner := "bytearray") (n := "append") (by rw [typeLookup_type, builtinLookup_eq_fast]; kernel_rfl) (by decide +kernel) (by decide +kernel) (by decide +kernel)
    (by first | exact .inl (by decide +kernel) | exact .inr (by decide +kernel)) (by rw [isSubtype_type]; kernel_rfl)
theorem slot_extend : Slot "bytearray" "extend" "bytearray.extend" :=
  .of (owner := "bytearray") (n := "extend") (by rw [typeLookup_type, builtinLookup_eq_fast]; kernel_rfl) (by decide +kernel) (by decide +kernel) (by decide +kernel)
    (by first | exact .inl (by decide +kernel) | exact .inr (by decide +kernel)) (by rw [isSubtype_type]; kernel_rfl)
theorem slot_init : Slot "bytearray" "__init__" "bytearray.__init__" :=
  .of (owner := "bytearray") (n := "__init__") (by rw [typeLookup_type, builtinLookup_eq_fast]; kernel_rfl) (by decide +kernel) (by decide +kernel) (by decide +kernel)
    (by first | exact .inl (by decide +kernel) | exact .inr (by decide +kernel)) (by rw [isSubtype_type]; kernel_rfl)
theorem type_append : typeOf (.builtin "bytearray.append") = pure (.type "method_descriptor") := by show builtinType _ = _; rw [builtinType_eq_fast]; kernel_rfl
theorem type_extend : typeOf (.builtin "bytearray.extend") = pure (.type "method_descriptor") := by show builtinType _ = _; rw [builtinType_eq_fast]; kernel_rfl
theorem entry_len : entryFor table "bytearray.__len__" = some Builtin.«bytearray.__len__» := entryFor_of_tree (by kernel_rfl)
theorem entry_getitem : entryFor table "bytearray.__getitem__" = some Builtin.«bytearray.__getitem__» := entryFor_of_tree (by kernel_rfl)
theorem entry_append : entryFor table "bytearray.append" = some Builtin.«bytearray.append» := entryFor_of_tree (by kernel_rfl)
theorem entry_extend : entryFor table "bytearray.extend" = some Builtin.«bytearray.extend» := entryFor_of_tree (by kernel_rfl)
theorem entry_init : entryFor table "bytearray.__init__" = some Builtin.«bytearray.__init__» := entryFor_of_tree (by kernel_rfl)
theorem plainAttrs : PlainAttrs "bytearray" :=
  ⟨⟨"bytearray.__getattribute__", by rw [typeLookup_type, builtinLookup_eq_fast]; kernel_rfl, by decide +kernel⟩, by rw [typeLookup_type, builtinLookup_eq_fast]; kernel_rfl⟩
theorem args_len (a : Value) : argsOk "bytearray.__len__" ⟨[a], []⟩ := by unfold argsOk; kernel_rfl
theorem args_getitem (a b : Value) : argsOk "bytearray.__getitem__" ⟨[a, b], []⟩ := by unfold argsOk; kernel_rfl
theorem args_append (a b : Value) : argsOk "bytearray.append" ⟨[a, b], []⟩ := by unfold argsOk; kernel_rfl
theorem args_extend (a b : Value) : argsOk "bytearray.extend" ⟨[a, b], []⟩ := by unfold argsOk; kernel_rfl
theorem args_init (a : Value) : argsOk "bytearray.__init__" ⟨[a], []⟩ := by unfold argsOk; kernel_rfl
end BF
end Mine

end
/- B2 -/
section
open PySem PySem.W PyProof.Rows
set_option maxRecDepth 100000
namespace Mine

theorem nd_bad {id : String} {args : Args} (h : nd (.builtin id args) = true) : badIds.contains id = false := by
  unfold nd at h
  simpa using h
theorem bad_dec {id : String} (h : badIds.contains id = false) : Builtin.Bytes.decodersThatHold.contains id = false := by
  cases q : Builtin.Bytes.decodersThatHold.contains id with
  | false => rfl
  | true =>
    have : badIds.contains id = true := by
      unfold badIds
      rw [List.contains_iff_mem] at q ⊢
      exact List.mem_append_left _ q
    rw [h] at this; cases this
theorem bad_ne {id x : String} (h : badIds.contains id = false) (hx : badIds.contains x = true) : id ≠ x := fun e => by
  rw [e, hx] at h; cases h

theorem N_exported {M : Model} {A : Around} {s : Shared} {self : Value} {Q : Bool → Shared → Prop} (h : Q false s) : wpN M A (Builtin.Bytes.exported self) Q s := fun Γ p _ hN => by
  unfold Builtin.Bytes.exported
  show Q (((Γ.code, p) :: Γ.below).any _) s
  have : ∀ x ∈ ((Γ.code, p) :: Γ.below), nd x.1 = true := fun x hx => by
    cases hx with
    | head => exact hN.1
    | tail _ hx => exact hN.2 x hx
  rw [List.any_eq_false.mpr]
  · exact h
  · intro x hx
    have hx := this x hx
    obtain ⟨code, q⟩ := x
    cases code with
    | builtin id args =>
      obtain ⟨pos, kw⟩ := args
      have hb := nd_bad hx
      have e := bad_dec hb
      have n1 := bad_ne (x := "bytearray.__contains__") hb (by decide +kernel)
      have n2 := bad_ne (x := "bytearray.__mod__") hb (by decide +kernel)
      have n3 := bad_ne (x := "bytearray.__rmod__") hb (by decide +kernel)
      have n4 := bad_ne (x := "_struct.pack_into.held") hb (by decide +kernel)
      have n5 := bad_ne (x := "bytearray.find.held") hb (by decide +kernel)
      delta Builtin.Bytes.exported.match_1
      dsimp only
      delta Builtin.Bytes.exported._sparseCasesOn_1
      dsimp only
      rw [dif_neg n1, dif_neg n2, dif_neg n3, dif_neg n4, dif_neg n5]
      cases pos with
      | nil => exact Bool.false_ne_true
      | cons v tl =>
        show ¬ (Builtin.Bytes.sameRef v self && Builtin.Bytes.decodersThatHold.contains id) = true
        rw [e, Bool.and_false]
        exact Bool.false_ne_true
    | _ => exact Bool.false_ne_true

noncomputable abbrev barrO (b : Array UInt8) : Obj := ⟨.type "bytearray", none, .bytearray b 0, #[]⟩

section
variable {prog : Program} {w : World} {A : Around} {s : Shared} {a : Addr} {b : Array UInt8}

theorem wp_payload {E : Value → Shared → Prop} {Q : Array UInt8 → Shared → Prop} (ho : s.heap.get? a = some (barrO b)) (h : Q b s) : wpAny (model prog w) A (Builtin.Bytes.payload (.ref a)) Q E s := by
  unfold Builtin.Bytes.payload Builtin.Bytes.payload?
  exact wpAny_bind (wpAny_bind (wpAny_load ho (wpAny_pure (wpAny_pure h))))
theorem wp_exportsOf {E : Value → Shared → Prop} {Q : Nat → Shared → Prop} (ho : s.heap.get? a = some (barrO b)) (h : Q 0 s) : wpAny (model prog w) A (Builtin.Bytes.exportsOf (.ref a)) Q E s := by
  unfold Builtin.Bytes.exportsOf
  exact wpAny_bind (wpAny_load ho (wpAny_pure h))
theorem N_held {Q : Bool → Shared → Prop} (ho : s.heap.get? a = some (barrO b)) (h : Q false s) : wpN (model prog w) A (Builtin.Bytes.exported (.ref a) <||> (do return (← Builtin.Bytes.exportsOf (.ref a)) > 0)) Q s := by
  unfold orM
  refine wpN_bind (N_exported ?_)
  show wpN _ _ (Builtin.Bytes.exportsOf (.ref a) >>= _) _ _
  exact wpN_bind (wpN_any (wp_exportsOf ho (wpN_pure h)))
theorem N_checkResize {Q : Unit → Shared → Prop} (ho : s.heap.get? a = some (barrO b)) (h : Q () s) : wpN (model prog w) A (Builtin.Bytes.checkResize (.ref a)) Q s := by
  unfold Builtin.Bytes.checkResize
  exact wpN_bind (N_held ho (wpN_pure h))
theorem wp_write {E : Value → Shared → Prop} {f : Array UInt8 → Array UInt8} {Q : Unit → Shared → Prop} (ho : s.heap.get? a = some (barrO b)) (hz : (f b).size ≤ sizeLine)
    (h : ∀ h', h'.get? a = some (barrO (f b)) → Heap.SameBut a s.heap h' → Q () { s with heap := h' }) : wpAny (model prog w) A (Builtin.Bytes.write (.ref a) f) Q E s := by
  show wpAny _ _ (updateBytearray a f) _ _ _
  unfold updateBytearray
  refine wpAny_bind (wpAny_load ho ?_)
  show wpAny _ _ (update a (Obj.mapBytearray f) >>= fun _ => lookBehind a) _ _ _
  refine wpAny_bind (wpAny_update ho ?_)
  have hS₂ : (s.heap.update a (Obj.mapBytearray f)).get? a = some (barrO (f b)) := Heap.get?_update_self (Obj.mapBytearray f) ho rfl
  refine wpAny_lookBehind hS₂ ?_ (h _ hS₂ (Heap.SameBut.update ..))
  show (if (f b).size > sizeLine then some "bytearray:memory" else none) = none
  rw [if_neg (Nat.not_lt.mpr hz)]

theorem N_callBuiltin {T : String} {name : Str} {id : String} {B : Builtin} {self : Value} {rest : List Value} {Q : Value → Shared → Prop} (slot : Slot T name id) (hT : s.TypeIs self T) (entry : entryFor table id = some B)
    (args : argsOk id ⟨self :: rest, []⟩) (hn : (!(badIds.contains id)) = true) (h : wpN (model prog w) A.in1 (B ⟨self :: rest, []⟩) (finN (model prog w) A (isRet Q)) s) : wpN (model prog w) A (call (.builtin id) (self :: rest)) Q s :=
  wpN_call (codeN_call_builtin slot.plain hn entry (wpN_any (slot.check _ _ _ _ _ _ _ _ hT args h)))

theorem N_ba_append {x : Int} {t : Tok} {Q : Value → Shared → Prop} (ho : s.heap.get? a = some (barrO b)) (h0 : 0 ≤ x) (h1 : x < 256) (hz : b.size < sizeLine)
    (h : ∀ h', h'.get? a = some (barrO (b.push x.toNat.toUInt8)) → Heap.SameBut a s.heap h' → Q .none { s with heap := h' }) : wpN (model prog w) A (call (.builtin "bytearray.append") [.ref a, .int x t]) Q s := by
  refine N_callBuiltin BF.slot_append ⟨_, ho, rfl⟩ BF.entry_append (BF.args_append _ _) (by decide +kernel) ?_
  show wpN _ _ (Builtin.Bytes.byteValue (.int x t) >>= fun c => Builtin.Bytes.checkResize (.ref a) >>= fun _ => Builtin.Bytes.write (.ref a) (·.push c) >>= fun _ => ret .none) _ _
  refine wpN_bind (wpN_any (?_ : wpAny _ _ (if (decide (x < 0) || decide (x ≥ 256)) = true then _ else pure x.toNat.toUInt8) _ _ _))
  rw [if_neg (by simp; omega)]
  refine wpAny_pure (?_ : wpN _ _ _ _ _)
  refine wpN_bind (N_checkResize ho (wpN_bind (wpN_any (wp_write ho (by rw [Array.size_push]; exact hz) fun h' e1 e2 => (?_ : wpN _ _ _ _ _)))))
  exact wpN_pure (h h' e1 e2)

theorem ba_len {E : Value → Shared → Prop} {Q : Value → Shared → Prop} (ho : s.heap.get? a = some (barrO b)) (hfit : b.size ≤ 1099511627776) (h : Q (.int b.size (s.toks + 1)) { s with toks := s.toks + 1 + 1 }) : wpAny (model prog w) A (call (.builtin "len") [.ref a]) Q E s := by
  have hT : s.TypeIs (.ref a) "bytearray" := ⟨_, ho, rfl⟩
  refine Calls.call_function_entry kind_len plain_len entry_len (args_len1 _) ?_
  unfold Builtin.«len»
  refine wpAny_bind (m := oneArg "len" _) (wpAny_pure ?_)
  refine wpAny_bind (m := callSpecial? (.ref a) (Str.ofString "__len__")) (wpAny_callSpecial?_slot (name := Str.ofString "__len__") hT BF.slot_len
    (wpAny_call_entry BF.slot_len hT BF.entry_len ?_ (BF.args_len _)))
  show wpAny _ _ (Builtin.Bytes.payload (.ref a) >>= fun b => retInt b.size) _ _ s
  refine wpAny_bind (wp_payload ho (wpAny_bind (wpAny_mkInt (wpAny_pure ⟨_, rfl, ?_⟩))))
  refine wpAny_bind (wpAny_holding (wpAny_pure ?_))
  refine wpAny_bind (wpAny_letGo ?_)
  show wpAny _ _ (if ((b.size : Nat) : Int) < 0 then _ else _) _ _ _
  rw [if_neg (by omega)]
  show wpAny _ _ (if ((b.size : Nat) : Int) ≥ 2 ^ 63 then _ else _) _ _ _
  rw [if_neg (by omega)]
  exact wpAny_bind (wpAny_mkInt (wpAny_pure ⟨_, rfl, h⟩))

theorem ba_item {E : Value → Shared → Prop} {t : Tok} {x : UInt8} {Q : Value → Shared → Prop} (ho : s.heap.get? a = some (barrO b)) (hx : b[0]? = some x) (h : Q (.int x.toNat s.toks) { s with toks := s.toks + 1 }) : wpAny (model prog w) A (PySem.getItem (.ref a) (.int 0 t)) Q E s := by
  have hT : s.TypeIs (.ref a) "bytearray" := ⟨_, ho, rfl⟩
  refine wpAny_getItem_slot hT (by decide) BF.slot_getitem (wpAny_call_entry BF.slot_getitem hT BF.entry_getitem ?_ (BF.args_getitem _ _))
  show wpAny _ A.in1 (Builtin.Bytes.subscript? (.int 0 t) >>= fun r => _) _ E s
  refine wpAny_bind ?_
  unfold Builtin.Bytes.subscript?
  refine wpAny_bind (wpAny_specialOf (typeIs_int s 0 t) F.slot_int_index.lookup ?_)
  show wpAny _ _ (if (!Builtin.Bytes.fitsIndex 0) = true then _ else pure (some 0)) _ E s
  rw [if_neg (by decide)]
  refine wpAny_pure ?_
  show wpAny _ _ (Builtin.Bytes.payload (.ref a) >>= fun b => _) _ E s
  refine wpAny_bind (wp_payload ho ?_)
  have : (seqIndex? 0 b.size).bind (b[·]?) = some x := by
    have hl : 0 < b.size := by
      cases q : b.size with
      | zero => rw [Array.getElem?_eq_none (by omega)] at hx; cases hx
      | succ n => omega
    have : seqIndex? 0 b.size = some 0 := by simp [seqIndex?, hl]
    rw [this]; exact hx
  show wpAny _ _ (match (seqIndex? 0 b.size).bind (b[·]?) with | some x => retInt x.toNat >>= fun y => pure y | none => _) _ E s
  rw [this]
  exact wpAny_bind (wpAny_bind (wpAny_mkInt (wpAny_pure (wpAny_pure ⟨_, rfl, h⟩))))
end
end Mine

end
/- B3 -/
section
open PySem PySem.W PyProof.Rows
set_option maxRecDepth 1000000
set_option maxHeartbeats 4000000
namespace Mine
namespace BF
theorem take_bytes (c : Array UInt8) (t : Tok) : Builtin.Bytes.takeBufferQuiet? "bytearray.extend" (.bytes c t) 0 = pure (some (c, none)) := by
  unfold Builtin.Bytes.takeBufferQuiet? Builtin.Bytes.takeBuffer?
  rw [KBy.special_eq KBy.look_buffer, KBy.own_buffer, show ((0 : Int) == Builtin.Bytes.fullReadOnly) = false from rfl, KBy.buffer_eq]
  kernel_rfl
theorem mro : mroOf (.type "bytearray") = pure [.type "bytearray", .type "object"] := by rw [mroOf_type]; kernel_rfl
theorem lookup_new : typeLookup (.type "bytearray") "__new__" = pure (some (.builtin "bytearray.__new__")) := by rw [typeLookup_type, builtinLookup_eq_fast]; kernel_rfl
theorem called : TypeCalled "bytearray" "bytearray.__new__" "bytearray.__init__" :=
  ⟨by decide +kernel, by decide +kernel, ⟨_, _, mro⟩, madeBy_type mro lookup_new (by decide +kernel), by decide +kernel, by rw [isSubtype_type]; kernel_rfl, slot_init⟩
theorem typeCall : checkTypeCall "bytearray" ⟨[], []⟩ = pure () := by kernel_rfl
theorem newCall : checkBuiltinCall "bytearray.__new__" ⟨[.type "bytearray"], []⟩ = pure () := by kernel_rfl
theorem plain_new : plainId "bytearray.__new__" = true := by decide +kernel
theorem entry_new : entryFor table "bytearray.__new__" = some Builtin.«list.__new__» :=
  entryFor_alias (id' := "list.__new__") (by kernel_rfl) (by first | rfl | decide +kernel) (by decide +kernel) (by kernel_rfl)
theorem no_bytes : typeLookup (.type "bytearray") "__bytes__" = pure none := by rw [typeLookup_type, builtinLookup_eq_fast]; kernel_rfl
theorem noIndex : typeLookup (.type "bytearray") "__index__" = pure none := by rw [typeLookup_type, builtinLookup_eq_fast]; kernel_rfl
theorem look_buffer : typeLookup (.type "bytearray") "__buffer__" = pure (some (.builtin "bytearray.__buffer__")) := by rw [typeLookup_type, builtinLookup_eq_fast]; kernel_rfl
theorem look_release : typeLookup (.type "bytearray") "__release_buffer__" = pure (some (.builtin "bytearray.__release_buffer__")) := by rw [typeLookup_type, builtinLookup_eq_fast]; kernel_rfl
theorem sub_self : isSubtype (.type "bytearray") (.type "bytearray") = pure true := by rw [isSubtype_type]; kernel_rfl

end BF

section
variable {prog : Program} {w : World} {A : Around} {s : Shared} {a : Addr} {b : Array UInt8}

theorem N_ba_extend {c : Array UInt8} {t : Tok} {Q : Value → Shared → Prop} (ho : s.heap.get? a = some (barrO b)) (hz : b.size + c.size ≤ sizeLine)
    (h : ∀ h', h'.get? a = some (barrO (b ++ c)) → Heap.SameBut a s.heap h' → Q .none { s with heap := h' }) : wpN (model prog w) A (call (.builtin "bytearray.extend") [.ref a, .bytes c t]) Q s := by
  refine N_callBuiltin BF.slot_extend ⟨_, ho, rfl⟩ BF.entry_extend (BF.args_extend _ _) (by decide +kernel) ?_
  show wpN _ _ (specialOf (.bytes c t) "__buffer__" >>= fun r => _) _ _
  rw [KBy.special_eq KBy.look_buffer]
  refine wpN_bind (wpN_pure ?_)
  show wpN _ _ (rule _ >>= fun _ => Builtin.Bytes.payload (.ref a) >>= fun pb => _) _ _
  refine wpN_bind (wpN_any (wpAny_rule (?_ : wpN _ _ _ _ _)))
  refine wpN_bind (wpN_any (wp_payload ho (?_ : wpN _ _ _ _ _)))
  refine wpN_bind (wpN_any (wpAny_of_eq (BF.take_bytes c t) (?_ : wpN _ _ _ _ _)))
  show wpN _ _ (if (!c.isEmpty) = true then (Builtin.Bytes.checkResize (.ref a)) >>= fun _ => (Builtin.Bytes.write (.ref a) (· ++ c)) >>= fun _ => ret .none else (Builtin.Bytes.write (.ref a) (· ++ c)) >>= fun _ => ret .none) _ _
  have fin : wpN (model prog w) A.in1 ((Builtin.Bytes.write (.ref a) (· ++ c)) >>= fun _ => ret .none) (finN (model prog w) A (isRet Q)) s := by
    refine wpN_bind (wpN_any (wp_write ho (by rw [Array.size_append]; exact hz) fun h' e1 e2 => (?_ : wpN _ _ _ _ _)))
    exact wpN_pure (h h' e1 e2)
  split
  · exact wpN_bind (N_checkResize ho fin)
  · exact fin

theorem inst_self {E : Value → Shared → Prop} {Q : Bool → Shared → Prop} (ho : s.heap.get? a = some (barrO b)) (h : Q true s) (x : String) (hx : x = "bytearray") : wpAny (model prog w) A (isInstance (.ref a) (.type x)) Q E s := by
  subst hx
  exact wpAny_isInstance ⟨_, ho, rfl⟩ BF.sub_self h
theorem wp_ownBuffer {E : Value → Shared → Prop} {Q : Bool → Shared → Prop} (ho : s.heap.get? a = some (barrO b)) (h : Q true s) : wpAny (model prog w) A (Builtin.Bytes.slotIsOwn (.ref a) "__buffer__") Q E s := by
  unfold Builtin.Bytes.slotIsOwn
  refine wpAny_bind (wpAny_specialOf (T := "bytearray") ⟨_, ho, rfl⟩ BF.look_buffer ?_)
  dsimp only
  split
  · rename_i hx; exact absurd hx (by decide +kernel)
  · exact inst_self ho h _ (by decide +kernel)
theorem wp_ownRelease {E : Value → Shared → Prop} {Q : Bool → Shared → Prop} (ho : s.heap.get? a = some (barrO b)) (h : Q true s) : wpAny (model prog w) A (Builtin.Bytes.slotIsOwn (.ref a) "__release_buffer__") Q E s := by
  unfold Builtin.Bytes.slotIsOwn
  refine wpAny_bind (wpAny_specialOf (T := "bytearray") ⟨_, ho, rfl⟩ BF.look_release ?_)
  dsimp only
  split
  · rename_i hx; exact absurd hx (by decide +kernel)
  · exact inst_self ho h _ (by decide +kernel)
theorem wp_buffer {E : Value → Shared → Prop} {id : String} {full : Bool} {Q : Option (Array UInt8) → Shared → Prop} (ho : s.heap.get? a = some (barrO b)) (h : Q (some b) s) : wpAny (model prog w) A (Builtin.Bytes.buffer? id (.ref a) full) Q E s := by
  have hT : s.TypeIs (.ref a) "bytearray" := ⟨_, ho, rfl⟩
  unfold Builtin.Bytes.buffer?
  refine wpAny_bind (wpAny_specialOf hT BF.look_buffer ?_)
  refine wpAny_bind (wp_ownBuffer ho ?_)
  refine wpAny_bind (wpAny_specialOf hT BF.look_buffer ?_)
  unfold Builtin.Bytes.ownRelease
  refine wpAny_bind (wpAny_bind (wp_ownRelease ho ?_))
  refine wpAny_pure ?_
  exact wpAny_bind (wp_payload ho (wpAny_pure h))

theorem ba_bytes_new {E : Value → Shared → Prop} {Q : Value → Shared → Prop} (ho : s.heap.get? a = some (barrO b)) (hz : b.size ≤ sizeLine) (hQ : ∀ t k, Q (.bytes b t) { s with toks := k }) :
    codeAny (model prog w) A (.call (.builtin "bytes.__new__") ⟨[.type "bytes", .ref a], []⟩) (wants Q E) s := by
  refine codeAny_of_tree ?_
  show wpAny _ A.in1 (do checkBuiltinCall "bytes.__new__" ⟨[.type "bytes", .ref a], []⟩; again (.builtin "bytes.__new__" ⟨[.type "bytes", .ref a], []⟩)) _ _ s
  refine wpAny_bind (wpAny_of_eq (F.bm_newCall _) (wpAny_pure ⟨plainId_quiet F.bm_plain _, codeAny_builtin F.bm_entry ?_⟩))
  rw [Around.under_plainId F.bm_plain _]
  have hT : s.TypeIs (.ref a) "bytearray" := ⟨_, ho, rfl⟩
  unfold Builtin.«bytes.__new__»
  refine wpAny_bind (wpAny_of_eq (a := true) rfl ?_)
  refine bm_if_false rfl ?_
  refine wpAny_bind (wpAny_of_eq F.bm_sub ?_)
  refine bm_if_false rfl ?_
  refine wpAny_bind (wpAny_of_eq (F.bm_bind _) ?_)
  refine wpAny_bind (wpAny_of_eq (a := ()) rfl ?_)
  refine wpAny_bind (wpAny_of_eq (a := ()) rfl ?_)
  refine bm_if_false rfl ?_
  refine wpAny_bind (wpAny_specialOf hT BF.no_bytes ?_)
  refine wpAny_bind (wpAny_bind ?_)
  show wpAny _ _ (load a >>= _) _ _ _
  refine wpAny_bind (wpAny_load ho ?_)
  refine wpAny_pure (wpAny_pure ?_)
  refine bm_if_false rfl ?_
  refine wpAny_bind (wpAny_specialOf hT BF.noIndex ?_)
  refine bm_if_true rfl ?_
  have fin : wpAny (model prog w) A.in1 (Builtin.Bytes.buffer? "bytes.__new__" (.ref a) true) (fun r s₁ => r = some b ∧ s₁ = s) (fun _ _ => False) s := wp_buffer ho ⟨rfl, rfl⟩
  first
    | show wpAny _ _ (Builtin.Bytes.buffer? "bytes.__new__" (.ref a) true >>= _) _ _ _
    | (refine wpAny_bind ?_; show wpAny _ _ (Builtin.Bytes.buffer? "bytes.__new__" (.ref a) true >>= _) _ _ _)
  refine wpAny_bind (wp_buffer ho ?_)
  refine wpAny_bind (wpAny_rule ?_)
  refine wpAny_bind (wpAny_mkBytes ?_ hz)
  show wpAny _ _ (if (Value.type "bytes" == Value.type "bytes") = true then _ else _) _ _ _
  refine bm_if_true (by decide) ?_
  first
    | exact wpAny_pure (wpAny_pure (wpAny_pure (hQ _ _)))
    | exact wpAny_pure (wpAny_pure (hQ _ _))
    | exact wpAny_pure (hQ _ _)
theorem ba_bytes {E : Value → Shared → Prop} {Q : Value → Shared → Prop} (ho : s.heap.get? a = some (barrO b)) (hz : b.size ≤ sizeLine) (hQ : ∀ t k, Q (.bytes b t) { s with toks := k }) : wpAny (model prog w) A (call (.type "bytes") [.ref a]) Q E s := by
  refine callType_codes (Q₁ := fun obj s₁ => s₁.TypeIs obj "bytes" ∧ Q obj s₁) F.bm_called (F.bm_typeCall _) F.entry_object_init
    (ba_bytes_new ho hz fun t k => ⟨PySem.W.typeIs_bytes _ _ _, hQ t k⟩) fun obj s₁ h₁ => ?_
  exact ⟨h₁.1, F.args_object_init_2 obj _, object_init_meets F.bm_called.init.lookup F.bm_called.made (by decide) prog w A.in1 _ s₁ ⟨h₁.1, rfl, h₁.2⟩⟩

theorem bounds_from (n : Int) (k : Nat) (h0 : 0 ≤ n) : sliceBounds (some n) none none k = sliceBounds (some ((min n.toNat k : Nat) : Int)) none none k := by
  simp only [sliceBounds, Option.getD_none, show (1 : Int) > 0 by decide, if_true, Prod.mk.injEq, and_true]
  rw [if_neg (by omega), if_neg (by omega)]
  omega
theorem bounds_is (m k : Nat) (h : m ≤ k) : sliceBounds (some (m : Int)) none none k = ((m : Int), (k : Int), 1) := by
  simp only [sliceBounds, Option.getD_none, show (1 : Int) > 0 by decide, if_true, Prod.mk.injEq, and_true]
  rw [if_neg (by omega)]
  omega
theorem sliced_from (b : Array UInt8) (n : Int) (h0 : 0 ≤ n) : Builtin.Bytes.sliced b (sliceBounds (some n) none none b.size).1 (sliceBounds (some n) none none b.size).2.1 (sliceBounds (some n) none none b.size).2.2 = (b.toList.drop n.toNat).toArray := by
  unfold Builtin.Bytes.sliced
  rw [bounds_from n b.size h0, bounds_is _ _ (Nat.min_le_right _ _)]
  dsimp only
  rw [sliceRange_one, pick_run]
  congr 1
  have hl : b.toList.length = b.size := Array.length_toList
  rcases Nat.le_total n.toNat b.size with h | h
  · rw [Nat.min_eq_left h, List.take_of_length_le (by rw [List.length_drop, hl]; exact Nat.le_refl _)]
  · rw [Nat.min_eq_right h, Nat.sub_self, List.take_zero, List.drop_eq_nil_of_le (by rw [hl]; exact h)]
theorem ba_slice {E : Value → Shared → Prop} {sl : Addr} {n : Int} {t : Tok} {Q : Value → Shared → Prop} (ho : s.heap.get? a = some (barrO b)) (hs : s.heap.IsSliceOf sl (.int n t) .none .none) (h0 : 0 ≤ n) (hz : b.size ≤ sizeLine)
    (h : Q (.ref s.heap.objs.size) { s with heap := s.heap.push (barrO (b.toList.drop n.toNat).toArray) }) : wpAny (model prog w) A (PySem.getItem (.ref a) (.ref sl)) Q E s := by
  have hT : s.TypeIs (.ref a) "bytearray" := ⟨_, ho, rfl⟩
  obtain ⟨os, hos, hcs, hds⟩ := id hs
  have hTs : s.TypeIs (.ref sl) "slice" := ⟨os, hos, hcs⟩
  refine wpAny_getItem_slot hT (by decide) BF.slot_getitem (wpAny_call_entry BF.slot_getitem hT BF.entry_getitem ?_ (BF.args_getitem _ _))
  show wpAny _ A.in1 (Builtin.Bytes.subscript? (.ref sl) >>= fun r => _) _ E s
  refine wpAny_bind ?_
  unfold Builtin.Bytes.subscript?
  refine wpAny_bind (wpAny_specialOf hTs slice_no_index ?_)
  refine bm_if_true rfl (wpAny_pure ?_)
  show wpAny _ _ (typeOf (.ref sl) >>= _) _ _ s
  refine wpAny_bind (wpAny_typeOf hTs ?_)
  refine bm_if_false (by decide) ?_
  refine wpAny_bind ?_
  unfold Builtin.Bytes.sliceParts
  refine wpAny_bind (wpAny_field hos hds (x := .none) rfl ?_)
  refine wpAny_bind (wpAny_pure (a := Value.none) ?_)
  refine bm_if_false (by decide) ?_
  refine wpAny_bind (wpAny_field hos hds (x := .int n t) rfl ?_)
  refine wpAny_bind ?_
  refine bm_if_false rfl ?_
  refine wpAny_bind (wpAny_specialOf (typeIs_int s n t) F.slot_int_index.lookup ?_)
  refine bm_if_false rfl ?_
  refine wpAny_bind (wpAny_of_eq (rfl : asIndex (.int n t) = pure n) (wpAny_pure ?_))
  refine wpAny_bind (wpAny_field hos hds (x := .none) rfl ?_)
  refine wpAny_bind (wpAny_pure (a := Value.none) (wpAny_pure ?_))
  dsimp only
  refine wpAny_bind (wp_payload ho ?_)
  refine wpAny_bind (wpAny_of_eq (sliceIndices_raw (some n) none none b.size (by simp)) ?_)
  show wpAny _ _ (Builtin.Bytes.newBytearray (Builtin.Bytes.sliced b (sliceBounds (some n) none none b.size).1 (sliceBounds (some n) none none b.size).2.1 (sliceBounds (some n) none none b.size).2.2) >>= _) _ _ _
  rw [sliced_from b n h0]
  refine wpAny_bind ?_
  unfold Builtin.Bytes.newBytearray
  refine wpAny_newObj_type (wpAny_pure ⟨_, rfl, h⟩) ?_
  show (b.toList.drop n.toNat).toArray.size ≤ sizeLine
  rw [List.size_toArray, List.length_drop, Array.length_toList]
  omega
end
end Mine

end
/- B4 -/
section
open PySem PySem.W PyProof.Rows
set_option maxRecDepth 1000000
set_option maxHeartbeats 4000000
namespace Mine
section
variable {prog : Program} {w : World} {A : Around} {s : Shared}

theorem codeN_builtin {id : String} {args : Args} {b : Builtin} {R : Flow → Shared → Prop} (hb : entryFor table id = some b) (hn : (!(badIds.contains id)) = true)
    (h : wpN (model prog w) (A.under (.builtin id args)) (b args) (finN (model prog w) A R) s) : codeN (model prog w) A (.builtin id args) R s := by
  refine codeN_tree hn ?_
  show wpN _ _ (match entryFor table id with | some b => b args | none => unsupported ((withoutEnding? id "#data").getD id)) _ s
  rw [hb]; exact h

theorem N_if_false {α : Type} {M : Model} {c : Bool} {a b : Sem α} {Q : α → Shared → Prop} (hc : c = false) (h : wpN M A b Q s) : wpN M A (if c = true then a else b) Q s := by
  subst hc
  exact h
theorem N_if_true {α : Type} {M : Model} {c : Bool} {a b : Sem α} {Q : α → Shared → Prop} (hc : c = true) (h : wpN M A a Q s) : wpN M A (if c = true then a else b) Q s := by
  subst hc
  exact h

theorem owner_ba_new : ("bytearray.__new__".splitOn ".__new__").headD "" = "bytearray" := by simp +decide [String.splitOn, String.splitOnAux]
theorem ba_code_new {E : Value → Shared → Prop} {Q₁ : Value → Shared → Prop}
    (h : Q₁ (.ref s.heap.objs.size) { s with heap := s.heap.push (barrO #[]) }) :
    codeAny (model prog w) A (.call (.builtin "bytearray.__new__") ⟨[.type "bytearray"], []⟩) (wants Q₁ E) s := by
  refine codeAny_of_tree ?_
  show wpAny _ A.in1 (do checkBuiltinCall "bytearray.__new__" ⟨[.type "bytearray"], []⟩; again (.builtin "bytearray.__new__" ⟨[.type "bytearray"], []⟩)) _ _ s
  refine wpAny_bind (wpAny_of_eq BF.newCall (wpAny_pure ⟨plainId_quiet BF.plain_new _, codeAny_builtin_stack BF.entry_new rfl fun p st => ?_⟩))
  rw [Around.under_plainId BF.plain_new _]
  have hown := owner_ba_new
  simp only [hown]
  refine wpAny_bind (wpAny_of_eq (a := true) rfl ?_)
  refine bm_if_false rfl ?_
  refine wpAny_bind (wpAny_of_eq BF.sub_self ?_)
  refine bm_if_false rfl ?_
  refine wpAny_bind (wpAny_pure ?_)
  refine bm_if_true (by decide +kernel) ?_
  exact wpAny_bind (wpAny_newObj_type (wpAny_pure h) (Nat.zero_le _))

theorem bindO_init : Builtin.Bytes.bindOptional "bytearray.__init__" "bytearray" ["source", "encoding", "errors"] [] [] = pure [none, none, none] := by kernel_rfl
theorem N_ba_init {A' : Around} {a : Addr} {R : Flow → Shared → Prop} (ho : s.heap.get? a = some (barrO #[]))
    (h : ∀ h', h'.get? a = some (barrO #[]) → Heap.SameBut a s.heap h' → R (.ret .none) { s with heap := h' }) : wpN (model prog w) A' (Builtin.«bytearray.__init__» ⟨[.ref a], []⟩) (finN (model prog w) A R) s := by
  show wpN _ _ (Builtin.Bytes.ownRelease (.ref a) >>= fun r => _) _ _
  refine wpN_bind ?_
  unfold Builtin.Bytes.ownRelease
  refine wpN_bind (wpN_any (wp_ownRelease ho (?_ : wpN _ _ _ _ _)))
  refine wpN_pure (N_if_false rfl ?_)
  refine wpN_bind (wpN_any (wpAny_of_eq bindO_init (?_ : wpN _ _ _ _ _)))
  dsimp only
  refine wpN_bind (wpN_pure (a := ()) ?_)
  refine wpN_bind (wpN_pure (a := ()) ?_)
  refine wpN_bind (N_held ho ?_)
  refine N_if_false rfl ?_
  refine wpN_bind (wpN_any (wp_write ho (Nat.zero_le _) fun h' e1 e2 => (?_ : wpN _ _ _ _ _)))
  refine wpN_bind (N_if_false rfl (N_if_false rfl (wpN_pure ?_)))
  exact wpN_pure (h h' e1 e2)

theorem okR_wants {R : Value → Shared → Prop} {r : Result} {s : Shared} (h : wants R noE r s) : okR (isRet R) r s := by
  cases r with
  | error e => exact h
  | ok f => cases f <;> exact h
theorem N_bytearray {Q : Value → Shared → Prop} (h : ∀ h' k, h'.get? s.heap.objs.size = some (barrO #[]) → (∀ b o, s.heap.get? b = some o → h'.get? b = some o) → Q (.ref s.heap.objs.size) { s with heap := h', toks := k }) : wpN (model prog w) A (call (.type "bytearray") []) Q s := by
  have ft := BF.called
  refine wpN_call (codeN_tree rfl ?_)
  show wpN _ _ (callAny (.type "bytearray") _) _ _
  refine wpN_pure ⟨Code.quiet_builtin _ (by decide +kernel), codeN_builtin F.entry_type_call (by decide +kernel) ?_⟩
  rw [Around.under_plain (weight_type_call_type "bytearray" [] []) rfl]
  unfold Builtin.«type.__call__»
  dsimp only
  refine N_if_false ft.notType ?_
  refine N_if_false ft.canCreate ?_
  refine wpN_bind (wpN_any (wpAny_of_eq BF.typeCall (?_ : wpN _ _ _ _ _)))
  refine wpN_bind (wpN_any (wpAny_of_eq BF.mro (?_ : wpN _ _ _ _ _)))
  refine N_if_false rfl ?_
  refine wpN_bind (wpN_any (wpAny_of_eq ft.made (?_ : wpN _ _ _ _ _)))
  dsimp only
  refine wpN_bind (wpN_pure ?_)
  have ho : (s.heap.push (barrO #[])).get? s.heap.objs.size = some (barrO #[]) := Heap.get?_push_size _ rfl
  have hnew : codeN (model prog w) A.in1 (.call (.builtin "bytearray.__new__") ⟨[.type "bytearray"], []⟩) (isRet fun obj s₁ => obj = .ref s.heap.objs.size ∧ s₁ = { s with heap := s.heap.push (barrO #[]) }) s :=
    codeN_any (codeAny_mono (ba_code_new (E := noE) ⟨rfl, rfl⟩) fun r s' z => okR_wants z)
  refine wpN_bind (wpN_holding (wpN_mono (wpN_call hnew) fun obj s₁ z => ?_))
  obtain ⟨rfl, rfl⟩ := z
  refine wpN_bind (wpN_any (inst_self ho (?_ : wpN _ _ _ _ _) _ rfl))
  refine N_if_false rfl ?_
  have hT : ({ s with heap := s.heap.push (barrO #[]) } : Shared).TypeIs (.ref s.heap.objs.size) "bytearray" := ⟨_, ho, rfl⟩
  refine wpN_bind (wpN_holding ?_)
  unfold callSpecial?
  refine wpN_bind (wpN_any (wpAny_specialOf hT BF.slot_init.lookup (?_ : wpN _ _ _ _ _)))
  dsimp only
  rw [BF.slot_init.bind]
  refine wpN_holding (wpN_bind (wpN_pure ?_))
  refine wpN_bind (wpN_mono (Q := fun r s₂ => r = .none ∧ ∃ h', s₂ = { s with heap := h' } ∧ h'.get? s.heap.objs.size = some (barrO #[]) ∧ Heap.SameBut s.heap.objs.size (s.heap.push (barrO #[])) h') (N_callBuiltin BF.slot_init hT BF.entry_init (BF.args_init _) (by decide +kernel) (N_ba_init ho fun h' e1 e2 => ⟨rfl, h', rfl, e1, e2⟩)) fun r s₂ z => ?_)
  obtain ⟨rfl, h', rfl, e1, e2⟩ := z
  refine wpN_pure ?_
  dsimp only
  refine N_if_false rfl ?_
  refine wpN_pure (h h' _ e1 fun b o e => ?_)
  exact e2.extBut b o (Nat.ne_of_lt (Heap.lt_size e)) (Heap.get?_push_of_some _ e)
end
end Mine

end
/- C1 -/
section
open PySem PySem.W PyProof.Rows
set_option maxRecDepth 1000000
set_option maxHeartbeats 4000000
namespace Mine
section
variable {prog : Program} {w : World} {A : Around} {s : Shared}

theorem codeN_make {C fI : Addr} {rest : List Value} {K : Frag} {R : Value → Shared → Prop} (X : K.In s.heap) (hm : makesIn K C = true) (hi : findIn K (.ref C) "__init__" = some (some (.ref fI))) (hf : typeIn K (.ref fI) = some (.type "function"))
    (hq : codeN (model prog w) (A.under (.builtin "type.__call__" ⟨.ref C :: rest, []⟩)) (.call (.ref fI) ⟨.ref (s.heap.objs.size + 1) :: rest, []⟩) (isRet fun v s' => v = .none ∧ R (.ref (s.heap.objs.size + 1)) s')
      { s with heap := (s.heap.push emptyDict).push (instObj C s.heap.objs.size) }) :
    codeN (model prog w) A (.call (.ref C) ⟨rest, []⟩) (isRet R) s := by
  have Y := makes_of (M := model prog w) X hm
  have Y' := Y
  obtain ⟨⟨oc, od, cd, sl, hC, e1, e2, e4⟩, made, base, self, top, call, typ⟩ := Y
  have hiL := looks_findIn (M := model prog w) X hi
  refine codeN_tree rfl ?_
  show wpN _ _ (callAny (.ref C) _) _ _
  simp only [callAny]
  refine wpN_bind (wpN_any (wpAny_load hC (?_ : wpN _ _ _ _ _)))
  dsimp only
  unfold callAny.viaDunder
  refine wpN_bind (wpN_any (call.here (?_ : wpN _ _ _ _ _)))
  dsimp only
  rw [tc_bind]
  refine wpN_bind (wpN_pure (wpN_bind (wpN_pure ?_)))
  refine wpN_pure (a := Fin.again (.call (.builtin "type.__call__") ⟨.ref C :: rest, []⟩)) (And.intro rfl ?_)
  refine codeN_tree rfl ?_
  show wpN _ _ (do checkBuiltinCall "type.__call__" ⟨.ref C :: rest, []⟩; again (.builtin "type.__call__" ⟨.ref C :: rest, []⟩)) _ s
  refine wpN_bind (wpN_any (check_slot tc_kind tc_split typ (tc_args _ _ _) (?_ : wpN _ _ _ _ _)))
  refine wpN_pure ⟨Code.quiet_builtin _ (by decide +kernel), codeN_builtin entry_typeCall (by decide +kernel) ?_⟩
  unfold Builtin.«type.__call__»
  have hml : Looks (model prog w) s.heap (mroOf (.ref C)) cd.mro := ((Looks.ld (part := none) hC).andThen .now).andThen .now
  dsimp only
  refine N_if_false rfl ?_
  refine wpN_bind (wpN_any (hml.here (?_ : wpN _ _ _ _ _)))
  refine N_if_false e4 ?_
  refine wpN_bind (wpN_any (made.here (?_ : wpN _ _ _ _ _)))
  dsimp only
  refine wpN_bind (wpN_pure ?_)
  obtain ⟨h, g, d, t, os⟩ := s
  have hnew : codeN (model prog w) (A.under (.builtin "type.__call__" ⟨.ref C :: rest, []⟩)) (.call (.builtin "object.__new__") ⟨.ref C :: rest, []⟩) (isRet fun obj s₁ => obj = .ref (h.objs.size + 1) ∧ s₁ = ⟨(h.push emptyDict).push (instObj C h.objs.size), g, d, t, os⟩) ⟨h, g, d, t, os⟩ :=
    codeN_any (codeAny_mono (new_K (R := wants (fun obj s₁ => obj = .ref (h.objs.size + 1) ∧ s₁ = ⟨(h.push emptyDict).push (instObj C h.objs.size), g, d, t, os⟩) noE) Y' hiL (.inl rfl) ⟨rfl, rfl⟩) fun r s' z => okR_wants z)
  refine wpN_bind (wpN_holding (wpN_mono (wpN_call hnew) fun obj s₁ z => ?_))
  obtain ⟨rfl, rfl⟩ := z
  have k : ∀ b o, h.get? b = some o → ((h.push emptyDict).push (instObj C h.objs.size)).get? b = some o := fun b o e => Heap.get?_push_of_some _ (Heap.get?_push_of_some _ e)
  have hx : ((h.push emptyDict).push (instObj C h.objs.size)).get? (h.objs.size + 1) = some (instObj C h.objs.size) := by
    have := Heap.get?_push_size (h.push emptyDict) (o := instObj C h.objs.size) rfl
    rwa [Heap.size_push] at this
  have t1 : Looks (model prog w) ((h.push emptyDict).push (instObj C h.objs.size)) (typeOf (.ref (h.objs.size + 1))) (.ref C) := (Looks.ld hx).andThen .now
  have s1 := self.keeps k
  have i1 := hiL.keeps k
  have b1 := (bind_fn (M := model prog w) X (.ref (h.objs.size + 1)) hf).keeps k
  have inst : Looks (model prog w) ((h.push emptyDict).push (instObj C h.objs.size)) (isInstance (.ref (h.objs.size + 1)) (.ref C)) true := t1.andThen s1
  refine wpN_bind (wpN_any (inst.here (?_ : wpN _ _ _ _ _)))
  refine N_if_false rfl ?_
  refine wpN_bind (wpN_holding ?_)
  unfold callSpecial?
  have sp : Looks (model prog w) ((h.push emptyDict).push (instObj C h.objs.size)) (specialOf (.ref (h.objs.size + 1)) "__init__") (some (.ref fI)) := t1.andThen i1
  refine wpN_bind (wpN_any (sp.here (?_ : wpN _ _ _ _ _)))
  dsimp only
  refine wpN_holding (wpN_bind (wpN_any (b1.here (?_ : wpN _ _ _ _ _))))
  refine wpN_bind (wpN_mono (wpN_call hq) fun r s₂ z => ?_)
  obtain ⟨rfl, z⟩ := z
  refine wpN_pure ?_
  dsimp only
  refine N_if_false rfl ?_
  exact wpN_pure z
end
end Mine

end
/- S7 -/
section
open PySem PySem.W PyProof.Rows
namespace Mine

theorem byteArr_toList (xs : List Int) : (byteArr xs).toList = xs.map fun n : Int => n.toNat.toUInt8 := by unfold byteArr; rfl
theorem byteArr_drop (xs : List Int) (n : Nat) : ((byteArr xs).toList.drop n).toArray = byteArr (xs.drop n) := by
  unfold byteArr; simp [List.map_drop]
theorem byteArr_push (xs : List Int) (x : Int) : (byteArr xs).push x.toNat.toUInt8 = byteArr (xs ++ [x]) := by
  unfold byteArr; simp
theorem byteArr_append (xs ys : List Int) : byteArr xs ++ byteArr ys = byteArr (xs ++ ys) := by
  unfold byteArr; simp
theorem byteArr_len (xs : List Int) : (byteArr xs).size = xs.length := byteArr_size xs

/-- dicts: the library's form, and back -/
noncomputable def KR (c : Cx) (as : List Addr) (p : Str × V) (kv : Str × Value) : Prop := kv.1 = p.1 ∧ VR c.ro as p.2 kv.2
theorem dict_to {c : Cx} {as : List Addr} {es : List (Str × V)} {ds : List DictEntry} (h : All2 (ER c as) es ds) : ∃ kvs, All2 (KR c as) es kvs ∧ Pairs (strKind c.prog c.w) ds kvs ∧ ∀ e ∈ ds, ∃ k, (strKind c.prog c.w).is k e.key = true ∧ e.hash = (strKind c.prog c.w).hash k := by
  induction h with
  | nil => exact ⟨[], .nil, .nil, fun _ h => (nomatch h)⟩
  | @cons p e es ds h1 _ ih =>
    obtain ⟨kvs, a, b, d⟩ := ih
    obtain ⟨⟨t, hk⟩, hh, hv⟩ := h1
    have hkey : (strKind c.prog c.w).is p.1 e.key = true := by rw [hk]; show (p.1 == p.1) = true; simp
    refine ⟨(p.1, e.val) :: kvs, .cons ⟨rfl, hv⟩ a, .cons hkey rfl b, fun x hx => ?_⟩
    rcases List.mem_cons.mp hx with rfl | hx
    · exact ⟨p.1, hkey, hh⟩
    · exact d x hx
theorem kr_keys {c : Cx} {as : List Addr} {es : List (Str × V)} {kvs : List (Str × Value)} (h : All2 (KR c as) es kvs) : kvs.map (·.1) = es.map (·.1) := by
  induction h with
  | nil => rfl
  | cons h1 _ ih => rw [List.map_cons, List.map_cons, h1.1, ih]
theorem dict_of {c : Cx} {as : List Addr} {es : List (Str × V)} {ds : List DictEntry} {h : Heap} {a : Addr} {nn : Nat} (hall : All2 (ER c as) es ds) (hnd : (es.map (·.1)).Nodup) (ho : h.get? a = some ⟨.type "dict", none, .dict (List.toArray ds) nn, #[]⟩) :
    ∃ kvs, All2 (KR c as) es kvs ∧ h.DictOf (strKind c.prog c.w) a kvs := by
  obtain ⟨kvs, q, b, d⟩ := dict_to hall
  exact ⟨kvs, q, _, _, nn, ho, ⟨rfl, rfl, rfl⟩, rfl, fun e he => d e (by simpa using he), b, by rw [kr_keys q]; exact hnd⟩
theorem dict_back {c : Cx} {as : List Addr} : ∀ {es : List (Str × V)} {kvs : List (Str × Value)} {ds : List DictEntry}, All2 (KR c as) es kvs → Pairs (strKind c.prog c.w) ds kvs → (∀ e ∈ ds, ∃ k, (strKind c.prog c.w).is k e.key = true ∧ e.hash = (strKind c.prog c.w).hash k) → All2 (ER c as) es ds
  | _, _, _, .nil, .nil, _ => .nil
  | p :: es, kv :: kvs, e :: ds, .cons h1 h2, .cons g1 g2 g3, d => by
    refine .cons ?_ (dict_back h2 g3 fun x hx => d x (.tail _ hx))
    obtain ⟨t, ht⟩ := Value.isStrOf_shape g1
    obtain ⟨k, hk, hh⟩ := d e (.head _)
    obtain ⟨t', ht'⟩ := Value.isStrOf_shape hk
    rw [ht] at ht'
    injection ht' with hkk _
    refine ⟨⟨t, by rw [ht, h1.1]⟩, ?_, by rw [g2]; exact h1.2⟩
    rw [hh, ← hkk, h1.1]; rfl
theorem dict_from {c : Cx} {as : List Addr} {es : List (Str × V)} {kvs : List (Str × Value)} {h : Heap} {a : Addr} (q : All2 (KR c as) es kvs) (hd : h.DictOf (strKind c.prog c.w) a kvs) : ∃ ob, h.get? a = some ob ∧ OR c as (.dict es) ob := by
  obtain ⟨o, ds, ep, ho, ⟨x1, x2, x3⟩, hdat, hk, hp, hnd⟩ := hd
  obtain ⟨cl, dd, dt, sl⟩ := o
  simp only at x1 x2 x3 hdat
  subst x1; subst x2; subst x3; subst hdat
  refine ⟨_, ho, ds.toList, ep, by simp, dict_back q hp fun e he => hk e (by simpa using he), by rw [← kr_keys q]; exact hnd⟩
theorem valueAt_of {c : Cx} {as : List Addr} {es : List (Str × V)} {kvs : List (Str × Value)} (q : All2 (KR c as) es kvs) {x : Str} {v : V} (e : lget x es = some v) : ∃ y, valueAt kvs x = some y ∧ VR c.ro as v y := by
  induction q with
  | nil => cases e
  | @cons p kv es kvs h1 _ ih =>
    unfold lget at e
    unfold valueAt
    rw [List.find?_cons]
    cases h : strEq p.1 x with
    | true =>
      rw [h] at e; cases e
      have := (strEq_iff _ _).mp h
      rw [decide_eq_true (by rw [h1.1]; exact this)]
      exact ⟨_, rfl, h1.2⟩
    | false =>
      rw [h] at e
      have := strEq_false h
      rw [decide_eq_false (by rw [h1.1]; exact this)]
      exact ih e
theorem stored_of {c : Cx} {as : List Addr} {es : List (Str × V)} {kvs : List (Str × Value)} (q : All2 (KR c as) es kvs) (hnd : (es.map (·.1)).Nodup) {x : Str} {v : V} {y : Value} (hv : VR c.ro as v y) : All2 (KR c as) (lset x v es) (stored kvs x y) := by
  induction q with
  | nil => exact .cons ⟨rfl, hv⟩ .nil
  | @cons p kv es kvs h1 h2 ih =>
    rw [List.map_cons, List.nodup_cons] at hnd
    unfold lset stored
    rw [List.any_cons]
    cases h : strEq p.1 x with
    | true =>
      have e := (strEq_iff _ _).mp h
      rw [decide_eq_true (by rw [h1.1]; exact e)]
      simp only [Bool.true_or, if_true, List.map_cons]
      rw [if_pos (by rw [h1.1]; exact e)]
      refine .cons ⟨h1.1, hv⟩ ?_
      rw [map_store_of_not_mem]
      · exact h2
      · rw [kr_keys h2, ← e]; exact hnd.1
    | false =>
      have e := strEq_false h
      rw [decide_eq_false (by rw [h1.1]; exact e)]
      have r := ih hnd.2
      unfold stored at r
      rw [Bool.false_or]
      dsimp only
      cases hq : kvs.any fun kv => decide (kv.1 = x) with
      | true =>
        rw [hq] at r
        simp only [if_true] at r ⊢
        rw [List.map_cons, if_neg (by rw [h1.1]; exact e)]
        exact .cons h1 r
      | false =>
        rw [hq] at r
        simp only [Bool.false_eq_true, if_false] at r ⊢
        exact .cons h1 r

section
variable {c : Cx} {g : Heap} {env : Env} {as : List Addr} {m : Str → Option Value} {zs ys : List Value} {st : St} {A : Around} {s : Shared} {Q : Value → Shared → Prop} {n : Nat} {k : KV}

theorem N_inPython {M : Model} {o : Value} {T id : String} {P : Shared → Prop} (hT : s.TypeIs o T) (hl : typeLookup (.type T) "__getitem__" = pure (some (.builtin id))) (h : P s) : wpN M A (getitemInPython o) (fun b s₃ => b = false ∧ P s₃) s := by
  refine wpN_any ?_
  rw [getitemInPython_of_ne hT.not_modules]
  exact wpAny_bind (wpAny_specialOf hT hl (wpAny_pure ⟨rfl, h⟩))

theorem pickR {g : Heap} {as : List Addr} {W : Prop} : ∀ {xs : List V} {us : List Value} {j nn : Int} {kk : V → Prop}, All2 (VR g as) xs us → pick j nn xs kk → (∀ (i : Nat) v u, j = nn + i → xs[i]? = some v → us[i]? = some u → VR g as v u → kk v → W) → W
  | [], _, _, _, _, _, hk, _ => hk.elim
  | v :: r, _, j, nn, kk, .cons h1 h2, hk, P => by
    unfold pick at hk
    refine Br.elim hk (fun e p => ?_) fun e p => ?_
    · exact P 0 _ _ (by have := of_decide_eq_true e; omega) rfl rfl h1 p
    · exact pickR h2 p fun i v u e1 e2 e3 => P (i + 1) v u (by omega) e2 e3

theorem sGetItem (D : InvD c g env as m zs ys st s.heap) (P : Post c g env ys k Q s) {ov iv : V} {yo yi : Value} (ho : VR c.ro as ov yo) (hi : VR c.ro as iv yi) (hk : getItem ov iv st k) :
    wpN (MD c) A (getitemInPython yo) (fun b s₃ => b = false ∧ wpN (MD c) A (PySem.getItem yo yi) Q s₃) s := by
  unfold getItem at hk
  cases ov with
  | obj i =>
    obtain ⟨a, ha, rfl⟩ := ho
    dsimp only at hk
    split at hk
    · rename_i xs j e1
      split at hk
      · rename_i v e2 e3
        obtain ⟨a', ob, ha', hob, us, nn, rfl, hall, hz⟩ := D.obj e1
        rw [ha] at ha'; cases ha'
        obtain ⟨t, rfl⟩ := hi
        rw [leB_is] at e2
        have e2 := of_decide_eq_true e2
        obtain ⟨u, hu, hv⟩ := hall.get e3
        have hj : j.toNat < xs.length := (List.getElem?_eq_some_iff.mp e3).1
        exact N_inPython ⟨_, hob, rfl⟩ PySem.F.slot_list_getitem.lookup (wpN_any (wpAny_getItem_list (items := List.toArray us) ⟨_, hob, rfl, nn, rfl⟩ e2 (by omega) (by simpa using hu) (D.ret P hv hk)))
      · exact hk.elim
    · rename_i xs j e1
      split at hk
      · rename_i v e2 e3
        obtain ⟨a', ob, ha', hob, us, nn, rfl, hall, hz⟩ := D.obj e1
        rw [ha] at ha'; cases ha'
        obtain ⟨t, rfl⟩ := hi
        rw [leB_is] at e2
        have e2 := of_decide_eq_true e2
        obtain ⟨u, hu, hv⟩ := hall.get e3
        have hj : j.toNat < us.length := (List.getElem?_eq_some_iff.mp hu).1
        have hs : seqIndex? j (List.toArray us).size = some j.toNat := by
          have hn : ¬ j < 0 := by omega
          simp [seqIndex?, hn, e2]
          omega
        exact N_inPython ⟨_, hob, rfl⟩ PySem.F.slot_tuple_getitem.lookup (wpN_any (getItem_tuple (items := List.toArray us) ⟨_, hob, rfl, nn, rfl⟩ (by omega) (by have := hall.length; omega) hs (by simpa using hu) (D.ret P hv hk)))
      · exact hk.elim
    · rename_i xs j e1
      obtain ⟨a', ob, ha', hob, us, nn, rfl, hall, hz⟩ := D.obj e1
      rw [ha] at ha'; cases ha'
      obtain ⟨t, rfl⟩ := hi
      refine pickR hall hk fun i v u e2 e3 e4 hv hk2 => ?_
      have hj : i < xs.length := (List.getElem?_eq_some_iff.mp e3).1
      have hji : j = (i : Int) := by omega
      subst hji
      exact N_inPython ⟨_, hob, rfl⟩ PySem.F.slot_list_getitem.lookup (wpN_any (wpAny_getItem_list (items := List.toArray us) ⟨_, hob, rfl, nn, rfl⟩ (by omega) (by omega) (by simpa using e4) (D.ret P hv hk2)))
    · rename_i xs j e1
      split at hk
      · rename_i e2
        rw [eqB_is] at e2
        have e2 : j = 0 := by simpa using e2
        subst e2
        obtain ⟨a', ob, ha', hob, rfl, hin, hz⟩ := D.obj e1
        rw [ha] at ha'; cases ha'
        obtain ⟨t, rfl⟩ := hi
        refine Br.elim hk (fun e p => ?_) fun _ p => p.elim
        have e := of_decide_eq_true e
        cases xs with
        | nil => simp at e
        | cons x r =>
          refine N_inPython ⟨_, hob, rfl⟩ BF.slot_getitem.lookup (wpN_any (ba_item (x := x.toNat.toUInt8) hob (by unfold toB byteArr; simp) ?_))
          rw [byte_back (hin x (.head _))]
          exact D.ret P (v := .sint x) ⟨_, rfl⟩ p
      · exact hk.elim
    · rename_i es x e1
      split at hk
      · rename_i v e2
        obtain ⟨a', ob, ha', hob, ds, nn, rfl, hall, hnd⟩ := D.obj e1
        rw [ha] at ha'; cases ha'
        obtain ⟨t, rfl⟩ := hi
        obtain ⟨kvs, q, hd⟩ := dict_of hall hnd hob
        obtain ⟨y, hy, hv⟩ := valueAt_of q e2
        exact N_inPython ⟨_, hob, rfl⟩ PySem.F.slot_dict_getitem.lookup (wpN_any (wpAny_getItem_of (knd := strKind c.prog c.w) (k := x) (by show (x == x) = true; simp) hd.mapOf hy (D.ret P hv hk)))
      · exact hk.elim
    · exact hk.elim
  | _ => exact hk.elim

theorem sSetItem (D : InvD c g env as m zs ys st s.heap) {k : St → Prop} {Q : Shared → Prop} (P : Post0 c g env ys k Q s) {ov iv v : V} {yo yi y : Value} (ho : VR c.ro as ov yo) (hi : VR c.ro as iv yi) (hv : VR c.ro as v y) (hk : setItem ov iv v st k) :
    wpN (MD c) A (PySem.setItem yo yi y) (fun _ => Q) s := by
  unfold setItem at hk
  cases ov with
  | obj i =>
    obtain ⟨a, ha, rfl⟩ := ho
    have hl : a ≠ env.locals := (D.fresh a (List.mem_of_getElem? ha)).2
    dsimp only at hk
    split at hk
    · rename_i xs j e1
      split at hk
      · rename_i e2
        obtain ⟨e2, e3⟩ := Bool.and_eq_true_iff.mp e2
        rw [leB_is] at e2; rw [ltB_is] at e3
        have e2 := of_decide_eq_true e2
        have e3 : j < (xs.length : Int) := of_decide_eq_true e3
        obtain ⟨a', ob, ha', hob, us, nn, rfl, hall, hz⟩ := D.obj e1
        rw [ha] at ha'; cases ha'
        obtain ⟨t, rfl⟩ := hi
        have hlen := hall.length
        refine wpN_any (ki_setAt (items := List.toArray us) (n := nn) hob e2 (by omega) (by rw [List.size_toArray]; omega) ?_)
        have q := PySem.IsL.update hob (·.setIfInBounds j.toNat y)
        refine P _ _ _ ⟨as, m, zs, D.setObj (o := .list (xs.set j.toNat v)) ha (fun b hb _ o e => (Heap.get?_update_ne _ _ _ _ hb).trans e) (D.ns.sameBut (Heap.SameBut.update ..) (Ne.symm hl)) q ?_⟩ hk
        refine ⟨us.set j.toNat y, nn, ?_, hall.set hv _, by rw [List.length_set]; exact hz⟩
        simp
      · exact hk.elim
    · rename_i es x e1
      split at hk
      · rename_i e2
        have e2 := Nat.le_of_ble_eq_true e2
        obtain ⟨a', ob, ha', hob, ds, nn, rfl, hall, hnd⟩ := D.obj e1
        rw [ha] at ha'; cases ha'
        obtain ⟨t, rfl⟩ := hi
        obtain ⟨kvs, q, hd⟩ := dict_of hall hnd hob
        refine wpN_any (wpAny_setItem_pairs (knd := strKind c.prog c.w) (k := x) (by show (x == x) = true; simp) hd (fun h' hd' hs => ?_) (by rw [← q.length]; exact size_ok (by omega)))
        obtain ⟨ob', ho', hr'⟩ := dict_from (stored_of q hnd hv) hd'
        exact P _ h' _ ⟨as, m, zs, D.setObj ha (fun b hb _ o e => (hs.2 b hb).trans e) (D.ns.sameBut hs (Ne.symm hl)) ho' hr'⟩ hk
      · exact hk.elim
    · exact hk.elim
  | _ => exact hk.elim
end
end Mine

end
/- S8 -/
section
open PySem PySem.W PyProof.Rows
namespace Mine
section
variable {c : Cx} {g : Heap} {env : Env} {as : List Addr} {m : Str → Option Value} {zs ys : List Value} {st : St} {A : Around} {s : Shared} {Q : Value → Shared → Prop} {n : Nat} {k : KV}

theorem InvD.push1 {h : Heap} (D : InvD c g env as m zs ys st h) (ob : Obj) : InvD c g env as m zs ys st (h.push ob) :=
  D.grow (fun b o _ e => Heap.get?_push_of_some _ e) (D.ns.keeps fun b o e => Heap.get?_push_of_some _ e)

noncomputable abbrev sliceO (l u : Value) : Obj := { cls := .type "slice", data := .fields #[l, u, .none] }
theorem newSlice {M : Model} {l u : Value} {Q : Value → Shared → Prop} (h : Q (.ref s.heap.objs.size) { s with heap := s.heap.push (sliceO l u) }) : wpN M A (newFields "slice" [l, u, .none]) Q s := by
  refine wpN_any ?_
  unfold newFields
  exact wpAny_newObj_type h (by show 3 ≤ sizeLine + 2; rw [sizeLine_eq]; decide)

theorem pick_upto {vs : List Value} {xs : List Int} (hi : IntsAre vs xs) {j : Int} (h0 : 0 ≤ j) : slicePick (List.toArray vs) none (some j) none = (vs.take j.toNat).toArray := by
  obtain ⟨n, rfl⟩ := Int.eq_ofNat_of_zero_le h0
  rw [slicePick_upto']
  simp

theorem slice_list {a : Addr} {vs : List Value} {xs : List Int} {j : Int} {t : Tok} (D : InvD c g env as m zs ys st s.heap) (P : Post c g env ys k Q s) (hl : s.heap.IsList a (List.toArray vs)) (hi : IntsAre vs xs) (hz : xs.length ≤ 1000000) (h0 : 0 ≤ j) (hk : new (.il (xs.take j.toNat)) st k) :
    wpN (MD c) A (newFields "slice" [.none, .int j t, .none]) (fun iv s₂ => wpN (MD c) A (getitemInPython (.ref a)) (fun b s₃ => b = false ∧ wpN (MD c) A (PySem.getItem (.ref a) iv) Q s₃) s₂) s := by
  refine newSlice ?_
  have hl' : (s.heap.push (sliceO .none (.int j t))).IsList a (List.toArray vs) := hl.push _
  refine N_inPython (T := "list") (Heap.IsList.typeIs (s := { s with heap := s.heap.push (sliceO .none (.int j t)) }) hl') PySem.F.slot_list_getitem.lookup (wpN_any ?_)
  refine wpAny_getItem_list_slice hl' (Heap.IsSliceOf.new ..) .none (.int j t) .none (by simp) ?_ (by rw [List.size_toArray, IntsAre.len hi]; exact size_ok hz)
  rw [pick_upto hi h0]
  refine sNewAt (s := { s with heap := s.heap.push (sliceO .none (.int j t)) }) (D.push1 _) (fun v st' y h' tk I hk => P v st' y h' tk I hk) (tk := s.toks) (o := .il (xs.take j.toNat)) ⟨vs.take j.toNat, 0, rfl, hi.take _, ?_⟩ hk
  rw [List.length_take]
  omega

theorem sGetSlice (G : GOk c g) (D : InvD c g env as m zs ys st s.heap) (P : Post c g env ys k Q s) {ov : V} {lo hi : Option V} {yo l u : Value} (ho : VR c.ro as ov yo) (hlo : match lo with | some v => VR c.ro as v l | none => l = .none) (hhi : match hi with | some v => VR c.ro as v u | none => u = .none)
    (hk : getSlice ov lo hi st k) : wpN (MD c) A (newFields "slice" [l, u, .none]) (fun iv s₂ => wpN (MD c) A (getitemInPython yo) (fun b s₃ => b = false ∧ wpN (MD c) A (PySem.getItem yo iv) Q s₃) s₂) s := by
  unfold getSlice at hk
  split at hk
  · rename_i xs h
    obtain rfl : l = _ := hlo
    obtain ⟨a, vs, rfl, hl, hi, hz⟩ := ho
    split at hk
    · rename_i j kn e
      obtain ⟨t, rfl⟩ := VR.asInt hhi e
      obtain ⟨e2, hk⟩ := need_elim hk
      rw [leB_is] at e2
      obtain ⟨ob, hob, r⟩ := hl
      exact slice_list D P ⟨ob, D.keep _ _ (G.ro _ _ hob), r⟩ hi hz (of_decide_eq_true e2) hk
    · exact hk.elim
  · rename_i i h
    obtain rfl : l = _ := hlo
    obtain ⟨a, ha, rfl⟩ := ho
    split at hk
    · rename_i xs j kn e1 e
      obtain ⟨t, rfl⟩ := VR.asInt hhi e
      obtain ⟨e2, hk⟩ := need_elim hk
      rw [leB_is] at e2
      obtain ⟨a', ob, ha', hob, vs, nn, rfl, hi, hz⟩ := D.obj e1
      rw [ha] at ha'; cases ha'
      exact slice_list D P ⟨_, hob, rfl, nn, rfl⟩ hi hz (of_decide_eq_true e2) hk
    · exact hk.elim
  · rename_i i j
    obtain ⟨t, rfl⟩ : ∃ t, l = .int j t := hlo
    obtain rfl : u = _ := hhi
    obtain ⟨a, ha, rfl⟩ := ho
    split at hk
    · rename_i xs e1 e2
      rw [leB_is] at e2
      have e2 := of_decide_eq_true e2
      obtain ⟨a', ob, ha', hob, rfl, hin, hz⟩ := D.obj e1
      rw [ha] at ha'; cases ha'
      refine newSlice ?_
      have hob' : (s.heap.push (sliceO (.int j t) .none)).get? a = some (barrO (byteArr xs)) := Heap.get?_push_of_some _ hob
      refine N_inPython (s := { s with heap := s.heap.push (sliceO (.int j t) .none) }) (T := "bytearray") ⟨_, hob', rfl⟩ BF.slot_getitem.lookup (wpN_any ?_)
      refine ba_slice (s := { s with heap := s.heap.push (sliceO (.int j t) .none) }) hob' (Heap.IsSliceOf.new ..) e2 (by rw [byteArr_size]; exact size_ok hz) ?_
      rw [byteArr_drop]
      refine sNewAt (s := { s with heap := s.heap.push (sliceO (.int j t) .none) }) (D.push1 _) (fun v st' y h' tk I hk => P v st' y h' tk I hk) (tk := s.toks) (o := .barr (xs.drop j.toNat)) ⟨rfl, fun x hx => hin x (List.mem_of_mem_drop hx), ?_⟩ hk
      rw [List.length_drop]
      omega
    · exact hk.elim
  · exact hk.elim
end
end Mine

end
/- S9 -/
section
open PySem PySem.W PyProof.Rows
namespace Mine
section
variable {c : Cx} {g : Heap} {env : Env} {as : List Addr} {m : Str → Option Value} {zs ys : List Value} {st : St} {A : Around} {s : Shared} {Q : Value → Shared → Prop} {n : Nat} {k : KV}

theorem sLen (G : GOk c g) (D : InvD c g env as m zs ys st s.heap) (P : Post c g env ys k Q s) {v : V} {y : Value} (hv : VR c.ro as v y) (hk : lenV v st k) : wpN (MD c) A (call (.builtin "len") [y]) Q s := by
  refine wpN_any ?_
  unfold lenV at hk
  cases v with
  | obj i =>
    obtain ⟨a, ha, rfl⟩ := hv
    dsimp only at hk
    split at hk
    · rename_i xs e1
      obtain ⟨a', ob, ha', hob, us, nn, rfl, hall, hz⟩ := D.obj e1
      rw [ha] at ha'; cases ha'
      refine Calls.call_len_list (items := List.toArray us) ⟨_, hob, rfl, nn, rfl⟩ (by rw [List.size_toArray, ← hall.length]; omega) ?_
      rw [List.size_toArray, ← hall.length]
      exact D.ret P (v := .int _) ⟨_, rfl⟩ hk
    · rename_i xs e1
      obtain ⟨a', ob, ha', hob, us, nn, rfl, hi, hz⟩ := D.obj e1
      rw [ha] at ha'; cases ha'
      refine Calls.call_len_list (items := List.toArray us) ⟨_, hob, rfl, nn, rfl⟩ (by rw [List.size_toArray, IntsAre.len hi]; omega) ?_
      rw [List.size_toArray, IntsAre.len hi]
      exact D.ret P (v := .sint _) ⟨_, rfl⟩ hk
    · rename_i xs e1
      obtain ⟨a', ob, ha', hob, rfl, hin, hz⟩ := D.obj e1
      rw [ha] at ha'; cases ha'
      refine ba_len hob (by rw [byteArr_size]; omega) ?_
      rw [byteArr_size]
      exact D.ret P (v := .sint _) ⟨_, rfl⟩ hk
    · exact hk.elim
  | ro xs =>
    obtain ⟨a, us, rfl, ⟨ob, hob, r⟩, hi, hz⟩ := hv
    refine Calls.call_len_list (items := List.toArray us) ⟨ob, D.keep _ _ (G.ro _ _ hob), r⟩ (by rw [List.size_toArray, IntsAre.len hi]; omega) ?_
    rw [List.size_toArray, IntsAre.len hi]
    exact D.ret P (v := .sint _) ⟨_, rfl⟩ hk
  | _ => exact hk.elim

theorem octets_is {xs : List Int} (h : octets xs = true) : ∀ n ∈ xs, 0 ≤ n ∧ n < 256 := fun n hn => by
  unfold octets at h
  have := List.all_eq_true.mp h n hn
  rw [Bool.and_eq_true, leB_is, ltB_is] at this
  exact ⟨of_decide_eq_true this.1, of_decide_eq_true this.2⟩

theorem sCallB (G : GOk c g) (AO : AOk A n) (D : InvD c g env as m zs ys st s.heap) (P : Post c g env ys k Q s) {b : Bi} {vs : List V} {xs : List Value} (hv : All2 (VR c.ro as) vs xs) (hk : callB b vs st k) : wpN (MD c) A (call b.val xs) Q s := by
  cases b with
  | len =>
    obtain ⟨v, rfl, hj⟩ := arg1_is hk
    clear hk
    have hk := hj
    clear hj
    cases hv with
    | cons h1 h2 => cases h2; exact sLen G D P h1 hk
  | int_ =>
    obtain ⟨v, rfl, hj⟩ := arg1_is hk
    clear hk
    have hk := hj
    clear hj
    cases hv with
    | cons h1 h2 =>
      cases h2
      cases v with
      | bool cc =>
        obtain rfl : _ = _ := h1
        refine wpN_any (call_int_bool ?_)
        cases cc <;> exact D.ret P (v := .int _) ⟨_, rfl⟩ hk
      | sbool cc =>
        obtain rfl : _ = _ := h1
        refine wpN_any (call_int_bool ?_)
        refine Br.elim hk (fun e p => ?_) fun e p => ?_
        · subst e; exact D.ret P (v := .int _) ⟨_, rfl⟩ p
        · subst e; exact D.ret P (v := .int _) ⟨_, rfl⟩ p
      | _ => exact hk.elim
  | bytes =>
    obtain ⟨v, rfl, hj⟩ := arg1_is hk
    clear hk
    have hk := hj
    clear hj
    cases hv with
    | cons h1 h2 =>
      cases h2
      cases v with
      | obj i =>
        obtain ⟨a, ha, rfl⟩ := h1
        dsimp only at hk
        split at hk
        · rename_i xs e1
          obtain ⟨a', ob, ha', hob, rfl, hin, hz⟩ := D.obj e1
          rw [ha] at ha'; cases ha'
          exact wpN_any (ba_bytes hob (by rw [byteArr_size]; exact size_ok hz) fun t tk => D.ret P (v := .bytes xs) ⟨⟨t, rfl⟩, hin, hz⟩ hk)
        · rename_i o _ e1
          split at hk
          · rename_i xs e2
            obtain ⟨a', ob, ha', hob, hr⟩ := D.obj e1
            rw [ha] at ha'; cases ha'
            obtain ⟨us, nn, rfl, hi, hz⟩ := asInts_obj hr e2
            refine Br.elim hk (fun e p => ?_) fun _ p => p.elim
            have e := octets_is e
            refine wpN_any (call_bytes_ints (vs := us) ⟨_, hob, rfl, nn, rfl⟩ hi e (by rw [IntsAre.len hi]; exact size_ok hz) AO.handled fun h' t tk hk' => ?_)
            have D' : InvD c g env as m zs ys st h' := D.grow (fun b o _ e => hk' b o e) (D.ns.keeps hk')
            exact P _ _ _ _ _ ⟨as, m, zs, D'.push (v := .bytes xs) ⟨⟨t, rfl⟩, e, hz⟩⟩ p
          · exact hk.elim
        · exact hk.elim
      | _ => exact hk.elim
  | bytearray =>
    cases vs with
    | cons _ _ => exact hk.elim
    | nil =>
      cases hv
      refine N_bytearray fun h' tk h1 h2 => ?_
      refine P _ _ _ _ _ ⟨as ++ [s.heap.objs.size], m, zs, (D.alloc (o := .barr []) (fun b o _ e => h2 b o e) (D.ns.keeps h2) ?_ h1 ⟨rfl, fun _ h => (nomatch h), Nat.zero_le _⟩).push (v := .obj st.H.length) ⟨_, D.last _, rfl⟩⟩ hk
      cases q : s.heap.get? s.heap.objs.size with
      | none => rfl
      | some o => exact absurd (Heap.lt_size q) (Nat.lt_irrefl _)
  | range =>
    cases hv with
    | nil => exact hk.elim
    | @cons a _ _ _ h1 h2 =>
      cases h2 with
      | nil =>
        dsimp only [callB] at hk
        split at hk
        · rename_i x kx e
          obtain ⟨t, rfl⟩ := h1.asInt e
          exact wpN_any (call_range_1 (sNewAt D P (o := .rng 0 x kx) (tk := s.toks + 1 + 1) ⟨_, _, _, rfl⟩ hk))
        · exact hk.elim
      | cons h2 h3 =>
        cases h3 with
        | nil =>
          dsimp only [callB] at hk
          split at hk
          · rename_i x kx y ky e e'
            obtain ⟨t, rfl⟩ := h1.asInt e
            obtain ⟨u, rfl⟩ := h2.asInt e'
            exact wpN_any (call_range_2 (sNewAt D P (o := .rng x y _) (tk := s.toks + 1) ⟨_, _, _, rfl⟩ hk))
          · exact hk.elim
        | cons _ _ => exact hk.elim
  | min =>
    obtain ⟨v, w, rfl, hj⟩ := arg2_is hk
    clear hk
    have hk := hj
    clear hj
    cases hv with
    | cons h1 h2 =>
      cases h2 with
      | cons h2 h3 =>
        cases h3
        split at hk
        · rename_i x kx y ky e e'
          obtain ⟨t, rfl⟩ := h1.asInt e
          obtain ⟨u, rfl⟩ := h2.asInt e'
          refine wpN_any (min_two_ints AO.handled fun h' tk hk' => ?_)
          have D' : InvD c g env as m zs ys st h' := D.grow (fun b o _ e => hk' b o e) (D.ns.keeps hk')
          rw [ltB_is] at hk
          by_cases q : y < x
          · rw [if_pos q]
            rw [decide_eq_true q] at hk
            exact P _ _ _ _ _ ⟨as, m, zs, D'.push (VR.mkI _ _ _)⟩ hk
          · rw [if_neg q]
            rw [decide_eq_false q] at hk
            exact P _ _ _ _ _ ⟨as, m, zs, D'.push (VR.mkI _ _ _)⟩ hk
        · exact hk.elim
  | divmod =>
    obtain ⟨v, w, rfl, hj⟩ := arg2_is hk
    clear hk
    have hk := hj
    clear hj
    cases hv with
    | cons h1 h2 =>
      cases h2 with
      | cons h2 h3 =>
        cases h3
        split at hk
        · rename_i x y
          obtain ⟨t, rfl⟩ := h1
          obtain ⟨u, rfl⟩ := h2
          split at hk
          · rename_i e1 e3
            rw [eqB_is] at e1
            have e1 : y ≠ 0 := by simpa using e1
            have e3 := of_decide_eq_true e3
            refine wpN_any (divmod_int e1 (sNewAt D P (o := .tup [.int (x.fdiv y), .int (x.fmod y)]) (tk := s.toks + 1 + 1) ⟨[_, _], 0, rfl, .cons ⟨_, rfl⟩ (.cons ⟨_, rfl⟩ .nil), (by show 2 ≤ 1000000; decide)⟩ hk) (.inl (PyProof.noPylong_small e3)))
          · exact hk.elim
        · exact hk.elim
  | sorted => exact hk.elim
end
end Mine

end
/- S10 -/
section
open PySem PySem.W PyProof.Rows
namespace Mine
section
variable {c : Cx} {g : Heap} {env : Env} {as : List Addr} {m : Str → Option Value} {zs ys : List Value} {st : St} {A : Around} {s : Shared} {Q : Value → Shared → Prop} {n : Nat} {k : KV}

/-- what a method's name stands for -/
noncomputable def mtOk (c : Cx) (mt : Mt) (y : Value) (ff : Value × List Value) : Prop := match mt with
  | .fn f => ff = (.ref f, [y]) ∧ keepIn c.K (.ref f) = true
  | .lapp => ff = (.builtin "list.append", [y])
  | .lpop => ff = (.builtin "list.pop", [y])
  | .bapp => ff = (.builtin "bytearray.append", [y])
  | .bext => ff = (.builtin "bytearray.extend", [y])

theorem sMeth (TO : TabOk c) (G : GOk c g) (D : InvD c g env as m zs ys st s.heap) {ov : V} {y : Value} {a : Str} {mt : Mt} {pl : Sem Bool} (ho : VR c.ro as ov y) (hk : findMeth c.T ov a st = some mt) {QM : Value × List Value → Shared → Prop} (P : ∀ ff, mtOk c mt y ff → QM ff s) :
    wpN (MD c) A (getMethod y a pl) QM s := by
  refine wpN_any ?_
  have H := D.gok G
  unfold findMeth at hk
  cases ov with
  | obj i =>
    obtain ⟨x, hx, rfl⟩ := ho
    dsimp only at hk
    split at hk
    · rename_i C d e1
      split at hk
      · rename_i ms es e2 e3
        split at hk
        · rename_i f e4 e5
          cases hk
          obtain ⟨x', dx, ds, nn, hx', hdx, hox, hod, hall, hnd, I⟩ := D.inst e1 e3
          rw [hx] at hx'; cases hx'
          obtain ⟨h1, h2, h3, h4⟩ := TO.mth C ms a f e2 e4
          refine method_fn H.K I (plainGet_of h1).1 (plainGet_of h1).2 h2 (beq_iff_eq.mp h3) ?_ (P _ ⟨rfl, h4⟩)
          show (lookIn a (dictOf ds nn)).map _ = _
          rw [lookIn_dict, getL_none hall e5]; rfl
        · cases hk
      · cases hk
    · rename_i xs e1
      obtain ⟨a', ob, ha', hob, us, nn, rfl, hi, hz⟩ := D.obj e1
      rw [hx] at ha'; cases ha'
      have nd : ∀ b, Value.ref x = .ref b → ∃ ob, s.heap.get? b = some ob ∧ ob.dict = none := fun b e => by cases e; exact ⟨_, hob, rfl⟩
      split at hk
      · rename_i e; cases hk
        rw [(strEq_iff _ _).mp e]
        exact getMethod_builtin (T := "list") ⟨_, hob, rfl⟩ PySem.F.plainAttrs_list PySem.F.slot_list_append PySem.F.type_list_append nd (P _ rfl)
      · rename_i e _; cases hk
        rw [(strEq_iff _ _).mp e]
        exact getMethod_builtin (T := "list") ⟨_, hob, rfl⟩ PySem.F.plainAttrs_list PySem.F.slot_list_pop PySem.F.type_list_pop nd (P _ rfl)
      · cases hk
    · rename_i xs e1
      obtain ⟨a', ob, ha', hob, us, nn, rfl, hi, hz⟩ := D.obj e1
      rw [hx] at ha'; cases ha'
      have nd : ∀ b, Value.ref x = .ref b → ∃ ob, s.heap.get? b = some ob ∧ ob.dict = none := fun b e => by cases e; exact ⟨_, hob, rfl⟩
      split at hk
      · rename_i e; cases hk
        rw [(strEq_iff _ _).mp e]
        exact getMethod_builtin (T := "list") ⟨_, hob, rfl⟩ PySem.F.plainAttrs_list PySem.F.slot_list_append PySem.F.type_list_append nd (P _ rfl)
      · cases hk
    · rename_i xs e1
      obtain ⟨a', ob, ha', hob, rfl, hin, hz⟩ := D.obj e1
      rw [hx] at ha'; cases ha'
      have nd : ∀ b, Value.ref x = .ref b → ∃ ob, s.heap.get? b = some ob ∧ ob.dict = none := fun b e => by cases e; exact ⟨_, hob, rfl⟩
      split at hk
      · rename_i e; cases hk
        rw [(strEq_iff _ _).mp e]
        exact getMethod_builtin (T := "bytearray") ⟨_, hob, rfl⟩ BF.plainAttrs BF.slot_append BF.type_append nd (P _ rfl)
      · rename_i e _; cases hk
        rw [(strEq_iff _ _).mp e]
        exact getMethod_builtin (T := "bytearray") ⟨_, hob, rfl⟩ BF.plainAttrs BF.slot_extend BF.type_extend nd (P _ rfl)
      · cases hk
    · cases hk
  | _ => cases hk

/-- the list's object is turned -/
theorem sTurn (D : InvD c g env as m zs ys st s.heap) (P : Post c g env ys k Q s) {i : Nat} {a : Addr} {o : O} {ob : Obj} {h' : Heap} {tk : Nat} {v : V} {y : Value} (ha : as[i]? = some a) (hs : Heap.SameBut a s.heap h') (ho : h'.get? a = some ob) (hr : OR c as o ob) (hv : VR c.ro as v y) (hk : k v (setH st (st.H.set i o))) :
    Q y ⟨h', s.gens, s.drawn, tk, s.os⟩ := by
  have hl : a ≠ env.locals := (D.fresh a (List.mem_of_getElem? ha)).2
  exact P _ _ _ _ _ ⟨as, m, zs, (D.setObj (o := o) ha (fun b hb _ o e => (hs.2 b hb).trans e) (D.ns.sameBut hs (Ne.symm hl)) ho hr).push hv⟩ hk

theorem sLapp (D : InvD c g env as m zs ys st s.heap) (P : Post c g env ys k Q s) {i : Nat} {a : Addr} {v : V} {y : Value} (ha : as[i]? = some a) (hv : VR c.ro as v y) (hk : lapp i v st k) : wpN (MD c) A (call (.builtin "list.append") [.ref a, y]) Q s := by
  refine wpN_any ?_
  have go : ∀ {us : List Value} {nn : Nat} {o : O}, s.heap.get? a = some (PySem.W.listOf (List.toArray us) nn) → us.length ≤ 1000000 → OR c as o (PySem.W.listOf (List.toArray (us ++ [y])) (nn + 1)) → k .none (setH st (st.H.set i o)) →
      wpAny (MD c) A (call (.builtin "list.append") [.ref a, y]) Q noE s := by
    intro us nn o hob hz ho hk
    refine append_at (hsz := by rw [List.size_toArray]; exact size_ok hz) hob fun h' hs ho' => ?_
    have e : (List.toArray us).push y = List.toArray (us ++ [y]) := by simp
    rw [e] at ho'
    exact sTurn D P ha hs ho' ho (v := .none) rfl hk
  unfold lapp at hk
  split at hk
  · rename_i xs e1
    obtain ⟨a', ob, ha', hob, us, nn, rfl, hi, hz⟩ := D.obj e1
    rw [ha] at ha'; cases ha'
    split at hk
    · rename_i x kx e2
      obtain ⟨t, rfl⟩ := hv.asInt e2
      refine Br.elim hk (fun e p => ?_) fun _ p => p.elim
      have e := of_decide_eq_true e
      exact go (o := .il (xs ++ [x])) hob (by rw [IntsAre.len hi]; exact hz) ⟨_, _, rfl, hi.append (.cons _ _ .nil), by simp; omega⟩ p
    · split at hk
      · cases hi
        exact go (o := .list [v]) hob (Nat.zero_le _) ⟨_, _, rfl, .cons hv .nil, (by show 1 ≤ 1000000; decide)⟩ hk
      · exact hk.elim
  · rename_i xs e1
    obtain ⟨a', ob, ha', hob, us, nn, rfl, hall, hz⟩ := D.obj e1
    rw [ha] at ha'; cases ha'
    split at hk
    · rename_i e
      have e := Nat.le_of_ble_eq_true e
      exact go (o := .list (xs ++ [v])) hob (by rw [← hall.length]; exact hz) ⟨_, _, rfl, hall.append (.cons hv .nil), by simp; omega⟩ hk
    · exact hk.elim
  · exact hk.elim

theorem sCallM (D : InvD c g env as m zs ys st s.heap) (P : Post c g env ys k Q s) {mt : Mt} {i : Nat} {a : Addr} {v : V} {y : Value} {ff : Value × List Value} (ha : as[i]? = some a) (hv : VR c.ro as v y) (hmt : mtOk c mt (.ref a) ff) (hk : callM mt i v st k) :
    wpN (MD c) A (call ff.1 (ff.2 ++ [y])) Q s := by
  cases mt with
  | fn f => exact hk.elim
  | lapp => obtain rfl : ff = _ := hmt; exact sLapp D P ha hv hk
  | lpop =>
    obtain rfl : ff = _ := hmt
    unfold callM at hk
    dsimp only at hk
    split at hk
    · rename_i xs0 j e1
      split at hk
      · rename_i e2
        rw [eqB_is] at e2
        have e2 : j = 0 := by simpa using e2
        subst e2
        refine hk.elim (fun e0 hk => ?_) fun _ h => h.elim
        have e0 := of_decide_eq_true e0
        cases xs0 with
        | nil => simp at e0
        | cons x r =>
        obtain ⟨t, rfl⟩ := hv
        obtain ⟨a', ob, ha', hob, us, nn, rfl, hi, hz⟩ := D.obj e1
        rw [ha] at ha'; cases ha'
        obtain ⟨u, us', rfl, hi'⟩ := hi.cons_inv
        have hlen : us'.length = r.length := IntsAre.len hi'
        have hsz : (List.toArray (.int x u :: us')).size = r.length + 1 := by simp [hlen]
        refine wpN_any (call_meets PySem.F.slot_list_pop ⟨_, hob, rfl⟩ PySem.F.entry_list_pop (PySem.F.args_list_pop_2 _ _) (PySem.MeetsSeq.list_pop_at a (List.toArray (.int x u :: us')) nn 0 t 0 (.int x u) (by decide) (by rw [hsz]; simp [seqIndex?]) (by simp) (by rw [hsz]; simp only [List.length_cons] at hz; exact size_ok hz)) ⟨hob, ?_⟩)
        have q := PySem.IsL.update hob (fun xs => xs.eraseIdxIfInBounds 0)
        have e : (List.toArray (.int x u :: us')).eraseIdxIfInBounds 0 = List.toArray us' := kl_erase [] us' (.int x u)
        have q' : (s.heap.update a (Obj.mapSeq fun xs => xs.eraseIdxIfInBounds 0)).get? a = some (PySem.W.listOf (List.toArray us') (if ((List.toArray us').size == (List.toArray (.int x u :: us')).size) = true then nn else nn + 1)) := by
          rw [← e]; exact q
        exact sTurn D P ha (Heap.SameBut.update ..) q' (o := .il r) ⟨us', _, rfl, hi', by simp only [List.length_cons] at hz; omega⟩ (v := .sint x) ⟨u, rfl⟩ hk
      · exact hk.elim
    · exact hk.elim
  | bapp =>
    obtain rfl : ff = _ := hmt
    unfold callM at hk
    dsimp only at hk
    split at hk
    · rename_i xs x e1
      obtain ⟨a', ob, ha', hob, rfl, hin, hz⟩ := D.obj e1
      rw [ha] at ha'; cases ha'
      obtain ⟨t, rfl⟩ := hv
      refine Br.elim hk (fun e p => ?_) fun _ p => p.elim
      obtain ⟨e2, e3⟩ := Bool.and_eq_true_iff.mp e
      have e3 := of_decide_eq_true e3
      have e2 := octets_is e2 x (.head _)
      refine N_ba_append hob e2.1 e2.2 (by rw [byteArr_size, sizeLine_eq]; omega) fun h' ho' hs => ?_
      rw [byteArr_push] at ho'
      refine sTurn D P ha hs ho' (o := .barr (xs ++ [x])) ⟨rfl, fun z hz => ?_, by simp; omega⟩ (v := .none) rfl p
      rcases List.mem_append.mp hz with q | q
      · exact hin z q
      · simp at q; subst q; exact e2
    · exact hk.elim
  | bext =>
    obtain rfl : ff = _ := hmt
    unfold callM at hk
    dsimp only at hk
    split at hk
    · rename_i xs zs' e1
      obtain ⟨a', ob, ha', hob, rfl, hin, hz⟩ := D.obj e1
      rw [ha] at ha'; cases ha'
      obtain ⟨⟨t, rfl⟩, hin', hz'⟩ := hv
      refine Br.elim hk (fun e p => ?_) fun _ p => p.elim
      have e := of_decide_eq_true e
      refine N_ba_extend hob (by rw [byteArr_size, byteArr_size, sizeLine_eq]; omega) fun h' ho' hs => ?_
      rw [byteArr_append] at ho'
      refine sTurn D P ha hs ho' (o := .barr (xs ++ zs')) ⟨rfl, fun z hz => ?_, by simp; omega⟩ (v := .none) rfl p
      rcases List.mem_append.mp hz with q | q
      · exact hin z q
      · exact hin' z q
    · exact hk.elim
end
end Mine

end
/- S11 -/
section
open PySem PySem.W PyProof.Rows
set_option maxHeartbeats 4000000
namespace Mine
section
variable {prog : Program} {w : World} {A : Around} {E : Value → Shared → Prop} {s : Shared} {a : Addr} {vs : List Value}

/-- the sort of a list of no item or of one -/
theorem short_sort {n : Nat} {P : PySem.Fin → Shared → Prop} (ho : s.heap.get? a = some (PySem.W.listOf (List.toArray vs) n)) (h2 : vs.length < 2)
    (h : ∀ h' n', h'.get? a = some (PySem.W.listOf (List.toArray vs) n') → (∀ b o, b ≠ a → s.heap.get? b = some o → h'.get? b = some o) → P (.done (.ret .none)) { s with heap := h' }) :
    wpAny (model prog w) A (Builtin.«list.sort» ⟨[.ref a], []⟩) P E s := by
  have ha : a < s.heap.objs.size := Heap.lt_size ho
  have s1 := Heap.SameBut.update s.heap a (Obj.mapSeq fun _ => (#[] : Array Value))
  obtain ⟨e1, ho1⟩ : ∃ e1, (s.heap.update a (Obj.mapSeq fun _ => (#[] : Array Value))).get? a = some (PySem.W.listOf #[] e1) := ⟨_, PySem.IsL.update ho fun _ => #[]⟩
  rw [list_sort_plain]
  refine wpAny_bind (listItems_at ho rfl ?_)
  refine wpAny_bind (listUpdate_at ho rfl ?_ (by rw [List.size_toArray, sizeLine_eq]; omega) (Nat.zero_le _))
  refine wpAny_bind (seqEpoch_at ho1 rfl ?_)
  refine wpAny_bind (wpAny_newTuple ?_ (by show vs.length ≤ _; rw [sizeLine_eq]; omega))
  refine wpAny_bind (wpAny_newList ?_ (Nat.zero_le _))
  refine wpAny_holding ?_
  dsimp only
  have hn2 : vs.toArray.size < 2 := by rw [List.size_toArray]; omega
  rw [if_pos hn2, if_pos hn2]
  refine wpAny_bind (wpAny_pure ?_)
  refine wpAny_bind (wpAny_pure ?_)
  dsimp only
  have out : (arrOf (SortSt.mk' general' (vs.toArray.zip vs.toArray) #[] 7 none)).map (·.2) = vs.toArray := by
    show (vs.toArray.zip vs.toArray).map (·.2) = vs.toArray
    apply Array.toList_inj.mp
    rw [Array.toList_map, Array.toList_zip]
    exact List.map_snd_zip (Nat.le_refl _)
  rw [out]
  have ho3 : (((s.heap.update a (Obj.mapSeq fun _ => (#[] : Array Value))).push (seqObj "tuple" vs.toArray 0)).push (seqObj "list" #[] 0)).get? a = some (PySem.W.listOf #[] e1) := Heap.get?_push_of_some _ (Heap.get?_push_of_some _ ho1)
  refine wpAny_bind (seqEpoch_at (s := { s with heap := ((s.heap.update a (Obj.mapSeq fun _ => (#[] : Array Value))).push (seqObj "tuple" vs.toArray 0)).push (seqObj "list" #[] 0) }) ho3 rfl ?_)
  refine wpAny_bind (listUpdate_at (s := { s with heap := ((s.heap.update a (Obj.mapSeq fun _ => (#[] : Array Value))).push (seqObj "tuple" vs.toArray 0)).push (seqObj "list" #[] 0) }) ho3 rfl ?_ (Nat.zero_le _) (by rw [List.size_toArray, sizeLine_eq]; omega))
  show wpAny _ _ (if (e1 != e1) = true then _ else _) _ _ _
  rw [if_neg (by simp)]
  refine wpAny_pure (h _ _ (PySem.IsL.update ho3 fun _ => vs.toArray) fun b o hb e => ?_)
  exact (Heap.get?_update_ne _ _ _ _ hb).trans (Heap.get?_push_of_some _ (Heap.get?_push_of_some _ ((Heap.get?_update_ne _ _ _ _ hb).trans e)))

theorem short_sorted {l : Addr} {Q : Value → Shared → Prop} (hl : s.heap.IsList l (List.toArray vs)) (h2 : vs.length < 2)
    (h : ∀ D h' n', s.heap.get? D = none → h'.get? D = some (PySem.W.listOf (List.toArray vs) n') → (∀ b o, s.heap.get? b = some o → h'.get? b = some o) → Q (.ref D) { s with heap := h' }) :
    wpAny (model prog w) A (call (.builtin "sorted") [.ref l]) Q E s := by
  refine Calls.call_function_entry kind_sorted plain_sorted entry_sorted (args_sorted1 _) ?_
  unfold Builtin.«sorted»
  refine wpAny_bind (m := checkCount "sorted" 1 1 _) (wpAny_pure ?_)
  refine wpAny_bind (collect_list hl ?_ (by rw [sizeLine_eq]; omega))
  refine wpAny_bind (wpAny_newList ?_ (by rw [sizeLine_eq]; omega))
  have hsz : ((s.heap.push (seqObj "list" #[] 0)).update s.heap.objs.size (Obj.mapSeq (· ++ vs.toArray))).objs.size = s.heap.objs.size + 1 := by
    rw [Heap.size_update, Heap.size_push]
  have hoL : (((s.heap.push (seqObj "list" #[] 0)).update s.heap.objs.size (Obj.mapSeq (· ++ vs.toArray))).push (seqObj "list" vs.toArray 0)).get? (s.heap.objs.size + 1) = some (PySem.W.listOf vs.toArray 0) := by
    rw [← hsz]; exact Heap.get?_push_size _ rfl
  have keep : ∀ b o, s.heap.get? b = some o → (((s.heap.push (seqObj "list" #[] 0)).update s.heap.objs.size (Obj.mapSeq (· ++ vs.toArray))).push (seqObj "list" vs.toArray 0)).get? b = some o := fun b o q => by
    have hlt : b < s.heap.objs.size := Heap.lt_size q
    rw [Heap.get?_push_ne _ _ _ (by rw [hsz]; exact Nat.ne_of_lt (Nat.lt_succ_of_lt hlt)), Heap.get?_update_ne _ _ _ _ (Nat.ne_of_lt hlt), Heap.get?_push_ne _ _ _ (Nat.ne_of_lt hlt)]
    exact q
  show wpAny _ _ _ _ _ { s with heap := ((s.heap.push (seqObj "list" #[] 0)).update s.heap.objs.size (Obj.mapSeq (· ++ vs.toArray))).push (seqObj "list" vs.toArray 0) }
  rw [hsz]
  refine wpAny_bind (wpAny_holding (wpAny_call_entry slot_list_sort ⟨_, hoL, rfl⟩ entry_list_sort (short_sort (s := { s with heap := ((s.heap.push (seqObj "list" #[] 0)).update s.heap.objs.size (Obj.mapSeq (· ++ vs.toArray))).push (seqObj "list" vs.toArray 0) }) hoL h2 fun h' n' e1 e2 => ?_) (args_list_sort _)))
  refine ⟨_, rfl, wpAny_pure ⟨_, rfl, h _ h' n' ?_ e1 fun b o e => e2 b o (Nat.ne_of_lt (Nat.lt_succ_of_lt (Heap.lt_size e))) (keep b o e)⟩⟩
  cases q : s.heap.get? (s.heap.objs.size + 1) with
  | none => rfl
  | some o => exact absurd (Heap.lt_size q) (Nat.not_lt.mpr (Nat.le_succ _))
end
end Mine

end
/- S12 -/
section
open PySem PySem.W PyProof.Rows
set_option maxHeartbeats 4000000
namespace Mine

theorem kasWp_run {α : Type} {ks : List (Int × Int)} {lt : Int × Int → Int × Int → Bool} {ask : Nat → Nat → (Bool → Shared → Prop) → Shared → Prop} {I : Shared → Prop} {Q : α → Shared → Prop}
    (ha : ∀ i j p q C s, I s → ks[i]? = some p → ks[j]? = some q → (∀ s', I s' → C (lt p q) s') → ask i j C s) : ∀ (t : KasT α) (r : α) (s : Shared), kasRun ks lt t = some r → I s → (∀ s', I s' → Q r s') → t.kasWp ask Q s
  | .ret a, r, s, e, hI, hQ => by
    cases e
    exact hQ s hI
  | .ask i j k, r, s, e, hI, hQ => by
    unfold kasRun at e
    split at e
    · rename_i p q e1 e2
      exact ha i j p q _ s hI e1 e2 fun s' hI' => kasWp_run ha (k (lt p q)) r s' e hI' hQ
    · cases e

theorem lexLt_is (p q : Int × Int) : lexLt p q = if p.1 = q.1 then decide (p.2 < q.2) else decide (p.1 < q.1) := by
  unfold lexLt
  cases h : eqB p.1 q.1 with
  | true =>
    rw [eqB_is] at h
    have h : p.1 = q.1 := by simpa using h
    rw [if_pos h, ltB_is]
  | false =>
    rw [eqB_is] at h
    have h : ¬ p.1 = q.1 := by simpa using h
    rw [if_neg h, ← ltB_is]

/-- the items of a list of pairs of ints -/
noncomputable def TupAt (h : Heap) (y : Value) (p : Int × Int) : Prop := ∃ a t u n, y = .ref a ∧ h.get? a = some ⟨.type "tuple", none, .seq (List.toArray [.int p.1 t, .int p.2 u]) n, #[]⟩
theorem TupAt.keeps {h h' : Heap} {y : Value} {p : Int × Int} (x : TupAt h y p) (k : ∀ b o, h.get? b = some o → h'.get? b = some o) : TupAt h' y p := let ⟨a, t, u, n, e, ho⟩ := x; ⟨a, t, u, n, e, k _ _ ho⟩

section
variable {prog : Program} {w : World} {A : Around} {E : Value → Shared → Prop} {s : Shared}
theorem tup_lt {x y : Value} {p q : Int × Int} {Q : Bool → Shared → Prop} (hx : TupAt s.heap x p) (hy : TupAt s.heap y q) (h : Q (lexLt p q) s) : wpAny (model prog w) A (keyLt' (tuples' true) x y) Q E s := by
  obtain ⟨a, t, u, n, rfl, ho⟩ := hx
  obtain ⟨b, t', u', n', rfl, ho'⟩ := hy
  refine kat_lt ho rfl ho' rfl ?_
  show KatLex prog w A true _ Q [(.int p.1 t, .int q.1 t'), (.int p.2 u, .int q.2 u')] 0 s
  rw [lexLt_is] at h
  refine kat_cons (wpAny_eqBool_int ?_)
  by_cases e : p.1 = q.1
  · rw [if_pos e] at h
    rw [show (p.1 == q.1) = true from by simpa using e]
    refine kat_yes (kat_cons (wpAny_eqBool_int ?_))
    by_cases e2 : p.2 = q.2
    · rw [show (p.2 == q.2) = true from by simpa using e2]
      refine kat_yes (kat_nil ?_)
      rw [decide_eq_false (by omega)] at h
      exact h
    · rw [show (p.2 == q.2) = false from by simpa using e2]
      exact kat_no (kat_one _ _ (PySem.P.lt_int (Q := PySem.W.BoolBack Q) h))
  · rw [if_neg e] at h
    rw [show (p.1 == q.1) = false from by simpa using e]
    exact kat_no (oneLt_int h)
end

section
variable {c : Cx} {g : Heap} {env : Env} {as : List Addr} {m : Str → Option Value} {zs ys : List Value} {st : St} {A : Around} {s : Shared} {Q : Value → Shared → Prop} {n : Nat} {k : KV}

theorem tupKeys_is (D : InvD c g env as m zs ys st s.heap) : ∀ {xs : List V} {us : List Value} {ks : List (Int × Int)}, All2 (VR c.ro as) xs us → tupKeys st.H xs = some ks → All2 (TupAt s.heap) us ks
  | [], _, _, .nil, e => by cases e; exact .nil
  | v :: r, _, ks, .cons h1 h2, e => by
    unfold tupKeys at e
    split at e
    · rename_i heq; cases heq
    · rename_i i r' heq
      cases heq
      split at e
      · rename_i a b e1
        split at e
        · rename_i l e2
          cases e
          obtain ⟨x, hx, rfl⟩ := h1
          obtain ⟨a', ob, ha', hob, vs, nn, rfl, hall, hz⟩ := D.obj e1
          rw [hx] at ha'; cases ha'
          refine .cons ?_ (tupKeys_is D h2 e2)
          cases hall with
          | cons q1 q2 =>
            cases q2 with
            | cons q2 q3 =>
              cases q3
              obtain ⟨t, rfl⟩ := q1
              obtain ⟨u, rfl⟩ := q2
              exact ⟨x, t, u, nn, rfl, hob⟩
        · cases e
      · cases e
    · cases e

theorem tups_of {h : Heap} : ∀ {us : List Value} {ks : List (Int × Int)}, All2 (TupAt h) us ks → ∃ fs : List Value, KatTups h us fs ∧ fs.length = us.length ∧ ∀ v ∈ fs, ∃ i t, v = .int i t
  | [], _, .nil => ⟨[], KatTups.nil, rfl, fun _ h => (nomatch h)⟩
  | u :: us, _, .cons h1 h2 => by
    obtain ⟨fs, a, b, d⟩ := tups_of h2
    obtain ⟨x, t, u', n, rfl, ho⟩ := h1
    refine ⟨_ :: fs, KatTups.cons ho rfl rfl rfl a, by simp [b], fun v hv => ?_⟩
    rcases List.mem_cons.mp hv with rfl | hv
    · exact ⟨_, _, rfl⟩
    · exact d v hv

theorem getD_all {g : Heap} {as : List Addr} {xs : List V} {us : List Value} (h : All2 (VR g as) xs us) (i : Nat) : VR g as (xs.getD i .none) (us.getD i .none) := by
  rw [List.getD_eq_getElem?_getD, List.getD_eq_getElem?_getD]
  cases e : xs[i]? with
  | none =>
    have : us[i]? = none := by
      rw [List.getElem?_eq_none_iff] at e ⊢
      rw [← h.length]; exact e
    rw [this]; rfl
  | some v =>
    obtain ⟨u, hu, hv⟩ := h.get e
    rw [hu]; exact hv
theorem map_all {g : Heap} {as : List Addr} {xs : List V} {us : List Value} (h : All2 (VR g as) xs us) : ∀ l : List Nat, All2 (VR g as) (l.map fun i => xs.getD i .none) (l.map fun i => us.getD i .none)
  | [] => .nil
  | i :: l => .cons (getD_all h i) (map_all h l)

theorem All2.getR {α β : Type} {R : α → β → Prop} {l : List α} {m : List β} (h : All2 R l m) : ∀ {i : Nat} {b : β}, m[i]? = some b → ∃ a, l[i]? = some a ∧ R a b := by
  induction h with
  | nil => intro i a e; simp at e
  | cons h1 _ ih =>
    intro i a e
    cases i with
    | zero => simp at e; subst e; exact ⟨_, rfl, h1⟩
    | succ i => simpa using ih (by simpa using e)

theorem sCallSorted (AO : AOk A n) (D : InvD c g env as m zs ys st s.heap) (P : Post c g env ys k Q s) {vs : List V} {xs : List Value} (hv : All2 (VR c.ro as) vs xs) (hk : callSorted vs st k) : wpN (MD c) A (call (.builtin "sorted") xs) Q s := by
  refine wpN_any ?_
  unfold callSorted at hk
  split at hk
  · rename_i i
    cases hv with
    | cons h1 h2 =>
      cases h2
      obtain ⟨a, ha, rfl⟩ := h1
      have short : ∀ {us : List Value} {o : O}, s.heap.IsList a (List.toArray us) → us.length < 2 → (∀ D', ∀ n', OR c (as ++ [D']) o (PySem.W.listOf (List.toArray us) n')) → new o st k → wpAny (MD c) A (call (.builtin "sorted") [.ref a]) Q noE s := by
        intro us o hl h2 ho hn
        refine short_sorted hl h2 fun D' h' n' hD ho' hk' => ?_
        exact P _ _ _ _ _ ⟨_, m, zs, (D.alloc (fun b o _ e => hk' b o e) (D.ns.keeps hk') hD ho' (ho D' n')).push (v := .obj st.H.length) ⟨_, D.last _, rfl⟩⟩ hn
      split at hk
      · rename_i e1
        obtain ⟨a', ob, ha', hob, us, nn, rfl, hi, hz⟩ := D.obj e1
        rw [ha] at ha'; cases ha'
        cases hi
        exact short (us := []) (o := .list []) ⟨_, hob, rfl, nn, rfl⟩ (by decide) (fun D' n' => ⟨[], n', rfl, .nil, Nat.zero_le _⟩) hk
      · rename_i xs e1
        obtain ⟨a', ob, ha', hob, us, nn, rfl, hall, hz⟩ := D.obj e1
        rw [ha] at ha'; cases ha'
        split at hk
        · rename_i ks e2 e3
          have e3 : xs.length < 64 := Nat.le_of_ble_eq_true e3
          split at hk
          · rename_i zs' e4
            unfold sortV at e4
            split at e4
            · rename_i e5
              have e5 : xs.length < 2 := Nat.le_of_ble_eq_true e5
              cases e4
              exact short (us := us) (o := .list xs) ⟨_, hob, rfl, nn, rfl⟩ (by rw [← hall.length]; exact e5) (fun D' n' => ⟨us, n', rfl, hall.up, hz⟩) hk
            · rename_i e5
              have e5 : ¬ xs.length < 2 := fun q => by
                have := Nat.ble_eq_true_of_le q
                rw [show Nat.blt xs.length 2 = Nat.ble (xs.length + 1) 2 from rfl, this] at e5; cases e5
              split at e4
              · rename_i p e6
                split at e4
                · rename_i e7
                  cases e4
                  have e7 := Nat.le_of_ble_eq_true e7
                  have hlen := hall.length
                  refine kat_sorted (fr0 D.ns) (allN_news _ _) (vs := us) ⟨_, hob, rfl, nn, rfl⟩ (by omega) (by omega) fun D' e1' h' F' N' hlt => ?_
                  have keep : ∀ b o, b ≠ env.locals → s.heap.get? b = some o → h'.get? b = some o := allN_keep N' fun p hp => .tail _ hp
                  have hts : All2 (TupAt h') us ks := (tupKeys_is D hall e2).mono fun y p ⟨a, t, u, n, e, ho⟩ => ⟨a, t, u, n, e, keep _ _ (ns_ne D.ns ho fun _ _ q => by cases q) ho⟩
                  obtain ⟨fs, k1, k2, k3⟩ := tups_of hts
                  refine kat_kind k1 (by omega) (T := .type "int") (fun v hv => by obtain ⟨i, t, rfl⟩ := k3 v hv; exact Looks.of_pure rfl) (by decide) ?_
                  show (kas_sort us.length).kasWp _ _ _
                  rw [← hlen]
                  refine kasWp_run (ks := ks) (lt := lexLt) (I := fun s' => s' = { s with heap := h' }) (fun i j p q C s' hI e1 e2 hC => ?_) _ p _ e6 rfl fun s' hI => ?_
                  · subst hI
                    obtain ⟨u, hu, tu⟩ := hts.getR e1
                    obtain ⟨v, hv, tv⟩ := hts.getR e2
                    unfold kas_ask
                    rw [List.getD_eq_getElem?_getD, List.getD_eq_getElem?_getD, hu, hv]
                    exact tup_lt tu tv (hC _ rfl)
                  · subst hI
                    refine KasFin.intro F' N' (.head fun p hp => Nat.ne_of_lt (hlt p hp)) fun h'' cc F'' N'' => ?_
                    exact sNewN D P (o := .list (p.toList.map fun i => xs.getD i .none)) F'' N'' hlt ⟨_, cc, rfl, (map_all hall _).up, by rw [List.length_map]; omega⟩ hk
                · cases e4
              · cases e4
          · exact hk.elim
        · exact hk.elim
      · exact hk.elim
  · exact hk.elim
end
end Mine

end
/- S13 -/
section
open PySem PySem.W PyProof.Rows
namespace Mine

section
variable {c : Cx} {g : Heap} {env : Env} {as : List Addr} {m : Str → Option Value} {zs ys : List Value} {st : St} {A : Around} {s : Shared} {n : Nat} {ih : Ev}

theorem lrep_all {x : Str} {v : V} {y : Value} {l : List (Str × V)} {zs : List Value} (h : All2 (LR c g as env m) l zs) (hk : env.kindOf x = some .local) (hd : strEq x ("__debug__" : Str) = false) (hv : VR c.ro as v y) :
    ∃ zs', All2 (LR c g as env (fun z => if z = x then some y else m z)) (lrep x v l) zs' := by
  induction h with
  | nil => exact ⟨[], .nil⟩
  | @cons p z l zs h1 _ ih =>
    obtain ⟨zs', ih⟩ := ih
    unfold lrep
    cases q : strEq p.1 x with
    | true =>
      have e := (strEq_iff _ _).mp q
      exact ⟨y :: zs', .cons ⟨h1.1, hv, .inl ⟨by rw [show p.1 = x from e]; exact hk, by show (if p.1 = x then some y else m p.1) = some y; rw [if_pos e]⟩⟩ ih⟩
    | false =>
      have e := strEq_false q
      refine ⟨z :: zs', .cons ⟨h1.1, h1.2.1, ?_⟩ ih⟩
      rcases h1.2.2 with ⟨a, b⟩ | r
      · exact .inl ⟨a, by show (if p.1 = x then some y else m p.1) = some z; rw [if_neg e]; exact b⟩
      · exact .inr r
theorem lsetL_all {x : Str} {v : V} {y : Value} {l : List (Str × V)} {zs : List Value} (h : All2 (LR c g as env m) l zs) (hk : env.kindOf x = some .local) (hd : strEq x ("__debug__" : Str) = false) (hv : VR c.ro as v y) :
    ∃ zs', All2 (LR c g as env (fun z => if z = x then some y else m z)) (lsetL x v l) zs' := by
  induction h with
  | nil => exact ⟨[y], .cons ⟨hd, hv, .inl ⟨hk, by simp⟩⟩ .nil⟩
  | @cons p z l zs h1 h2 ih =>
    unfold lsetL
    cases q : strEq p.1 x with
    | true =>
      have e := (strEq_iff _ _).mp q
      obtain ⟨zs', r⟩ := lrep_all h2 hk hd hv
      exact ⟨y :: zs', .cons ⟨h1.1, hv, .inl ⟨by rw [show p.1 = x from e]; exact hk, by show (if p.1 = x then some y else m p.1) = some y; rw [if_pos e]⟩⟩ r⟩
    | false =>
      have e := strEq_false q
      obtain ⟨zs', r⟩ := ih
      refine ⟨z :: zs', .cons ⟨h1.1, h1.2.1, ?_⟩ r⟩
      rcases h1.2.2 with ⟨a, b⟩ | r
      · exact .inl ⟨a, by show (if p.1 = x then some y else m p.1) = some z; rw [if_neg e]; exact b⟩
      · exact .inr r

theorem lget_lookup {α : Type} (x : Str) : ∀ l : List (Str × α), lget x l = l.lookup x
  | [] => rfl
  | (a, b) :: r => by
    unfold lget
    rw [List.lookup_cons]
    have : (x == a) = strEq a x := by
      rw [strEq_beq]
      by_cases h : x = a
      · subst h; simp
      · have h' : ¬ a = x := fun e => h e.symm
        rw [beq_eq_false_iff_ne.mpr h, beq_eq_false_iff_ne.mpr h']
    rw [this]
    show (match strEq a x with | true => some b | false => lget x r) = (match strEq a x with | true => some b | false => List.lookup x r)
    rw [lget_lookup x r]
theorem okLocal_kind {x : Str} (D : InvD c g env as m zs ys st s.heap) (e : okLocal st.sc x = true) : env.kindOf x = some .local ∧ strEq x ("__debug__" : Str) = false := by
  unfold okLocal at e
  rw [D.sc, lget_lookup] at e
  split at e
  · rename_i q
    exact ⟨q, by simpa using e⟩
  · cases e

theorem sStore (EO : EnvOk g env) (D : InvD c g env as m zs ys st s.heap) {x : Str} {v : V} {y : Value} {k : St → Prop} {Q : Shared → Prop} (hv : VR c.ro as v y) (e : okLocal st.sc x = true) (P : Post0 c g env ys k Q s) (hk : k ⟨st.H, lsetL x v st.l, st.s, st.sc⟩) : wpN (MD c) A (storeName env x y) (fun _ => Q) s := by
  obtain ⟨h1, h2⟩ := okLocal_kind D e
  refine wpN_any (wpAny_storeName_local h1 D.ns (fun h' hn hs => ?_) (by rw [EO.kind]; rfl))
  obtain ⟨zs', r⟩ := lsetL_all D.loc h1 h2 hv
  exact P _ h' _ ⟨as, _, zs', D.growL (fun b o hb e => (hs.2 b hb).trans e) hn r⟩ hk

theorem sAsg1 (TO : TabOk c) (S : Sound c n ih) (G : GOk c g) (EO : EnvOk g env) (AO : AOk A n) (D : InvD c g env as m zs ys st s.heap) {t : Expr} {v : V} {y : Value} {k : St → Prop} {Q : Shared → Prop} (hv : VR c.ro as v y) (P : Post0 c g env ys k Q s) (hk : asg1 c.T ih t v st k) :
    wpN (MD c) A (assign t env y) (fun _ => Q) s := by
  unfold asg1 at hk
  split at hk
  · split at hk
    · rename_i e
      exact N_asName (sStore EO D hv e P hk)
    · exact hk.elim
  · rename_i o a p
    refine N_asAttr (S.e _ _ _ hk g env (y :: ys) A s _ G EO AO ⟨as, m, zs, D.push hv⟩ fun ov st1 yo h1 tk1 D1 hk1 => ?_)
    obtain ⟨as1, m1, zs1, D1, ho⟩ := D1.unpush
    obtain ⟨v', s', e1, hv', D2, hk2⟩ := D1.pop hk1
    exact sSetAttr (s := ⟨h1, s.gens, s.drawn, tk1, s.os⟩) TO G D2 ho hv' P hk2
  · rename_i o i p
    split at hk
    · exact hk.elim
    · refine N_asItem (S.e _ _ _ hk g env (y :: ys) A s _ G EO AO ⟨as, m, zs, D.push hv⟩ fun ov st1 yo h1 tk1 D1 hk1 => ?_)
      refine S.e _ _ _ hk1 g env (yo :: y :: ys) A ⟨h1, s.gens, s.drawn, tk1, s.os⟩ _ G EO AO D1 fun iv st2 yi h2 tk2 D2 hk2 => ?_
      obtain ⟨as2, m2, zs2, D2, hi⟩ := D2.unpush
      obtain ⟨ov', s3, e3, ho, D3, hk3⟩ := D2.pop hk2
      obtain ⟨v', s4, e4, hv', D4, hk4⟩ := D3.pop hk3
      exact sSetItem (s := ⟨h2, s.gens, s.drawn, tk2, s.os⟩) D4 P ho hi hv' hk4
  · exact hk.elim

theorem popN_all {xs : List Value} : ∀ {ys : List Value} {st : St} {h : Heap} {k : List V → St → Prop}, InvD c g env as m zs (xs ++ ys) st h → popN xs.length st k → ∃ vs st', InvD c g env as m zs ys st' h ∧ All2 (VR c.ro as) vs xs ∧ k vs st' := by
  induction xs with
  | nil => intro ys st h k D hk; exact ⟨[], st, D, .nil, hk⟩
  | cons x xs ih =>
    intro ys st h k D hk
    obtain ⟨v, s', e, hv, D', hk'⟩ := D.pop hk
    obtain ⟨vs, st', D2, hvs, hk2⟩ := ih D' hk'
    exact ⟨_, st', D2, .cons hv hvs, hk2⟩

theorem sAsgAll (TO : TabOk c) (S : Sound c n ih) (G : GOk c g) (EO : EnvOk g env) (AO : AOk A n) : ∀ {ts : List Expr} {vs : List V} {xs ys : List Value} {st : St} {s : Shared} {as : List Addr} {m : Str → Option Value} {zs : List Value} {k : St → Prop} {Q : Shared → Prop},
    InvD c g env as m zs ys st s.heap → All2 (VR c.ro as) vs xs → Post0 c g env ys k Q s → asgAll c.T ih ts vs st k → wpN (MD c) A (assignInOrder (ts.map fun t => assign t env) xs) (fun _ => Q) s
  | [], [], xs, ys, st, s, as, m, zs, k, Q, D, hv, P, hk => by
    cases hv
    exact N_order_nil (P _ s.heap s.toks ⟨as, m, zs, D⟩ hk)
  | t :: ts, v :: vs, _, ys, st, s, as, m, zs, k, Q, D, .cons hv hvs, P, hk => by
    rename_i xs'
    unfold asgAll at hk
    have Dp : InvD c g env as m zs (xs' ++ ys) (pushAll vs st) s.heap := D.stack (hvs.append D.stk)
    rw [List.map_cons]
    refine N_order_cons (sAsg1 TO S G EO AO Dp (k := fun st1 => popN vs.length st1 fun vs' st2 => asgAll c.T ih ts vs' st2 k) hv (fun st1 h1 tk1 D1 hk1 => ?_) hk)
    obtain ⟨as1, m1, zs1, D1⟩ := D1
    rw [hvs.length] at hk1
    obtain ⟨vs', st2, D2, hvs', hk2⟩ := popN_all D1 hk1
    exact sAsgAll TO S G EO AO (s := ⟨h1, s.gens, s.drawn, tk1, s.os⟩) D2 hvs' P hk2
  | [], _ :: _, _, _, _, _, _, _, _, _, _, _, _, _, hk => hk.elim
  | _ :: _, [], _, _, _, _, _, _, _, _, _, _, _, _, hk => hk.elim

theorem sAsg (TO : TabOk c) (S : Sound c n ih) (G : GOk c g) (EO : EnvOk g env) (AO : AOk A n) (D : InvD c g env as m zs ys st s.heap) {t : Expr} {v : V} {y : Value} {k : St → Prop} {Q : Shared → Prop} (hv : VR c.ro as v y) (P : Post0 c g env ys k Q s) (hk : asg c.T ih t v st k) :
    wpN (MD c) A (assign t env y) (fun _ => Q) s := by
  unfold asg at hk
  split at hk
  · rename_i ts kk p
    split at hk
    · rename_i i
      split at hk
      · rename_i xs e1
        split at hk
        · rename_i e2 e3
          have e3 := Nat.eq_of_beq_eq_true e3
          obtain ⟨a, ha, rfl⟩ := hv
          obtain ⟨a', ob, ha', hob, us, nn, rfl, hall, hz⟩ := D.obj e1
          rw [ha] at ha'; cases ha'
          refine N_asTuple e2 (wpN_any ?_)
          have hsz : ts.length = (List.toArray us).size := by rw [List.size_toArray, ← hall.length]; exact e3
          rw [hsz]
          refine unpackItems_tuple (items := List.toArray us) AO.handled ⟨_, hob, rfl, nn, rfl⟩ fun h' hx => (?_ : wpN _ _ _ _ _)
          have kk : ∀ b o, s.heap.get? b = some o → h'.get? b = some o := fun b o e => hx b o (Nat.ne_of_lt (Heap.lt_size e)) e
          exact sAsgAll TO S G EO AO (s := { s with heap := h' }) (D.grow (fun b o _ e => kk b o e) (D.ns.keeps kk)) hall P hk
        · exact hk.elim
      · exact hk.elim
    · exact hk.elim
  · exact sAsg1 TO S G EO AO D hv P hk
end
end Mine

end
/- S14 -/
section
open PySem PySem.W PyProof.Rows
namespace Mine

noncomputable def upds (m : Str → Option Value) : List Str → List Value → Str → Option Value
  | x :: xs, y :: ys => upds (fun z => if z = x then some y else m z) xs ys
  | _, _ => m
theorem upds_not {z : Str} : ∀ {xs : List Str} {ys : List Value} {m : Str → Option Value}, z ∉ xs → upds m xs ys z = m z
  | [], _, m, _ => by unfold upds; rfl
  | x :: xs, [], m, _ => by unfold upds; rfl
  | x :: xs, y :: ys, m, h => by
    unfold upds
    rw [upds_not fun q => h (.tail _ q)]
    show (if z = x then some y else m z) = m z
    rw [if_neg fun (q : z = x) => h (by rw [q]; exact .head _)]
theorem upds_at : ∀ {xs : List Str} {ys : List Value} {m : Str → Option Value} {i : Nat} {x : Str} {y : Value}, xs.Nodup → xs[i]? = some x → ys[i]? = some y → upds m xs ys x = some y
  | [], _, _, i, _, _, _, h, _ => by simp at h
  | a :: xs, [], _, i, _, _, _, _, h => by simp at h
  | a :: xs, b :: ys, m, 0, x, y, hn, h1, h2 => by
    simp at h1 h2
    subst h1; subst h2
    unfold upds
    rw [List.nodup_cons] at hn
    rw [upds_not hn.1]
    show (if a = a then some b else m a) = some b
    rw [if_pos rfl]
  | a :: xs, b :: ys, m, i + 1, x, y, hn, h1, h2 => by
    unfold upds
    rw [List.nodup_cons] at hn
    exact upds_at hn.2 (by simpa using h1) (by simpa using h2)
theorem upds_rev {xs : List Str} {ys : List Value} {m : Str → Option Value} (hn : xs.Nodup) (hl : xs.length = ys.length) : upds m xs.reverse ys.reverse = upds m xs ys := by
  funext z
  by_cases h : z ∈ xs
  · obtain ⟨i, hi, e⟩ := List.getElem_of_mem h
    have hy : ys[i]? = some (ys[i]'(by omega)) := List.getElem?_eq_getElem (by omega)
    rw [upds_at hn (by rw [List.getElem?_eq_getElem hi, e]) hy]
    refine upds_at (i := xs.length - 1 - i) (List.pairwise_reverse.mpr (List.Pairwise.imp (fun h e => h e.symm) hn)) ?_ ?_
    · rw [List.getElem?_reverse (by omega), show xs.length - 1 - (xs.length - 1 - i) = i from by omega, List.getElem?_eq_getElem hi, e]
    · rw [List.getElem?_reverse (by omega), show ys.length - 1 - (xs.length - 1 - i) = i from by omega]; exact hy
  · rw [upds_not h, upds_not fun q => h (List.mem_reverse.mp q)]

/-- targets that are names of locals -/
noncomputable def namesOf (env : Env) : List Expr → Option (List Str)
  | [] => some []
  | .Name x _ :: r => match env.kindOf x == some .local, namesOf env r with
    | true, some l => some (x :: l)
    | _, _ => none
  | _ :: _ => none

theorem eraseDups_nodup : ∀ (n : Nat) (l : List Str), l.length ≤ n → l.eraseDups.length = l.length → l.Nodup
  | _, [], _, _ => List.nodup_nil
  | 0, x :: l, h, _ => by simp at h
  | n + 1, x :: l, h, e => by
    rw [List.eraseDups_cons] at e
    simp only [List.length_cons] at e h
    have h1 : (l.filter fun b => !b == x).eraseDups.length ≤ (l.filter fun b => !b == x).length := by
      have : ∀ (k : Nat) (l : List Str), l.length ≤ k → l.eraseDups.length ≤ l.length := by
        intro k
        induction k with
        | zero => intro l hl; cases l with
          | nil => simp
          | cons a l => simp at hl
        | succ k ih =>
          intro l hl
          cases l with
          | nil => simp
          | cons a l =>
            rw [List.eraseDups_cons]
            simp only [List.length_cons] at hl ⊢
            have := ih (l.filter fun b => !b == a) (by have := List.length_filter_le (fun b => !b == a) l; omega)
            have := List.length_filter_le (fun b => !b == a) l
            omega
      exact this _ _ (Nat.le_refl _)
    have h2 := List.length_filter_le (fun b => !b == x) l
    have h3 : (l.filter fun b => !b == x).length = l.length := by omega
    have h4 : l.filter (fun b => !b == x) = l := List.filter_eq_self.mpr (by
      have := List.length_filter_eq_length_iff.mp h3
      exact this)
    rw [List.nodup_cons]
    refine ⟨fun hx => ?_, eraseDups_nodup n l (by omega) (by rw [h4] at e; omega)⟩
    have := List.filter_eq_self.mp h4 x hx
    simp at this

theorem names_filter {env : Env} {line : Nat} : ∀ {ts : List Expr} {f : Expr → Option Str}, (f = fun t => match t with | .Name id pos => if env.kindOf id == some .local && pos.line == line then some id else none | _ => none) →
    (ts.filterMap f).length = ts.length → namesOf env ts = some (ts.filterMap f)
  | [], f, _, _ => rfl
  | t :: ts, f, hf, h => by
    have hle := List.length_filterMap_le f ts
    rw [List.filterMap_cons] at h
    have hs : ∃ x, f t = some x := by
      cases q : f t with
      | none => rw [q] at h; simp only [List.length_cons] at h; omega
      | some x => exact ⟨x, rfl⟩
    obtain ⟨x, hx⟩ := hs
    rw [hx] at h
    simp only [List.length_cons, Nat.add_right_cancel_iff] at h
    rw [List.filterMap_cons, hx]
    have ih := names_filter hf h
    rw [hf] at hx
    cases t with
    | Name id pos =>
      dsimp only at hx
      split at hx
      · rename_i q
        cases hx
        rw [Bool.and_eq_true] at q
        unfold namesOf
        rw [q.1, ih]
      · cases hx
    | _ => cases hx

theorem sw_aux {b1 b2 b3 b4 b5 : Bool} {names : List Str} {X : Sem (Option (List Str))} (h : b5 = true → b4 = true) :
    (if b1 = true then pure none else if b2 = true then pure none else if b3 = true then pure none else if b4 = true then pure none else if b5 = true then X else pure (some names) : Sem (Option (List Str))) = pure none ∨
    (b3 = false ∧ (if b1 = true then pure none else if b2 = true then pure none else if b3 = true then pure none else if b4 = true then pure none else if b5 = true then X else pure (some names) : Sem (Option (List Str))) = pure (some names)) := by
  cases b1 <;> cases b2 <;> cases b3 <;> cases b4 <;> cases b5 <;> simp_all
theorem swapped_cases {env : Env} {t e : Expr} (ho : okSwap t e = true) : swappedStores [t] e env = pure none ∨ ∃ ts k p names, t = .Tuple ts k p ∧ namesOf env ts = some names ∧ names.Nodup ∧ swappedStores [t] e env = pure (some names) := by
  cases t with
  | Tuple ts k p =>
   cases e with
   | Tuple vs k' p' =>
    have hb : vs.all (constantsAlone 8) = true → vs.all (foldedForSure 8) = true := fun q => by
      (have ho : (!(vs.all (constantsAlone 8)) || vs.all (foldedForSure 8)) = true := ho; rw [q] at ho; simpa using ho)
    rcases sw_aux (b1 := (!(ts.length == 2 || ts.length == 3) || vs.length != ts.length || env.blockKind != .function)) (b2 := vs.any fun | .Starred .. => true | _ => false)
      (names := ts.filterMap fun
        | .Name id pos => if env.kindOf id == some .local && pos.line == ((ts.head?.map (·.pos.line)).getD 0) then some id else none
        | _ => none)
      (b3 := (ts.filterMap fun
        | .Name id pos => if env.kindOf id == some .local && pos.line == ((ts.head?.map (·.pos.line)).getD 0) then some id else none
        | _ => none).length != ts.length || (ts.filterMap fun
        | .Name id pos => if env.kindOf id == some .local && pos.line == ((ts.head?.map (·.pos.line)).getD 0) then some id else none
        | _ => none).eraseDups.length != (ts.filterMap fun
        | .Name id pos => if env.kindOf id == some .local && pos.line == ((ts.head?.map (·.pos.line)).getD 0) then some id else none
        | _ => none).length) (X := do unsupported "assign.tuple-of-constant-expressions:order-of-the-stores"; pure (some (ts.filterMap fun
        | .Name id pos => if env.kindOf id == some .local && pos.line == ((ts.head?.map (·.pos.line)).getD 0) then some id else none
        | _ => none))) hb with q | ⟨q1, q2⟩
    · left; exact q
    · right
      rw [Bool.or_eq_false_iff] at q1
      obtain ⟨q3, q4⟩ := q1
      refine ⟨ts, k, p, _, rfl, names_filter rfl (by simpa using q3), eraseDups_nodup _ _ (Nat.le_refl _) (by simpa using q4), q2⟩
   | _ => exact .inl rfl
  | List ts p => cases e <;> exact Bool.noConfusion ho
  | _ => exact .inl rfl

section
variable {c : Cx} {g : Heap} {env : Env} {A : Around} {n : Nat} {ih : Ev}

/-- stores of names, one behind the other -/
theorem stores_run (EO : EnvOk g env) : ∀ {names : List Str} {us : List Value} {m : Str → Option Value} {s : Shared} {Q : Unit → Shared → Prop}, (∀ x ∈ names, env.kindOf x = some .local) → names.length = us.length → s.heap.Ns env.locals m →
    (∀ h' tk, h'.Ns env.locals (upds m names us) → (∀ b o, b ≠ env.locals → s.heap.get? b = some o → h'.get? b = some o) → Q () ⟨h', s.gens, s.drawn, tk, s.os⟩) → wpN (MD c) A (assignInOrder (names.map fun x => bindName env x) us) Q s
  | [], [], m, s, Q, _, _, hn, P => N_order_nil (P s.heap s.toks hn fun _ _ _ e => e)
  | x :: names, u :: us, m, s, Q, hk, hl, hn, P => by
    rw [List.map_cons]
    refine N_order_cons (wpN_bindName (wpN_any (wpAny_storeName_local (hk x (.head _)) hn (fun h' hn' hs => (?_ : wpN _ _ _ _ _)) (by rw [EO.kind]; rfl))))
    refine stores_run EO (s := { s with heap := h', toks := s.toks + 1 }) (fun y hy => hk y (.tail _ hy)) (by simpa using hl) hn' fun h'' tk hn'' kk => P h'' tk hn'' fun b o hb e => kk b o hb ((hs.2 b hb).trans e)
  | [], _ :: _, _, _, _, _, h, _, _ => by simp at h
  | _ :: _, [], _, _, _, _, h, _, _ => by simp at h

theorem namesOf_locals {env : Env} : ∀ {ts : List Expr} {names : List Str}, namesOf env ts = some names → names.length = ts.length ∧ ∀ x ∈ names, env.kindOf x = some .local
  | [], names, h => by cases h; exact ⟨rfl, fun _ h => (nomatch h)⟩
  | t :: ts, names, h => by
    cases t with
    | Name x p =>
      unfold namesOf at h
      split at h
      · rename_i l e1 e2
        cases h
        obtain ⟨a, b⟩ := namesOf_locals e2
        refine ⟨by simp [a], fun y hy => ?_⟩
        rcases List.mem_cons.mp hy with rfl | hy
        · simpa using e1
        · exact b y hy
      · cases h
    | _ => simp [namesOf] at h

/-- the evaluator's stores of names, one behind the other: what the locals are then -/
theorem names_fold : ∀ {ts : List Expr} {names : List Str} {vs : List V} {xs : List Value} {st : St} {as : List Addr} {m : Str → Option Value} {zs : List Value} {k : St → Prop}, namesOf env ts = some names → All2 (VR c.ro as) vs xs → All2 (LR c g as env m) st.l zs → st.sc = env.scope.names → asgAll c.T ih ts vs st k →
    ∃ l' zs', k ⟨st.H, l', st.s, st.sc⟩ ∧ All2 (LR c g as env (upds m names xs)) l' zs'
  | [], names, vs, xs, st, as, m, zs, k, h, hv, hl, hsc, hk => by
    cases h
    cases hv with
    | nil => exact ⟨st.l, zs, hk, hl⟩
    | cons _ _ => exact hk.elim
  | t :: ts, names, vs, xs, st, as, m, zs, k, h, hv, hl, hsc, hk => by
    cases t with
    | Name x p =>
      unfold namesOf at h
      split at h
      · rename_i l e1 e2
        cases h
        cases hv with
        | nil => exact hk.elim
        | @cons v y vs xs h1 h2 =>
          unfold asgAll asg1 at hk
          dsimp only at hk
          split at hk
          · rename_i e3
            have hloc : env.kindOf x = some .local := by simpa using e1
            have hd : strEq x ("__debug__" : Str) = false := by
              unfold okLocal at e3
              rw [show (pushAll vs st).sc = st.sc from rfl, hsc, lget_lookup] at e3
              split at e3
              · simpa using e3
              · cases e3
            obtain ⟨zs1, q1⟩ := lsetL_all hl hloc hd h1
            have hp : ∀ (vs : List V) (st : St) (k : List V → St → Prop), popN vs.length (pushAll vs st) k → k vs st := by
              intro vs
              induction vs with
              | nil => intro st k h; exact h
              | cons v vs ih => intro st k h; exact ih st _ h
            have hk2 := hp vs ⟨st.H, lsetL x v st.l, st.s, st.sc⟩ _ hk
            obtain ⟨l', zs', k1, k2⟩ := names_fold (st := ⟨st.H, lsetL x v st.l, st.s, st.sc⟩) e2 h2 q1 hsc hk2
            exact ⟨l', zs', k1, k2⟩
          · exact hk.elim
      · cases h
    | _ => simp [namesOf] at h
end

section
variable {c : Cx} {g : Heap} {env : Env} {as : List Addr} {m : Str → Option Value} {zs ys : List Value} {st : St} {A : Around} {s : Shared} {n : Nat} {ih : Ev}
theorem sAssign (TO : TabOk c) (S : Sound c n ih) (G : GOk c g) (EO : EnvOk g env) (AO : AOk A n) (D : InvD c g env as m zs ys st s.heap) {t e : Expr} {v : V} {y : Value} {k : St → Prop} {Q : Flow → Shared → Prop} (hv : VR c.ro as v y) (ho : okSwap t e = true) (P : Post0 c g env ys k (Q .next) s) (hk : asg c.T ih t v st k) :
    wpN (MD c) A (swappedStores [t] e env) (storesN (MD c) A env t y Q) s := by
  rcases swapped_cases (env := env) ho with q | ⟨ts, kk, p, names, rfl, h1, h2, q⟩
  · rw [q]
    exact wpN_pure (sAsg TO S G EO AO D hv P hk)
  · rw [q]
    refine wpN_pure ?_
    obtain ⟨hlen, hloc⟩ := namesOf_locals h1
    unfold asg at hk
    dsimp only at hk
    split at hk
    · rename_i i
      split at hk
      · rename_i xs e1
        split at hk
        · rename_i e2 e3
          have e3 := Nat.eq_of_beq_eq_true e3
          obtain ⟨a, ha, rfl⟩ := hv
          obtain ⟨a', ob, ha', hob, us, nn, rfl, hall, hz⟩ := D.obj e1
          rw [ha] at ha'; cases ha'
          have hsz : names.length = (List.toArray us).size := by rw [List.size_toArray, ← hall.length, hlen]; exact e3
          show wpN _ _ (unpackItems (.ref a) names.length none) _ _
          rw [hsz]
          refine wpN_any (unpackItems_tuple (items := List.toArray us) AO.handled ⟨_, hob, rfl, nn, rfl⟩ fun h' hx => (?_ : wpN _ _ _ _ _))
          have kk : ∀ b o, s.heap.get? b = some o → h'.get? b = some o := fun b o e => hx b o (Nat.ne_of_lt (Heap.lt_size e)) e
          obtain ⟨l', zs', k1, k2⟩ := names_fold h1 hall D.loc D.sc hk
          have hl2 : names.length = us.length := by rw [hsz, List.size_toArray]
          refine stores_run EO (s := { s with heap := h' }) (fun x hx => hloc x (List.mem_reverse.mp hx)) (by rw [List.length_reverse, List.length_reverse]; exact hl2) (D.ns.keeps kk) fun h'' tk hn kb => ?_
          rw [upds_rev h2 hl2] at hn
          exact P _ h'' tk ⟨as, _, zs', D.growL (fun b o hb e => kb b o hb (kk b o e)) hn k2⟩ k1
        · exact hk.elim
      · exact hk.elim
    · exact hk.elim
end
end Mine

end
/- D1 -/
section
open PySem PySem.W PyProof.Rows
namespace Mine

theorem lookup_zip_some {n : Str} : ∀ {names : List Str} {xs : List Value}, n ∈ names.take xs.length → ((names.zip xs).lookup n).isSome = true
  | [], _, h => by simp at h
  | a :: names, [], h => by simp at h
  | a :: names, x :: xs, h => by
    rw [List.zip_cons_cons, List.lookup_cons]
    cases e : n == a with
    | true => rfl
    | false =>
      rw [List.length_cons, List.take_succ_cons] at h
      rcases List.mem_cons.mp h with q | q
      · rw [q] at e; simp at e
      · exact lookup_zip_some q
theorem lookup_keys {n : Str} : ∀ {l : List (Str × Value)}, n ∉ l.map (·.1) → l.lookup n = none
  | [], _ => rfl
  | (a, b) :: l, h => by
    rw [List.lookup_cons]
    cases e : n == a with
    | true => exact absurd (by have q : n = a := (by simpa using e); rw [q]; exact .head _) h
    | false => exact lookup_keys fun q => h (.tail _ q)
theorem for_skip {f : Str × Value → List (Str × Value) → Sem (ForInStep (List (Str × Value)))} (hf : ∀ p sl, f p sl = if (List.lookup p.1 sl).isNone = true then pure (.yield (sl ++ [(p.1, p.2)])) else pure (.yield sl)) {sl : List (Str × Value)} :
    ∀ {l l2 : List (Str × Value)}, (∀ p ∈ l, (List.lookup p.1 sl).isSome = true) → forIn (l ++ l2) sl f = forIn l2 sl f
  | [], _, _ => rfl
  | p :: l, l2, h => by
    rw [List.cons_append, List.forIn_cons, hf, if_neg (by have := h p (.head _); rw [Option.isNone_iff_eq_none]; intro q; rw [q] at this; cases this), pure_bind]
    exact for_skip hf fun q hq => h q (.tail _ hq)
theorem for_add {f : Str × Value → List (Str × Value) → Sem (ForInStep (List (Str × Value)))} (hf : ∀ p sl, f p sl = if (List.lookup p.1 sl).isNone = true then pure (.yield (sl ++ [(p.1, p.2)])) else pure (.yield sl)) :
    ∀ {l sl : List (Str × Value)}, (l.map (·.1)).Nodup → (∀ p ∈ l, p.1 ∉ sl.map (·.1)) → forIn l sl f = pure (sl ++ l)
  | [], sl, _, _ => by rw [List.forIn_nil, List.append_nil]
  | p :: l, sl, hn, h => by
    rw [List.map_cons, List.nodup_cons] at hn
    rw [List.forIn_cons, hf, if_pos (by rw [lookup_keys (h p (.head _))]; rfl), pure_bind]
    show forIn l (sl ++ [(p.1, p.2)]) f = _
    rw [for_add hf hn.2 fun q hq => ?_]
    · simp
    · rw [List.map_append, List.mem_append]
      rintro (e | e)
      · exact h q (.tail _ hq) e
      · have e : q.1 = p.1 := by simpa using e
        exact hn.1 (e ▸ List.mem_map_of_mem hq)
theorem filter_zip : ∀ {names : List Str} {vals : List Value} {pre : List (Str × Value)}, names.Nodup → names.length = vals.length → (∀ n ∈ names, n ∉ pre.map (·.1)) →
    names.filterMap (fun n => ((pre ++ names.zip vals).lookup n).map (n, ·)) = names.zip vals
  | [], _, _, _, _, _ => rfl
  | n :: names, [], _, _, h, _ => by simp at h
  | n :: names, v :: vals, pre, hn, hl, hp => by
    rw [List.nodup_cons] at hn
    have e1 : (pre ++ (n :: names).zip (v :: vals)).lookup n = some v := by
      rw [List.lookup_append, lookup_keys (hp n (.head _)), List.zip_cons_cons, List.lookup_cons]
      simp
    rw [List.filterMap_cons, e1]
    show (n, v) :: _ = _
    have e2 : pre ++ (n :: names).zip (v :: vals) = (pre ++ [(n, v)]) ++ names.zip vals := by simp
    rw [e2, filter_zip hn.2 (by simpa using hl)]
    · rfl
    · intro x hx
      rw [List.map_append, List.mem_append]
      rintro (q | q)
      · exact hp x (.tail _ hx) q
      · have q : x = n := by simpa using q
        exact hn.1 (q ▸ hx)
theorem zip_keys : ∀ {names : List Str} {xs : List Value}, (names.zip xs).map (·.1) = names.take xs.length
  | [], _ => by simp
  | _ :: _, [] => by simp
  | a :: names, x :: xs => by simp [zip_keys]

theorem drop_split {α : Type} {l : List α} {k n : Nat} (h : k ≤ n) (hn : n ≤ l.length) : l.drop k = (l.take n).drop k ++ l.drop n := by
  conv => lhs; rw [(List.take_append_drop n l).symm]
  rw [List.drop_append_of_le_length (by rw [List.length_take]; omega)]
section
variable {s : Shared}
theorem binds_plain {fd : FuncData} {xs : List Value} {names : List Str} {ds : Option (Array Value)} (h1 : fd.params.posonlyargs = []) (h2 : fd.params.kwonlyargs = []) (h3 : fd.params.vararg = none) (h4 : fd.params.kwarg = none)
    (hn : fd.params.args.map (·.arg) = names) (hd : names.Nodup) (hle : xs.length ≤ names.length) (hds : names.length - xs.length ≤ (ds.getD #[]).toList.length) (hdl : (ds.getD #[]).toList.length ≤ names.length)
    (hs : ∀ (M : Model) (A : Around) (E : Value → Shared → Prop) (Q : Option (Array Value) → Shared → Prop), Q ds s → wpAny M A (seqItems? fd.defaults) Q E s) :
    BindsTo s fd ⟨xs, []⟩ (names.zip (xs ++ (ds.getD #[]).toList.drop ((ds.getD #[]).toList.length - (names.length - xs.length)))) := by
  intro M A E Q hQ
  unfold bindArgs
  simp only [h1, h2, h3, h4, hn, List.map_nil, List.nil_append, List.append_nil]
  rw [List.forIn_nil]
  refine wpAny_bind (wpAny_pure ?_)
  refine wpAny_bind (hs _ _ _ _ ?_)
  generalize (ds.getD #[]).toList = dl at *
  have e0 : dl.length - names.length = 0 := by omega
  rw [e0, List.drop_zero]
  refine bm_if_false (by simp; omega) ?_
  have split : names = names.take xs.length ++ names.drop xs.length := (List.take_append_drop _ _).symm
  have hnd2 : (names.drop xs.length).Nodup := List.Nodup.sublist (List.drop_sublist _ _) hd
  have disj : ∀ x ∈ names.drop xs.length, x ∉ names.take xs.length := fun x hx hy => by
    have := hd
    rw [split, List.nodup_append] at this
    exact this.2.2 x hy x hx rfl
  have emp : (names.take (names.length - dl.length)).filter (fun n => (List.lookup n (names.zip xs)).isNone) = [] := by
    rw [List.filter_eq_nil_iff]
    intro n hn
    have : n ∈ names.take xs.length := by
      have e : names.take (names.length - dl.length) = (names.take xs.length).take (names.length - dl.length) := by
        rw [List.take_take, Nat.min_eq_left (by omega)]
      rw [e] at hn
      exact List.mem_of_mem_take hn
    have := lookup_zip_some this
    intro q
    rw [Option.isNone_iff_eq_none] at q
    rw [q] at this; cases this
  refine bm_if_false (by rw [emp]; rfl) ?_
  have e1 : (names.drop (names.length - dl.length)).zip dl = ((names.take xs.length).drop (names.length - dl.length)).zip (dl.take (xs.length - (names.length - dl.length))) ++ (names.drop xs.length).zip (dl.drop (dl.length - (names.length - xs.length))) := by
    have a1 : names.drop (names.length - dl.length) = (names.take xs.length).drop (names.length - dl.length) ++ names.drop xs.length := drop_split (by omega) hle
    have a2 : dl = dl.take (xs.length - (names.length - dl.length)) ++ dl.drop (dl.length - (names.length - xs.length)) := by
      have : dl.length - (names.length - xs.length) = xs.length - (names.length - dl.length) := by omega
      rw [this, List.take_append_drop]
    conv => lhs; rw [a1]; rhs; rw [a2]
    rw [List.zip_append]
    rw [List.length_drop, List.length_take, List.length_take]
    omega
  have hloop := for_skip (f := fun x sl => if (List.lookup x.1 sl).isNone = true then pure (.yield (sl ++ [(x.1, x.2)])) else pure (.yield sl)) (fun _ _ => rfl) (sl := names.zip xs) (l := ((names.take xs.length).drop (names.length - dl.length)).zip (dl.take (xs.length - (names.length - dl.length)))) (l2 := (names.drop xs.length).zip (dl.drop (dl.length - (names.length - xs.length)))) fun p hp => by
    have := (List.of_mem_zip hp).1
    exact lookup_zip_some (List.mem_of_mem_drop this)
  have hlen : (names.drop xs.length).length = (dl.drop (dl.length - (names.length - xs.length))).length := by rw [List.length_drop, List.length_drop]; omega
  have hadd := for_add (f := fun x sl => if (List.lookup x.1 sl).isNone = true then pure (.yield (sl ++ [(x.1, x.2)])) else pure (.yield sl)) (fun _ _ => rfl) (l := (names.drop xs.length).zip (dl.drop (dl.length - (names.length - xs.length)))) (sl := names.zip xs)
    (by rw [zip_keys, List.take_of_length_le (by omega)]; exact hnd2) fun p hp => by
      rw [zip_keys]; exact disj _ (List.of_mem_zip hp).1
  rw [e1, hloop, hadd]
  refine wpAny_bind (wpAny_pure ?_)
  rw [List.forIn_nil]
  refine wpAny_bind (wpAny_pure ?_)
  refine bm_if_false rfl ?_
  have e2 : names.zip xs ++ (names.drop xs.length).zip (dl.drop (dl.length - (names.length - xs.length))) = names.zip (xs ++ dl.drop (dl.length - (names.length - xs.length))) := by
    have : names.zip xs = (names.take xs.length).zip xs := by
      conv => lhs; rw [split]
      rw [show xs = xs ++ [] from (List.append_nil xs).symm, List.zip_append (by rw [List.length_take]; simp; omega)]
      simp
    rw [this]
    conv => rhs; lhs; rw [split]
    rw [List.zip_append (by rw [List.length_take]; omega)]
  rw [e2]
  refine wpAny_pure ?_
  have := filter_zip (names := names) (vals := xs ++ dl.drop (dl.length - (names.length - xs.length))) (pre := []) hd (by rw [List.length_append, List.length_drop]; omega) (fun _ _ h => by cases h)
  rw [List.nil_append] at this
  rw [this]
  exact hQ
end
end Mine

end
/- D2 -/
section
open PySem PySem.W PyProof.Rows
namespace Mine

theorem cellsFrom_has {x : Str} : ∀ (names : List (Str × NameKind)) (acc : List (Str × Addr)) (n : Nat), (names.lookup x = some .cell ∨ (acc.lookup x).isSome = true) → ((cellsFrom n names acc).lookup x).isSome = true
  | [], acc, n, h => by
    rcases h with h | h
    · cases h
    · exact h
  | (a, k) :: r, acc, n, h => by
    unfold cellsFrom
    rw [List.lookup_cons] at h
    have acc' : (acc.lookup x).isSome = true → (((a, n) :: acc).lookup x).isSome = true := fun q => by
      rw [List.lookup_cons]
      cases x == a with
      | true => rfl
      | false => exact q
    cases e : x == a with
    | true =>
      rw [e] at h
      split
      · exact cellsFrom_has r _ _ (.inr (by rw [List.lookup_cons, e]; rfl))
      · rename_i hk
        rcases h with h | h
        · have h : k = NameKind.cell := Option.some.inj h
          subst h; simp at hk
        · exact cellsFrom_has r _ _ (.inr h)
    | false =>
      rw [e] at h
      split
      · exact cellsFrom_has r _ _ (h.imp id acc')
      · exact cellsFrom_has r _ _ h

theorem bindL_not {kd : Str → Option NameKind} {z : Str} : ∀ {bs : List (Str × Value)} {m : Str → Option Value}, z ∉ bs.map (·.1) → bindL kd bs m z = m z
  | [], m, _ => rfl
  | (a, v) :: r, m, h => by
    unfold bindL
    rw [bindL_not fun q => h (.tail _ q)]
    split
    · show (if z = a then some v else m z) = m z
      rw [if_neg fun (q : z = a) => h (by rw [q]; exact .head _)]
    · rfl
theorem bindL_at {kd : Str → Option NameKind} {z : Str} {y : Value} : ∀ {bs : List (Str × Value)} {m : Str → Option Value}, (bs.map (·.1)).Nodup → (z, y) ∈ bs → kd z = some .local → bindL kd bs m z = some y
  | (a, v) :: r, m, hn, h, hk => by
    rw [List.map_cons, List.nodup_cons] at hn
    unfold bindL
    rcases List.mem_cons.mp h with e | h
    · cases e
      rw [if_pos hk, bindL_not hn.1]
      show (if z = z then some y else m z) = some y
      rw [if_pos rfl]
    · exact bindL_at hn.2 h hk
theorem bindC_not {kd : Str → Option NameKind} {z : Str} : ∀ {bs : List (Str × Value)} {m : Str → Option Value}, z ∉ bs.map (·.1) → bindC kd bs m z = m z
  | [], m, _ => rfl
  | (a, v) :: r, m, h => by
    unfold bindC
    rw [bindC_not fun q => h (.tail _ q)]
    split
    · rfl
    · show (if z = a then some v else m z) = m z
      rw [if_neg fun (q : z = a) => h (by rw [q]; exact .head _)]
theorem bindC_at {kd : Str → Option NameKind} {z : Str} {y : Value} : ∀ {bs : List (Str × Value)} {m : Str → Option Value}, (bs.map (·.1)).Nodup → (z, y) ∈ bs → kd z ≠ some .local → bindC kd bs m z = some y
  | (a, v) :: r, m, hn, h, hk => by
    rw [List.map_cons, List.nodup_cons] at hn
    unfold bindC
    rcases List.mem_cons.mp h with e | h
    · cases e
      rw [if_neg hk, bindC_not hn.1]
      show (if z = z then some y else m z) = some y
      rw [if_pos rfl]
    · exact bindC_at hn.2 h hk

theorem bindP_is {g : Heap} {as : List Addr} : ∀ {names : List Str} {vs : List V} {xs : List Value} {l : List (Str × V)}, bindP names vs = some l → All2 (VR g as) vs xs → names.length = vs.length ∧ l.map (·.1) = names ∧ All2 (fun p b => p.1 = b.1 ∧ VR g as p.2 b.2) l (names.zip xs)
  | [], [], _, l, h, .nil => by cases h; exact ⟨rfl, rfl, .nil⟩
  | [], _ :: _, _, _, h, _ => by cases h
  | _ :: _, [], _, _, h, _ => by cases h
  | x :: names, v :: vs, _, l, h, .cons h1 h2 => by
    unfold bindP at h
    split at h
    · rename_i l' e
      cases h
      obtain ⟨a, b, d⟩ := bindP_is e h2
      exact ⟨by simp [a], by simp [b], .cons ⟨rfl, h1⟩ d⟩
    · cases h

theorem binds_keys {R : V → Value → Prop} {l : List (Str × V)} {bs : List (Str × Value)} (h : All2 (fun p b => p.1 = b.1 ∧ R p.2 b.2) l bs) : bs.map (·.1) = l.map (·.1) := by
  induction h with
  | nil => rfl
  | cons h1 _ ih => rw [List.map_cons, List.map_cons, h1.1, ih]
theorem unzipL_is {c : Cx} {g : Heap} {env : Env} {as as' : List Addr} {m : Str → Option Value} : ∀ {l0 : List (Str × V)} {zs ys : List Value} {s0 : List V} {l : List (Str × V)} {sR : List V}, All2 (LR c g as env m) l0 zs → All2 (VR c.ro as') s0 (zs ++ ys) → unzipL l0 s0 = some (l, sR) →
    All2 (LR c g as' env m) l zs ∧ All2 (VR c.ro as') sR ys
  | [], _, ys, s0, l, sR, .nil, h2, h => by cases h; exact ⟨.nil, h2⟩
  | p :: l0, _, ys, s0, l, sR, .cons h1 h1', h2, h => by
    cases h2 with
    | cons q1 q2 =>
      unfold unzipL at h
      split at h
      · rename_i l' s' e
        cases h
        obtain ⟨a, b⟩ := unzipL_is h1' q2 e
        exact ⟨.cons ⟨h1.1, q1, h1.2.2⟩ a, b⟩
      · cases h

theorem loc_vals {c : Cx} {g : Heap} {env : Env} {as : List Addr} {m : Str → Option Value} {l : List (Str × V)} {zs : List Value} (h : All2 (LR c g as env m) l zs) : All2 (VR c.ro as) (l.map (·.2)) zs := by
  induction h with
  | nil => exact .nil
  | cons h1 _ ih => exact .cons h1.2.1 ih
/-- the summarised defs are right, with room for r calls -/
noncomputable def SpecOk (c : Cx) (r : Nat) : Prop := ∀ f sp, aget f c.T.spec = some sp → ∀ vs st k, sp vs st k → ∀ g env ys A s Q xs as m zs, GOk c g → EnvOk g env → AOk A r → InvD c g env as m zs ys st s.heap → All2 (VR c.ro as) vs xs → Post c g env ys k Q s → codeN (MD c) A (.call (.ref f) ⟨xs, []⟩) (isRet Q) s

section
variable {c : Cx} {g : Heap} {env : Env} {as : List Addr} {m : Str → Option Value} {zs ys : List Value} {st : St} {A : Around} {s : Shared} {Q : Value → Shared → Prop} {n : Nat} {k : KV} {ih : Ev} {r : Nat}

theorem hide_get {h : Heap} {as : List Addr} {L b : Addr} {o : Obj} (e : h.get? b = some o) (hL : b ≠ L) (ha : b ∉ as) : (hideAll h (L :: as)).get? b = some o :=
  hideAll_get _ e fun q => by rcases List.mem_cons.mp q with q | q; exact hL q; exact ha q

theorem sCallF (TO : TabOk c) (SO : SpecOk c r) (hr : r ≤ n + 1) (S : Sound c n ih) (G : GOk c g) (AO : AOk A (n + 1)) (EO : EnvOk g env) (D : InvD c g env as m zs ys st s.heap) {f : Nat} {vs : List V} {xs : List Value} (hv : All2 (VR c.ro as) vs xs) (P : Post c g env ys k Q s) (hk : callF c.T ih f vs st k) :
    codeN (MD c) A (.call (.ref f) ⟨xs, []⟩) (isRet Q) s := by
  unfold callF at hk
  split at hk
  · rename_i sp e
    exact SO f sp e vs st k hk g env ys A s Q xs as m zs G EO (AO.less hr) D hv P
  · split at hk
    · exact hk.elim
    · rename_i hf
      split at hk
      · rename_i fd hfd
        split at hk
        · rename_i body l hb hbind
          split at hk
          · rename_i hpar
            have FO := TO.fn f fd hf hfd
            obtain ⟨oc, od, osl, hat⟩ := FO.at_
            have H := D.gok G
            have hat' := H.K _ _ hat
            -- the defaults
            obtain ⟨ds, hds1, hds2⟩ : ∃ ds : Option (Array Value), All2 (VR c.ro []) ((aget f c.T.dfl).getD []) (ds.getD #[]).toList ∧ ∀ (M : Model) (A : Around) (E : Value → Shared → Prop) (Q : Option (Array Value) → Shared → Prop), Q ds s → wpAny M A (seqItems? fd.defaults) Q E s := by
              rcases FO.dfl with ⟨h1, h2⟩ | ⟨t, o, items, nn, h1, h2, h3, h4⟩
              · refine ⟨none, by rw [h2]; exact .nil, fun M A E Q hq => ?_⟩
                rw [h1]
                exact wpAny_pure hq
              · refine ⟨some items, h4, fun M A E Q hq => ?_⟩
                rw [h1]
                exact wpAny_seqItems (H.K _ _ h2) h3 hq
            have hdl := hds1.length
            have hxl := hv.length
            have hdlen := FO.dlen
            have hall : All2 (VR c.ro as) (withDfl fd.params.args.length vs ((aget f c.T.dfl).getD [])) (xs ++ (ds.getD #[]).toList.drop ((ds.getD #[]).toList.length - (fd.params.args.length - xs.length))) := by
              unfold withDfl
              rw [← hdl, ← hxl]
              have : ∀ {l : List V} {m : List Value} (k : Nat), All2 (VR c.ro []) l m → All2 (VR c.ro as) (l.drop k) (m.drop k) := by
                intro l m k h
                induction h generalizing k with
                | nil => simp; exact .nil
                | cons h1 h2 ih =>
                  cases k with
                  | zero => exact .cons h1.nil (ih 0)
                  | succ k => exact ih k
              exact hv.append (this _ hds1)
            obtain ⟨hl1, hl2, hl3⟩ := bindP_is hbind hall
            have hlen := hall.length
            rw [List.length_map] at hl1
            have hwl : (withDfl fd.params.args.length vs ((aget f c.T.dfl).getD [])).length = vs.length + (((aget f c.T.dfl).getD []).length - (((aget f c.T.dfl).getD []).length - (fd.params.args.length - vs.length))) := by
              unfold withDfl; rw [List.length_append, List.length_drop]
            have hB : BindsTo s fd ⟨xs, []⟩ ((fd.params.args.map (·.arg)).zip (xs ++ (ds.getD #[]).toList.drop ((ds.getD #[]).toList.length - ((fd.params.args.map (·.arg)).length - xs.length)))) :=
              binds_plain FO.pos FO.kwo FO.vararg FO.kwarg rfl FO.nodup (by rw [List.length_map]; omega) (by rw [List.length_map]; omega) (by rw [List.length_map]; omega) hds2
            rw [List.length_map] at hB
            generalize hbs : (fd.params.args.map (·.arg)).zip (xs ++ (ds.getD #[]).toList.drop ((ds.getD #[]).toList.length - (fd.params.args.length - xs.length))) = binds at hB hl3
            have hkeys : binds.map (·.1) = fd.params.args.map (·.arg) := by
              rw [← hl2]; exact binds_keys hl3
            have hbn : (binds.map (·.1)).Nodup := by rw [hkeys]; exact FO.nodup
            have hparam : ∀ x ∈ binds, (fd.scope.names.lookup x.1 = some .local ∨ fd.scope.names.lookup x.1 = some .cell) ∧ strEq x.1 ("__debug__" : Str) = false := by
              intro x hx
              have hx1 : x.1 ∈ l.map (·.1) := by rw [hl2, ← hkeys]; exact List.mem_map_of_mem hx
              obtain ⟨p, hp, e⟩ := List.mem_map.mp hx1
              have := List.all_eq_true.mp hpar p hp
              unfold okParam at this
              rw [lget_lookup, e] at this
              split at this
              · rename_i q; exact ⟨.inl q, by simpa using this⟩
              · rename_i q; exact ⟨.inr q, by simpa using this⟩
              · cases this
            have hkind : ∀ x ∈ binds, fd.scope.names.lookup x.1 = some .local ∨ (fd.scope.names.lookup x.1 = some .cell ∧ ((cellsFrom (s.heap.objs.size + 1) fd.scope.names []).lookup x.1).isSome = true) := fun x hx => by
              rcases (hparam x hx).1 with q | q
              · exact .inl q
              · exact .inr ⟨q, cellsFrom_has _ _ _ (.inl q)⟩
            refine codeN_call_cells (R := isRet Q) AO.room hat' rfl (H.T.nolimit) (codeRec_of H.K FO.code) hb hB FO.clo hkind (fun s₁ x => ?_) FO.co FO.gen FO.kind
            -- the frame
            have hL : (callEnvC fd s.heap.objs.size f).locals = s.heap.objs.size := rfl
            have up : ∀ b o, s.heap.get? b = some o → s₁.heap.get? b = some o := x.toInCall.keep
            obtain ⟨h₁, tk₁, hs₁⟩ := x.toInCall.same
            have asL : ∀ a ∈ as, a < s.heap.objs.size := fun a ha => by
              obtain ⟨i, hi, e⟩ := List.getElem_of_mem ha
              have hiH : i < st.H.length := by rw [← D.len]; exact hi
              obtain ⟨ob', z, _⟩ := D.objs i _ a (List.getElem?_eq_getElem hiH) (by rw [List.getElem?_eq_getElem hi, e])
              exact Heap.lt_size z
            have gk : ∀ b o, g.get? b = some o → (hideAll s₁.heap (s.heap.objs.size :: as)).get? b = some o := fun b o e =>
              hide_get (up b o (D.keep b o e)) (Nat.ne_of_lt (Heap.lt_size (D.keep b o e))) (D.notIn e)
            have cells : ∀ y ca, (callEnvC fd s.heap.objs.size f).cells.lookup y = some ca → ∃ o, (hideAll s₁.heap (s.heap.objs.size :: as)).get? ca = some o ∧ s₁.heap.get? ca = some o := fun y ca e => by
              obtain ⟨o, ho, _⟩ := x.cell y ca e
              have ha := x.above y ca (mem_of_lookup e)
              rw [hL] at ha
              exact ⟨o, hide_get ho (Nat.ne_of_gt ha) fun q => Nat.lt_asymm ha (asL ca q), ho⟩
            have EO' : EnvOk (hideAll s₁.heap (s.heap.objs.size :: as)) (callEnvC fd s.heap.objs.size f) := ⟨FO.kind, FO.glob, FO.blt, fun y ca e => let ⟨o, ho, _⟩ := cells y ca e; ⟨o, ho⟩⟩
            have G' : GOk c (hideAll s₁.heap (s.heap.objs.size :: as)) := G.keeps gk
            have loc : ∃ zs', All2 (LR c (hideAll s₁.heap (s.heap.objs.size :: as)) as (callEnvC fd s.heap.objs.size f) (bindL (callEnvC fd s.heap.objs.size f).kindOf binds fun _ => none)) l zs' := by
              have gen : ∀ {l' : List (Str × V)} {bs : List (Str × Value)}, All2 (fun p b => p.1 = b.1 ∧ VR c.ro as p.2 b.2) l' bs → (∀ b ∈ bs, b ∈ binds) → ∃ zs', All2 (LR c (hideAll s₁.heap (s.heap.objs.size :: as)) as (callEnvC fd s.heap.objs.size f) (bindL (callEnvC fd s.heap.objs.size f).kindOf binds fun _ => none)) l' zs' := by
                intro l' bs h
                induction h with
                | nil => intro _; exact ⟨[], .nil⟩
                | @cons p b l' bs h1 _ ih =>
                  intro hm
                  obtain ⟨zs', ih⟩ := ih fun b' hb' => hm b' (.tail _ hb')
                  have hbm := hm b (.head _)
                  obtain ⟨hk1, hk2⟩ := hparam b hbm
                  refine ⟨b.2 :: zs', .cons ⟨by rw [h1.1]; exact hk2, h1.2, ?_⟩ ih⟩
                  rw [h1.1]
                  rcases hk1 with q | q
                  · exact .inl ⟨q, bindL_at hbn hbm q⟩
                  · right
                    obtain ⟨ca, hca⟩ := Option.isSome_iff_exists.mp (cellsFrom_has fd.scope.names [] (s.heap.objs.size + 1) (.inl q))
                    obtain ⟨o, ho, ho'⟩ := cells b.1 ca hca
                    obtain ⟨o', ho'', hd⟩ := x.cell b.1 ca hca
                    rw [ho'] at ho''; cases ho''
                    have hq : (callEnvC fd s.heap.objs.size f).kindOf b.1 = some .cell := q
                    rw [bindC_at hbn hbm (by rw [hq]; decide)] at hd
                    exact ⟨q, ca, o, hca, ho, hd⟩
              exact gen hl3 fun _ h => h
            obtain ⟨zs', loc⟩ := loc
            have stk : All2 (VR c.ro as) (st.l.map (·.2) ++ st.s) (zs ++ ys) := by
              exact (loc_vals D.loc).append D.stk
            have D' : InvD c (hideAll s₁.heap (s.heap.objs.size :: as)) (callEnvC fd s.heap.objs.size f) as (bindL (callEnvC fd s.heap.objs.size f).kindOf binds fun _ => none) zs' (zs ++ ys) (enter st l fd.scope.names) s₁.heap :=
              ⟨fun b o e => of_hideAll _ e, D.len, D.nodup, fun i o a e1 e2 => let ⟨ob, y, z⟩ := D.objs i o a e1 e2; ⟨ob, up _ _ y, z⟩, fun a ha => ⟨hideAll_none _ (.tail _ ha), Nat.ne_of_lt (asL a ha)⟩, hideAll_none _ (.head _), x.toInCall.ns, loc, stk, rfl⟩
            obtain ⟨oL, esL, epL, hoL, hdL, hkL, hfL⟩ := D.ns
            have gL : (hideAll s₁.heap (s.heap.objs.size :: as)).get? env.locals = some oL := hide_get (up _ _ hoL) (Nat.ne_of_lt (Heap.lt_size hoL)) fun q => (D.fresh _ q).2 rfl
            subst hs₁
            refine S.ss body _ _ hk _ _ _ _ _ _ G' EO' AO.deeper ⟨as, _, zs', D'⟩ fun fl fr st' h' tk hfr hlv => ?_
            have back : ∀ (v : V) (y : Value), Inv c (hideAll h₁ (s.heap.objs.size :: as)) (callEnvC fd s.heap.objs.size f) (y :: (zs ++ ys)) (push v st') h' → leave st v st' k → Q y ⟨h', s.gens, s.drawn, tk, s.os⟩ := by
              intro v y I hlv
              obtain ⟨as', m', zs'', D2, hvy⟩ := I.unpush
              unfold leave at hlv
              split at hlv
              · rename_i l2 s2 e2
                obtain ⟨u1, u2⟩ := unzipL_is (as' := as') D.loc D2.stk e2
                have nn : ∀ b, (hideAll h₁ (s.heap.objs.size :: as)).get? b = none → g.get? b = none := fun b e => by
                  cases q : g.get? b with
                  | none => rfl
                  | some o => rw [gk b o q] at e; cases e
                refine P v ⟨st'.H, l2, s2, st.sc⟩ y h' tk ⟨as', m, zs, ⟨fun b o e => D2.keep b o (gk b o e), D2.len, D2.nodup, D2.objs, fun a ha => ⟨nn a (D2.fresh a ha).1, fun e => ?_⟩, D.lfresh, ⟨oL, esL, epL, D2.keep _ _ gL, hdL, hkL, hfL⟩, u1, .cons hvy u2, D.sc⟩⟩ hlv
                have := (D2.fresh a ha).1
                rw [e, gL] at this; cases this
              · exact hlv.elim
            cases fl with
            | next =>
              obtain ⟨rfl, I⟩ := hfr
              obtain ⟨as', m', zs'', D2⟩ := I
              exact back .none .none ⟨as', m', zs'', D2.push (v := .none) rfl⟩ hlv
            | ret v =>
              obtain ⟨y, rfl, I⟩ := hfr
              exact back v y I hlv
          · exact hk.elim
        · exact hk.elim
      · exact hk.elim
end
end Mine

end
/- S15 -/
section
open PySem PySem.W PyProof.Rows
namespace Mine
section
variable {c : Cx} {g : Heap} {env : Env} {as : List Addr} {m : Str → Option Value} {zs ys : List Value} {st : St} {A : Around} {s : Shared} {Q : Value → Shared → Prop} {n r : Nat} {k : KV} {ih : Ev}

theorem make_weight (C : Addr) (xs : List Value) : (Code.builtin "type.__call__" ⟨.ref C :: xs, []⟩).weight ≤ 3 ∧ (Code.builtin "type.__call__" ⟨.ref C :: xs, []⟩).cUnits ≤ 10 := by
  exact ⟨Nat.le_of_ble_eq_true rfl, Nat.le_of_ble_eq_true rfl⟩
theorem AOk.make {C : Addr} {xs : List Value} (h : AOk A (n + 1)) : AOk (A.under (.builtin "type.__call__" ⟨.ref C :: xs, []⟩)) n := by
  obtain ⟨h1, h2⟩ := make_weight C xs
  refine ⟨h.handled, ?_, ?_⟩
  · have := h.depth
    show A.depth + _ + 3 * n ≤ 999
    omega
  · have := h.units
    show A.units + _ + 10 * n ≤ 9000
    omega

theorem sCallV (TO : TabOk c) (SO : SpecOk c r) (hr : r ≤ n + 1) (S : Sound c n ih) (G : GOk c g) (AO : AOk A (n + 2)) (EO : EnvOk g env) (D : InvD c g env as m zs ys st s.heap) {f : V} {y : Value} {vs : List V} {xs : List Value} (hf : VR c.ro as f y) (hv : All2 (VR c.ro as) vs xs) (P : Post c g env ys k Q s) (hk : callV' c.T ih f vs st k) :
    wpN (MD c) A (call y xs) Q s := by
  unfold callV' at hk
  split at hk
  · obtain rfl : y = _ := hf
    exact sCallSorted (AO.less (m := 0) (Nat.zero_le _)) D P hv hk
  · unfold callV at hk
    split at hk
    · obtain rfl : y = _ := hf
      exact sCallB G (AO.less (m := 0) (Nat.zero_le _)) D P hv hk
    · rename_i a _
      obtain rfl : y = _ := hf
      split at hk
      · rename_i fi e
        obtain ⟨h1, h2, h3, _⟩ := TO.ini a fi e
        have H := D.gok G
        have D1 := D.pushO (o := .dict []) (ob := emptyDict) ⟨[], 0, rfl, .nil, List.nodup_nil⟩
        have hsz : (s.heap.push emptyDict).objs.size = s.heap.objs.size + 1 := Heap.size_push ..
        have hlast : (as ++ [s.heap.objs.size])[st.H.length]? = some s.heap.objs.size := D.last _
        have D2 := D1.pushO (o := .inst a st.H.length) (ob := instObj a s.heap.objs.size) ⟨s.heap.objs.size, by
          rw [List.getElem?_append_left (List.getElem?_eq_some_iff.mp hlast).1]; exact hlast, rfl⟩
        rw [hsz] at D2
        have hobj : VR c.ro (as ++ [s.heap.objs.size] ++ [s.heap.objs.size + 1]) (.obj (st.H.length + 1)) (.ref (s.heap.objs.size + 1)) := by
          refine ⟨_, ?_, rfl⟩
          have := D1.last (s.heap.objs.size + 1)
          rw [List.length_append] at this
          exact this
        have D3 := D2.push hobj
        refine wpN_call (codeN_make H.K h1 h2 h3 ?_)
        refine codeN_mono (sCallF (s := { s with heap := (s.heap.push emptyDict).push (instObj a s.heap.objs.size) }) TO SO hr S G AO.make EO D3 (vs := .obj (st.H.length + 1) :: vs) (.cons hobj (hv.up.up)) (Q := fun v s' => v = .none ∧ Q (.ref (s.heap.objs.size + 1)) s') (fun v st' y h' tk I hv => ?_) (by rw [List.append_assoc]; exact hk)) fun f s' h => h
        split at hv
        · obtain ⟨as', m', zs', D5, hn⟩ := Inv.unpush I
          obtain rfl : y = _ := hn
          obtain ⟨v', s2, e2, hv2, D4, hk2⟩ := D5.pop hv
          exact ⟨rfl, P _ _ _ _ _ ⟨as', m', zs', D4.push hv2⟩ hk2⟩
        · exact hv.elim
      · exact wpN_call (sCallF TO SO hr S G (AO.less (by omega)) EO D hv P hk)
    · exact hk.elim

theorem sCallMt (TO : TabOk c) (SO : SpecOk c r) (hr : r ≤ n + 1) (S : Sound c n ih) (G : GOk c g) (AO : AOk A (n + 2)) (EO : EnvOk g env) (D : InvD c g env as m zs ys st s.heap) {mt : Mt} {ov : V} {y : Value} {ff : Value × List Value} {vs : List V} {xs : List Value} (ho : VR c.ro as ov y) (hv : All2 (VR c.ro as) vs xs) (hmt : mtOk c mt y ff) (P : Post c g env ys k Q s)
    (hk : callMt c.T ih mt ov vs st k) : wpN (MD c) A (call ff.1 (ff.2 ++ xs)) Q s := by
  unfold callMt at hk
  split at hk
  · obtain ⟨rfl, _⟩ := hmt
    exact wpN_call (sCallF TO SO hr S G (AO.less (by omega)) EO D (.cons ho hv) P hk)
  · split at hk
    · cases hv with
      | cons h1 h2 =>
        cases h2
        obtain ⟨a, ha, rfl⟩ := ho
        exact sCallM D P ha h1 hmt hk
    · exact hk.elim

/-- who holds the arguments of a call -/
theorem keeper_ok (TO : TabOk c) (G : GOk c g) (D : InvD c g env as m zs ys st s.heap) {f : V} {y : Value} (hf : VR c.ro as f y) (hc : callableV c.T f = true) :
    ∃ k, (k = Keeper.frame ∨ k = Keeper.machine ∨ k = Keeper.boundFrame) ∧ Looks (MD c) s.heap (keeperOf y) k := by
  cases f with
  | bi b =>
    obtain rfl : y = _ := hf
    exact ⟨.machine, .inr (.inl rfl), by cases b <;> exact Looks.of_pure rfl⟩
  | top a =>
    obtain rfl : y = _ := hf
    exact keeps_K (TO.keep a hc) _ (D.gok G).K
  | _ => cases hc
theorem keeper_mt (G : GOk c g) (D : InvD c g env as m zs ys st s.heap) {mt : Mt} {y : Value} {ff : Value × List Value} (h : mtOk c mt y ff) : ∃ k, (k = Keeper.frame ∨ k = Keeper.machine ∨ k = Keeper.boundFrame) ∧ Looks (MD c) s.heap (keeperOf ff.1) k := by
  cases mt with
  | fn f => obtain ⟨rfl, h⟩ := h; exact keeps_K h _ (D.gok G).K
  | lapp => obtain rfl : ff = _ := h; exact ⟨.machine, .inr (.inl rfl), Looks.of_pure rfl⟩
  | lpop => obtain rfl : ff = _ := h; exact ⟨.machine, .inr (.inl rfl), Looks.of_pure rfl⟩
  | bapp => obtain rfl : ff = _ := h; exact ⟨.machine, .inr (.inl rfl), Looks.of_pure rfl⟩
  | bext => obtain rfl : ff = _ := h; exact ⟨.machine, .inr (.inl rfl), Looks.of_pure rfl⟩
end
end Mine

end
/- S16 -/
section
open PySem PySem.W PyProof.Rows
namespace Mine

/-- all but one object stay -/
noncomputable def KeepBut (I : Addr) (h h' : Heap) : Prop := ∀ b o, b ≠ I → h.get? b = some o → h'.get? b = some o

section
variable {c : Cx} {g : Heap} {env : Env} {as : List Addr} {m : Str → Option Value} {zs ys : List Value} {st : St} {A : Around} {s : Shared} {n : Nat} {ih : Ev}

/-- an iterator, in the state o, over values that are known ahead -/
noncomputable def Steps (c : Cx) (A : Around) (I : Addr) : List V → Obj → Prop
  | [], o => ∀ (s : Shared) (Q : Option Value → Shared → Prop), s.heap.get? I = some o → (∀ h', KeepBut I s.heap h' → Q none { s with heap := h' }) → wpN (MD c) A (pyNext (.ref I)) Q s
  | v :: r, o => ∀ (s : Shared) (Q : Option Value → Shared → Prop), s.heap.get? I = some o → (∀ y h' tk o', (∀ as, VR c.ro as v y) → KeepBut I s.heap h' → h'.get? I = some o' → plainIt o' = true → Steps c A I r o' → Q (some y) ⟨h', s.gens, s.drawn, tk, s.os⟩) → wpN (MD c) A (pyNext (.ref I)) Q s

/-- the iterator turns: the state stays, over the ground without it -/
theorem InvD.turn {I : Addr} {h h' : Heap} (D : InvD c g env as m zs ys st h) (gI : g.get? I = none) (hI : I ∉ as) (hL : I ≠ env.locals) (k : KeepBut I h h') : InvD c g env as m zs ys st h' := by
  obtain ⟨oL, es, ep, hoL, r⟩ := D.ns
  exact ⟨fun b o e => k b o (fun q => by rw [q, gI] at e; cases e) (D.keep b o e), D.len, D.nodup, fun i o a e1 e2 => let ⟨ob, x, y⟩ := D.objs i o a e1 e2; ⟨ob, k _ _ (fun q => hI (q ▸ List.mem_of_getElem? e2)) x, y⟩, D.fresh, D.lfresh, ⟨oL, es, ep, k _ _ (Ne.symm hL) hoL, r⟩, D.loc, D.stk, D.sc⟩
/-- all that is not the state's joins the ground -/
theorem InvD.ground {h : Heap} (D : InvD c g env as m zs ys st h) : InvD c (hideAll h (env.locals :: as)) env as m zs ys st h ∧ (∀ b o, g.get? b = some o → (hideAll h (env.locals :: as)).get? b = some o) := by
  have gk : ∀ b o, g.get? b = some o → (hideAll h (env.locals :: as)).get? b = some o := fun b o e => hide_get (D.keep b o e) (D.gNe e) (D.notIn e)
  exact ⟨D.strengthen (fun b o e => of_hideAll _ e) gk (fun a ha => hideAll_none _ (.tail _ ha)) (hideAll_none _ (.head _)), gk⟩

/-- an iterator beside the state -/
noncomputable def Beside (c : Cx) (g : Heap) (env : Env) (ys : List Value) (st : St) (I : Addr) (o : Obj) (h : Heap) : Prop := ∃ g₁, (∀ b o, g.get? b = some o → g₁.get? b = some o) ∧ g₁.get? I = some o ∧ Inv c g₁ env ys st h
theorem Beside.parts {I : Addr} {o : Obj} {h : Heap} (B : Beside c g env ys st I o h) (EO : EnvOk g env) : ∃ as m zs, InvD c g env as m zs ys st h ∧ I ∉ as ∧ I ≠ env.locals ∧ h.get? I = some o := by
  obtain ⟨g₁, k, hI, as, m, zs, D⟩ := B
  refine ⟨as, m, zs, D.weaken EO k, fun (q : I ∈ as) => ?_, fun (q : I = env.locals) => ?_, D.keep _ _ hI⟩
  · rw [(D.fresh _ q).1] at hI; cases hI
  · rw [q, D.lfresh] at hI; cases hI
theorem Beside.turn {I : Addr} {o o' : Obj} {h h' : Heap} (B : Beside c g env ys st I o h) (EO : EnvOk g env) (gI : g.get? I = none) (k : KeepBut I h h') (ho : h'.get? I = some o') : ∃ g₁ as m zs, (∀ b o, g.get? b = some o → g₁.get? b = some o) ∧ g₁.get? I = some o' ∧ InvD c g₁ env as m zs ys st h' := by
  obtain ⟨as, m, zs, D, hI, hL, _⟩ := B.parts EO
  have D' := D.turn gI hI hL k
  obtain ⟨D2, gk⟩ := D'.ground
  exact ⟨_, as, m, zs, gk, hide_get ho hL hI, D2⟩
theorem Beside.start (D : InvD c g env as m zs ys st s.heap) {ob : Obj} (hf : ob.isFreed = false) : g.get? s.heap.objs.size = none ∧ Beside c g env ys st s.heap.objs.size ob (s.heap.push ob) := by
  have hn : ∀ b o, s.heap.get? b = some o → b ≠ s.heap.objs.size := fun b o e => Nat.ne_of_lt (Heap.lt_size e)
  have gI : g.get? s.heap.objs.size = none := by
    cases q : g.get? s.heap.objs.size with
    | none => rfl
    | some o => exact absurd rfl (hn _ _ (D.keep _ _ q))
  refine ⟨gI, ?_⟩
  have D1 := D.push1 ob
  obtain ⟨D2, gk⟩ := D1.ground
  refine ⟨_, gk, hide_get (Heap.get?_push_size _ hf) (fun q => ?_) (fun q => ?_), as, m, zs, D2⟩
  · obtain ⟨oL, _, _, hoL, _⟩ := D.ns
    exact hn _ _ hoL q.symm
  · obtain ⟨i, hi, e⟩ := List.getElem_of_mem q
    have hiH : i < st.H.length := by rw [← D.len]; exact hi
    obtain ⟨ob', z, _⟩ := D.objs i _ s.heap.objs.size (List.getElem?_eq_getElem hiH) (by rw [List.getElem?_eq_getElem hi, e])
    exact hn _ _ z rfl

theorem sForGo (TO : TabOk c) (S : Sound c n ih) (G : GOk c g) (EO : EnvOk g env) (AO : AOk A n) {I : Addr} (gI : g.get? I = none) {t : Expr} {body : List Stmt} : ∀ {vs : List V} {o : Obj} {st : St} {s : Shared} {k : KF} {R : Flow → Shared → Prop},
    Steps c A I vs o → Beside c g env ys st I o s.heap → PostF c g env ys k R s → forGo c.T ih t body vs st k → codeN (MD c) A (.forLoop t (.ref I) body [] env) R s
  | [], o, st, s, k, R, hS, B, P, hk => by
    obtain ⟨as, m, zs, D, hI, hL, ho⟩ := B.parts EO
    refine codeN_forEnd (hS s _ ho fun h' kb => ⟨rfl, ?_⟩)
    exact P .next .next st h' s.toks ⟨rfl, as, m, zs, D.turn gI hI hL kb⟩ hk
  | v :: r, o, st, s, k, R, hS, B, P, hk => by
    obtain ⟨as, m, zs, D, hI, hL, ho⟩ := B.parts EO
    unfold forGo at hk
    refine codeN_forNext (hS s _ ho fun y h' tk o' hv kb ho' hp hS' => ⟨y, o', rfl, ho', hp, ?_⟩)
    obtain ⟨g₁, as₁, m₁, zs₁, gk, hI₁, D₁⟩ := B.turn EO gI kb ho'
    have EO₁ := EO.keeps gk
    have G₁ := G.keeps gk
    refine sAsg (s := ⟨h', s.gens, s.drawn, tk, s.os⟩) TO S G₁ EO₁ AO D₁ (hv as₁) (k := fun st1 => ih.ss body st1 fun fl st2 => match fl with
      | .next => forGo c.T ih t body r st2 k
      | .ret v => k (.ret v) st2) (fun st1 h1 tk1 I1 hk1 => ?_) hk
    refine S.ss _ _ _ hk1 g₁ env ys A ⟨h1, s.gens, s.drawn, tk1, s.os⟩ _ G₁ EO₁ AO I1 fun fl f st2 h2 tk2 hfr hk2 => ?_
    cases fl with
    | next =>
      obtain ⟨rfl, I2⟩ := hfr
      exact sForGo TO S G EO AO gI (s := ⟨h2, s.gens, s.drawn, tk2, s.os⟩) hS' ⟨g₁, gk, hI₁, I2⟩ P hk2
    | ret w =>
      obtain ⟨z, rfl, I2⟩ := hfr
      exact P (.ret w) (.ret z) st2 h2 tk2 ⟨z, rfl, I2.weaken EO gk⟩ hk2

/-- a loop over a made list, which is held -/
theorem sForLst (TO : TabOk c) (S : Sound c n ih) (G : GOk c g) (EO : EnvOk g env) (AO : AOk A n) {I a : Addr} (gI : g.get? I = none) {t : Expr} {body : List Stmt} : ∀ {q j : Nat} {o : Obj} {st : St} {s : Shared} {k : KF} {R : Flow → Shared → Prop},
    o.cls = .type "list_iterator" → o.data = .fields #[.ref a, .int (j : Nat) 0] → Beside c g env (.ref a :: ys) st I o s.heap → PostF c g env ys k R s → forLst c.T ih t body q j st k → codeN (MD c) A (.forLoop t (.ref I) body [] env) R s
  | 0, _, _, _, _, _, _, _, _, _, _, hk => hk.elim
  | q + 1, j, o, st, s, k, R, hc, hd, B, P, hk => by
    obtain ⟨as, m, zs, D, hI, hL, ho⟩ := B.parts EO
    unfold forLst at hk
    obtain ⟨lv, s', e, hlv, D0, hk⟩ := D.pop hk
    dsimp only at hk
    split at hk
    · rename_i i
      obtain ⟨a', ha, ea⟩ := hlv
      cases ea
      split at hk
      · rename_i xs e1
        obtain ⟨a'', ob, ha'', hob, us, nn, rfl, hall, hz⟩ := D0.obj e1
        rw [ha] at ha''; cases ha''
        split at hk
        · rename_i v e2
          obtain ⟨u, hu, hv⟩ := hall.get e2
          refine codeN_forNext (wpN_any (wpAny_pyNext_list_item (items := List.toArray us) ⟨o, ho, hc, hd⟩ ⟨_, hob, rfl, nn, rfl⟩ (x := u) (by simpa using hu) fun h' hit hs => ?_))
          obtain ⟨o', ho', hc', hd'⟩ := hit
          have kb : KeepBut I s.heap h' := fun b o hb e => (hs.2 b hb).trans e
          refine ⟨u, o', rfl, ho', by unfold plainIt; rw [hc']; decide, ?_⟩
          obtain ⟨oL, esL, epL, hoL, rL⟩ := D.ns
          have D' := D.turn gI hI hL kb
          obtain ⟨D2, gk⟩ := D'.ground
          have hI₁ := hide_get ho' hL hI
          have EO₁ := EO.keeps gk
          have G₁ := G.keeps gk
          refine sAsg (s := { s with heap := h' }) TO S G₁ EO₁ AO D2 hv (k := fun st2 => ih.ss body st2 fun fl st3 => match fl with
            | .next => forLst c.T ih t body q (j + 1) st3 k
            | .ret v => pop st3 fun _ st4 => k (.ret v) st4) (fun st1 h1 tk1 I1 hk1 => ?_) hk
          refine S.ss _ _ _ hk1 _ env (.ref a :: ys) A ⟨h1, s.gens, s.drawn, tk1, s.os⟩ _ G₁ EO₁ AO I1 fun fl f st2 h2 tk2 hfr hk2 => ?_
          cases fl with
          | next =>
            obtain ⟨rfl, I2⟩ := hfr
            exact sForLst TO S G EO AO gI (s := ⟨h2, s.gens, s.drawn, tk2, s.os⟩) hc' hd' ⟨_, gk, hI₁, I2⟩ P hk2
          | ret w =>
            obtain ⟨z, rfl, I2⟩ := hfr
            obtain ⟨as', m', zs', D3, hw⟩ := (I2.weaken EO gk).unpush
            obtain ⟨lv', s3, e3, hlv', D4, hk3⟩ := D3.pop hk2
            exact P (.ret w) (.ret z) _ h2 tk2 ⟨z, rfl, as', m', zs', D4.push hw⟩ hk3
        · rename_i e2
          have hu : us[j]? = none := by
            rw [List.getElem?_eq_none_iff] at e2 ⊢
            rw [← hall.length]; exact e2
          refine codeN_forEnd (wpN_any (wpAny_pyNext_list_end (items := List.toArray us) AO.handled ⟨o, ho, hc, hd⟩ ⟨_, hob, rfl, nn, rfl⟩ (by simpa using hu) fun h' hx => ⟨rfl, ?_⟩))
          have kb : KeepBut I s.heap h' := hx
          exact P .next .next _ h' s.toks ⟨rfl, as, m, zs, D0.turn gI hI hL kb⟩ hk
      · exact hk.elim
    · exact hk.elim
end
end Mine

end
/- S17 -/
section
open PySem PySem.W PyProof.Rows
namespace Mine
section
variable {c : Cx} {g : Heap} {env : Env} {as : List Addr} {m : Str → Option Value} {zs ys : List Value} {st : St} {A : Around} {s : Shared} {n : Nat} {ih : Ev}

noncomputable abbrev rngIt (lo : Int) (k : Int) : Obj := { cls := .type "range_iterator", data := .fields #[rawInt lo, rawInt k, rawInt 1] }
theorem stepsR (hh : A.handled = none) (I : Addr) (kn : Bool) : ∀ (k : Nat) (lo : Int), Steps c A I (rngL k lo kn) (rngIt lo k)
  | 0, lo => fun s Q ho P => wpN_any (wpAny_pyNext_range_end hh (show IsRangeIter s.heap I lo ((0 : Nat) : Int) 1 from ho) (by omega) fun h' hx => P h' hx)
  | k + 1, lo => fun s Q ho P => wpN_any (wpAny_pyNext_range_item (show IsRangeIter s.heap I lo ((k + 1 : Nat) : Int) 1 from ho) (by omega) fun h' hit hs => by
    have e : (((k + 1 : Nat) : Int) - 1) = (k : Int) := by omega
    rw [e] at hit
    exact P (.int lo s.toks) h' (s.toks + 1) (rngIt (lo + 1) k) (fun as => VR.mkI kn lo _) (fun b o hb e => (hs.2 b hb).trans e) hit rfl (stepsR hh I kn k (lo + 1)))

theorem stepsB (hh : A.handled = none) (I : Addr) {xs : List Int} {t : Tok} (hb : inByte xs) : ∀ (rest : List Int) (i : Nat) (o : Obj), xs.drop i = rest → o.cls = .type "bytes_iterator" → o.data = .fields #[.bytes (byteArr xs) t, .int (i : Nat) 0] → Steps c A I (sints rest) o
  | [], i, o, he, hc, hd => fun s Q ho P => wpN_any (KBw.next_end hh ⟨o, ho, hc, hd⟩ (by
      have : xs.length ≤ i := by
        have := congrArg List.length he
        rw [List.length_drop, List.length_nil] at this; omega
      rw [Array.getElem?_eq_none]; rw [byteArr_size]; exact this) fun h' hx => P h' hx)
  | x :: rest, i, o, he, hc, hd => fun s Q ho P => by
    have hi : xs[i]? = some x := by
      have := congrArg (·[0]?) he
      simpa using this
    have hx : x ∈ xs := List.mem_of_getElem? hi
    have hg : (byteArr xs)[i]? = some x.toNat.toUInt8 := by
      unfold byteArr
      simp [hi]
    refine wpN_any (KBw.next_item ⟨o, ho, hc, hd⟩ hg fun h' hit hs => ?_)
    obtain ⟨o', ho', hc', hd'⟩ := hit
    rw [byte_back (hb x hx)]
    refine P (.int x s.toks) h' (s.toks + 1) o' (fun as => ⟨_, rfl⟩) (fun b o hb e => (hs.2 b hb).trans e) ho' (by unfold plainIt; rw [hc']; decide) (stepsB hh I hb rest (i + 1) o' ?_ hc' hd')
    have := congrArg (List.drop 1) he
    simpa [List.drop_drop] using this

theorem rngOk_is {lo hi : Int} (h : rngOk lo hi = true) : Builtin.Range.small lo hi 1 = true := by
  have := of_decide_eq_true h
  exact small_one this.1 this.2.1 this.2.2.1 this.2.2.2
theorem rangeSize_nat (lo hi : Int) : Builtin.Range.rangeSize lo hi 1 = ((hi - lo).toNat : Int) := by
  rw [rangeSize_one]
  split <;> omega

theorem sFor (TO : TabOk c) (S : Sound c n ih) (G : GOk c g) (EO : EnvOk g env) (AO : AOk A n) (D : InvD c g env as m zs ys st s.heap) {t : Expr} {body : List Stmt} {v : V} {y : Value} {k : KF} {Q : Flow → Shared → Prop} {nl : Nat} (hv : VR c.ro as v y) (P : PostF c g env ys k Q s)
    (hk : match v with
      | .obj i => match st.H[i]? with
        | some (.rng lo hi kn) => need kn (rngOk lo hi) (collected c.T nl st fun st2 => forGo c.T ih t body (rngL (hi - lo).toNat lo kn) st2 k)
        | some (.list ys) => forLst c.T ih t body (ys.length + 1) 0 (push v st) k
        | some (.il []) => k .next st
        | _ => False
      | .bytes xs => forGo c.T ih t body (sints xs) st k
      | _ => False) :
    wpN (MD c) A (pyIter y) (fun i s₂ => codeN (MD c) (A.mark none) (.forLoop t i body [] env) Q s₂) s := by
  have AM := AO.mark
  cases v with
  | obj i =>
    obtain ⟨a, ha, rfl⟩ := hv
    dsimp only at hk
    split at hk
    · rename_i lo hi kn e1
      obtain ⟨e2, hk⟩ := need_elim hk
      obtain ⟨a', ob, ha', hob, t1, t2, t3, rfl⟩ := D.obj e1
      rw [ha] at ha'; cases ha'
      refine wpN_any (wpAny_pyIter_range (show IsRange s.heap a lo hi 1 t1 t2 t3 from hob) (rngOk_is e2) ?_)
      rw [rangeSize_nat]
      obtain ⟨as₂, zs, st₂, D, hk⟩ : ∃ as₂ zs₂ st₂, InvD c g env as₂ m zs₂ ys st₂ s.heap ∧ forGo c.T ih t body (rngL (hi - lo).toNat lo kn) st₂ k := by
        unfold collected at hk
        split at hk
        · exact ⟨as, zs, st, D, hk⟩
        · split at hk
          · rename_i st' e
            obtain ⟨zs', D⟩ := D.dropS (T := c.T) nl
            obtain ⟨as', D'⟩ := D.norm e
            exact ⟨as', zs', st', D', hk⟩
          · exact hk.elim
      obtain ⟨gI, B⟩ := Beside.start D (ob := rngIt lo ((hi - lo).toNat : Int)) rfl
      exact sForGo TO S G EO AM gI (s := { s with heap := s.heap.push (rngIt lo ((hi - lo).toNat : Int)) }) (stepsR AM.handled _ kn _ lo) B P hk
    · rename_i xs e1
      obtain ⟨a', ob, ha', hob, us, nn, rfl, hall, hz⟩ := D.obj e1
      rw [ha] at ha'; cases ha'
      refine wpN_any (wpAny_pyIter_list (items := List.toArray us) ⟨_, hob, rfl, nn, rfl⟩ ?_)
      obtain ⟨gI, B⟩ := Beside.start (D.push (v := .obj i) ⟨a, ha, rfl⟩) (ob := { cls := .type "list_iterator", data := .fields #[.ref a, .int 0 0] }) rfl
      exact sForLst TO S G EO AM gI (s := { s with heap := s.heap.push { cls := .type "list_iterator", data := .fields #[.ref a, .int 0 0] } }) (a := a) rfl rfl B P hk
    · rename_i e1
      obtain ⟨a', ob, ha', hob, us, nn, rfl, hi, hz⟩ := D.obj e1
      rw [ha] at ha'; cases ha'
      cases hi
      refine wpN_any (wpAny_pyIter_list (items := List.toArray []) ⟨_, hob, rfl, nn, rfl⟩ ?_)
      obtain ⟨gI, B⟩ := Beside.start D (ob := { cls := .type "list_iterator", data := .fields #[.ref a, .int 0 0] }) rfl
      obtain ⟨as1, m1, zs1, D1, hI, hL, ho⟩ := B.parts EO
      refine codeN_forEnd (wpN_any (wpAny_pyNext_list_end (s := { s with heap := s.heap.push { cls := .type "list_iterator", data := .fields #[.ref a, .int 0 0] } }) (items := List.toArray []) AM.handled ⟨_, ho, rfl, rfl⟩ (l := a) ⟨_, Heap.get?_push_of_some _ hob, rfl, nn, rfl⟩ (i := 0) (by simp) fun h' hx => ⟨rfl, ?_⟩))
      exact P .next .next _ h' s.toks ⟨rfl, as1, m1, zs1, D1.turn gI hI hL hx⟩ hk
    · exact hk.elim
  | bytes xs =>
    obtain ⟨⟨t1, rfl⟩, hb, hz⟩ := hv
    refine wpN_any (KBw.pyIter_bytes ?_)
    obtain ⟨gI, B⟩ := Beside.start D (ob := { cls := .type "bytes_iterator", data := .fields #[.bytes (byteArr xs) t1, .int 0 0] }) rfl
    exact sForGo TO S G EO AM gI (s := { s with heap := s.heap.push { cls := .type "bytes_iterator", data := .fields #[.bytes (byteArr xs) t1, .int 0 0] } }) (stepsB AM.handled _ hb xs 0 _ rfl rfl rfl) B P hk
  | _ => exact hk.elim
end
end Mine

end
/- S18 -/
section
open PySem PySem.W PyProof.Rows
namespace Mine
section
variable {c : Cx} {g : Heap} {env : Env} {as : List Addr} {m : Str → Option Value} {zs ys : List Value} {st : St} {A : Around} {s : Shared} {Q : Value → Shared → Prop} {n : Nat} {k : KV} {ih : Ev}

/-- an object beside the state becomes one of the state's -/
theorem InvD.adopt {h : Heap} (D : InvD c g env as m zs ys st h) {a : Addr} {o : O} {ob : Obj} (ga : g.get? a = none) (ha : a ∉ as) (hL : a ≠ env.locals) (hn : h.get? a = some ob) (ho : OR c (as ++ [a]) o ob) : InvD c g env (as ++ [a]) m zs ys ⟨st.H ++ [o], st.l, st.s, st.sc⟩ h := by
  refine ⟨D.keep, by simp [D.len], ?_, fun i o' b e1 e2 => ?_, fun b hb => ?_, D.lfresh, D.ns, D.loc.mono fun p y q => ⟨q.1, q.2.1.mono up_last, q.2.2⟩, D.stk.mono fun _ _ q => q.mono up_last, D.sc⟩
  · rw [List.nodup_append]
    refine ⟨D.nodup, by simp, fun x hx y hy e => ?_⟩
    simp at hy; subst hy; subst e; exact ha hx
  · by_cases hi : i < st.H.length
    · have hiA : i < as.length := by rw [D.len]; exact hi
      rw [List.getElem?_append_left hi] at e1
      rw [List.getElem?_append_left hiA] at e2
      obtain ⟨ob', x, y⟩ := D.objs i o' b e1 e2
      exact ⟨ob', x, y.mono up_last⟩
    · have : i = st.H.length := by
        have := (List.getElem?_eq_some_iff.mp e1).1
        simp at this; omega
      subst this
      rw [List.getElem?_append_right (Nat.le_refl _)] at e1
      rw [← D.len, List.getElem?_append_right (Nat.le_refl _)] at e2
      simp at e1 e2
      subst e1; subst e2
      exact ⟨ob, hn, ho⟩
  · rcases List.mem_append.mp hb with q | q
    · exact D.fresh b q
    · simp at q; subst q; exact ⟨ga, hL⟩

theorem display_loop {f : (Option (Sem Value) × Sem Value) → (Option Addr × List (Sem Value × Sem Value)) → Sem (ForInStep (Option Addr × List (Sem Value × Sem Value)))}
    (hf : ∀ k v main run, (run.length + 1 == 17) = false → f (some k, v) (main, run) = pure (.yield (main, run ++ [(k, v)]))) : ∀ (items : List (Sem Value × Sem Value)) (main : Option Addr) (run : List (Sem Value × Sem Value)), run.length + items.length ≤ 15 →
    forIn (items.map fun p => (some p.1, p.2)) (main, run) f = pure (main, run ++ items)
  | [], main, run, _ => by rw [List.map_nil, List.forIn_nil, List.append_nil]
  | p :: items, main, run, h => by
    rw [List.map_cons, List.forIn_cons, hf _ _ _ _ (by simp only [List.length_cons] at h; rw [beq_eq_false_iff_ne]; omega), pure_bind]
    show forIn (items.map fun p => (some p.1, p.2)) (main, run ++ [(p.1, p.2)]) f = _
    rw [display_loop hf items main (run ++ [(p.1, p.2)]) (by simp only [List.length_cons, List.length_append, List.length_nil] at h ⊢; omega)]
    simp
theorem display_plain (items : List (Sem Value × Sem Value)) (h : items.length ≤ 15) (hne : items ≠ []) : dictDisplay (items.map fun p => (some p.1, p.2)) = (do let d ← subDict items; pure (.ref d)) := by
  unfold dictDisplay
  dsimp only
  rw [display_loop (fun k v main run hr => by
    show (if ((run ++ [(k, v)]).length == 17) = true then _ else _) = _
    rw [List.length_append, List.length_singleton, if_neg (by rw [hr]; exact Bool.false_ne_true)]) items none [] (by simpa using h)]
  rw [pure_bind, List.nil_append]
  cases items with
  | nil => exact absurd rfl hne
  | cons p r =>
    show (subDict (p :: r) >>= fun d => pure (some d)) >>= _ = _
    simp only [bind_assoc, pure_bind]
theorem display_nil : dictDisplay [] = newDict := rfl

theorem lsets_len : ∀ (l es : List (Str × V)), (lsets es l).length ≤ es.length + l.length
  | [], es => by simp [lsets]
  | p :: l, es => by
    unfold lsets
    have := lsets_len l (lset p.1 p.2 es)
    have := @lset_length p.1 p.2 es
    simp only [List.length_cons]
    omega

set_option maxHeartbeats 4000000 in
/-- a dict's entries are set, one behind the other -/
theorem set_all {d : Addr} : ∀ {l : List (Str × V)} {kvs : List (Value × Value)} {es : List (Str × V)} {kv0 : List (Str × Value)} {s : Shared} {Q : Unit → Shared → Prop}, All2 (fun p kv => (∃ t, kv.1 = .str p.1 t) ∧ VR c.ro as p.2 kv.2) l kvs →
    All2 (KR c as) es kv0 → (es.map (·.1)).Nodup → s.heap.DictOf (strKind c.prog c.w) d kv0 → es.length + l.length ≤ 1000 →
    (∀ h' tk kv', All2 (KR c as) (lsets es l) kv' → h'.DictOf (strKind c.prog c.w) d kv' → KeepBut d s.heap h' → Q () ⟨h', s.gens, s.drawn, tk, s.os⟩) →
    wpN (MD c) A (forIn kvs PUnit.unit fun x _ => do dictSet d x.1 x.2; pure (ForInStep.yield PUnit.unit)) (fun _ => Q ()) s := by
  intro l
  induction l with
  | nil =>
    intro kvs es kv0 s Q h12 he hn hd hz P
    cases h12
    rw [List.forIn_nil]
    exact wpN_pure (P s.heap s.toks kv0 he hd fun _ _ _ e => e)
  | cons p l ih =>
    intro kvs es kv0 s Q h12 he hn hd hz P
    cases h12 with | @cons _ kv _ kvs h1 h2 =>
    rw [List.forIn_cons]
    obtain ⟨⟨t, ht⟩, hv⟩ := h1
    simp only [List.length_cons] at hz
    have := @lset_length p.1 p.2 es
    refine wpN_bind (wpN_bind (wpN_any (wpAny_dictSet_pairs (knd := strKind c.prog c.w) (k := p.1) (by rw [ht]; show (p.1 == p.1) = true; simp) hd (fun h' hd' hs => (?_ : wpN _ _ _ _ _)) (by rw [← he.length]; exact size_ok (by omega)))))
    refine wpN_pure ?_
    refine ih (s := { s with heap := h', toks := s.toks + 1 }) h2 (stored_of he hn hv) (lset_nodup hn) hd' (by omega) fun h'' tk kv' q1 q2 q3 => ?_
    exact P h'' tk kv' q1 q2 fun b o hb e => q3 b o hb ((hs.2 b hb).trans e)

/-- the pairs of a dict's display -/
noncomputable def itemsOf (env : Env) (pos : Pos) : List Str → List (Option Expr) → List Expr → List (Sem Value × Sem Value)
  | _ :: as, some kx :: ks, e :: es => (eval kx env, do let x ← eval e env; standAt pos; pure x) :: itemsOf env pos as ks es
  | _, _, _ => []
theorem strKs_items {pos : Pos} : ∀ {ks : List (Option Expr)} {as : List Str} {es : List Expr}, strKs ks = some as → as.length = es.length →
    (evalEachOpt ks env).zip ((evalEach es env).map fun v => do let x ← v; standAt pos; pure x) = ((itemsOf env pos as ks es).map fun p => (some p.1, p.2)) ∧ (itemsOf env pos as ks es).length = es.length
  | [], as, es, h, hl => by
    cases h
    cases es with
    | nil => exact ⟨rfl, rfl⟩
    | cons e es => simp at hl
  | none :: ks, as, es, h, hl => by cases h
  | some kx :: ks, as, es, h, hl => by
    unfold strKs at h
    split at h
    · rename_i a l e1 e2
      cases h
      cases es with
      | nil => simp at hl
      | cons e es =>
        obtain ⟨q1, q2⟩ := strKs_items (pos := pos) e2 (by simpa using hl)
        refine ⟨?_, by show (itemsOf env pos l ks es).length + 1 = es.length + 1; rw [q2]⟩
        show (some (eval kx env), _) :: (evalEachOpt ks env).zip ((evalEach es env).map _) = (some (eval kx env), _) :: _
        rw [q1]
    · cases h
theorem sPairs (S : Sound c n ih) (G : GOk c g) (EO : EnvOk g env) (AO : AOk A n) {pos : Pos} : ∀ {ks : List (Option Expr)} {ns : List Str} {es : List Expr} {ys : List Value} {st : St} {s : Shared} {k : List V → St → Prop} {Q : List (Value × Value) → Shared → Prop}, strKs ks = some ns → ns.length = es.length → evArgs ih es st k → Inv c g env ys st s.heap →
    (∀ vs kvs st' as m zs h' tk, InvD c g env as m zs ys st' h' → All2 (fun p kv => (∃ t, kv.1 = .str p.1 t) ∧ VR c.ro as p.2 kv.2) (ns.zip vs) kvs → vs.length = es.length → k vs st' → Q kvs ⟨h', s.gens, s.drawn, tk, s.os⟩) →
    wpN (MD c) A (evalPairs (itemsOf env pos ns ks es)) Q s
  | [], ns, es, ys, st, s, k, Q, h, hl, hk, ⟨as, m, zs, D⟩, P => by
    cases h
    cases es with
    | nil => exact wpN_pure (P [] [] st as m zs s.heap s.toks D .nil rfl hk)
    | cons e es => simp at hl
  | none :: ks, ns, es, ys, st, s, k, Q, h, hl, hk, D, P => by cases h
  | some kx :: ks, ns, es, ys, st, s, k, Q, h, hl, hk, D, P => by
    unfold strKs at h
    split at h
    · rename_i a l e1 e2
      cases h
      cases es with
      | nil => simp at hl
      | cons e es =>
        have hkx : ∃ kk pp, kx = .Constant (.str a) kk pp := by
          unfold strK at e1
          split at e1
          · cases e1; exact ⟨_, _, rfl⟩
          · cases e1
        obtain ⟨kk, pp, rfl⟩ := hkx
        unfold evArgs at hk
        cases he : isStar e with
        | true => rw [he] at hk; exact hk.elim
        | false =>
          rw [he] at hk
          show wpN (MD c) A (evalPairs ((eval (.Constant (.str a) kk pp) env, do let x ← eval e env; standAt pos; pure x) :: itemsOf env pos l ks es)) Q s
          rw [evalPairs]
          refine wpN_bind (wpN_any (PySem.Calls.Constant_str (?_ : wpN _ _ _ _ _)))
          refine wpN_bind (wpN_holding (wpN_bind (S.e _ _ _ hk g env ys A { s with toks := s.toks + 1 } _ G EO AO D fun v st1 y h1 tk1 D1 hk1 => ?_)))
          refine wpN_bind (wpN_standAt (wpN_pure ?_))
          refine wpN_bind (wpN_holding (sPairs S G EO AO (s := ⟨h1, s.gens, s.drawn, tk1, s.os⟩) e2 (by simpa using hl) hk1 D1 fun vs kvs st2 as2 m2 zs2 h2 tk2 D2 hvs hlv hk2 => ?_))
          obtain ⟨v', s', _, hv, D3, hk3⟩ := D2.pop hk2
          exact wpN_pure (P (v' :: vs) _ _ _ _ _ _ _ D3 (.cons ⟨⟨_, rfl⟩, hv⟩ hvs) (by simp [hlv]) hk3)
    · cases h

set_option maxHeartbeats 4000000 in
theorem sDict (S : Sound c n ih) (G : GOk c g) (EO : EnvOk g env) (AO : AOk A n) {pos : Pos} {ks : List (Option Expr)} {ns : List Str} {es : List Expr} (h : strKs ks = some ns) (hl : ns.length = es.length) (hz : es.length ≤ 15) (D : InvD c g env as m zs ys st s.heap) (P : Post c g env ys k Q s)
    (hk : evArgs ih es st fun vs st1 => new (.dict (lsets [] (ns.zip vs))) st1 k) : wpN (MD c) A (eval (.Dict ks es pos) env) Q s := by
  obtain ⟨q1, q2⟩ := strKs_items (env := env) (pos := pos) h hl
  show wpN _ _ (do standAt pos; dictDisplay ((evalEachOpt ks env).zip ((evalEach es env).map fun v => do let x ← v; standAt pos; pure x))) _ _
  rw [q1]
  refine wpN_bind (wpN_standAt ?_)
  cases hes : es with
  | nil =>
    subst hes
    have hns : ns = [] := by cases ns with | nil => rfl | cons a l => simp at hl
    subst hns
    have : itemsOf env pos [] ks [] = [] := by cases ks <;> rfl
    rw [this]
    show wpN _ _ newDict _ _
    unfold newDict
    exact wpN_any (wpAny_newObj_type (sNewAt D P (o := .dict []) (tk := s.toks) ⟨[], 0, rfl, .nil, List.nodup_nil⟩ hk) (Nat.zero_le _))
  | cons e0 es0 =>
    rw [← hes]
    rw [display_plain _ (by rw [q2]; exact hz) (by intro q; rw [q] at q2; rw [hes] at q2; simp at q2)]
    unfold subDict
    refine wpN_bind (wpN_bind (wpN_any (wpAny_alloc (?_ : wpN _ _ _ _ _))))
    obtain ⟨gI, B⟩ := Beside.start D (ob := emptyDict) rfl
    obtain ⟨g₁, gk, hI₁, I₁⟩ := B
    have EO₁ := EO.keeps gk
    have G₁ := G.keeps gk
    refine wpN_bind (wpN_holding ?_)
    rw [if_pos (by rw [q2]; exact hz)]
    refine wpN_bind (sPairs S G₁ EO₁ AO (s := { s with heap := s.heap.push emptyDict }) h hl hk I₁ fun vs kvs st' as' m' zs' h' tk D' hall hlv hk' => ?_)
    refine wpN_holding ?_
    have hd0 : h'.DictOf (strKind c.prog c.w) s.heap.objs.size [] := ⟨_, #[], 0, D'.keep _ _ hI₁, ⟨rfl, rfl, rfl⟩, rfl, fun e he => by simp at he, .nil, List.nodup_nil⟩
    have hln : (ns.zip vs).length ≤ 15 := by rw [List.length_zip]; omega
    refine wpN_bind (wpN_mono (set_all (s := ⟨h', s.gens, s.drawn, tk, s.os⟩) (as := as') (es := []) (kv0 := []) (Q := fun _ s₂ => Q (.ref s.heap.objs.size) s₂) hall .nil List.nodup_nil hd0 (by simp; omega) fun h'' tk'' kv' e1 e2 e3 => ?_) fun _ s₂ hq => ?_)
    · have hI : s.heap.objs.size ∉ as' := fun q => by rw [(D'.fresh _ q).1] at hI₁; cases hI₁
      have hL : s.heap.objs.size ≠ env.locals := fun q => by rw [q, D'.lfresh] at hI₁; cases hI₁
      obtain ⟨ob, ho, hr⟩ := dict_from e1 e2
      have D2 := ((D'.weaken EO gk).turn gI hI hL e3).adopt gI hI hL ho (hr.mono up_last)
      exact P _ _ _ _ _ ⟨_, m', zs', D2.push (v := .obj st'.H.length) ⟨_, D'.last _, rfl⟩⟩ hk'
    · exact wpN_pure (wpN_pure (wpN_pure hq))
end
end Mine

end
/- S19 -/
section
open PySem PySem.W PyProof.Rows
namespace Mine
section
variable {c : Cx} {g : Heap} {env : Env} {as : List Addr} {m : Str → Option Value} {zs ys : List Value} {st : St} {A : Around} {s : Shared} {n : Nat} {ih : Ev}

/-- an iterator and a list beside the state -/
noncomputable def Beside2 (c : Cx) (g : Heap) (env : Env) (ys : List Value) (st : St) (I D : Addr) (o ob : Obj) (h : Heap) : Prop :=
  ∃ g₁, (∀ b o, g.get? b = some o → g₁.get? b = some o) ∧ g₁.get? I = some o ∧ g₁.get? D = some ob ∧ Inv c g₁ env ys st h
theorem Beside2.parts {I D : Addr} {o ob : Obj} {h : Heap} (B : Beside2 c g env ys st I D o ob h) (EO : EnvOk g env) : ∃ as m zs, InvD c g env as m zs ys st h ∧ (I ∉ as ∧ I ≠ env.locals ∧ h.get? I = some o) ∧ (D ∉ as ∧ D ≠ env.locals ∧ h.get? D = some ob) := by
  obtain ⟨g₁, k, hI, hD, as, m, zs, Dv⟩ := B
  refine ⟨as, m, zs, Dv.weaken EO k, ⟨fun (q : I ∈ as) => ?_, fun (q : I = env.locals) => ?_, Dv.keep _ _ hI⟩, fun (q : D ∈ as) => ?_, fun (q : D = env.locals) => ?_, Dv.keep _ _ hD⟩
  · rw [(Dv.fresh _ q).1] at hI; cases hI
  · rw [q, Dv.lfresh] at hI; cases hI
  · rw [(Dv.fresh _ q).1] at hD; cases hD
  · rw [q, Dv.lfresh] at hD; cases hD

/-- what a comprehension leaves -/
noncomputable def CompEnd (c : Cx) (g : Heap) (env : Env) (ys : List Value) (D : Addr) (k : List Int → St → Prop) (R : Flow → Shared → Prop) (s : Shared) : Prop :=
  ∀ as m zs st' xs us nn h' tk, InvD c g env as m zs ys st' h' → D ∉ as → D ≠ env.locals → h'.get? D = some (PySem.W.listOf (List.toArray us) nn) → IntsAre us xs → xs.length ≤ 1000000 → k xs st' → R .next ⟨h', s.gens, s.drawn, tk, s.os⟩

theorem sCompGo (TO : TabOk c) (S : Sound c n ih) (G : GOk c g) (EO : EnvOk g env) (AO : AOk A n) {I D : Addr} (hID : I ≠ D) (gI : g.get? I = none) (gD : g.get? D = none) {elt t it : Expr} {scope : Scope} {pos : Pos} :
    ∀ {vs : List V} {o : Obj} {st : St} {s : Shared} {acc : List Int} {us : List Value} {nn : Nat} {k : List Int → St → Prop} {R : Flow → Shared → Prop},
    Steps c A I vs o → Beside2 c g env ys st I D o (PySem.W.listOf (List.toArray us) nn) s.heap → IntsAre us acc → acc.length + vs.length ≤ 1000000 → CompEnd c g env ys D k R s → compGo c.T ih t elt vs st acc k →
    codeN (MD c) A (.compLoop (.ListComp elt [⟨t, it, [], 0⟩] scope pos) 0 (.ref I) (.ref D) env) R s
  | [], o, st, s, acc, us, nn, k, R, hS, B, hi, hz, P, hk => by
    obtain ⟨as, m, zs, Dv, ⟨hI, hL, ho⟩, hD, hDL, hoD⟩ := B.parts EO
    refine codeN_compEnd (hS s _ ho fun h' kb => ⟨rfl, ?_⟩)
    exact P as m zs st acc us nn h' s.toks (Dv.turn gI hI hL kb) hD hDL (kb _ _ (Ne.symm hID) hoD) hi (by simpa using hz) hk
  | v :: r, o, st, s, acc, us, nn, k, R, hS, B, hi, hz, P, hk => by
    obtain ⟨as, m, zs, Dv, ⟨hI, hL, ho⟩, hD, hDL, hoD⟩ := B.parts EO
    unfold compGo at hk
    refine codeN_compNext (hS s _ ho fun y h' tk o' hv kb ho' hp hS' => ⟨y, o', rfl, ho', hp, ?_⟩)
    have D1 := Dv.turn gI hI hL kb
    obtain ⟨D2, gk⟩ := D1.ground
    have hI₁ := hide_get ho' hL hI
    have hD₁ := hide_get (kb _ _ (Ne.symm hID) hoD) hDL hD
    have EO₁ := EO.keeps gk
    have G₁ := G.keeps gk
    refine sAsg (s := ⟨h', s.gens, s.drawn, tk, s.os⟩) TO S G₁ EO₁ AO D2 (hv as) (k := fun st1 => ih.e elt st1 fun w st2 => match asInt w with
      | some (x, _) => compGo c.T ih t elt r st2 (acc ++ [x]) k
      | none => False) (fun st1 h1 tk1 I1 hk1 => ?_) hk
    refine S.e _ _ _ hk1 _ env ys A ⟨h1, s.gens, s.drawn, tk1, s.os⟩ _ G₁ EO₁ AO I1 fun w st2 z h2 tk2 I2 hk2 => ?_
    dsimp only at hk2
    split at hk2
    · rename_i x kx ex
      obtain ⟨as3, m3, zs3, D3, hw⟩ := I2.unpush
      obtain ⟨u, rfl⟩ := hw.asInt ex
      simp only [List.length_cons] at hz
      have hus := IntsAre.len hi
      have hD3 : D ∉ as3 := fun q => by rw [(D3.fresh _ q).1] at hD₁; cases hD₁
      have hDL3 : D ≠ env.locals := hDL
      have hI3 : I ∉ as3 := fun q => by rw [(D3.fresh _ q).1] at hI₁; cases hI₁
      refine wpN_any (append_at (s := ⟨h2, s.gens, s.drawn, tk2, s.os⟩) (hsz := by rw [List.size_toArray]; exact size_ok (by omega)) (D3.keep _ _ hD₁) fun h3 hs hoD3 => (?_ : codeN _ _ _ _ _))
      have e : (List.toArray us).push (.int x u) = List.toArray (us ++ [.int x u]) := by simp
      rw [e] at hoD3
      have D4 := (D3.weaken EO gk).turn gD hD3 hDL3 (fun b o hb e => (hs.2 b hb).trans e : KeepBut D h2 h3)
      obtain ⟨D5, gk5⟩ := D4.ground
      refine sCompGo TO S G EO AO hID gI gD (s := ⟨h3, s.gens, s.drawn, tk2, s.os⟩) hS' ⟨_, gk5, hide_get ((hs.2 I hID).trans (D3.keep _ _ hI₁)) hL hI3, hide_get hoD3 hDL3 hD3, as3, m3, zs3, D5⟩ (hi.append (.cons _ _ .nil)) (by simp; omega) P hk2
    · exact hk2.elim

theorem sCompLst (TO : TabOk c) (S : Sound c n ih) (G : GOk c g) (EO : EnvOk g env) (AO : AOk A n) {I D a : Addr} (hID : I ≠ D) (gI : g.get? I = none) (gD : g.get? D = none) {elt t it : Expr} {scope : Scope} {pos : Pos} :
    ∀ {q j : Nat} {o : Obj} {st : St} {s : Shared} {acc : List Int} {us : List Value} {nn : Nat} {k : List Int → St → Prop} {R : Flow → Shared → Prop},
    o.cls = .type "list_iterator" → o.data = .fields #[.ref a, .int (j : Nat) 0] → Beside2 c g env (.ref a :: ys) st I D o (PySem.W.listOf (List.toArray us) nn) s.heap → IntsAre us acc → acc.length + q ≤ 1000001 → CompEnd c g env ys D k R s → compLst c.T ih t elt q j st acc k →
    codeN (MD c) A (.compLoop (.ListComp elt [⟨t, it, [], 0⟩] scope pos) 0 (.ref I) (.ref D) env) R s
  | 0, _, _, _, _, _, _, _, _, _, _, _, _, _, _, _, hk => hk.elim
  | q + 1, j, o, st, s, acc, us, nn, k, R, hc, hd, B, hi, hz, P, hk => by
    obtain ⟨as, m, zs, Dv, ⟨hI, hL, ho⟩, hD, hDL, hoD⟩ := B.parts EO
    unfold compLst at hk
    obtain ⟨lv, s', e, hlv, D0, hk⟩ := Dv.pop hk
    dsimp only at hk
    split at hk
    · rename_i i
      obtain ⟨a', ha, ea⟩ := hlv
      cases ea
      split at hk
      · rename_i xs e1
        obtain ⟨a'', ob, ha'', hob, ws, nw, rfl, hall, hzw⟩ := D0.obj e1
        rw [ha] at ha''; cases ha''
        split at hk
        · rename_i v e2
          obtain ⟨u, hu, hv⟩ := hall.get e2
          refine codeN_compNext (wpN_any (wpAny_pyNext_list_item (items := List.toArray ws) ⟨o, ho, hc, hd⟩ ⟨_, hob, rfl, nw, rfl⟩ (x := u) (by simpa using hu) fun h' hit hs => ?_))
          obtain ⟨o', ho', hc', hd'⟩ := hit
          have kb : KeepBut I s.heap h' := fun b o hb e => (hs.2 b hb).trans e
          refine ⟨u, o', rfl, ho', by unfold plainIt; rw [hc']; decide, ?_⟩
          have D1 := Dv.turn gI hI hL kb
          obtain ⟨D2, gk⟩ := D1.ground
          have hI₁ := hide_get ho' hL hI
          have hD₁ := hide_get (kb _ _ (Ne.symm hID) hoD) hDL hD
          have EO₁ := EO.keeps gk
          have G₁ := G.keeps gk
          refine sAsg (s := { s with heap := h' }) TO S G₁ EO₁ AO D2 hv (k := fun st2 => ih.e elt st2 fun w st3 => match asInt w with
            | some (x, _) => compLst c.T ih t elt q (j + 1) st3 (acc ++ [x]) k
            | none => False) (fun st1 h1 tk1 I1 hk1 => ?_) hk
          refine S.e _ _ _ hk1 _ env (.ref a :: ys) A ⟨h1, s.gens, s.drawn, tk1, s.os⟩ _ G₁ EO₁ AO I1 fun w st2 z h2 tk2 I2 hk2 => ?_
          dsimp only at hk2
          split at hk2
          · rename_i x kx ex
            obtain ⟨as3, m3, zs3, D3, hw⟩ := I2.unpush
            obtain ⟨u', rfl⟩ := hw.asInt ex
            have hus := IntsAre.len hi
            have hD3 : D ∉ as3 := fun q => by rw [(D3.fresh _ q).1] at hD₁; cases hD₁
            have hI3 : I ∉ as3 := fun q => by rw [(D3.fresh _ q).1] at hI₁; cases hI₁
            refine wpN_any (append_at (s := ⟨h2, s.gens, s.drawn, tk2, s.os⟩) (hsz := by rw [List.size_toArray]; exact size_ok (by omega)) (D3.keep _ _ hD₁) fun h3 hs3 hoD3 => (?_ : codeN _ _ _ _ _))
            have e : (List.toArray us).push (.int x u') = List.toArray (us ++ [.int x u']) := by simp
            rw [e] at hoD3
            have D4 := (D3.weaken EO gk).turn gD hD3 hDL (fun b o hb e => (hs3.2 b hb).trans e : KeepBut D h2 h3)
            obtain ⟨D5, gk5⟩ := D4.ground
            exact sCompLst TO S G EO AO hID gI gD (s := ⟨h3, s.gens, s.drawn, tk2, s.os⟩) hc' hd' ⟨_, gk5, hide_get ((hs3.2 I hID).trans (D3.keep _ _ hI₁)) hL hI3, hide_get hoD3 hDL hD3, as3, m3, zs3, D5⟩ (hi.append (.cons _ _ .nil)) (by simp; omega) P hk2
          · exact hk2.elim
        · rename_i e2
          have hu : ws[j]? = none := by
            rw [List.getElem?_eq_none_iff] at e2 ⊢
            rw [← hall.length]; exact e2
          refine codeN_compEnd (wpN_any (wpAny_pyNext_list_end (items := List.toArray ws) AO.handled ⟨o, ho, hc, hd⟩ ⟨_, hob, rfl, nw, rfl⟩ (by simpa using hu) fun h' hx => ⟨rfl, ?_⟩))
          have kb : KeepBut I s.heap h' := hx
          exact P as m zs _ acc us nn h' s.toks (D0.turn gI hI hL kb) hD hDL (kb _ _ (Ne.symm hID) hoD) hi (by omega) hk
      · exact hk.elim
    · exact hk.elim
end
end Mine

end
/- S20 -/
section
open PySem PySem.W PyProof.Rows
namespace Mine

/-- a comprehension's cells -/
noncomputable def clOf (env : Env) : List (Str × NameKind) → List (Str × Addr) → List (Str × Addr)
  | [], cs => cs
  | p :: r, cs => clOf env r (if p.2 == .free then (p.1, (env.cells.lookup p.1).getD 0) :: cs else cs)
theorem closure_is {scope : Scope} {env : Env} (h : ∀ p ∈ scope.names, p.2 = .free → ∃ ca, env.cells.lookup p.1 = some ca) : closureFor scope env = pure (clOf env scope.names []) := by
  unfold closureFor
  dsimp only
  generalize ([] : List (Str × Addr)) = cs
  revert h
  generalize scope.names = names
  intro h
  induction names generalizing cs with
  | nil => rfl
  | cons p r ih =>
    obtain ⟨x, kd⟩ := p
    rw [List.forIn_cons]
    unfold clOf
    by_cases hk : kd = .free
    · subst hk
      obtain ⟨ca, hca⟩ := h (x, .free) (.head _) rfl
      have := ih ((x, ca) :: cs) (fun p hp => h p (.tail _ hp))
      simp only [beq_self_eq_true, if_true, cellOf, hca, pure_bind, Option.getD_some] at this ⊢
      exact this
    · have hk' : (kd == NameKind.free) = false := by simpa using hk
      have := ih cs (fun p hp => h p (.tail _ hp))
      simp only [hk', Bool.false_eq_true, if_false, pure_bind] at this ⊢
      exact this
theorem clOf_mem {env : Env} : ∀ {names : List (Str × NameKind)} {cs : List (Str × Addr)}, (∀ p ∈ names, p.2 = .free → ∃ ca, env.cells.lookup p.1 = some ca) → (∀ q ∈ cs, env.cells.lookup q.1 = some q.2) →
    (∀ q ∈ clOf env names cs, env.cells.lookup q.1 = some q.2) ∧ (∀ q ∈ cs, q ∈ clOf env names cs) ∧ (∀ p ∈ names, p.2 = .free → ∃ ca, (p.1, ca) ∈ clOf env names cs)
  | [], cs, _, h => ⟨h, fun _ q => q, fun p hp => by cases hp⟩
  | p :: r, cs, hn, h => by
    unfold clOf
    have hcs : ∀ q ∈ (if p.2 == .free then (p.1, (env.cells.lookup p.1).getD 0) :: cs else cs), env.cells.lookup q.1 = some q.2 := by
      intro q hq
      split at hq
      · rename_i e
        rcases List.mem_cons.mp hq with z | z
        · obtain ⟨ca, hca⟩ := hn p (.head _) (by simpa using e)
          subst z
          simp [hca]
        · exact h q z
      · exact h q hq
    obtain ⟨a, b, c⟩ := clOf_mem (fun p hp => hn p (.tail _ hp)) hcs
    refine ⟨a, fun q hq => b q ?_, fun q hq hf => ?_⟩
    · split
      · exact .tail _ hq
      · exact hq
    · rcases List.mem_cons.mp hq with z | z
      · subst z
        exact ⟨_, b (q.1, (env.cells.lookup q.1).getD 0) (by rw [hf]; exact .head _)⟩
      · exact c q z hf
theorem clOf_lookup {env : Env} {names : List (Str × NameKind)} (hn : ∀ p ∈ names, p.2 = .free → ∃ ca, env.cells.lookup p.1 = some ca) :
    (∀ x ca, (clOf env names []).lookup x = some ca → env.cells.lookup x = some ca) ∧ (∀ x ca, (x, NameKind.free) ∈ names → env.cells.lookup x = some ca → (clOf env names []).lookup x = some ca) := by
  obtain ⟨a, _, c⟩ := clOf_mem (cs := []) hn (fun q hq => by cases hq)
  have h1 : ∀ x ca, (clOf env names []).lookup x = some ca → env.cells.lookup x = some ca := fun x ca e => a (x, ca) (mem_of_lookup e)
  refine ⟨h1, fun x ca hm e => ?_⟩
  obtain ⟨cb, hb⟩ := c _ hm rfl
  have : ((clOf env names []).lookup x).isSome = true := by
    have gen : ∀ l : List (Str × Addr), (x, cb) ∈ l → (l.lookup x).isSome = true := by
      intro l
      induction l with
      | nil => intro h; cases h
      | cons q r ih =>
        intro h
        obtain ⟨y, a⟩ := q
        rw [List.lookup_cons]
        split
        · rfl
        · rename_i hne
          rcases List.mem_cons.mp h with z | z
          · cases z; simp at hne
          · exact ih z
    exact gen _ hb
  obtain ⟨cc, hc⟩ := Option.isSome_iff_exists.mp this
  rw [hc, ← e, h1 x cc hc]
theorem relabel_is {cs : Scope} {env : Env} (hk : env.scope.kind = .function) : (PySem.relabel cs env).names = Mine.relabel env.scope.names cs.names := by
  unfold PySem.relabel Mine.relabel
  dsimp only
  refine List.map_congr_left fun p _ => ?_
  obtain ⟨x, kd⟩ := p
  cases kd <;> try (simp; done)
  rw [lget_lookup]
  simp only [beq_self_eq_true, hk, Bool.true_and]
  show (if (env.scope.names.lookup x == some NameKind.cell) = true then _ else _) = _
  cases env.scope.names.lookup x with
  | none => rfl
  | some kd => cases kd <;> rfl
theorem cellsOf_mem {ns : List (Str × NameKind)} : ∀ {l : List (Str × V)} {p : Str × V}, p ∈ cellsOf ns l → p ∈ l ∧ lget p.1 ns = some .free
  | [], p, h => by cases h
  | q :: r, p, h => by
    unfold cellsOf at h
    split at h
    · rename_i e
      rcases List.mem_cons.mp h with z | z
      · subst z; exact ⟨.head _, e⟩
      · exact ⟨.tail _ (cellsOf_mem z).1, (cellsOf_mem z).2⟩
    · exact ⟨.tail _ (cellsOf_mem h).1, (cellsOf_mem h).2⟩
theorem All2.mem {α β : Type} {R : α → β → Prop} {l : List α} {m : List β} (h : All2 R l m) : ∀ {a : α}, a ∈ l → ∃ b, R a b := by
  induction h with
  | nil => intro a ha; cases ha
  | cons h1 _ ih =>
    intro a ha
    rcases List.mem_cons.mp ha with z | z
    · subst z; exact ⟨_, h1⟩
    · exact ih z
theorem All2.make {α β : Type} {R : α → β → Prop} : ∀ {l : List α}, (∀ a ∈ l, ∃ b, R a b) → ∃ m, All2 R l m
  | [], _ => ⟨[], .nil⟩
  | a :: r, h => by
    obtain ⟨b, hb⟩ := h a (.head _)
    obtain ⟨m, hm⟩ := All2.make (l := r) fun a' ha' => h a' (.tail _ ha')
    exact ⟨b :: m, .cons hb hm⟩
theorem lookup_free {sc : List (Str × NameKind)} {x : Str} (hs : lget x sc = some .cell) : ∀ {ns : List (Str × NameKind)}, lget x ns = some .free → (Mine.relabel sc ns).lookup x = some .cell
  | [], h => by cases h
  | p :: r, h => by
    obtain ⟨y, kd⟩ := p
    unfold Mine.relabel
    rw [List.map_cons]
    unfold lget at h
    cases q : strEq y x with
    | true =>
      rw [q] at h
      cases h
      have := (strEq_iff y x).mp q
      subst this
      simp [hs]
    | false =>
      rw [q] at h
      have hne : (x == y) = false := beq_eq_false_iff_ne.mpr fun e => strEq_false q e.symm
      have ih := lookup_free hs h
      cases kd <;> (simp only [List.lookup_cons, hne]; exact ih)
theorem lget_mem {α : Type} {x : Str} {v : α} : ∀ {l : List (Str × α)}, lget x l = some v → (x, v) ∈ l
  | [], h => by cases h
  | p :: r, h => by
    unfold lget at h
    cases q : strEq p.1 x with
    | true =>
      rw [q] at h
      cases h
      have := (strEq_iff p.1 x).mp q
      subst this
      exact .head _
    | false => rw [q] at h; exact .tail _ (lget_mem h)
theorem rngL_length : ∀ (n : Nat) (lo : Int) (kn : Bool), (rngL n lo kn).length = n
  | 0, _, _ => rfl
  | n + 1, lo, kn => by simp [rngL, rngL_length n]
theorem compN_is {T : Tab} {ih : Ev} {t elt : Expr} {kn : Bool} {n : Nat} {lo : Int} {st : St} {k : List Int → St → Prop} (h : compN T ih t elt kn n lo st k) : compGo T ih t elt (rngL n lo kn) st [] k := by
  unfold compN at h
  cases kn with
  | true => exact h
  | false =>
    refine h.elim (fun e p => ?_) fun _ h => h.elim (fun e p => ?_) fun _ h => h.elim (fun e p => ?_) fun _ h => h.elim (fun e p => ?_) fun _ h => h.elim (fun e p => ?_) fun _ h => h.elim
    all_goals (have e := of_decide_eq_true e; subst e; exact p)

section
variable {c : Cx} {g : Heap} {env : Env} {as : List Addr} {m : Str → Option Value} {zs ys : List Value} {st : St} {A : Around} {s : Shared} {n : Nat} {ih : Ev} {k : KV} {Q : Value → Shared → Prop}

/-- from a comprehension's frame back to the def's -/
theorem comp_back {env' : Env} {gB h h' h'' : Heap} {as' : List Addr} {m' : Str → Option Value} {zs' : List Value} {st2 : St} {D : Addr} {xs : List Int} {us : List Value} {nn tk : Nat} {S0 : Shared}
    (D1 : InvD c g env as m zs ys st h) (gk : ∀ b o, g.get? b = some o → gB.get? b = some o) (gL : ∀ o, h.get? env.locals = some o → gB.get? env.locals = some o) (hgB : gB.get? D = none) (hDL : D ≠ env.locals)
    (D2 : InvD c gB env' as' m' zs' (zs ++ ys) st2 h') (hD : D ∉ as') (hDC : D ≠ env'.locals) (hoD : h'.get? D = some (PySem.W.listOf (List.toArray us) nn)) (hi : IntsAre us xs) (hx : xs.length ≤ 1000000) (hsb : Heap.SameBut env'.locals h' h'') (P : ∀ v st' y h' tk, Inv c g env (y :: ys) (push v st') h' → k v st' → Q y ⟨h', S0.gens, S0.drawn, tk, S0.os⟩) (hk : compK st k xs st2) :
    Q (.ref D) ⟨h'', S0.gens, S0.drawn, tk, S0.os⟩ := by
  unfold compK leave at hk
  split at hk
  · rename_i l2 s2 e2
    obtain ⟨u1, u2⟩ := unzipL_is (as' := as') D1.loc D2.stk e2
    obtain ⟨oL, esL, epL, hoL, hdL, hkL, hfL⟩ := D1.ns
    have gL := gL _ hoL
    have nn : ∀ b, gB.get? b = none → g.get? b = none := fun b e => by
      cases q : g.get? b with
      | none => rfl
      | some o => rw [gk b o q] at e; cases e
    have up : ∀ b o, b ≠ env'.locals → h'.get? b = some o → h''.get? b = some o := fun b o hb e => (hsb.2 b hb).trans e
    have neC : ∀ b o, gB.get? b = some o → b ≠ env'.locals := fun b o e q => by rw [q, D2.lfresh] at e; cases e
    have D3 : InvD c g env as' m zs ys ⟨st2.H, l2, s2, st.sc⟩ h'' := by
      refine ⟨fun b o e => up b o (neC b o (gk b o e)) (D2.keep b o (gk b o e)), D2.len, D2.nodup, fun i o a e1 e2 => ?_, fun a ha => ⟨nn a (D2.fresh a ha).1, fun e => ?_⟩, D1.lfresh, ⟨oL, esL, epL, up _ _ (neC _ _ gL) (D2.keep _ _ gL), hdL, hkL, hfL⟩, u1, u2, D1.sc⟩
      · obtain ⟨ob, x, y⟩ := D2.objs i o a e1 e2
        exact ⟨ob, up _ _ (D2.fresh a (List.mem_of_getElem? e2)).2 x, y⟩
      · have := (D2.fresh a ha).1
        rw [e, gL] at this; cases this
    have D4 := D3.adopt (o := .il xs) (nn _ hgB) hD hDL (up _ _ hDC hoD) ⟨us, _, rfl, hi, hx⟩
    refine P _ _ _ _ _ ⟨_, _, _, D4.push (v := .obj st2.H.length) ⟨D, ?_, rfl⟩⟩ hk
    exact D3.last D
  · exact hk.elim

theorem sComp (TO : TabOk c) (S : Sound c n ih) (G : GOk c g) (EO : EnvOk g env) (AO : AOk A n) (D : InvD c g env as m zs ys st s.heap) {elt t it : Expr} {cs : Scope} {pos : Pos} (P : Post c g env ys k Q s)
    (hk : evComp c.T ih elt t it cs st k) : wpN (MD c) A (eval (.ListComp elt [⟨t, it, [], 0⟩] cs pos) env) Q s := by
  unfold evComp at hk
  split at hk
  · rename_i hset hok
    unfold okComp at hok
    rw [Bool.and_eq_true, List.all_eq_true] at hok
    obtain ⟨hkd, hok⟩ := hok
    have hkind : cs.kind = .function := by
      cases q : cs.kind <;> rw [q] at hkd <;> first | rfl | cases hkd
    have hcell : ∀ x ∈ cs.names, x.2 ≠ .cell := fun x hx e => by
      have := hok x hx
      rw [e] at this
      cases this
    have hloc : ∀ x ∈ cs.names, x.2 = .local → cs.names.lookup x.1 = some .local := fun x hx e => by
      have := hok x hx
      rw [e] at this
      dsimp only at this
      rw [lget_lookup] at this
      split at this
      · assumption
      · cases this
    have hfree : ∀ x ∈ cs.names, x.2 = .free → lget x.1 env.scope.names = some .cell ∧ ∃ ca, env.cells.lookup x.1 = some ca := fun x hx e => by
      have := hok x hx
      rw [e] at this
      dsimp only at this
      split at this
      · rename_i v e1 e2
        rw [D.sc] at e1
        refine ⟨e1, ?_⟩
        obtain ⟨y, hy⟩ := D.loc.mem (lget_mem e2)
        rcases hy.2.2 with ⟨q, _⟩ | ⟨_, ca, o, q, _⟩
        · have e1' : env.kindOf x.1 = some .cell := (lget_lookup x.1 _).symm.trans e1
          rw [show env.kindOf x.1 = some .local from q] at e1'
          cases e1'
        · exact ⟨ca, q⟩
      · cases this
    have hfr : ∀ p ∈ cs.names, p.2 = .free → ∃ ca, env.cells.lookup p.1 = some ca := fun p hp e => (hfree p hp e).2
    obtain ⟨cl1, cl2⟩ := clOf_lookup hfr
    refine N_ListComp hset (closure_is hfr) hkind hcell hloc (S.e _ _ _ hk g env ys A s _ G EO AO ⟨as, m, zs, D⟩ fun v st1 y h1 tk1 I1 hk1 => ?_)
    obtain ⟨as1, m1, zs1, D1, hv⟩ := I1.unpush
    have AM := AO.mark
    -- the frame, over a heap with an iterator, the list and the frame's dict
    have key : ∀ (oI : Obj), oI.isFreed = false → ∀ h₁, h₁.Ns (((h1.push oI).push (PySem.W.listOf (List.toArray []) 0)).objs.size) (fun _ => none) → Heap.SameBut (((h1.push oI).push (PySem.W.listOf (List.toArray []) 0)).objs.size) (((h1.push oI).push (PySem.W.listOf (List.toArray []) 0)).push { cls := .type "dict", data := .dict #[] }) h₁ →
        ∃ gB, (∀ b o, g.get? b = some o → gB.get? b = some o) ∧ (∀ o, h1.get? env.locals = some o → gB.get? env.locals = some o) ∧ gB.get? (h1.objs.size) = none ∧ gB.get? ((h1.push oI).objs.size) = none ∧ (h1.push oI).objs.size ≠ env.locals ∧ h1.objs.size ≠ (h1.push oI).objs.size ∧ (h1.push oI).objs.size ≠ ((h1.push oI).push (PySem.W.listOf (List.toArray []) 0)).objs.size ∧
          EnvOk gB (compFrame cs (clOf env cs.names []) (((h1.push oI).push (PySem.W.listOf (List.toArray []) 0)).objs.size) env) ∧
          ∃ g₁ m' zs', (∀ b o, gB.get? b = some o → g₁.get? b = some o) ∧ g₁.get? h1.objs.size = some oI ∧ g₁.get? (h1.push oI).objs.size = some (PySem.W.listOf (List.toArray []) 0) ∧ InvD c g₁ (compFrame cs (clOf env cs.names []) (((h1.push oI).push (PySem.W.listOf (List.toArray []) 0)).objs.size) env) as1 m' zs' (zs1 ++ ys) (enter st1 (cellsOf cs.names st1.l) (Mine.relabel st1.sc cs.names)) h₁ := by
      intro oI hoI h₁ hns hsb
      have z1 : (h1.push oI).objs.size = h1.objs.size + 1 := by simp [Heap.push]
      have z2 : ((h1.push oI).push (PySem.W.listOf (List.toArray []) 0)).objs.size = h1.objs.size + 2 := by simp [Heap.push]
      rw [z2] at hns hsb ⊢
      rw [z1]
      have up : ∀ b o, h1.get? b = some o → h₁.get? b = some o := fun b o e => by
        have hb := Heap.lt_size e
        rw [hsb.2 b (Nat.ne_of_lt (Nat.lt_add_right 2 hb))]
        exact Heap.get?_push_of_some _ (Heap.get?_push_of_some _ (Heap.get?_push_of_some _ e))
      have hI : h₁.get? h1.objs.size = some oI := by
        rw [hsb.2 _ (Nat.ne_of_lt (Nat.lt_add_of_pos_right Nat.two_pos))]
        exact Heap.get?_push_of_some _ (Heap.get?_push_of_some _ (Heap.get?_push_size _ hoI))
      have hDD : h₁.get? (h1.objs.size + 1) = some (PySem.W.listOf (List.toArray []) 0) := by
        rw [hsb.2 _ (Nat.ne_of_lt (Nat.lt_succ_self _))]
        have := Heap.get?_push_size (h1.push oI) (o := PySem.W.listOf (List.toArray []) 0) rfl
        rw [z1] at this
        exact Heap.get?_push_of_some _ this
      have asL : ∀ a ∈ as1, a < h1.objs.size := fun a ha => by
        obtain ⟨i, hi, e⟩ := List.getElem_of_mem ha
        have hiH : i < st1.H.length := by rw [← D1.len]; exact hi
        obtain ⟨ob', z, _⟩ := D1.objs i _ a (List.getElem?_eq_getElem hiH) (by rw [List.getElem?_eq_getElem hi, e])
        exact Heap.lt_size z
      have hin : ∀ {l : List Addr} {b : Addr} {o : Obj}, h₁.get? b = some o → b ∉ l → (hideAll h₁ l).get? b = some o := fun e q => hideAll_get _ e q
      have gk : ∀ (l : List Addr), (∀ x ∈ l, x ∈ as1 ∨ h1.objs.size ≤ x) → ∀ b o, g.get? b = some o → (hideAll h₁ l).get? b = some o := fun l hl b o e => hin (up b o (D1.keep b o e)) fun q => by
        rcases hl b q with z | z
        · exact D1.notIn e z
        · exact absurd (Heap.lt_size (D1.keep b o e)) (Nat.not_lt.mpr z)
      have hl1 : ∀ x ∈ (h1.objs.size + 2) :: h1.objs.size :: (h1.objs.size + 1) :: as1, x ∈ as1 ∨ h1.objs.size ≤ x := fun x hx => by
        rcases List.mem_cons.mp hx with z | hx
        · right; omega
        rcases List.mem_cons.mp hx with z | hx
        · right; omega
        rcases List.mem_cons.mp hx with z | hx
        · right; omega
        exact .inl hx
      have hl2 : ∀ x ∈ (h1.objs.size + 2) :: as1, x ∈ as1 ∨ h1.objs.size ≤ x := fun x hx => by
        rcases List.mem_cons.mp hx with z | hx
        · right; omega
        exact .inl hx
      obtain ⟨oL, esL, epL, hoL, hdL, hkL, hfL⟩ := D1.ns
      have hLs := Heap.lt_size hoL
      have hLas : env.locals ∉ as1 := fun q => (D1.fresh _ q).2 rfl
      have EO' : ∀ (l : List Addr), (∀ x ∈ l, x ∈ as1 ∨ h1.objs.size ≤ x) → EnvOk (hideAll h₁ l) (compFrame cs (clOf env cs.names []) (h1.objs.size + 2) env) := fun l hl =>
        ⟨hkind, EO.globals, EO.builtins, fun x ca e => by
          obtain ⟨o, ho⟩ := EO.cells x ca (cl1 x ca e)
          exact ⟨o, gk l hl _ _ ho⟩⟩
      refine ⟨hideAll h₁ ((h1.objs.size + 2) :: h1.objs.size :: (h1.objs.size + 1) :: as1), gk _ hl1, fun o e => hin (up _ _ e) (fun q => ?_), hideAll_none _ (.tail _ (.head _)), hideAll_none _ (.tail _ (.tail _ (.head _))), Nat.ne_of_gt (Nat.lt_succ_of_lt hLs), Nat.ne_of_lt (Nat.lt_succ_self _), Nat.ne_of_lt (Nat.lt_succ_self _), EO' _ hl1, ?_⟩
      · rcases hl1 _ q with z | z
        · exact hLas z
        · exact absurd hLs (Nat.not_lt.mpr z)
      · -- the state
        have loc : ∃ zs', All2 (LR c (hideAll h₁ ((h1.objs.size + 2) :: as1)) as1 (compFrame cs (clOf env cs.names []) (h1.objs.size + 2) env) (fun _ => none)) (cellsOf cs.names st1.l) zs' := by
          refine All2.make fun p hp => ?_
          obtain ⟨hp1, hp2⟩ := cellsOf_mem hp
          obtain ⟨y, q1, q2, q3⟩ := D1.loc.mem hp1
          obtain ⟨hc1, hc2⟩ := hfree (p.1, .free) (lget_mem hp2) rfl
          rcases q3 with ⟨q, _⟩ | ⟨_, ca, o, e1, e2, e3⟩
          · have : env.kindOf p.1 = some .cell := (lget_lookup p.1 _).symm.trans hc1
            rw [q] at this; cases this
          · refine ⟨y, q1, q2, .inr ⟨?_, ca, o, cl2 _ _ (lget_mem hp2) e1, gk _ hl2 _ _ e2, e3⟩⟩
            show (PySem.relabel cs env).names.lookup p.1 = some .cell
            rw [relabel_is EO.kind]
            exact lookup_free hc1 hp2
        obtain ⟨zs', loc⟩ := loc
        have sub : ∀ b o, (hideAll h₁ ((h1.objs.size + 2) :: h1.objs.size :: (h1.objs.size + 1) :: as1)).get? b = some o → (hideAll h₁ ((h1.objs.size + 2) :: as1)).get? b = some o := fun b o e => by
          refine hin (of_hideAll _ e) fun q => ?_
          rcases List.mem_cons.mp q with z | z
          · rw [z, hideAll_none _ (.head _)] at e; cases e
          · rw [hideAll_none _ (.tail _ (.tail _ (.tail _ z)))] at e; cases e
        have nI : h1.objs.size ∉ (h1.objs.size + 2) :: as1 := fun q => by
          rcases List.mem_cons.mp q with z | z
          · exact absurd z (Nat.ne_of_lt (Nat.lt_add_of_pos_right Nat.two_pos))
          · exact absurd (asL _ z) (Nat.lt_irrefl _)
        have nD : h1.objs.size + 1 ∉ (h1.objs.size + 2) :: as1 := fun q => by
          rcases List.mem_cons.mp q with z | z
          · exact absurd z (Nat.ne_of_lt (Nat.lt_succ_self _))
          · exact absurd (asL _ z) (Nat.not_lt.mpr (Nat.le_succ _))
        refine ⟨hideAll h₁ ((h1.objs.size + 2) :: as1), _, zs', sub, hin hI nI, hin hDD nD, ⟨fun b o e => of_hideAll _ e, D1.len, D1.nodup, fun i o a e1 e2 => let ⟨ob, y, z⟩ := D1.objs i o a e1 e2; ⟨ob, up _ _ y, z⟩, fun a ha => ⟨hideAll_none _ (.tail _ ha), fun e => ?_⟩, hideAll_none _ (.head _), hns, loc, (loc_vals D1.loc).append D1.stk, ?_⟩⟩
        · have := asL _ ha
          have e : a = h1.objs.size + 2 := e
          exact absurd this (Nat.not_lt.mpr (by rw [e]; exact Nat.le_add_right _ _))
        · show Mine.relabel st1.sc cs.names = (PySem.relabel cs env).names
          rw [relabel_is EO.kind, D1.sc]
    dsimp only at hk1
    split at hk1
    · rename_i i
      obtain ⟨a, ha, rfl⟩ := hv
      split at hk1
      · rename_i lo hi kn e1
        obtain ⟨e2, hk1⟩ := need_elim hk1
        rw [Bool.and_eq_true] at e2
        obtain ⟨a', ob, ha', hob, t1, t2, t3, rfl⟩ := D1.obj e1
        rw [ha] at ha'; cases ha'
        refine wpN_any (wpAny_pyIter_range (s := ⟨h1, s.gens, s.drawn, tk1, s.os⟩) (show IsRange h1 a lo hi 1 t1 t2 t3 from hob) (rngOk_is e2.1) ?_)
        rw [rangeSize_nat]
        refine wpN_any (wpAny_newList (?_ : _) (Nat.zero_le _))
        intro h₁ hns hsb
        obtain ⟨gB, gk, gL, gI, gD, hDL, hID, hDC, EOB, g₁, m₁, zs', sub, hgI, hgD, DC⟩ := key (rngIt lo ((hi - lo).toNat : Int)) rfl h₁ hns hsb
        have loop : codeN (MD c) (A.mark none) (.compLoop (.ListComp elt [⟨t, it, [], 0⟩] cs pos) 0 (.ref h1.objs.size) (.ref (h1.push (rngIt lo ((hi - lo).toNat : Int))).objs.size) (compFrame cs (clOf env cs.names []) (((h1.push (rngIt lo ((hi - lo).toNat : Int))).push (PySem.W.listOf (List.toArray []) 0)).objs.size) env))
            (fun _ s' => ∃ m, s'.heap.Ns (((h1.push (rngIt lo ((hi - lo).toNat : Int))).push (PySem.W.listOf (List.toArray []) 0)).objs.size) m ∧ ∀ h', Heap.SameBut (((h1.push (rngIt lo ((hi - lo).toNat : Int))).push (PySem.W.listOf (List.toArray []) 0)).objs.size) s'.heap h' → Q (.ref (h1.push (rngIt lo ((hi - lo).toNat : Int))).objs.size) { s' with heap := h' }) ⟨h₁, s.gens, s.drawn, tk1, s.os⟩ := by
          refine sCompGo TO S (G.keeps gk) EOB AM hID gI gD (s := ⟨h₁, s.gens, s.drawn, tk1, s.os⟩) (stepsR AM.handled _ kn _ lo) ⟨g₁, sub, hgI, hgD, as1, m₁, zs', DC⟩ .nil (by rw [rngL_length]; have := Nat.le_of_ble_eq_true e2.2; simpa using this) (fun as' m' zs' st2 xs us nn h' tk D2 hD hDC' hoD hi hx hk2 => ?_) (compN_is hk1)
          exact ⟨m', D2.ns, fun h'' hsb => comp_back D1 gk gL gD hDL D2 hD hDC' hoD hi hx hsb P hk2⟩
        exact codeN_compStart loop (wpN_any (wpAny_pyIter_rangeiter (DC.keep _ _ hgI) loop))
      · rename_i xs e1
        split at hk1
        · rename_i hlen
          obtain ⟨a', ob, ha', hob, us, nn, rfl, hall, hz⟩ := D1.obj e1
          rw [ha] at ha'; cases ha'
          refine wpN_any (wpAny_pyIter_list (s := ⟨h1, s.gens, s.drawn, tk1, s.os⟩) (items := List.toArray us) ⟨_, hob, rfl, nn, rfl⟩ ?_)
          refine wpN_any (wpAny_newList (?_ : _) (Nat.zero_le _))
          intro h₁ hns hsb
          obtain ⟨gB, gk, gL, gI, gD, hDL, hID, hDC, EOB, g₁, m₁, zs', sub, hgI, hgD, DC⟩ := key { cls := .type "list_iterator", data := .fields #[.ref a, .int 0 0] } rfl h₁ hns hsb
          have loop : codeN (MD c) (A.mark none) (.compLoop (.ListComp elt [⟨t, it, [], 0⟩] cs pos) 0 (.ref h1.objs.size) (.ref (h1.push { cls := .type "list_iterator", data := .fields #[.ref a, .int 0 0] }).objs.size) (compFrame cs (clOf env cs.names []) (((h1.push { cls := .type "list_iterator", data := .fields #[.ref a, .int 0 0] }).push (PySem.W.listOf (List.toArray []) 0)).objs.size) env))
              (fun _ s' => ∃ m, s'.heap.Ns (((h1.push { cls := .type "list_iterator", data := .fields #[.ref a, .int 0 0] }).push (PySem.W.listOf (List.toArray []) 0)).objs.size) m ∧ ∀ h', Heap.SameBut (((h1.push { cls := .type "list_iterator", data := .fields #[.ref a, .int 0 0] }).push (PySem.W.listOf (List.toArray []) 0)).objs.size) s'.heap h' → Q (.ref (h1.push { cls := .type "list_iterator", data := .fields #[.ref a, .int 0 0] }).objs.size) { s' with heap := h' }) ⟨h₁, s.gens, s.drawn, tk1, s.os⟩ := by
            refine sCompLst TO S (G.keeps gk) EOB AM hID gI gD (s := ⟨h₁, s.gens, s.drawn, tk1, s.os⟩) (a := a) (o := { cls := .type "list_iterator", data := .fields #[.ref a, .int 0 0] }) (j := 0) rfl rfl ⟨g₁, sub, hgI, hgD, as1, m₁, zs', DC.push (v := .obj i) ⟨a, ha, rfl⟩⟩ .nil (by have := Nat.le_of_ble_eq_true hlen; simp; omega) (fun as' m' zs' st2 xs us nn h' tk D2 hD hDC' hoD hi hx hk2 => ?_) hk1
            exact ⟨m', D2.ns, fun h'' hsb => comp_back D1 gk gL gD hDL D2 hD hDC' hoD hi hx hsb P hk2⟩
          exact codeN_compStart loop (wpN_any (wpAny_pyIter_listiter (l := a) (i := 0) ⟨_, DC.keep _ _ hgI, rfl, rfl⟩ loop))
        · exact hk1.elim
      · exact hk1.elim
    · exact hk1.elim
  · exact hk.elim
end
end Mine

end
/- S21 -/
section
open PySem PySem.W PyProof.Rows
namespace Mine
section
variable {c : Cx} {n r : Nat} {ih : Ev} {g : Heap} {env : Env} {A : Around}

theorem Inv.pop1 {ys : List Value} {st : St} {h : Heap} {x : Value} {k : KV} (D : Inv c g env (x :: ys) st h) (q : pop st k) : ∃ a st' as m zs, VR c.ro as a x ∧ InvD c g env as m zs ys st' h ∧ k a st' := by
  obtain ⟨as, m, zs, D⟩ := D
  obtain ⟨a, s', _, ha, D', hk⟩ := D.pop q
  exact ⟨a, _, as, m, zs, ha, D', hk⟩

theorem sChainE (TO : TabOk c) (S : Sound c n ih) (G : GOk c g) (EO : EnvOk g env) (AO : AOk A n) {pos : Pos} : ∀ {ops : List CmpOp} {rs : List Expr} {a : V} {x : Value} {ys : List Value} {st : St} {s : Shared} {as : List Addr} {m : Str → Option Value} {zs : List Value} {k : KV} {Q : Value → Shared → Prop},
    evCmp ih a ops rs st k → InvD c g env as m zs ys st s.heap → VR c.ro as a x → Post c g env ys k Q s → wpN (MD c) A (compareChain pos x ops (evalEach rs env)) Q s
  | [], _, _, _, _, _, _, _, _, _, _, _, hk, _, _, _ => by unfold evCmp at hk; exact hk.elim
  | [_], [], _, _, _, _, _, _, _, _, _, _, hk, _, _, _ => by unfold evCmp at hk; exact hk.elim
  | _ :: _ :: _, [], _, _, _, _, _, _, _, _, _, _, hk, _, _, _ => by unfold evCmp at hk; exact hk.elim
  | [_], _ :: _ :: _, _, _, _, _, _, _, _, _, _, _, hk, _, _, _ => by unfold evCmp at hk; exact hk.elim
  | _ :: _ :: _, [_], _, _, _, _, _, _, _, _, _, _, hk, _, _, _ => by unfold evCmp at hk; exact hk.elim
  | [op], [e], a, x, ys, st, s, as, m, zs, k, Q, hk, D, ha, P => by
    unfold evCmp at hk
    refine N_chain1 (S.e _ _ _ hk g env (x :: ys) A s _ G EO AO ⟨as, m, zs, D.push ha⟩ fun b st1 y h1 tk1 D1 hk1 => ?_)
    obtain ⟨as1, m1, zs1, D1, hb⟩ := D1.unpush
    obtain ⟨a', s', _, ha', D2, hk2⟩ := D1.pop hk1
    exact sCmp (s := ⟨h1, s.gens, s.drawn, tk1, s.os⟩) TO G AO D2 P ha' hb hk2
  | op :: op' :: ops, e :: e' :: rs, a, x, ys, st, s, as, m, zs, k, Q, hk, D, ha, P => by
    unfold evCmp at hk
    refine N_chain2 (S.e _ _ _ hk g env (x :: ys) A s _ G EO AO ⟨as, m, zs, D.push ha⟩ fun b st1 y h1 tk1 D1 hk1 => ?_)
    obtain ⟨as1, m1, zs1, D1, hb⟩ := D1.unpush
    obtain ⟨a', s', _, ha', D2, hk2⟩ := D1.pop hk1
    refine sCmp (s := ⟨h1, s.gens, s.drawn, tk1, s.os⟩) (ys := y :: ys) TO G AO (D2.push hb) (fun w st3 z h3 tk3 D3 hk3 => ?_) ha' hb hk2
    obtain ⟨as3, m3, zs3, D3, hw⟩ := D3.unpush
    refine wpN_any (sTruth (s := ⟨h3, s.gens, s.drawn, tk3, s.os⟩) hw hk3 fun t tk4 _ hk4 => ?_)
    obtain ⟨b', s4, _, hb', D4, hk5⟩ := D3.pop hk4
    cases t with
    | true => exact sChainE TO S G EO AO (s := ⟨h3, s.gens, s.drawn, tk4, s.os⟩) hk5 D4 hb' P
    | false => exact P _ _ _ _ _ ⟨as3, m3, zs3, D4.push hw⟩ hk5

theorem sChainT (TO : TabOk c) (S : Sound c n ih) (G : GOk c g) (EO : EnvOk g env) (AO : AOk A n) {pos : Pos} : ∀ {ops : List CmpOp} {rs : List Expr} {a : V} {x : Value} {ys : List Value} {st : St} {s : Shared} {as : List Addr} {m : Str → Option Value} {zs : List Value} {k : KB} {Q : Bool → Shared → Prop},
    tsCmp ih a ops rs st k → InvD c g env as m zs ys st s.heap → VR c.ro as a x → PostB c g env ys k Q s → wpN (MD c) A (testChain pos x ops (evalEach rs env)) Q s
  | [], _, _, _, _, _, _, _, _, _, _, _, hk, _, _, _ => by unfold tsCmp at hk; exact hk.elim
  | [_], [], _, _, _, _, _, _, _, _, _, _, hk, _, _, _ => by unfold tsCmp at hk; exact hk.elim
  | _ :: _ :: _, [], _, _, _, _, _, _, _, _, _, _, hk, _, _, _ => by unfold tsCmp at hk; exact hk.elim
  | [_], _ :: _ :: _, _, _, _, _, _, _, _, _, _, _, hk, _, _, _ => by unfold tsCmp at hk; exact hk.elim
  | _ :: _ :: _, [_], _, _, _, _, _, _, _, _, _, _, hk, _, _, _ => by unfold tsCmp at hk; exact hk.elim
  | [op], [e], a, x, ys, st, s, as, m, zs, k, Q, hk, D, ha, P => by
    unfold tsCmp at hk
    refine N_test1 (S.e _ _ _ hk g env (x :: ys) A s _ G EO AO ⟨as, m, zs, D.push ha⟩ fun b st1 y h1 tk1 D1 hk1 => ?_)
    obtain ⟨as1, m1, zs1, D1, hb⟩ := D1.unpush
    obtain ⟨a', s', _, ha', D2, hk2⟩ := D1.pop hk1
    refine sCmp (s := ⟨h1, s.gens, s.drawn, tk1, s.os⟩) (ys := ys) TO G AO D2 (fun w st3 z h3 tk3 D3 hk3 => ?_) ha' hb hk2
    obtain ⟨as3, m3, zs3, D3, hw⟩ := D3.unpush
    exact wpN_any (sTruth (s := ⟨h3, s.gens, s.drawn, tk3, s.os⟩) hw hk3 fun t tk4 _ hk4 => P _ _ _ _ ⟨as3, m3, zs3, D3⟩ hk4)
  | op :: op' :: ops, e :: e' :: rs, a, x, ys, st, s, as, m, zs, k, Q, hk, D, ha, P => by
    unfold tsCmp at hk
    refine N_test2 (S.e _ _ _ hk g env (x :: ys) A s _ G EO AO ⟨as, m, zs, D.push ha⟩ fun b st1 y h1 tk1 D1 hk1 => ?_)
    obtain ⟨as1, m1, zs1, D1, hb⟩ := D1.unpush
    obtain ⟨a', s', _, ha', D2, hk2⟩ := D1.pop hk1
    refine sCmp (s := ⟨h1, s.gens, s.drawn, tk1, s.os⟩) (ys := y :: ys) TO G AO (D2.push hb) (fun w st3 z h3 tk3 D3 hk3 => ?_) ha' hb hk2
    obtain ⟨as3, m3, zs3, D3, hw⟩ := D3.unpush
    refine wpN_any (sTruth (s := ⟨h3, s.gens, s.drawn, tk3, s.os⟩) hw hk3 fun t tk4 _ hk4 => ?_)
    obtain ⟨b', s4, _, hb', D4, hk5⟩ := D3.pop hk4
    cases t with
    | true => exact sChainT TO S G EO AO (s := ⟨h3, s.gens, s.drawn, tk4, s.os⟩) hk5 D4 hb' P
    | false => exact P _ _ _ _ ⟨as3, m3, zs3, D4⟩ hk5

theorem sBoolE (S : Sound c n ih) (G : GOk c g) (EO : EnvOk g env) (AO : AOk A n) {op : BoolOp} {pos : Pos} : ∀ {es : List Expr} {ys : List Value} {st : St} {s : Shared} {k : KV} {Q : Value → Shared → Prop},
    evBool ih op es st k → Inv c g env ys st s.heap → Post c g env ys k Q s → wpN (MD c) A (eval (.BoolOp op es pos) env) Q s
  | [], _, _, _, _, _, hk, _, _ => by unfold evBool at hk; exact hk.elim
  | [e], ys, st, s, k, Q, hk, D, P => by
    unfold evBool at hk
    exact N_BoolOp1 (S.e _ _ _ hk g env ys A s _ G EO AO D P)
  | e :: e' :: rest, ys, st, s, k, Q, hk, D, P => by
    unfold evBool at hk
    refine N_BoolOp2 (S.e _ _ _ hk g env ys A s _ G EO AO D fun v st1 y h1 tk1 D1 hk1 => ?_)
    obtain ⟨as1, m1, zs1, D1, hv⟩ := D1.unpush
    refine wpN_any (sTruth (s := ⟨h1, s.gens, s.drawn, tk1, s.os⟩) hv hk1 fun t tk2 hsb hk2 => ?_)
    have hvt : VR c.ro as1 (match (generalizing := false) v with | .sbool _ => .bool t | v => v) y := by
      cases v with
      | sbool b => have := hsb b rfl; subst this; exact hv
      | _ => exact hv
    cases op with
    | And => cases t with
      | true => exact sBoolE S G EO AO (s := ⟨h1, s.gens, s.drawn, tk2, s.os⟩) hk2 ⟨as1, m1, zs1, D1⟩ P
      | false => exact P _ _ _ _ _ ⟨as1, m1, zs1, D1.push hvt⟩ hk2
    | Or => cases t with
      | true => exact P _ _ _ _ _ ⟨as1, m1, zs1, D1.push hvt⟩ hk2
      | false => exact sBoolE S G EO AO (s := ⟨h1, s.gens, s.drawn, tk2, s.os⟩) hk2 ⟨as1, m1, zs1, D1⟩ P
theorem sBoolT (S : Sound c n ih) (G : GOk c g) (EO : EnvOk g env) (AO : AOk A n) {op : BoolOp} : ∀ {es : List Expr} {ys : List Value} {st : St} {s : Shared} {k : KB} {Q : Bool → Shared → Prop},
    tsBool ih op es st k → Inv c g env ys st s.heap → PostB c g env ys k Q s → wpN (MD c) A (allTrue op es env) Q s
  | [], ys, st, s, k, Q, hk, D, P => by
    unfold tsBool at hk
    refine N_allNil ?_
    cases op <;> exact P _ st s.heap s.toks D hk
  | e :: rest, ys, st, s, k, Q, hk, D, P => by
    unfold tsBool at hk
    refine N_allCons (S.t _ _ _ hk g env ys A s _ G EO AO D fun t st1 h1 tk1 D1 hk1 => ?_)
    cases op with
    | And => cases t with
      | true => exact sBoolT S G EO AO (s := ⟨h1, s.gens, s.drawn, tk1, s.os⟩) hk1 D1 P
      | false => exact P _ _ _ _ D1 hk1
    | Or => cases t with
      | true => exact P _ _ _ _ D1 hk1
      | false => exact sBoolT S G EO AO (s := ⟨h1, s.gens, s.drawn, tk1, s.os⟩) hk1 D1 P

theorem sArgsL (S : Sound c n ih) (G : GOk c g) (EO : EnvOk g env) (AO : AOk A n) {pos : Pos} : ∀ {es : List Expr} {ys : List Value} {st : St} {s : Shared} {k : List V → St → Prop} {Q : List Value → Shared → Prop}, evArgs ih es st k → Inv c g env ys st s.heap →
    (∀ vs xs st' as m zs h' tk, InvD c g env as m zs ys st' h' → All2 (VR c.ro as) vs xs → vs.length = es.length → k vs st' → Q xs ⟨h', s.gens, s.drawn, tk, s.os⟩) → wpN (MD c) A (spliced (backTo pos (starEach es env))) Q s
  | [], ys, st, s, k, Q, hk, ⟨as, m, zs, D⟩, P => N_spliced_nil (P [] [] st as m zs s.heap s.toks D .nil rfl hk)
  | e :: r, ys, st, s, k, Q, hk, D, P => by
    unfold evArgs at hk
    cases he : isStar e with
    | true => rw [he] at hk; exact hk.elim
    | false =>
      rw [he] at hk
      refine N_spliced_cons he (S.e _ _ _ hk g env ys A s _ G EO AO D fun v st1 y h1 tk1 D1 hk1 => ?_)
      refine sArgsL S G EO AO (s := ⟨h1, s.gens, s.drawn, tk1, s.os⟩) hk1 D1 fun vs xs st2 as2 m2 zs2 h2 tk2 D2 hvs hl hk2 => ?_
      obtain ⟨v', s', _, hv, D3, hk3⟩ := D2.pop hk2
      exact P _ _ _ _ _ _ _ _ D3 (.cons hv hvs) (by simp [hl]) hk3

variable {ys : List Value} {st : St} {s : Shared}

theorem sE (TO : TabOk c) (SO : SpecOk c r) (hr : r ≤ n + 1) (S : Sound c n ih) (G : GOk c g) (EO : EnvOk g env) (AO2 : AOk A (n + 2)) (I : Inv c g env ys st s.heap) {x : Expr} {k : KV} {Q : Value → Shared → Prop} (P : Post c g env ys k Q s) (hk : evE c.T ih x st k) : wpN (MD c) A (eval x env) Q s := by
  have AO : AOk A n := AO2.less (by omega)
  obtain ⟨as, m, zs, D⟩ := I
  cases x with
  | Constant cc kk pos =>
    cases cc with
    | none => exact wpN_any (Constant_none (D.ret P (v := .none) rfl hk))
    | bool b => exact wpN_any (Constant_bool (D.ret P (v := .bool b) rfl hk))
    | int i => exact wpN_any (wpAny_Constant_int (D.ret P (v := .int i) ⟨_, rfl⟩ hk))
    | str a => exact wpN_any (wpAny_Constant_str (D.ret P (v := .str a) ⟨_, rfl⟩ hk))
    | _ => exact (show False from hk).elim
  | Name x pos => exact sName TO G EO D P hk
  | Attribute o a pos =>
    have hk : (match noSup o with | true => ih.e o st fun v st1 => getAttr c.T v a st1 k | false => False) := hk
    cases hn : noSup o with
    | false => rw [hn] at hk; exact hk.elim
    | true =>
      rw [hn] at hk
      refine N_Attribute hn (S.e _ _ _ hk g env ys A s _ G EO AO ⟨as, m, zs, D⟩ fun v st1 y h1 tk1 D1 hk1 => ?_)
      obtain ⟨as1, m1, zs1, D1, hv⟩ := D1.unpush
      exact sGetAttr (s := ⟨h1, s.gens, s.drawn, tk1, s.os⟩) TO G D1 hv P hk1
  | Call f es kws pos =>
    cases kws with
    | cons _ _ => exact (show False from hk).elim
    | nil =>
    cases hA : isAttrE f with
    | true =>
      cases f with
      | Attribute o mm ap =>
        have hk : (match noSup o && (Nat.blt es.length 30 && (Nat.beq ap.endLine pos.line && !(es.any isStar))) with
          | true => ih.e o st fun ov st1 => match findMeth c.T ov mm st1 with
            | some mt => evArgs ih es (push ov st1) fun vs st2 => pop st2 fun ov st3 => callMt c.T ih mt ov vs st3 k
            | none => False
          | false => False) := hk
        cases hg : noSup o && (Nat.blt es.length 30 && (Nat.beq ap.endLine pos.line && !(es.any isStar))) with
        | false => rw [hg] at hk; exact hk.elim
        | true =>
          rw [hg] at hk
          rw [Bool.and_eq_true, Bool.and_eq_true, Bool.and_eq_true] at hg
          obtain ⟨g1, g2, g3, g4⟩ := hg
          have g4 : es.any isStar = false := by cases q : es.any isStar with | false => rfl | true => rw [q] at g4; cases g4
          refine N_CallMeth g1 g4 (Nat.le_of_ble_eq_true g2) (Nat.eq_of_beq_eq_true g3) (S.e _ _ _ hk g env ys A s _ G EO AO ⟨as, m, zs, D⟩ fun v st1 y h1 tk1 D1 hk1 => ?_)
          obtain ⟨as1, m1, zs1, D1, hv⟩ := D1.unpush
          dsimp only at hk1
          split at hk1
          · rename_i mt hmt
            refine sMeth (s := ⟨h1, s.gens, s.drawn, tk1, s.os⟩) TO G D1 hv hmt fun ff hff => ?_
            refine N_callWith g4 (sArgs (s := ⟨h1, s.gens, s.drawn, tk1, s.os⟩) S G EO AO hk1 ⟨as1, m1, zs1, D1.push hv⟩ fun vs xs st2 as2 m2 zs2 h2 tk2 D2 hvs hk2 => ?_)
            obtain ⟨ov, s3, _, hov, D3, hk3⟩ := D2.pop hk2
            exact ⟨keeper_mt (s := ⟨h2, s.gens, s.drawn, tk2, s.os⟩) G D3 hff, sCallMt (s := ⟨h2, s.gens, s.drawn, tk2, s.os⟩) TO SO hr S G AO2 EO D3 hov hvs hff P hk3⟩
          · exact hk1.elim
      | _ => exact absurd hA (by simp [isAttrE])
    | false =>
      have hk : (match es.any isStar with
        | true => False
        | false => ih.e f st fun fv st1 => match callableV c.T fv with
          | true => evArgs ih es (push fv st1) fun vs st2 => pop st2 fun fv st3 => ih.call fv vs st3 k
          | false => False) := by
        cases f <;> first | exact hk | (exact absurd hA (by simp [isAttrE]))
      cases g4 : es.any isStar with
      | true => rw [g4] at hk; exact hk.elim
      | false =>
        rw [g4] at hk
        refine N_Call hA (S.e _ _ _ hk g env ys A s _ G EO AO ⟨as, m, zs, D⟩ fun v st1 y h1 tk1 D1 hk1 => ?_)
        obtain ⟨as1, m1, zs1, D1, hv⟩ := D1.unpush
        dsimp only at hk1
        cases hc : callableV c.T v with
        | false => rw [hc] at hk1; exact hk1.elim
        | true =>
          rw [hc] at hk1
          refine N_callWith g4 (sArgs (s := ⟨h1, s.gens, s.drawn, tk1, s.os⟩) S G EO AO hk1 ⟨as1, m1, zs1, D1.push hv⟩ fun vs xs st2 as2 m2 zs2 h2 tk2 D2 hvs hk2 => ?_)
          obtain ⟨fv, s3, he, hfv, D3, hk3⟩ := D2.pop hk2
          have hnf : ∃ fv' , VR c.ro as2 fv' y ∧ callableV c.T fv' = true := by
            cases v with
            | bi b => exact ⟨.bi b, hv, hc⟩
            | top a => exact ⟨.top a, hv, hc⟩
            | _ => cases hc
          obtain ⟨fv', hfv', hc'⟩ := hnf
          exact ⟨keeper_ok (s := ⟨h2, s.gens, s.drawn, tk2, s.os⟩) TO G D3 hfv' hc', S.call _ _ _ _ hk3 g env ys A ⟨h2, s.gens, s.drawn, tk2, s.os⟩ Q y xs as2 m2 zs2 G EO AO D3 hfv hvs P⟩
  | Subscript o i pos =>
    have hsl : ∀ lo hi st' p', i = .Slice lo hi st' p' → wpN (MD c) A (eval (.Subscript o i pos) env) Q s := by
      intro lo hi st' p' e
      subst e
      cases st' with
      | some _ => exact (show False from hk).elim
      | none =>
        have hk : ih.e o st fun ov st1 => (match (generalizing := false) lo, hi with
          | none, some h => ih.e h (push ov st1) fun hv st2 => pop st2 fun ov st3 => getSlice ov none (some hv) st3 k
          | some l, none => ih.e l (push ov st1) fun lv st2 => pop st2 fun ov st3 => getSlice ov (some lv) none st3 k
          | _, _ => False) := hk
        refine N_Subscript (S.e _ _ _ hk g env ys A s _ G EO AO ⟨as, m, zs, D⟩ fun v st1 y h1 tk1 D1 hk1 => ?_)
        obtain ⟨as1, m1, zs1, D1, hv⟩ := D1.unpush
        cases lo with
        | none =>
          cases hi with
          | none => exact hk1.elim
          | some h =>
            refine N_Slice (s := ⟨h1, s.gens, s.drawn, tk1, s.os⟩) ?_
            show wpN _ _ (eval h env) _ _
            refine S.e _ _ _ hk1 g env (y :: ys) A ⟨h1, s.gens, s.drawn, tk1, s.os⟩ _ G EO AO ⟨as1, m1, zs1, D1.push hv⟩ fun u st2 z h2 tk2 D2 hk2 => ?_
            obtain ⟨as2, m2, zs2, D2, hu⟩ := D2.unpush
            obtain ⟨ov, s3, _, hov, D3, hk3⟩ := D2.pop hk2
            exact sGetSlice (s := ⟨h2, s.gens, s.drawn, tk2, s.os⟩) G D3 P hov (lo := none) rfl (hi := some u) hu hk3
        | some l =>
          cases hi with
          | some _ => exact hk1.elim
          | none =>
            refine N_Slice (s := ⟨h1, s.gens, s.drawn, tk1, s.os⟩) ?_
            show wpN _ _ (eval l env) _ _
            refine S.e _ _ _ hk1 g env (y :: ys) A ⟨h1, s.gens, s.drawn, tk1, s.os⟩ _ G EO AO ⟨as1, m1, zs1, D1.push hv⟩ fun u st2 z h2 tk2 D2 hk2 => ?_
            obtain ⟨as2, m2, zs2, D2, hu⟩ := D2.unpush
            obtain ⟨ov, s3, _, hov, D3, hk3⟩ := D2.pop hk2
            exact sGetSlice (s := ⟨h2, s.gens, s.drawn, tk2, s.os⟩) G D3 P hov (lo := some u) hu (hi := none) rfl hk3
    cases hi : isSlice i with
    | true =>
      cases i with
      | Slice lo hi st' p' => exact hsl _ _ _ _ rfl
      | _ => exact absurd hi (by simp [isSlice])
    | false =>
      have hk : (match isSlice i with
        | true => False
        | false => ih.e o st fun ov st1 => ih.e i (push ov st1) fun iv st2 => pop st2 fun ov st3 => getItem ov iv st3 k) := by
        cases i <;> first | exact hk | (exact absurd hi (by simp [isSlice]))
      rw [hi] at hk
      refine N_Subscript (S.e _ _ _ hk g env ys A s _ G EO AO ⟨as, m, zs, D⟩ fun v st1 y h1 tk1 D1 hk1 => ?_)
      obtain ⟨as1, m1, zs1, D1, hv⟩ := D1.unpush
      refine S.e _ _ _ hk1 g env (y :: ys) A ⟨h1, s.gens, s.drawn, tk1, s.os⟩ _ G EO AO ⟨as1, m1, zs1, D1.push hv⟩ fun u st2 z h2 tk2 D2 hk2 => ?_
      obtain ⟨as2, m2, zs2, D2, hu⟩ := D2.unpush
      obtain ⟨ov, s3, _, hov, D3, hk3⟩ := D2.pop hk2
      exact sGetItem (s := ⟨h2, s.gens, s.drawn, tk2, s.os⟩) D3 P hov hu hk3
  | BinOp l op e pos =>
    have hk : ih.e l st fun a st1 => ih.e e (push a st1) fun b st2 => pop st2 fun a st3 => binop op a b st3 k := hk
    refine N_BinOp (S.e _ _ _ hk g env ys A s _ G EO AO ⟨as, m, zs, D⟩ fun v st1 y h1 tk1 D1 hk1 => ?_)
    obtain ⟨as1, m1, zs1, D1, hv⟩ := D1.unpush
    refine S.e _ _ _ hk1 g env (y :: ys) A ⟨h1, s.gens, s.drawn, tk1, s.os⟩ _ G EO AO ⟨as1, m1, zs1, D1.push hv⟩ fun u st2 z h2 tk2 D2 hk2 => ?_
    obtain ⟨as2, m2, zs2, D2, hu⟩ := D2.unpush
    obtain ⟨ov, s3, _, hov, D3, hk3⟩ := D2.pop hk2
    exact sBinop (s := ⟨h2, s.gens, s.drawn, tk2, s.os⟩) D3 P hov hu hk3
  | UnaryOp op e pos =>
    have hk : ih.e e st fun a st1 => unop op a st1 k := hk
    refine N_UnaryOp (S.e _ _ _ hk g env ys A s _ G EO AO ⟨as, m, zs, D⟩ fun v st1 y h1 tk1 D1 hk1 => ?_)
    obtain ⟨as1, m1, zs1, D1, hv⟩ := D1.unpush
    exact sUnop (s := ⟨h1, s.gens, s.drawn, tk1, s.os⟩) D1 P hv hk1
  | Compare l ops rs pos =>
    have hk : (match rs.any isSetE with
      | true => False
      | false => ih.e l st fun a st1 => evCmp ih a ops rs st1 k) := hk
    cases hs : rs.any isSetE with
    | true => rw [hs] at hk; exact hk.elim
    | false =>
      rw [hs] at hk
      refine N_Compare hs (S.e _ _ _ hk g env ys A s _ G EO AO ⟨as, m, zs, D⟩ fun v st1 y h1 tk1 D1 hk1 => ?_)
      obtain ⟨as1, m1, zs1, D1, hv⟩ := D1.unpush
      exact sChainE (s := ⟨h1, s.gens, s.drawn, tk1, s.os⟩) TO S G EO AO hk1 D1 hv P
  | BoolOp op es pos => exact sBoolE S G EO AO (show evBool ih op es st k from hk) ⟨as, m, zs, D⟩ P
  | IfExp t a b pos =>
    have hk : ih.t t st fun c st1 => (match c with
      | true => ih.e a st1 k
      | false => ih.e b st1 k) := hk
    refine N_IfExp (S.t _ _ _ hk g env ys A s _ G EO AO ⟨as, m, zs, D⟩ fun t st1 h1 tk1 D1 hk1 => ?_)
    cases t with
    | true => exact S.e _ _ _ hk1 g env ys A ⟨h1, s.gens, s.drawn, tk1, s.os⟩ _ G EO AO D1 P
    | false => exact S.e _ _ _ hk1 g env ys A ⟨h1, s.gens, s.drawn, tk1, s.os⟩ _ G EO AO D1 P
  | Tuple es kk pos =>
    have hk : (match Nat.ble es.length 900 with
      | true => evArgs ih es st fun vs st1 => new (.tup vs) st1 k
      | false => False) := hk
    cases hl : Nat.ble es.length 900 with
    | false => rw [hl] at hk; exact hk.elim
    | true =>
      rw [hl] at hk
      refine N_Tuple (sArgsL S G EO AO hk ⟨as, m, zs, D⟩ fun vs xs st1 as1 m1 zs1 h1 tk1 D1 hvs hln hk1 => ?_)
      exact sNewTuple (s := ⟨h1, s.gens, s.drawn, tk1, s.os⟩) D1 P hvs (by have := Nat.le_of_ble_eq_true hl; omega) hk1
  | List es pos =>
    cases es with
    | nil => exact N_List (N_spliced_nil (sNewNil D P hk))
    | cons e r =>
      have hk : (match Nat.ble (e :: r).length 900 with
        | true => evArgs ih (e :: r) st fun vs st1 => new (.list vs) st1 k
        | false => False) := hk
      cases hl : Nat.ble (e :: r).length 900 with
      | false => rw [hl] at hk; exact hk.elim
      | true =>
        rw [hl] at hk
        refine N_List (sArgsL S G EO AO hk ⟨as, m, zs, D⟩ fun vs xs st1 as1 m1 zs1 h1 tk1 D1 hvs hln hk1 => ?_)
        exact sNewList (s := ⟨h1, s.gens, s.drawn, tk1, s.os⟩) D1 P hvs (by have := Nat.le_of_ble_eq_true hl; omega) hk1
  | Dict ks es pos =>
    have hk : (match strKs ks with
      | some as => match Nat.beq as.length es.length && Nat.ble es.length 15 with
        | true => evArgs ih es st fun vs st1 => new (.dict (lsets [] (as.zip vs))) st1 k
        | false => False
      | none => False) := hk
    split at hk
    · rename_i ns e1
      split at hk
      · rename_i e2
        rw [Bool.and_eq_true] at e2
        exact sDict S G EO AO e1 (Nat.eq_of_beq_eq_true e2.1) (Nat.le_of_ble_eq_true e2.2) D P hk
      · exact hk.elim
    · exact hk.elim
  | ListComp elt gens cs pos =>
    match gens, hk with
    | [], hk => exact (show False from hk).elim
    | ⟨t, it, _ :: _, _⟩ :: _ :: _, hk => exact (show False from hk).elim
    | ⟨t, it, [], .ofNat 0⟩ :: _ :: _, hk => exact (show False from hk).elim
    | ⟨t, it, [], .ofNat (_ + 1)⟩ :: _ :: _, hk => exact (show False from hk).elim
    | ⟨t, it, [], .negSucc _⟩ :: _ :: _, hk => exact (show False from hk).elim
    | [⟨t, it, _ :: _, _⟩], hk => exact (show False from hk).elim
    | [⟨t, it, [], .ofNat 0⟩], hk => exact sComp TO S G EO AO D P hk
    | [⟨t, it, [], .ofNat (_ + 1)⟩], hk => exact (show False from hk).elim
    | [⟨t, it, [], .negSucc _⟩], hk => exact (show False from hk).elim
  | _ => exact (show False from hk).elim

theorem sT (TO : TabOk c) (SO : SpecOk c r) (hr : r ≤ n + 1) (S : Sound c n ih) (G : GOk c g) (EO : EnvOk g env) (AO2 : AOk A (n + 2)) (I : Inv c g env ys st s.heap) {x : Expr} {k : KB} {Q : Bool → Shared → Prop} (P : PostB c g env ys k Q s) (hk : evT ih x st k) : wpN (MD c) A (isTrue x env (eval x env)) Q s := by
  have AO : AOk A n := AO2.less (by omega)
  have plain : testsPlain x = true → (ih.e x st fun v st1 => truth v fun b => k b st1) → wpN (MD c) A (isTrue x env (eval x env)) Q s := fun hp hk => by
    refine N_testPlain hp (S.e _ _ _ hk g env ys A s _ G EO AO I fun v st1 y h1 tk1 D1 hk1 => ?_)
    obtain ⟨as1, m1, zs1, D1, hv⟩ := D1.unpush
    exact wpN_any (sTruth (s := ⟨h1, s.gens, s.drawn, tk1, s.os⟩) hv hk1 fun t tk2 _ hk2 => P _ _ _ _ ⟨as1, m1, zs1, D1⟩ hk2)
  cases x with
  | UnaryOp op e pos =>
    cases op with
    | Not =>
      have hk : ih.t e st fun b st1 => k (!b) st1 := hk
      exact N_testNot (S.t _ _ _ hk g env ys A s _ G EO AO I fun t st1 h1 tk1 D1 hk1 => P _ _ _ _ D1 hk1)
    | _ => exact plain rfl hk
  | BoolOp op es pos => exact N_testBool (sBoolT S G EO AO (show tsBool ih op es st k from hk) I P)
  | Compare l ops rs pos =>
    have hk : (match rs.any isSetE with
      | true => False
      | false => ih.e l st fun a st1 => tsCmp ih a ops rs st1 k) := hk
    cases hs : rs.any isSetE with
    | true => rw [hs] at hk; exact hk.elim
    | false =>
      rw [hs] at hk
      refine N_testCompare hs (S.e _ _ _ hk g env ys A s _ G EO AO I fun v st1 y h1 tk1 D1 hk1 => ?_)
      obtain ⟨as1, m1, zs1, D1, hv⟩ := D1.unpush
      exact sChainT (s := ⟨h1, s.gens, s.drawn, tk1, s.os⟩) TO S G EO AO hk1 D1 hv P
  | IfExp t a b pos => exact (show False from hk).elim
  | _ => exact plain rfl hk

theorem interactive_no (EO : EnvOk g env) : interactive env = false := by
  unfold interactive
  rw [EO.kind]
  rfl

theorem sS (TO : TabOk c) (SO : SpecOk c r) (hr : r ≤ n + 1) (S : Sound c n ih) (G : GOk c g) (EO : EnvOk g env) (AO2 : AOk A (n + 2)) (I : Inv c g env ys st s.heap) {x : Stmt} {k : KF} {Q : Flow → Shared → Prop} (P : PostF c g env ys k Q s) (hk : evS c.T ih x st k) : wpN (MD c) A (exec x env) Q s := by
  have AO : AOk A n := AO2.less (by omega)
  cases x with
  | Expr e pos =>
    have hk : (match isComp e with
      | true => False
      | false => ih.e e st fun v st1 => match v with
        | .none => k .next st1
        | _ => False) := hk
    cases hc : isComp e with
    | true => rw [hc] at hk; exact hk.elim
    | false =>
      rw [hc] at hk
      refine N_Expr (interactive_no EO) hc (S.e _ _ _ hk g env ys A s _ G EO AO I fun v st1 y h1 tk1 D0 hk1 => ?_)
      obtain ⟨as1, m1, zs1, D1, hv⟩ := D0.unpush
      cases v with
      | none =>
        obtain rfl : y = _ := hv
        exact ⟨fun a e => (by cases e), P .next .next _ _ _ ⟨rfl, as1, m1, zs1, D1⟩ hk1⟩
      | _ => exact hk1.elim
  | Assign ts e pos =>
    match ts, hk with
    | [], hk => exact (show False from hk).elim
    | _ :: _ :: _, hk => exact (show False from hk).elim
    | [t], hk =>
      have hk : (match isComp e || (!(okSwap t e) || isStar t) with
        | true => False
        | false => ih.e e st fun v st1 => asg c.T ih t v st1 fun st2 => k .next st2) := hk
      cases hc : isComp e || (!(okSwap t e) || isStar t) with
      | true => rw [hc] at hk; exact hk.elim
      | false =>
        rw [hc] at hk
        rw [Bool.or_eq_false_iff, Bool.or_eq_false_iff] at hc
        obtain ⟨c1, c2, c3⟩ := hc
        refine N_Assign c1 c3 (S.e _ _ _ hk g env ys A s _ G EO AO I fun v st1 y h1 tk1 D1 hk1 => ?_)
        obtain ⟨as1, m1, zs1, D1, hv⟩ := D1.unpush
        exact sAssign (s := ⟨h1, s.gens, s.drawn, tk1, s.os⟩) TO S G EO AO D1 hv (by simpa using c2) (fun st2 h2 tk2 D2 hk2 => P .next .next _ _ _ ⟨rfl, D2⟩ hk2) hk1
  | If t b o pos =>
    have hk : ih.t t st fun c st1 => (match c with
      | true => ih.ss b st1 k
      | false => ih.ss o st1 k) := hk
    refine N_If (S.t _ _ _ hk g env ys A s _ G EO AO I fun t st1 h1 tk1 D1 hk1 => ?_)
    cases t with
    | true => exact S.ss _ _ _ hk1 g env ys A ⟨h1, s.gens, s.drawn, tk1, s.os⟩ _ G EO AO D1 P
    | false => exact S.ss _ _ _ hk1 g env ys A ⟨h1, s.gens, s.drawn, tk1, s.os⟩ _ G EO AO D1 P
  | For t it body orelse pos =>
    cases orelse with
    | cons _ _ => exact (show False from hk).elim
    | nil =>
      have hk : (match isSetE it with
        | true => False
        | false => ih.e it st fun v st1 => match v with
          | .obj i => match st1.H[i]? with
            | some (.rng lo hi kn) => need kn (rngOk lo hi) (collected c.T pos.line st1 fun st2 => forGo c.T ih t body (rngL (hi - lo).toNat lo kn) st2 k)
            | some (.list ys) => forLst c.T ih t body (ys.length + 1) 0 (push v st1) k
            | some (.il []) => k .next st1
            | _ => False
          | .bytes xs => forGo c.T ih t body (sints xs) st1 k
          | _ => False) := hk
      cases hs : isSetE it with
      | true => rw [hs] at hk; exact hk.elim
      | false =>
        rw [hs] at hk
        refine N_For hs (S.e _ _ _ hk g env ys A s _ G EO AO I fun v st1 y h1 tk1 D1 hk1 => ?_)
        obtain ⟨as1, m1, zs1, D1, hv⟩ := D1.unpush
        exact sFor (s := ⟨h1, s.gens, s.drawn, tk1, s.os⟩) TO S G EO AO D1 (nl := pos.line) hv P (by cases v <;> exact hk1)
  | Return e pos =>
    cases e with
    | none =>
      obtain ⟨as, m, zs, D⟩ := I
      exact N_Return0 (P (.ret .none) (.ret .none) st s.heap s.toks ⟨.none, rfl, as, m, zs, D.push (v := .none) rfl⟩ hk)
    | some e =>
      have hk : ih.e e st fun v st1 => k (.ret v) st1 := hk
      exact N_Return (S.e _ _ _ hk g env ys A s _ G EO AO I fun v st1 y h1 tk1 D1 hk1 => P (.ret v) (.ret y) _ _ _ ⟨y, rfl, D1⟩ hk1)
  | Try body hs orelse fin pos =>
    match orelse, fin, hk with
    | [], [], hk => exact N_Try (S.ss _ _ _ (show ih.ss body st k from hk) g env ys A s _ G EO AO I P)
    | _ :: _, _, hk => exact (show False from hk).elim
    | [], _ :: _, hk => exact (show False from hk).elim
  | _ => exact (show False from hk).elim

/-- behind a statement -/
theorem sAfter {T : Tab} {nl : Nat} {fl : Fl} {f : Flow} {k : KF} {h : Heap} (hfr : FR c g env ys fl f st h) (hk : after T nl fl st k) : ∃ fl' st', FR c g env ys fl' f st' h ∧ k fl' st' := by
  unfold after at hk
  cases fl with
  | next =>
    dsimp only at hk
    split at hk
    · exact ⟨_, _, hfr, hk⟩
    · split at hk
      · rename_i st' e
        obtain ⟨rfl, as, m, zs, D⟩ := hfr
        obtain ⟨zs, D⟩ := D.dropS (T := T) nl
        obtain ⟨as', D'⟩ := D.norm e
        exact ⟨.next, st', ⟨rfl, as', m, zs, D'⟩, hk⟩
      · exact hk.elim
  | ret v =>
    dsimp only at hk
    split at hk
    · exact hk.elim
    · split at hk
      · exact ⟨_, _, hfr, hk⟩
      · split at hk
        · rename_i st' e
          obtain ⟨y, rfl, as, m, zs, D⟩ := hfr
          obtain ⟨as, m, zs, D, hvy⟩ := Inv.unpush ⟨as, m, zs, D⟩
          obtain ⟨zs, D⟩ := D.dropS (T := T) nl
          obtain ⟨as', D'⟩ := (D.push hvy).norm e
          obtain ⟨w, s', he, hw, D2, hk2⟩ := D'.pop hk
          exact ⟨.ret w, _, ⟨y, rfl, as', m, zs, D2.push hw⟩, hk2⟩
        · exact hk.elim

theorem sSs (TO : TabOk c) (SO : SpecOk c r) (hr : r ≤ n + 1) (S : Sound c n ih) (G : GOk c g) (EO : EnvOk g env) (AO2 : AOk A (n + 2)) : ∀ {x : List Stmt} {st : St} {s : Shared} {k : KF} {Q : Flow → Shared → Prop}, Inv c g env ys st s.heap → PostF c g env ys k Q s → evSs c.T ih x st k → wpN (MD c) A (execs x env) Q s
  | [], st, s, k, Q, I, P, hk => by
    unfold evSs at hk
    exact N_nil (P .next .next st s.heap s.toks ⟨rfl, I⟩ hk)
  | x :: rest, st, s, k, Q, I, P, hk => by
    unfold evSs at hk
    refine N_cons (sS TO SO hr S G EO AO2 I (fun fl f st1 h1 tk1 hfr hk1 => ?_) hk)
    obtain ⟨fl', st2, hfr2, hk2⟩ := sAfter hfr hk1
    cases fl' with
    | next =>
      obtain ⟨rfl, I2⟩ := hfr2
      exact sSs TO SO hr S G EO AO2 (s := ⟨h1, s.gens, s.drawn, tk1, s.os⟩) I2 P hk2
    | ret v =>
      obtain ⟨y, rfl, I2⟩ := hfr2
      exact P (.ret v) (.ret y) st2 h1 tk1 ⟨y, rfl, I2⟩ hk2

theorem Sound.step (TO : TabOk c) (SO : SpecOk c r) (hr : r ≤ n + 1) (S : Sound c n ih) : Sound c (n + 2) (Mine.step c.T ih) where
  e := fun x st k hk g env ys A s Q G EO AO I P => sE TO SO hr S G EO AO I P hk
  t := fun x st k hk g env ys A s Q G EO AO I P => sT TO SO hr S G EO AO I P hk
  ss := fun x st k hk g env ys A s Q G EO AO I P => sSs TO SO hr S G EO AO I P hk
  call := fun f vs st k hk g env ys A s Q y xs as m zs G EO AO D hf hv P => sCallV TO SO hr S G AO EO D hf hv P hk

theorem Sound.nil : Sound c n Ev.nil where
  e := fun _ _ _ hk => hk.elim
  t := fun _ _ _ hk => hk.elim
  ss := fun _ _ _ hk => hk.elim
  call := fun _ _ _ _ hk => hk.elim
theorem Sound.ev (TO : TabOk c) (SO : SpecOk c r) : ∀ k : Nat, Sound c (2 * k + r) (ev c.T k)
  | 0 => Sound.nil
  | k + 1 => by
    have e : 2 * (k + 1) + r = 2 * k + r + 2 := by omega
    rw [e]
    exact Sound.step TO SO (n := 2 * k + r) (by omega) (Sound.ev TO SO k)
end
end Mine

end
/- H1 -/
section
open PySem PySem.W PySem.Calls PyProof.Rows
open PySem.Sem (wp)
namespace Mine

/-- the claim's caller -/
noncomputable abbrev callerC : Ctx := ⟨.builtin "claim.caller" {}, none, none, [], none⟩
/-- no built-in that holds octets stands at it or below it -/
theorem callerN : ND callerC := ⟨by decide +kernel, fun x hx => by cases hx⟩

/-- a call that returns well in the narrow logic, from the claim's caller, is a call as the claim asks for it -/
theorem callFromN {c : ClaimW} {tree : List Value → Sem Fin} {w : World} {s : Shared} {free : Addr → Prop} {gens : Prop} {kept : Heap → Prop} (awake : s.asleep) (none : s.gens = #[])
    (spec : ∀ args, c.pre args = true → WData.layableAll args = true → ∀ ord : List DictEntry → List DictEntry, (∀ l, (ord l).Perm l) →
      ∃ vs s₁, layAllW c.records (classAt s.heap) w.params ord args s = some (vs, s₁) ∧
        wpN (model c.prog w) callerA (tree vs) (fun fin s' => ∃ f, fin = .done f ∧ (c.Ends s args vs s₁ (.ok f) s' ∧ s'.os = s.os ∧ AllBare s'.gens ∧ kept s'.heap)) s₁) :
    c.CallFrom (fun vs => ⟨tree vs, .builtin "claim.caller" {}, default, []⟩) w free gens kept s := fun args pre lay ord perm => by
  obtain ⟨vs, s₁, laid, code⟩ := spec args pre lay ord perm
  have life := (layAllW_rest _ _ _ laid).2.2.2
  -- the run, as the library's logic has it
  have run := wp_halts_full (M := model c.prog w) (t := tree vs) (s := s₁) (R := fun r s' => ∃ f, r = .ok f ∧ c.Ends s args vs s₁ (.ok f) s' ∧ s'.os = s.os ∧ kept s'.heap) (Shared.asleep_of_life life awake)
    (Sem.wp_mono _ _ _ (fun fin p' s' z => by
      obtain ⟨f, rfl, z1, z2, z3, z4⟩ := z
      exact ⟨⟨f, rfl, z1, z2, z4⟩, leftWithCleanup_false_of_bare z3⟩) (fun _ _ _ z => z.elim) _ _ (code callerC default caller_in callerN))
  obtain ⟨k, _, s2, s', sched, halted, same, f, rfl, ends, os, kp⟩ := run
  obtain ⟨eh, _, _, eo, _⟩ := Shared.forget_eq same
  have ends := ends.congr eh
  rw [← eh] at kp
  rw [← eo] at os
  refine ⟨vs, s₁, laid, k, _, s', sched, ?_, fun _ i x hx => ?_, kp, ?_, Shared.rest_eq os⟩
  · rcases ends with ⟨v, e, d1, d2, d3, d4, d5⟩ | ⟨_, _, _, e, _⟩
    · cases e
      exact .inl ⟨v, rfl, d1, d2, d3, fun b o y _ => d4 b o y, d5⟩
    · cases e
  · rw [none] at hx
    simp at hx
  · rw [(runN_life _ _ _ halted).trans life]
end Mine

end
/- H2 -/
section
open PySem PySem.W PyProof.Rows
namespace Mine

section
variable {c : Cx} {A : Around} {s : Shared} {Q : Value → Shared → Prop} {n r : Nat} {ih : Ev} {k : KV}

/-- a call from outside: nothing is known but the arguments -/
theorem sTop (TO : TabOk c) (hsp : c.T.spec = []) (S : Sound c n ih) (G : GOk c s.heap) (AO : AOk A (n + 1)) {f : Nat} {vs : List V} {xs : List Value} {sc : List (Str × NameKind)} (hv : All2 (VR c.ro []) vs xs)
    (P : ∀ v st y h' tk as, (∀ b o, s.heap.get? b = some o → h'.get? b = some o) → VR c.ro as v y → k v st → Q y ⟨h', s.gens, s.drawn, tk, s.os⟩) (hk : callF c.T ih f vs ⟨[], [], [], sc⟩ k) :
    codeN (MD c) A (.call (.ref f) ⟨xs, []⟩) (isRet Q) s := by
  unfold callF at hk
  rw [hsp] at hk
  split at hk
  · rename_i sp e; cases e
  · split at hk
    · exact hk.elim
    · rename_i hf
      split at hk
      · rename_i fd hfd
        split at hk
        · rename_i body l hb hbind
          split at hk
          · rename_i hpar
            have FO := TO.fn f fd hf hfd
            obtain ⟨oc, od, osl, hat⟩ := FO.at_
            have H := G
            have hat' := H.K _ _ hat
            -- the defaults
            obtain ⟨ds, hds1, hds2⟩ : ∃ ds : Option (Array Value), All2 (VR c.ro []) ((aget f c.T.dfl).getD []) (ds.getD #[]).toList ∧ ∀ (M : Model) (A : Around) (E : Value → Shared → Prop) (Q : Option (Array Value) → Shared → Prop), Q ds s → wpAny M A (seqItems? fd.defaults) Q E s := by
              rcases FO.dfl with ⟨h1, h2⟩ | ⟨t, o, items, nn, h1, h2, h3, h4⟩
              · refine ⟨none, by rw [h2]; exact .nil, fun M A E Q hq => ?_⟩
                rw [h1]
                exact wpAny_pure hq
              · refine ⟨some items, h4, fun M A E Q hq => ?_⟩
                rw [h1]
                exact wpAny_seqItems (H.K _ _ h2) h3 hq
            have hdl := hds1.length
            have hxl := hv.length
            have hdlen := FO.dlen
            have hall : All2 (VR c.ro []) (withDfl fd.params.args.length vs ((aget f c.T.dfl).getD [])) (xs ++ (ds.getD #[]).toList.drop ((ds.getD #[]).toList.length - (fd.params.args.length - xs.length))) := by
              unfold withDfl
              rw [← hdl, ← hxl]
              have : ∀ {l : List V} {m : List Value} (k : Nat), All2 (VR c.ro []) l m → All2 (VR c.ro []) (l.drop k) (m.drop k) := by
                intro l m k h
                induction h generalizing k with
                | nil => simp; exact .nil
                | cons h1 h2 ih =>
                  cases k with
                  | zero => exact .cons h1 (ih 0)
                  | succ k => exact ih k
              exact hv.append (this _ hds1)
            obtain ⟨hl1, hl2, hl3⟩ := bindP_is hbind hall
            have hlen := hall.length
            rw [List.length_map] at hl1
            have hwl : (withDfl fd.params.args.length vs ((aget f c.T.dfl).getD [])).length = vs.length + (((aget f c.T.dfl).getD []).length - (((aget f c.T.dfl).getD []).length - (fd.params.args.length - vs.length))) := by
              unfold withDfl; rw [List.length_append, List.length_drop]
            have hB : BindsTo s fd ⟨xs, []⟩ ((fd.params.args.map (·.arg)).zip (xs ++ (ds.getD #[]).toList.drop ((ds.getD #[]).toList.length - ((fd.params.args.map (·.arg)).length - xs.length)))) :=
              binds_plain FO.pos FO.kwo FO.vararg FO.kwarg rfl FO.nodup (by rw [List.length_map]; omega) (by rw [List.length_map]; omega) (by rw [List.length_map]; omega) hds2
            rw [List.length_map] at hB
            generalize hbs : (fd.params.args.map (·.arg)).zip (xs ++ (ds.getD #[]).toList.drop ((ds.getD #[]).toList.length - (fd.params.args.length - xs.length))) = binds at hB hl3
            have hkeys : binds.map (·.1) = fd.params.args.map (·.arg) := by
              rw [← hl2]; exact binds_keys hl3
            have hbn : (binds.map (·.1)).Nodup := by rw [hkeys]; exact FO.nodup
            have hparam : ∀ x ∈ binds, (fd.scope.names.lookup x.1 = some .local ∨ fd.scope.names.lookup x.1 = some .cell) ∧ strEq x.1 ("__debug__" : Str) = false := by
              intro x hx
              have hx1 : x.1 ∈ l.map (·.1) := by rw [hl2, ← hkeys]; exact List.mem_map_of_mem hx
              obtain ⟨p, hp, e⟩ := List.mem_map.mp hx1
              have := List.all_eq_true.mp hpar p hp
              unfold okParam at this
              rw [lget_lookup, e] at this
              split at this
              · rename_i q; exact ⟨.inl q, by simpa using this⟩
              · rename_i q; exact ⟨.inr q, by simpa using this⟩
              · cases this
            have hkind : ∀ x ∈ binds, fd.scope.names.lookup x.1 = some .local ∨ (fd.scope.names.lookup x.1 = some .cell ∧ ((cellsFrom (s.heap.objs.size + 1) fd.scope.names []).lookup x.1).isSome = true) := fun x hx => by
              rcases (hparam x hx).1 with q | q
              · exact .inl q
              · exact .inr ⟨q, cellsFrom_has _ _ _ (.inl q)⟩
            refine codeN_call_cells (R := isRet Q) AO.room hat' rfl (H.T.nolimit) (codeRec_of H.K FO.code) hb hB FO.clo hkind (fun s₁ x => ?_) FO.co FO.gen FO.kind
            have hL : (callEnvC fd s.heap.objs.size f).locals = s.heap.objs.size := rfl
            have up : ∀ b o, s.heap.get? b = some o → s₁.heap.get? b = some o := x.toInCall.keep
            obtain ⟨h₁, tk₁, hs₁⟩ := x.toInCall.same
            have gk : ∀ b o, s.heap.get? b = some o → (hideAll s₁.heap [s.heap.objs.size]).get? b = some o := fun b o e =>
              hide_get (up b o e) (Nat.ne_of_lt (Heap.lt_size e)) fun q => by cases q
            have cells : ∀ y ca, (callEnvC fd s.heap.objs.size f).cells.lookup y = some ca → ∃ o, (hideAll s₁.heap [s.heap.objs.size]).get? ca = some o ∧ s₁.heap.get? ca = some o := fun y ca e => by
              obtain ⟨o, ho, _⟩ := x.cell y ca e
              have ha := x.above y ca (mem_of_lookup e)
              rw [hL] at ha
              exact ⟨o, hide_get ho (Nat.ne_of_gt ha) (fun q => by cases q), ho⟩
            have EO' : EnvOk (hideAll s₁.heap [s.heap.objs.size]) (callEnvC fd s.heap.objs.size f) := ⟨FO.kind, FO.glob, FO.blt, fun y ca e => let ⟨o, ho, _⟩ := cells y ca e; ⟨o, ho⟩⟩
            have G' : GOk c (hideAll s₁.heap [s.heap.objs.size]) := G.keeps gk
            have loc : ∃ zs', All2 (LR c (hideAll s₁.heap [s.heap.objs.size]) [] (callEnvC fd s.heap.objs.size f) (bindL (callEnvC fd s.heap.objs.size f).kindOf binds fun _ => none)) l zs' := by
              have gen : ∀ {l' : List (Str × V)} {bs : List (Str × Value)}, All2 (fun p b => p.1 = b.1 ∧ VR c.ro [] p.2 b.2) l' bs → (∀ b ∈ bs, b ∈ binds) → ∃ zs', All2 (LR c (hideAll s₁.heap [s.heap.objs.size]) [] (callEnvC fd s.heap.objs.size f) (bindL (callEnvC fd s.heap.objs.size f).kindOf binds fun _ => none)) l' zs' := by
                intro l' bs h
                induction h with
                | nil => intro _; exact ⟨[], .nil⟩
                | @cons p b l' bs h1 _ ih =>
                  intro hm
                  obtain ⟨zs', ih⟩ := ih fun b' hb' => hm b' (.tail _ hb')
                  have hbm := hm b (.head _)
                  obtain ⟨hk1, hk2⟩ := hparam b hbm
                  refine ⟨b.2 :: zs', .cons ⟨by rw [h1.1]; exact hk2, h1.2, ?_⟩ ih⟩
                  rw [h1.1]
                  rcases hk1 with q | q
                  · exact .inl ⟨q, bindL_at hbn hbm q⟩
                  · right
                    obtain ⟨ca, hca⟩ := Option.isSome_iff_exists.mp (cellsFrom_has fd.scope.names [] (s.heap.objs.size + 1) (.inl q))
                    obtain ⟨o, ho, ho'⟩ := cells b.1 ca hca
                    obtain ⟨o', ho'', hd⟩ := x.cell b.1 ca hca
                    rw [ho'] at ho''; cases ho''
                    have hq : (callEnvC fd s.heap.objs.size f).kindOf b.1 = some .cell := q
                    rw [bindC_at hbn hbm (by rw [hq]; decide)] at hd
                    exact ⟨q, ca, o, hca, ho, hd⟩
              exact gen hl3 fun _ h => h
            obtain ⟨zs', loc⟩ := loc
            have D' : InvD c (hideAll s₁.heap [s.heap.objs.size]) (callEnvC fd s.heap.objs.size f) [] (bindL (callEnvC fd s.heap.objs.size f).kindOf binds fun _ => none) zs' [] (enter ⟨[], [], [], sc⟩ l fd.scope.names) s₁.heap :=
              ⟨fun b o e => of_hideAll _ e, rfl, List.nodup_nil, fun i o a e1 e2 => (by simp at e2), fun a ha => (by cases ha), hideAll_none _ (.head _), x.toInCall.ns, loc, All2.nil, rfl⟩
            subst hs₁
            refine S.ss body _ _ hk _ _ _ _ _ _ G' EO' AO.deeper ⟨[], _, zs', D'⟩ fun fl fr st' h' tk hfr hlv => ?_
            have back : ∀ (v : V) (y : Value), Inv c (hideAll h₁ [s.heap.objs.size]) (callEnvC fd s.heap.objs.size f) (y :: []) (push v st') h' → leave ⟨[], [], [], sc⟩ v st' k → Q y ⟨h', s.gens, s.drawn, tk, s.os⟩ := by
              intro v y I hlv
              obtain ⟨as', m', zs'', D2, hvy⟩ := I.unpush
              exact P v _ y h' tk as' (fun b o e => D2.keep b o (gk b o e)) hvy hlv
            cases fl with
            | next =>
              obtain ⟨rfl, I⟩ := hfr
              obtain ⟨as', m', zs'', D2⟩ := I
              exact back .none .none ⟨as', m', zs'', D2.push (v := .none) rfl⟩ hlv
            | ret v =>
              obtain ⟨y, rfl, I⟩ := hfr
              exact back v y I hlv
          · exact hk.elim
        · exact hk.elim
      · exact hk.elim
end
end Mine

end
/- T1 -/
section
open PySem PySem.W PyProof.Rows
namespace Mine

noncomputable def Bi.nm : Bi → Str
  | .len => S "len"
  | .int_ => S "int"
  | .bytes => S "bytes"
  | .bytearray => S "bytearray"
  | .range => S "range"
  | .min => S "min"
  | .divmod => S "divmod"
  | .sorted => S "sorted"
theorem Bi.boot (b : Bi) : bootBuiltins b.nm = some b.val := by cases b <;> kernel_rfl
theorem Bi.nmNe (b : Bi) : strEq b.nm "__name__" = false := by cases b <;> kernel_rfl

noncomputable def globB (K : Frag) (p : Str × V) : Bool := !(strEq p.1 "__debug__") && match p.2 with
  | .top a => (match nsIn K mainGlobals p.1 with
    | some (some (.ref b)) => Nat.beq a b
    | _ => false)
  | .int i => (match nsIn K mainGlobals p.1 with
    | some (some (.int j _)) => eqB i j
    | _ => false)
  | .bi b => strEq p.1 b.nm && (match nsIn K mainGlobals p.1 with
    | some none => true
    | _ => false)
  | _ => false
noncomputable def isVal (a b : Option (Option Value)) : Bool := match a, b with
  | some (some (.ref x)), some (some (.ref y)) => Nat.beq x y
  | some none, some none => true
  | _, _ => false
noncomputable def fldB (K : Frag) (C : Nat) (a : Str) : Bool := (plainGet K C a && (hasDictIn K C && plainOver K C)) && ((match findIn K (.ref C) a with
  | some attr => noGet K attr
  | none => false) && (match takerIn K C a with
  | some none => true
  | _ => false))
noncomputable def mthB (K : Frag) (C : Nat) (p : Str × Nat) : Bool := (plainGet K C p.1 && (isFn K (.ref p.2) && keepIn K (.ref p.2))) && (match findIn K (.ref C) p.1 with
  | some (some (.ref f)) => Nat.beq p.2 f
  | _ => false)
noncomputable def conB (K : Frag) (mc : Value) (C : Nat) (p : Str × V) : Bool := readsIn K C mc && (match p.2, findCls K (.ref C) mc p.1 with
  | .int i, some (.val (.int j _)) => eqB i j
  | _, _ => false)
noncomputable def noneStr : Option Str → Bool
  | none => true
  | _ => false
noncomputable def noneArg : Option Arg → Bool
  | none => true
  | _ => false
noncomputable def strsNodup : List Str → Bool
  | [] => true
  | x :: r => (!(r.any fun y => strEq x y)) && strsNodup r
noncomputable def eqStrs : List Value → List V → Bool
  | [], [] => true
  | .int j _ :: r, .int i :: r' => eqB i j && eqStrs r r'
  | _, _ => false
noncomputable def dflB (K : Frag) (d : Value) (dv : List V) : Bool := match d with
  | .none => (match dv with | [] => true | _ => false)
  | .ref t => (match K.lookup t with
    | some ⟨_, _, .seq ⟨items⟩ _, _⟩ => eqStrs items dv
    | _ => false)
  | _ => false
noncomputable def fnB (K : Frag) (dfl : List (Nat × List V)) (f : Nat) : Bool := match K.lookup f with
  | some ⟨_, _, .func fd, _⟩ => (codeIn K fd.code fd.qualname && (fd.closure.isEmpty && (match fd.scope.kind with | .function => true | _ => false))) &&
    ((!fd.scope.isCoroutine && !fd.scope.isGenerator) && ((Nat.beq fd.globals mainGlobals && Nat.beq fd.builtins builtinsNs) &&
    ((fd.params.posonlyargs.isEmpty && fd.params.kwonlyargs.isEmpty) && ((noneArg fd.params.vararg && noneArg fd.params.kwarg) &&
    (strsNodup (fd.params.args.map (·.arg)) && (dflB K fd.defaults ((aget f dfl).getD []) && Nat.ble ((aget f dfl).getD []).length fd.params.args.length))))))
  | _ => false
noncomputable def iniB (K : Frag) (p : Nat × Nat) : Bool := (makesIn K p.1 && !(fnsT.any (Nat.beq p.1))) && ((match findIn K (.ref p.1) "__init__" with
  | some (some (.ref f)) => Nat.beq p.2 f
  | _ => false))

theorem aget_mem {α : Type} {x : Nat} {v : α} : ∀ {es : List (Nat × α)}, aget x es = some v → (x, v) ∈ es
  | p :: r, e => by
    unfold aget at e
    cases q : Nat.beq p.1 x with
    | true =>
      rw [q] at e; cases e
      rw [← Nat.eq_of_beq_eq_true q]; exact .head _
    | false => rw [q] at e; exact .tail _ (aget_mem e)
theorem strsNodup_is : ∀ {l : List Str}, strsNodup l = true → l.Nodup
  | [], _ => List.nodup_nil
  | x :: r, h => by
    unfold strsNodup at h
    obtain ⟨h1, h2⟩ := Bool.and_eq_true_iff.mp h
    rw [List.nodup_cons]
    refine ⟨fun hm => ?_, strsNodup_is h2⟩
    have : (r.any fun y => strEq x y) = true := List.any_eq_true.mpr ⟨x, hm, (strEq_iff _ _).mpr rfl⟩
    rw [this] at h1; cases h1
theorem eqStrs_is {g : Heap} : ∀ {ys : List Value} {vs : List V}, eqStrs ys vs = true → All2 (VR g []) vs ys
  | [], [], _ => .nil
  | y :: r, v :: r', h => by
    unfold eqStrs at h
    split at h
    · rename_i e1 e2; cases e1
    · rename_i j t r i r' e1 e2
      cases e1; cases e2
      obtain ⟨h1, h2⟩ := Bool.and_eq_true_iff.mp h
      have : i = j := (Z.eqB_iff i j).mp h1
      subst this
      exact .cons ⟨t, rfl⟩ (eqStrs_is h2)
    · cases h
  | [], v :: r', h => by simp [eqStrs] at h
  | y :: r, [], h => by cases y <;> simp [eqStrs] at h

variable {prog : Program} {w : World} {K : Frag} {p : Program} {loose : List Str} {mg mb : Str → Option Value} {ro : Heap} {cuts bad : List Nat} {soft : List Str} {dead : List (Nat × List Str)}

theorem tabOk (mc : Value)
    (hglob : (globT.all (globB K)) = true)
    (hfld : (fldT.all fun q => q.2.all (fldB K q.1)) = true)
    (hset : ∀ q ∈ fldT, findIn K (.ref q.1) "__setattr__" = some (some (.builtin "object.__setattr__")))
    (hmth : (mthT.all fun q => q.2.all (mthB K q.1)) = true)
    (hcon : (conT.all fun q => q.2.all (conB K mc q.1)) = true)
    (hsz : ∃ vs n, K.lookup 306 = some ⟨.type "tuple", none, .seq (List.toArray vs) n, #[]⟩ ∧ IntsAre vs [1, 2, 4])
    (hkeep : (fnsT.all fun a => keepIn K (.ref a)) = true ∧ (iniT.all fun a => keepIn K (.ref a.1)) = true)
    (hfn : (fnsT.all (fnB K dflT)) = true)
    (hini : (iniT.all (iniB K)) = true) (hity : ∀ q ∈ iniT, typeIn K (.ref q.2) = some (.type "function")) :
    TabOk ⟨prog, w, K, tab K [] cuts bad soft dead, p, loose, mg, mb, ro⟩ where
  glob := fun x v e => by
    have := List.all_eq_true.mp hglob _ (lget_mem e)
    unfold globB at this
    obtain ⟨h1, h2⟩ := Bool.and_eq_true_iff.mp this
    refine ⟨by simpa using h1, ?_⟩
    dsimp only at h2
    cases v with
    | top a =>
      dsimp only at h2
      split at h2
      · rename_i b e1
        have := Nat.eq_of_beq_eq_true h2
        subst this
        exact .inl ⟨_, e1, rfl⟩
      · cases h2
    | int i =>
      dsimp only at h2
      split at h2
      · rename_i j t e1
        have : i = j := (Z.eqB_iff i j).mp h2
        subst this
        exact .inl ⟨_, e1, t, rfl⟩
      · cases h2
    | bi b =>
      dsimp only at h2
      obtain ⟨h3, h4⟩ := Bool.and_eq_true_iff.mp h2
      have h3 := (strEq_iff _ _).mp h3
      subst h3
      split at h4
      · rename_i e1
        exact .inr ⟨b, rfl, e1, b.boot, strEq_false b.nmNe⟩
      · cases h4
    | _ => cases h2
  fld := fun C fs a e ha => by
    have := List.all_eq_true.mp hfld _ (aget_mem e)
    obtain ⟨a', ha', q⟩ := List.any_eq_true.mp ha
    rw [← (strEq_iff _ _).mp q] at ha'
    have := List.all_eq_true.mp this _ ha'
    unfold fldB at this
    simp only [Bool.and_eq_true] at this
    obtain ⟨⟨h1, h2, h3⟩, h4, h5⟩ := this
    refine ⟨h1, h2, ?_, hset _ (aget_mem e), h3, ?_⟩
    · split at h4
      · rename_i attr e1; exact ⟨attr, e1, h4⟩
      · cases h4
    · split at h5
      · rename_i e1; exact e1
      · cases h5
  mth := fun C ms m f e hm => by
    have := List.all_eq_true.mp hmth _ (aget_mem e)
    have := List.all_eq_true.mp this _ (lget_mem hm)
    unfold mthB at this
    simp only [Bool.and_eq_true] at this
    obtain ⟨⟨h1, h2, h3⟩, h4⟩ := this
    refine ⟨h1, ?_, h2, h3⟩
    split at h4
    · rename_i f' e1
      have := Nat.eq_of_beq_eq_true h4
      subst this; exact e1
    · cases h4
  con := fun C cs a v e hv => by
    have := List.all_eq_true.mp hcon _ (aget_mem e)
    have := List.all_eq_true.mp this _ (lget_mem hv)
    unfold conB at this
    simp only [Bool.and_eq_true] at this
    obtain ⟨h1, h2⟩ := this
    cases v with
    | int i =>
      split at h2
      · rename_i i' j t e1 e2
        cases e1
        have : i = j := (Z.eqB_iff i j).mp h2
        subst this
        exact ⟨mc, _, h1, e2, rfl, t, rfl⟩
      · cases h2
    | _ => cases h2
  sizes := hsz
  keep := fun a e => by
    unfold callable at e
    rcases Bool.or_eq_true_iff.mp e with q | q
    · obtain ⟨b, hb, q⟩ := List.any_eq_true.mp q
      have := Nat.eq_of_beq_eq_true q
      subst this
      exact List.all_eq_true.mp hkeep.1 _ hb
    · obtain ⟨f, hf⟩ := Option.isSome_iff_exists.mp q
      exact List.all_eq_true.mp hkeep.2 _ (aget_mem hf)
  fn := fun f fd ha hf => by
    obtain ⟨b, hb, q⟩ := List.any_eq_true.mp ha
    have := Nat.eq_of_beq_eq_true q
    subst this
    have := List.all_eq_true.mp hfn _ hb
    unfold fnB at this
    change fnK K f = some fd at hf
    unfold fnK at hf
    split at hf
    · rename_i oc od fd' osl e1
      cases hf
      rw [e1] at this
      simp only [Bool.and_eq_true] at this
      obtain ⟨⟨h1, h2, h3⟩, ⟨h4, h5⟩, ⟨h6, h7⟩, ⟨h8, h9⟩, ⟨h10, h11⟩, h12, h13, h14⟩ := this
      refine ⟨⟨_, _, _, e1⟩, h1, List.isEmpty_iff.mp h2, ?_, by simpa using h4, by simpa using h5, Nat.eq_of_beq_eq_true h6, Nat.eq_of_beq_eq_true h7, List.isEmpty_iff.mp h8, List.isEmpty_iff.mp h9, ?_, ?_, strsNodup_is h12, ?_, Nat.le_of_ble_eq_true h14⟩
      · split at h3
        · rename_i e; exact e
        · cases h3
      · cases q : fd.params.vararg with
        | none => rfl
        | some _ => rw [q] at h10; cases h10
      · cases q : fd.params.kwarg with
        | none => rfl
        | some _ => rw [q] at h11; cases h11
      · change DflOk _ fd ((aget f dflT).getD [])
        unfold dflB at h13
        split at h13
        · rename_i e
          refine .inl ⟨e, ?_⟩
          split at h13
          · assumption
          · cases h13
        · rename_i t e
          split at h13
          · rename_i o1 o2 items n o3 e2
            exact .inr ⟨t, _, _, n, e, e2, rfl, eqStrs_is h13⟩
          · cases h13
        · cases h13
    · cases hf
  ini := fun C f e => by
    have := List.all_eq_true.mp hini _ (aget_mem e)
    unfold iniB at this
    simp only [Bool.and_eq_true] at this
    obtain ⟨⟨h1, h2⟩, h3⟩ := this
    refine ⟨h1, ?_, hity _ (aget_mem e), fun hm => ?_⟩
    · split at h3
      · rename_i f' e1
        have := Nat.eq_of_beq_eq_true h3
        subst this; exact e1
      · cases h3
    · have : fnsT.any (Nat.beq C) = true := List.any_eq_true.mpr ⟨C, hm, by simp⟩
      rw [this] at h2; cases h2
end Mine

end
/- H3 -/
section
open PySem PySem.W PyProof.Rows
set_option maxRecDepth 100000
namespace Mine
/-- parts of the heap that the top leaves, as an own program (KGen) has printed them; the defs' bodies are the program's own -/
noncomputable def pwB : List Stmt := PySem.Challenge.pw_nz0221_01.main.body
noncomputable def topS (i : Nat) : Option Stmt := pwB[i]?
noncomputable def inS (i j : Nat) : Option Stmt := match pwB[i]? with
  | some (.ClassDef _ _ _ b _ _ _ _ _ _ _) => b[j]?
  | _ => none
noncomputable def vS (s : String) (t : Tok) : Value := .str (Str.ofString s) t
noncomputable def dE (P : Params) (n : String) (t : Tok) (v : Value) : DictEntry := ⟨PyData.keyHash P (Str.ofString n), .str (Str.ofString n) t, v⟩
noncomputable def oD (c : Value) (es : List DictEntry) (n : Nat) : Obj := ⟨c, none, .dict ⟨es⟩ n, #[]⟩
noncomputable def oT (vs : List Value) (n : Nat) : Obj := ⟨.type "tuple", none, .seq ⟨vs⟩ n, #[]⟩
noncomputable def oC (c : Value) (vs : List Value) : Obj := ⟨c, none, .fields ⟨vs⟩, #[]⟩
noncomputable def oK (name : String) (bases mro : List Value) (ns : Addr) (q : String) (sl : List (Option Value)) : Obj := ⟨.type "type", none, .cls { name := Str.ofString name, bases := bases, mro := mro, ns := ns, qualname := Str.ofString q }, ⟨sl⟩⟩
noncomputable def oF (d : Option Stmt) (q : String) (dfl code pm : Value) : Obj := match d with
  | some (.FunctionDef name args body _ _ _ scope _ _ _) => ⟨.type "function", none, .func { name := name, qualname := Str.ofString q, params := args, body := .stmts body, scope := scope, globals := 3, closure := [], defaults := dfl, kwdefaults := .none, pyModule := pm, code := code }, #[]⟩
  | _ => ⟨.none, none, .plain, #[]⟩
noncomputable def KT (P : Params) : Frag := [(2, oD .none [] 0),
  (3, oD (.type "dict") [dE P "__name__" 165 (vS "law_nz0221_01" 1052), dE P "__doc__" 166 .none, dE P "__package__" 167 .none, dE P "__loader__" 168 (.builtin "__main__.__loader__#opaque"), dE P "__spec__" 169 .none, dE P "__annotations__" 170 (.ref 6), dE P "__builtins__" 171 (.ref 4), dE P "__file__" 173 (vS "/claim/cut.py" 172), dE P "__cached__" 174 .none, dE P "_wall" 193 (.ref 21), dE P "BoardError" 223 (.ref 39), dE P "BadArgument" 239 (.ref 52), dE P "BadAddress" 264 (.ref 71), dE P "Trap" 320 (.ref 91), dE P "Uart" 470 (.ref 195), dE P "Plic" 633 (.ref 301), dE P "WORD" 637 (.int 4 636), dE P "MASK" 643 (.int 4294967295 642), dE P "SPACE" 647 (.int 4294967296 646), dE P "SIZES" 651 (.ref 306), dE P "need_size" 658 (.ref 313), dE P "need_stretch" 666 (.ref 320), dE P "Memory" 904 (.ref 490), dE P "Stretch" 955 (.ref 525), dE P "Bus" 1051 (.ref 590), dE P "_law_take" 1062 (.ref 601), dE P "_law_more" 1070 (.ref 608), dE P "_law_lines" 1079 (.ref 615), dE P "_law_served" 1093 (.ref 622), dE P "_law_driven" 1106 (.ref 629), dE P "_law_came" 1116 (.ref 636), dE P "_law_deed" 1122 (.ref 641), dE P "_law_due" 1128 (.ref 646), dE P "_law_round_right" 1142 (.ref 653), dE P "law" 1159 (.ref 660)] 35),
  (101, oT [(.int 16 349)] 0),
  (107, oC (.type "code") [(vS "__init__" 350), (vS "Uart.__init__" 351), (vS "/claim/cut.py" 352), (.int 47 0), (.int 2 0), (.int 0 0), (.int 0 0), (.int 3 0), (.ref 102), (.bool true), (.int 181 0), (.ref 103), .none, (.ref 104), (.ref 105), (.ref 106), (.int 355 0), (.int 47 0), (vS "/claim/cut.py" 356)]),
  (108, oF (inS 7 7) "Uart.__init__" (.ref 101) (.ref 107) (vS "pipeboard.devices" 321)),
  (114, oC (.type "code") [(vS "feed" 358), (vS "Uart.feed" 359), (vS "/claim/cut.py" 360), (.int 59 0), (.int 2 0), (.int 0 0), (.int 0 0), (.int 3 0), (.ref 109), (.bool true), (.int 181 0), (.ref 110), .none, (.ref 111), (.ref 112), (.ref 113), (.int 364 0), (.int 59 0), (vS "/claim/cut.py" 365)]),
  (115, oF (inS 7 8) "Uart.feed" .none (.ref 114) (vS "pipeboard.devices" 321)),
  (121, oC (.type "code") [(vS "take_out" 367), (vS "Uart.take_out" 368), (vS "/claim/cut.py" 369), (.int 66 0), (.int 1 0), (.int 0 0), (.int 0 0), (.int 3 0), (.ref 116), (.bool true), (.int 181 0), (.ref 117), .none, (.ref 118), (.ref 119), (.ref 120), (.int 372 0), (.int 66 0), (vS "/claim/cut.py" 373)]),
  (122, oF (inS 7 9) "Uart.take_out" .none (.ref 121) (vS "pipeboard.devices" 321)),
  (128, oC (.type "code") [(vS "send" 375), (vS "Uart.send" 376), (vS "/claim/cut.py" 377), (.int 71 0), (.int 2 0), (.int 0 0), (.int 0 0), (.int 3 0), (.ref 123), (.bool true), (.int 181 0), (.ref 124), .none, (.ref 125), (.ref 126), (.ref 127), (.int 380 0), (.int 71 0), (vS "/claim/cut.py" 381)]),
  (129, oF (inS 7 10) "Uart.send" .none (.ref 128) (vS "pipeboard.devices" 321)),
  (135, oC (.type "code") [(vS "receive" 383), (vS "Uart.receive" 384), (vS "/claim/cut.py" 385), (.int 74 0), (.int 1 0), (.int 0 0), (.int 0 0), (.int 3 0), (.ref 130), (.bool true), (.int 181 0), (.ref 131), .none, (.ref 132), (.ref 133), (.ref 134), (.int 388 0), (.int 74 0), (vS "/claim/cut.py" 389)]),
  (136, oF (inS 7 11) "Uart.receive" .none (.ref 135) (vS "pipeboard.devices" 321)),
  (142, oC (.type "code") [(vS "has_received" 391), (vS "Uart.has_received" 392), (vS "/claim/cut.py" 393), (.int 81 0), (.int 1 0), (.int 0 0), (.int 0 0), (.int 3 0), (.ref 137), (.bool true), (.int 181 0), (.ref 138), .none, (.ref 139), (.ref 140), (.ref 141), (.int 395 0), (.int 81 0), (vS "/claim/cut.py" 396)]),
  (143, oF (inS 7 12) "Uart.has_received" .none (.ref 142) (vS "pipeboard.devices" 321)),
  (149, oC (.type "code") [(vS "is_empty_told" 398), (vS "Uart.is_empty_told" 399), (vS "/claim/cut.py" 400), (.int 84 0), (.int 1 0), (.int 0 0), (.int 0 0), (.int 3 0), (.ref 144), (.bool true), (.int 181 0), (.ref 145), .none, (.ref 146), (.ref 147), (.ref 148), (.int 402 0), (.int 84 0), (vS "/claim/cut.py" 403)]),
  (150, oF (inS 7 13) "Uart.is_empty_told" .none (.ref 149) (vS "pipeboard.devices" 321)),
  (156, oC (.type "code") [(vS "is_due" 405), (vS "Uart.is_due" 406), (vS "/claim/cut.py" 407), (.int 87 0), (.int 1 0), (.int 0 0), (.int 0 0), (.int 3 0), (.ref 151), (.bool true), (.int 181 0), (.ref 152), .none, (.ref 153), (.ref 154), (.ref 155), (.int 409 0), (.int 87 0), (vS "/claim/cut.py" 410)]),
  (157, oF (inS 7 14) "Uart.is_due" .none (.ref 156) (vS "pipeboard.devices" 321)),
  (163, oC (.type "code") [(vS "is_divisor" 412), (vS "Uart.is_divisor" 413), (vS "/claim/cut.py" 414), (.int 90 0), (.int 1 0), (.int 0 0), (.int 0 0), (.int 3 0), (.ref 158), (.bool true), (.int 181 0), (.ref 159), .none, (.ref 160), (.ref 161), (.ref 162), (.int 416 0), (.int 90 0), (vS "/claim/cut.py" 417)]),
  (164, oF (inS 7 15) "Uart.is_divisor" .none (.ref 163) (vS "pipeboard.devices" 321)),
  (170, oC (.type "code") [(vS "status" 419), (vS "Uart.status" 420), (vS "/claim/cut.py" 421), (.int 93 0), (.int 1 0), (.int 0 0), (.int 0 0), (.int 3 0), (.ref 165), (.bool true), (.int 181 0), (.ref 166), .none, (.ref 167), (.ref 168), (.ref 169), (.int 424 0), (.int 93 0), (vS "/claim/cut.py" 425)]),
  (171, oF (inS 7 16) "Uart.status" .none (.ref 170) (vS "pipeboard.devices" 321)),
  (177, oC (.type "code") [(vS "identify" 427), (vS "Uart.identify" 428), (vS "/claim/cut.py" 429), (.int 98 0), (.int 1 0), (.int 0 0), (.int 0 0), (.int 3 0), (.ref 172), (.bool true), (.int 181 0), (.ref 173), .none, (.ref 174), (.ref 175), (.ref 176), (.int 431 0), (.int 98 0), (vS "/claim/cut.py" 432)]),
  (178, oF (inS 7 17) "Uart.identify" .none (.ref 177) (vS "pipeboard.devices" 321)),
  (184, oC (.type "code") [(vS "load" 434), (vS "Uart.load" 435), (vS "/claim/cut.py" 436), (.int 106 0), (.int 3 0), (.int 0 0), (.int 0 0), (.int 3 0), (.ref 179), (.bool true), (.int 181 0), (.ref 180), .none, (.ref 181), (.ref 182), (.ref 183), (.int 441 0), (.int 106 0), (vS "/claim/cut.py" 442)]),
  (185, oF (inS 7 18) "Uart.load" .none (.ref 184) (vS "pipeboard.devices" 321)),
  (191, oC (.type "code") [(vS "store" 444), (vS "Uart.store" 445), (vS "/claim/cut.py" 446), (.int 122 0), (.int 4 0), (.int 0 0), (.int 0 0), (.int 3 0), (.ref 186), (.bool true), (.int 181 0), (.ref 187), .none, (.ref 188), (.ref 189), (.ref 190), (.int 452 0), (.int 122 0), (vS "/claim/cut.py" 453)]),
  (192, oF (inS 7 19) "Uart.store" .none (.ref 191) (vS "pipeboard.devices" 321)),
  (194, oD (.type "dict") [dE P "__module__" 330 (vS "pipeboard.devices" 321), dE P "__firstlineno__" 334 (.int 38 333), dE P "DATA" 336 (.int 0 335), dE P "ENABLE" 338 (.int 1 337), dE P "IDENT" 340 (.int 2 339), dE P "LINE" 342 (.int 3 341), dE P "STATUS" 344 (.int 5 343), dE P "RECEIVED" 346 (.int 1 345), dE P "EMPTY" 348 (.int 2 347), dE P "__init__" 357 (.ref 108), dE P "feed" 366 (.ref 115), dE P "take_out" 374 (.ref 122), dE P "send" 382 (.ref 129), dE P "receive" 390 (.ref 136), dE P "has_received" 397 (.ref 143), dE P "is_empty_told" 404 (.ref 150), dE P "is_due" 411 (.ref 157), dE P "is_divisor" 418 (.ref 164), dE P "status" 426 (.ref 171), dE P "identify" 433 (.ref 178), dE P "load" 443 (.ref 185), dE P "store" 454 (.ref 192), dE P "__static_attributes__" 463 (.ref 193), dE P "__dict__" 465 (.ref 196), dE P "__weakref__" 467 (.ref 197), dE P "__doc__" 468 .none] 4),
  (195, oK "Uart" [(.type "object")] [(.ref 195), (.type "object")] 194 "Uart" [none, none, some (vS "Uart" 323), some (vS "Uart" 331), some (.builtin "object.__new__"), some (.bool true)]),
  (207, oT [(.int 31 493), (.int 2 494)] 0),
  (213, oC (.type "code") [(vS "__init__" 495), (vS "Plic.__init__" 496), (vS "/claim/cut.py" 497), (.int 151 0), (.int 3 0), (.int 0 0), (.int 0 0), (.int 3 0), (.ref 208), (.bool true), (.int 181 0), (.ref 209), .none, (.ref 210), (.ref 211), (.ref 212), (.int 501 0), (.int 151 0), (vS "/claim/cut.py" 502)]),
  (214, oF (inS 8 5) "Plic.__init__" (.ref 207) (.ref 213) (vS "pipeboard.devices" 321)),
  (220, oC (.type "code") [(vS "need_source" 504), (vS "Plic.need_source" 505), (vS "/claim/cut.py" 506), (.int 162 0), (.int 2 0), (.int 0 0), (.int 0 0), (.int 3 0), (.ref 215), (.bool true), (.int 181 0), (.ref 216), .none, (.ref 217), (.ref 218), (.ref 219), (.int 509 0), (.int 162 0), (vS "/claim/cut.py" 510)]),
  (221, oF (inS 8 6) "Plic.need_source" .none (.ref 220) (vS "pipeboard.devices" 321)),
  (227, oC (.type "code") [(vS "need_context" 512), (vS "Plic.need_context" 513), (vS "/claim/cut.py" 514), (.int 166 0), (.int 2 0), (.int 0 0), (.int 0 0), (.int 3 0), (.ref 222), (.bool true), (.int 181 0), (.ref 223), .none, (.ref 224), (.ref 225), (.ref 226), (.int 517 0), (.int 166 0), (vS "/claim/cut.py" 518)]),
  (228, oF (inS 8 7) "Plic.need_context" .none (.ref 227) (vS "pipeboard.devices" 321)),
  (234, oC (.type "code") [(vS "set_line" 520), (vS "Plic.set_line" 521), (vS "/claim/cut.py" 522), (.int 170 0), (.int 3 0), (.int 0 0), (.int 0 0), (.int 3 0), (.ref 229), (.bool true), (.int 181 0), (.ref 230), .none, (.ref 231), (.ref 232), (.ref 233), (.int 527 0), (.int 170 0), (vS "/claim/cut.py" 528)]),
  (235, oF (inS 8 8) "Plic.set_line" .none (.ref 234) (vS "pipeboard.devices" 321)),
  (241, oC (.type "code") [(vS "pending" 530), (vS "Plic.pending" 531), (vS "/claim/cut.py" 532), (.int 175 0), (.int 1 0), (.int 0 0), (.int 0 0), (.int 3 0), (.ref 236), (.bool true), (.int 181 0), (.ref 237), .none, (.ref 238), (.ref 239), (.ref 240), (.int 534 0), (.int 175 0), (vS "/claim/cut.py" 535)]),
  (242, oF (inS 8 9) "Plic.pending" .none (.ref 241) (vS "pipeboard.devices" 321)),
  (248, oC (.type "code") [(vS "best" 537), (vS "Plic.best" 538), (vS "/claim/cut.py" 539), (.int 178 0), (.int 3 0), (.int 0 0), (.int 0 0), (.int 3 0), (.ref 243), (.bool true), (.int 181 0), (.ref 244), .none, (.ref 245), (.ref 246), (.ref 247), (.int 547 0), (.int 178 0), (vS "/claim/cut.py" 548)]),
  (249, oF (inS 8 10) "Plic.best" .none (.ref 248) (vS "pipeboard.devices" 321)),
  (255, oC (.type "code") [(vS "is_due" 550), (vS "Plic.is_due" 551), (vS "/claim/cut.py" 552), (.int 186 0), (.int 2 0), (.int 0 0), (.int 0 0), (.int 3 0), (.ref 250), (.bool true), (.int 181 0), (.ref 251), .none, (.ref 252), (.ref 253), (.ref 254), (.int 555 0), (.int 186 0), (vS "/claim/cut.py" 556)]),
  (256, oF (inS 8 11) "Plic.is_due" .none (.ref 255) (vS "pipeboard.devices" 321)),
  (262, oC (.type "code") [(vS "claim" 558), (vS "Plic.claim" 559), (vS "/claim/cut.py" 560), (.int 190 0), (.int 2 0), (.int 0 0), (.int 0 0), (.int 3 0), (.ref 257), (.bool true), (.int 181 0), (.ref 258), .none, (.ref 259), (.ref 260), (.ref 261), (.int 564 0), (.int 190 0), (vS "/claim/cut.py" 565)]),
  (263, oF (inS 8 12) "Plic.claim" .none (.ref 262) (vS "pipeboard.devices" 321)),
  (269, oC (.type "code") [(vS "complete" 567), (vS "Plic.complete" 568), (vS "/claim/cut.py" 569), (.int 197 0), (.int 3 0), (.int 0 0), (.int 0 0), (.int 3 0), (.ref 264), (.bool true), (.int 181 0), (.ref 265), .none, (.ref 266), (.ref 267), (.ref 268), (.int 573 0), (.int 197 0), (vS "/claim/cut.py" 574)]),
  (270, oF (inS 8 13) "Plic.complete" .none (.ref 269) (vS "pipeboard.devices" 321)),
  (276, oC (.type "code") [(vS "context_at" 576), (vS "Plic.context_at" 577), (vS "/claim/cut.py" 578), (.int 202 0), (.int 2 0), (.int 0 0), (.int 0 0), (.int 3 0), (.ref 271), (.bool true), (.int 181 0), (.ref 272), .none, (.ref 273), (.ref 274), (.ref 275), (.int 583 0), (.int 202 0), (vS "/claim/cut.py" 584)]),
  (277, oF (inS 8 14) "Plic.context_at" .none (.ref 276) (vS "pipeboard.devices" 321)),
  (283, oC (.type "code") [(vS "enable_at" 586), (vS "Plic.enable_at" 587), (vS "/claim/cut.py" 588), (.int 207 0), (.int 2 0), (.int 0 0), (.int 0 0), (.int 3 0), (.ref 278), (.bool true), (.int 181 0), (.ref 279), .none, (.ref 280), (.ref 281), (.ref 282), (.int 593 0), (.int 207 0), (vS "/claim/cut.py" 594)]),
  (284, oF (inS 8 15) "Plic.enable_at" .none (.ref 283) (vS "pipeboard.devices" 321)),
  (290, oC (.type "code") [(vS "load" 596), (vS "Plic.load" 597), (vS "/claim/cut.py" 598), (.int 211 0), (.int 3 0), (.int 0 0), (.int 0 0), (.int 3 0), (.ref 285), (.bool true), (.int 181 0), (.ref 286), .none, (.ref 287), (.ref 288), (.ref 289), (.int 604 0), (.int 211 0), (vS "/claim/cut.py" 605)]),
  (291, oF (inS 8 16) "Plic.load" .none (.ref 290) (vS "pipeboard.devices" 321)),
  (297, oC (.type "code") [(vS "store" 607), (vS "Plic.store" 608), (vS "/claim/cut.py" 609), (.int 226 0), (.int 4 0), (.int 0 0), (.int 0 0), (.int 3 0), (.ref 292), (.bool true), (.int 181 0), (.ref 293), .none, (.ref 294), (.ref 295), (.ref 296), (.int 616 0), (.int 226 0), (vS "/claim/cut.py" 617)]),
  (298, oF (inS 8 17) "Plic.store" .none (.ref 297) (vS "pipeboard.devices" 321)),
  (300, oD (.type "dict") [dE P "__module__" 478 (vS "pipeboard.devices" 321), dE P "__firstlineno__" 482 (.int 144 481), dE P "PENDING" 484 (.int 4096 483), dE P "ENABLE" 486 (.int 8192 485), dE P "ENABLE_STEP" 488 (.int 128 487), dE P "CONTEXT" 490 (.int 2097152 489), dE P "CONTEXT_STEP" 492 (.int 4096 491), dE P "__init__" 503 (.ref 214), dE P "need_source" 511 (.ref 221), dE P "need_context" 519 (.ref 228), dE P "set_line" 529 (.ref 235), dE P "pending" 536 (.ref 242), dE P "best" 549 (.ref 249), dE P "is_due" 557 (.ref 256), dE P "claim" 566 (.ref 263), dE P "complete" 575 (.ref 270), dE P "context_at" 585 (.ref 277), dE P "enable_at" 595 (.ref 284), dE P "load" 606 (.ref 291), dE P "store" 618 (.ref 298), dE P "__static_attributes__" 626 (.ref 299), dE P "__dict__" 628 (.ref 302), dE P "__weakref__" 630 (.ref 303), dE P "__doc__" 631 .none] 4),
  (301, oK "Plic" [(.type "object")] [(.ref 301), (.type "object")] 300 "Plic" [none, none, some (vS "Plic" 471), some (vS "Plic" 479), some (.builtin "object.__new__"), some (.bool true)]),
  (306, oT [(.int 1 648), (.int 2 649), (.int 4 650)] 0),
  (312, oC (.type "code") [(vS "need_size" 652), (vS "need_size" 653), (vS "/claim/cut.py" 654), (.int 251 0), (.int 1 0), (.int 0 0), (.int 0 0), (.int 3 0), (.ref 307), (.bool true), (.int 181 0), (.ref 308), .none, (.ref 309), (.ref 310), (.ref 311), (.int 656 0), (.int 251 0), (vS "/claim/cut.py" 657)]),
  (313, oF (topS 14) "need_size" .none (.ref 312) (vS "pipeboard.memory" 634)),
  (319, oC (.type "code") [(vS "need_stretch" 659), (vS "need_stretch" 660), (vS "/claim/cut.py" 661), (.int 254 0), (.int 2 0), (.int 0 0), (.int 0 0), (.int 3 0), (.ref 314), (.bool true), (.int 181 0), (.ref 315), .none, (.ref 316), (.ref 317), (.ref 318), (.int 664 0), (.int 254 0), (vS "/claim/cut.py" 665)]),
  (320, oF (topS 15) "need_stretch" .none (.ref 319) (vS "pipeboard.memory" 634)),
  (328, oT [(.int 0 679)] 0),
  (334, oC (.type "code") [(vS "__init__" 680), (vS "Memory.__init__" 681), (vS "/claim/cut.py" 682), (.int 259 0), (.int 3 0), (.int 0 0), (.int 0 0), (.int 3 0), (.ref 329), (.bool true), (.int 181 0), (.ref 330), .none, (.ref 331), (.ref 332), (.ref 333), (.int 686 0), (.int 259 0), (vS "/claim/cut.py" 687)]),
  (335, oF (inS 16 0) "Memory.__init__" (.ref 328) (.ref 334) (vS "pipeboard.memory" 634)),
  (489, oD (.type "dict") [dE P "__module__" 674 (vS "pipeboard.memory" 634), dE P "__firstlineno__" 678 (.int 257 677), dE P "__init__" 688 (.ref 335), dE P "holds" 697 (.ref 342), dE P "need" 706 (.ref 349), dE P "need_aligned" 715 (.ref 356), dE P "word" 723 (.ref 363), dE P "put_word" 732 (.ref 370), dE P "keep" 741 (.ref 377), dE P "half" 749 (.ref 384), dE P "put_half" 758 (.ref 391), dE P "octet" 766 (.ref 398), dE P "put_octet" 775 (.ref 405), dE P "put_part" 787 (.ref 412), dE P "get" 796 (.ref 419), dE P "put" 806 (.ref 426), dE P "load" 820 (.ref 433), dE P "store" 835 (.ref 440), dE P "zero" 844 (.ref 447), dE P "fill" 854 (.ref 454), dE P "copy" 864 (.ref 461), dE P "used" 871 (.ref 468), dE P "rows" 877 (.ref 473), dE P "twin" 884 (.ref 480), dE P "alike" 892 (.ref 487), dE P "__static_attributes__" 897 (.ref 488), dE P "__dict__" 899 (.ref 491), dE P "__weakref__" 901 (.ref 492), dE P "__doc__" 902 .none] 4),
  (490, oK "Memory" [(.type "object")] [(.ref 490), (.type "object")] 489 "Memory" [none, none, some (vS "Memory" 667), some (vS "Memory" 675), some (.builtin "object.__new__"), some (.bool true)]),
  (507, oC (.type "code") [(vS "__init__" 917), (vS "Stretch.__init__" 918), (vS "/claim/cut.py" 919), (.int 377 0), (.int 4 0), (.int 0 0), (.int 0 0), (.int 3 0), (.ref 502), (.bool true), (.int 181 0), (.ref 503), .none, (.ref 504), (.ref 505), (.ref 506), (.int 924 0), (.int 377 0), (vS "/claim/cut.py" 925)]),
  (508, oF (inS 17 0) "Stretch.__init__" .none (.ref 507) (vS "pipeboard.memory" 634)),
  (514, oC (.type "code") [(vS "holds" 927), (vS "Stretch.holds" 928), (vS "/claim/cut.py" 929), (.int 383 0), (.int 3 0), (.int 0 0), (.int 0 0), (.int 3 0), (.ref 509), (.bool true), (.int 181 0), (.ref 510), .none, (.ref 511), (.ref 512), (.ref 513), (.int 933 0), (.int 383 0), (vS "/claim/cut.py" 934)]),
  (515, oF (inS 17 1) "Stretch.holds" .none (.ref 514) (vS "pipeboard.memory" 634)),
  (521, oC (.type "code") [(vS "meets" 936), (vS "Stretch.meets" 937), (vS "/claim/cut.py" 938), (.int 386 0), (.int 3 0), (.int 0 0), (.int 0 0), (.int 3 0), (.ref 516), (.bool true), (.int 181 0), (.ref 517), .none, (.ref 518), (.ref 519), (.ref 520), (.int 942 0), (.int 386 0), (vS "/claim/cut.py" 943)]),
  (522, oF (inS 17 2) "Stretch.meets" .none (.ref 521) (vS "pipeboard.memory" 634)),
  (524, oD (.type "dict") [dE P "__module__" 912 (vS "pipeboard.memory" 634), dE P "__firstlineno__" 916 (.int 375 915), dE P "__init__" 926 (.ref 508), dE P "holds" 935 (.ref 515), dE P "meets" 944 (.ref 522), dE P "__static_attributes__" 948 (.ref 523), dE P "__dict__" 950 (.ref 526), dE P "__weakref__" 952 (.ref 527), dE P "__doc__" 953 .none] 4),
  (525, oK "Stretch" [(.type "object")] [(.ref 525), (.type "object")] 524 "Stretch" [none, none, some (vS "Stretch" 905), some (vS "Stretch" 913), some (.builtin "object.__new__"), some (.bool true)]),
  (542, oC (.type "code") [(vS "__init__" 968), (vS "Bus.__init__" 969), (vS "/claim/cut.py" 970), (.int 390 0), (.int 2 0), (.int 0 0), (.int 0 0), (.int 3 0), (.ref 537), (.bool true), (.int 181 0), (.ref 538), .none, (.ref 539), (.ref 540), (.ref 541), (.int 973 0), (.int 390 0), (vS "/claim/cut.py" 974)]),
  (543, oF (inS 18 0) "Bus.__init__" .none (.ref 542) (vS "pipeboard.memory" 634)),
  (549, oC (.type "code") [(vS "attach" 976), (vS "Bus.attach" 977), (vS "/claim/cut.py" 978), (.int 394 0), (.int 4 0), (.int 0 0), (.int 0 0), (.int 3 0), (.ref 544), (.bool true), (.int 181 0), (.ref 545), .none, (.ref 546), (.ref 547), (.ref 548), (.int 985 0), (.int 394 0), (vS "/claim/cut.py" 986)]),
  (550, oF (inS 18 1) "Bus.attach" .none (.ref 549) (vS "pipeboard.memory" 634)),
  (556, oC (.type "code") [(vS "stretch_at" 988), (vS "Bus.stretch_at" 989), (vS "/claim/cut.py" 990), (.int 403 0), (.int 3 0), (.int 0 0), (.int 0 0), (.int 3 0), (.ref 551), (.bool true), (.int 181 0), (.ref 552), .none, (.ref 553), (.ref 554), (.ref 555), (.int 995 0), (.int 403 0), (vS "/claim/cut.py" 996)]),
  (557, oF (inS 18 2) "Bus.stretch_at" .none (.ref 556) (vS "pipeboard.memory" 634)),
  (558, oT [(.int 5 287)] 0),
  (564, oC (.type "code") [(vS "load" 999), (vS "Bus.load" 1000), (vS "/claim/cut.py" 1001), (.int 409 0), (.int 4 0), (.int 0 0), (.int 0 0), (.int 3 0), (.ref 559), (.bool true), (.int 181 0), (.ref 560), .none, (.ref 561), (.ref 562), (.ref 563), (.int 1008 0), (.int 409 0), (vS "/claim/cut.py" 1009)]),
  (565, oF (inS 18 3) "Bus.load" (.ref 558) (.ref 564) (vS "pipeboard.memory" 634)),
  (566, oT [(.int 7 291)] 0),
  (572, oC (.type "code") [(vS "store" 1012), (vS "Bus.store" 1013), (vS "/claim/cut.py" 1014), (.int 424 0), (.int 5 0), (.int 0 0), (.int 0 0), (.int 3 0), (.ref 567), (.bool true), (.int 181 0), (.ref 568), .none, (.ref 569), (.ref 570), (.ref 571), (.int 1022 0), (.int 424 0), (vS "/claim/cut.py" 1023)]),
  (573, oF (inS 18 4) "Bus.store" (.ref 566) (.ref 572) (vS "pipeboard.memory" 634)),
  (589, oD (.type "dict") [dE P "__module__" 963 (vS "pipeboard.memory" 634), dE P "__firstlineno__" 967 (.int 388 966), dE P "__init__" 975 (.ref 543), dE P "attach" 987 (.ref 550), dE P "stretch_at" 997 (.ref 557), dE P "load" 1010 (.ref 565), dE P "store" 1024 (.ref 573), dE P "fetch" 1032 (.ref 580), dE P "is_memory" 1041 (.ref 587), dE P "__static_attributes__" 1044 (.ref 588), dE P "__dict__" 1046 (.ref 591), dE P "__weakref__" 1048 (.ref 592), dE P "__doc__" 1049 .none] 4),
  (590, oK "Bus" [(.type "object")] [(.ref 590), (.type "object")] 589 "Bus" [none, none, some (vS "Bus" 956), some (vS "Bus" 964), some (.builtin "object.__new__"), some (.bool true)]),
  (600, oC (.type "code") [(vS "_law_take" 1054), (vS "_law_take" 1055), (vS "/claim/cut.py" 1056), (.int 446 0), (.int 2 0), (.int 0 0), (.int 0 0), (.int 3 0), (.ref 595), (.bool true), (.int 181 0), (.ref 596), .none, (.ref 597), (.ref 598), (.ref 599), (.int 1060 0), (.int 446 0), (vS "/claim/cut.py" 1061)]),
  (601, oF (topS 20) "_law_take" .none (.ref 600) (vS "law_nz0221_01" 1052)),
  (607, oC (.type "code") [(vS "_law_more" 1063), (vS "_law_more" 1064), (vS "/claim/cut.py" 1065), (.int 453 0), (.int 2 0), (.int 0 0), (.int 0 0), (.int 3 0), (.ref 602), (.bool true), (.int 181 0), (.ref 603), .none, (.ref 604), (.ref 605), (.ref 606), (.int 1068 0), (.int 453 0), (vS "/claim/cut.py" 1069)]),
  (608, oF (topS 21) "_law_more" .none (.ref 607) (vS "law_nz0221_01" 1052)),
  (614, oC (.type "code") [(vS "_law_lines" 1071), (vS "_law_lines" 1072), (vS "/claim/cut.py" 1073), (.int 455 0), (.int 3 0), (.int 0 0), (.int 0 0), (.int 3 0), (.ref 609), (.bool true), (.int 181 0), (.ref 610), .none, (.ref 611), (.ref 612), (.ref 613), (.int 1077 0), (.int 455 0), (vS "/claim/cut.py" 1078)]),
  (615, oF (topS 22) "_law_lines" .none (.ref 614) (vS "law_nz0221_01" 1052)),
  (621, oC (.type "code") [(vS "_law_served" 1080), (vS "_law_served" 1081), (vS "/claim/cut.py" 1082), (.int 458 0), (.int 5 0), (.int 0 0), (.int 0 0), (.int 3 0), (.ref 616), (.bool true), (.int 181 0), (.ref 617), .none, (.ref 618), (.ref 619), (.ref 620), (.int 1091 0), (.int 458 0), (vS "/claim/cut.py" 1092)]),
  (622, oF (topS 23) "_law_served" .none (.ref 621) (vS "law_nz0221_01" 1052)),
  (628, oC (.type "code") [(vS "_law_driven" 1094), (vS "_law_driven" 1095), (vS "/claim/cut.py" 1096), (.int 474 0), (.int 4 0), (.int 0 0), (.int 0 0), (.int 3 0), (.ref 623), (.bool true), (.int 181 0), (.ref 624), .none, (.ref 625), (.ref 626), (.ref 627), (.int 1104 0), (.int 474 0), (vS "/claim/cut.py" 1105)]),
  (629, oF (topS 24) "_law_driven" .none (.ref 628) (vS "law_nz0221_01" 1052)),
  (635, oC (.type "code") [(vS "_law_came" 1107), (vS "_law_came" 1108), (vS "/claim/cut.py" 1109), (.int 489 0), (.int 3 0), (.int 0 0), (.int 0 0), (.int 3 0), (.ref 630), (.bool true), (.int 181 0), (.ref 631), .none, (.ref 632), (.ref 633), (.ref 634), (.int 1114 0), (.int 489 0), (vS "/claim/cut.py" 1115)]),
  (636, oF (topS 25) "_law_came" .none (.ref 635) (vS "law_nz0221_01" 1052)),
  (640, oC (.type "code") [(vS "_law_deed" 1117), (vS "_law_deed" 1118), (vS "/claim/cut.py" 1119), (.int 494 0), (.int 4 0), (.int 0 0), (.int 0 0), (.int 3 0), (.ref 637), (.bool true), (.int 181 0), (.ref 638), .none, .none, .none, (.ref 639), (.int 1120 0), (.int 494 0), (vS "/claim/cut.py" 1121)]),
  (641, oF (topS 26) "_law_deed" .none (.ref 640) (vS "law_nz0221_01" 1052)),
  (645, oC (.type "code") [(vS "_law_due" 1123), (vS "_law_due" 1124), (vS "/claim/cut.py" 1125), (.int 507 0), (.int 1 0), (.int 0 0), (.int 0 0), (.int 3 0), (.ref 642), (.bool true), (.int 181 0), (.ref 643), .none, .none, .none, (.ref 644), (.int 1126 0), (.int 507 0), (vS "/claim/cut.py" 1127)]),
  (646, oF (topS 27) "_law_due" .none (.ref 645) (vS "law_nz0221_01" 1052)),
  (652, oC (.type "code") [(vS "_law_round_right" 1129), (vS "_law_round_right" 1130), (vS "/claim/cut.py" 1131), (.int 514 0), (.int 4 0), (.int 0 0), (.int 0 0), (.int 3 0), (.ref 647), (.bool true), (.int 181 0), (.ref 648), .none, (.ref 649), (.ref 650), (.ref 651), (.int 1140 0), (.int 514 0), (vS "/claim/cut.py" 1141)]),
  (653, oF (topS 28) "_law_round_right" .none (.ref 652) (vS "law_nz0221_01" 1052)),
  (659, oC (.type "code") [(vS "law" 1143), (vS "law" 1144), (vS "/claim/cut.py" 1145), (.int 524 0), (.int 1 0), (.int 0 0), (.int 0 0), (.int 3 0), (.ref 654), (.bool true), (.int 181 0), (.ref 655), .none, (.ref 656), (.ref 657), (.ref 658), (.int 1157 0), (.int 524 0), (vS "/claim/cut.py" 1158)]),
  (660, oF (topS 29) "law" .none (.ref 659) (vS "law_nz0221_01" 1052))]
end Mine

end
/- H4 -/
section
open PySem PySem.W PySem.Calls PyProof.Rows
set_option maxRecDepth 100000
namespace Mine
noncomputable abbrev pw : Program := PySem.Challenge.pw_nz0221_01
noncomputable def pos0 : Pos := ⟨0, 0, 0, 0⟩
noncomputable def envT : Env := { scope := pw.main.scope, locals := mainNs, globals := mainNs, cells := [], code := .ref 13, frame := some 14 }
noncomputable def cT : Code := .body (behindTheImports pw) envT
noncomputable def annT : Option Value := some (.ref 6)
noncomputable def S0 (w : World) (os : OsState) : Shared := ⟨boot_heap w.params, #[], boot_drawn, boot_toks, os⟩
noncomputable def pre0 (w : World) (os : OsState) : Option (Shared × Thread) := topGo treeTable pw w 11 annT 12 (S0 w os) (topStub pw)
noncomputable def mkT (os : List Obj) : Nat → Nat → Nat → BT
  | 0, _, _ => .nil
  | f + 1, a, b => match os[b]? with
    | some o => .node o (mkT os f (2 * a) (a + b)) (mkT os f (2 * a) (2 * a + b))
    | none => .nil
noncomputable def objs0 (w : World) (os : OsState) : List Obj := match pre0 w os with
  | some (s, _) => s.heap.objs.toList
  | none => []
noncomputable def ST (w : World) (os : OsState) : SharedT := ⟨mkT (objs0 w os) 8 1 0, 15, {}, #[], {}, 187, os⟩
theorem pre_is (w : World) (os : OsState) : topGo treeTable pw w 11 annT 12 (S0 w os) (topStub pw) = some ((ST w os).abs, ⟨denote treeTable cT, cT, pos0, [topFrame pos0]⟩) := by kernel_rfl
theorem block_is (w : World) (s : Shared) : segRun treeTable pw w 11 annT 1 1 s (blockOf (behindTheImports pw) envT cT pos0 [topFrame pos0]) = some (.next, s, cT, pos0) := by kernel_rfl
theorem fin_is (w : World) (s : Shared) (q : Pos) : topRun treeTable pw w 11 annT 9 s ⟨doneF .next, cT, q, [topFrame pos0]⟩ = some s := by kernel_rfl
theorem open_is : ∀ w : World, (fencedOpening treeTable pw w 10000).map (fun s => (s.heap, s.gens, s.drawn, s.toks)) = some (boot_heap w.params, Array.mk [], boot_drawn, boot_toks) :=
  boot_open (by kernel_rfl) (by decide) (fun s => by kernel_rfl)
theorem size_is (w : World) : ((boot_heap w.params).isNs mainGlobals, (boot_heap w.params).objs.size, (boot_heap w.params).nsMap mainGlobals "__annotations__") = (true, 11, annT) := by kernel_rfl
end Mine

end
/- H5 -/
section
open PySem PySem.W PySem.Calls PyProof.Rows
set_option maxRecDepth 100000
namespace Mine
noncomputable def run0 (w : World) (os : OsState) : Option (Flow × SharedT × Code × Pos) := segRunT treeTable pw w 11 annT 1 6000 (ST w os) (piecesOf (behindTheImports pw) envT cT pos0 [topFrame pos0])
noncomputable def looseT : List Str := ["_wall", "BoardError", "BadArgument", "BadAddress", "Trap", "Uart", "Plic", "WORD", "MASK", "SPACE", "SIZES", "need_size", "need_stretch", "Memory", "Stretch", "Bus", "_law_take", "_law_more", "_law_lines", "_law_served", "_law_driven", "_law_came", "_law_deed", "_law_due", "_law_round_right"].map Str.ofString
noncomputable def qT : Program := view pw [29]
noncomputable def asT : List Addr := [2, 3, 101, 107, 108, 114, 115, 121, 122, 128, 129, 135, 136, 142, 143, 149, 150, 156, 157, 163, 164, 170, 171, 177, 178, 184, 185, 191, 192, 194, 195, 207, 213, 214, 220, 221, 227, 228, 234, 235, 241, 242, 248, 249, 255, 256, 262, 263, 269, 270, 276, 277, 283, 284, 290, 291, 297, 298, 300, 301, 306, 312, 313, 319, 320, 328, 334, 335, 489, 490, 507, 508, 514, 515, 521, 522, 524, 525, 542, 543, 549, 550, 556, 557, 558, 564, 565, 566, 572, 573, 589, 590, 600, 601, 607, 608, 614, 615, 621, 622, 628, 629, 635, 636, 640, 641, 645, 646, 652, 653, 659, 660]
theorem asT_is (P : Params) : asT = (KT P).map (·.1) := by kernel_rfl
noncomputable def lhsE (w : World) (os : OsState) := (segRunT treeTable pw w 11 annT 1 6000 (ST w os) (piecesOf (behindTheImports pw) envT cT pos0 [topFrame pos0])).map fun r => (r.1, r.2.2.1, (staticsOk (importedModules pw.main.body) (boot_heap w.params) r.2.1.abs.heap && namesBound pw r.2.1.abs.heap && gensDone r.2.1.abs && laidKept (boot_heap w.params) r.2.1.abs.heap),
  openSeen qT looseT (importedModules pw.main.body) (fun _ => true) true r.2.1.abs, asT.map r.2.1.abs.heap.get?)
noncomputable def rhsE (w : World) := some (Flow.next, cT, true, openGood qT looseT, (KT w.params).map fun p => some p.2)
/-- as lhsE, by the library's quick twins -/
noncomputable def lhsF (w : World) (os : OsState) := (PySem.W.Fast.tw10110043849684766642 PySem.W.Fast.tw14364793385576792824 pw w 11 annT 1 6000 (ST w os) (piecesOf (behindTheImports pw) envT cT pos0 [topFrame pos0])).map fun r => (r.1, r.2.2.1, (staticsOk (importedModules pw.main.body) (boot_heap w.params) r.2.1.abs.heap && namesBound pw r.2.1.abs.heap && gensDone r.2.1.abs && laidKept (boot_heap w.params) r.2.1.abs.heap),
  PySem.W.Fast.tw4187177175401517315 qT looseT (importedModules pw.main.body) (fun _ => true) true r.2.1.abs, asT.map r.2.1.abs.heap.get?)
theorem lhs_eq (w : World) (os : OsState) : lhsE w os = lhsF w os := by
  unfold lhsE lhsF
  rw [PySem.W.Fast.te10110043849684766642, PySem.W.Fast.te14364793385576792824, PySem.W.Fast.te4187177175401517315]
theorem lhs_is (w : World) (os : OsState) : lhsF w os = rhsE w := by kernel_rfl

theorem run_ex (w : World) (os : OsState) : ∃ sF q, segRunT treeTable pw w 11 annT 1 6000 (ST w os) (piecesOf (behindTheImports pw) envT cT pos0 [topFrame pos0]) = some (.next, sF, cT, q) ∧
    (staticsOk (importedModules pw.main.body) (boot_heap w.params) sF.abs.heap && namesBound pw sF.abs.heap && gensDone sF.abs && laidKept (boot_heap w.params) sF.abs.heap) = true ∧
    openSeen qT looseT (importedModules pw.main.body) (fun _ => true) true sF.abs = openGood qT looseT ∧ asT.map sF.abs.heap.get? = (KT w.params).map fun p => some p.2 := by
  have h := (lhs_eq w os).trans (lhs_is w os)
  unfold lhsE rhsE at h
  obtain ⟨⟨fl, sF, c, q⟩, hr, hl⟩ := Option.map_eq_some_iff.mp h
  obtain ⟨l0, hl⟩ := Prod.mk.inj hl
  obtain ⟨l1, hl⟩ := Prod.mk.inj hl
  obtain ⟨l2, hl⟩ := Prod.mk.inj hl
  obtain ⟨l3, l4⟩ := Prod.mk.inj hl
  have l0 : fl = .next := l0
  have l1 : c = cT := l1
  subst l0
  subst l1
  exact ⟨sF, q, hr, l2, l3, l4⟩
end Mine

end
/- H6 -/
section
open PySem PySem.W PySem.Calls PyProof.Rows
set_option maxRecDepth 100000
namespace Mine
theorem top_ran {w : World} {os : OsState} {sF : SharedT} {q : Pos} (hr : segRunT treeTable pw w 11 annT 1 6000 (ST w os) (piecesOf (behindTheImports pw) envT cT pos0 [topFrame pos0]) = some (.next, sF, cT, q)) :
    topRun treeTable pw w 11 annT (12 + (1 + (6000 + 9))) (S0 w os) (topStub pw) = some sF.abs := by
  refine go_top (pre_is w os) (piece_block (block_is w _) ?_)
  have h := piece_app (rest := []) (segRun_of hr) (piece_nil (fin_is w sF.abs q))
  rw [List.append_nil] at h
  exact h
theorem top_from {w : World} {os : OsState} {sF : SharedT} (r : topRun treeTable pw w 11 annT 10000 (S0 w os) (topStub pw) = some sF.abs)
    (l2 : (staticsOk (importedModules pw.main.body) (boot_heap w.params) sF.abs.heap && namesBound pw sF.abs.heap && gensDone sF.abs && laidKept (boot_heap w.params) sF.abs.heap) = true) :
    topFrom treeTable pw w 10000 (S0 w os) = some sF.abs := by
  obtain ⟨z1, z2, z3⟩ : _ ∧ _ ∧ _ := by simpa only [Prod.mk.injEq] using size_is w
  have z0 : ((S0 w os).heap.isNs mainGlobals && (S0 w os).gens.size == 0) = true := by
    show ((boot_heap w.params).isNs mainGlobals && _) = true
    rw [z1]; rfl
  have z2 : (S0 w os).heap.objs.size = 11 := z2
  have z3 : (S0 w os).heap.nsMap mainGlobals "__annotations__" = annT := z3
  unfold topFrom
  rw [z0, z2, z3, r]
  dsimp only [Option.bind]
  have l2 : (staticsOk (importedModules pw.main.body) (S0 w os).heap sF.abs.heap && namesBound pw sF.abs.heap && gensDone sF.abs && laidKept (S0 w os).heap sF.abs.heap) = true := l2
  show (match staticsOk (importedModules pw.main.body) (S0 w os).heap sF.abs.heap && namesBound pw sF.abs.heap && gensDone sF.abs && laidKept (S0 w os).heap sF.abs.heap with | true => some sF.abs | false => none) = some sF.abs
  rw [l2]
theorem open_ex (w : World) : ∃ os, fencedOpening treeTable pw w 10000 = some (S0 w os) := by
  have h := open_is w
  generalize fencedOpening treeTable pw w 10000 = x at h ⊢
  cases x with
  | none => cases h
  | some s =>
    obtain ⟨hp, gs, d, k, os⟩ := s
    have h := Option.some.inj h
    have h1 : hp = boot_heap w.params := congrArg Prod.fst h
    have h2 : gs = Array.mk [] := congrArg (fun x => x.2.1) h
    have h3 : d = boot_drawn := congrArg (fun x => x.2.2.1) h
    have h4 : k = boot_toks := congrArg (fun x => x.2.2.2) h
    subst h1; subst h2; subst h3; subst h4
    exact ⟨os, rfl⟩
theorem left_gen {p q : Program} {loose : List Str} {Xt : Shared → Bool} {α : Type} {Yf : Shared → α} {y : α} {N : Nat} {mods : List Str} {w : World} {s0 sF : Shared} (e : fencedOpening treeTable p w N = some s0) (t : topFrom treeTable p w N s0 = some sF)
    (l3 : openSeen q loose mods Xt true sF = openGood q loose) (l4 : Yf sF = y) : (openEnds treeTable p w N).map (fun s => (openSeen q loose mods Xt true s, Yf s)) = some (openGood q loose, y) := by
  unfold openEnds
  rw [e]
  show (topFrom treeTable p w N s0).map _ = _
  rw [t]
  show some (openSeen q loose mods Xt true sF, Yf sF) = _
  rw [l3, l4]
theorem ran_all {w : World} {os : OsState} {sF : SharedT} {q : Pos} (hr : segRunT treeTable pw w 11 annT 1 6000 (ST w os) (piecesOf (behindTheImports pw) envT cT pos0 [topFrame pos0]) = some (.next, sF, cT, q)) :
    topRun treeTable pw w 11 annT 10000 (S0 w os) (topStub pw) = some sF.abs := by
  have r := topRun_mono 3978 _ _ _ _ (top_ran hr)
  have e : 12 + (1 + (6000 + 9)) + 3978 = 10000 := by decide
  generalize 12 + (1 + (6000 + 9)) + 3978 = m at r e
  subst e
  exact r
theorem left_is : LeftO pw qT looseT (fun _ => true) (fun s => asT.map s.heap.get?) (fun w => (KT w.params).map fun p => some p.2) 10000 := by
  intro w
  obtain ⟨os, e⟩ := open_ex w
  obtain ⟨sF, q, hr, l2, l3, l4⟩ := run_ex w os
  exact left_gen (Yf := fun s => asT.map s.heap.get?) e (top_from (ran_all hr) l2) l3 l4
end Mine

end
/- H7 -/
section
open PySem PySem.W PySem.Calls PyProof.Rows
set_option maxRecDepth 100000
set_option maxHeartbeats 8000000
namespace Mine
theorem law_def : ∃ d kwd, defOf qT (PySem.Challenge.rw_nz0221_01.row.name) = some (d, kwd) ∧ d.name = Str.ofString "law" ∧ PySem.Challenge.rw_nz0221_01.row.prog.theDef PySem.Challenge.rw_nz0221_01.row.name = some (d.params, d.body, d.scope) ∧ kwWritten? d.params.kwonlyargs d.params.kw_defaults = some kwd := ⟨_, _, by rfl, by rfl, by rfl, by rfl⟩
theorem head_b : PySem.Challenge.rw_nz0221_01.row.prog.bare := ⟨rfl, rfl, rfl, rfl, rfl, by decide +kernel⟩
theorem head_w : PySem.Challenge.rw_nz0221_01.row.toRowW.promised := by w_witness2
/-- the law's row -/
noncomputable abbrev RR : OpenRow := PySem.Challenge.rw_nz0221_01.row
theorem head_f : frees RR.toRowW = true := by decide +kernel
theorem head_c : chainsOk qT = true := by decide +kernel
theorem head_o : opensWell RR.prog = true := by decide +kernel
theorem law_name (P : Params) : nsIn (KT P) mainGlobals (Str.ofString "law") = some (some (.ref 660)) := by kernel_rfl
/-- what is left to be shown: the call of the law's def, at 660, from a heap that the top has left -/
noncomputable def LawRuns : Prop := ∀ (w : World) (s₀ s₁ : Shared) (mg mb : Str → Option Value), Ground qT looseT RR.records (fun _ _ => True) w s₀ mg mb s₁.heap → (KT w.params).In s₁.heap → s₁.gens = #[] →
  ∀ (args : List WData) (vals : List Value) (as : List Addr), RR.toRowW.claim.pre args = true → WData.layableAll args = true → ReadsAllW RR.records (classAt s₀.heap) s₁.heap vals args as → WellAll w.params s₁.heap vals args → (∀ a ∈ as, (a == sysModules) = false) →
    wpN (model RR.prog w) callerA (PySem.call (.ref 660) vals) (fun v s' => GoodWG RR.toRowW.claim (classAt s₀.heap) (ExcName.means s₀.heap) args s₁ (.ok (.ret v)) s') s₁
theorem head_row (run : LawRuns) (said : RR.wellSaid = true) : RR.Holds := by
  obtain ⟨d, kwd, hdef, _, hp, hk⟩ := law_def
  obtain ⟨f1, f2, f3, f4, _⟩ := frees_parts head_f
  refine ⟨said, head_w, ⟨head_b, head_o, rfl⟩, head_w.witness, fun w => ?_⟩
  obtain ⟨ends, each⟩ := LeftO.behind (p := RR.prog) (XP := fun _ _ => True) left_is (fun _ _ => trivial) head_c w
  refine ⟨ends, fun s' hs' => ?_⟩
  obtain ⟨s₀, hf, hg0, s, hT, hz, hgens, hg, G0, y⟩ := each s' hs'
  have RF : RecFacts RR.records s.heap := recFacts_nil rfl
  have K0 : (KT w.params).In s.heap := InK.of asT_is w s y
  have z : s.gens = #[] := Array.eq_empty_of_size_eq_zero (beq_iff_eq.mp hgens)
  have pins : ∀ n ∈ (if RR.pinned then [RR.name] else []), isTheDefsW RR.prog s.heap n := fun n hn => by
    obtain rfl : n = RR.name := by split at hn <;> simp_all
    exact pinned_of_view hg G0 hdef hp hk
  refine ⟨s₀, hf, hg0, s, hT, pins, RF.1, RF.2.1, ?_⟩
  refine callFromN (c := RR.toRowW.claim) hz z fun args hpre hlay ord hord => ?_
  have H0 : Ground qT looseT RR.records (fun _ _ => True) w s _ _ s.heap := RF.ground G0
  -- the arguments laid, and what they keep
  obtain ⟨⟨vs, s₁⟩, hlaid⟩ := Option.isSome_iff_exists.mp (layAllW_isSome (P := w.params) (ord := ord) H0.has args RR.args s (pre_splitW hpre).1)
  have kp := layAllW_keeps _ _ _ hlaid
  obtain ⟨r1, _, r3, _⟩ := layAllW_rest _ _ _ hlaid
  obtain ⟨as, e1, e2, e3⟩ := reads_layAllW hord _ _ _ hlaid hlay s₁.heap fun _ _ e => e
  have L : Laid RR.records w s s₁ args vs as := ⟨⟨ord, hord, hlaid⟩, e1, e2, e3, kp, r1.trans z, r3⟩
  have H1 := H0.keeps (fun _ _ _ _ _ => trivial) kp
  have K1 : (KT w.params).In s₁.heap := InK.keeps (K := KT) w _ _ K0 kp
  refine ⟨vs, s₁, hlaid, wpN_bind (wpN_any (wpAny_nsGet H1.T.g ?_))⟩
  rw [show RR.name = Str.ofString "law" from rfl, mg_of K1 H1.T.g (law_name w.params)]
  refine wpN_bind (wpN_mono (run w s s₁ _ _ H1 K1 L.gens args vs as hpre hlay L.reads L.well (L.low H0.low)) fun v s2 g => wpN_pure ⟨_, rfl, ?_⟩)
  obtain ⟨q1, q2, q3⟩ := g.laid (c := RR.toRowW.claim) f1 rfl (ident_freeW f2 f3 f4) L
  exact ⟨q1, q2, q3, fun q => ⟨namesKept_of hT hg _ kp g.2.1.old, noTable rfl q⟩⟩
theorem said1 : (sreFenced pw.main && ((moduleNames pw.main.body).isEmpty || lookedIntoSs (moduleNames pw.main.body) pw.main.body)) = true := by decide +kernel
theorem said2 : namesResolve pw = true := by decide +kernel
theorem said3 : pw.boundNames.all (fun n => !worldNames.contains n) = true := by decide +kernel
theorem said4 : noRoadLSs { strict := !(importedModules pw.main.body).all cThrough.contains, foot := none, bare := (["vars", "dir", "locals"] : List Str).filter (readsOut pw pw.main.body) } pw.main.body = true := by decide +kernel
theorem said5 : (namesMeet pw pw.main.body fun _ n => attrL n) = true := by decide +kernel
theorem said_looks : looksOpen PySem.Challenge.rw_nz0221_01.row.prog = true := look_both (look_both (look_both (look_both said1 said2) said3) said4) said5
theorem said_part : PySem.Challenge.rw_nz0221_01.row.partSaid = true := by
  unfold OpenRow.partSaid
  rw [said_looks]
  decide +kernel
theorem said_row : PySem.Challenge.rw_nz0221_01.row.wellSaid = true := by
  unfold OpenRow.wellSaid
  rw [said_part]
  decide +kernel
theorem said_law : PySem.Challenge.rw_nz0221_01.wellSaid = true := by
  unfold OpenLaw.wellSaid
  rw [said_row]
  decide +kernel
theorem head (run : LawRuns) : PySem.Challenge.rw_nz0221_01.Holds := holds_law said_law (head_row run)
end Mine

end
/- T3 -/
section

open PySem PySem.W PyProof.Rows
set_option maxRecDepth 100000
namespace Mine
theorem tk_glob (P : Params) : (globT.all (globB (KT P))) = true := by kernel_rfl
theorem tk_fld (P : Params) : (fldT.all fun q => q.2.all (fldB (KT P) q.1)) = true := by kernel_rfl
theorem tk_set (P : Params) : ∀ q ∈ fldT, findIn (KT P) (.ref q.1) "__setattr__" = some (some (.builtin "object.__setattr__")) := by
  intro q hq
  have : q.1 = 195 ∨ q.1 = 301 ∨ q.1 = 590 ∨ q.1 = 525 ∨ q.1 = 490 := by
    simp only [fldT, List.mem_cons, List.not_mem_nil, or_false] at hq
    rcases hq with rfl | rfl | rfl | rfl | rfl <;> simp
  rcases this with e | e | e | e | e <;> (rw [e]; kernel_rfl)
theorem tk_mth (P : Params) : (mthT.all fun q => q.2.all (mthB (KT P) q.1)) = true := by kernel_rfl
theorem tk_con (P : Params) : (conT.all fun q => q.2.all (conB (KT P) (.type "type") q.1)) = true := by kernel_rfl
theorem tk_keep (P : Params) : (fnsT.all fun a => keepIn (KT P) (.ref a)) = true ∧ (iniT.all fun a => keepIn (KT P) (.ref a.1)) = true := ⟨by kernel_rfl, by kernel_rfl⟩
theorem tk_fn (P : Params) : (fnsT.all (fnB (KT P) dflT)) = true := by kernel_rfl
theorem tk_ini (P : Params) : (iniT.all (iniB (KT P))) = true := by kernel_rfl
theorem tk_ity (P : Params) : ∀ q ∈ iniT, typeIn (KT P) (.ref q.2) = some (.type "function") := by
  intro q hq
  have : q.2 = 108 ∨ q.2 = 214 ∨ q.2 = 335 ∨ q.2 = 508 ∨ q.2 = 543 := by
    simp only [iniT, List.mem_cons, List.not_mem_nil, or_false] at hq
    rcases hq with rfl | rfl | rfl | rfl | rfl <;> simp
  rcases this with e | e | e | e | e <;> (rw [e]; kernel_rfl)
noncomputable def seqOf (K : Frag) (a : Addr) : List Value × Nat := match K.lookup a with
  | some ⟨_, _, .seq ⟨l⟩ n, _⟩ => (l, n)
  | _ => ([], 0)
theorem tk_sz (P : Params) : ∃ vs n, (KT P).lookup 306 = some ⟨.type "tuple", none, .seq (List.toArray vs) n, #[]⟩ ∧ IntsAre vs [1, 2, 4] := by
  have h1 : (KT P).lookup 306 = some ⟨.type "tuple", none, .seq (List.toArray (seqOf (KT P) 306).1) (seqOf (KT P) 306).2, #[]⟩ := by kernel_rfl
  have h2 : eqStrs (seqOf (KT P) 306).1 [.int 1, .int 2, .int 4] = true := by kernel_rfl
  refine ⟨_, _, h1, ?_⟩
  generalize (seqOf (KT P) 306).1 = vs at h2
  have := eqStrs_is (g := heap0) h2
  cases this with | cons a b => cases b with | cons b d => cases d with | cons d e => cases e with | nil =>
    obtain ⟨t1, rfl⟩ := a
    obtain ⟨t2, rfl⟩ := b
    obtain ⟨t3, rfl⟩ := d
    exact .cons _ _ (.cons _ _ (.cons _ _ .nil))
end Mine

end
/- P1 -/
section
open PySem PySem.W PyProof.Rows
namespace Mine

/-- the law's state between its laps -/
structure Ps where
  scr : List Int
  xs : List Int
  cnt : Int
  sz : Int
  r0 : Int
  r1 : Int
  lt : Int
  least : Int
  thr : Int
  other : Bool
  others : Int
  raised : Int
  lost : Bool
  got : List Int
  sure : List Int
  sent : List Int
  losses : Int
  waits : Bool
  out : List Int
  wt : List Int
  lostU : Bool
  sentU : Bool
  lap : Int

/-- the heap of the law; lines and served as they are -/
noncomputable def HLx (p : Ps) (ln sv lv : V) : List O :=
  [.inst 590 1,
   .dict [(S "memory", .obj 2), (S "stretches", .obj 5)],
   .inst 490 3,
   .dict [(S "size", .sint 16), (S "begin", .int 0), (S "end", .int 16), (S "words", .obj 4)],
   .dict [],
   .list [.obj 6, .obj 12],
   .inst 525 7,
   .dict [(S "begin", .int 268435456), (S "end", .int 268435464), (S "device", .obj 8)],
   .inst 195 9,
   .dict [(S "size", .sint p.sz), (S "out", .obj 10), (S "waiting", .obj 11), (S "enabled", .int p.lt), (S "line", .int 0), (S "divisor", .int 0), (S "lost", lv), (S "sent", .sbool p.sentU)],
   .barr p.out,
   .barr p.wt,
   .inst 525 13,
   .dict [(S "begin", .int 201326592), (S "end", .int 203427840), (S "device", .obj 14)],
   .inst 301 15,
   .dict [(S "sources", .int 12), (S "contexts", .int 1), (S "priorities", .obj 16), (S "lines", ln), (S "served", sv), (S "enabled", .obj 17), (S "thresholds", .obj 18)],
   .list [.int 0, .int 0, .int 0, .int p.r0, .int 0, .int 0, .int 0, .int 0, .int 0, .int 0, .int p.r1, .int 0, .int 0],
   .list [.int 1032],
   .list [.sint p.thr],
   .dict [(S "size", .sint p.sz), (S "ranks", .obj 20), (S "least", .sint p.least), (S "other", .sbool p.other), (S "others", .sint p.others), (S "raised", .sint p.raised), (S "lost", .sbool p.lost), (S "got", .obj 21), (S "sure", .obj 22), (S "sent", .obj 23), (S "losses", .sint p.losses), (S "let", .int p.lt), (S "waits", .sbool p.waits)],
   .list [.int p.r0, .int p.r1],
   .il p.got,
   .il p.sure,
   .il p.sent,
   .list [.obj 25, .sint p.cnt],
   .il p.xs]
@[irreducible] noncomputable def HL (p : Ps) (ln sv : V) : List O := HLx p ln sv (.sbool p.lostU)
/-- the law's names -/
noncomputable def lL (p : Ps) : List (Str × V) := [(S "script", .ro p.scr), (S "box", .obj 24), (S "size", .sint p.sz), (S "ranks", .obj 20), (S "plain", .obj 19), (S "uart", .obj 8), (S "plic", .obj 14), (S "bus", .obj 0)]
noncomputable def lLl (p : Ps) : List (Str × V) := [(S "script", .ro p.scr), (S "box", .obj 24), (S "size", .sint p.sz), (S "ranks", .obj 20), (S "plain", .obj 19), (S "uart", .obj 8), (S "plic", .obj 14), (S "bus", .obj 0), (S "lap", .sint p.lap)]
noncomputable def vL (p : Ps) : List V := [.ro p.scr, .obj 24, .sint p.sz, .obj 20, .obj 19, .obj 8, .obj 14, .obj 0, .sint p.lap]
end Mine
namespace Mine
noncomputable def sAt : List Stmt → Nat → Stmt
  | [], _ => .Return none ⟨0, 0, 0, 0⟩
  | s :: _, 0 => s
  | _ :: r, n + 1 => sAt r n
noncomputable def fBody : Stmt → List Stmt
  | .For _ _ b _ _ => b
  | .If _ b _ _ => b
  | _ => []
noncomputable def fElse : Stmt → List Stmt
  | .If _ _ b _ => b
  | _ => []
noncomputable def fTgt : Stmt → Expr
  | .For t _ _ _ _ => t
  | .Assign [t] _ _ => t
  | _ => .Name (S "") ⟨0, 0, 0, 0⟩
/-- the law between its laps -/
noncomputable def stL (K : Frag) (p : Ps) (L : Int) : St := ⟨HL p (.int L) (.int 0), lL p, [], scOf K 660⟩
/-- the law within a lap -/
noncomputable def stLl (K : Frag) (p : Ps) (L : Int) : St := ⟨HL p (.int L) (.int 0), lLl p, [], scOf K 660⟩
/-- deed's frame -/
noncomputable def lD : List (Str × V) := [(S "box", .obj 24), (S "bus", .obj 0), (S "uart", .obj 8), (S "plain", .obj 19)]
noncomputable def stDd (K : Frag) (p : Ps) (L : Int) : St := ⟨HL p (.int L) (.int 0), lD, vL p, scOf K 641⟩
noncomputable def stDw (K : Frag) (p : Ps) (L : Int) (w : Int) : St := ⟨HL p (.int L) (.int 0), lD ++ [(S "way", .sint w)], vL p, scOf K 641⟩
/-- behind the last statement of a body -/
noncomputable def kLast (T : Tab) (n : Nat) (k : KF) : KF := fun fl st1 => after T n fl st1 fun fl st2 => match fl with
  | .next => k .next st2
  | .ret v => k (.ret v) st2
/-- behind a statement -/
noncomputable def kThen (T : Tab) (ih : Ev) (n : Nat) (r : List Stmt) (k : KF) : KF := fun fl st1 => after T n fl st1 fun fl st2 => match fl with
  | .next => evSs T ih r st2 k
  | .ret v => k (.ret v) st2
/-- a call that is a statement -/
noncomputable def kExpr (k : KF) : KV := fun v st1 => match v with
  | .none => k .next st1
  | _ => False
/-- the end of a def's body -/
noncomputable def kRet (st : St) (k : KV) : KF := fun fl st' => leave st (match fl with | .next => .none | .ret v => v) st' k
/-- an if not call() -/
noncomputable def kNot (ih : Ev) (b o : List Stmt) (k : KF) : KV := fun v st1 => truth v fun c => match !c with
  | true => ih.ss b st1 k
  | false => ih.ss o st1 k
structure CompP where
  elt : Expr
  t : Expr
  it : Expr
  cs : Scope
noncomputable def compOf : Stmt → CompP
  | .Expr (.Call _ [_, _, .ListComp elt [⟨t, it, [], 0⟩] cs _] _ _) _ => ⟨elt, t, it, cs⟩
  | _ => ⟨.Name (S "") ⟨0, 0, 0, 0⟩, .Name (S "") ⟨0, 0, 0, 0⟩, .Name (S "") ⟨0, 0, 0, 0⟩, ⟨.function, [], false, false, []⟩⟩
/-- deed's first arm -/
noncomputable def cameS (K : Frag) : Stmt := sAt (fBody (sAt (bodyOf K 641) 1)) 0
noncomputable def stC (K : Frag) (p : Ps) (L w q : Int) (ks : List (Str × V)) : St := ⟨HL p (.int L) (.int 0) ++ [.rng 0 q false], (S "box", .obj 24) :: ks, [.obj 24, .obj 0, .obj 8, .obj 19, .sint w, .obj 19, .obj 8, .top 636] ++ vL p, relabel (scOf K 641) (compOf (cameS K)).cs.names⟩
noncomputable def stDc (K : Frag) (p : Ps) (L w q : Int) (os : List Int) : St := ⟨HL p (.int L) (.int 0) ++ [.rng 0 q false, .il os], lD ++ [(S "way", .sint w)], vL p, scOf K 641⟩
/-- a draw -/
noncomputable def tkP (p : Ps) (m : Int) (k : Ps → Int → Prop) : Prop := Br (ltB 0 (Int.ofNat p.xs.length)) (Br (decide (0 < p.xs.length)) (k { p with xs := p.xs.tail } ((p.xs.headD 0).fmod m)) False)
  (k { p with cnt := p.cnt + 1 } ((5 * (p.cnt + 1) + (p.cnt + 1).fdiv 3).fmod m))
noncomputable def oct (z : Int) : Int := Builtin.bitAnd (Builtin.bitAnd z (1 * 2 ^ (8 * 1 : Int).toNat - 1)) 255
noncomputable def kComp (ih : Ev) (st1 : St) (k : KV) : List Int → St → Prop := compK st1 fun v st => pop st fun pl st => pop st fun ua st => pop st fun fv st => ih.call fv [ua, pl, v] st k
noncomputable def stDq (K : Frag) (p : Ps) (L w q : Int) : St := ⟨HL p (.int L) (.int 0) ++ [.rng 0 q false], lD ++ [(S "way", .sint w)], [.obj 19, .obj 8, .top 636] ++ vL p, scOf K 641⟩
/-- came's frame -/
noncomputable def stCm (K : Frag) (p : Ps) (L w : Int) (os : List Int) : St := ⟨HL p (.int L) (.int 0) ++ [.il os], [(S "uart", .obj 8), (S "plain", .obj 19), (S "octets", .obj 26)], [.obj 24, .obj 0, .obj 8, .obj 19, .sint w] ++ vL p, scOf K 636⟩
noncomputable def feedS (K : Frag) : Stmt := sAt (bodyOf K 115) 0
/-- feed's frame; zs: the octets that it was handed -/
noncomputable def stF (K : Frag) (p : Ps) (L w : Int) (os zs : List Int) : St := ⟨HL p (.int L) (.int 0) ++ [.il os], [(S "self", .obj 8), (S "octets", .bytes zs)], [.obj 8, .obj 19, .obj 26, .obj 24, .obj 0, .obj 8, .obj 19, .sint w] ++ vL p, scOf K 115⟩
noncomputable def lapFor (K : Frag) : Stmt := sAt (bodyOf K 660) 11
/-- rr's frame -/
noncomputable def lR : List (Str × V) := [(S "bus", .obj 0), (S "plic", .obj 14), (S "uart", .obj 8), (S "plain", .obj 19)]
noncomputable def stR0 (K : Frag) (p : Ps) (L : Int) : St := ⟨HL p (.int L) (.int 0), lR, vL p, scOf K 653⟩
noncomputable def stR1 (K : Frag) (p : Ps) (L : Int) (ds : List Int) : St := ⟨HL p (.int L) (.int 0) ++ [.il ds], lR ++ [(S "due", .obj 26), (S "ranks", .obj 20), (S "least", .sint p.least)], vL p, scOf K 653⟩
noncomputable def stR2 (K : Frag) (p : Ps) (L : Int) (ds ts : List Int) : St := ⟨HL p (.int L) (.int 0) ++ [.il ts, .il ds], lR ++ [(S "due", .obj 27), (S "ranks", .obj 20), (S "least", .sint p.least), (S "told", .obj 26)], vL p, scOf K 653⟩
/-- driven's frame -/
noncomputable def vR (p : Ps) : List V := [.obj 0, .obj 14, .obj 8, .obj 19, .obj 26, .obj 20, .sint p.least] ++ vL p
noncomputable def stV (K : Frag) (p : Ps) (L : Int) (ds ts : List Int) : St := ⟨HL p (.int L) (.int 0) ++ [.il ds, .il ts], lR ++ [(S "told", .obj 27)], vR p, scOf K 629⟩
noncomputable def drFor (K : Frag) : Stmt := sAt (bodyOf K 629) 2
/-- what is due, by the ranks -/
noncomputable def tens : Nat → List Int
  | 0 => []
  | n + 1 => 10 :: tens n
noncomputable def insL (r0 r1 : Int) (b : Bool) (n : Nat) : List Int := match ltB r0 r1, b with
  | true, true => tens n ++ [3]
  | false, true => 3 :: tens n
  | _, false => tens n
noncomputable def due0 (b : Bool) (q : Prop) : Prop := match b with
  | true => q
  | false => Br (decide (([] : List Int).length + ([] : List Int).length ≤ 1000000)) q False
noncomputable def due10 (p : Ps) (b : Bool) (k : List Int → Prop) : Prop := Br (ltB p.least p.r1)
  (Br (ltB (Int.ofNat p.got.length) (Int.ofNat p.sure.length)) (Br p.waits (k (insL p.r0 p.r1 b 2)) (k (insL p.r0 p.r1 b 1))) (Br p.waits (k (insL p.r0 p.r1 b 1)) (due0 b (k (insL p.r0 p.r1 b 0)))))
  (k (insL p.r0 p.r1 b 0))
noncomputable def dueT (p : Ps) (k : List Int → Prop) : Prop := Br p.other (Br (ltB p.least p.r0) (due10 p true k) (due10 p false k)) (due10 p false k)
noncomputable def Conf (p : Ps) : Prop := (p.r0 = 2 ∧ p.r1 = 5) ∨ (p.r0 = 5 ∧ p.r1 = 2) ∨ (p.r0 = 3 ∧ p.r1 = 3)
noncomputable def kAsg (T : Tab) (ih : Ev) (t : Expr) (k : KF) : KV := fun v st1 => asg T ih t v st1 fun st2 => k .next st2
/-- driven within a turn -/
noncomputable def stVl (K : Frag) (p : Ps) (L : Int) (ds ts : List Int) (j : Int) : St := ⟨HL p (.int L) (.int 0) ++ [.il ds, .il ts], lR ++ [(S "told", .obj 27), (S "lap", .sint j)], vR p, scOf K 629⟩
noncomputable def stVi (K : Frag) (p : Ps) (L : Int) (ds ts : List Int) (j : Int) : St := ⟨HL p (.int L) (.int 0) ++ [.il ds, .il ts], lR ++ [(S "told", .obj 27), (S "lap", .int j)], vR p, scOf K 629⟩
noncomputable def stW (K : Frag) (p : Ps) (L sv wire : Int) (ds ts : List Int) (j : Int) : St := ⟨HL p (.int L) (.int sv) ++ [.il ds, .il ts], lR ++ [(S "told", .obj 27), (S "lap", .sint j), (S "wire", .int wire)], vR p, scOf K 629⟩
noncomputable def linesP (p : Ps) (k : Int → Prop) : Prop := Br (ltB 0 (Int.ofNat p.wt.length)) (Br p.other (k 1032) (k 1024)) (match eqB p.lt 3 with
  | true => Br p.sentU (Br p.other (k 1032) (k 1024)) (Br p.other (k 8) (k 0))
  | false => Br p.other (k 8) (k 0))
/-- as linesP, where the other source is known to be down -/
noncomputable def linesQ (p : Ps) (k : Int → Prop) : Prop := Br (ltB 0 (Int.ofNat p.wt.length)) (k 1024) (match eqB p.lt 3 with
  | true => Br p.sentU (k 1024) (k 0)
  | false => k 0)
noncomputable def OkL (L : Int) : Prop := L = 0 ∨ L = 8 ∨ L = 1024 ∨ L = 1032
noncomputable def OkLt (p : Ps) : Prop := p.lt = 1 ∨ p.lt = 3
noncomputable def kGo (T : Tab) (ih : Ev) (t : Expr) (body : List Stmt) (r : List V) (k : KF) : KF := fun fl st2 => match fl with
  | .next => forGo T ih t body r st2 k
  | .ret v => k (.ret v) st2
noncomputable def itT (p : Ps) (L : Int) (kr : Prop) (kn : Int → Prop) : Prop := match eqB L 0, eqB L 8, eqB L 1024 with
  | true, _, _ => kr
  | _, true, _ => Br (ltB p.thr p.r0) (kn 3) kr
  | _, _, true => Br (ltB p.thr p.r1) (kn 10) kr
  | _, _, _ => Br (ltB p.thr p.r0) (kn (match ltB p.r0 p.r1 with | true => 10 | false => 3)) (Br (ltB p.thr p.r1) (kn (match ltB p.r0 p.r1 with | true => 10 | false => 3)) kr)
/-- on to the rest of a body -/
noncomputable def kOn (T : Tab) (ih : Ev) (r : List Stmt) (k : KF) : KF := fun fl st => match fl with
  | .next => evSs T ih r st k
  | .ret v => k (.ret v) st
theorem evSs_append (T : Tab) (ih : Ev) : ∀ (a b : List Stmt) (st : St) (k : KF), evSs T ih (a ++ b) st k = evSs T ih a st (kOn T ih b k)
  | [], b, st, k => rfl
  | s :: a, b, st, k => by
    show evS T ih s st _ = evS T ih s st _
    congr 1
    funext fl st1
    congr 1
    funext fl st2
    cases fl with
    | next => exact evSs_append T ih a b st2 k
    | ret v => rfl
theorem evSs_split (T : Tab) (ih : Ev) (n : Nat) (b : List Stmt) (st : St) (k : KF) : evSs T ih b st k = evSs T ih (b.take n) st (kOn T ih (b.drop n) k) := by
  rw [← evSs_append, List.take_append_drop]
theorem forGo_cons (T : Tab) (ih : Ev) (t : Expr) (b : List Stmt) (v : V) (r : List V) (st : St) (k : KF) : forGo T ih t b (v :: r) st k = asg T ih t v st (fun st1 => ih.ss b st1 (kGo T ih t b r k)) := rfl
theorem ev_ss (T : Tab) (n : Nat) (b : List Stmt) (st : St) (k : KF) : (ev T (n + 1)).ss b st k = evSs T (ev T n) b st k := rfl
theorem evSs_cons (T : Tab) (ih : Ev) (s : Stmt) (r : List Stmt) (st : St) (k : KF) : evSs T ih (s :: r) st k = evS T ih s st (kThen T ih (lineOf s) r k) := rfl
/-- served's frame -/
noncomputable def vW (p : Ps) (j : Int) : List V := [.obj 0, .obj 14, .obj 8, .obj 19, .obj 27, .sint j, .int 10] ++ vR p
noncomputable def stS0 (K : Frag) (p : Ps) (L : Int) (ds ts : List Int) (j : Int) : St := ⟨HL p (.int L) (.int 1024) ++ [.il ds, .il ts], lR ++ [(S "wire", .int 10)], vW p j, scOf K 622⟩
noncomputable def stS (K : Frag) (p : Ps) (L : Int) (ds ts : List Int) (j c : Int) : St := ⟨HL p (.int L) (.int 1024) ++ [.il ds, .il ts], lR ++ [(S "wire", .int 10), (S "cause", .int c)], vW p j, scOf K 622⟩
/-- within a turn -/
noncomputable def stSi (K : Frag) (p : Ps) (L : Int) (ds ts : List Int) (j i : Int) : St := ⟨HL p (.int L) (.int 1024) ++ [.il ds, .il ts], lR ++ [(S "wire", .int 10), (S "cause", .int 4), (S "lap", .int i)], vW p j, scOf K 622⟩
/-- at its end: what was lost is told -/
noncomputable def stSe (K : Frag) (p : Ps) (L : Int) (ds ts : List Int) (j i c : Int) : St := ⟨HLx p (.int L) (.int 1024) (.bool false) ++ [.il ds, .il ts], lR ++ [(S "wire", .int 10), (S "cause", .int 4), (S "lap", .int i), (S "status", .int c)], vW p j, scOf K 622⟩
/-- cause 2: the empty sender is told -/
noncomputable def stS2 (K : Frag) (p : Ps) (L : Int) (ds ts : List Int) (j : Int) : St := ⟨HLx p (.int L) (.int 1024) (.sbool p.lostU) ++ [.il ds, .il ts], lR ++ [(S "wire", .int 10), (S "cause", .int 2)], vW p j, scOf K 622⟩
noncomputable def svFor (K : Frag) : Stmt := sAt (bodyOf K 622) 4
noncomputable def oct0 (z : Int) : Int := Builtin.bitAnd z (1 * 2 ^ (8 * 1 : Int).toNat - 1)
/-- a row's octet is read -/
noncomputable def gotP (p : Ps) (b : Int) (k : Ps → Prop) : Prop := Br (eqB (Int.ofNat p.wt.length) 0)
  (Br (decide (p.got.length + [oct0 0].length ≤ 1000000)) (k { p with got := p.got ++ [oct0 0], lostU := false, losses := p.losses + ((oct0 (96 + 1 + 2 * b)).fdiv 2).fmod 2 }) False)
  (Br (decide (0 < p.wt.length)) (Br (decide (p.got.length + [oct0 (p.wt.headD 0)].length ≤ 1000000)) (k { p with got := p.got ++ [oct0 (p.wt.headD 0)], wt := p.wt.drop (Int.toNat 1), lostU := false, losses := p.losses + ((oct0 (96 + 1 + 2 * b)).fdiv 2).fmod 2 }) False) False)
noncomputable def stSf (K : Frag) (p : Ps) (L : Int) (ds ts : List Int) (j i : Int) : St := ⟨HL p (.int L) (.int 1024) ++ [.il ds, .il ts], lR ++ [(S "wire", .int 10), (S "cause", .int 4), (S "lap", .sint i), (S "status", .int 96)], vW p j, scOf K 622⟩
noncomputable def forIt : Stmt → Expr
  | .For _ it _ _ _ => it
  | _ => .Name (S "") ⟨0, 0, 0, 0⟩
noncomputable def addO (st : St) (o : O) : St := ⟨st.H ++ [o], st.l, st.s, st.sc⟩
noncomputable def st00 (K : Frag) (xs : List Int) : St := ⟨[], [(S "script", .ro xs)], [], scOf K 660⟩
noncomputable def stA (K : Frag) (xs ys : List Int) (sz r0 r1 : Int) : St := ⟨[.list [.int r0, .int r1], .list [.obj 2, .sint 0], .il ys], [(S "script", .ro xs), (S "box", .obj 1), (S "size", .sint sz), (S "ranks", .obj 0)], [], scOf K 660⟩
noncomputable def stB (K : Frag) (xs ys : List Int) (sz r0 r1 lt : Int) : St := ⟨[.dict [(S "size", .sint sz), (S "ranks", .obj 1), (S "least", .sint 0), (S "other", .sbool false), (S "others", .sint 0), (S "raised", .sint 0), (S "lost", .sbool false), (S "got", .obj 2), (S "sure", .obj 3), (S "sent", .obj 4), (S "losses", .sint 0), (S "let", .int lt), (S "waits", .sbool false)],
   .list [.int r0, .int r1], .il [], .il [], .il [], .list [.obj 6, .sint 0], .il ys], [(S "script", .ro xs), (S "box", .obj 5), (S "size", .sint sz), (S "ranks", .obj 1), (S "plain", .obj 0)], [], scOf K 660⟩
noncomputable def p00 (xs ys : List Int) (sz r0 r1 lt : Int) : Ps := { scr := xs, xs := ys, cnt := 0, sz := sz, r0 := r0, r1 := r1, lt := lt, least := 0, thr := 0, other := false, others := 0, raised := 0, lost := false, got := [], sure := [], sent := [], losses := 0, waits := eqB lt 3, out := [], wt := [], lostU := false, sentU := eqB lt 3, lap := 0 }
noncomputable def stP (K : Frag) (p : Ps) : St := ⟨HL p (.int 0) (.int 0), lL p ++ [(S "place", .sint 201334784), (S "value", .sint 1032)], [], scOf K 660⟩
noncomputable def stLg (K : Frag) (p : Ps) (L : Int) (ds ts : List Int) : St := ⟨HL p (.int L) (.int 0) ++ [.il ts, .il ds], lLl p, [], scOf K 660⟩
noncomputable def pick3 (z : Int) (a b c : Prop) : Prop := Br (decide (z = 0)) a (Br (decide (z = 0 + 1)) b (Br (decide (z = 0 + 1 + 1)) c False))
noncomputable def moreP (ys : List Int) (m : Int) (k : List Int → Int → Prop) (k0 : Prop) : Prop := Br (ltB 0 (Int.ofNat ys.length)) (Br (decide (0 < ys.length)) (k ys.tail ((ys.headD 0).fmod m)) False) k0
noncomputable def ranksP (ys : List Int) (k : List Int → Int → Int → Prop) : Prop := moreP ys 3 (fun ys z => pick3 z (k ys 2 5) (k ys 5 2) (k ys 3 3)) (k ys 2 5)
noncomputable def sizeP (ys : List Int) (k : List Int → Int → Prop) : Prop := moreP ys 3 (fun ys z => pick3 z (k ys 4) (k ys 2) (k ys 6)) (k ys 4)
noncomputable def lapsOf (p : Ps) : Int := match ltB (3 + (Int.ofNat p.scr.length).fdiv 4) 14 with
  | true => 3 + (Int.ofNat p.scr.length).fdiv 4
  | false => 14
end Mine

end
/- P0 -/
section
open PySem PySem.W PyProof.Rows
namespace Mine
/-- a call's function and arguments -/
noncomputable def callArgs (T : Tab) (ih : Ev) (f : Expr) (as : List Expr) (st : St) (k : V → List V → St → Prop) : Prop := match as.any isStar with
  | true => False
  | false => ih.e f st fun fv st1 => match callableV T fv with
    | true => evArgs ih as (push fv st1) fun vs st2 => pop st2 fun fv st3 => k fv vs st3
    | false => False
structure CallS where
  f : Expr
  as : List Expr
  b : List Stmt
  o : List Stmt
  ln : Nat
/-- if not f(args), f a name: its parts, and that it is so -/
structure IfN (s : Stmt) where
  c : CallS
  x : Str
  q : Pos
  p : Pos
  r : Pos
  pos : Pos
  hf : c.f = .Name x q
  hs : s = .If (.UnaryOp .Not (.Call c.f c.as [] p) r) c.b c.o pos
noncomputable def ifN? (s : Stmt) : Option (IfN s) := match s with
  | .If (.UnaryOp .Not (.Call (.Name x q) as [] p) r) b o pos => some ⟨⟨.Name x q, as, b, o, pos.line⟩, x, q, p, r, pos, rfl, rfl⟩
  | _ => none
noncomputable def noCall : CallS := ⟨.Name (S "") ⟨0, 0, 0, 0⟩, [], [], [], 0⟩
noncomputable def ifNotC (s : Stmt) : CallS := match ifN? s with
  | some d => d.c
  | none => noCall
theorem evS_ifNot {T : Tab} {m : Nat} {s : Stmt} {st : St} {k : KF} (e : (ifN? s).isSome = true) : evS T (ev T (m + 4)) s st k =
    callArgs T (ev T (m + 1)) (ifNotC s).f (ifNotC s).as st fun fv vs st3 => (ev T (m + 1)).call fv vs st3 (kNot (ev T (m + 4)) (ifNotC s).b (ifNotC s).o k) := by
  unfold ifNotC
  generalize ifN? s = w at e ⊢
  cases w with
  | none => cases e
  | some d =>
    obtain ⟨⟨f, as, b, o, ln⟩, x, q, p, r, pos, hf, hs⟩ := d
    obtain rfl : f = _ := hf
    subst hs
    rfl
structure ForS where
  t : Expr
  it : Expr
  b : List Stmt
  ln : Nat
noncomputable def for? : Stmt → Option ForS
  | .For t it b [] p => match isSetE it with
    | false => some ⟨t, it, b, p.line⟩
    | true => none
  | _ => none
theorem evS_for {T : Tab} {ih : Ev} {s : Stmt} {c : ForS} {st st1 st2 : St} {k : KF} {i : Nat} {lo hi : Int} (e : for? s = some c) (hit : ∀ κ : KV, ih.e c.it st κ = κ (.obj i) st1) (hH : st1.H[i]? = some (.rng lo hi true)) (hok : rngOk lo hi = true)
    (hc : ∀ F : St → Prop, collected T c.ln st1 F = F st2) : evS T ih s st k = forGo T ih c.t c.b (rngL (hi - lo).toNat lo true) st2 k := by
  unfold for? at e
  split at e
  · split at e
    · rename_i hs
      cases e
      show (match isSetE _ with | true => False | false => _) = _
      rw [hs]
      dsimp only
      rw [hit]
      dsimp only
      rw [hH]
      dsimp only
      rw [hok]
      rw [show ∀ X : Prop, need true true X = X from fun _ => rfl]
      exact hc _
    · cases e
  · cases e
/-- as above, over a range that is not known -/
theorem evS_forS {T : Tab} {ih : Ev} {s : Stmt} {c : ForS} {st st1 st2 : St} {k : KF} {i : Nat} {lo hi : Int} (e : for? s = some c) (hit : ∀ κ : KV, ih.e c.it st κ = κ (.obj i) st1) (hH : st1.H[i]? = some (.rng lo hi false)) 
    (hc : ∀ F : St → Prop, collected T c.ln st1 F = F st2) : evS T ih s st k = Br (rngOk lo hi) (forGo T ih c.t c.b (rngL (hi - lo).toNat lo false) st2 k) False := by
  unfold for? at e
  split at e
  · split at e
    · rename_i hs
      cases e
      show (match isSetE _ with | true => False | false => _) = _
      rw [hs]
      dsimp only
      rw [hit]
      dsimp only
      rw [hH]
      dsimp only
      rw [hc]
      rfl
    · cases e
  · cases e
structure InCall where
  b : List Stmt
  l : List (Str × V)
  sc : List (Str × NameKind)
noncomputable def callIn? (T : Tab) (f : Nat) (vs : List V) : Option InCall := match aget f T.ini, aget f T.spec, T.fns.any (Nat.beq f) with
  | none, none, true => match T.fn f with
    | some fd => match fd.body, bindP (fd.params.args.map (·.arg)) (withDfl fd.params.args.length vs ((aget f T.dfl).getD [])) with
      | .stmts body, some l => match l.all fun e => okParam fd.scope.names e.1 with
        | true => some ⟨body, l, fd.scope.names⟩
        | false => none
      | _, _ => none
    | none => none
  | _, _, _ => none
theorem callF_in {T : Tab} {ih : Ev} {f : Nat} {vs : List V} {c : InCall} {st : St} {k : KV} (e : callIn? T f vs = some c) : callF T ih f vs st k = ih.ss c.b (enter st c.l c.sc) (kRet st k) ∧ aget f T.ini = none := by
  unfold callIn? at e
  split at e
  · rename_i h1 h2 h3
    split at e
    · rename_i fd h4
      split at e
      · rename_i body l h5 h6
        split at e
        · rename_i h7
          cases e
          unfold callF
          rw [h2]; dsimp only
          rw [h3]; dsimp only
          rw [h4]; dsimp only
          rw [h5, h6]; dsimp only
          rw [h7]
          exact ⟨rfl, h1⟩
        · cases e
      · cases e
    · cases e
  · cases e
theorem ev_call {T : Tab} {n f : Nat} {vs : List V} {c : InCall} {st : St} {k : KV} (e : callIn? T f vs = some c) : (ev T (n + 2)).call (.top f) vs st k = evSs T (ev T n) c.b (enter st c.l c.sc) (kRet st k) := by
  obtain ⟨h1, h2⟩ := callF_in (ih := ev T (n + 1)) (st := st) (k := k) e
  show (match aget f T.ini with
    | some fi => callF T (ev T (n + 1)) fi (.obj (st.H.length + 1) :: vs) ⟨st.H ++ [O.dict [], O.inst f st.H.length], st.l, .obj (st.H.length + 1) :: st.s, st.sc⟩ fun v st' => match v with
        | .none => pop st' k
        | _ => False
    | none => callF T (ev T (n + 1)) f vs st k) = _
  rw [h2]
  exact h1
/-- if not f(args) or e2 -/
structure IfO (s : Stmt) where
  c : CallS
  e2 : Expr
  x : Str
  q : Pos
  p : Pos
  r : Pos
  u : Pos
  pos : Pos
  hf : c.f = .Name x q
  hs : s = .If (.BoolOp .Or [.UnaryOp .Not (.Call c.f c.as [] p) r, e2] u) c.b c.o pos
noncomputable def ifO? (s : Stmt) : Option (IfO s) := match s with
  | .If (.BoolOp .Or [.UnaryOp .Not (.Call (.Name x q) as [] p) r, e2] u) b o pos => some ⟨⟨.Name x q, as, b, o, pos.line⟩, e2, x, q, p, r, u, pos, rfl, rfl⟩
  | _ => none
noncomputable def ifOrC (s : Stmt) : CallS × Expr := match ifO? s with
  | some d => (d.c, d.e2)
  | none => (noCall, noCall.f)
noncomputable def kOr (T : Tab) (m : Nat) (b o : List Stmt) (e2 : Expr) (k : KF) : KV := fun v st1 => truth v fun c => match !c with
  | false => tsBool (ev T (m + 4)) .Or [e2] st1 fun d st2 => (match d with
    | true => (ev T (m + 5)).ss b st2 k
    | false => (ev T (m + 5)).ss o st2 k)
  | true => (ev T (m + 5)).ss b st1 k
theorem evS_ifOr {T : Tab} {m : Nat} {s : Stmt} {st : St} {k : KF} (e : (ifO? s).isSome = true) : evS T (ev T (m + 5)) s st k =
    callArgs T (ev T (m + 1)) (ifOrC s).1.f (ifOrC s).1.as st fun fv vs st3 => (ev T (m + 1)).call fv vs st3 (kOr T m (ifOrC s).1.b (ifOrC s).1.o (ifOrC s).2 k) := by
  unfold ifOrC
  generalize ifO? s = w at e ⊢
  cases w with
  | none => cases e
  | some d =>
    obtain ⟨⟨f, as, b, o, ln⟩, e2, x, q, p, r, u, pos, hf, hs⟩ := d
    obtain rfl : f = _ := hf
    subst hs
    show callArgs T (ev T (m + 1)) _ _ st _ = callArgs T (ev T (m + 1)) _ _ st _
    congr 1
    funext fv vs st3
    congr 1
    funext v st1
    unfold kOr
    show truth v _ = truth v _
    congr 1
    funext c
    cases c <;> rfl
end Mine

end
/- P2 -/
section
open PySem PySem.W PyProof.Rows
set_option maxRecDepth 100000
namespace Mine
@[irreducible] noncomputable def KK (P : Params) : Frag := KT P
noncomputable abbrev TT (P : Params) : Tab := tabC (KT P) []
noncomputable abbrev EE (P : Params) (n : Nat) : Ev := ev (tabC (KT P) []) n

theorem w_way (P : Params) (n : Nat) (p : Ps) (L : Int) (k : KF) : evSs (TT P) (EE P (n + 12)) (bodyOf (KK P) 641) (stDd (KK P) p L) k =
    tkP p 5 fun p z => evSs (TT P) (EE P (n + 12)) ((bodyOf (KK P) 641).drop 1) (stDw (KK P) p L z) k := by kernel_rfl

theorem w_deedIf (P : Params) (n : Nat) (p : Ps) (L w : Int) (k : KF) : evSs (TT P) (EE P (n + 20)) ((bodyOf (KK P) 641).drop 1) (stDw (KK P) p L w) k =
    Br (ltB w 2) (evSs (TT P) (EE P (n + 19)) [cameS (KK P)] (stDw (KK P) p L w) (kLast (TT P) 496 k))
      (Br (eqB w 2) (Br (!p.other) (k .next (stDw (KK P) { p with other := true, raised := p.raised + 1 } L w)) (k .next (stDw (KK P) { p with other := true, raised := p.raised + 0 } L w)))
        (evSs (TT P) (EE P (n + 18)) (fElse (sAt (fElse (sAt (bodyOf (KK P) 641) 1)) 0)) (stDw (KK P) p L w) (kLast (TT P) 498 (kLast (TT P) 496 k)))) := by kernel_rfl

theorem w_deed34 (P : Params) (n : Nat) (p : Ps) (L w : Int) (k : KF) : evSs (TT P) (EE P (n + 18)) (fElse (sAt (fElse (sAt (bodyOf (KK P) 641) 1)) 0)) (stDw (KK P) p L w) (kLast (TT P) 498 (kLast (TT P) 496 k)) =
    Br (eqB w 3) (tkP p 3 fun p z => Br (decide (z = 0)) (k .next (stDw (KK P) { p with least := 0, thr := 0 } L w)) (Br (decide (z = 0 + 1)) (k .next (stDw (KK P) { p with least := 7, thr := 7 } L w))
        (Br (decide (z = 0 + 1 + 1)) (k .next (stDw (KK P) { p with least := 4, thr := 4 } L w)) False)))
      (tkP p 256 fun p z => Br (octets [oct z]) (Br (decide (p.out.length + [oct z].length ≤ 1000000)) (Br (decide (p.sent.length + [z].length ≤ 1000000))
        (k .next (stDw (KK P) { p with out := p.out ++ [oct z], sentU := true, sent := p.sent ++ [z], waits := eqB p.lt 3 } L w)) False) False) False) := by kernel_rfl

theorem w_came (P : Params) (n : Nat) (p : Ps) (L w : Int) (k : KF) : evSs (TT P) (EE P (n + 19)) [cameS (KK P)] (stDw (KK P) p L w) (kLast (TT P) 496 k) =
    tkP p 5 fun p z => Br (rngOk 0 (1 + z) && Nat.ble (1 + z - 0).toNat 1000000)
      (compN (TT P) (EE P (n + 17)) (compOf (cameS (KK P))).t (compOf (cameS (KK P))).elt false (1 + z - 0).toNat 0 (stC (KK P) p L w (1 + z) []) (kComp (EE P (n + 18)) (stDq (KK P) p L w (1 + z)) (kExpr (kLast (TT P) 497 (kLast (TT P) 496 k))))) False := by kernel_rfl
theorem w_comp0 (P : Params) (n : Nat) (p : Ps) (L w q : Int) (v : V) (r : List V) (acc : List Int) (k : List Int → St → Prop) : compGo (TT P) (EE P (n + 10)) (compOf (cameS (KK P))).t (compOf (cameS (KK P))).elt (v :: r) (stC (KK P) p L w q []) acc k =
    tkP p 256 fun p z => compGo (TT P) (EE P (n + 10)) (compOf (cameS (KK P))).t (compOf (cameS (KK P))).elt r (stC (KK P) p L w q [(S "k", v)]) (acc ++ [z]) k := by kernel_rfl
theorem w_comp1 (P : Params) (n : Nat) (p : Ps) (L w q : Int) (v0 v : V) (r : List V) (acc : List Int) (k : List Int → St → Prop) : compGo (TT P) (EE P (n + 10)) (compOf (cameS (KK P))).t (compOf (cameS (KK P))).elt (v :: r) (stC (KK P) p L w q [(S "k", v0)]) acc k =
    tkP p 256 fun p z => compGo (TT P) (EE P (n + 10)) (compOf (cameS (KK P))).t (compOf (cameS (KK P))).elt r (stC (KK P) p L w q [(S "k", v)]) (acc ++ [z]) k := by kernel_rfl
theorem w_compEnd (P : Params) (n : Nat) (p p0 : Ps) (L w q : Int) (v0 : V) (ys : List Int) (k : KV) : kComp (EE P n) (stDq (KK P) p0 L w q) k ys (stC (KK P) p L w q [(S "k", v0)]) =
    (EE P n).call (.top 636) [.obj 8, .obj 19, .obj 27] (stDc (KK P) p L w q ys) k := by kernel_rfl

noncomputable def kFeed (P : Params) (p : Ps) (L w q : Int) (os : List Int) (k : KV) : KF := kLast (TT P) 60 (kRet (stCm (KK P) p L w os) (kExpr (kLast (TT P) 493 (kRet (stDc (KK P) p L w q os) k))))
noncomputable def cameP (P : Params) (n : Nat) (p : Ps) (L w q : Int) (os : List Int) (k : KV) (room : Int) (b : Bool) : Prop :=
  Br (octets os) (forGo (TT P) (EE P (n + 12)) (fTgt (feedS (KK P))) (fBody (feedS (KK P))) (sints os) (stF (KK P) { p with sure := p.sure ++ os.take room.toNat, lost := b } L w os os) (kFeed P p L w q os k)) False
theorem w_cameCall (P : Params) (n : Nat) (p : Ps) (L w q : Int) (os : List Int) (k : KV) : (EE P (n + 16)).call (.top 636) [.obj 8, .obj 19, .obj 27] (stDc (KK P) p L w q os) k =
    Br (leB 0 (p.sz - (Int.ofNat p.sure.length - Int.ofNat p.got.length))) (Br (decide (p.sure.length + (os.take (p.sz - (Int.ofNat p.sure.length - Int.ofNat p.got.length)).toNat).length ≤ 1000000))
      (Br p.lost (cameP P n p L w q os k (p.sz - (Int.ofNat p.sure.length - Int.ofNat p.got.length)) true)
        (cameP P n p L w q os k (p.sz - (Int.ofNat p.sure.length - Int.ofNat p.got.length)) (ltB (p.sz - (Int.ofNat p.sure.length - Int.ofNat p.got.length)) (Int.ofNat os.length)))) False) False := by kernel_rfl
/-- a turn of feed's loop -/
theorem w_feed (P : Params) (n : Nat) (p : Ps) (L w x : Int) (r : List V) (os zs : List Int) (k : KF) : forGo (TT P) (EE P (n + 8)) (fTgt (feedS (KK P))) (fBody (feedS (KK P))) (.sint x :: r) (stF (KK P) p L w os zs) k =
    Br (ltB (Int.ofNat p.wt.length) p.sz) (Br (octets [x] && decide (p.wt.length < 1000000)) (forGo (TT P) (EE P (n + 8)) (fTgt (feedS (KK P))) (fBody (feedS (KK P))) r (stF (KK P) { p with wt := p.wt ++ [x] } L w os zs) k) False)
      (forGo (TT P) (EE P (n + 8)) (fTgt (feedS (KK P))) (fBody (feedS (KK P))) r (stF (KK P) { p with lostU := true } L w os zs) k) := by kernel_rfl
theorem w_feedEnd (P : Params) (p p0 : Ps) (L w q : Int) (os : List Int) (k : KF) : kFeed P p0 L w q os (kExpr (kLast (TT P) 497 (kLast (TT P) 496 k))) .next (stF (KK P) p L w os os) = k .next (stDw (KK P) p L w) := by kernel_rfl
end Mine

end
/- P3 -/
section
open PySem PySem.W PyProof.Rows
set_option maxRecDepth 100000
namespace Mine
/-- a lap: the deed, then the round -/
theorem w_lap (P : Params) (n : Nat) (p : Ps) (L : Int) (k : KF) : evSs (TT P) (EE P (n + 23)) (fBody (lapFor (KK P))) (stLl (KK P) p L) k =
    evSs (TT P) (EE P (n + 20)) (bodyOf (KK P) 641) (stDd (KK P) p L) (kRet (stLl (KK P) p L) (kExpr (kThen (TT P) (EE P (n + 23)) 538 ((fBody (lapFor (KK P))).drop 1) k))) := by kernel_rfl
theorem w_lapR (P : Params) (n : Nat) (p : Ps) (L : Int) (k : KF) : evSs (TT P) (EE P (n + 23)) ((fBody (lapFor (KK P))).drop 1) (stLl (KK P) p L) k =
    evSs (TT P) (EE P (n + 18)) (bodyOf (KK P) 653) (stR0 (KK P) p L) (kRet (stLl (KK P) p L) (kNot (EE P (n + 23)) (fBody (sAt (fBody (lapFor (KK P))) 1)) [] (kLast (TT P) 539 k))) := by kernel_rfl

theorem w_due (P : Params) (n : Nat) (p : Ps) (L : Int) (k : KF) (h : Conf p) : evSs (TT P) (EE P (n + 18)) (bodyOf (KK P) 653) (stR0 (KK P) p L) k =
    dueT p fun ds => evSs (TT P) (EE P (n + 18)) ((bodyOf (KK P) 653).drop 1) (stR1 (KK P) p L ds) k := by
  cases p
  rcases h with ⟨h1, h2⟩ | ⟨h1, h2⟩ | ⟨h1, h2⟩ <;> (dsimp only at h1 h2; subst h1; subst h2; kernel_rfl)
theorem w_rrEnd (P : Params) (n : Nat) (p : Ps) (L : Int) (ds ts : List Int) (k : KF) (h : Conf p) : evSs (TT P) (EE P (n + 18)) ((bodyOf (KK P) 653).drop 2) (stR2 (KK P) p L ds ts) k =
    Br (!(decide (ts = ds))) False (Br (decide (10 ∈ ds)) (Br (!(decide (p.got = p.sure))) False
      (Br (leB 0 (Int.ofNat p.got.length)) (Br (decide (p.got = p.sure.take (Int.ofNat p.got.length).toNat)) (Br (leB p.r0 p.least) (k (.ret (.bool true)) (stR2 (KK P) { p with waits := false } L ds ts)) (k (.ret (.sbool (!p.other))) (stR2 (KK P) { p with waits := false } L ds ts)))
        (k (.ret (.bool false)) (stR2 (KK P) { p with waits := false } L ds ts))) False))
      (Br (leB 0 (Int.ofNat p.got.length)) (Br (decide (p.got = p.sure.take (Int.ofNat p.got.length).toNat)) (Br (leB p.r0 p.least) (k (.ret (.bool true)) (stR2 (KK P) p L ds ts)) (k (.ret (.sbool (!p.other))) (stR2 (KK P) p L ds ts)))
        (k (.ret (.bool false)) (stR2 (KK P) p L ds ts))) False)) := by
  cases p
  rcases h with ⟨h1, h2⟩ | ⟨h1, h2⟩ | ⟨h1, h2⟩ <;> (dsimp only at h1 h2; subst h1; subst h2; kernel_rfl)

theorem w_lapEndT (P : Params) (n : Nat) (p p0 : Ps) (L L0 : Int) (ds ts : List Int) (k : KF) : kRet (stLl (KK P) p0 L0) (kNot (EE P (n + 23)) (fBody (sAt (fBody (lapFor (KK P))) 1)) [] (kLast (TT P) 539 k)) (.ret (.bool true)) (stR2 (KK P) p L ds ts) = k .next (stLl (KK P) p L) := by kernel_rfl
theorem w_lapEndS (P : Params) (n : Nat) (p p0 : Ps) (L L0 : Int) (ds ts : List Int) (b : Bool) (k : KF) : kRet (stLl (KK P) p0 L0) (kNot (EE P (n + 23)) (fBody (sAt (fBody (lapFor (KK P))) 1)) [] (kLast (TT P) 539 k)) (.ret (.sbool b)) (stR2 (KK P) p L ds ts) = Br b (k .next (stLl (KK P) p L)) False := by kernel_rfl
end Mine

end
/- P4 -/
section
open PySem PySem.W PyProof.Rows
set_option maxRecDepth 100000
namespace Mine
noncomputable def kDr (P : Params) (n : Nat) (p : Ps) (L : Int) (ds : List Int) (k : KF) : KF := kThen (TT P) (EE P (n + 37)) 477 ((bodyOf (KK P) 629).drop 3) (kRet (stR1 (KK P) p L ds) (kAsg (TT P) (EE P (n + 40)) (fTgt (sAt (bodyOf (KK P) 653) 1)) (kThen (TT P) (EE P (n + 40)) 516 ((bodyOf (KK P) 653).drop 2) k)))
theorem w_rr1 (P : Params) (n : Nat) (p : Ps) (L : Int) (ds : List Int) (k : KF) (hL : OkL L) (h : OkLt p) : evSs (TT P) (EE P (n + 40)) ((bodyOf (KK P) 653).drop 1) (stR1 (KK P) p L ds) k =
    linesP p fun L' => forGo (TT P) (EE P (n + 37)) (fTgt (drFor (KK P))) (fBody (drFor (KK P))) (rngL 8 0 true) (stV (KK P) p L' ds []) (kDr P n p L ds k) := by
  cases p
  rcases hL with rfl | rfl | rfl | rfl <;> rcases h with h | h <;> (dsimp only at h; subst h; kernel_rfl)
theorem w_drEnd (P : Params) (n : Nat) (p p0 : Ps) (L L0 : Int) (ds ts : List Int) (j : Int) (k : KF) : kDr P n p0 L0 ds k (.ret (.obj 27)) (stVl (KK P) p L ds ts j) = evSs (TT P) (EE P (n + 40)) ((bodyOf (KK P) 653).drop 2) (stR2 (KK P) p L ds ts) k := by kernel_rfl
theorem w_it0 (P : Params) (n : Nat) (p : Ps) (ds ts : List Int) (j : Int) (r : List V) (k : KF) : forGo (TT P) (EE P (n + 37)) (fTgt (drFor (KK P))) (fBody (drFor (KK P))) (.int j :: r) (stV (KK P) p 0 ds ts) k =
    k (.ret (.obj 27)) (stVl (KK P) p 0 ds ts j) := by kernel_rfl

noncomputable def svOf (w : Int) : Int := match eqB w 3 with
  | true => 8
  | false => 1024
theorem w_lapAsg (P : Params) (n : Nat) (p : Ps) (L : Int) (ds ts : List Int) (j : Int) (k : St → Prop) : asg (TT P) (EE P n) (fTgt (drFor (KK P))) (.int j) (stV (KK P) p L ds ts) k = k (stVi (KK P) p L ds ts j) := by kernel_rfl
/-- a turn's begin -/
theorem w_itGo (P : Params) (n : Nat) (p : Ps) (L : Int) (ds ts : List Int) (j : Int) (r : List V) (k : KF) : forGo (TT P) (EE P (n + 37)) (fTgt (drFor (KK P))) (fBody (drFor (KK P))) (.int j :: r) (stV (KK P) p L ds ts) k =
    evSs (TT P) (EE P (n + 36)) ((fBody (drFor (KK P))).take 2) (stVi (KK P) p L ds ts j) (kOn (TT P) (EE P (n + 36)) ((fBody (drFor (KK P))).drop 2) (kGo (TT P) (EE P (n + 37)) (fTgt (drFor (KK P))) (fBody (drFor (KK P))) r k)) := by
  rw [forGo_cons, w_lapAsg, ev_ss, evSs_split _ _ 2]
theorem w_itN (P : Params) (n : Nat) (p : Ps) (L : Int) (ds ts : List Int) (j : Int) (k : KF) (hL : L = 8 ∨ L = 1024 ∨ L = 1032) (h : Conf p) : evSs (TT P) (EE P (n + 36)) ((fBody (drFor (KK P))).take 2) (stVi (KK P) p L ds ts j) k =
    itT p L (k (.ret (.obj 27)) (stVl (KK P) p L ds ts j)) fun w => k .next (stW (KK P) p L (svOf w) w ds ts j) := by
  cases p
  rcases hL with rfl | rfl | rfl <;> rcases h with ⟨h1, h2⟩ | ⟨h1, h2⟩ | ⟨h1, h2⟩ <;> (dsimp only at h1 h2; subst h1; subst h2; kernel_rfl)
end Mine

end
/- P5 -/
section
open PySem PySem.W PyProof.Rows
set_option maxRecDepth 100000
namespace Mine
theorem w_it3 (P : Params) (n : Nat) (p : Ps) (L : Int) (ds ts : List Int) (j : Int) (k : KF) (hL : L = 8 ∨ L = 1032) (h : OkLt p) : evSs (TT P) (EE P (n + 36)) ((fBody (drFor (KK P))).drop 2) (stW (KK P) p L 8 3 ds ts j) k =
    Br (decide (ts.length < 1000000)) (linesP { p with other := false } fun L' => k .next (stV (KK P) { p with other := false, others := p.others + 1 } L' ds (ts ++ [3]))) False := by
  cases p
  rcases hL with rfl | rfl <;> rcases h with h | h <;> (dsimp only at h; subst h; kernel_rfl)
theorem w_i10a (P : Params) (n : Nat) (p : Ps) (L : Int) (ds ts : List Int) (j : Int) (k : KF) (hL : L = 1024 ∨ L = 1032) : evSs (TT P) (EE P (n + 36)) (((fBody (drFor (KK P))).drop 2).take 2) (stW (KK P) p L 1024 10 ds ts j) k =
    Br (decide (ts.length < 1000000)) (k .next (stW (KK P) p L 1024 10 ds (ts ++ [10]) j)) False := by
  rcases hL with rfl | rfl <;> kernel_rfl
theorem w_i10c (P : Params) (n : Nat) (p : Ps) (L : Int) (ds ts : List Int) (j : Int) (k : KF) (hL : L = 1024 ∨ L = 1032) (h : OkLt p) : evSs (TT P) (EE P (n + 36)) ((fBody (drFor (KK P))).drop 5) (stW (KK P) p L 1024 10 ds ts j) k =
    linesP p fun L' => k .next (stV (KK P) p L' ds ts) := by
  cases p
  rcases hL with rfl | rfl <;> rcases h with h | h <;> (dsimp only at h; subst h; kernel_rfl)
/-- served, up to its loop -/
theorem w_sv0 (P : Params) (n : Nat) (p : Ps) (L : Int) (ds ts : List Int) (j : Int) (k : KF) (h : OkLt p) : evSs (TT P) (EE P (n + 31)) ((bodyOf (KK P) 622).take 4) (stS0 (KK P) p L ds ts j) k =
    Br (ltB 0 (Int.ofNat p.wt.length)) (k .next (stS (KK P) p L ds ts j 4)) (match eqB p.lt 3 with
      | true => Br p.sentU (k (.ret (.bool true)) (stS2 (KK P) { p with sentU := false } L ds ts j)) False
      | false => False) := by
  cases p
  rcases h with h | h <;> (dsimp only at h; subst h; kernel_rfl)
theorem w_svT (P : Params) (n : Nat) (p : Ps) (L : Int) (ds ts : List Int) (j i : Int) (k : KF) : evSs (TT P) (EE P (n + 30)) (fBody (svFor (KK P))) (stSi (KK P) p L ds ts j i) k =
    Br (ltB 0 (Int.ofNat p.wt.length)) (Br p.lostU (gotP p 1 fun p => k .next (stS (KK P) p L ds ts j 4)) (gotP p 0 fun p => k .next (stS (KK P) p L ds ts j 4)))
      (Br p.lostU (k (.ret (.bool false)) (stSe (KK P) { p with losses := p.losses + ((oct0 (96 + 0 + 2 * 1)).fdiv 2).fmod 2 } L ds ts j i 98)) (k (.ret (.bool (ltB 0 i))) (stSe (KK P) { p with losses := p.losses + ((oct0 (96 + 0 + 2 * 0)).fdiv 2).fmod 2 } L ds ts j i 96))) := by kernel_rfl
end Mine

end
/- P6 -/
section
open PySem PySem.W PyProof.Rows
set_option maxRecDepth 100000
namespace Mine
variable (P : Params) (n : Nat) (p p0 : Ps) (L L0 : Int) (ds ts : List Int) (j i : Int) (k : KF)

theorem w_svFor : evSs (TT P) (EE P (n + 31)) ((bodyOf (KK P) 622).drop 4) (stS (KK P) p L ds ts j 4) k =
    forGo (TT P) (EE P (n + 31)) (fTgt (svFor (KK P))) (fBody (svFor (KK P))) (rngL 9 0 true) (stS (KK P) p L ds ts j 4) (kThen (TT P) (EE P (n + 31)) 467 ((bodyOf (KK P) 622).drop 5) k) := by
  rw [show (bodyOf (KK P) 622).drop 4 = svFor (KK P) :: (bodyOf (KK P) 622).drop 5 by kernel_rfl, evSs_cons, show lineOf (svFor (KK P)) = 467 by kernel_rfl]
  exact evS_for (c := ⟨fTgt (svFor (KK P)), forIt (svFor (KK P)), fBody (svFor (KK P)), 467⟩) (st1 := addO (stS (KK P) p L ds ts j 4) (.rng 0 9 true)) (i := 28) (lo := 0) (hi := 9) (by kernel_rfl) (fun κ => by kernel_rfl) (by kernel_rfl) (by kernel_rfl) (fun F => by kernel_rfl)
theorem w_svAsg (k : St → Prop) : asg (TT P) (EE P n) (fTgt (svFor (KK P))) (.int i) (stS (KK P) p L ds ts j 4) k = k (stSi (KK P) p L ds ts j i) := by kernel_rfl
theorem w_svGo (r : List V) : forGo (TT P) (EE P (n + 31)) (fTgt (svFor (KK P))) (fBody (svFor (KK P))) (.int i :: r) (stS (KK P) p L ds ts j 4) k =
    evSs (TT P) (EE P (n + 30)) (fBody (svFor (KK P))) (stSi (KK P) p L ds ts j i) (kGo (TT P) (EE P (n + 31)) (fTgt (svFor (KK P))) (fBody (svFor (KK P))) r k) := by
  rw [forGo_cons, w_svAsg, ev_ss]
theorem w_svEnd (b : Bool) (k : KF) : after (TT P) 467 (.ret (.bool b)) (stSe (KK P) p L ds ts j i 96) k = k (.ret (.bool b)) (stSf (KK P) { p with lostU := false } L ds ts j i) := by kernel_rfl

/-- the call of served -/
noncomputable def s4 (P : Params) : Stmt := sAt (fBody (drFor (KK P))) 4
theorem w_s4 : (ifN? (s4 P)).isSome = true := by kernel_rfl
theorem w_s4args (k : V → List V → St → Prop) : callArgs (TT P) (EE P (n + 33)) (ifNotC (s4 P)).f (ifNotC (s4 P)).as (stW (KK P) p L 1024 10 ds ts j) k =
    k (.top 622) [.obj 0, .obj 14, .obj 8, .obj 19, .int 10] (stW (KK P) p L 1024 10 ds ts j) := by kernel_rfl
noncomputable def lSv : List (Str × V) := lR ++ [(S "wire", .int 10)]
theorem w_inSv : callIn? (TT P) 622 [.obj 0, .obj 14, .obj 8, .obj 19, .int 10] = some ⟨bodyOf (KK P) 622, lSv, scOf (KK P) 622⟩ := by kernel_rfl
theorem w_enSv : enter (stW (KK P) p L 1024 10 ds ts j) lSv (scOf (KK P) 622) = stS0 (KK P) p L ds ts j := by kernel_rfl
noncomputable def kSv (k : KF) : KF := kRet (stW (KK P) p L 1024 10 ds ts j) (kNot (EE P (n + 36)) (ifNotC (s4 P)).b (ifNotC (s4 P)).o (kThen (TT P) (EE P (n + 36)) 484 ((fBody (drFor (KK P))).drop 5) k))
theorem w_i10b : evSs (TT P) (EE P (n + 36)) ((fBody (drFor (KK P))).drop 4) (stW (KK P) p L 1024 10 ds ts j) k =
    evSs (TT P) (EE P (n + 31)) (bodyOf (KK P) 622) (stS0 (KK P) p L ds ts j) (kSv P n p L ds ts j k) := by
  rw [show (fBody (drFor (KK P))).drop 4 = s4 P :: (fBody (drFor (KK P))).drop 5 by kernel_rfl, evSs_cons, show lineOf (s4 P) = 484 by kernel_rfl]
  rw [show n + 36 = (n + 32) + 4 from rfl, evS_ifNot (w_s4 P), w_s4args P n, show n + 32 + 1 = (n + 31) + 2 from rfl, ev_call (w_inSv P), w_enSv]
  rfl
theorem w_a484 (k : KF) : after (TT P) 484 .next (stW (KK P) p L 1024 10 ds ts j) k = k .next (stW (KK P) p L 1024 10 ds ts j) := by kernel_rfl
theorem w_svR2 (k : KF) (b o : List Stmt) (hb : o = []) : kRet (stW (KK P) p0 L0 1024 10 ds ts j) (kNot (EE P (n + 36)) b o k) (.ret (.bool true)) (stS2 (KK P) p L ds ts j) = k .next (stW (KK P) p L 1024 10 ds ts j) := by subst hb; kernel_rfl
theorem w_svRf (k : KF) (b o : List Stmt) (hb : o = []) : kRet (stW (KK P) p0 L0 1024 10 ds ts j) (kNot (EE P (n + 36)) b o k) (.ret (.bool true)) (stSf (KK P) p L ds ts j i) = k .next (stW (KK P) p L 1024 10 ds ts j) := by subst hb; kernel_rfl
theorem kThen_of {T : Tab} {ih : Ev} {ln : Nat} {r : List Stmt} {k : KF} {st st' : St} (h : ∀ F : KF, after T ln .next st F = F .next st') : kThen T ih ln r k .next st = evSs T ih r st' k := h _
theorem w_svEnd2 : kSv P n p0 L0 ds ts j k (.ret (.bool true)) (stS2 (KK P) p L ds ts j) = evSs (TT P) (EE P (n + 36)) ((fBody (drFor (KK P))).drop 5) (stW (KK P) p L 1024 10 ds ts j) k := by
  unfold kSv
  rw [w_svR2 P n p p0 L L0 ds ts j _ _ _ (by kernel_rfl)]
  exact kThen_of (w_a484 P p L ds ts j)
theorem w_svEnd4 : kSv P n p0 L0 ds ts j k (.ret (.bool true)) (stSf (KK P) p L ds ts j i) = evSs (TT P) (EE P (n + 36)) ((fBody (drFor (KK P))).drop 5) (stW (KK P) p L 1024 10 ds ts j) k := by
  unfold kSv
  rw [w_svRf P n p p0 L L0 ds ts j i _ _ _ (by kernel_rfl)]
  exact kThen_of (w_a484 P p L ds ts j)
end Mine

end
/- P7 -/
section
open PySem PySem.W PyProof.Rows
set_option maxRecDepth 100000
namespace Mine
section
variable (P : Params) (n : Nat) (xs ys : List Int) (sz r0 r1 lt : Int) (p p0 : Ps) (L L0 : Int) (ds ts : List Int) (j i : Int) (k : KF)
theorem w_preA : evSs (TT P) (EE P (n + 46)) ((bodyOf (KK P) 660).take 2) (st00 (KK P) xs) k = sizeP (xs.take (Int.toNat 60)) fun ys sz => ranksP ys fun ys r0 r1 => k .next (stA (KK P) xs ys sz r0 r1) := by kernel_rfl
theorem w_preB : evSs (TT P) (EE P (n + 46)) (((bodyOf (KK P) 660).drop 2).take 3) (stA (KK P) xs ys sz r0 r1) k =
    moreP ys 2 (fun ys z => Br (decide (z = 0)) (k .next (stB (KK P) xs ys sz r0 r1 1)) (Br (decide (z = 0 + 1)) (k .next (stB (KK P) xs ys sz r0 r1 3)) False)) (k .next (stB (KK P) xs ys sz r0 r1 1)) := by kernel_rfl
theorem w_preC (hc : (r0 = 2 ∧ r1 = 5) ∨ (r0 = 5 ∧ r1 = 2) ∨ (r0 = 3 ∧ r1 = 3)) (hl : lt = 1 ∨ lt = 3) : evSs (TT P) (EE P (n + 46)) (((bodyOf (KK P) 660).drop 5).take 6) (stB (KK P) xs ys sz r0 r1 lt) k =
    Br (ltB sz 1) False (k .next (stP (KK P) (p00 xs ys sz r0 r1 lt))) := by
  rcases hc with ⟨rfl, rfl⟩ | ⟨rfl, rfl⟩ | ⟨rfl, rfl⟩ <;> rcases hl with rfl | rfl <;> kernel_rfl
theorem w_for : evSs (TT P) (EE P (n + 46)) ((bodyOf (KK P) 660).drop 11) (stP (KK P) p) k =
    Br (rngOk 0 (lapsOf p)) (forGo (TT P) (EE P (n + 46)) (fTgt (lapFor (KK P))) (fBody (lapFor (KK P))) (rngL (lapsOf p - 0).toNat 0 false) (stL (KK P) p 0) (kThen (TT P) (EE P (n + 46)) 537 ((bodyOf (KK P) 660).drop 12) k)) False := by
  rw [show (bodyOf (KK P) 660).drop 11 = lapFor (KK P) :: (bodyOf (KK P) 660).drop 12 by kernel_rfl, evSs_cons, show lineOf (lapFor (KK P)) = 537 by kernel_rfl]
  exact evS_forS (c := ⟨fTgt (lapFor (KK P)), forIt (lapFor (KK P)), fBody (lapFor (KK P)), 537⟩) (st1 := addO (stP (KK P) p) (.rng 0 (lapsOf p) false)) (i := 26) (lo := 0) (hi := lapsOf p) (by kernel_rfl) (fun κ => by kernel_rfl) (by kernel_rfl) (fun F => by kernel_rfl)
theorem w_lapA (k : St → Prop) : asg (TT P) (EE P n) (fTgt (lapFor (KK P))) (.sint j) (stL (KK P) p L) k = k (stLl (KK P) { p with lap := j } L) := by kernel_rfl
theorem w_lapA2 (k : St → Prop) : asg (TT P) (EE P n) (fTgt (lapFor (KK P))) (.sint j) (stLl (KK P) p L) k = k (stLl (KK P) { p with lap := j } L) := by kernel_rfl
theorem w_a537 (F : KF) : after (TT P) 537 .next (stLl (KK P) p L) F = F .next (stLl (KK P) p L) := by kernel_rfl
theorem w_fin0 : evSs (TT P) (EE P (n + 46)) (((bodyOf (KK P) 660).drop 12).take 2) (stLl (KK P) p L) k = k .next (stLl (KK P) { p with least := 0, thr := 0 } L) := by kernel_rfl
noncomputable def s14 : Stmt := sAt (bodyOf (KK P) 660) 14
theorem w_s14 : (ifO? (s14 P)).isSome = true := by kernel_rfl
theorem w_s14args (k : V → List V → St → Prop) : callArgs (TT P) (EE P (n + 42)) (ifOrC (s14 P)).1.f (ifOrC (s14 P)).1.as (stLl (KK P) p L) k =
    k (.top 653) [.obj 0, .obj 14, .obj 8, .obj 19] (stLl (KK P) p L) := by kernel_rfl
theorem w_inRR : callIn? (TT P) 653 [.obj 0, .obj 14, .obj 8, .obj 19] = some ⟨bodyOf (KK P) 653, lR, scOf (KK P) 653⟩ := by kernel_rfl
theorem w_enRR : enter (stLl (KK P) p L) lR (scOf (KK P) 653) = stR0 (KK P) p L := by kernel_rfl
noncomputable def kFin (k : KF) : KF := kRet (stLl (KK P) p L) (kOr (TT P) (n + 41) (ifOrC (s14 P)).1.b (ifOrC (s14 P)).1.o (ifOrC (s14 P)).2 (kThen (TT P) (EE P (n + 46)) 543 ((bodyOf (KK P) 660).drop 15) k))
/-- the last round -/
theorem w_fin1 : evSs (TT P) (EE P (n + 46)) (((bodyOf (KK P) 660).drop 12).drop 2) (stLl (KK P) p L) k =
    evSs (TT P) (EE P (n + 40)) (bodyOf (KK P) 653) (stR0 (KK P) p L) (kFin P n p L k) := by
  rw [show ((bodyOf (KK P) 660).drop 12).drop 2 = s14 P :: (bodyOf (KK P) 660).drop 15 by kernel_rfl, evSs_cons, show lineOf (s14 P) = 543 by kernel_rfl]
  rw [show n + 46 = (n + 41) + 5 from rfl, evS_ifOr (w_s14 P), w_s14args P n, show n + 41 + 1 = (n + 40) + 2 from rfl, ev_call (w_inRR P), w_enRR]
  rfl
theorem w_orT (b o : List Stmt) (e2 : Expr) (hb : b = (ifOrC (s14 P)).1.b) (ho : o = []) (he : e2 = (ifOrC (s14 P)).2) : kRet (stLl (KK P) p0 L0) (kOr (TT P) (n + 41) b o e2 k) (.ret (.bool true)) (stR2 (KK P) p L ds ts) =
    Br (!(decide (p.got = p.sure))) False (k .next (stLg (KK P) p L ds ts)) := by subst hb; subst ho; subst he; kernel_rfl
theorem w_orS (b o : List Stmt) (e2 : Expr) (v : Bool) (hb : b = (ifOrC (s14 P)).1.b) (ho : o = []) (he : e2 = (ifOrC (s14 P)).2) : kRet (stLl (KK P) p0 L0) (kOr (TT P) (n + 41) b o e2 k) (.ret (.sbool v)) (stR2 (KK P) p L ds ts) =
    Br v (Br (!(decide (p.got = p.sure))) False (k .next (stLg (KK P) p L ds ts))) False := by subst hb; subst ho; subst he; kernel_rfl
theorem w_a543 (F : KF) : after (TT P) 543 .next (stLg (KK P) p L ds ts) F = F .next (stLl (KK P) p L) := by kernel_rfl
theorem w_finT : kFin P n p0 L0 k (.ret (.bool true)) (stR2 (KK P) p L ds ts) = Br (!(decide (p.got = p.sure))) False (evSs (TT P) (EE P (n + 46)) ((bodyOf (KK P) 660).drop 15) (stLl (KK P) p L) k) := by
  unfold kFin
  rw [w_orT P n p p0 L L0 ds ts _ _ _ _ rfl (by kernel_rfl) rfl, kThen_of (w_a543 P p L ds ts)]
theorem w_finS (v : Bool) : kFin P n p0 L0 k (.ret (.sbool v)) (stR2 (KK P) p L ds ts) = Br v (Br (!(decide (p.got = p.sure))) False (evSs (TT P) (EE P (n + 46)) ((bodyOf (KK P) 660).drop 15) (stLl (KK P) p L) k)) False := by
  unfold kFin
  rw [w_orS P n p p0 L L0 ds ts _ _ _ _ v rfl (by kernel_rfl) rfl, kThen_of (w_a543 P p L ds ts)]
theorem w_fin2 (kk : Fl → Prop) (h : OkLt p) : evSs (TT P) (EE P (n + 46)) ((bodyOf (KK P) 660).drop 15) (stLl (KK P) p 0) (fun fl _ => kk fl) =
    Br (!(eqB p.others p.raised)) False (Br (Bool.xor (ltB 0 p.losses) p.lost) False (Br (octets p.sent) (Br (decide (p.out = p.sent)) (Br (ltB 0 (Int.ofNat p.wt.length)) (kk (.ret (.bool false))) (match eqB p.lt 3 with
      | true => Br p.sentU (kk (.ret (.bool false))) (kk (.ret (.bool true)))
      | false => kk (.ret (.bool true)))) (kk (.ret (.bool false)))) False)) := by
  cases p
  rcases h with h | h <;> (dsimp only at h; subst h; kernel_rfl)
end
end Mine

end
/- L1 -/
section
open PySem PySem.W PyProof.Rows
namespace Mine

theorem brT {b : Bool} {Q : Prop} {P : Prop} (h : b = true) (p : P) : Br b P Q := ⟨fun _ => p, fun e => by rw [h] at e; cases e⟩
theorem brF {b : Bool} {P Q : Prop} (h : b = false) (q : Q) : Br b P Q := ⟨fun e => (by rw [h] at e; cases e), fun _ => q⟩

theorem oct0_byte {z : Int} (h0 : 0 ≤ z) (h1 : z < 256) : oct0 z = z := by
  have key : ∀ n : Fin 256, oct0 (n.val : Int) = (n.val : Int) := by decide +kernel
  obtain ⟨n, rfl⟩ := Int.eq_ofNat_of_zero_le h0
  exact key ⟨n, by omega⟩
theorem oct_byte {z : Int} (h0 : 0 ≤ z) (h1 : z < 256) : oct z = z := by
  have key : ∀ n : Fin 256, oct (n.val : Int) = (n.val : Int) := by decide +kernel
  obtain ⟨n, rfl⟩ := Int.eq_ofNat_of_zero_le h0
  exact key ⟨n, by omega⟩
theorem octets_of {xs : List Int} (h : inByte xs) : octets xs = true := by
  unfold octets
  rw [List.all_eq_true]
  intro x hx
  obtain ⟨h0, h1⟩ := h x hx
  rw [leB_is, ltB_is]
  simp [h0, h1]

theorem tkP_intro {p : Ps} {m : Int} (hm : 0 < m) {k : Ps → Int → Prop} (h : ∀ xs cnt z, 0 ≤ z → z < m → k { p with xs := xs, cnt := cnt } z) : tkP p m k := by
  have f0 : ∀ a : Int, 0 ≤ a.fmod m := fun a => by rw [Int.fmod_eq_emod_of_nonneg a (by omega)]; exact Int.emod_nonneg _ (by omega)
  have f1 : ∀ a : Int, a.fmod m < m := fun a => by rw [Int.fmod_eq_emod_of_nonneg a (by omega)]; exact Int.emod_lt_of_pos _ hm
  refine ⟨fun e => brT ?_ (h _ p.cnt _ (f0 _) (f1 _)), fun _ => h p.xs _ _ (f0 _) (f1 _)⟩
  rw [ltB_is] at e
  have := of_decide_eq_true e
  exact decide_eq_true (by simpa using this)

/-- what holds between the laps; m: how many there were -/
structure Good (p : Ps) (m : Nat) : Prop where
  sz : p.sz = 4 ∨ p.sz = 2 ∨ p.sz = 6
  conf : Conf p
  lt : OkLt p
  thr : p.thr = p.least
  lst : p.least = 0 ∨ p.least = 7 ∨ p.least = 4
  raised : p.raised = p.others + (if p.other then 1 else 0)
  out : p.out = p.sent
  sure : p.sure = p.got ++ p.wt
  bsure : inByte p.sure
  bsent : inByte p.sent
  wt : (p.wt.length : Int) ≤ p.sz
  waits : p.waits = (eqB p.lt 3 && p.sentU)
  lost : p.lost = (p.lostU || decide (0 < p.losses))
  losses : 0 ≤ p.losses
  lostU : p.lostU = true → p.wt ≠ []
  nsure : p.sure.length ≤ 5 * m
  nsent : p.sent.length ≤ m

theorem inByte_append {a b : List Int} (ha : inByte a) (hb : inByte b) : inByte (a ++ b) := fun x hx => by
  rcases List.mem_append.mp hx with q | q
  · exact ha x q
  · exact hb x q
theorem inByte_take {a : List Int} (ha : inByte a) (n : Nat) : inByte (a.take n) := fun x hx => ha x (List.mem_of_mem_take hx)
theorem inByte_one {z : Int} (h0 : 0 ≤ z) (h1 : z < 256) : inByte [z] := fun x hx => by
  simp at hx; subst hx; exact ⟨h0, h1⟩

section
variable (P : Params) (n : Nat)

/-- the octets of a deed -/
theorem comp_go {L w q : Int} {k : List Int → St → Prop} : ∀ (c : Nat) (p : Ps) (lo : Int) (v0 : V) (acc : List Int), inByte acc →
    (∀ xs cnt os v, os.length = acc.length + c → inByte os → k os (stC (KK P) { p with xs := xs, cnt := cnt } L w q [(S "k", v)])) →
    compGo (TT P) (EE P (n + 10)) (compOf (cameS (KK P))).t (compOf (cameS (KK P))).elt (rngL c lo false) (stC (KK P) p L w q [(S "k", v0)]) acc k
  | 0, p, lo, v0, acc, ha, h => h p.xs p.cnt acc v0 rfl ha
  | c + 1, p, lo, v0, acc, ha, h => by
    show compGo _ _ _ _ (mkI false lo :: rngL c (lo + 1) false) _ _ _
    rw [w_comp1]
    refine tkP_intro (by decide) fun xs cnt z h0 h1 => ?_
    refine comp_go c _ (lo + 1) _ _ (inByte_append ha (inByte_one h0 h1)) fun xs' cnt' os v ho hb => ?_
    exact h xs' cnt' os v (by rw [ho]; simp; omega) hb
theorem comp_all {p : Ps} {L w q : Int} {k : List Int → St → Prop} (c : Nat) (lo : Int) (h : ∀ xs cnt os v, os.length = c + 1 → inByte os → k os (stC (KK P) { p with xs := xs, cnt := cnt } L w q [(S "k", v)])) :
    compGo (TT P) (EE P (n + 10)) (compOf (cameS (KK P))).t (compOf (cameS (KK P))).elt (rngL (c + 1) lo false) (stC (KK P) p L w q []) [] k := by
  show compGo _ _ _ _ (mkI false lo :: rngL c (lo + 1) false) _ _ _
  rw [w_comp0]
  refine tkP_intro (by decide) fun xs cnt z h0 h1 => ?_
  refine comp_go P n c _ (lo + 1) _ _ (inByte_append (fun x hx => by cases hx) (inByte_one h0 h1)) fun xs' cnt' os v ho hb => ?_
  exact h xs' cnt' os v (by rw [ho]; simp; omega) hb
theorem compN_false (T : Tab) (ih : Ev) (t elt : Expr) (n : Nat) (lo : Int) (st : St) (k : List Int → St → Prop) : compN T ih t elt false n lo st k =
  Br (decide (n = 1)) (compGo T ih t elt (rngL 1 lo false) st [] k) (Br (decide (n = 2)) (compGo T ih t elt (rngL 2 lo false) st [] k) (Br (decide (n = 3)) (compGo T ih t elt (rngL 3 lo false) st [] k)
    (Br (decide (n = 4)) (compGo T ih t elt (rngL 4 lo false) st [] k) (Br (decide (n = 5)) (compGo T ih t elt (rngL 5 lo false) st [] k) False)))) := rfl
theorem comp_n {p : Ps} {L w q : Int} {k : List Int → St → Prop} (c : Nat) (h1 : 1 ≤ c) (h5 : c ≤ 5) (lo : Int) (h : ∀ xs cnt os v, os.length = c → inByte os → k os (stC (KK P) { p with xs := xs, cnt := cnt } L w q [(S "k", v)])) :
    compN (TT P) (EE P (n + 10)) (compOf (cameS (KK P))).t (compOf (cameS (KK P))).elt false c lo (stC (KK P) p L w q []) k := by
  have key : ∀ c' : Nat, 1 ≤ c' → c = c' → compGo (TT P) (EE P (n + 10)) (compOf (cameS (KK P))).t (compOf (cameS (KK P))).elt (rngL c' lo false) (stC (KK P) p L w q []) [] k := by
    intro c' h1 e
    obtain ⟨d, rfl⟩ : ∃ d, c' = d + 1 := ⟨c' - 1, by omega⟩
    subst e
    exact comp_all (p := p) P n d lo h
  generalize stC (KK P) p L w q [] = st at key ⊢
  generalize (compOf (cameS (KK P))).t = t at key ⊢
  generalize (compOf (cameS (KK P))).elt = elt at key ⊢
  generalize EE P (n + 10) = E at key ⊢
  generalize TT P = T at key ⊢
  clear h
  rw [compN_false]
  refine ⟨fun e => key 1 (by omega) (of_decide_eq_true e), fun e1 => ⟨fun e => key 2 (by omega) (of_decide_eq_true e), fun e2 => ⟨fun e => key 3 (by omega) (of_decide_eq_true e), fun e3 => ⟨fun e => key 4 (by omega) (of_decide_eq_true e), fun e4 => ⟨fun e => key 5 (by omega) (of_decide_eq_true e), fun e5 => ?_⟩⟩⟩⟩⟩
  have := of_decide_eq_false e1
  have := of_decide_eq_false e2
  have := of_decide_eq_false e3
  have := of_decide_eq_false e4
  have := of_decide_eq_false e5
  omega

/-- the octets come -/
theorem feed_go {L w : Int} {os0 zs : List Int} {k : KF} : ∀ (os : List Int) (p : Ps), inByte os → (p.wt.length : Int) ≤ p.sz → p.sz ≤ 6 →
    k .next (stF (KK P) { p with wt := p.wt ++ os.take (p.sz - p.wt.length).toNat, lostU := p.lostU || decide (p.sz - p.wt.length < os.length) } L w os0 zs) →
    forGo (TT P) (EE P (n + 8)) (fTgt (feedS (KK P))) (fBody (feedS (KK P))) (sints os) (stF (KK P) p L w os0 zs) k
  | [], p, hb, hw, h6, h => by
    have e : { p with wt := p.wt ++ ([] : List Int).take (p.sz - p.wt.length).toNat, lostU := p.lostU || decide (p.sz - p.wt.length < (([] : List Int).length : Int)) } = p := by
      have : decide (p.sz - p.wt.length < (([] : List Int).length : Int)) = false := decide_eq_false (by simp; omega)
      rw [this]; simp
    rw [e] at h
    exact h
  | x :: os, p, hb, hw, h6, h => by
    show forGo _ _ _ _ (.sint x :: sints os) _ _
    rw [w_feed]
    refine ⟨fun e => brT ?_ ?_, fun e => ?_⟩
    · rw [octets_of (inByte_one (hb x (.head _)).1 (hb x (.head _)).2)]
      rw [ltB_is] at e
      have := of_decide_eq_true e
      have h2 : (Int.ofNat p.wt.length) = (p.wt.length : Int) := rfl
      simp; omega
    · rw [ltB_is] at e
      have e := of_decide_eq_true e
      have h2 : (Int.ofNat p.wt.length) = (p.wt.length : Int) := rfl
      refine feed_go os { p with wt := p.wt ++ [x] } (fun y hy => hb y (.tail _ hy)) (by simp; omega) h6 ?_
      have e1 : (p.sz - p.wt.length).toNat = (p.sz - (p.wt ++ [x]).length).toNat + 1 := by simp; omega
      have e2 : decide (p.sz - p.wt.length < ((x :: os).length : Int)) = decide (p.sz - (p.wt ++ [x]).length < (os.length : Int)) := by
        rw [decide_eq_decide]; simp; omega
      rw [e1, e2, List.take_succ_cons] at h
      show k .next (stF (KK P) { p with wt := (p.wt ++ [x]) ++ os.take (p.sz - ((p.wt ++ [x]).length : Int)).toNat, lostU := p.lostU || decide (p.sz - ((p.wt ++ [x]).length : Int) < (os.length : Int)) } L w os0 zs)
      rw [List.append_assoc]
      exact h
    · rw [ltB_is] at e
      have e := of_decide_eq_false e
      have h2 : (Int.ofNat p.wt.length) = (p.wt.length : Int) := rfl
      refine feed_go os { p with lostU := true } (fun y hy => hb y (.tail _ hy)) hw h6 ?_
      have e1 : (p.sz - p.wt.length).toNat = 0 := by omega
      have e2 : decide (p.sz - p.wt.length < ((x :: os).length : Int)) = true := decide_eq_true (by simp; omega)
      rw [e1, e2] at h
      show k .next (stF (KK P) { p with wt := p.wt ++ os.take (p.sz - (p.wt.length : Int)).toNat, lostU := true || decide (p.sz - (p.wt.length : Int) < (os.length : Int)) } L w os0 zs)
      rw [e1]
      simpa using h
end
end Mine

end
/- L2 -/
section
open PySem PySem.W PyProof.Rows
namespace Mine
theorem szP {p : Ps} {m : Nat} (G : Good p m) : 2 ≤ p.sz ∧ p.sz ≤ 6 := by
  rcases G.sz with e | e | e <;> omega
theorem Good.same {p : Ps} {m : Nat} (G : Good p m) (xs : List Int) (cnt : Int) : Good { p with xs := xs, cnt := cnt } m :=
  ⟨G.sz, G.conf, G.lt, G.thr, G.lst, G.raised, G.out, G.sure, G.bsure, G.bsent, G.wt, G.waits, G.lost, G.losses, G.lostU, G.nsure, G.nsent⟩
theorem Good.up {p : Ps} {m : Nat} (G : Good p m) : Good p (m + 1) :=
  ⟨G.sz, G.conf, G.lt, G.thr, G.lst, G.raised, G.out, G.sure, G.bsure, G.bsent, G.wt, G.waits, G.lost, G.losses, G.lostU, by have := G.nsure; omega, by have := G.nsent; omega⟩
theorem Good.lap {p : Ps} {m : Nat} (G : Good p m) (j : Int) : Good { p with lap := j } m :=
  ⟨G.sz, G.conf, G.lt, G.thr, G.lst, G.raised, G.out, G.sure, G.bsure, G.bsent, G.wt, G.waits, G.lost, G.losses, G.lostU, G.nsure, G.nsent⟩
/-- what octets make of the state -/
noncomputable def cameF (p : Ps) (os : List Int) (b : Bool) : Ps := { p with sure := p.sure ++ os.take (p.sz - p.wt.length).toNat, lost := b, wt := p.wt ++ os.take (p.sz - p.wt.length).toNat, lostU := p.lostU || decide (p.sz - p.wt.length < os.length) }
theorem Good.came {p : Ps} {m : Nat} (G : Good p m) {os : List Int} (ho : os.length ≤ 5) (hb : inByte os) {b : Bool} (h : b = (p.lost || decide (p.sz - p.wt.length < os.length))) : Good (cameF p os b) (m + 1) where
  sz := G.sz
  conf := G.conf
  lt := G.lt
  thr := G.thr
  lst := G.lst
  raised := G.raised
  out := G.out
  sure := by show _ ++ _ = _ ++ (_ ++ _); rw [G.sure, List.append_assoc]; rfl
  bsure := inByte_append G.bsure (inByte_take hb _)
  bsent := G.bsent
  wt := by
    have := G.wt
    show ((p.wt ++ os.take (p.sz - p.wt.length).toNat).length : Int) ≤ p.sz
    rw [List.length_append, List.length_take]
    omega
  waits := G.waits
  lost := by
    show b = ((p.lostU || decide (p.sz - p.wt.length < os.length)) || decide (0 < p.losses))
    rw [h, G.lost]
    cases p.lostU <;> simp [Bool.or_comm]
  losses := G.losses
  lostU := by
    have hz := szP G
    have hw := G.wt
    show (p.lostU || decide (p.sz - p.wt.length < os.length)) = true → p.wt ++ _ ≠ []
    intro e he
    obtain ⟨e1, e2⟩ := List.append_eq_nil_iff.mp he
    rcases Bool.or_eq_true_iff.mp e with q | q
    · exact G.lostU q e1
    · have q := of_decide_eq_true q
      rw [e1] at q e2
      have : (os.take (p.sz - (([] : List Int).length : Int)).toNat).length = 0 := by rw [e2]; rfl
      rw [List.length_take] at this
      simp only [List.length_nil] at this q
      omega
  nsure := by
    show (p.sure ++ _).length ≤ _
    have := G.nsure
    rw [List.length_append, List.length_take]
    omega
  nsent := by have := G.nsent; show p.sent.length ≤ _; omega

section
variable (P : Params) (n : Nat)
theorem came_call {p : Ps} {m : Nat} (hm : m ≤ 14) (G : Good p m) {L w q : Int} {os : List Int} (ho : os.length ≤ 5) (hb : inByte os) {k : KF}
    (h : ∀ b, b = (p.lost || decide (p.sz - p.wt.length < os.length)) → k .next (stDw (KK P) (cameF p os b) L w)) :
    (EE P (n + 16)).call (.top 636) [.obj 8, .obj 19, .obj 27] (stDc (KK P) p L w q os) (kExpr (kLast (TT P) 497 (kLast (TT P) 496 k))) := by
  rw [w_cameCall]
  have hw := G.wt
  have hz := szP G
  have hroom : p.sz - (Int.ofNat p.sure.length - Int.ofNat p.got.length) = p.sz - p.wt.length := by
    rw [G.sure, List.length_append]
    have : Int.ofNat (p.got.length + p.wt.length) = (p.got.length : Int) + p.wt.length := by simp
    have h2 : Int.ofNat p.got.length = (p.got.length : Int) := rfl
    omega
  rw [hroom]
  have hn := G.nsure
  refine brT (by rw [leB_is]; exact decide_eq_true (by omega)) (brT (decide_eq_true (by rw [List.length_take]; omega)) ?_)
  have go : ∀ b, b = (p.lost || decide (p.sz - p.wt.length < os.length)) → cameP P n p L w q os (kExpr (kLast (TT P) 497 (kLast (TT P) 496 k))) (p.sz - p.wt.length) b := fun b e => by
    unfold cameP
    refine brT (octets_of hb) ?_
    refine feed_go P (n + 4) os { p with sure := p.sure ++ os.take (p.sz - p.wt.length).toNat, lost := b } hb hw hz.2 ?_
    rw [w_feedEnd]
    exact h b e
  refine ⟨fun e => go true (by rw [e]; rfl), fun e => go _ (by rw [e, ltB_is]; rfl)⟩

theorem deed_ok {p : Ps} {m : Nat} (hm : m + 1 ≤ 14) (G : Good p m) {L : Int} {k : KF} (h : ∀ p' w, Good p' (m + 1) → k .next (stDw (KK P) p' L w)) :
    evSs (TT P) (EE P (n + 20)) (bodyOf (KK P) 641) (stDd (KK P) p L) k := by
  rw [w_way P (n + 8)]
  refine tkP_intro (by decide) fun xs cnt w w0 w5 => ?_
  have G := G.same xs cnt
  generalize { p with xs := xs, cnt := cnt } = p at G ⊢
  rw [show n + 8 + 12 = n + 20 from rfl, w_deedIf]
  refine ⟨fun _ => ?_, fun e1 => ⟨fun _ => ?_, fun e2 => ?_⟩⟩
  · rw [w_came]
    refine tkP_intro (by decide) fun xs cnt z z0 z5 => ?_
    have G := G.same xs cnt
    generalize { p with xs := xs, cnt := cnt } = p at G ⊢
    refine brT ?_ ?_
    · have e1 : rngOk 0 (1 + z) = true := decide_eq_true (by omega)
      have e2 : Nat.ble (1 + z - 0).toNat 1000000 = true := Nat.ble_eq_true_of_le (by omega)
      rw [e1, e2]; rfl
    · refine comp_n P (n + 7) (1 + z - 0).toNat (by omega) (by omega) 0 fun xs cnt os v hl hb => ?_
      rw [w_compEnd]
      have G := G.same xs cnt
      generalize { p with xs := xs, cnt := cnt } = p at G ⊢
      exact came_call P (n + 2) (by omega) G (by omega) hb fun b e => h _ _ (G.came (by omega) hb e)
  · refine ⟨fun e3 => h _ _ ?_, fun e3 => h _ _ ?_⟩
    · have G := G.up
      have e3 : p.other = false := by simpa using e3
      exact ⟨G.sz, G.conf, G.lt, G.thr, G.lst, by show p.raised + 1 = p.others + 1; rw [G.raised, e3]; simp, G.out, G.sure, G.bsure, G.bsent, G.wt, G.waits, G.lost, G.losses, G.lostU, G.nsure, G.nsent⟩
    · have G := G.up
      have e3 : p.other = true := by simpa using e3
      exact ⟨G.sz, G.conf, G.lt, G.thr, G.lst, by show p.raised + 0 = p.others + 1; rw [G.raised, e3]; simp, G.out, G.sure, G.bsure, G.bsent, G.wt, G.waits, G.lost, G.losses, G.lostU, G.nsure, G.nsent⟩
  · rw [w_deed34]
    refine ⟨fun _ => tkP_intro (by decide) fun xs cnt z z0 z3 => ?_, fun _ => tkP_intro (by decide) fun xs cnt z z0 z3 => ?_⟩
    · have G := G.up.same xs cnt
      generalize { p with xs := xs, cnt := cnt } = p at G ⊢
      have lv : ∀ v, (v = 0 ∨ v = 7 ∨ v = 4) → Good { p with least := v, thr := v } (m + 1) := fun v hv =>
        ⟨G.sz, G.conf, G.lt, rfl, hv, G.raised, G.out, G.sure, G.bsure, G.bsent, G.wt, G.waits, G.lost, G.losses, G.lostU, G.nsure, G.nsent⟩
      refine ⟨fun _ => h _ _ (lv 0 (.inl rfl)), fun f1 => ⟨fun _ => h _ _ (lv 7 (.inr (.inl rfl))), fun f2 => ⟨fun _ => h _ _ (lv 4 (.inr (.inr rfl))), fun f3 => ?_⟩⟩⟩
      have := of_decide_eq_false f1
      have := of_decide_eq_false f2
      have := of_decide_eq_false f3
      omega
    · have G := G.same xs cnt
      generalize { p with xs := xs, cnt := cnt } = p at G ⊢
      have hz : oct z = z := oct_byte z0 z3
      rw [hz]
      have hs := G.nsent
      have ho : p.out.length = p.sent.length := by rw [G.out]
      refine brT (octets_of (inByte_one z0 z3)) (brT (decide_eq_true (by simp; omega)) (brT (decide_eq_true (by simp; omega)) (h _ _ ?_)))
      have G' := G.up
      exact ⟨G.sz, G.conf, G.lt, G.thr, G.lst, G.raised, by show p.out ++ [z] = p.sent ++ [z]; rw [G.out], G.sure, G.bsure, inByte_append G.bsent (inByte_one z0 z3), G.wt, by show eqB p.lt 3 = (eqB p.lt 3 && true); simp, G.lost, G.losses, G.lostU, G'.nsure, by show (p.sent ++ [z]).length ≤ _; simp; omega⟩
end
end Mine

end
/- L3 -/
section
open PySem PySem.W PyProof.Rows
namespace Mine
/-- is the serial line due -/
noncomputable def d10 (p : Ps) : Bool := ltB 0 (Int.ofNat p.wt.length) || (eqB p.lt 3 && p.sentU)
noncomputable def LN (p : Ps) : Int := match d10 p, p.other with
  | true, true => 1032
  | true, false => 1024
  | false, true => 8
  | false, false => 0
theorem linesP_intro {p : Ps} {k : Int → Prop} (h : k (LN p)) : linesP p k := by
  unfold linesP
  unfold LN d10 at h
  cases e1 : ltB 0 (Int.ofNat p.wt.length) <;> rw [e1] at h
  · refine brF rfl ?_
    cases e2 : eqB p.lt 3 <;> rw [e2] at h
    · cases e3 : p.other <;> rw [e3] at h
      · exact brF rfl h
      · exact brT rfl h
    · cases e4 : p.sentU <;> rw [e4] at h
      · refine brF rfl ?_
        cases e3 : p.other <;> rw [e3] at h
        · exact brF rfl h
        · exact brT rfl h
      · refine brT rfl ?_
        cases e3 : p.other <;> rw [e3] at h
        · exact brF rfl h
        · exact brT rfl h
  · refine brT rfl ?_
    cases e3 : p.other <;> rw [e3] at h
    · exact brF rfl h
    · exact brT rfl h
theorem LN_ok (p : Ps) : OkL (LN p) := by
  unfold LN OkL
  cases d10 p <;> cases p.other <;> simp
/-- what is due: by the source's state -/
noncomputable def n10 (p : Ps) : Nat := (if ltB 0 (Int.ofNat p.wt.length) then 1 else 0) + (if eqB p.lt 3 && p.sentU then 1 else 0)
noncomputable def rem (p : Ps) : List Int := insL p.r0 p.r1 (p.other && ltB p.least p.r0) (if ltB p.least p.r1 then n10 p else 0)
theorem got_lt {p : Ps} {m : Nat} (G : Good p m) : ltB (Int.ofNat p.got.length) (Int.ofNat p.sure.length) = ltB 0 (Int.ofNat p.wt.length) := by
  rw [ltB_is, ltB_is, G.sure, List.length_append, decide_eq_decide]
  have h1 : Int.ofNat (p.got.length + p.wt.length) = (p.got.length : Int) + p.wt.length := by simp
  have h2 : Int.ofNat p.got.length = (p.got.length : Int) := rfl
  have h3 : Int.ofNat p.wt.length = (p.wt.length : Int) := rfl
  omega
theorem dueT_intro {p : Ps} {m : Nat} (G : Good p m) {k : List Int → Prop} (h : k (rem p)) : dueT p k := by
  have d0 : ∀ b Q, Q → due0 b Q := fun b Q q => by
    cases b
    · exact brT (by simp) q
    · exact q
  have d1 : ∀ b, (p.other && ltB p.least p.r0) = b → due10 p b k := fun b e => by
    unfold due10
    rw [got_lt G, G.waits]
    unfold rem n10 at h
    rw [e] at h
    cases e1 : ltB p.least p.r1 <;> rw [e1] at h
    · exact brF rfl h
    · refine brT rfl ?_
      cases e2 : ltB 0 (Int.ofNat p.wt.length) <;> rw [e2] at h
      · refine brF rfl ?_
        cases e3 : (eqB p.lt 3 && p.sentU) <;> rw [e3] at h
        · exact brF rfl (d0 _ _ h)
        · exact brT rfl h
      · refine brT rfl ?_
        cases e3 : (eqB p.lt 3 && p.sentU) <;> rw [e3] at h
        · exact brF rfl h
        · exact brT rfl h
  unfold dueT
  cases e : p.other
  · exact brF rfl (d1 false (by rw [e]; rfl))
  · refine brT rfl ?_
    cases e2 : ltB p.least p.r0
    · exact brF rfl (d1 false (by rw [e, e2]; rfl))
    · exact brT rfl (d1 true (by rw [e, e2]; rfl))

/-- the other source is served -/
noncomputable def sv3 (p : Ps) : Ps := { p with other := false, others := p.others + 1 }
theorem Good.sv3 {p : Ps} {m : Nat} (G : Good p m) (h : p.other = true) : Good (sv3 p) m :=
  ⟨G.sz, G.conf, G.lt, G.thr, G.lst, by show p.raised = p.others + 1 + 0; rw [G.raised, h]; simp, G.out, G.sure, G.bsure, G.bsent, G.wt, G.waits, G.lost, G.losses, G.lostU, G.nsure, G.nsent⟩
/-- the row is read -/
noncomputable def svR (p : Ps) : Ps := { p with got := p.got ++ p.wt, wt := [], lostU := false, losses := p.losses + (if p.lostU then 1 else 0) }
theorem Good.svR {p : Ps} {m : Nat} (G : Good p m) : Good (svR p) m where
  sz := G.sz
  conf := G.conf
  lt := G.lt
  thr := G.thr
  lst := G.lst
  raised := G.raised
  out := G.out
  sure := by show p.sure = (p.got ++ p.wt) ++ []; rw [G.sure]; simp
  bsure := G.bsure
  bsent := G.bsent
  wt := by have := szP G; show ((([] : List Int).length : Nat) : Int) ≤ p.sz; simp; omega
  waits := G.waits
  lost := by
    have := G.losses
    show p.lost = (false || decide (0 < p.losses + (if p.lostU then 1 else 0)))
    rw [G.lost]
    cases p.lostU
    · simp
    · simp; omega
  losses := by
    have := G.losses
    show 0 ≤ p.losses + (if p.lostU then 1 else 0)
    split <;> omega
  lostU := fun e => by cases e
  nsure := G.nsure
  nsent := G.nsent
/-- the empty sender is told; the waiting state stands behind till the round's end -/
noncomputable def svE (p : Ps) : Ps := { p with sentU := false }
end Mine

end
/- L4 -/
section
open PySem PySem.W PyProof.Rows
set_option maxRecDepth 100000
namespace Mine
/-- the state as it would stand with the round's end -/
noncomputable def fixW (p : Ps) : Ps := { p with waits := eqB p.lt 3 && p.sentU }
theorem fixW_good {p : Ps} {m : Nat} (G : Good p m) : fixW p = p := by
  have h := G.waits
  unfold fixW
  rw [← h]
noncomputable def Mid (p : Ps) (m : Nat) : Prop := Good (fixW p) m
theorem Good.mid {p : Ps} {m : Nat} (G : Good p m) : Mid p m := by
  unfold Mid; rw [fixW_good G]; exact G
theorem Mid.sv3 {p : Ps} {m : Nat} (G : Mid p m) (h : p.other = true) : Mid (sv3 p) m := Good.sv3 (p := fixW p) G h
theorem Mid.svR {p : Ps} {m : Nat} (G : Mid p m) : Mid (svR p) m := Good.svR (p := fixW p) G
theorem Mid.svE {p : Ps} {m : Nat} (G : Mid p m) : Mid (svE p) m :=
  have G : Good (fixW p) m := G
  ⟨G.sz, G.conf, G.lt, G.thr, G.lst, G.raised, G.out, G.sure, G.bsure, G.bsent, G.wt, rfl, G.lost, G.losses, G.lostU, G.nsure, G.nsent⟩

section
variable (P : Params) (n : Nat)
theorem sv_loop {L : Int} {ds ts : List Int} {j : Int} {k : KF} : ∀ (c : Nat) (p : Ps) (i : Int), p.wt.length < c → 0 ≤ i → (i = 0 → p.wt ≠ []) → inByte p.wt → (p.lostU = true → p.wt ≠ []) → p.got.length + p.wt.length ≤ 1000000 →
    (∀ i', k (.ret (.bool true)) (stSe (KK P) (svR p) L ds ts j i' 96)) →
    forGo (TT P) (EE P (n + 31)) (fTgt (svFor (KK P))) (fBody (svFor (KK P))) (rngL c i true) (stS (KK P) p L ds ts j 4) k
  | 0, p, i, hc, _, _, _, _, _, _ => absurd hc (Nat.not_lt_zero _)
  | c + 1, p, i, hc, hi, h0, hb, hl, hn, h => by
    show forGo _ _ _ _ (.int i :: rngL c (i + 1) true) _ _
    rw [w_svGo, w_svT]
    have h9 : Int.ofNat p.wt.length = (p.wt.length : Int) := rfl
    refine ⟨fun e => ?_, fun e => ?_⟩
    · rw [ltB_is] at e
      have e := of_decide_eq_true e
      obtain ⟨x, r, hw⟩ : ∃ x r, p.wt = x :: r := by
        cases q : p.wt with
        | nil => rw [q] at e; simp at e
        | cons x r => exact ⟨x, r, rfl⟩
      have hx := hb x (by rw [hw]; exact .head _)
      have step : ∀ b : Int, ((oct0 (96 + 1 + 2 * b)).fdiv 2).fmod 2 = (if p.lostU then 1 else 0) → gotP p b fun p => kGo (TT P) (EE P (n + 31)) (fTgt (svFor (KK P))) (fBody (svFor (KK P))) (rngL c (i + 1) true) k .next (stS (KK P) p L ds ts j 4) := by
        intro b eb
        unfold gotP
        rw [eb]
        refine brF (by rw [eqB_is]; exact beq_eq_false_iff_ne.mpr (by omega)) (brT (decide_eq_true (by omega)) (brT (decide_eq_true (by simp; omega)) ?_))
        rw [hw, List.headD_cons, oct0_byte hx.1 hx.2, show (x :: r).drop (Int.toNat 1) = r from rfl]
        refine sv_loop c { p with got := p.got ++ [x], wt := r, lostU := false, losses := p.losses + (if p.lostU then 1 else 0) } (i + 1) ?_ (by omega) (fun q => by omega) (fun y hy => hb y (by rw [hw]; exact .tail _ hy)) (fun q => by cases q) ?_ fun i' => ?_
        · rw [hw] at hc; simpa using hc
        · rw [hw] at hn
          show (p.got ++ [x]).length + r.length ≤ 1000000
          simp at hn ⊢; omega
        · have e1 : svR { p with got := p.got ++ [x], wt := r, lostU := false, losses := p.losses + (if p.lostU then 1 else 0) } = svR p := by
            unfold svR
            dsimp only
            rw [hw]
            simp
          rw [e1]
          exact h i'
      refine ⟨fun q => step 1 (by rw [q]; decide +kernel), fun q => step 0 (by rw [q]; decide +kernel)⟩
    · rw [ltB_is] at e
      have e := of_decide_eq_false e
      have hw : p.wt = [] := by
        cases q : p.wt with
        | nil => rfl
        | cons x r => rw [q] at e; simp at e
      have hlu : p.lostU = false := by
        cases q : p.lostU with
        | false => rfl
        | true => exact absurd hw (hl q)
      have hi0 : 0 < i := by
        rcases Int.lt_or_eq_of_le hi with q | q
        · exact q
        · exact absurd hw (h0 q.symm)
      refine brF hlu ?_
      rw [show ((oct0 (96 + 0 + 2 * 0)).fdiv 2).fmod 2 = 0 by decide +kernel, show ltB 0 i = true by rw [ltB_is]; exact decide_eq_true hi0]
      have e1 : { p with losses := p.losses + 0 } = svR p := by
        unfold svR
        rw [hlu, hw]
        simp
      rw [e1]
      exact h i
end
end Mine

end
/- L5 -/
section
open PySem PySem.W PyProof.Rows
set_option maxRecDepth 100000
namespace Mine
section
variable (P : Params) (n : Nat)
theorem kThen_ret {T : Tab} {ih : Ev} {ln : Nat} {r : List Stmt} {k : KF} {v v' : V} {st st' : St} (h : ∀ F : KF, after T ln (.ret v) st F = F (.ret v') st') : kThen T ih ln r k (.ret v) st = k (.ret v') st' := h _
theorem kOn_next {T : Tab} {ih : Ev} {r : List Stmt} {k : KF} {st : St} : kOn T ih r k .next st = evSs T ih r st k := rfl
theorem kOn_ret {T : Tab} {ih : Ev} {r : List Stmt} {k : KF} {v : V} {st : St} : kOn T ih r k (.ret v) st = k (.ret v) st := rfl

theorem run3 {p : Ps} {L : Int} {ds ts : List Int} {j : Int} {k : KF} (hL : L = 8 ∨ L = 1032) (h : OkLt p) (ht : ts.length < 1000000) (hk : k .next (stV (KK P) (sv3 p) (LN (sv3 p)) ds (ts ++ [3]))) :
    evSs (TT P) (EE P (n + 36)) ((fBody (drFor (KK P))).drop 2) (stW (KK P) p L 8 3 ds ts j) k := by
  rw [w_it3 P n p L ds ts j k hL h]
  exact brT (decide_eq_true ht) (linesP_intro hk)

theorem run10 {p : Ps} {m : Nat} (G : Mid p m) (hm : m ≤ 14) {L : Int} {ds ts : List Int} {j : Int} {k : KF} (hL : L = 1024 ∨ L = 1032) (ht : ts.length < 1000000) (hd : d10 p = true)
    (hk : ∀ p1, ((p1 = svR p ∧ p.wt ≠ []) ∨ (p1 = svE p ∧ p.wt = [] ∧ eqB p.lt 3 = true ∧ p.sentU = true)) → k .next (stV (KK P) p1 (LN p1) ds (ts ++ [10]))) :
    evSs (TT P) (EE P (n + 36)) ((fBody (drFor (KK P))).drop 2) (stW (KK P) p L 1024 10 ds ts j) k := by
  have G0 : Good (fixW p) m := G
  have hlt : OkLt p := G0.lt
  rw [evSs_split _ _ 2, w_i10a P n p L ds ts j _ hL]
  refine brT (decide_eq_true ht) ?_
  rw [kOn_next, show ((fBody (drFor (KK P))).drop 2).drop 2 = (fBody (drFor (KK P))).drop 4 from List.drop_drop, w_i10b, evSs_split _ _ 4, w_sv0 P n p L ds (ts ++ [10]) j _ hlt]
  have hw : Int.ofNat p.wt.length = (p.wt.length : Int) := rfl
  refine ⟨fun e => ?_, fun e => ?_⟩
  · rw [ltB_is] at e
    have e := of_decide_eq_true e
    have hne : p.wt ≠ [] := fun q => by rw [q] at e; simp at e
    rw [kOn_next, w_svFor]
    have hb : inByte p.wt := fun x hx => G0.bsure x (by show x ∈ p.sure; rw [show p.sure = p.got ++ p.wt from G0.sure]; exact List.mem_append_right _ hx)
    have hs : p.sure.length = p.got.length + p.wt.length := by rw [show p.sure = p.got ++ p.wt from G0.sure, List.length_append]
    have h5 : p.sure.length ≤ 5 * m := G0.nsure
    have h6 := szP G0
    have h7 : (p.wt.length : Int) ≤ p.sz := G0.wt
    have h8 : p.sz ≤ 6 := h6.2
    refine sv_loop P n 9 p 0 (by omega) (by omega) (fun _ => hne) hb G0.lostU (by omega) fun i' => ?_
    rw [kThen_ret (w_svEnd P (svR p) L ds (ts ++ [10]) j i' true)]
    rw [show { svR p with lostU := false } = svR p from rfl, w_svEnd4 P n (svR p) p L L ds (ts ++ [10]) j i' k, w_i10c P n (svR p) L ds (ts ++ [10]) j k hL hlt]
    exact linesP_intro (hk _ (.inl ⟨rfl, hne⟩))
  · have e' := e
    rw [ltB_is] at e
    have e := of_decide_eq_false e
    have hnil : p.wt = [] := by
      cases q : p.wt with
      | nil => rfl
      | cons x r => rw [q] at e; simp at e
    unfold d10 at hd
    rw [e'] at hd
    obtain ⟨h1, h2⟩ := Bool.and_eq_true_iff.mp (by simpa using hd)
    rw [h1]
    refine brT h2 ?_
    rw [kOn_ret]
    show kSv P n p L ds (ts ++ [10]) j k (.ret (.bool true)) (stS2 (KK P) (svE p) L ds (ts ++ [10]) j)
    rw [w_svEnd2 P n (svE p) p L L ds (ts ++ [10]) j k, w_i10c P n (svE p) L ds (ts ++ [10]) j k hL hlt]
    exact linesP_intro (hk _ (.inr ⟨rfl, hnil, h1, h2⟩))
end
end Mine

end
/- L6 -/
section
open PySem PySem.W PyProof.Rows
set_option maxRecDepth 100000
namespace Mine
theorem tens_succ (n : Nat) : tens (n + 1) = 10 :: tens n := rfl
theorem insL_f (r0 r1 : Int) (n : Nat) : insL r0 r1 false n = tens n := by unfold insL; cases ltB r0 r1 <;> rfl
theorem insL_t {r0 r1 : Int} (h : ltB r0 r1 = true) (n : Nat) : insL r0 r1 true n = tens n ++ [3] := by unfold insL; rw [h]
theorem insL_n {r0 r1 : Int} (h : ltB r0 r1 = false) (n : Nat) : insL r0 r1 true n = 3 :: tens n := by unfold insL; rw [h]
/-- a round's outcome -/
structure DrP (p p' : Ps) (m : Nat) : Prop where
  mid : Mid p' m
  rem : rem p' = []
  r0 : p'.r0 = p.r0
  r1 : p'.r1 = p.r1
  lt : p'.lt = p.lt
  least : p'.least = p.least
  waits : p'.waits = p.waits
  sent : 10 ∉ Mine.rem p → p'.sentU = p.sentU

theorem rem3 {p : Ps} (ha : p.other = true) (hb : ltB p.least p.r0 = true) (hw : ltB p.r0 p.r1 = false ∨ n10 p = 0) : rem p = 3 :: rem (sv3 p) := by
  show insL p.r0 p.r1 (p.other && ltB p.least p.r0) _ = 3 :: insL p.r0 p.r1 (false && ltB p.least p.r0) (if ltB p.least p.r1 then n10 p else 0)
  rw [ha, hb, Bool.false_and, Bool.and_self, insL_f]
  rcases hw with e | e
  · rw [insL_n e]
  · rw [e]
    have : (if ltB p.least p.r1 = true then 0 else 0) = 0 := by split <;> rfl
    rw [this]
    cases q : ltB p.r0 p.r1
    · rw [insL_n q]
    · rw [insL_t q]; rfl
theorem rem10 {p p1 : Ps} (h0 : p1.r0 = p.r0) (h1 : p1.r1 = p.r1) (h2 : p1.least = p.least) (h3 : p1.other = p.other) (hn : n10 p = n10 p1 + 1) (hc : ltB p.least p.r1 = true) (hw : (p.other && ltB p.least p.r0) = false ∨ ltB p.r0 p.r1 = true) : rem p = 10 :: rem p1 := by
  unfold rem
  rw [h0, h1, h2, h3, hc, hn, if_pos rfl, if_pos rfl]
  rcases hw with e | e
  · rw [e, insL_f, insL_f]; rfl
  · cases (p.other && ltB p.least p.r0)
    · rw [insL_f, insL_f]; rfl
    · rw [insL_t e, insL_t e]; rfl
theorem rem_nil {p : Ps} (ha : (p.other && ltB p.least p.r0) = false) (hb : ltB p.least p.r1 = false ∨ n10 p = 0) : rem p = [] := by
  unfold rem
  rw [ha, insL_f]
  have : (if ltB p.least p.r1 = true then n10 p else 0) = 0 := by
    rcases hb with e | e
    · rw [e]; rfl
    · rw [e]; simp
  rw [this]
  rfl
theorem n10_0 {p : Ps} (h : d10 p = false) : n10 p = 0 := by
  unfold d10 at h
  unfold n10
  obtain ⟨h1, h2⟩ := Bool.or_eq_false_iff.mp h
  rw [h1, h2]; rfl
theorem n10_pos {p : Ps} (h : n10 p = 0) : p.wt = [] ∧ (eqB p.lt 3 && p.sentU) = false := by
  unfold n10 at h
  cases e1 : ltB 0 (Int.ofNat p.wt.length) <;> rw [e1] at h
  · cases e2 : (eqB p.lt 3 && p.sentU) <;> rw [e2] at h
    · refine ⟨?_, rfl⟩
      rw [ltB_is] at e1
      have e := of_decide_eq_false e1
      cases q : p.wt with
      | nil => rfl
      | cons x r => rw [q] at e; simp at e
    · simp at h
  · simp at h
theorem rem_len {p : Ps} : (rem p).length ≤ 3 := by
  have : n10 p ≤ 2 := by unfold n10; split <;> split <;> omega
  have t : ∀ n, (tens n).length = n := fun n => by
    induction n with
    | zero => rfl
    | succ n ih => rw [tens_succ, List.length_cons, ih]
  have i : ∀ r0 r1 b n, (insL r0 r1 b n).length ≤ n + 1 := fun r0 r1 b n => by
    unfold insL
    split <;> simp [t]
  unfold rem
  refine Nat.le_trans (i _ _ _ _) ?_
  split <;> omega
theorem tens_mem {n : Nat} (h : 10 ∈ tens n) : n ≠ 0 := fun e => by subst e; cases h
theorem mem10 {p : Ps} (h : 10 ∈ rem p) : ltB p.least p.r1 = true := by
  cases e : ltB p.least p.r1 with
  | true => rfl
  | false =>
    unfold rem at h
    rw [e, if_neg (by simp)] at h
    exfalso
    cases q : (p.other && ltB p.least p.r0)
    · rw [q, insL_f] at h; cases h
    · rw [q] at h
      cases r : ltB p.r0 p.r1
      · rw [insL_n r] at h; simp [tens] at h
      · rw [insL_t r] at h; simp [tens] at h

section
variable (P : Params) (n : Nat)
theorem it_cases {p : Ps} {ds ts : List Int} {j : Int} (K : KF) (hconf : Conf p) (hthr : p.thr = p.least) (hne : LN p ≠ 0)
    (kr : rem p = [] → K (.ret (.obj 27)) (stVl (KK P) p (LN p) ds ts j))
    (k3 : (LN p = 8 ∨ LN p = 1032) → p.other = true → rem p = 3 :: rem (sv3 p) → K .next (stW (KK P) p (LN p) (svOf 3) 3 ds ts j))
    (k10 : (LN p = 1024 ∨ LN p = 1032) → d10 p = true → ltB p.least p.r1 = true → ((p.other && ltB p.least p.r0) = false ∨ ltB p.r0 p.r1 = true) → K .next (stW (KK P) p (LN p) (svOf 10) 10 ds ts j)) :
    evSs (TT P) (EE P (n + 36)) ((fBody (drFor (KK P))).take 2) (stVi (KK P) p (LN p) ds ts j) K := by
  cases hd : d10 p with
  | false =>
    have h0 := n10_0 hd
    cases ho : p.other with
    | false =>
      have hL : LN p = 0 := by unfold LN; rw [hd, ho]
      exact absurd hL hne
    | true =>
      have hL : LN p = 8 := by unfold LN; rw [hd, ho]
      rw [hL] at kr k3 ⊢
      rw [w_itN P n p 8 ds ts j _ (.inl rfl) hconf]
      show Br (ltB p.thr p.r0) (K .next (stW (KK P) p 8 (svOf 3) 3 ds ts j)) (K (.ret (.obj 27)) (stVl (KK P) p 8 ds ts j))
      rw [hthr]
      exact ⟨fun e => k3 (.inl rfl) ho (rem3 ho e (.inr h0)), fun e => kr (rem_nil (by rw [e]; simp) (.inr h0))⟩
  | true =>
    cases ho : p.other with
    | false =>
      have hL : LN p = 1024 := by unfold LN; rw [hd, ho]
      rw [hL] at kr k10 ⊢
      rw [w_itN P n p 1024 ds ts j _ (.inr (.inl rfl)) hconf]
      show Br (ltB p.thr p.r1) (K .next (stW (KK P) p 1024 (svOf 10) 10 ds ts j)) (K (.ret (.obj 27)) (stVl (KK P) p 1024 ds ts j))
      rw [hthr]
      exact ⟨fun e => k10 (.inl rfl) hd e (.inl (by rw [ho]; rfl)), fun e => kr (rem_nil (by rw [ho]; rfl) (.inl e))⟩
    | true =>
      have hL : LN p = 1032 := by unfold LN; rw [hd, ho]
      rw [hL] at kr k3 k10 ⊢
      rw [w_itN P n p 1032 ds ts j _ (.inr (.inr rfl)) hconf]
      cases hr : ltB p.r0 p.r1 with
      | true =>
        have e1 : itT p 1032 (K (.ret (.obj 27)) (stVl (KK P) p 1032 ds ts j)) (fun w => K .next (stW (KK P) p 1032 (svOf w) w ds ts j)) = Br (ltB p.thr p.r0) (K .next (stW (KK P) p 1032 (svOf 10) 10 ds ts j)) (Br (ltB p.thr p.r1) (K .next (stW (KK P) p 1032 (svOf 10) 10 ds ts j)) (K (.ret (.obj 27)) (stVl (KK P) p 1032 ds ts j))) := by
          show Br (ltB p.thr p.r0) ((fun w => K .next (stW (KK P) p 1032 (svOf w) w ds ts j)) (match ltB p.r0 p.r1 with | true => 10 | false => 3)) (Br (ltB p.thr p.r1) ((fun w => K .next (stW (KK P) p 1032 (svOf w) w ds ts j)) (match ltB p.r0 p.r1 with | true => 10 | false => 3)) _) = _
          rw [hr]
        rw [e1, hthr]
        refine ⟨fun e => k10 (.inr rfl) hd ?_ (.inr hr), fun e => ⟨fun e2 => k10 (.inr rfl) hd e2 (.inr hr), fun e2 => kr (rem_nil (by rw [e]; simp) (.inl e2))⟩⟩
        rw [ltB_is] at e hr ⊢
        exact decide_eq_true (Int.lt_trans (of_decide_eq_true e) (of_decide_eq_true hr))
      | false =>
        have e1 : itT p 1032 (K (.ret (.obj 27)) (stVl (KK P) p 1032 ds ts j)) (fun w => K .next (stW (KK P) p 1032 (svOf w) w ds ts j)) = Br (ltB p.thr p.r0) (K .next (stW (KK P) p 1032 (svOf 3) 3 ds ts j)) (Br (ltB p.thr p.r1) (K .next (stW (KK P) p 1032 (svOf 3) 3 ds ts j)) (K (.ret (.obj 27)) (stVl (KK P) p 1032 ds ts j))) := by
          show Br (ltB p.thr p.r0) ((fun w => K .next (stW (KK P) p 1032 (svOf w) w ds ts j)) (match ltB p.r0 p.r1 with | true => 10 | false => 3)) (Br (ltB p.thr p.r1) ((fun w => K .next (stW (KK P) p 1032 (svOf w) w ds ts j)) (match ltB p.r0 p.r1 with | true => 10 | false => 3)) _) = _
          rw [hr]
        rw [e1, hthr]
        refine ⟨fun e => k3 (.inr rfl) ho (rem3 ho e (.inl hr)), fun e => ⟨fun e2 => ?_, fun e2 => kr (rem_nil (by rw [e]; simp) (.inl e2))⟩⟩
        exfalso
        rw [ltB_is] at e e2 hr
        have e := of_decide_eq_false e
        have e2 := of_decide_eq_true e2
        have hr := of_decide_eq_false hr
        omega

theorem drv_loop {m : Nat} (hm : m ≤ 14) {ds : List Int} {k : KF} : ∀ (c : Nat) (p : Ps) (ts : List Int) (j : Int), Mid p m → (rem p).length < c → ts.length + c < 1000 →
    (∀ p' j', DrP p p' m → k (.ret (.obj 27)) (stVl (KK P) p' (LN p') ds (ts ++ rem p) j')) →
    forGo (TT P) (EE P (n + 37)) (fTgt (drFor (KK P))) (fBody (drFor (KK P))) (rngL c j true) (stV (KK P) p (LN p) ds ts) k
  | 0, _, _, _, _, hc, _, _ => absurd hc (Nat.not_lt_zero _)
  | c + 1, p, ts, j, G, hc, ht, h => by
    have G0 : Good (fixW p) m := G
    have hlt : OkLt p := G0.lt
    have hconf : Conf p := G0.conf
    have hthr : p.thr = p.least := G0.thr
    show forGo _ _ _ _ (.int j :: rngL c (j + 1) true) _ _
    -- nothing is due
    have kr : rem p = [] → k (.ret (.obj 27)) (stVl (KK P) p (LN p) ds ts j) := fun e2 => by
      have := h p j ⟨G, e2, rfl, rfl, rfl, rfl, rfl, fun _ => rfl⟩
      rw [e2, List.append_nil] at this
      exact this
    -- a source is served
    have nx : ∀ p1 w, rem p = w :: rem p1 → Mid p1 m → p1.r0 = p.r0 → p1.r1 = p.r1 → p1.lt = p.lt → p1.least = p.least → p1.waits = p.waits → (w = 10 ∨ p1.sentU = p.sentU) →
        forGo (TT P) (EE P (n + 37)) (fTgt (drFor (KK P))) (fBody (drFor (KK P))) (rngL c (j + 1) true) (stV (KK P) p1 (LN p1) ds (ts ++ [w])) k := fun p1 w e G1 e0 e1 e2 e3 e4 e5 => by
      refine drv_loop hm c p1 (ts ++ [w]) (j + 1) G1 (by rw [e] at hc; simpa using hc) (by simp; omega) fun p' j' D => ?_
      have := h p' j' ⟨D.mid, D.rem, D.r0.trans e0, D.r1.trans e1, D.lt.trans e2, D.least.trans e3, D.waits.trans e4, fun hx => ?_⟩
      · rw [e] at this
        rw [List.append_assoc]
        exact this
      · rw [e] at hx
        rcases e5 with q | q
        · exact absurd (by rw [q]; exact .head _) hx
        · exact (D.sent fun y => hx (.tail _ y)).trans q
    by_cases h0 : LN p = 0
    · have hr : rem p = [] := by
        unfold LN at h0
        cases hd : d10 p <;> cases ho : p.other <;> rw [hd, ho] at h0 <;> simp at h0
        exact rem_nil (by rw [ho]; rfl) (.inr (n10_0 hd))
      have kr := kr hr
      rw [h0] at kr ⊢
      rw [w_itGo]
      rw [← w_itGo]
      rw [w_it0]
      exact kr
    · rw [w_itGo]
      refine it_cases P n _ hconf hthr h0 (fun e => ?_) (fun hL ho e => ?_) (fun hL hd hc hw => ?_)
      · rw [kOn_ret]; exact kr e
      · rw [kOn_next]
        exact run3 P n hL hlt (by omega) (nx _ _ e (G.sv3 ho) rfl rfl rfl rfl rfl (.inr rfl))
      · rw [kOn_next]
        refine run10 P n G hm hL (by omega) hd fun p1 hp => ?_
        rcases hp with ⟨rfl, hne⟩ | ⟨rfl, hnil, h1, h2⟩
        · refine nx _ _ (rem10 rfl rfl rfl rfl ?_ hc hw) G.svR rfl rfl rfl rfl rfl (.inl rfl)
          have : ltB 0 (Int.ofNat p.wt.length) = true := by
            rw [ltB_is]
            have : p.wt.length ≠ 0 := fun q => hne (List.length_eq_zero_iff.mp q)
            exact decide_eq_true (by have : Int.ofNat p.wt.length = (p.wt.length : Int) := rfl; omega)
          show (if ltB 0 (Int.ofNat p.wt.length) = true then 1 else 0) + _ = (if ltB 0 (Int.ofNat ([] : List Int).length) = true then 1 else 0) + (if (eqB p.lt 3 && p.sentU) = true then 1 else 0) + 1
          rw [this]
          show 1 + _ = 0 + _ + 1
          omega
        · refine nx _ _ (rem10 rfl rfl rfl rfl ?_ hc hw) G.svE rfl rfl rfl rfl rfl (.inl rfl)
          show _ + (if (eqB p.lt 3 && p.sentU) = true then 1 else 0) = (if ltB 0 (Int.ofNat p.wt.length) = true then 1 else 0) + (if (eqB p.lt 3 && false) = true then 1 else 0) + 1
          rw [h1, h2]; rfl
end
end Mine

end
/- L7 -/
section
open PySem PySem.W PyProof.Rows
set_option maxRecDepth 100000
namespace Mine
theorem rem_empty {p : Ps} (h : rem p = []) : (p.other && ltB p.least p.r0) = false ∧ (ltB p.least p.r1 = true → n10 p = 0) := by
  unfold rem at h
  cases q : (p.other && ltB p.least p.r0)
  · refine ⟨rfl, fun e => ?_⟩
    rw [q, insL_f, e, if_pos rfl] at h
    cases r : n10 p with
    | zero => rfl
    | succ n => rw [r] at h; cases h
  · rw [q] at h
    cases r : ltB p.r0 p.r1
    · rw [insL_n r] at h; cases h
    · rw [insL_t r] at h; simp at h
section
variable (P : Params) (n : Nat)
theorem rr_ok {p : Ps} {m : Nat} (hm : m ≤ 14) (G : Good p m) {L : Int} (hL : OkL L) {k : KF}
    (h : ∀ p' ds ts v, Good p' m → rem p' = [] → p'.least = p.least → (v = .bool true ∨ v = .sbool true) → k (.ret v) (stR2 (KK P) p' (LN p') ds ts)) :
    evSs (TT P) (EE P (n + 40)) (bodyOf (KK P) 653) (stR0 (KK P) p L) k := by
  rw [w_due P (n + 22) p L k G.conf]
  refine dueT_intro G ?_
  rw [show n + 22 + 18 = n + 40 from rfl, w_rr1 P n p L (rem p) k hL G.lt]
  refine linesP_intro ?_
  refine drv_loop P n hm 8 p [] 0 G.mid (by have := @rem_len p; omega) (by simp) fun p' j' D => ?_
  rw [w_drEnd, List.nil_append]
  have G' : Good (fixW p') m := D.mid
  obtain ⟨e1, e2⟩ := rem_empty D.rem
  rw [w_rrEnd P (n + 22) p' (LN p') (rem p) (rem p) k G'.conf]
  have hsure : p'.sure = p'.got ++ p'.wt := G'.sure
  have hget : decide (p'.got = p'.sure.take (Int.ofNat p'.got.length).toNat) = true := by
    rw [hsure]
    exact decide_eq_true (by simp)
  have hle : leB 0 (Int.ofNat p'.got.length) = true := by rw [leB_is]; exact decide_eq_true (by have : Int.ofNat p'.got.length = (p'.got.length : Int) := rfl; omega)
  -- the round's answer
  have fin : ∀ p'', Good p'' m → rem p'' = [] → p''.least = p.least → p''.other = p'.other → LN p'' = LN p' → Br (leB p'.r0 p'.least) (k (.ret (.bool true)) (stR2 (KK P) p'' (LN p') (rem p) (rem p))) (k (.ret (.sbool (!p'.other))) (stR2 (KK P) p'' (LN p') (rem p) (rem p))) := fun p'' G2 r2 l2 o2 n2 => by
    rw [← n2]
    refine ⟨fun _ => h _ _ _ _ G2 r2 l2 (.inl rfl), fun e => ?_⟩
    rw [leB_is] at e
    have e := of_decide_eq_false e
    have ho : p'.other = false := by
      have : ltB p'.least p'.r0 = true := by rw [ltB_is]; exact decide_eq_true (by omega)
      rw [this] at e1
      simpa using e1
    rw [ho]
    exact h _ _ _ _ G2 r2 l2 (.inr rfl)
  refine brF (by simp) ⟨fun h10 => ?_, fun h10 => ?_⟩
  · have h10 := of_decide_eq_true h10
    have hr1 : ltB p'.least p'.r1 = true := by rw [D.least, D.r1]; exact mem10 h10
    obtain ⟨hw, hs⟩ := n10_pos (e2 hr1)
    refine brF (by rw [hsure, hw]; simp) (brT hle (brT hget ?_))
    have e : fixW p' = { p' with waits := false } := by unfold fixW; rw [hs]
    exact fin { p' with waits := false } (e ▸ G') D.rem D.least rfl rfl
  · have h10 := of_decide_eq_false h10
    refine brT hle (brT hget ?_)
    have e : fixW p' = p' := by
      unfold fixW
      have : p'.waits = (eqB p'.lt 3 && p'.sentU) := by rw [D.waits, D.lt, D.sent h10]; exact G.waits
      rw [← this]
    exact fin p' (e ▸ G') D.rem D.least rfl rfl

theorem w_deedEnd (p p0 : Ps) (L L0 w : Int) (k : KF) : kRet (stLl (KK P) p0 L0) (kExpr k) .next (stDw (KK P) p L w) = k .next (stLl (KK P) p L) := by kernel_rfl
theorem w_a538 (p : Ps) (L : Int) (F : KF) : after (TT P) 538 .next (stLl (KK P) p L) F = F .next (stLl (KK P) p L) := by kernel_rfl
theorem lap_ok {p : Ps} {m : Nat} (hm : m + 1 ≤ 14) (G : Good p m) {L : Int} (hL : OkL L) {k : KF} (h : ∀ p' L', Good p' (m + 1) → OkL L' → k .next (stLl (KK P) p' L')) :
    evSs (TT P) (EE P (n + 45)) (fBody (lapFor (KK P))) (stLl (KK P) p L) k := by
  rw [w_lap P (n + 22)]
  refine deed_ok P (n + 22) hm G fun p' w G' => ?_
  rw [w_deedEnd, kThen_of (w_a538 P p' L), w_lapR P (n + 22)]
  refine rr_ok P n hm G' hL fun p2 ds ts v G2 _ _ hv => ?_
  rcases hv with rfl | rfl
  · rw [w_lapEndT P (n + 22)]
    exact h _ _ G2 (LN_ok p2)
  · rw [w_lapEndS P (n + 22)]
    exact brT rfl (h _ _ G2 (LN_ok p2))
theorem laps_ok {k : KF} (h : ∀ p' L' m', Good p' m' → m' ≤ 14 → OkL L' → k .next (stLl (KK P) p' L')) : ∀ (c : Nat) (p : Ps) (m : Nat) (L j : Int), Good p m → OkL L → m + c ≤ 14 →
    forGo (TT P) (EE P (n + 46)) (fTgt (lapFor (KK P))) (fBody (lapFor (KK P))) (rngL c j false) (stLl (KK P) p L) k
  | 0, p, m, L, j, G, hL, hm => h p L m G hm hL
  | c + 1, p, m, L, j, G, hL, hm => by
    show forGo _ _ _ _ (.sint j :: rngL c (j + 1) false) _ _
    rw [forGo_cons, w_lapA2, ev_ss]
    refine lap_ok P n (by omega) (G.lap j) hL fun p' L' G' hL' => ?_
    exact laps_ok h c p' (m + 1) L' (j + 1) G' hL' (by omega)
theorem laps_all {k : KF} (h : ∀ p' L' m', Good p' m' → m' ≤ 14 → OkL L' → k .next (stLl (KK P) p' L')) (c : Nat) (p : Ps) (j : Int) (G : Good p 0) (hm : c + 1 ≤ 14) :
    forGo (TT P) (EE P (n + 46)) (fTgt (lapFor (KK P))) (fBody (lapFor (KK P))) (rngL (c + 1) j false) (stL (KK P) p 0) k := by
  show forGo _ _ _ _ (.sint j :: rngL c (j + 1) false) _ _
  rw [forGo_cons, w_lapA, ev_ss]
  refine lap_ok P n (by omega) (G.lap j) (.inl rfl) fun p' L' G' hL' => ?_
  exact laps_ok P n h c p' 1 L' (j + 1) G' hL' (by omega)
end
end Mine

end
/- L8 -/
section
open PySem PySem.W PyProof.Rows
set_option maxRecDepth 100000
namespace Mine
section
variable (P : Params) (n : Nat)
/-- behind the laps -/
theorem end_ok {p : Ps} {m : Nat} (hm : m ≤ 14) (G : Good p m) {L : Int} (hL : OkL L) {kk : Fl → Prop} (h : kk (.ret (.bool true))) :
    evSs (TT P) (EE P (n + 46)) ((bodyOf (KK P) 660).drop 12) (stLl (KK P) p L) (fun fl _ => kk fl) := by
  rw [evSs_split _ _ 2, w_fin0, kOn_next, w_fin1]
  have G1 : Good { p with least := 0, thr := 0 } m := ⟨G.sz, G.conf, G.lt, rfl, .inl rfl, G.raised, G.out, G.sure, G.bsure, G.bsent, G.wt, G.waits, G.lost, G.losses, G.lostU, G.nsure, G.nsent⟩
  refine rr_ok P n hm G1 hL fun p2 ds ts v G2 hr hl hv => ?_
  have hl : p2.least = 0 := hl
  obtain ⟨e1, e2⟩ := rem_empty hr
  have hc : ltB p2.least p2.r0 = true ∧ ltB p2.least p2.r1 = true := by
    rw [hl, ltB_is, ltB_is]
    rcases G2.conf with ⟨q1, q2⟩ | ⟨q1, q2⟩ | ⟨q1, q2⟩ <;> rw [q1, q2] <;> exact ⟨by decide, by decide⟩
  have ho : p2.other = false := by rw [hc.1] at e1; simpa using e1
  have h0 := e2 hc.2
  obtain ⟨hw, hs⟩ := n10_pos h0
  have hd : d10 p2 = false := by
    unfold d10
    rw [hs, hw]; rfl
  have hLN : LN p2 = 0 := by unfold LN; rw [hd, ho]
  have hg : p2.got = p2.sure := by rw [G2.sure, hw]; simp
  have fin : evSs (TT P) (EE P (n + 46)) ((bodyOf (KK P) 660).drop 15) (stLl (KK P) p2 (LN p2)) (fun fl _ => kk fl) := by
    rw [hLN, w_fin2 P n p2 kk G2.lt]
    have f1 : eqB p2.others p2.raised = true := by rw [eqB_is, G2.raised, ho]; simp
    have hlu : p2.lostU = false := by
      cases q : p2.lostU with
      | false => rfl
      | true => exact absurd hw (G2.lostU q)
    have f2 : p2.lost = ltB 0 p2.losses := by rw [G2.lost, hlu, ltB_is]; rfl
    refine brF (by rw [f1]; rfl) (brF (by rw [f2]; cases ltB 0 p2.losses <;> rfl) (brT (octets_of G2.bsent) (brT (decide_eq_true G2.out) (brF (by rw [hw]; rfl) ?_))))
    cases q : eqB p2.lt 3 with
    | true =>
      rw [q] at hs
      exact brF (by simpa using hs) h
    | false => exact h
  rcases hv with rfl | rfl
  · rw [w_finT P n p2 _ (LN p2)]
    exact brF (by rw [hg]; simp) fin
  · rw [w_finS P n p2 _ (LN p2)]
    exact brT rfl (brF (by rw [hg]; simp) fin)

theorem moreP_intro {ys : List Int} {m : Int} (hm : 0 < m) {k : List Int → Int → Prop} {k0 : Prop} (h : ∀ ys z, 0 ≤ z → z < m → k ys z) (h0 : k0) : moreP ys m k k0 := by
  refine ⟨fun e => brT ?_ (h _ _ ?_ ?_), fun _ => h0⟩
  · rw [ltB_is] at e
    have := of_decide_eq_true e
    exact decide_eq_true (by simpa using this)
  · rw [Int.fmod_eq_emod_of_nonneg _ (by omega)]; exact Int.emod_nonneg _ (by omega)
  · rw [Int.fmod_eq_emod_of_nonneg _ (by omega)]; exact Int.emod_lt_of_pos _ hm
theorem pick3_intro {z : Int} {a b c : Prop} (h0 : 0 ≤ z) (h3 : z < 3) (ha : a) (hb : b) (hc : c) : pick3 z a b c := by
  refine ⟨fun _ => ha, fun e1 => ⟨fun _ => hb, fun e2 => ⟨fun _ => hc, fun e3 => ?_⟩⟩⟩
  have e1 := of_decide_eq_false e1
  have e2 := of_decide_eq_false e2
  have e3 := of_decide_eq_false e3
  omega
theorem sizeP_intro {ys : List Int} {k : List Int → Int → Prop} (h : ∀ ys sz, (sz = 4 ∨ sz = 2 ∨ sz = 6) → k ys sz) : sizeP ys k :=
  moreP_intro (by decide) (fun ys z h0 h3 => pick3_intro h0 h3 (h _ _ (.inl rfl)) (h _ _ (.inr (.inl rfl))) (h _ _ (.inr (.inr rfl)))) (h _ _ (.inl rfl))
theorem ranksP_intro {ys : List Int} {k : List Int → Int → Int → Prop} (h : ∀ ys r0 r1, ((r0 = 2 ∧ r1 = 5) ∨ (r0 = 5 ∧ r1 = 2) ∨ (r0 = 3 ∧ r1 = 3)) → k ys r0 r1) : ranksP ys k :=
  moreP_intro (by decide) (fun ys z h0 h3 => pick3_intro h0 h3 (h _ _ _ (.inl ⟨rfl, rfl⟩)) (h _ _ _ (.inr (.inl ⟨rfl, rfl⟩))) (h _ _ _ (.inr (.inr ⟨rfl, rfl⟩)))) (h _ _ _ (.inl ⟨rfl, rfl⟩))

theorem good0 {xs ys : List Int} {sz r0 r1 lt : Int} (hs : sz = 4 ∨ sz = 2 ∨ sz = 6) (hc : (r0 = 2 ∧ r1 = 5) ∨ (r0 = 5 ∧ r1 = 2) ∨ (r0 = 3 ∧ r1 = 3)) (hl : lt = 1 ∨ lt = 3) : Good (p00 xs ys sz r0 r1 lt) 0 where
  sz := hs
  conf := hc
  lt := hl
  thr := rfl
  lst := .inl rfl
  raised := rfl
  out := rfl
  sure := rfl
  bsure := fun x hx => by cases hx
  bsent := fun x hx => by cases hx
  wt := by rcases hs with e | e | e <;> (show (([] : List Int).length : Int) ≤ sz; rw [e]; decide)
  waits := by show eqB lt 3 = (eqB lt 3 && eqB lt 3); simp
  lost := rfl
  losses := by show (0 : Int) ≤ 0; decide
  lostU := fun e => by cases e
  nsure := Nat.le_refl 0
  nsent := Nat.le_refl 0

theorem laps_n {p : Ps} : 3 ≤ lapsOf p ∧ lapsOf p ≤ 14 := by
  have h3 : (0 : Int) ≤ (Int.ofNat p.scr.length).fdiv 4 := by
    rw [Int.fdiv_eq_ediv_of_nonneg _ (by decide)]
    exact Int.ediv_nonneg (Int.natCast_nonneg _) (by decide)
  unfold lapsOf
  cases q : ltB (3 + (Int.ofNat p.scr.length).fdiv 4) 14
  · exact ⟨(by decide : (3 : Int) ≤ 14), (by decide : (14 : Int) ≤ 14)⟩
  · rw [ltB_is] at q
    have q := of_decide_eq_true q
    exact ⟨by dsimp only; omega, by dsimp only; omega⟩
theorem laps_end {p : Ps} {m : Nat} (hm : m ≤ 14) (G : Good p m) {L : Int} (hL : OkL L) {kk : Fl → Prop} (h : kk (.ret (.bool true))) :
    kThen (TT P) (EE P (n + 46)) 537 ((bodyOf (KK P) 660).drop 12) (fun fl _ => kk fl) .next (stLl (KK P) p L) := by
  rw [kThen_of (w_a537 P p L)]
  exact end_ok P n hm G hL h
theorem law_for {p : Ps} (G : Good p 0) {kk : Fl → Prop} (h : kk (.ret (.bool true))) : evSs (TT P) (EE P (n + 46)) ((bodyOf (KK P) 660).drop 11) (stP (KK P) p) (fun fl _ => kk fl) := by
  rw [w_for]
  have hn := @laps_n p
  refine brT (decide_eq_true (by omega)) ?_
  obtain ⟨c, hc'⟩ : ∃ c, (lapsOf p - 0).toNat = c + 1 := ⟨(lapsOf p - 0).toNat - 1, by omega⟩
  have hc : c + 1 ≤ 14 := by omega
  rw [hc']
  refine laps_all P n ?_ c p 0 G hc
  intro p' L' m' G' hm' hL'
  exact laps_end P n hm' G' hL' h
theorem law_pre {xs ys : List Int} {sz r0 r1 lt : Int} (hs : sz = 4 ∨ sz = 2 ∨ sz = 6) (hc : (r0 = 2 ∧ r1 = 5) ∨ (r0 = 5 ∧ r1 = 2) ∨ (r0 = 3 ∧ r1 = 3)) (hl : lt = 1 ∨ lt = 3) {kk : Fl → Prop} (h : kk (.ret (.bool true))) :
    evSs (TT P) (EE P (n + 46)) ((bodyOf (KK P) 660).drop 5) (stB (KK P) xs ys sz r0 r1 lt) (fun fl _ => kk fl) := by
  rw [evSs_split _ _ 6, w_preC P n xs ys sz r0 r1 lt _ hc hl]
  refine brF (by rw [ltB_is]; rcases hs with e | e | e <;> rw [e] <;> decide) ?_
  rw [kOn_next, show ((bodyOf (KK P) 660).drop 5).drop 6 = (bodyOf (KK P) 660).drop 11 from List.drop_drop]
  exact law_for P n (good0 hs hc hl) h
/-- the whole law -/
theorem law_ok (xs : List Int) {kk : Fl → Prop} (h : kk (.ret (.bool true))) : evSs (TT P) (EE P (n + 46)) (bodyOf (KK P) 660) (st00 (KK P) xs) (fun fl _ => kk fl) := by
  rw [evSs_split _ _ 2, w_preA]
  refine sizeP_intro fun ys sz hs => ranksP_intro fun ys r0 r1 hc => ?_
  rw [kOn_next, evSs_split _ _ 3, w_preB, show ((bodyOf (KK P) 660).drop 2).drop 3 = (bodyOf (KK P) 660).drop 5 from List.drop_drop]
  have key : ∀ ys lt, (lt = 1 ∨ lt = 3) → kOn (TT P) (EE P (n + 46)) ((bodyOf (KK P) 660).drop 5) (fun fl _ => kk fl) .next (stB (KK P) xs ys sz r0 r1 lt) := by
    intro ys lt hl
    rw [kOn_next]
    exact law_pre P n hs hc hl h
  generalize kOn (TT P) (EE P (n + 46)) ((bodyOf (KK P) 660).drop 5) (fun fl _ => kk fl) = K at key ⊢
  refine moreP_intro (by decide) (fun ys z h0 h2 => ⟨fun _ => key ys 1 (.inl rfl), fun e1 => ⟨fun _ => key ys 3 (.inr rfl), fun e2 => ?_⟩⟩) (key ys 1 (.inl rfl))
  have e1 := of_decide_eq_false e1
  have e2 := of_decide_eq_false e2
  omega
end
end Mine

end
/- J -/
section
open PySem PySem.W PySem.Calls PyProof.Rows
set_option maxRecDepth 100000
namespace Mine

theorem KK_is (P : Params) : KK P = KT P := by unfold KK; rfl
theorem in_law (P : Params) (xs : List Int) : callIn? (tabC (KT P) []) 660 [.ro xs] = some ⟨bodyOf (KK P) 660, [(S "script", .ro xs)], scOf (KK P) 660⟩ := by kernel_rfl

/-- the call of the law, from outside -/
theorem law_call {c : Cx} {A : Around} {s : Shared} {Q : Value → Shared → Prop} {P : Params} (hT : c.T = tabC (KT P) []) (TO : TabOk c) (G : GOk c s.heap) (AO : AOk A 96) {l : Addr} {ys : List Value} {xs : List Int}
    (hl : c.ro.IsList l (List.toArray ys)) (hi : IntsAre ys xs) (hn : xs.length ≤ 1000000)
    (hQ : ∀ h' tk, (∀ b o, s.heap.get? b = some o → h'.get? b = some o) → Q (.bool true) ⟨h', s.gens, s.drawn, tk, s.os⟩) :
    codeN (MD c) A (.call (.ref 660) ⟨[.ref l], []⟩) (isRet Q) s := by
  have hsp : c.T.spec = [] := by rw [hT]; rfl
  have SO : SpecOk c 0 := fun f sp e => by rw [hsp] at e; cases e
  have S := Sound.ev TO SO 47
  refine sTop (k := fun v _ => v = .bool true) (vs := [.ro xs]) (sc := []) TO hsp S G (AO.less (by omega)) (.cons ⟨l, ys, rfl, hl, hi, hn⟩ .nil) (fun v st y h' tk as hk hv e => ?_) ?_
  · subst e
    obtain rfl : y = _ := hv
    exact hQ h' tk hk
  · rw [hT]
    rw [(callF_in (in_law P xs)).1]
    exact law_ok P 0 xs (kk := fun fl => (match fl with | .next => V.none | .ret v => v) = .bool true) rfl
end Mine
namespace Mine
theorem holds_law : PySem.Challenge.rw_nz0221_01.Holds := by
  refine head ?_
  intro w s₀ s₁ mg mb G KX hg args vals as hpre hlay hrd hwl hlo
  obtain ⟨loose, T⟩ : ∃ loose, TopRead qT loose mg mb s₁.heap := ⟨_, topRead_of G.T⟩
  wrow_args hpre hlay hrd hwl hlo
  rename_i xs _ _ _ _ _ _ _ l ys _ hL _ _ _ hI _ hlen _
  let c : Cx := ⟨PySem.Challenge.rw_nz0221_01.row.prog, w, KT w.params, tabC (KT w.params) [], qT, loose, mg, mb, s₁.heap⟩
  have TO : TabOk c := tabOk (.type "type") (tk_glob _) (tk_fld _) (tk_set _) (tk_mth _) (tk_con _) (tk_sz _) (tk_keep _) (tk_fn _) (tk_ini _) (tk_ity _)
  have GO : GOk c s₁.heap := ⟨KX, T, fun _ _ e => e⟩
  refine wpN_call (law_call (c := c) (P := w.params) rfl TO GO ⟨rfl, by decide, by decide⟩ hL hI (by omega) fun h' tk hk => ?_)
  refine ⟨.inl ⟨_, _, [], rfl, fun _ => rfl, ReadsW.bool true, ?_, fun _ => ⟨List.nodup_nil, fun _ hm => (nomatch hm)⟩⟩, ?_, rfl, ?_⟩
  · wrow_post
  · exact OldK.of_keep hk
  · show AllBare s₁.gens
    rw [hg]
    exact AllBare.empty
end Mine

end
theorem PySem.Challenge.cw_nz0221_01_holds : PySem.Challenge.rw_nz0221_01.Holds := by
  exact Mine.holds_law
