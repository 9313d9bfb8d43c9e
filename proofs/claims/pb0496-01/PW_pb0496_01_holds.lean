import PyProof.Rows.All
import Wide.All
import OpenK.AllK
import Wide.FinOn
import PySem.Challenge.RW_pb0496_01
set_option linter.unusedVariables false
set_option linter.constructorNameAsVariable false
set_option Elab.async false
set_option tactic.hygienic false
namespace Mine
open PySem

/-- steps that may fail -/
noncomputable def o2 {α β γ : Type} (x : Option (α × β)) (f : α → β → Option γ) : Option γ := match x with
  | some (a, b) => f a b
  | .none => .none
noncomputable def o1 {α γ : Type} (x : Option α) (f : α → Option γ) : Option γ := match x with
  | some a => f a
  | .none => .none
/-- the value of a Python object as a tree -/
inductive D where
  | none | bool (b : Bool) | int (i : Int) | str (s : Str) | bytes (b : List UInt8)
  | tup (l : List D) | list (l : List D) | dict (l : List (D × D)) | inst (C : Nat) (fs : List (Str × D))

noncomputable def leqN : List Nat → List Nat → Bool
  | [], [] => true
  | a :: x, b :: y => if Nat.beq a b then leqN x y else false
  | _, _ => false
noncomputable def ltN : List Nat → List Nat → Bool
  | [], [] => false
  | [], _ :: _ => true
  | _ :: _, [] => false
  | a :: x, b :: y => if Nat.beq a b then ltN x y else Nat.blt a b
noncomputable def seq (a b : Str) : Bool := leqN a.cps.toList b.cps.toList

noncomputable def asInt : D → Option Int
  | .int i => some i
  | _ => .none
noncomputable def asNat : D → Option Nat
  | .int (.ofNat n) => some n
  | _ => .none
noncomputable def asStr : D → Option Str
  | .str s => some s
  | _ => .none
noncomputable def asList : D → Option (List D)
  | .list l => some l
  | _ => .none
noncomputable def asTup : D → Option (List D)
  | .tup l => some l
  | _ => .none
noncomputable def asDict : D → Option (List (D × D))
  | .dict l => some l
  | _ => .none
noncomputable def asInst : D → Option (Nat × List (Str × D))
  | .inst C fs => some (C, fs)
  | _ => .none
noncomputable def asBytes : D → Option (List UInt8)
  | .bytes l => some l
  | _ => .none
noncomputable def oneOf : List D → Option D
  | [d] => some d
  | _ => .none
noncomputable def twoOf : List D → Option (D × D)
  | [d, e] => some (d, e)
  | _ => .none
noncomputable def isNone : D → Bool
  | .none => true
  | _ => false
noncomputable def nameT : Expr → Option Str
  | .Name x _ => some x
  | _ => .none
noncomputable def tupT : Expr → Option (List Expr)
  | .Tuple ts _ _ => some ts
  | _ => .none
noncomputable def oneE : List Expr → Option Expr
  | [e] => some e
  | _ => .none
noncomputable def twoE : List Expr → Option (Expr × Expr)
  | [e, f] => some (e, f)
  | _ => .none
noncomputable def isAnd : BoolOp → Bool
  | .And => true
  | .Or => false
inductive Slot where
  | dat (d : D) | own (d : D)
noncomputable def Slot.d : Slot → D
  | .dat d => d
  | .own d => d

structure MEnv where
  names : List (Str × NameKind)
  vars : List (Str × Slot)
  pin : Option Str := .none

noncomputable def kindL : List (Str × NameKind) → Str → Option NameKind
  | [], _ => .none
  | (y, k) :: r, x => if seq y x then some k else kindL r x
noncomputable def getv : List (Str × Slot) → Str → Option Slot
  | [], _ => .none
  | (y, s) :: r, x => if seq y x then some s else getv r x
noncomputable def putv : List (Str × Slot) → Str → Slot → List (Str × Slot)
  | [], x, s => [(x, s)]
  | (y, t) :: r, x, s => if seq y x then (y, s) :: r else (y, t) :: putv r x s
noncomputable def MEnv.isVar (e : MEnv) (x : Str) : Bool := match kindL e.names x with
  | some .local => true
  | some .cell => true
  | some .free => true
  | _ => false
noncomputable def MEnv.isGlob (e : MEnv) (x : Str) : Bool := match kindL e.names x with
  | some .globalImplicit => true
  | _ => false
noncomputable def MEnv.isOwnVar (e : MEnv) (x : Str) : Bool := match kindL e.names x with
  | some .local => true
  | some .cell => true
  | _ => false
noncomputable def MEnv.get (e : MEnv) (x : Str) : Option Slot := if e.isVar x then getv e.vars x else .none
noncomputable def MEnv.put (e : MEnv) (x : Str) (s : Slot) : MEnv := { e with vars := putv e.vars x s }

structure FnRec where
  addr : Nat
  params : List Str
  body : List Stmt
  names : List (Str × NameKind)
  borrows : Bool := false
  dflts : List D := []

inductive GV where
  | fn (f : FnRec)
  | cls (C : Nat) (init : FnRec)
  | val (d : D)

structure Gt where
  globals : List (Str × GV)
  methods : List (Nat × Str × FnRec)
  fields : List (Nat × Str)
  classes : List Nat

noncomputable def lookS {α : Type} : List (Str × α) → Str → Option α
  | [], _ => .none
  | (y, k) :: r, x => if seq y x then some k else lookS r x
noncomputable def fieldIn : List (Nat × Str) → Nat → Str → Bool
  | [], _, _ => false
  | (c, y) :: r, C, x => if Nat.beq c C then (if seq y x then true else fieldIn r C x) else fieldIn r C x
noncomputable def lookM : List (Nat × Str × FnRec) → Nat → Str → Option FnRec
  | [], _, _ => .none
  | (c, y, f) :: r, C, x => if Nat.beq c C then (if seq y x then some f else lookM r C x) else lookM r C x

/-! pure operations -/
noncomputable def fitN (n : Nat) : Bool := Nat.ble n 1000000
noncomputable def fitI (i : Int) : Bool := Nat.blt i.natAbs 18446744073709551616
noncomputable def truthyD : D → Option Bool
  | .none => some false
  | .bool b => some b
  | .int i => some (i != 0)
  | .str s => if fitN s.length then some (s.length != 0) else .none
  | .tup l => if fitN l.length then some (!l.isEmpty) else .none
  | .list l => if fitN l.length then some (!l.isEmpty) else .none
  | .dict l => if fitN l.length then some (!l.isEmpty) else .none
  | _ => .none

noncomputable def bytesEq : List UInt8 → List UInt8 → Bool
  | [], [] => true
  | a :: x, b :: y => if Nat.beq a.toNat b.toNat then bytesEq x y else false
  | _, _ => false
noncomputable def eqLs (f : D → D → Option Bool) : List D → List D → Option Bool
  | a :: x, b :: y => o1 (f a b) fun p => o1 (eqLs f x y) fun q => some (if p then q else false)
  | _, _ => some true
noncomputable def eqD : Nat → D → D → Option Bool
  | 0, _, _ => .none
  | n + 1, a, b => match a with
    | .none => if isNone b then some true else .none
    | .int x => o1 (asInt b) fun y => some (x == y)
    | .str x => o1 (asStr b) fun y => some (seq x y)
    | .bytes x => o1 (asBytes b) fun y => some (bytesEq x y)
    | .tup x => o1 (asTup b) fun y => o1 (eqLs (eqD n) x y) fun c => some (if Nat.beq x.length y.length then c else false)
    | .list x => o1 (asList b) fun y => if y.isEmpty then some x.isEmpty else .none
    | _ => .none
noncomputable def keyEq (a b : D) : Option Bool := match a with
  | .int x => o1 (asInt b) fun y => some (x == y)
  | .str x => o1 (asStr b) fun y => some (seq x y)
  | .bytes x => o1 (asBytes b) fun y => some (bytesEq x y)
  | _ => .none
/-- the value at a key; the first none: a key of another kind -/
noncomputable def dget : List (D × D) → D → Option (Option D)
  | [], x => o1 (keyEq x x) fun zz=> some .none
  | (k, v) :: r, x => o1 (keyEq k x) fun b => if b then some (some v) else dget r x
noncomputable def dput : List (D × D) → D → D → Option (List (D × D))
  | [], x, w => o1 (keyEq x x) fun zz=> some [(x, w)]
  | (k, v) :: r, x, w => o1 (keyEq k x) fun b => if b then some ((k, w) :: r) else o1 (dput r x w) fun l => some ((k, v) :: l)
noncomputable def fget : List (Str × D) → Str → Option D
  | [], _ => .none
  | (y, d) :: r, x => if seq y x then some d else fget r x
noncomputable def fput : List (Str × D) → Str → D → List (Str × D)
  | [], x, w => [(x, w)]
  | (y, d) :: r, x, w => if seq y x then (y, w) :: r else (y, d) :: fput r x w

noncomputable def ltD (a b : D) : Option Bool := match a with
  | .int x => o1 (asInt b) fun y => some (decide (x < y))
  | .str x => o1 (asStr b) fun y => some (ltN x.cps.toList y.cps.toList)
  | .bytes x => o1 (asBytes b) fun y => some (ltN (x.map UInt8.toNat) (y.map UInt8.toNat))
  | _ => .none
/-- insertion from the left, stable -/
noncomputable def insD (x : D) : List D → Option (List D)
  | [] => some [x]
  | y :: r => o1 (ltD x y) fun b => if b then some (x :: y :: r) else o1 (insD x r) fun l => some (y :: l)
noncomputable def sortD : List D → Option (List D)
  | [] => some []
  | x :: r => o1 (sortD r) fun l => insD x l

noncomputable def atIdx (l : List D) (i : Int) : Option D := match i with
  | .ofNat n => if fitN n then l[n]? else .none
  | .negSucc _ => .none
noncomputable def valGV : GV → Option D
  | .val d => some d
  | _ => .none
noncomputable def addD (a b : D) : Option D := match a with
  | .int x => o1 (asInt b) fun y => some (.int (x + y))
  | .str x => o1 (asStr b) fun y => if fitN (x.length + y.length) then some (.str (x ++ y)) else .none
  | .list x => o1 (asList b) fun y => if fitN (x.length + y.length) then some (.list (x ++ y)) else .none
  | .tup x => o1 (asTup b) fun y => if fitN (x.length + y.length) then some (.tup (x ++ y)) else .none
  | _ => .none
noncomputable def noneL (l : List D) : Bool := match oneOf l with
  | some d => isNone d
  | .none => false
noncomputable def mulD (a b : D) : Option D := match a with
  | .int x => o1 (asInt b) fun y => if fitI x && fitI y then some (.int (x * y)) else .none
  | .list l => if noneL l then (o1 (asNat b) fun n => if fitN n then some (.list (List.replicate n .none)) else .none) else .none
  | _ => .none
noncomputable def smallDiv (b : Int) : Bool := decide (0 < b ∧ b < 1000000)
noncomputable def binD (op : Operator) (a b : D) : Option D := match op with
  | .Add => addD a b
  | .Sub => o1 (asInt a) fun x => o1 (asInt b) fun y => some (.int (x - y))
  | .Mult => mulD a b
  | .Mod => o1 (asInt a) fun x => o1 (asInt b) fun y => if smallDiv y then some (.int (Int.fmod x y)) else .none
  | .FloorDiv => o1 (asInt a) fun x => o1 (asInt b) fun y => if smallDiv y then some (.int (Int.fdiv x y)) else .none
  | _ => .none
noncomputable def inL (x : D) : List D → Option Bool
  | [] => some false
  | y :: r => o1 (eqD 60 y x) fun p => o1 (inL x r) fun q => some (if p then true else q)
noncomputable def inD (x : D) : D → Option Bool
  | .tup l => inL x l
  | .list l => inL x l
  | .dict l => o1 (dget l x) fun r => some r.isSome
  | _ => .none
noncomputable def ints2 (f : Int → Int → Bool) (a b : D) : Option Bool := o1 (asInt a) fun x => o1 (asInt b) fun y => some (f x y)
noncomputable def neD (a b : D) : Option Bool := match a with
  | .dict x => o1 (asDict b) fun y => if y.isEmpty then some (!x.isEmpty) else .none
  | .list x => o1 (asList b) fun y => if y.isEmpty then some (!x.isEmpty) else .none
  | .int x => o1 (asInt b) fun y => some (x != y)
  | .str x => o1 (asStr b) fun y => some (!(seq x y))
  | _ => .none
noncomputable def cmpD (op : CmpOp) (a b : D) : Option Bool := match op with
  | .Eq => eqD 60 a b
  | .NotEq => neD a b
  | .Lt => ints2 (fun x y => decide (x < y)) a b
  | .Gt => ints2 (fun x y => decide (x > y)) a b
  | .LtE => ints2 (fun x y => decide (x ≤ y)) a b
  | .GtE => ints2 (fun x y => decide (x ≥ y)) a b
  | .In => inD a b
  | .NotIn => o1 (inD a b) fun c => some !c
  | .Is => if isNone b then some (isNone a) else .none
  | .IsNot => if isNone b then some (!isNone a) else .none
noncomputable def subD (d k : D) : Option D := match d with
  | .list l => o1 (asInt k) fun i => atIdx l i
  | .tup l => o1 (asInt k) fun i => atIdx l i
  | .dict l => o1 (dget l k) fun r => r
  | _ => .none
noncomputable def rangeL (a : Int) : Nat → List D
  | 0 => []
  | n + 1 => .int a :: rangeL (a + 1) n
noncomputable def range2 (a : Int) : Nat → List D
  | 0 => []
  | n + 1 => .int a :: range2 (a + 2) n
noncomputable def joinL (sep : Str) : List D → Option Str
  | [] => some ⟨#[]⟩
  | d :: r => o1 (asStr d) fun s => if r.isEmpty then some s else o1 (joinL sep r) fun t => some (s ++ sep ++ t)
noncomputable def lenSum : List D → Nat
  | [] => 0
  | .str s :: r => s.length + lenSum r
  | _ :: r => lenSum r
noncomputable def joinFits (sep : Str) (l : List D) : Bool := Nat.ble (lenSum l + l.length * sep.length) 1000000
noncomputable def octetsOf : List D → Option (List UInt8)
  | [] => some []
  | d :: r => o1 (asNat d) fun n => if Nat.blt n 256 then (o1 (octetsOf r) fun l => some (UInt8.ofNat n :: l)) else .none
/-- the few texts that are encoded -/
noncomputable def encTab : List (Str × List UInt8) := [(⟨#[97]⟩, [97]), (⟨#[97, 98]⟩, [97, 98]), (⟨#[98]⟩, [98]), (⟨#[90]⟩, [90])]
noncomputable def indexL (x : D) : List D → Int → Option D
  | [], _ => .none
  | y :: r, i => o1 (eqD 60 y x) fun b => if b then some (.int i) else indexL x r (i + 1)
noncomputable def n_isinstance : Str := ⟨#[105, 115, 105, 110, 115, 116, 97, 110, 99, 101]⟩
noncomputable def n_len : Str := ⟨#[108, 101, 110]⟩
noncomputable def n_append : Str := ⟨#[97, 112, 112, 101, 110, 100]⟩
noncomputable def n_pop : Str := ⟨#[112, 111, 112]⟩
noncomputable def n_extend : Str := ⟨#[101, 120, 116, 101, 110, 100]⟩
noncomputable def n_get : Str := ⟨#[103, 101, 116]⟩
noncomputable def n_join : Str := ⟨#[106, 111, 105, 110]⟩
noncomputable def n_encode : Str := ⟨#[101, 110, 99, 111, 100, 101]⟩
noncomputable def n_ascii : Str := ⟨#[97, 115, 99, 105, 105]⟩
noncomputable def n_index : Str := ⟨#[105, 110, 100, 101, 120]⟩
noncomputable def n_dict : Str := ⟨#[100, 105, 99, 116]⟩
noncomputable def n_list : Str := ⟨#[108, 105, 115, 116]⟩
noncomputable def n_tuple : Str := ⟨#[116, 117, 112, 108, 101]⟩
noncomputable def n_bytes : Str := ⟨#[98, 121, 116, 101, 115]⟩
noncomputable def n_ord : Str := ⟨#[111, 114, 100]⟩
noncomputable def n_chr : Str := ⟨#[99, 104, 114]⟩
noncomputable def n_str : Str := ⟨#[115, 116, 114]⟩
noncomputable def n_sorted : Str := ⟨#[115, 111, 114, 116, 101, 100]⟩
noncomputable def n_range : Str := ⟨#[114, 97, 110, 103, 101]⟩
noncomputable def n_reversed : Str := ⟨#[114, 101, 118, 101, 114, 115, 101, 100]⟩
noncomputable def n_bool : Str := ⟨#[98, 111, 111, 108]⟩
noncomputable def n_int : Str := ⟨#[105, 110, 116]⟩

inductive Fl where
  | nxt | ret (d : D)

structure Orc where
  E : MEnv → Expr → Option (D × MEnv)
  T : MEnv → Expr → Option (Bool × MEnv)
  L : MEnv → List Expr → Option (List D × MEnv)
  S : MEnv → Stmt → Option (Fl × MEnv)
  B : MEnv → List Stmt → Option (Fl × MEnv)
  K : FnRec → List Slot → Option (D × Slot)

noncomputable def Orc.bot : Orc where
  E _ _ := .none
  T _ _ := .none
  L _ _ := .none
  S _ _ := .none
  B _ _ := .none
  K _ _ := .none

noncomputable def notIn (x : D) : List (D × D) → Bool
  | [] => true
  | p :: r => if (keyEq x p.1).getD true then false else notIn x r
noncomputable def isStrD (d : D) : Bool := (asStr d).isSome
noncomputable def isIntD (d : D) : Bool := (asInt d).isSome
noncomputable def distinctK (isK : D → Bool) : List (D × D) → Bool
  | [] => true
  | p :: r => if isK p.1 then (if notIn p.1 r then distinctK isK r else false) else false
noncomputable def octInts : List UInt8 → List D
  | [] => []
  | b :: r => .int b.toNat :: octInts r
noncomputable def signs : List Nat → List D
  | [] => []
  | n :: r => .str ⟨#[n]⟩ :: signs r
noncomputable def keysD : List (D × D) → List D
  | [] => []
  | (k, _) :: r => k :: keysD r
noncomputable def itemsOf : D → Option (List D)
  | .list l => some l
  | .tup l => some l
  | .dict l => some (keysD l)
  | .bytes l => some (octInts l)
  | .str s => some (signs s.cps.toList)
  | _ => .none
noncomputable def lenN : D → Option Nat
  | .list l => some l.length
  | .tup l => some l.length
  | _ => .none
noncomputable def lenD (d : D) : Option Int := o1 (lenN d) fun n => if fitN n then some (n : Int) else .none
noncomputable def memN (C : Nat) : List Nat → Bool
  | [] => false
  | c :: r => if Nat.beq c C then true else memN C r
/-- the kinds of values that isobject is asked about -/
inductive Kd where
  | none | bool | int | list | dict | inst (C : Nat)
noncomputable def kindD : D → Option Kd
  | .none => some .none
  | .bool _ => some .bool
  | .int _ => some .int
  | .list _ => some .list
  | .dict _ => some .dict
  | .inst C _ => some (.inst C)
  | _ => .none
noncomputable def Kd.ok (cs : List Nat) : Kd → Bool
  | .inst c => memN c cs
  | _ => true
noncomputable def isInstB (cs : List Nat) (k : Kd) (t : Str) : Option Bool :=
  if k.ok cs then
    if seq t n_bool then some (match k with | .bool => true | _ => false)
    else if seq t n_int then some (match k with | .int => true | .bool => true | _ => false)
    else if seq t n_list then some (match k with | .list => true | _ => false)
    else if seq t n_dict then some (match k with | .dict => true | _ => false)
    else .none
  else .none
noncomputable def isInstC (cs : List Nat) (k : Kd) (C : Nat) : Option Bool := if memN C cs && k.ok cs then some (match k with
  | .inst c => Nat.beq c C
  | _ => false) else .none
noncomputable def allStr : List D → Bool
  | [] => true
  | .str _ :: r => allStr r
  | _ => false
/-- what sorted takes: the keys of a dict, or the items of a tuple -/
noncomputable def sortable : D → Option (List D)
  | .dict l => if Nat.blt l.length 64 then some (keysD l) else .none
  | .tup l => if Nat.blt l.length 64 && allStr l then some l else .none
  | _ => .none
noncomputable def bytesB : D → Option D
  | .bytes l => some (.bytes l)
  | .list l => if fitN l.length then o1 (octetsOf l) fun b => some (.bytes b) else .none
  | _ => .none
noncomputable def oneN : List Nat → Option Nat
  | [n] => some n
  | _ => .none
/-- the builtins that take values -/
noncomputable def callB (f : Str) (ds : List D) : Option D := o1 (oneOf ds) fun d =>
  if seq f n_sorted then o1 (sortable d) fun l => o1 (sortD l) fun r => some (.list r)
  else if seq f n_tuple then o1 (asList d) fun l => if fitN l.length then some (.tup l) else .none
  else if seq f n_list then o1 (asList d) fun l => if fitN l.length then some (.list l) else .none
  else if seq f n_dict then o1 (asDict d) fun l => if fitN l.length then some (.dict l) else .none
  else if seq f n_bytes then bytesB d
  else if seq f n_ord then o1 (asStr d) fun s => o1 (oneN s.cps.toList) fun n => some (.int n)
  else if seq f n_chr then o1 (asNat d) fun n => if Nat.blt n 55296 then some (.str ⟨#[n]⟩) else .none
  else if seq f n_str then o1 (asNat d) fun n => if Nat.blt n 10 then some (.str ⟨#[48 + n]⟩) else .none
  else .none
noncomputable def rangeB3 : List D → Option (List D)
  | [a, b, c] => o1 (asNat a) fun x => o1 (asNat b) fun n => o1 (asNat c) fun y => if Nat.beq x 0 && Nat.beq y 2 && fitN n then some (range2 0 ((n + 1) / 2)) else .none
  | _ => .none
noncomputable def rangeB (ds : List D) : Option (List D) := match oneOf ds with
  | some d => o1 (asNat d) fun n => if fitN n then some (rangeL 0 n) else .none
  | .none => rangeB3 ds
noncomputable def constD : Const → Option D
  | .none => some .none
  | .bool b => some (.bool b)
  | .int i => some (.int i)
  | .str s => some (.str s)
  | _ => .none
noncomputable def MEnv.own? (e : MEnv) (x : Str) : Option D := o1 (e.get x) fun sl => match sl with
  | .own d => some d
  | _ => .none
noncomputable def freezeF : List (Str × NameKind) → MEnv → MEnv
  | [], env => env
  | (x, .free) :: r, env => match env.own? x with
    | some d => freezeF r (env.put x (.dat d))
    | .none => freezeF r env
  | _ :: r, env => freezeF r env
noncomputable def n_debug : Str := ⟨#[95, 95, 100, 101, 98, 117, 103, 95, 95]⟩
noncomputable def n_classdict : Str := ⟨#[95, 95, 99, 108, 97, 115, 115, 100, 105, 99, 116, 95, 95]⟩
noncomputable def nameOk (x : Str) : Bool := if seq x n_debug then false else !(seq x n_classdict)
noncomputable def compKind : NameKind → Bool
  | .local => true
  | .free => true
  | .globalImplicit => true
  | _ => false
noncomputable def scopeOk : List (Str × NameKind) → Bool
  | [] => true
  | (x, k) :: r => if compKind k && nameOk x && (kindL r x).isNone then scopeOk r else false
noncomputable def localB (env : MEnv) (x : Str) : Bool := match kindL env.names x with
  | some .local => true
  | _ => false
noncomputable def cellB (e : MEnv) (x : Str) : Bool := match kindL e.names x with
  | some .cell => true
  | some .free => true
  | _ => false
noncomputable def datFree (env : MEnv) : List (Str × NameKind) → Bool
  | [] => true
  | (x, .free) :: r => (match env.get x with
    | some (.dat _) => cellB env x && datFree env r
    | _ => false)
  | _ :: r => datFree env r
noncomputable def freeV : List (Str × NameKind) → MEnv → List (Str × Slot)
  | [], _ => []
  | (x, .free) :: r, env => match env.get x with
    | some s => (x, s) :: freeV r env
    | .none => freeV r env
  | _ :: r, env => freeV r env
noncomputable def fnScope (s : Scope) : Bool := match s.kind with
  | .function => true
  | _ => false
noncomputable def dats : List D → List Slot
  | [] => []
  | d :: r => .dat d :: dats r

section
variable (g : Gt) (o : Orc)

noncomputable def rdName (env : MEnv) (x : Str) : Option (D × MEnv) :=
  if env.isVar x then o1 (getv env.vars x) fun sl => match sl with
    | .dat d => some (d, env)
    | .own d => some (d, env.put x (.dat d))
  else if env.isGlob x then o1 (lookS g.globals x) fun v => o1 (valGV v) fun d => some (d, env)
  else .none
noncomputable def peekE (env : MEnv) (e : Expr) : Option (D × MEnv) := match e with
  | .Name x _ => match env.own? x with
    | some d => some (d, env)
    | .none => o.E env e
  | _ => o.E env e
noncomputable def n_super : Str := ⟨#[115, 117, 112, 101, 114]⟩
/-- not super() -/
noncomputable def plainBase : Expr → Bool
  | .Call (.Name id _) [] [] _ => !(seq id n_super)
  | _ => true
noncomputable def plainExpr : Expr → Bool
  | .Starred .. => false
  | .Set .. => false
  | _ => true
noncomputable def eqOp : CmpOp → Bool
  | .Eq => true
  | .NotEq => true
  | _ => false
noncomputable def rightE (env : MEnv) (op : CmpOp) (r : Expr) : Option (D × MEnv) := match op with
  | .In => peekE o env r
  | .NotIn => peekE o env r
  | _ => o.E env r
noncomputable def isSetE : Expr → Bool
  | .Set .. => true
  | _ => false
noncomputable def isEmptyList : Expr → Bool
  | .List [] _ => true
  | _ => false
noncomputable def cmpE (env : MEnv) (l : Expr) (op : CmpOp) (r : Expr) : Option (Bool × MEnv) :=
  if isSetE r then .none else if isEmptyList r && eqOp op then o2 (peekE o env l) fun a env1 => o1 (cmpD op a (.list [])) fun b => some (b, env1)
  else o2 (o.E env l) fun a env1 => o2 (rightE o env1 op r) fun b env2 => o1 (cmpD op a b) fun c => some (c, env2)
noncomputable def iterRest (env : MEnv) (e : Expr) : Option (List D × MEnv) := o2 (o.E env e) fun d env1 => o1 (itemsOf d) fun l => some (l, env1)
noncomputable def bltCallT : Expr → Option (Str × List Expr)
  | .Call (.Name f _) args [] _ => some (f, args)
  | _ => .none
noncomputable def iterE (env : MEnv) (e : Expr) : Option (List D × MEnv) := match bltCallT e with
  | .none => iterRest o env e
  | some (f, args) => if env.isGlob f && (lookS g.globals f).isNone then
      (if seq f n_range then o2 (o.L env args) fun ds env1 => o1 (rangeB ds) fun l => some (l, env1)
      else if seq f n_reversed then o1 (oneE args) fun a => o2 (o.E env a) fun d env1 => o1 (asList d) fun l => some (l.reverse, env1)
      else iterRest o env e)
    else iterRest o env e
noncomputable def isinstOf (env1 : MEnv) (k : Kd) (c : Str) : Option (Bool × MEnv) := match lookS g.globals c with
  | some (.cls C _) => o1 (isInstC g.classes k C) fun b => some (b, env1)
  | some _ => .none
  | .none => o1 (isInstB g.classes k c) fun b => some (b, env1)
noncomputable def isinstE (env : MEnv) (args : List Expr) : Option (Bool × MEnv) := o2 (twoE args) fun x y => o1 (nameT y) fun c => o2 (o.E env x) fun d env1 => o1 (kindD d) fun k => if env1.isGlob c then isinstOf g env1 k c else .none
noncomputable def ownList (env : MEnv) (x : Str) : Option (List D) := o1 (env.own? x) asList
noncomputable def slotList : Slot → Option (List D)
  | .own d => asList d
  | _ => .none
noncomputable def slotInst : Slot → Option (Nat × List (Str × D))
  | .own d => asInst d
  | _ => .none
noncomputable def callLent (env : MEnv) (f : FnRec) : List Expr → Option (D × MEnv)
  | [] => .none
  | a :: rest => o1 (nameT a) fun x => o1 (ownList env x) fun zz=> o2 (o.L env rest) fun ds env1 => o1 (ownList env1 x) fun l0 => o2 (o.K f (.own (.list l0) :: dats ds)) fun d sl => o1 (slotList sl) fun l1 => some (d, env1.put x (.own (.list l1)))
noncomputable def callFn (env : MEnv) (f : FnRec) (args : List Expr) : Option (D × MEnv) :=
  if f.borrows then callLent o env f args
  else o2 (o.L env args) fun ds env1 => o2 (o.K f (dats ds)) fun d zz=> some (d, env1)
noncomputable def callCls (env : MEnv) (C : Nat) (r : FnRec) (args : List Expr) : Option (D × MEnv) :=
  o2 (o.L env args) fun ds env1 => o2 (o.K r (.own (.inst C []) :: dats ds)) fun d sl => o2 (slotInst sl) fun C' fs => if isNone d then some (.inst C' fs, env1) else .none
noncomputable def callBlt (env : MEnv) (f : Str) (args : List Expr) : Option (D × MEnv) :=
  if seq f n_isinstance then o2 (isinstE g o env args) fun b env1 => some (.bool b, env1)
  else if seq f n_len then o1 (oneE args) fun x => o2 (peekE o env x) fun d env1 => o1 (lenD d) fun n => some (.int n, env1)
  else o2 (o.L env args) fun ds env1 => o1 (callB f ds) fun d => some (d, env1)
noncomputable def callGlob (env : MEnv) (f : Str) (args : List Expr) : Option (D × MEnv) := match lookS g.globals f with
  | some (.fn r) => callFn o env r args
  | some (.cls C r) => callCls o env C r args
  | some (.val _) => .none
  | .none => callBlt g o env f args
noncomputable def callName (env : MEnv) (f : Str) (args : List Expr) : Option (D × MEnv) :=
  if env.isGlob f then callGlob g o env f args else .none
noncomputable def getD2 (l : List (D × D)) : List D → Option D
  | [k] => o1 (dget l k) fun r => some (r.getD .none)
  | [k, df] => o1 (dget l k) fun r => some (r.getD df)
  | _ => .none
noncomputable def methD (d : D) (m : Str) (ds : List D) : Option D := match d with
  | .dict l => if seq m n_get then getD2 l ds else .none
  | .str s => if seq m n_join then o1 (oneOf ds) fun x => o1 (asList x) fun l => if joinFits s l then o1 (joinL s l) fun t => some (.str t) else .none
    else if seq m n_encode then o1 (oneOf ds) fun x => o1 (asStr x) fun e => if seq e n_ascii then o1 (lookS encTab s) fun b => some (.bytes b) else .none
    else .none
  | .list l => if seq m n_index && fitN l.length then o1 (oneOf ds) fun x => o1 (inL x l) fun b => if b then indexL x l 0 else .none else .none
  | _ => .none
noncomputable def callOwn (env : MEnv) (x m : Str) (args : List Expr) : Option (D × MEnv) :=
  if seq m n_append then o2 (o.L env args) fun ds env1 => o1 (oneOf ds) fun d => o1 (ownList env1 x) fun l => if fitN l.length then some (.none, env1.put x (.own (.list (l ++ [d])))) else .none
  else if seq m n_pop then (if args.isEmpty then o1 (ownList env x) fun l => if fitN l.length then o1 l.getLast? fun d => some (d, env.put x (.own (.list l.dropLast))) else .none else .none)
  else if seq m n_extend then o2 (o.L env args) fun ds env1 => o1 (oneOf ds) fun d => o1 (asList d) fun l2 => o1 (ownList env1 x) fun l => if fitN (l.length + l2.length) then some (.none, env1.put x (.own (.list (l ++ l2)))) else .none
  else .none
/-- the variable whose own list a method is asked of -/
noncomputable def ownRecv (env : MEnv) (e : Expr) : Option Str := o1 (nameT e) fun x => o1 (ownList env x) fun zz=> some x
noncomputable def natC : Expr → Option Nat
  | .Constant (.int (.ofNat n)) _ _ => some n
  | _ => .none
noncomputable def callVal (env : MEnv) (d : D) (m : Str) (ds : List D) : Option (D × MEnv) := match asInst d with
  | some (C, fs) => if (fget fs m).isNone then o1 (lookM g.methods C m) fun r => o2 (o.K r (.dat d :: dats ds)) fun d' zz=> some (d', env) else .none
  | .none => o1 (methD d m ds) fun d' => some (d', env)
noncomputable def callMeth (env : MEnv) (recv : Expr) (m : Str) (args : List Expr) : Option (D × MEnv) := match ownRecv env recv with
  | some x => callOwn o env x m args
  | .none => o2 (o.E env recv) fun d env1 => o2 (o.L env1 args) fun ds env2 => callVal g o env2 d m ds
noncomputable def sliceE (d : D) (lo hi : Option Expr) : Option D := o1 (asList d) fun l => if fitN l.length then (match lo, hi with
    | some a, .none => o1 (natC a) fun n => if Nat.ble n l.length then some (.list (l.drop n)) else .none
    | .none, some a => o1 (natC a) fun n => some (.list (l.take n))
    | _, _ => .none) else .none
noncomputable def pairsE : MEnv → List (Option Expr) → List Expr → Option (List (D × D) × MEnv)
  | env, [], [] => some ([], env)
  | env, some k :: ks, v :: vs => o2 (o.E env k) fun kd env1 => o2 (o.E env1 v) fun vd env2 => o2 (pairsE env2 ks vs) fun ps env3 => some ((kd, vd) :: ps, env3)
  | _, _, _ => .none
noncomputable def dictE (env : MEnv) (ks : List (Option Expr)) (vs : List Expr) : Option (List (D × D) × MEnv) := if Nat.ble ks.length 15 then o2 (pairsE o env ks vs) fun ps env1 => if distinctK isStrD ps || distinctK isIntD ps then some (ps, env1) else .none
  else .none
noncomputable def allT (op : BoolOp) : MEnv → List Expr → Option (Bool × MEnv)
  | env, [] => some (isAnd op, env)
  | env, x :: r => o2 (o.T env x) fun b env1 => if b == isAnd op then allT op env1 r else some (b, env1)
noncomputable def unpinned (env : MEnv) (x : Str) : Bool := match env.pin with
  | some y => !(seq x y)
  | .none => true
noncomputable def bindName (env : MEnv) (x : Str) (s : Slot) : Option MEnv := if env.isOwnVar x && unpinned env x then some (env.put x s) else .none
noncomputable def bindNames : MEnv → List Expr → List Slot → Option MEnv
  | env, [], [] => some env
  | env, t :: ts, s :: ss => o1 (nameT t) fun x => o1 (bindName env x s) fun env1 => bindNames env1 ts ss
  | _, _, _ => .none
noncomputable def bindT (env : MEnv) (t : Expr) (d : D) : Option MEnv := match nameT t with
  | some x => bindName env x (.dat d)
  | .none => o1 (tupT t) fun ts => o1 (asTup d) fun l => bindNames env ts (dats l)
noncomputable def forAll (t : Expr) (b : List Stmt) : MEnv → List D → Option (Fl × MEnv)
  | env, [] => some (.nxt, env)
  | env, d :: r => o1 (bindT env t d) fun env1 => o2 (o.B env1 b) fun fl env2 => match fl with
    | .nxt => forAll t b env2 r
    | .ret d' => some (.ret d', env2)
noncomputable def whileAll (t : Expr) (b : List Stmt) : Nat → MEnv → Option (Fl × MEnv)
  | 0, _ => .none
  | n + 1, env => o2 (o.T env t) fun c env1 => if c then (o2 (o.B env1 b) fun fl env2 => match fl with
    | .nxt => whileAll t b n env2
    | .ret d => some (.ret d, env2)) else some (.nxt, env1)
noncomputable def compAll (x : Str) (elt : Expr) (ifs : List Expr) : MEnv → List D → Option (List D)
  | _, [] => some []
  | env, d :: r => o1 (bindName env x (.dat d)) fun env0 => o2 (allT o .And env0 ifs) fun c env1 => if c then (o2 (o.E env1 elt) fun y env2 => o1 (compAll x elt ifs env2 r) fun ys => some (y :: ys)) else compAll x elt ifs env1 r
noncomputable def compE (env : MEnv) (elt : Expr) (gens : List Comprehension) (scope : Scope) : Option (D × MEnv) := match gens with
  | [⟨t, iter, ifs, 0⟩] => o1 (nameT t) fun x => if !(isSetE iter) && datFree (freezeF scope.names env) scope.names then o2 (iterE g o (freezeF scope.names env) iter) fun ds env1 =>
      if fitN ds.length && fnScope scope && scopeOk scope.names && datFree env1 scope.names then o1 (compAll o x elt ifs { names := scope.names, vars := freeV scope.names env1 } ds) fun r => some (.list r, env1) else .none
      else .none
  | _ => .none
/-- the call is written on one line, with few arguments -/
noncomputable def callOk (apos pos : Pos) (args : List Expr) : Bool := apos.endLine == pos.line && Nat.blt args.length 29
noncomputable def attrE (env : MEnv) (v : Expr) (n : Str) : Option (D × MEnv) := if plainBase v then o2 (o.E env v) fun d env1 => o2 (asInst d) fun C fs => if fieldIn g.fields C n then o1 (fget fs n) fun d => some (d, env1) else .none
  else .none
noncomputable def sliceT : Expr → Option (Option Expr × Option Expr)
  | .Slice lo hi .none _ => some (lo, hi)
  | _ => .none
noncomputable def isSlice : Expr → Bool
  | .Slice .. => true
  | _ => false
noncomputable def subE (env : MEnv) (v i : Expr) : Option (D × MEnv) := if isSlice i then (o2 (sliceT i) fun lo hi => o2 (o.E env v) fun d env1 => o1 (sliceE d lo hi) fun d' => some (d', env1))
  else o2 (o.E env v) fun d env1 => o2 (o.E env1 i) fun k env2 => o1 (subD d k) fun r => some (r, env2)
noncomputable def unE (env : MEnv) (op : UnaryOp) (x : Expr) : Option (D × MEnv) := match op with
  | .USub => o2 (o.E env x) fun d env1 => o1 (asInt d) fun i => some (.int (-i), env1)
  | .Not => o2 (o.E env x) fun d env1 => o1 (truthyD d) fun b => some (.bool (!b), env1)
  | _ => .none
noncomputable def boolE (env : MEnv) (op : BoolOp) (vs : List Expr) : Option (D × MEnv) := o2 (twoE vs) fun x y => o2 (o.E env x) fun a env1 => o1 (truthyD a) fun b => if b == isAnd op then o.E env1 y else some (a, env1)
noncomputable def oneC : List CmpOp → Option CmpOp
  | [c] => some c
  | _ => .none
noncomputable def cmpOne (env : MEnv) (l : Expr) (ops : List CmpOp) (rs : List Expr) : Option (Bool × MEnv) := o1 (oneC ops) fun op => o1 (oneE rs) fun r => cmpE o env l op r
noncomputable def attrT : Expr → Option (Expr × Str × Pos)
  | .Attribute v m p => some (v, m, p)
  | _ => .none
noncomputable def callE (env : MEnv) (f : Expr) (args : List Expr) (kw : List Keyword) (pos : Pos) : Option (D × MEnv) := if kw.isEmpty then (match nameT f with
  | some x => callName g o env x args
  | .none => o1 (attrT f) fun p => if plainBase p.1 && callOk p.2.2 pos args then callMeth g o env p.1 p.2.1 args else .none) else .none
noncomputable def stepE (env : MEnv) (e : Expr) : Option (D × MEnv) := match e with
  | .Constant c _ _ => o1 (constD c) fun d => some (d, env)
  | .Name x _ => rdName g env x
  | .Attribute v n _ => attrE g o env v n
  | .Subscript v i _ => subE o env v i
  | .Tuple es _ _ => o2 (o.L env es) fun ds env1 => if fitN ds.length then some (.tup ds, env1) else .none
  | .List es _ => o2 (o.L env es) fun ds env1 => if fitN ds.length then some (.list ds, env1) else .none
  | .Dict ks vs _ => o2 (dictE o env ks vs) fun l env1 => some (.dict l, env1)
  | .UnaryOp op x _ => unE o env op x
  | .BinOp l op r _ => o2 (o.E env l) fun a env1 => o2 (o.E env1 r) fun b env2 => o1 (binD op a b) fun c => some (c, env2)
  | .BoolOp op vs _ => boolE o env op vs
  | .Compare l ops rs _ => o2 (cmpOne o env l ops rs) fun b env1 => some (.bool b, env1)
  | .IfExp t a b _ => o2 (o.T env t) fun c env1 => if c then o.E env1 a else o.E env1 b
  | .ListComp elt gens scope _ => compE g o env elt gens scope
  | .Call f args kw pos => callE g o env f args kw pos
  | _ => .none
/-- is its truth told by a rule of its own -/
noncomputable def testForm : Expr → Bool
  | .UnaryOp .. => true
  | .BoolOp .. => true
  | .Compare .. => true
  | .IfExp .. => true
  | _ => false
noncomputable def plainT (env : MEnv) (e : Expr) : Option (Bool × MEnv) := o2 (peekE o env e) fun d env1 => if (asInst d).isNone then o1 (truthyD d) fun b => some (b, env1) else .none
noncomputable def notT : UnaryOp → Bool
  | .Not => true
  | _ => false
noncomputable def formT (env : MEnv) (e : Expr) : Option (Bool × MEnv) := match e with
  | .UnaryOp op x _ => if notT op then o2 (o.T env x) fun b env1 => some (!b, env1) else .none
  | .BoolOp op vs _ => allT o op env vs
  | .Compare l ops rs _ => cmpOne o env l ops rs
  | _ => .none
noncomputable def stepT (env : MEnv) (e : Expr) : Option (Bool × MEnv) := if testForm e then formT o env e else plainT o env e
noncomputable def stepL (env : MEnv) (es : List Expr) : Option (List D × MEnv) := match es with
  | [] => some ([], env)
  | e :: r => o2 (o.E env e) fun d env1 => o2 (o.L env1 r) fun ds env2 => some (d :: ds, env2)
/-- a right side that may be the variable's own container -/
noncomputable def listT : Expr → Option (List Expr)
  | .List es _ => some es
  | _ => .none
noncomputable def dictT : Expr → Option (List (Option Expr) × List Expr)
  | .Dict ks vs _ => some (ks, vs)
  | _ => .none
noncomputable def rhsE (env : MEnv) (e : Expr) : Option (Slot × MEnv) := match listT e with
  | some es => o2 (o.L env es) fun ds env1 => if fitN ds.length then some (.own (.list ds), env1) else .none
  | .none => match dictT e with
    | some p => o2 (dictE o env p.1 p.2) fun l env1 => some (.own (.dict l), env1)
    | .none => o2 (o.E env e) fun d env1 => some (.dat d, env1)
noncomputable def rhsAll : MEnv → List Expr → Option (List Slot × MEnv)
  | env, [] => some ([], env)
  | env, e :: r => o2 (rhsE o env e) fun s env1 => o2 (rhsAll env1 r) fun ss env2 => some (s :: ss, env2)
noncomputable def setAt : List D → Nat → D → Option (List D)
  | [], _, _ => .none
  | _ :: r, 0, w => some (w :: r)
  | a :: r, n + 1, w => o1 (setAt r n w) fun l => some (a :: l)
noncomputable def storeSub (env : MEnv) (x : Str) (i : Expr) (w : D) : Option MEnv := o2 (o.E env i) fun k env1 => o1 (env1.own? x) fun d => match d with
    | .dict l => if fitN l.length then o1 (dput l k w) fun l' => some (env1.put x (.own (.dict l'))) else .none
    | .list l => o1 (asNat k) fun n => if fitN n then o1 (setAt l n w) fun l' => some (env1.put x (.own (.list l'))) else .none
    | _ => .none
noncomputable def storeOne (env : MEnv) (t : Expr) (w : D) : Option MEnv := match t with
  | .Name x _ => bindName env x (.dat w)
  | .Subscript v i _ => o1 (nameT v) fun x => o1 (env.own? x) fun zz=> storeSub o env x i w
  | .Attribute v f _ => o1 (nameT v) fun x => o1 (env.own? x) fun d => o2 (asInst d) fun C fs => if fieldIn g.fields C f && Nat.ble fs.length 100 then some (env.put x (.own (.inst C (fput fs f w)))) else .none
  | _ => .none
noncomputable def storeMany : MEnv → List Expr → List D → Option MEnv
  | env, [], [] => some env
  | env, t :: ts, d :: ds => o1 (storeOne g o env t d) fun env1 => storeMany env1 ts ds
  | _, _, _ => .none
noncomputable def seqD : D → Option (List D)
  | .tup l => some l
  | .list l => some l
  | _ => .none
noncomputable def undat : List Slot → Option (List D)
  | [] => some []
  | .dat d :: r => o1 (undat r) fun l => some (d :: l)
  | _ => .none
noncomputable def isComp : Expr → Bool
  | .ListComp .. => true
  | .SetComp .. => true
  | .DictComp .. => true
  | _ => false
noncomputable def swapNames (env : MEnv) (line : Nat) : List Expr → List Str
  | [] => []
  | .Name id pos :: r => if localB env id && pos.line == line then id :: swapNames env line r else swapNames env line r
  | _ :: r => swapNames env line r
noncomputable def headLine : List Expr → Nat
  | t :: _ => t.pos.line
  | [] => 0
noncomputable def ownName (env : MEnv) (t : Expr) : Bool := match nameT t with
  | some x => env.isOwnVar x
  | .none => false
noncomputable def isStarred : Expr → Bool
  | .Starred .. => true
  | _ => false
/-- are a tuple's stores swapped (Python's own rule for two or three local names) -/
noncomputable def swapped (env : MEnv) (ts vs : List Expr) : Option Bool :=
  if ts.all (ownName env) && (vs.length == ts.length && (fitN ts.length && !(vs.any isStarred))) then (if !(ts.length == 2 || ts.length == 3) then some false
    else if (swapNames env (headLine ts) ts).length != ts.length || (swapNames env (headLine ts) ts).eraseDups.length != (swapNames env (headLine ts) ts).length then some false
    else if vs.all (foldedForSure 8) then .none
    else if vs.all (constantsAlone 8) then .none
    else some true) else .none
noncomputable def bindStrs : MEnv → List Str → List Slot → Option MEnv
  | env, [], [] => some env
  | env, x :: ts, s :: ss => o1 (bindName env x s) fun env1 => bindStrs env1 ts ss
  | _, _, _ => .none
noncomputable def lcT : Expr → Option (Expr × List Comprehension × Scope)
  | .ListComp elt gens scope _ => some (elt, gens, scope)
  | _ => .none
noncomputable def assignName (env : MEnv) (x : Str) (v : Expr) : Option MEnv := match lcT v with
  | some p => o2 (compE g o env p.1 p.2.1 p.2.2) fun d env1 => bindName env1 x (.dat d)
  | .none => if isComp v then .none else o2 (rhsE o env v) fun s env1 => bindName env1 x s
noncomputable def assignTup (env : MEnv) (ts : List Expr) (v : Expr) : Option MEnv := match tupT v with
  | some es => o1 (swapped env ts es) fun sw => o2 (rhsAll o env es) fun ss env1 => if sw then (o1 (undat ss) fun ds => bindStrs env1 (swapNames env (headLine ts) ts).reverse (dats ds.reverse)) else bindNames env1 ts ss
  | .none => o2 (peekE o env v) fun d env1 => o1 (seqD d) fun ds => storeMany g o env1 ts ds
noncomputable def assignE (env : MEnv) (t v : Expr) : Option MEnv := match nameT t with
  | some x => assignName g o env x v
  | .none => match tupT t with
    | some ts => assignTup g o env ts v
    | .none => o2 (o.E env v) fun d env1 => storeOne g o env1 t d
noncomputable def stepS (env : MEnv) (s : Stmt) : Option (Fl × MEnv) := match s with
  | .Expr e _ => if isComp e then .none else o2 (o.E env e) fun d env1 => if isNone d then some (.nxt, env1) else .none
  | .Return e _ => o1 e fun e => o2 (o.E env e) fun d env1 => some (.ret d, env1)
  | .If t b e _ => o2 (o.T env t) fun c env1 => if c then o.B env1 b else o.B env1 e
  | .Assign ts v _ => o1 (oneE ts) fun t => o1 (assignE g o env t v) fun env1 => some (.nxt, env1)
  | .For t it b e _ => if e.isEmpty && !(isSetE it) then o2 (iterE g o env it) fun ds env1 => forAll o t b env1 ds else .none
  | .While t b e _ => if e.isEmpty then whileAll o t b 100 env else .none
  | _ => .none
noncomputable def stepB (env : MEnv) (ss : List Stmt) : Option (Fl × MEnv) := match ss with
  | [] => some (.nxt, env)
  | s :: r => o2 (o.S env s) fun fl env1 => match fl with
    | .nxt => o.B env1 r
    | .ret d => some (.ret d, env1)
noncomputable def bindAll : List Str → List Slot → Option (List (Str × Slot))
  | [], [] => some []
  | x :: xs, s :: ss => o1 (bindAll xs ss) fun l => some ((x, s) :: l)
  | _, _ => .none
noncomputable def padded (f : FnRec) (ss : List Slot) : List Slot := ss ++ dats (f.dflts.drop (f.dflts.length + ss.length - f.params.length))
noncomputable def pinOf : List (Str × Slot) → Option Str
  | (x, .own _) :: _ => some x
  | _ => .none
/-- what has become of the pinned container -/
noncomputable def firstOf (env : MEnv) : Slot := match env.pin with
  | some x => (match env.get x with
    | some s => s
    | .none => .dat .none)
  | .none => .dat .none
noncomputable def retOf : Fl → D
  | .ret d => d
  | .nxt => .none
noncomputable def stepK (f : FnRec) (ss : List Slot) : Option (D × Slot) := o1 (bindAll f.params (padded f ss)) fun vs => o2 (o.B { names := f.names, vars := vs, pin := pinOf vs } f.body) fun fl env1 => some (retOf fl, firstOf env1)
noncomputable def stepO : Orc where
  E := stepE g o
  T := stepT o
  L := stepL o
  S := stepS g o
  B := stepB o
  K := stepK o
end
noncomputable def ev (g : Gt) : Nat → Orc
  | 0 => .bot
  | n + 1 => stepO g (ev g n)
end Mine

set_option Elab.async false
namespace Mine
open PySem
/-! what a step's answer was made of; small terms -/
theorem bo2 {α β γ : Type} {P : Prop} {x : Option (α × β)} {f : α → β → Option γ} {r : γ} (e : o2 x f = some r) (k : ∀ a b, x = some (a, b) → f a b = some r → P) : P := by
  cases x with
  | none => cases e
  | some p => exact k p.1 p.2 rfl e
theorem bo1 {α γ : Type} {P : Prop} {x : Option α} {f : α → Option γ} {r : γ} (e : o1 x f = some r) (k : ∀ a, x = some a → f a = some r → P) : P := by
  cases x with
  | none => cases e
  | some p => exact k p rfl e
theorem bi {γ : Type} {P : Prop} {c : Bool} {x : Option γ} {r : γ} (e : (if c = true then x else .none) = some r) (k : c = true → x = some r → P) : P := by
  cases c with
  | false => cases e
  | true => exact k rfl e
theorem bie {γ : Type} {P : Prop} {c : Bool} {x y : Option γ} {r : γ} (e : (if c = true then x else y) = some r) (k : c = true → x = some r → P) (k' : c = false → y = some r → P) : P := by
  cases c with
  | false => exact k' rfl e
  | true => exact k rfl e
theorem bn {γ : Type} {P : Prop} {c : Bool} {x : Option γ} {r : γ} (e : (if c = true then .none else x) = some r) (k : c = false → x = some r → P) : P := by
  cases c with
  | true => cases e
  | false => exact k rfl e
theorem band {P : Prop} {a b : Bool} (e : (a && b) = true) (k : a = true → b = true → P) : P := by
  cases a with
  | false => cases e
  | true => exact k rfl e
theorem ite_true_and {c x : Bool} (e : (if c = true then x else false) = true) : c = true ∧ x = true := by
  cases c with
  | false => exact absurd e Bool.false_ne_true
  | true => exact ⟨rfl, e⟩
theorem ns {α : Type} {x : α} (e : (.none : Option α) = some x) : False := nomatch e
theorem sp {α β : Type} {a c : α} {b d : β} (e : some (a, b) = some (c, d)) : a = c ∧ b = d := ⟨congrArg Prod.fst (Option.some.inj e), congrArg Prod.snd (Option.some.inj e)⟩
theorem s1 {α : Type} {a b : α} (e : some a = some b) : a = b := Option.some.inj e
theorem isSome_get {α : Type} {x : Option α} (e : x.isSome = true) : ∃ a, x = some a := by
  cases x with
  | none => cases e
  | some a => exact ⟨a, rfl⟩
theorem isNone_eq' {α : Type} {x : Option α} (e : x.isNone = true) : x = .none := by
  cases x with
  | none => rfl
  | some a => cases e
theorem asInt_some {d : D} {i : Int} (e : asInt d = some i) : d = .int i := by cases d <;> cases e <;> rfl
set_option tactic.hygienic true in
theorem asNat_some {d : D} {i : Nat} (e : asNat d = some i) : d = .int (.ofNat i) := by
  cases d <;> try (cases e; done)
  rename_i i; cases i <;> cases e; rfl
theorem asStr_some {d : D} {i : Str} (e : asStr d = some i) : d = .str i := by cases d <;> cases e <;> rfl
theorem asBytes_some {d : D} {i : List UInt8} (e : asBytes d = some i) : d = .bytes i := by cases d <;> cases e <;> rfl
theorem asList_some {d : D} {i : List D} (e : asList d = some i) : d = .list i := by cases d <;> cases e <;> rfl
theorem asTup_some {d : D} {i : List D} (e : asTup d = some i) : d = .tup i := by cases d <;> cases e <;> rfl
theorem asDict_some {d : D} {i : List (D × D)} (e : asDict d = some i) : d = .dict i := by cases d <;> cases e <;> rfl
theorem asInst_some {d : D} {C : Nat} {i : List (Str × D)} (e : asInst d = some (C, i)) : d = .inst C i := by cases d <;> cases e <;> rfl
theorem isNone_is {d : D} (e : isNone d = true) : d = .none := by cases d <;> cases e <;> rfl
theorem oneOf_some {l : List D} {d : D} (e : oneOf l = some d) : l = [d] := by
  cases l with
  | nil => cases e
  | cons a r => cases r <;> cases e; rfl
theorem oneE_some {l : List Expr} {d : Expr} (e : oneE l = some d) : l = [d] := by
  cases l with
  | nil => cases e
  | cons a r => cases r <;> cases e; rfl
theorem oneC_some {l : List CmpOp} {d : CmpOp} (e : oneC l = some d) : l = [d] := by
  cases l with
  | nil => cases e
  | cons a r => cases r <;> cases e; rfl
theorem oneN_some {l : List Nat} {d : Nat} (e : oneN l = some d) : l = [d] := by
  cases l with
  | nil => cases e
  | cons a r => cases r <;> cases e; rfl
theorem twoE_some {l : List Expr} {d d' : Expr} (e : twoE l = some (d, d')) : l = [d, d'] := by
  cases l with
  | nil => cases e
  | cons a r => cases r with
    | nil => cases e
    | cons b r => cases r <;> cases e; rfl
theorem nameT_some {t : Expr} {x : Str} (e : nameT t = some x) : ∃ p, t = .Name x p := by
  cases t <;> first | exact (ns e).elim | skip
  exact s1 e ▸ ⟨_, rfl⟩
theorem tupT_some {t : Expr} {x : List Expr} (e : tupT t = some x) : ∃ i p, t = .Tuple x i p := by
  cases t <;> first | exact (ns e).elim | skip
  exact s1 e ▸ ⟨_, _, rfl⟩
theorem listT_some {t : Expr} {x : List Expr} (e : listT t = some x) : ∃ p, t = .List x p := by
  cases t <;> first | exact (ns e).elim | skip
  exact s1 e ▸ ⟨_, rfl⟩
theorem dictT_some {t : Expr} {x : List (Option Expr) × List Expr} (e : dictT t = some x) : ∃ p, t = .Dict x.1 x.2 p := by
  cases t <;> first | exact (ns e).elim | skip
  exact s1 e ▸ ⟨_, rfl⟩
theorem attrT_some {t : Expr} {x : Expr × Str × Pos} (e : attrT t = some x) : t = .Attribute x.1 x.2.1 x.2.2 := by
  cases t <;> first | exact (ns e).elim | skip
  exact s1 e ▸ rfl
theorem lcT_some {t : Expr} {x : Expr × List Comprehension × Scope} (e : lcT t = some x) : ∃ p, t = .ListComp x.1 x.2.1 x.2.2 p := by
  cases t <;> first | exact (ns e).elim | skip
  exact s1 e ▸ ⟨_, rfl⟩
theorem slotList_some {s : Slot} {l : List D} (e : slotList s = some l) : s = .own (.list l) := by
  cases s with
  | dat d => cases e
  | own d => exact asList_some e ▸ rfl
theorem slotInst_some {s : Slot} {C : Nat} {l : List (Str × D)} (e : slotInst s = some (C, l)) : s = .own (.inst C l) := by
  cases s with
  | dat d => cases e
  | own d => exact asInst_some e ▸ rfl
end Mine

set_option Elab.async false
set_option maxRecDepth 100000
namespace Mine
open PySem PySem.W PyProof.Rows PySem.Calls
theorem slot_bytes_eq : PySem.Slot "bytes" (cmpInfo .Eq).2.1 "bytes.__eq__" :=
  .of (owner := "bytes") (n := "__eq__") (by rw [typeLookup_type, builtinLookup_eq_fast]; kernel_rfl) (by decide +kernel) (by decide +kernel) (by decide +kernel)
    (by first | exact .inl (by decide +kernel) | exact .inr (by decide +kernel)) (by rw [isSubtype_type]; kernel_rfl)
theorem entry_bytes_eq : entryFor table "bytes.__eq__" = some Builtin.«bytes.__eq__» := entryFor_of_tree (by kernel_rfl)
theorem args_bytes_eq_2 (a b : Value) : argsOk "bytes.__eq__" ⟨[a, b], []⟩ := by unfold argsOk; kernel_rfl
theorem slot_bytes_hash : PySem.Slot "bytes" "__hash__" "bytes.__hash__" :=
  .of (owner := "bytes") (n := "__hash__") (by rw [typeLookup_type, builtinLookup_eq_fast]; kernel_rfl) (by decide +kernel) (by decide +kernel) (by decide +kernel)
    (by first | exact .inl (by decide +kernel) | exact .inr (by decide +kernel)) (by rw [isSubtype_type]; kernel_rfl)
theorem entry_bytes_hash : entryFor table "bytes.__hash__" = some Builtin.«bytes.__hash__» := entryFor_of_tree (by kernel_rfl)
theorem args_bytes_hash_1 (a : Value) : argsOk "bytes.__hash__" ⟨[a], []⟩ := by unfold argsOk; kernel_rfl

theorem gives_bytes_eq (x y : Array UInt8) (t u : Tok) : Gives (Builtin.«bytes.__eq__» ⟨[.bytes x t, .bytes y u], []⟩) (.val (.bool (Builtin.Bytes.order x.toList y.toList == .eq))) := .of_eq (by kernel_rfl)
theorem bytesEq_iff : ∀ {x y : List UInt8}, bytesEq x y = true ↔ x = y
  | [], [] => ⟨fun zz=> rfl, fun zz=> rfl⟩
  | [], _ :: _ => ⟨fun h => (nomatch h), fun h => (nomatch h)⟩
  | _ :: _, [] => ⟨fun h => (nomatch h), fun h => (nomatch h)⟩
  | a :: x, b :: y => by
    unfold bytesEq
    by_cases h : Nat.beq a.toNat b.toNat = true
    · rw [if_pos h, bytesEq_iff, List.cons.injEq]
      exact ⟨fun q => ⟨UInt8.toNat_inj.mp (Nat.eq_of_beq_eq_true h), q⟩, fun q => q.2⟩
    · rw [if_neg h, List.cons.injEq]
      refine ⟨fun q => (nomatch q), fun q => absurd ?_ h⟩
      rw [q.1]; exact Nat.beq_refl _
theorem order_eq : ∀ {x y : List UInt8}, (Builtin.Bytes.order x y == .eq) = bytesEq x y
  | [], [] => rfl
  | [], _ :: _ => rfl
  | _ :: _, [] => rfl
  | a :: x, b :: y => by
    unfold Builtin.Bytes.order bytesEq
    by_cases h : Nat.beq a.toNat b.toNat = true
    · have e : a = b := UInt8.toNat_inj.mp (Nat.eq_of_beq_eq_true h)
      subst e
      rw [if_neg (by simp), if_neg (by simp), if_pos h]
      exact order_eq
    · have ne : a ≠ b := fun e => h (by rw [e]; exact Nat.beq_refl _)
      rw [if_neg h]
      by_cases l : a < b
      · rw [if_pos l]; rfl
      · rw [if_neg l]
        have g : a > b := by
          rcases UInt8.lt_or_lt_of_ne ne with q | q
          · exact absurd q l
          · exact q
        rw [if_pos g]; rfl
/-- the hash as the model brings it into its range -/
noncomputable def redH (i : Int) : Int := if (decide (-(2 ^ 63 : Int) ≤ i) && decide (i < 2 ^ 63)) = true then (if (i == -1) = true then -2 else i) else (if ((if i < 0 then -((i.natAbs : Int) % (2 ^ 61 - 1)) else (i.natAbs : Int) % (2 ^ 61 - 1)) == -1) = true then -2 else (if i < 0 then -((i.natAbs : Int) % (2 ^ 61 - 1)) else (i.natAbs : Int) % (2 ^ 61 - 1)))
section
variable {prog : Program} {w : World} {A : Around} {E : Value → Shared → Prop} {s : Shared}
set_option tactic.hygienic true in
theorem reduced_ {M : Model} {i : Int} {Q : Int → Shared → Prop} (h : Q (redH i) s) : wpAny M A (pyHashByItsType.reduced i) Q E s := by
  unfold pyHashByItsType.reduced
  unfold redH at h
  split at h
  · rename_i q
    rw [if_pos q]
    exact wpAny_pure h
  · rename_i q
    rw [if_neg q]
    exact wpAny_bind (wpAny_rule (wpAny_pure h))
theorem wpAny_pyHash_bytes {x : Array UInt8} {t : Tok} {Q : Int → Shared → Prop} (h : Q (redH (hashStr w ⟨x.map (·.toNat)⟩)) { s with toks := s.toks + 1 }) :
    wpAny (model prog w) A (pyHash (.bytes x t)) Q E s := by
  have hT : s.TypeIs (.bytes x t) "bytes" := rfl
  unfold pyHash
  have hv : [Value.bytes x t].any Value.onHeap = false := rfl
  refine wpAny_bind ?_
  rw [cRoomFor, if_neg (by rw [hv]; exact Bool.false_ne_true)]; refine wpAny_pure ?_
  refine wpAny_bind (wpAny_specialOf hT slot_bytes_hash.lookup ?_)
  show wpAny _ _ (if (some (Value.builtin "bytes.__hash__") == some Value.none) = true then _ else _) Q E s
  rw [if_neg (by rw [beq_builtin_none]; exact Bool.false_ne_true)]
  refine wpAny_bind (wpAny_specialOf hT slot_bytes_hash.lookup ?_)
  show wpAny _ _ (callSpecialIfBoundUnlessNone? (.bytes x t) "__hash__" _ >>= _) Q E s
  refine wpAny_bind (wpAny_callSpecialIfBoundUnlessNone?_slot hT slot_bytes_hash
    (wpAny_call_entry slot_bytes_hash hT entry_bytes_hash
      (show wpAny _ _ (strHash ⟨x.map (·.toNat)⟩ >>= fun i => (do ret (← mkInt i))) _ _ s from ?_) (args_bytes_hash_1 _)))
  unfold strHash
  refine wpAny_bind (wpAny_bind (wpAny_askSetting (wpAny_pure (wpAny_ret_mkInt ?_))))
  exact reduced_ h
theorem rc_bytes {x y : Array UInt8} {t u : Tok} {Q : Value → Shared → Prop} (h : Q (.bool (bytesEq x.toList y.toList)) s) : wpAny (model prog w) A (richCompare .Eq (.bytes x t) (.bytes y u)) Q E s :=
  richCompare_gives (op := .Eq) (T := "bytes") rfl rfl slot_bytes_eq entry_bytes_eq (args_bytes_eq_2 _ _) (gives_bytes_eq x y t u) (fun x => nomatch x) (by rw [order_eq]; exact h)
theorem eqBool_bytes {x y : Array UInt8} {t u : Tok} {Q : Bool → Shared → Prop} (h : Q (bytesEq x.toList y.toList) s) : wpAny (model prog w) A (eqBool (.bytes x t) (.bytes y u)) Q E s := by
  unfold eqBool
  refine wpAny_holding ?_
  refine wpAny_ite_split (fun hab => ?_) (fun zz=> ?_)
  · have e : x = y := by have := eq_of_beq hab; injection this
    subst e
    rw [bytesEq_iff.mpr rfl] at h
    exact wpAny_bind (wpAny_rule (wpAny_pure h))
  · exact wpAny_bind (rc_bytes (wpAny_truthy_bool h))
end
noncomputable def isBytesOf (k : List UInt8) : Value → Bool
  | .bytes b _ => bytesEq b.toList k
  | _ => false
set_option tactic.hygienic true in
theorem isBytesOf_shape {k : List UInt8} {v : Value} (h : isBytesOf k v = true) : ∃ t, v = .bytes k.toArray t := by
  cases v <;> simp only [isBytesOf, Bool.false_eq_true] at h
  rename_i b t
  exact ⟨t, by rw [← bytesEq_iff.mp h]⟩
noncomputable def bytesKind (prog : Program) (w : World) : KeyKind prog w (List UInt8) where
  is := isBytesOf
  hash := fun k => redH (hashStr w ⟨k.toArray.map (·.toNat)⟩)
  inj := fun v a b ha hb => by
    obtain ⟨t, e⟩ := isBytesOf_shape ha
    obtain ⟨u, e'⟩ := isBytesOf_shape hb
    rw [e] at e'
    injection e' with e' _
    simpa using e'
  byValue := fun k v h => by obtain ⟨t, rfl⟩ := isBytesOf_shape h; rfl
  pyHash := fun hv h => by obtain ⟨t, rfl⟩ := isBytesOf_shape hv; exact wpAny_pyHash_bytes h
  eqBool := fun {A E s a b u v Q} hu hv h => by
    obtain ⟨t, rfl⟩ := isBytesOf_shape hu
    obtain ⟨u, rfl⟩ := isBytesOf_shape hv
    refine eqBool_bytes ?_
    have e : bytesEq a.toArray.toList b.toArray.toList = decide (a = b) := by
      cases q : bytesEq a.toArray.toList b.toArray.toList with
      | true => rw [decide_eq_true (by simpa using bytesEq_iff.mp q)]
      | false =>
        rw [decide_eq_false]
        intro e
        subst e
        rw [bytesEq_iff.mpr rfl] at q
        cases q
    rw [e]; exact h
  «strs» := fun k x t v h => by cases h
end Mine

set_option Elab.async false
set_option maxRecDepth 100000
namespace Mine
open PySem PySem.W PyProof.Rows PySem.Calls

noncomputable abbrev Facts := Addr → Obj → Prop

noncomputable abbrev lstObj (vs : List Value) (n : Nat) : Obj := { cls := .type "list", data := .seq vs.toArray n }
noncomputable abbrev tupObj (vs : List Value) (n : Nat) : Obj := { cls := .type "tuple", data := .seq vs.toArray n }

section
variable (prog : Program) (w : World)
mutual
/-- the value v stands for the tree d, by the facts Φ about objects that are not changed any more -/
inductive Rep (Φ : Facts) : Value → D → Prop
  | none : Rep Φ .none .none
  | bool (b : Bool) : Rep Φ (.bool b) (.bool b)
  | int (i : Int) (t : Tok) : Rep Φ (.int i t) (.int i)
  | str (s : Str) (t : Tok) : Rep Φ (.str s t) (.str s)
  | bytes (l : List UInt8) (t : Tok) : Rep Φ (.bytes l.toArray t) (.bytes l)
  | tup {a : Addr} {vs : List Value} {n : Nat} {l : List D} : Φ a (tupObj vs n) → Reps Φ vs l → Rep Φ (.ref a) (.tup l)
  | list {a : Addr} {vs : List Value} {n : Nat} {l : List D} : Φ a (lstObj vs n) → Reps Φ vs l → Rep Φ (.ref a) (.list l)
  | dict {a : Addr} {o : Obj} {l : List (D × D)} : Φ a o → a ≠ sysModules → RepO Φ o l → Rep Φ (.ref a) (.dict l)
  | inst {a C dx : Addr} {es : List DictEntry} {n : Nat} {fs : List (Str × D)} : Φ a (instObj C dx) → Φ dx (dictOf es n) → RepF Φ es fs → Rep Φ (.ref a) (.inst C fs)
inductive Reps (Φ : Facts) : List Value → List D → Prop
  | nil : Reps Φ [] []
  | cons {v : Value} {d : D} {vs : List Value} {l : List D} : Rep Φ v d → Reps Φ vs l → Reps Φ (v :: vs) (d :: l)
/-- a dict's object, its keys all of one kind -/
inductive RepO (Φ : Facts) : Obj → List (D × D) → Prop
  | ik {o : Obj} {kvs : List (Int × Value)} {l : List (D × D)} : o.IsDictOf (intKind prog w) kvs → RepK Φ (kvs.map fun p => (D.int p.1, p.2)) l → RepO Φ o l
  | sk {o : Obj} {kvs : List (Str × Value)} {l : List (D × D)} : o.IsDictOf (strKind prog w) kvs → RepK Φ (kvs.map fun p => (D.str p.1, p.2)) l → RepO Φ o l
  | bk {o : Obj} {kvs : List (List UInt8 × Value)} {l : List (D × D)} : o.IsDictOf (bytesKind prog w) kvs → RepK Φ (kvs.map fun p => (D.bytes p.1, p.2)) l → RepO Φ o l
inductive RepK (Φ : Facts) : List (D × Value) → List (D × D) → Prop
  | nil : RepK Φ [] []
  | cons {k : D} {v : Value} {d : D} {r : List (D × Value)} {l : List (D × D)} : Rep Φ v d → RepK Φ r l → RepK Φ ((k, v) :: r) ((k, d) :: l)
/-- an object's entries -/
inductive RepF (Φ : Facts) : List DictEntry → List (Str × D) → Prop
  | nil : RepF Φ [] []
  | cons {x : Str} {t : Tok} {v : Value} {d : D} {es : List DictEntry} {fs : List (Str × D)} : Rep Φ v d → RepF Φ es fs → RepF Φ (⟨PyData.keyHash w.params x, .str x t, v⟩ :: es) ((x, d) :: fs)
end
end

section
variable {prog : Program} {w : World} {Φ Φ' : Facts}
/-- more facts, the same readings -/
theorem rep_monos (hk : ∀ a o, Φ a o → Φ' a o) : (∀ {v : Value} {d : D}, Rep prog w Φ v d → Rep prog w Φ' v d) ∧ (∀ {v : List Value} {d : List D}, Reps prog w Φ v d → Reps prog w Φ' v d) ∧ (∀ {v : Obj} {d : List (D × D)}, RepO prog w Φ v d → RepO prog w Φ' v d) ∧
    (∀ {v : List (D × Value)} {d : List (D × D)}, RepK prog w Φ v d → RepK prog w Φ' v d) ∧ (∀ {v : List DictEntry} {d : List (Str × D)}, RepF prog w Φ v d → RepF prog w Φ' v d) := by
  refine ⟨fun x => ?_, fun x => ?_, fun x => ?_, fun x => ?_, fun x => ?_⟩
  · exact Rep.rec (motive_1 := fun v d zz=> Rep prog w Φ' v d) (motive_2 := fun v d zz=> Reps prog w Φ' v d) (motive_3 := fun v d zz=> RepO prog w Φ' v d) (motive_4 := fun v d zz=> RepK prog w Φ' v d) (motive_5 := fun v d zz=> RepF prog w Φ' v d)
      .none .bool .int .str .bytes (fun h zz r=> .tup (hk _ _ h) r) (fun h zz r=> .list (hk _ _ h) r) (fun h n zz r=> .dict (hk _ _ h) n r) (fun h h' zz r=> .inst (hk _ _ h) (hk _ _ h') r) .nil (fun zz zz h r=> .cons h r) (fun h zz r=> .ik h r) (fun h zz r=> .sk h r) (fun h zz r=> .bk h r) .nil (fun zz zz h r=> .cons h r) .nil (fun zz zz h r=> .cons h r) x
  · exact Reps.rec (motive_1 := fun v d zz=> Rep prog w Φ' v d) (motive_2 := fun v d zz=> Reps prog w Φ' v d) (motive_3 := fun v d zz=> RepO prog w Φ' v d) (motive_4 := fun v d zz=> RepK prog w Φ' v d) (motive_5 := fun v d zz=> RepF prog w Φ' v d)
      .none .bool .int .str .bytes (fun h zz r=> .tup (hk _ _ h) r) (fun h zz r=> .list (hk _ _ h) r) (fun h n zz r=> .dict (hk _ _ h) n r) (fun h h' zz r=> .inst (hk _ _ h) (hk _ _ h') r) .nil (fun zz zz h r=> .cons h r) (fun h zz r=> .ik h r) (fun h zz r=> .sk h r) (fun h zz r=> .bk h r) .nil (fun zz zz h r=> .cons h r) .nil (fun zz zz h r=> .cons h r) x
  · exact RepO.rec (motive_1 := fun v d zz=> Rep prog w Φ' v d) (motive_2 := fun v d zz=> Reps prog w Φ' v d) (motive_3 := fun v d zz=> RepO prog w Φ' v d) (motive_4 := fun v d zz=> RepK prog w Φ' v d) (motive_5 := fun v d zz=> RepF prog w Φ' v d)
      .none .bool .int .str .bytes (fun h zz r=> .tup (hk _ _ h) r) (fun h zz r=> .list (hk _ _ h) r) (fun h n zz r=> .dict (hk _ _ h) n r) (fun h h' zz r=> .inst (hk _ _ h) (hk _ _ h') r) .nil (fun zz zz h r=> .cons h r) (fun h zz r=> .ik h r) (fun h zz r=> .sk h r) (fun h zz r=> .bk h r) .nil (fun zz zz h r=> .cons h r) .nil (fun zz zz h r=> .cons h r) x
  · exact RepK.rec (motive_1 := fun v d zz=> Rep prog w Φ' v d) (motive_2 := fun v d zz=> Reps prog w Φ' v d) (motive_3 := fun v d zz=> RepO prog w Φ' v d) (motive_4 := fun v d zz=> RepK prog w Φ' v d) (motive_5 := fun v d zz=> RepF prog w Φ' v d)
      .none .bool .int .str .bytes (fun h zz r=> .tup (hk _ _ h) r) (fun h zz r=> .list (hk _ _ h) r) (fun h n zz r=> .dict (hk _ _ h) n r) (fun h h' zz r=> .inst (hk _ _ h) (hk _ _ h') r) .nil (fun zz zz h r=> .cons h r) (fun h zz r=> .ik h r) (fun h zz r=> .sk h r) (fun h zz r=> .bk h r) .nil (fun zz zz h r=> .cons h r) .nil (fun zz zz h r=> .cons h r) x
  · exact RepF.rec (motive_1 := fun v d zz=> Rep prog w Φ' v d) (motive_2 := fun v d zz=> Reps prog w Φ' v d) (motive_3 := fun v d zz=> RepO prog w Φ' v d) (motive_4 := fun v d zz=> RepK prog w Φ' v d) (motive_5 := fun v d zz=> RepF prog w Φ' v d)
      .none .bool .int .str .bytes (fun h zz r=> .tup (hk _ _ h) r) (fun h zz r=> .list (hk _ _ h) r) (fun h n zz r=> .dict (hk _ _ h) n r) (fun h h' zz r=> .inst (hk _ _ h) (hk _ _ h') r) .nil (fun zz zz h r=> .cons h r) (fun h zz r=> .ik h r) (fun h zz r=> .sk h r) (fun h zz r=> .bk h r) .nil (fun zz zz h r=> .cons h r) .nil (fun zz zz h r=> .cons h r) x
theorem Rep.mono (hk : ∀ a o, Φ a o → Φ' a o) {v : Value} {d : D} (r : Rep prog w Φ v d) : Rep prog w Φ' v d := (rep_monos hk).1 r
theorem Reps.mono (hk : ∀ a o, Φ a o → Φ' a o) {vs : List Value} {l : List D} (r : Reps prog w Φ vs l) : Reps prog w Φ' vs l := (rep_monos hk).2.1 r
theorem RepO.mono (hk : ∀ a o, Φ a o → Φ' a o) {o : Obj} {l : List (D × D)} (r : RepO prog w Φ o l) : RepO prog w Φ' o l := (rep_monos hk).2.2.1 r
theorem RepK.mono (hk : ∀ a o, Φ a o → Φ' a o) {vs : List (D × Value)} {l : List (D × D)} (r : RepK prog w Φ vs l) : RepK prog w Φ' vs l := (rep_monos hk).2.2.2.1 r
theorem RepF.mono (hk : ∀ a o, Φ a o → Φ' a o) {vs : List DictEntry} {l : List (Str × D)} (r : RepF prog w Φ vs l) : RepF prog w Φ' vs l := (rep_monos hk).2.2.2.2 r
end

section
variable (prog : Program) (w : World)
noncomputable def RepI (Φ : Facts) (v : Value) : D → Prop
  | .none => v = .none
  | .bool b => v = .bool b
  | .int i => ∃ t, v = .int i t
  | .str s => ∃ t, v = .str s t
  | .bytes l => ∃ t, v = .bytes l.toArray t
  | .tup l => ∃ a vs n, v = .ref a ∧ Φ a (tupObj vs n) ∧ Reps prog w Φ vs l
  | .list l => ∃ a vs n, v = .ref a ∧ Φ a (lstObj vs n) ∧ Reps prog w Φ vs l
  | .dict l => ∃ a o, v = .ref a ∧ Φ a o ∧ a ≠ sysModules ∧ RepO prog w Φ o l
  | .inst C fs => ∃ a dx es n, v = .ref a ∧ Φ a (instObj C dx) ∧ Φ dx (dictOf es n) ∧ RepF prog w Φ es fs
noncomputable def RepsI (Φ : Facts) (vs : List Value) : List D → Prop
  | [] => vs = []
  | d :: l => ∃ v r, vs = v :: r ∧ Rep prog w Φ v d ∧ Reps prog w Φ r l
noncomputable def RepKI (Φ : Facts) (vs : List (D × Value)) : List (D × D) → Prop
  | [] => vs = []
  | p :: l => ∃ v r, vs = (p.1, v) :: r ∧ Rep prog w Φ v p.2 ∧ RepK prog w Φ r l
noncomputable def RepFI (Φ : Facts) (vs : List DictEntry) : List (Str × D) → Prop
  | [] => vs = []
  | p :: l => ∃ t v r, vs = ⟨PyData.keyHash w.params p.1, .str p.1 t, v⟩ :: r ∧ Rep prog w Φ v p.2 ∧ RepF prog w Φ r l
end
section
variable {prog : Program} {w : World} {Φ Φ' : Facts}
theorem Rep.inv {v : Value} {d : D} (r : Rep prog w Φ v d) : RepI prog w Φ v d := by
  cases r with
  | none => exact rfl
  | bool b => exact rfl
  | int i t => exact ⟨_, rfl⟩
  | str s t => exact ⟨_, rfl⟩
  | bytes l t => exact ⟨_, rfl⟩
  | tup h r => exact ⟨_, _, _, rfl, h, r⟩
  | list h r => exact ⟨_, _, _, rfl, h, r⟩
  | dict h n r => exact ⟨_, _, rfl, h, n, r⟩
  | inst h h' r => exact ⟨_, _, _, _, rfl, h, h', r⟩
theorem Reps.inv {v : List Value} {d : List D} (r : Reps prog w Φ v d) : RepsI prog w Φ v d := by
  cases r with
  | nil => exact rfl
  | cons h r => exact ⟨_, _, rfl, h, r⟩
theorem RepK.inv {v : List (D × Value)} {d : List (D × D)} (r : RepK prog w Φ v d) : RepKI prog w Φ v d := by
  cases r with
  | nil => exact rfl
  | cons h r => exact ⟨_, _, rfl, h, r⟩
theorem RepF.inv {v : List DictEntry} {d : List (Str × D)} (r : RepF prog w Φ v d) : RepFI prog w Φ v d := by
  cases r with
  | nil => exact rfl
  | cons h r => exact ⟨_, _, _, rfl, h, r⟩
theorem Rep.none_inv {v : Value} (r : Rep prog w Φ v .none) : v = .none := r.inv
theorem Rep.bool_inv {v : Value} {i : Bool} (r : Rep prog w Φ v (.bool i)) : v = .bool i := r.inv
theorem Rep.int_inv {v : Value} {i : Int} (r : Rep prog w Φ v (.int i)) : ∃ t, v = .int i t := r.inv
theorem Rep.str_inv {v : Value} {i : Str} (r : Rep prog w Φ v (.str i)) : ∃ t, v = .str i t := r.inv
theorem Rep.bytes_inv {v : Value} {i : List UInt8} (r : Rep prog w Φ v (.bytes i)) : ∃ t, v = .bytes i.toArray t := r.inv
theorem Rep.tup_inv {v : Value} {l : List D} (r : Rep prog w Φ v (.tup l)) : ∃ a vs n, v = .ref a ∧ Φ a (tupObj vs n) ∧ Reps prog w Φ vs l := r.inv
theorem Rep.list_inv {v : Value} {l : List D} (r : Rep prog w Φ v (.list l)) : ∃ a vs n, v = .ref a ∧ Φ a (lstObj vs n) ∧ Reps prog w Φ vs l := r.inv
theorem Rep.dict_inv {v : Value} {l : List (D × D)} (r : Rep prog w Φ v (.dict l)) : ∃ a o, v = .ref a ∧ Φ a o ∧ a ≠ sysModules ∧ RepO prog w Φ o l := r.inv
theorem Rep.inst_inv {v : Value} {C : Nat} {fs : List (Str × D)} (r : Rep prog w Φ v (.inst C fs)) : ∃ a dx es n, v = .ref a ∧ Φ a (instObj C dx) ∧ Φ dx (dictOf es n) ∧ RepF prog w Φ es fs := r.inv
theorem Reps.nil_inv {vs : List Value} (r : Reps prog w Φ vs []) : vs = [] := r.inv
theorem Reps.cons_inv {vs : List Value} {d : D} {l : List D} (r : Reps prog w Φ vs (d :: l)) : ∃ v r, vs = v :: r ∧ Rep prog w Φ v d ∧ Reps prog w Φ r l := r.inv
theorem Reps.one_inv {vs : List Value} {d : D} (r : Reps prog w Φ vs [d]) : ∃ v, vs = [v] ∧ Rep prog w Φ v d := by
  obtain ⟨v, us, rfl, q, r⟩ := r.cons_inv
  rw [r.nil_inv]
  exact ⟨v, rfl, q⟩
theorem Reps.two_inv {vs : List Value} {d e : D} (r : Reps prog w Φ vs [d, e]) : ∃ v u, vs = [v, u] ∧ Rep prog w Φ v d ∧ Rep prog w Φ u e := by
  obtain ⟨v, us, rfl, q, r⟩ := r.cons_inv
  obtain ⟨u, rfl, q'⟩ := r.one_inv
  exact ⟨v, u, rfl, q, q'⟩
theorem Reps.length {vs : List Value} {l : List D} (r : Reps prog w Φ vs l) : vs.length = l.length := by
  induction l generalizing vs with
  | nil => rw [r.nil_inv]; rfl
  | cons d l ih =>
    obtain ⟨v, us, rfl, _, q⟩ := r.cons_inv
    exact congrArg (· + 1) (ih q)
theorem Reps.append {vs us : List Value} {l k : List D} (r : Reps prog w Φ vs l) (q : Reps prog w Φ us k) : Reps prog w Φ (vs ++ us) (l ++ k) := by
  induction l generalizing vs with
  | nil => rw [r.nil_inv]; exact q
  | cons d l ih =>
    obtain ⟨v, us, rfl, h, r⟩ := r.cons_inv
    exact .cons h (ih r)
theorem Reps.get {vs : List Value} {l : List D} (r : Reps prog w Φ vs l) {i : Nat} {d : D} (e : l[i]? = some d) : ∃ v, vs[i]? = some v ∧ Rep prog w Φ v d := by
  induction l generalizing vs i with
  | nil => exact nomatch e
  | cons a l ih =>
    obtain ⟨v, us, rfl, h, r⟩ := r.cons_inv
    cases i with
    | zero => exact ⟨v, rfl, s1 e ▸ h⟩
    | succ i => exact ih (i := i) r e
end

section
variable {prog : Program} {w : World} {Φ Φ' : Facts}
/-- what a variable's own container is: v at h, its content by Φ -/
inductive Own (prog : Program) (w : World) (Φ : Facts) (h : Heap) : Value → D → Prop
  | list {a : Addr} {vs : List Value} {n : Nat} {l : List D} : h.get? a = some (lstObj vs n) → Reps prog w Φ vs l → Own prog w Φ h (.ref a) (.list l)
  | dict {a : Addr} {o : Obj} {l : List (D × D)} : h.get? a = some o → a ≠ sysModules → RepO prog w Φ o l → Own prog w Φ h (.ref a) (.dict l)
  | inst {a C dx : Addr} {es : List DictEntry} {n : Nat} {fs : List (Str × D)} : h.get? a = some (instObj C dx) → h.get? dx = some (dictOf es n) → a ≠ dx → RepF prog w Φ es fs → Own prog w Φ h (.ref a) (.inst C fs)
/-- the addresses that an own container takes -/
noncomputable def OwnAt (h : Heap) (v : Value) (b : Addr) : Prop := v = .ref b ∨ ∃ a C, v = .ref a ∧ h.get? a = some (instObj C b)

theorem Own.mono {h : Heap} {v : Value} {d : D} (hk : ∀ a o, Φ a o → Φ' a o) (x : Own prog w Φ h v d) : Own prog w Φ' h v d := by
  cases x with
  | list h r => exact .list h (r.mono hk)
  | dict h n r => exact .dict h n (r.mono hk)
  | inst h h' n r => exact .inst h h' n (r.mono hk)
theorem Own.keep {h h' : Heap} {v : Value} {d : D} (x : Own prog w Φ h v d) (hk : ∀ b o, OwnAt h v b → h.get? b = some o → h'.get? b = some o) : Own prog w Φ h' v d := by
  cases x with
  | list g r => exact .list (hk _ _ (.inl rfl) g) r
  | dict g n r => exact .dict (hk _ _ (.inl rfl) g) n r
  | inst g g' n r => exact .inst (hk _ _ (.inl rfl) g) (hk _ _ (.inr ⟨_, _, rfl, g⟩) g') n r
end

section
variable (prog : Program) (w : World)
noncomputable def OwnI (Φ : Facts) (h : Heap) (v : Value) : D → Prop
  | .list l => ∃ a vs n, v = .ref a ∧ h.get? a = some (lstObj vs n) ∧ Reps prog w Φ vs l
  | .dict l => ∃ a o, v = .ref a ∧ h.get? a = some o ∧ a ≠ sysModules ∧ RepO prog w Φ o l
  | .inst C fs => ∃ a dx es n, v = .ref a ∧ h.get? a = some (instObj C dx) ∧ h.get? dx = some (dictOf es n) ∧ a ≠ dx ∧ RepF prog w Φ es fs
  | _ => False
end
section
variable {prog : Program} {w : World} {Φ : Facts} {h : Heap}
theorem Own.inv {v : Value} {d : D} (r : Own prog w Φ h v d) : OwnI prog w Φ h v d := by
  cases r with
  | list g r => exact ⟨_, _, _, rfl, g, r⟩
  | dict g n r => exact ⟨_, _, rfl, g, n, r⟩
  | inst g g' n r => exact ⟨_, _, _, _, rfl, g, g', n, r⟩
theorem Own.list_inv {v : Value} {l : List D} (r : Own prog w Φ h v (.list l)) : ∃ a vs n, v = .ref a ∧ h.get? a = some (lstObj vs n) ∧ Reps prog w Φ vs l := r.inv
theorem Own.dict_inv {v : Value} {l : List (D × D)} (r : Own prog w Φ h v (.dict l)) : ∃ a o, v = .ref a ∧ h.get? a = some o ∧ a ≠ sysModules ∧ RepO prog w Φ o l := r.inv
theorem Own.inst_inv {v : Value} {C : Nat} {fs : List (Str × D)} (r : Own prog w Φ h v (.inst C fs)) : ∃ a dx es n, v = .ref a ∧ h.get? a = some (instObj C dx) ∧ h.get? dx = some (dictOf es n) ∧ a ≠ dx ∧ RepF prog w Φ es fs := r.inv
end

noncomputable def CellName (env : MEnv) (x : Str) : Prop := kindL env.names x = some .cell ∨ kindL env.names x = some .free
/-- the variables' values V, as the block's environment bears them -/
structure Real (env : MEnv) (h : Heap) (pe : PySem.Env) (V : Str → Option Value) : Prop where
  loc : ∃ m, h.Ns pe.locals m ∧ ∀ x, kindL env.names x = some .local → m x = V x
  cell : ∀ x, CellName env x → ∃ c, pe.cells.lookup x = some c ∧ h.IsCell c (V x)

/-- the block's environment and the little one agree on the kinds of names -/
structure Kinds (pe : PySem.Env) (env : MEnv) : Prop where
  fn : pe.scope.kind = .function
  glob : pe.globals = mainGlobals
  blt : pe.builtins = builtinsNs
  kind : ∀ x k, kindL env.names x = some k → match k with
    | .local => pe.kindOf x = some .local
    | .cell => pe.kindOf x = some .cell
    | .free => pe.kindOf x = some .cell ∨ pe.kindOf x = some .free
    | .globalImplicit => pe.kindOf x = some .globalImplicit
    | _ => True
  plain : ∀ x k, kindL env.names x = some k → (x == ("__debug__" : Str)) = false ∧ (x == ("__classdict__" : Str)) = false

/-- an address that the frame itself writes -/
noncomputable def FrameAt (pe : PySem.Env) (env : MEnv) (a : Addr) : Prop := a = pe.locals ∨ ∃ x, kindL env.names x = some .cell ∧ pe.cells.lookup x = some a

/-- the heap at the start, and the value of the pinned name -/
structure Base where
  heap : Heap
  pin : Option Value

structure Inv (prog : Program) (w : World) (h₀ : Base) (Ψ Φ : Facts) (h : Heap) (pe : PySem.Env) (V : Str → Option Value) (env : MEnv) : Prop where
  kinds : Kinds pe env
  real : Real env h pe V
  psi : ∀ a o, Ψ a o → h.get? a = some o
  phi : ∀ a o, Φ a o → h.get? a = some o
  frame : ∀ a, FrameAt pe env a → (∀ o, ¬ Ψ a o) ∧ ∀ o, ¬ Φ a o
  apartCells : ∀ x y c, CellName env x → CellName env y → pe.cells.lookup x = some c → pe.cells.lookup y = some c → seq x y = true
  cellLoc : ∀ x, CellName env x → pe.cells.lookup x ≠ some pe.locals
  dat : ∀ x d, env.isVar x = true → getv env.vars x = some (.dat d) → ∃ v, V x = some v ∧ Rep prog w Φ v d
  own : ∀ x d, env.isVar x = true → getv env.vars x = some (.own d) → ∃ v, V x = some v ∧ Own prog w Φ h v d ∧ (∀ b, OwnAt h v b → (∀ o, ¬ Ψ b o) ∧ (∀ o, ¬ Φ b o) ∧ ¬ FrameAt pe env b)
  apart : ∀ x y d e v u b, env.isVar x = true → env.isVar y = true → seq x y = false → getv env.vars x = some (.own d) → getv env.vars y = some (.own e) → V x = some v → V y = some u → OwnAt h v b → ¬ OwnAt h u b
  low : sysModules < pe.locals ∧ ∀ x, env.pin = some x → V x = h₀.pin
  base : ∀ a o, h₀.heap.get? a = some o → Φ a o
  sep : ∀ a o o', Ψ a o → ¬ Φ a o'
end Mine

set_option Elab.async false
set_option maxRecDepth 100000
namespace Mine
open PySem PySem.W PyProof.Rows PySem.Calls

theorem leqN_iff : ∀ {x y : List Nat}, leqN x y = true ↔ x = y
  | [], [] => ⟨fun zz=> rfl, fun zz=> rfl⟩
  | [], _ :: _ => ⟨fun h => (nomatch h), fun h => (nomatch h)⟩
  | _ :: _, [] => ⟨fun h => (nomatch h), fun h => (nomatch h)⟩
  | a :: x, b :: y => by
    unfold leqN
    by_cases h : Nat.beq a b = true
    · rw [if_pos h, leqN_iff, List.cons.injEq]
      exact ⟨fun q => ⟨Nat.eq_of_beq_eq_true h, q⟩, fun q => q.2⟩
    · rw [if_neg h, List.cons.injEq]
      refine ⟨fun q => (nomatch q), fun q => absurd ?_ h⟩
      rw [q.1]; exact Nat.beq_refl b
theorem seq_iff {a b : Str} : seq a b = true ↔ a = b := by
  unfold seq
  rw [leqN_iff]
  cases a; cases b
  simp only [Str.mk.injEq]
  exact Array.toList_inj
theorem seq_refl (a : Str) : seq a a = true := seq_iff.mpr rfl
theorem seq_false {a b : Str} (h : seq a b = false) : a ≠ b := fun e => by rw [e, seq_refl] at h; cases h
theorem ne_seq {a b : Str} (h : a ≠ b) : seq a b = false := by
  cases q : seq a b with
  | false => rfl
  | true => exact absurd (seq_iff.mp q) h

theorem getv_putv_self (x : Str) (sl : Slot) : ∀ vs : List (Str × Slot), getv (putv vs x sl) x = some sl
  | [] => by simp [putv, getv, seq_refl]
  | (y, t) :: r => by
    unfold putv
    by_cases h : seq y x = true
    · rw [if_pos h]; unfold getv; rw [if_pos h]
    · rw [if_neg h]; unfold getv; rw [if_neg h]; exact getv_putv_self x sl r
theorem getv_putv_ne {x y : Str} (sl : Slot) (h : seq x y = false) : ∀ vs : List (Str × Slot), getv (putv vs x sl) y = getv vs y
  | [] => by simp [putv, getv, h]
  | (z, t) :: r => by
    unfold putv
    by_cases hz : seq z x = true
    · have e := seq_iff.mp hz
      subst e
      rw [if_pos hz]; unfold getv; rw [if_neg (by rw [h]; simp), if_neg (by rw [h]; simp)]
    · rw [if_neg hz]; unfold getv
      rw [getv_putv_ne sl h r]

noncomputable def Le (Φ Φ' : Facts) : Prop := ∀ a o, Φ a o → Φ' a o
theorem Le.refl (Φ : Facts) : Le Φ Φ := fun zz zz h=> h
theorem Le.trans {Φ Φ' Φ'' : Facts} (a : Le Φ Φ') (b : Le Φ' Φ'') : Le Φ Φ'' := fun x o h => b x o (a x o h)

noncomputable def NoE : Value → Shared → Prop := fun zz zz=> False

section
variable {prog : Program} {w : World} {h₀ : Base} {h h' : Heap} {Ψ Φ Φ' : Facts} {pe : PySem.Env} {V : Str → Option Value} {env : MEnv}

theorem Inv.frame_there (I : Inv prog w h₀ Ψ Φ h pe V env) {a : Addr} (x : FrameAt pe env a) : ∃ o, h.get? a = some o := by
  rcases x with rfl | ⟨x, hx, hc⟩
  · obtain ⟨m, ⟨o, _, _, ho, _⟩, _⟩ := I.real.loc
    exact ⟨o, ho⟩
  · obtain ⟨c, h1, o, h2, _⟩ := I.real.cell x (.inl hx)
    rw [hc] at h1
    cases h1
    exact ⟨o, h2⟩
theorem Own.there {v : Value} {d : D} (x : Own prog w Φ h v d) {b : Addr} (q : OwnAt h v b) : ∃ o, h.get? b = some o := by
  cases x with
  | list g r =>
    rcases q with e | ⟨a, C, e, g'⟩
    · cases e; exact ⟨_, g⟩
    · cases e; rw [g] at g'; cases g'
  | dict g n r =>
    rcases q with e | ⟨a, C, e, g'⟩
    · cases e; exact ⟨_, g⟩
    · cases e
      rw [g] at g'
      cases g'
      cases r with
      | ik k _ => obtain ⟨_, _, ⟨hc, _⟩, _⟩ := k; cases hc
      | sk k _ => obtain ⟨_, _, ⟨hc, _⟩, _⟩ := k; cases hc
      | bk k _ => obtain ⟨_, _, ⟨hc, _⟩, _⟩ := k; cases hc
  | inst g g' n r =>
    rcases q with e | ⟨a, C, e, g''⟩
    · cases e; exact ⟨_, g⟩
    · cases e; rw [g] at g''; cases g''; exact ⟨_, g'⟩
theorem Own.ref {v : Value} {d : D} (x : Own prog w Φ h v d) : ∃ a o, v = .ref a ∧ h.get? a = some o := by
  cases x with
  | list g r => exact ⟨_, _, rfl, g⟩
  | dict g n r => exact ⟨_, _, rfl, g⟩
  | inst g g' n r => exact ⟨_, _, rfl, g⟩
theorem OwnAt.back {v : Value} {d : D} (x : Own prog w Φ h v d) (hk : ∀ o, (∃ a, v = .ref a ∧ h.get? a = some o) → ∃ a, v = .ref a ∧ h'.get? a = some o) {b : Addr} (q : OwnAt h' v b) : OwnAt h v b := by
  rcases q with e | ⟨a, C, e, g'⟩
  · exact .inl e
  · obtain ⟨a', o, e', g⟩ := x.ref
    rw [e] at e'
    cases e'
    obtain ⟨a'', e'', g''⟩ := hk o ⟨a, e, g⟩
    rw [e] at e''
    cases e''
    rw [g'] at g''
    cases g''
    exact .inr ⟨a, C, e, g⟩

/-- the heap has only grown; new facts are of new objects -/
theorem Inv.grow (I : Inv prog w h₀ Ψ Φ h pe V env) (hk : ∀ b o, h.get? b = some o → h'.get? b = some o)
    (hle : Le Φ Φ') (hnew : ∀ a o, Φ' a o → Φ a o ∨ (h.get? a = none ∧ h'.get? a = some o)) : Inv prog w h₀ Ψ Φ' h' pe V env where
  kinds := I.kinds
  real := by
    refine ⟨?_, fun x hx => ?_⟩
    · obtain ⟨m, hm, e⟩ := I.real.loc
      exact ⟨m, hm.keeps hk, e⟩
    · obtain ⟨c, h1, o, h2, h3⟩ := I.real.cell x hx
      exact ⟨c, h1, o, hk _ _ h2, h3⟩
  psi := fun a o x => hk _ _ (I.psi a o x)
  phi := fun a o x => by
    rcases hnew a o x with q | ⟨_, q⟩
    · exact hk _ _ (I.phi a o q)
    · exact q
  frame := fun a x => by
    obtain ⟨o₁, e⟩ := I.frame_there x
    refine ⟨(I.frame a x).1, fun o q => ?_⟩
    rcases hnew a o q with q | ⟨q, _⟩
    · exact (I.frame a x).2 o q
    · rw [e] at q; cases q
  apartCells := I.apartCells
  cellLoc := I.cellLoc
  dat := fun x d hx hd => by
    obtain ⟨v, hv, r⟩ := I.dat x d hx hd
    exact ⟨v, hv, r.mono hle⟩
  own := fun x d hx hd => by
    obtain ⟨v, hv, r, q⟩ := I.own x d hx hd
    refine ⟨v, hv, (r.keep fun b o zz e=> hk b o e).mono hle, fun b y => ?_⟩
    have y' := OwnAt.back r (fun o ⟨a, e, g⟩ => ⟨a, e, hk _ _ g⟩) y
    obtain ⟨o₁, e⟩ := r.there y'
    obtain ⟨q1, q2, q3⟩ := q b y'
    refine ⟨q1, fun o z => ?_, q3⟩
    rcases hnew b o z with z | ⟨z, _⟩
    · exact q2 o z
    · rw [e] at z; cases z
  apart := fun x y d e v u b hx hy hxy gx gy hv hu bx bY => by
    obtain ⟨v', hv', rv, _⟩ := I.own x d hx gx
    obtain ⟨u', hu', ru, _⟩ := I.own y e hy gy
    rw [hv] at hv'; cases hv'
    rw [hu] at hu'; cases hu'
    exact I.apart x y d e v u b hx hy hxy gx gy hv hu (OwnAt.back rv (fun o ⟨a, e, g⟩ => ⟨a, e, hk _ _ g⟩) bx) (OwnAt.back ru (fun o ⟨a, e, g⟩ => ⟨a, e, hk _ _ g⟩) bY)
  low := I.low
  base := fun a o e => hle _ _ (I.base a o e)
  sep := fun a o o' p q => by
    rcases hnew a o' q with q | ⟨q, _⟩
    · exact I.sep a o o' p q
    · rw [I.psi a o p] at q; cases q

/-- one more fact -/
noncomputable def also (Φ : Facts) (a : Addr) (o : Obj) : Facts := fun b x => Φ b x ∨ (b = a ∧ x = o)
theorem le_also (Φ : Facts) (a : Addr) (o : Obj) : Le Φ (also Φ a o) := fun zz zz h=> .inl h
theorem also_at (Φ : Facts) (a : Addr) (o : Obj) : also Φ a o a o := .inr ⟨rfl, rfl⟩
theorem get_none_size (h : Heap) : h.get? h.objs.size = none := by
  cases q : h.get? h.objs.size with
  | none => rfl
  | some o => exact absurd (Heap.lt_size q) (Nat.lt_irrefl _)
theorem Inv.push (I : Inv prog w h₀ Ψ Φ h pe V env) (o : Obj) (hf : o.isFreed = false := by rfl) : Inv prog w h₀ Ψ (also Φ h.objs.size o) (h.push o) pe V env :=
  I.grow (fun zz zz e=> Heap.get?_push_of_some _ e) (le_also _ _ _) fun a x q => by
    rcases q with q | ⟨rfl, rfl⟩
    · exact .inl q
    · exact .inr ⟨get_none_size h, Heap.get?_push_size _ hf⟩
theorem Inv.push' (I : Inv prog w h₀ Ψ Φ h pe V env) (o : Obj) : Inv prog w h₀ Ψ Φ (h.push o) pe V env :=
  I.grow (fun zz zz e=> Heap.get?_push_of_some _ e) (Le.refl _) fun zz zz q=> .inl q
end

noncomputable def Room (n : Nat) (A : Around) : Prop := A.handled = none ∧ A.depth + 3 * n < recursionLimit ∧ A.units + 24 * n + 100 < cLine
theorem Room.less {n : Nat} {A : Around} (r : Room (n + 1) A) : Room n A := ⟨r.1, by have := r.2.1; omega, by have := r.2.2; omega⟩

section
variable (prog : Program) (w : World) (h₀ : Base)

/-- what an expression's value is handed on to -/
noncomputable abbrev OkE (Ψ Φ : Facts) (s : Shared) (pe : PySem.Env) (V : Str → Option Value) (env' : MEnv) (d : D) (Q : Value → Shared → Prop) : Prop :=
  ∀ v Φ' h' tk, Le Φ Φ' → Inv prog w h₀ Ψ Φ' h' pe V env' → Rep prog w Φ' v d → Q v { s with heap := h', toks := tk }
noncomputable abbrev OkL (Ψ Φ : Facts) (s : Shared) (pe : PySem.Env) (V : Str → Option Value) (env' : MEnv) (ds : List D) (Q : List Value → Shared → Prop) : Prop :=
  ∀ vs Φ' h' tk, Le Φ Φ' → Inv prog w h₀ Ψ Φ' h' pe V env' → Reps prog w Φ' vs ds → Q vs { s with heap := h', toks := tk }
noncomputable abbrev OkT (Ψ Φ : Facts) (s : Shared) (pe : PySem.Env) (V : Str → Option Value) (env' : MEnv) (b : Bool) (Q : Bool → Shared → Prop) : Prop :=
  ∀ Φ' h' tk, Le Φ Φ' → Inv prog w h₀ Ψ Φ' h' pe V env' → Q b { s with heap := h', toks := tk }
noncomputable def FlR (Φ : Facts) : Flow → Fl → Prop
  | .next, .nxt => True
  | .ret v, .ret d => Rep prog w Φ v d
  | _, _ => False
noncomputable abbrev OkS (Ψ Φ : Facts) (s : Shared) (pe : PySem.Env) (env' : MEnv) (fl : Fl) (Q : Flow → Shared → Prop) : Prop :=
  ∀ f V' Φ' h' tk, Le Φ Φ' → Inv prog w h₀ Ψ Φ' h' pe V' env' → FlR prog w Φ' f fl → Q f { s with heap := h', toks := tk }

section
variable {prog : Program} {w : World} {h₀ : Base} {Ψ Φ : Facts} {s : Shared} {pe : PySem.Env} {V : Str → Option Value} {env1 env' : MEnv}
theorem okE_eq {a d : D} {Q : Value → Shared → Prop} (e : some (a, env1) = some (d, env')) (k : OkE prog w h₀ Ψ Φ s pe V env' d Q) : OkE prog w h₀ Ψ Φ s pe V env1 a Q := by
  cases e; exact k
theorem okT_eq {a d : Bool} {Q : Bool → Shared → Prop} (e : some (a, env1) = some (d, env')) (k : OkT prog w h₀ Ψ Φ s pe V env' d Q) : OkT prog w h₀ Ψ Φ s pe V env1 a Q := by
  cases e; exact k
theorem okL_eq {a d : List D} {Q : List Value → Shared → Prop} (e : some (a, env1) = some (d, env')) (k : OkL prog w h₀ Ψ Φ s pe V env' d Q) : OkL prog w h₀ Ψ Φ s pe V env1 a Q := by
  cases e; exact k
theorem okS_eq {a d : Fl} {Q : Flow → Shared → Prop} (e : some (a, env1) = some (d, env')) (k : OkS prog w h₀ Ψ Φ s pe env' d Q) : OkS prog w h₀ Ψ Φ s pe env1 a Q := by
  cases e; exact k
end
/-- what the oracle answers is plain syntax -/
noncomputable def SndP (o : Orc) : Prop := ∀ env e r, o.E env e = some r → plainExpr e = true
noncomputable def SndE (o : Orc) (n : Nat) : Prop := ∀ (env : MEnv) (e : Expr) (d : D) (env' : MEnv), o.E env e = some (d, env') →
  ∀ (Ψ Φ : Facts) (s : Shared) (pe : PySem.Env) (V : Str → Option Value) (A : Around) (Q : Value → Shared → Prop), Inv prog w h₀ Ψ Φ s.heap pe V env → Room n A →
    OkE prog w h₀ Ψ Φ s pe V env' d Q → wpAny (model prog w) A (eval e pe) Q NoE s
noncomputable def SndT (o : Orc) (n : Nat) : Prop := ∀ (env : MEnv) (e : Expr) (b : Bool) (env' : MEnv), o.T env e = some (b, env') →
  ∀ (Ψ Φ : Facts) (s : Shared) (pe : PySem.Env) (V : Str → Option Value) (A : Around) (Q : Bool → Shared → Prop), Inv prog w h₀ Ψ Φ s.heap pe V env → Room n A →
    OkT prog w h₀ Ψ Φ s pe V env' b Q → wpAny (model prog w) A (isTrue e pe (eval e pe)) Q NoE s
noncomputable def SndL (o : Orc) (n : Nat) : Prop := ∀ (env : MEnv) (es : List Expr) (ds : List D) (env' : MEnv), o.L env es = some (ds, env') →
  ∀ (Ψ Φ : Facts) (s : Shared) (pe : PySem.Env) (V : Str → Option Value) (A : Around) (pos : Pos) (Q : List Value → Shared → Prop), Inv prog w h₀ Ψ Φ s.heap pe V env → Room n A →
    OkL prog w h₀ Ψ Φ s pe V env' ds Q → wpAny (model prog w) A (spliced (backTo pos (starEach es pe))) Q NoE s
noncomputable def SndS (o : Orc) (n : Nat) : Prop := ∀ (env : MEnv) (st : Stmt) (fl : Fl) (env' : MEnv), o.S env st = some (fl, env') →
  ∀ (Ψ Φ : Facts) (s : Shared) (pe : PySem.Env) (V : Str → Option Value) (A : Around) (Q : Flow → Shared → Prop), Inv prog w h₀ Ψ Φ s.heap pe V env → Room n A →
    OkS prog w h₀ Ψ Φ s pe env' fl Q → wpAny (model prog w) A (exec st pe) Q NoE s
noncomputable def SndB (o : Orc) (n : Nat) : Prop := ∀ (env : MEnv) (ss : List Stmt) (fl : Fl) (env' : MEnv), o.B env ss = some (fl, env') →
  ∀ (Ψ Φ : Facts) (s : Shared) (pe : PySem.Env) (V : Str → Option Value) (A : Around) (Q : Flow → Shared → Prop), Inv prog w h₀ Ψ Φ s.heap pe V env → Room n A →
    OkS prog w h₀ Ψ Φ s pe env' fl Q → wpAny (model prog w) A (execs ss pe) Q NoE s
end
end Mine

set_option Elab.async false
set_option maxRecDepth 100000
namespace Mine
open PySem PySem.W PyProof.Rows PySem.Calls

/-- what the written part says of an attribute of the objects of a class: the class has none of that name -/
noncomputable def fieldOkB (K : Frag) (C : Addr) (x : Str) : Bool := plainGet K C x && hasDictIn K C && (findIn K (.ref C) x == some none)

/-- storing into the attribute goes into the object's own dict -/
noncomputable def storeOkB (K : Frag) (C : Addr) (x : Str) : Bool := (findIn K (.ref C) "__setattr__" == some (some (.builtin "object.__setattr__"))) && plainOver K C && (takerIn K C x == some none) && hasDictIn K C

noncomputable def bltNames : List Str := [n_isinstance, n_len, n_sorted, n_tuple, n_list, n_dict, n_bytes, n_ord, n_chr, n_str, n_range, n_reversed, n_bool, n_int]
structure Cx (prog : Program) (w : World) (h₀ : Base) (K : Frag) (g : Gt) : Prop where
  KX : K.In h₀.heap
  T : ∃ p loose mg mb, TopRead p loose mg mb h₀.heap
  gval : ∀ x d, lookS g.globals x = some (.val d) → ∃ v, nsIn K mainGlobals x = some (some v) ∧ Rep prog w (fun a o => h₀.heap.get? a = some o) v d
  fld : ∀ C x, fieldIn g.fields C x = true → fieldOkB K C x = true
  fst : ∀ C x, fieldIn g.fields C x = true → storeOkB K C x = true
  blt : ∀ x, x ∈ bltNames → (lookS g.globals x).isNone = true → nsIn K mainGlobals x = some none

section
variable {prog : Program} {w : World} {h₀ : Base} {h h' : Heap} {K : Frag} {g : Gt} {Ψ Φ Φ' : Facts} {pe : PySem.Env} {V : Str → Option Value} {env : MEnv} {A : Around} {E : Value → Shared → Prop} {s : Shared}

set_option tactic.hygienic true in
theorem isVar_kind {x : Str} (hx : env.isVar x = true) : kindL env.names x = some .local ∨ kindL env.names x = some .cell ∨ kindL env.names x = some .free := by
  unfold MEnv.isVar at hx
  split at hx
  · rename_i e; exact .inl e
  · rename_i e; exact .inr (.inl e)
  · rename_i e; exact .inr (.inr e)
  · cases hx
set_option tactic.hygienic true in
theorem isGlob_kind {x : Str} (hx : env.isGlob x = true) : kindL env.names x = some .globalImplicit := by
  unfold MEnv.isGlob at hx
  split at hx
  · rename_i e; exact e
  · cases hx
theorem load_var {x : Str} {v : Value} {Q : Value → Shared → Prop} {M : Model} (I : Inv prog w h₀ Ψ Φ s.heap pe V env) (hx : env.isVar x = true) (hv : V x = some v) (hQ : Q v s) : wpAny M A (loadName pe x) Q E s := by
  rcases isVar_kind hx with e | e | e
  · have k := I.kinds.kind x _ e
    obtain ⟨m, hm, q⟩ := I.real.loc
    exact wpAny_loadName_local I.kinds.fn k hm ((q x e).trans hv) hQ
  · have k := I.kinds.kind x _ e
    obtain ⟨c, h1, h2⟩ := I.real.cell x (.inl e)
    exact wpAny_loadName_cell I.kinds.fn k h1 (hv ▸ h2) hQ
  · have k : pe.kindOf x = some .cell ∨ pe.kindOf x = some .free := I.kinds.kind x _ e
    obtain ⟨c, h1, h2⟩ := I.real.cell x (.inr e)
    rcases k with k | k
    · exact wpAny_loadName_cell I.kinds.fn k h1 (hv ▸ h2) hQ
    · exact wpAny_loadName_free I.kinds.fn k h1 (hv ▸ h2) hQ (I.kinds.plain x _ e).2
theorem name_var {x : Str} {pos : Pos} {v : Value} {Q : Value → Shared → Prop} {M : Model} (I : Inv prog w h₀ Ψ Φ s.heap pe V env) (hx : env.isVar x = true) (hv : V x = some v) (hQ : Q v s) : wpAny M A (eval (.Name x pos) pe) Q E s := by
  have pl : (x == ("__debug__" : Str)) = false := by
    rcases isVar_kind hx with e | e | e <;> exact (I.kinds.plain x _ e).1
  exact wpAny_Name (load_var I hx hv hQ) pl
theorem base_keep (I : Inv prog w h₀ Ψ Φ h pe V env) : ∀ b o, h₀.heap.get? b = some o → h.get? b = some o := fun b o e => I.phi b o (I.base b o e)
theorem name_glob {x : Str} {pos : Pos} {v : Value} {Q : Value → Shared → Prop} {M : Model} (C : Cx prog w h₀ K g) (I : Inv prog w h₀ Ψ Φ s.heap pe V env) (hx : env.isGlob x = true) (e : nsIn K mainGlobals x = some (some v)) (hQ : Q v s) : wpAny M A (eval (.Name x pos) pe) Q E s := by
  have k := I.kinds.kind x _ (isGlob_kind hx)
  obtain ⟨p, loose, mg, mb, T⟩ := C.T
  exact Name_function_global I.kinds.fn k (loadGlobal_global (I.kinds.glob ▸ T.g.keeps (base_keep I)) (mg_of C.KX T.g e) hQ) (I.kinds.plain x _ (isGlob_kind hx)).1
theorem name_blt {x : Str} {pos : Pos} {v : Value} {Q : Value → Shared → Prop} {M : Model} (C : Cx prog w h₀ K g) (I : Inv prog w h₀ Ψ Φ s.heap pe V env) (hx : env.isGlob x = true) (e : nsIn K mainGlobals x = some none) (hv : bootBuiltins x = some v) (hn : x ≠ "__name__") (hQ : Q v s) :
    wpAny M A (eval (.Name x pos) pe) Q E s := by
  have k := I.kinds.kind x _ (isGlob_kind hx)
  obtain ⟨p, loose, mg, mb, T⟩ := C.T
  exact Name_function_global I.kinds.fn k (loadGlobal_builtin (I.kinds.glob ▸ T.g.keeps (base_keep I)) (mg_none_of C.KX T.g e) (I.kinds.blt ▸ T.b.keeps (base_keep I)) ((T.builtins x hn).trans hv) hQ) (I.kinds.plain x _ (isGlob_kind hx)).1

theorem put_getv {env : MEnv} {x y : Str} {sl sl' : Slot} (h : getv (env.put x sl).vars y = some sl') : (x = y ∧ sl = sl') ∨ (seq x y = false ∧ getv env.vars y = some sl') := by
  have h' : getv (putv env.vars x sl) y = some sl' := h
  by_cases hxy : seq x y = true
  · have := seq_iff.mp hxy
    subst this
    rw [getv_putv_self] at h'
    exact .inl ⟨rfl, s1 h'⟩
  · rw [Bool.not_eq_true] at hxy
    rw [getv_putv_ne _ hxy] at h'
    exact .inr ⟨hxy, h'⟩
theorem Inv.freeze {x : Str} {d : D} {v : Value} (I : Inv prog w h₀ Ψ Φ h pe V env) (hx : env.isVar x = true) (hd : getv env.vars x = some (.own d)) (hv : V x = some v) :
    ∃ Φ', Le Φ Φ' ∧ Inv prog w h₀ Ψ Φ' h pe V (env.put x (.dat d)) ∧ Rep prog w Φ' v d := by
  obtain ⟨v', hv', r, q⟩ := I.own x d hx hd
  obtain rfl := s1 (hv.symm.trans hv')
  have le : Le Φ fun b o => Φ b o ∨ (OwnAt h v b ∧ h.get? b = some o) := fun zz zz h=> .inl h
  have rep : Rep prog w (fun b o => Φ b o ∨ (OwnAt h v b ∧ h.get? b = some o)) v d := by
    cases r with
    | list g r => exact .list (.inr ⟨.inl rfl, g⟩) (r.mono le)
    | dict g n r => exact .dict (.inr ⟨.inl rfl, g⟩) n (r.mono le)
    | inst g g' n r => exact .inst (.inr ⟨.inl rfl, g⟩) (.inr ⟨.inr ⟨_, _, rfl, g⟩, g'⟩) (r.mono le)
  refine ⟨fun b o => Φ b o ∨ (OwnAt h v b ∧ h.get? b = some o), le, ?_, rep⟩
  refine ⟨⟨I.kinds.fn, I.kinds.glob, I.kinds.blt, I.kinds.kind, I.kinds.plain⟩, ⟨I.real.loc, I.real.cell⟩, I.psi, fun a o z => z.elim (I.phi a o) (·.2), fun a z => ⟨(I.frame a z).1, fun o y => ?_⟩, I.apartCells, I.cellLoc, fun y e hy he => ?_, fun y e hy he => ?_, fun y z e f u t b hy hz hyz gy gz hu ht => ?_, I.low, fun a o e => .inl (I.base a o e), fun a o o' y z => z.elim (I.sep a o o' y) fun z => (q a z.1).1 o y⟩
  · rcases y with y | ⟨y, _⟩
    · exact (I.frame a z).2 o y
    · exact (q a y).2.2 z
  · rcases put_getv he with ⟨e1, e2⟩ | ⟨_, he⟩
    · subst e1
      injection e2 with e2
      exact e2 ▸ ⟨v, hv, rep⟩
    · obtain ⟨u, hu, ru⟩ := I.dat y e hy he
      exact ⟨u, hu, ru.mono le⟩
  · rcases put_getv he with ⟨e1, e2⟩ | ⟨hxy, he⟩
    · exact nomatch e2
    · obtain ⟨u, hu, ru, qu⟩ := I.own y e hy he
      refine ⟨u, hu, ru.mono le, fun b hb => ⟨(qu b hb).1, fun o z => ?_, (qu b hb).2.2⟩⟩
      rcases z with z | ⟨z, _⟩
      · exact (qu b hb).2.1 o z
      · exact I.apart x y d e v u b hx hy hxy hd he hv hu z hb
  · rcases put_getv gy with ⟨e1, e2⟩ | ⟨hy', gy⟩
    · exact nomatch e2
    rcases put_getv gz with ⟨e1, e2⟩ | ⟨hz', gz⟩
    · exact nomatch e2
    exact I.apart y z e f u t b hy hz hyz gy gz hu ht
theorem shared_eta (s : Shared) : { s with heap := s.heap, toks := s.toks } = s := rfl

theorem valGV_some {v : GV} {d : D} (e : valGV v = some d) : v = .val d := by cases v <;> cases e; rfl
theorem snd_Name (C : Cx prog w h₀ K g) {x : Str} {pos : Pos} {d : D} {env' : MEnv} (e : rdName g env x = some (d, env')) {Q : Value → Shared → Prop} (I : Inv prog w h₀ Ψ Φ s.heap pe V env)
    (k : OkE prog w h₀ Ψ Φ s pe V env' d Q) : wpAny (model prog w) A (eval (.Name x pos) pe) Q NoE s := by
  refine bie e (fun hx e => bo1 e fun sl hd e => ?_) (fun zz e=> bi e fun hx e => bo1 e fun gv hg e => bo1 e fun d' hd e => ?_)
  · cases sl with
    | dat d' =>
      obtain ⟨v, hv, r⟩ := I.dat x _ hx hd
      exact name_var I hx hv (okE_eq e k v Φ s.heap s.toks (Le.refl _) I r)
    | own d' =>
      obtain ⟨v, hv, _⟩ := I.own x _ hx hd
      obtain ⟨Φ', le, I', r⟩ := I.freeze hx hd hv
      exact name_var I hx hv (okE_eq e k v Φ' s.heap s.toks le I' r)
  · obtain ⟨v, hn, r⟩ := C.gval x _ (valGV_some hd ▸ hg)
    exact name_glob C I hx hn (okE_eq e k v Φ s.heap s.toks (Le.refl _) I (r.mono I.base))
theorem snd_Constant {c : Const} {i : Nat} {pos : Pos} {d : D} (e : constD c = some d) {Q : Value → Shared → Prop} (I : Inv prog w h₀ Ψ Φ s.heap pe V env)
    (k : OkE prog w h₀ Ψ Φ s pe V env d Q) : wpAny (model prog w) A (eval (.Constant c i pos) pe) Q NoE s := by
  cases c with
  | none => exact wpAny_Constant_none (k _ Φ s.heap s.toks (Le.refl _) I (s1 e ▸ .none))
  | bool b => exact wpAny_Constant_bool (k _ Φ s.heap s.toks (Le.refl _) I (s1 e ▸ .bool _))
  | int i => exact wpAny_Constant_int (k _ Φ s.heap (s.toks + 1) (Le.refl _) I (s1 e ▸ .int _ _))
  | str i => exact wpAny_Constant_str (k _ Φ s.heap (s.toks + 1) (Le.refl _) I (s1 e ▸ .str _ _))
  | _ => exact (ns e).elim
end
end Mine

set_option Elab.async false
set_option maxRecDepth 100000
namespace Mine
open PySem PySem.W PyProof.Rows PySem.Calls

section
variable {prog : Program} {w : World} {h₀ : Base} {h h' : Heap} {K : Frag} {g : Gt} {o : Orc} {n : Nat} {Ψ Φ Φ' : Facts} {pe : PySem.Env} {V : Str → Option Value} {env : MEnv} {A : Around} {E : Value → Shared → Prop} {s : Shared}

theorem Rep.handed {v : Value} {d : D} (r : Rep prog w Φ v d) : handedIn v = true := by cases r <;> rfl
set_option tactic.hygienic true in
theorem RepF.get {x : Str} : ∀ {es : List DictEntry} {fs : List (Str × D)}, RepF prog w Φ es fs → ∀ {d : D}, fget fs x = some d → ∃ v, getL x es = some (some v) ∧ Rep prog w Φ v d
  | _, _, .nil, d, e => by cases e
  | _, _, .cons (x := y) (t := t) (v := v) (es := es) h r, d, e => by
    unfold fget at e
    by_cases q : seq y x = true
    · rw [if_pos q] at e
      first | exact (ns e).elim | obtain ⟨rfl, rfl⟩ := sp e | obtain rfl := s1 e | cases e
      have := seq_iff.mp q
      subst this
      refine ⟨v, ?_, h⟩
      unfold getL
      rw [List.find?_cons_of_pos (by simp [Value.isStr])]
    · rw [if_neg q] at e
      obtain ⟨u, hu, ru⟩ := RepF.get r e
      refine ⟨u, ?_, ru⟩
      unfold getL at hu ⊢
      have ne : ¬ (Value.isStr (.str y t) x) = true := fun z => q (seq_iff.mpr (by simpa [Value.isStr] using z))
      rw [List.find?_cons_of_neg (p := fun (e : DictEntry) => e.key.isStr x) ne]
      split at hu
      · rename_i e' he; simpa [he] using hu
      · split at hu <;> cases hu
set_option tactic.hygienic true in
theorem attributeBase_plain {v : Expr} {x : Str} {t : Sem Value} (hp : plainBase v = true) : attributeBase v x pe t = t := by
  unfold attributeBase
  split
  · rename_i id p pos
    have ne : id ≠ "super" := fun e => by
      have : seq id n_super = true := by rw [e]; decide +kernel
      simp [plainBase, this] at hp
    rw [if_pos (by simp [ne])]
  · rfl
theorem frag_at (C : Cx prog w h₀ K g) (I : Inv prog w h₀ Ψ Φ h pe V env) : K.In h := C.KX.keeps (base_keep I)

theorem fieldOk_of {Cc : Addr} {x : Str} (e : fieldOkB K Cc x = true) : plainGet K Cc x = true ∧ hasDictIn K Cc = true ∧ findIn K (.ref Cc) x = some none := by
  simp only [fieldOkB, Bool.and_eq_true] at e
  exact ⟨e.1.1, e.1.2, beq_iff_eq.mp e.2⟩
theorem snd_Attribute (C : Cx prog w h₀ K g) (hE : SndE prog w h₀ o n) {v : Expr} {x : Str} {pos : Pos} {d : D} {env' : MEnv}
    (e : attrE g o env v x = some (d, env')) {Q : Value → Shared → Prop} (I : Inv prog w h₀ Ψ Φ s.heap pe V env) (R : Room n A)
    (k : OkE prog w h₀ Ψ Φ s pe V env' d Q) : wpAny (model prog w) A (eval (.Attribute v x pos) pe) Q NoE s := by
  refine bi e fun hp e => bo2 e fun d1 env1 he e => bo2 e fun Cc fs hd1 e => bi e fun hf e => bo1 e fun d' hd e => ?_
  have k := okE_eq e k
  obtain ⟨p1, p2, p3⟩ := fieldOk_of (C.fld _ _ hf)
  refine Attribute_any_ (hE _ _ _ _ he _ _ _ _ _ _ _ I R fun u Φ' h' tk le I' r => ?_) (by rw [arm_eval_Attribute, attributeBase_plain hp])
  rw [asInst_some hd1] at r
  obtain ⟨a, dx, es, m, rfl, g1, g2, rf⟩ := r.inst_inv
  obtain ⟨u', hu, ru⟩ := rf.get hd
  exact get_value (frag_at C I') ⟨I'.phi _ _ g1, rfl, rfl, I'.phi _ _ g2⟩ (plainGet_of p1).1 (findObj_own (od := dictOf _ _) p2 p3 rfl hu) ru.handed (k _ _ h' (tk + 1) le I' ru)
theorem fitN_le {m : Nat} (e : fitN m = true) : m ≤ 1000000 := Nat.le_of_ble_eq_true e
theorem fit_line {m : Nat} (e : fitN m = true) : m ≤ sizeLine := Nat.le_trans (fitN_le e) (by decide)
theorem new_tuple {vs : List Value} {ds : List D} {Q : Value → Shared → Prop} {M : Model} (I : Inv prog w h₀ Ψ Φ s.heap pe V env) (r : Reps prog w Φ vs ds) (hs : vs.length ≤ sizeLine)
    (k : OkE prog w h₀ Ψ Φ s pe V env (.tup ds) Q) : wpAny M A (newTuple vs) Q E s :=
  wpAny_newObj_type (k _ _ _ s.toks (le_also _ _ _) (I.push _) (.tup (also_at _ _ _) (r.mono (le_also _ _ _)))) (by show vs.toArray.size ≤ sizeLine; rw [List.size_toArray]; exact hs)
theorem new_list {vs : List Value} {ds : List D} {Q : Value → Shared → Prop} {M : Model} (I : Inv prog w h₀ Ψ Φ s.heap pe V env) (r : Reps prog w Φ vs ds) (hs : vs.length ≤ sizeLine)
    (k : OkE prog w h₀ Ψ Φ s pe V env (.list ds) Q) : wpAny M A (newList vs) Q E s :=
  wpAny_newObj_type (k _ _ _ s.toks (le_also _ _ _) (I.push _) (.list (also_at _ _ _) (r.mono (le_also _ _ _)))) (by show vs.toArray.size ≤ sizeLine; rw [List.size_toArray]; exact hs)
theorem OkE.later {d : D} {env'' : MEnv} {Q : Value → Shared → Prop} {h' : Heap} {tk : Nat} (k : OkE prog w h₀ Ψ Φ s pe V env'' d Q) (le : Le Φ Φ') : OkE prog w h₀ Ψ Φ' { s with heap := h', toks := tk } pe V env'' d Q :=
  fun v Φ'' h'' tk' le' I r => k v Φ'' h'' tk' (le.trans le') I r
theorem snd_Tuple (hL : SndL prog w h₀ o n) {es : List Expr} {i : Nat} {pos : Pos} {d : D} {env' : MEnv}
    (e : (o2 (o.L env es) fun ds env1 => if fitN ds.length then some (D.tup ds, env1) else .none) = some (d, env')) {Q : Value → Shared → Prop} (I : Inv prog w h₀ Ψ Φ s.heap pe V env) (R : Room n A)
    (k : OkE prog w h₀ Ψ Φ s pe V env' d Q) : wpAny (model prog w) A (eval (.Tuple es i pos) pe) Q NoE s := by
  refine bo2 e fun ds env1 he e => bi e fun hf e => ?_
  have k := okE_eq e k
  refine Tuple_ (hL _ _ _ _ he _ _ _ _ _ _ _ _ I R fun vs Φ' h' tk le I' r => ?_)
  exact new_tuple I' r (by rw [r.length]; exact fit_line hf) fun v Φ'' h'' tk' le' I'' r' => k v Φ'' h'' tk' (le.trans le') I'' r'
theorem snd_List (hL : SndL prog w h₀ o n) {es : List Expr} {pos : Pos} {d : D} {env' : MEnv}
    (e : (o2 (o.L env es) fun ds env1 => if fitN ds.length then some (D.list ds, env1) else .none) = some (d, env')) {Q : Value → Shared → Prop} (I : Inv prog w h₀ Ψ Φ s.heap pe V env) (R : Room n A)
    (k : OkE prog w h₀ Ψ Φ s pe V env' d Q) : wpAny (model prog w) A (eval (.List es pos) pe) Q NoE s := by
  refine bo2 e fun ds env1 he e => bi e fun hf e => ?_
  have k := okE_eq e k
  refine List_ (hL _ _ _ _ he _ _ _ _ _ _ _ _ I R fun vs Φ' h' tk le I' r => ?_)
  exact new_list I' r (by rw [r.length]; exact fit_line hf) fun v Φ'' h'' tk' le' I'' r' => k v Φ'' h'' tk' (le.trans le') I'' r'
/-! the binary operations -/
theorem fitI_mul {a b : Int} (ha : fitI a = true) : IntMulOk a b :=
  IntMulOk.of_left (intBits_le_64 (by have := Nat.le_of_ble_eq_true ha; omega) (by have := Nat.le_of_ble_eq_true ha; omega))
theorem snd_IfExp (hE : SndE prog w h₀ o n) (hT : SndT prog w h₀ o n) {t a b : Expr} {pos : Pos} {d : D} {env' : MEnv}
    (e : (o2 (o.T env t) fun c env1 => if c then o.E env1 a else o.E env1 b) = some (d, env')) {Q : Value → Shared → Prop} (I : Inv prog w h₀ Ψ Φ s.heap pe V env) (R : Room n A)
    (k : OkE prog w h₀ Ψ Φ s pe V env' d Q) : wpAny (model prog w) A (eval (.IfExp t a b pos) pe) Q NoE s := by
  refine bo2 e fun c env1 hc e => ?_
  refine wpAny_IfExp (hT _ _ _ _ hc _ _ _ _ _ _ _ I R fun Φ1 h1 t1 le1 I1 => ?_)
  cases c with
  | true => exact hE _ _ _ _ e _ _ _ _ _ _ _ I1 R (OkE.later k le1)
  | false => exact hE _ _ _ _ e _ _ _ _ _ _ _ I1 R (OkE.later k le1)
theorem OkS.later {fl : Fl} {env'' : MEnv} {Q : Flow → Shared → Prop} {h' : Heap} {tk : Nat} (k : OkS prog w h₀ Ψ Φ s pe env'' fl Q) (le : Le Φ Φ') : OkS prog w h₀ Ψ Φ' { s with heap := h', toks := tk } pe env'' fl Q :=
  fun f V' Φ'' h'' tk' le' I r => k f V' Φ'' h'' tk' (le.trans le') I r
theorem snd_If (hB : SndB prog w h₀ o n) (hT : SndT prog w h₀ o n) {t : Expr} {a b : List Stmt} {pos : Pos} {fl : Fl} {env' : MEnv}
    (e : (o2 (o.T env t) fun c env1 => if c then o.B env1 a else o.B env1 b) = some (fl, env')) {Q : Flow → Shared → Prop} (I : Inv prog w h₀ Ψ Φ s.heap pe V env) (R : Room n A)
    (k : OkS prog w h₀ Ψ Φ s pe env' fl Q) : wpAny (model prog w) A (exec (.If t a b pos) pe) Q NoE s := by
  refine bo2 e fun c env1 hc e => ?_
  refine wpAny_If (hT _ _ _ _ hc _ _ _ _ _ _ _ I R fun Φ1 h1 t1 le1 I1 => ?_)
  cases c with
  | true => exact hB _ _ _ _ e _ _ _ _ _ _ _ I1 R (OkS.later k le1)
  | false => exact hB _ _ _ _ e _ _ _ _ _ _ _ I1 R (OkS.later k le1)
theorem snd_Return (hE : SndE prog w h₀ o n) {x : Expr} {pos : Pos} {fl : Fl} {env' : MEnv}
    (e : (o2 (o.E env x) fun d env1 => some (Fl.ret d, env1)) = some (fl, env')) {Q : Flow → Shared → Prop} (I : Inv prog w h₀ Ψ Φ s.heap pe V env) (R : Room n A)
    (k : OkS prog w h₀ Ψ Φ s pe env' fl Q) : wpAny (model prog w) A (exec (.Return (some x) pos) pe) Q NoE s := by
  refine bo2 e fun d env1 hd e => ?_
  have k := okS_eq e k
  exact wpAny_Return_some (hE _ _ _ _ hd _ _ _ _ _ _ _ I R fun v Φ1 h1 t1 le1 I1 r => k _ _ _ _ _ le1 I1 r)
set_option tactic.hygienic true in
theorem FlR.nxt_inv {f : Flow} (r : FlR prog w Φ f .nxt) : f = .next := by cases f <;> first | rfl | exact r.elim
theorem FlR.ret_inv {f : Flow} {d : D} (r : FlR prog w Φ f (.ret d)) : ∃ v, f = .ret v ∧ Rep prog w Φ v d := by cases f <;> first | exact ⟨_, rfl, r⟩ | exact r.elim
set_option tactic.hygienic true in
theorem snd_B (hS : SndS prog w h₀ o n) (hB : SndB prog w h₀ o n) {ss : List Stmt} {fl : Fl} {env' : MEnv} (e : stepB o env ss = some (fl, env')) {Q : Flow → Shared → Prop} (I : Inv prog w h₀ Ψ Φ s.heap pe V env) (R : Room n A)
    (k : OkS prog w h₀ Ψ Φ s pe env' fl Q) : wpAny (model prog w) A (execs ss pe) Q NoE s := by
  cases ss with
  | nil => exact wpAny_execs_nil (okS_eq e k .next V Φ s.heap s.toks (Le.refl _) I trivial)
  | cons st r =>
    refine bo2 e fun fl1 env1 h1 e => ?_
    refine wpAny_execs_cons (hS _ _ _ _ h1 _ _ _ _ _ _ _ I R fun f V' Φ' h' tk le I' fr => ?_)
    cases fl1 with
    | nxt =>
      rw [fr.nxt_inv]
      exact hB _ _ _ _ e _ _ _ _ _ _ _ I' R (OkS.later k le)
    | ret d =>
      obtain ⟨v, rfl, rv⟩ := fr.ret_inv
      exact okS_eq e k _ V' Φ' h' tk le I' rv
theorem starEach_plain {e : Expr} {r : List Expr} (hn : plainExpr e = true) : starEach (e :: r) pe = (false, eval e pe) :: starEach r pe := by
  cases e <;> first | rfl | exact absurd hn Bool.false_ne_true
theorem snd_L (hE : SndE prog w h₀ o n) (hL : SndL prog w h₀ o n) (hP : SndP o) {es : List Expr} {ds : List D} {env' : MEnv} (e : stepL o env es = some (ds, env')) {pos : Pos} {Q : List Value → Shared → Prop}
    (I : Inv prog w h₀ Ψ Φ s.heap pe V env) (R : Room n A) (k : OkL prog w h₀ Ψ Φ s pe V env' ds Q) : wpAny (model prog w) A (spliced (backTo pos (starEach es pe))) Q NoE s := by
  cases es with
  | nil => exact wpAny_items_nil (okL_eq e k [] Φ s.heap s.toks (Le.refl _) I .nil)
  | cons x r =>
    refine bo2 e fun d env1 h1 e => bo2 e fun ds' env2 h2 e => ?_
    have k := okL_eq e k
    refine wpAny_items_cons (hE _ _ _ _ h1 _ _ _ _ _ _ _ I R fun v Φ1 g1 t1 le1 I1 r1 => hL _ _ _ _ h2 _ _ _ _ _ _ _ _ I1 R fun vs Φ2 g2 t2 le2 I2 r2 => ?_) (starEach_plain (hP _ _ _ h1))
    exact k _ Φ2 g2 t2 (le1.trans le2) I2 (.cons (r1.mono le2) r2)
end
end Mine

set_option Elab.async false
set_option maxRecDepth 100000
namespace Mine
open PySem PySem.W PyProof.Rows PySem.Calls

section
variable {prog : Program} {w : World} {h₀ : Base} {h h' : Heap} {K : Frag} {g : Gt} {o : Orc} {n : Nat} {Ψ Φ Φ' : Facts} {pe : PySem.Env} {V : Str → Option Value} {env : MEnv} {A : Around} {s : Shared}

theorem foldl_rep (x : Value) : ∀ (m : Nat) (acc : Array Value), List.foldl (fun x1 x2 => x1 ++ x2) acc (List.replicate m #[x]) = acc ++ (List.replicate m x).toArray
  | 0, acc => by simp
  | m + 1, acc => by
    rw [List.replicate_succ, List.foldl_cons, foldl_rep x m, List.replicate_succ]
    apply Array.ext'
    simp
theorem Reps.replicate {v : Value} {d : D} (r : Rep prog w Φ v d) : ∀ m, Reps prog w Φ (List.replicate m v) (List.replicate m d)
  | 0 => .nil
  | m + 1 => .cons r (Reps.replicate r m)

theorem mul_raw {l : Addr} {items : Array Value} {k : Nat} {x : Int} {u : Tok} {Q E : Value → Shared → Prop} (hl : s.heap.get? l = some { cls := .type "list", dict := none, data := .seq items k, slots := #[] })
    (hlo : -(2 ^ 63 : Int) ≤ x) (hhi : x < 2 ^ 63) (hsz : items.size * x.toNat ≤ 2 ^ 24)
    (h : Q (.ref s.heap.objs.size) { s with heap := s.heap.push { cls := .type "list", data := .seq (List.foldl (fun x1 x2 => x1 ++ x2) #[] (List.replicate (if items.isEmpty = true then 0 else x.toNat) items)) } }) :
    wpAny (model prog w) A (binaryOp .Mult (.ref l) (.int x u)) Q E s :=
  wpAny_binaryOp_repeat_ref (T := "list") (U := "int") (by decide) ⟨_, hl, rfl⟩ (fun s' => typeIs_int s' x u) noFill_list_mul F.fills_int_mul F.slot_int_rmul repeat_list F.slot_int_index.lookup
    (call_meets F.slot_int_rmul (typeIs_int s x u) F.entry_int_rmul (F.args_int_rmul_2 _ _) (int___rmul___int_list x u l items k)
      ⟨hl, rfl, ⟨_, hl, rfl⟩, call_meets F.slot_list_mul ⟨_, hl, rfl⟩ F.entry_list_mul (F.args_list_mul_2 _ _)
        (AutoListH.list___mul___list_int_3 l items k x u (by simp [Builtin.List.listFitsIndex]; omega) (by omega) (by simp [Builtin.List.listTooLong, sizeLine]; omega))
        ⟨hl, h⟩⟩)
theorem add_any {a b : D} {u v : Value} {c : D} {Q : Value → Shared → Prop} (e : addD a b = some c) (I : Inv prog w h₀ Ψ Φ s.heap pe V env) (ra : Rep prog w Φ u a) (rb : Rep prog w Φ v b)
    (k : OkE prog w h₀ Ψ Φ s pe V env c Q) : wpAny (model prog w) A (binaryOp .Add u v) Q NoE s := by
  cases a with
  | int x =>
    refine bo1 e fun y hy e => ?_
    rw [asInt_some hy] at rb
    obtain ⟨t, rfl⟩ := ra.int_inv
    obtain ⟨t', rfl⟩ := rb.int_inv
    exact wpAny_add_int (k _ Φ s.heap (s.toks + 1) (Le.refl _) I (s1 e ▸ .int _ _))
  | str x =>
    refine bo1 e fun y hy e => bi e fun hf e => ?_
    rw [asStr_some hy] at rb
    obtain ⟨t, rfl⟩ := ra.str_inv
    obtain ⟨t', rfl⟩ := rb.str_inv
    exact add_str (fun t' tk => k _ Φ s.heap tk (Le.refl _) I (s1 e ▸ .str _ _)) (fit_line hf)
  | list x =>
    refine bo1 e fun y hy e => bi e fun hf e => ?_
    rw [asList_some hy] at rb
    obtain ⟨a, vs, n', rfl, p1, r1⟩ := ra.list_inv
    obtain ⟨b, us, m', rfl, p2, r2⟩ := rb.list_inv
    have e' : vs.toArray ++ us.toArray = (vs ++ us).toArray := by simp
    refine concat_meets ⟨_, I.phi _ _ p1, rfl⟩ ⟨_, I.phi _ _ p2, rfl⟩ noFill_list_add seq_list_add PySem.F.slot_list_add PySem.F.entry_list_add (PySem.F.args_list_add_2 _ _) (list_addW a b vs.toArray us.toArray n' m' none none #[] #[] (by rw [List.size_toArray, List.size_toArray, r1.length, r2.length]; exact fit_line hf)) ⟨I.phi _ _ p1, I.phi _ _ p2, ?_⟩
    rw [e']
    exact k _ _ _ s.toks (le_also _ _ _) (I.push _) (s1 e ▸ .list (also_at _ _ _) ((r1.append r2).mono (le_also _ _ _)))
  | tup x =>
    refine bo1 e fun y hy e => bi e fun hf e => ?_
    rw [asTup_some hy] at rb
    obtain rfl := s1 e
    obtain ⟨a, vs, n', rfl, p1, r1⟩ := ra.tup_inv
    obtain ⟨b, us, m', rfl, p2, r2⟩ := rb.tup_inv
    have e' : vs.toArray ++ us.toArray = (vs ++ us).toArray := by simp
    have r12 := r1.append r2
    by_cases hv : vs = []
    · exact concat_meets ⟨_, I.phi _ _ p1, rfl⟩ ⟨_, I.phi _ _ p2, rfl⟩ noFill_tuple_add seq_tuple_add PySem.F.slot_tuple_add PySem.F.entry_tuple_add (PySem.F.args_tuple_add_2 _ _)
        (tuple_addW0 a b vs.toArray us.toArray n' m' none none #[] #[] (by rw [hv]; rfl)) ⟨I.phi _ _ p1, I.phi _ _ p2, k _ Φ s.heap s.toks (Le.refl _) I (.tup p2 (by rw [hv] at r12; exact r12))⟩
    · by_cases hw : us = []
      · exact concat_meets ⟨_, I.phi _ _ p1, rfl⟩ ⟨_, I.phi _ _ p2, rfl⟩ noFill_tuple_add seq_tuple_add PySem.F.slot_tuple_add PySem.F.entry_tuple_add (PySem.F.args_tuple_add_2 _ _)
          (tuple_addW1 a b vs.toArray us.toArray n' m' none none #[] #[] (by simpa using hv) (by rw [hw]; rfl)) ⟨I.phi _ _ p1, I.phi _ _ p2, k _ Φ s.heap s.toks (Le.refl _) I (.tup p1 (by rw [hw, List.append_nil] at r12; exact r12))⟩
      · refine concat_meets ⟨_, I.phi _ _ p1, rfl⟩ ⟨_, I.phi _ _ p2, rfl⟩ noFill_tuple_add seq_tuple_add PySem.F.slot_tuple_add PySem.F.entry_tuple_add (PySem.F.args_tuple_add_2 _ _)
          (tuple_addW2 a b vs.toArray us.toArray n' m' none none #[] #[] (by simpa using hv) (by simpa using hw) (by rw [List.size_toArray, List.size_toArray, r1.length, r2.length]; exact fit_line hf)) ⟨I.phi _ _ p1, I.phi _ _ p2, ?_⟩
        rw [e']
        exact k _ _ _ s.toks (le_also _ _ _) (I.push _) (.tup (also_at _ _ _) (r12.mono (le_also _ _ _)))
  | _ => exact (ns e).elim
set_option tactic.hygienic true in
theorem noneL_is {l : List D} (e : noneL l = true) : l = [.none] := by
  unfold noneL at e
  split at e
  · rename_i d hd
    rw [oneOf_some hd, isNone_is e]
  · cases e
theorem mul_any {a b : D} {u v : Value} {c : D} {Q : Value → Shared → Prop} (e : mulD a b = some c) (I : Inv prog w h₀ Ψ Φ s.heap pe V env) (ra : Rep prog w Φ u a) (rb : Rep prog w Φ v b)
    (k : OkE prog w h₀ Ψ Φ s pe V env c Q) : wpAny (model prog w) A (binaryOp .Mult u v) Q NoE s := by
  cases a with
  | int x =>
    refine bo1 e fun y hy e => bi e fun hf e => ?_
    rw [asInt_some hy] at rb
    obtain ⟨t, rfl⟩ := ra.int_inv
    obtain ⟨t', rfl⟩ := rb.int_inv
    exact mul_int (k _ Φ s.heap (s.toks + 1) (Le.refl _) I (s1 e ▸ .int _ _)) (fitI_mul (Bool.and_eq_true_iff.mp hf).1)
  | list l =>
    refine bi e fun hl e => bo1 e fun m hm e => bi e fun hf e => ?_
    rw [asNat_some hm] at rb
    rw [noneL_is hl] at ra
    obtain rfl := s1 e
    obtain ⟨a, vs, n', rfl, p, r⟩ := ra.list_inv
    obtain ⟨t, rfl⟩ := rb.int_inv
    obtain ⟨v, rfl, rv⟩ := r.one_inv
    have hm := fitN_le hf
    refine mul_raw (I.phi _ _ p) (x := Int.ofNat m) (by show _ ≤ (m : Int); omega) (by show (m : Int) < _; omega) (by show 1 * m ≤ _; omega) ?_
    have e' : List.foldl (fun x1 x2 => x1 ++ x2) (#[] : Array Value) (List.replicate (if (#[v] : Array Value).isEmpty = true then 0 else (Int.ofNat m).toNat) #[v]) = (List.replicate m v).toArray := by
      rw [foldl_rep]
      apply Array.ext'
      simp
    rw [e']
    exact k _ _ _ s.toks (le_also _ _ _) (I.push _) (.list (also_at _ _ _) ((Reps.replicate rv m).mono (le_also _ _ _)))
  | _ => exact (ns e).elim
theorem smallDiv_is {b : Int} (e : smallDiv b = true) : 0 < b ∧ b < 1000000 := of_decide_eq_true e
theorem bin_any {op : Operator} {a b : D} {u v : Value} {c : D} {Q : Value → Shared → Prop} (e : binD op a b = some c) (I : Inv prog w h₀ Ψ Φ s.heap pe V env) (ra : Rep prog w Φ u a) (rb : Rep prog w Φ v b)
    (k : OkE prog w h₀ Ψ Φ s pe V env c Q) : wpAny (model prog w) A (binaryOp op u v) Q NoE s := by
  cases op with
  | Add => exact add_any e I ra rb k
  | Mult => exact mul_any e I ra rb k
  | Sub =>
    refine bo1 e fun x hx e => bo1 e fun y hy e => ?_
    rw [asInt_some hx] at ra
    rw [asInt_some hy] at rb
    obtain ⟨t, rfl⟩ := ra.int_inv
    obtain ⟨t', rfl⟩ := rb.int_inv
    exact sub_int' (k _ Φ s.heap (s.toks + 1) (Le.refl _) I (s1 e ▸ .int _ _))
  | Mod =>
    refine bo1 e fun x hx e => bo1 e fun y hy e => bi e fun hb e => ?_
    rw [asInt_some hx] at ra
    rw [asInt_some hy] at rb
    obtain ⟨t, rfl⟩ := ra.int_inv
    obtain ⟨t', rfl⟩ := rb.int_inv
    have := smallDiv_is hb
    exact mod_int' (Int.ne_of_gt this.1) (k _ Φ s.heap (s.toks + 1) (Le.refl _) I (s1 e ▸ .int _ _))
  | FloorDiv =>
    refine bo1 e fun x hx e => bo1 e fun y hy e => bi e fun hb e => ?_
    rw [asInt_some hx] at ra
    rw [asInt_some hy] at rb
    obtain ⟨t, rfl⟩ := ra.int_inv
    obtain ⟨t', rfl⟩ := rb.int_inv
    have := smallDiv_is hb
    exact floordiv_int (Int.ne_of_gt this.1) (k _ Φ s.heap (s.toks + 1) (Le.refl _) I (s1 e ▸ .int _ _)) (.inl (PyProof.noPylong_small (by omega)))
  | _ => exact (ns e).elim
theorem snd_BinOp (hE : SndE prog w h₀ o n) {l r : Expr} {op : Operator} {pos : Pos} {d : D} {env' : MEnv}
    (e : (o2 (o.E env l) fun a env1 => o2 (o.E env1 r) fun b env2 => o1 (binD op a b) fun c => some (c, env2)) = some (d, env')) {Q : Value → Shared → Prop} (I : Inv prog w h₀ Ψ Φ s.heap pe V env) (R : Room n A)
    (k : OkE prog w h₀ Ψ Φ s pe V env' d Q) : wpAny (model prog w) A (eval (.BinOp l op r pos) pe) Q NoE s := by
  refine bo2 e fun a env1 ha e => bo2 e fun b env2 hb e => bo1 e fun c hc e => ?_
  have k := okE_eq e k
  refine wpAny_BinOp (hE _ _ _ _ ha _ _ _ _ _ _ _ I R fun u Φ1 h1 t1 le1 I1 r1 => hE _ _ _ _ hb _ _ _ _ _ _ _ I1 R fun v Φ2 h2 t2 le2 I2 r2 => ?_)
  exact bin_any hc I2 (r1.mono le2) r2 (OkE.later k (le1.trans le2))
end
end Mine

set_option Elab.async false
set_option maxRecDepth 100000
namespace Mine
open PySem PySem.W PyProof.Rows PySem.Calls

section
variable {prog : Program} {w : World} {Φ : Facts} {s : Shared}

theorem no_cls {a b : String} (h : Value.type a = Value.type b) (ne : a ≠ b) : False := ne (by injection h)
theorem IsDict_cls {K : Type} [DecidableEq K] {knd : KeyKind prog w K} {o : Obj} {kvs : List (K × Value)} (h : o.IsDictOf knd kvs) : o.cls = .type "dict" := by obtain ⟨_, _, ⟨hc, _⟩, _⟩ := h; exact hc
theorem RepO.cls {o : Obj} {l : List (D × D)} (h : RepO prog w Φ o l) : o.cls = .type "dict" := by
  cases h with
  | ik k _ => exact IsDict_cls k
  | sk k _ => exact IsDict_cls k
  | bk k _ => exact IsDict_cls k
theorem at_cons {α : Type} {a : α} {x : List α} {j : Nat} {u : α} (h : (a :: x)[j]? = some u) : (j = 0 ∧ a = u) ∨ ∃ i, j = i + 1 ∧ x[i]? = some u := by
  cases j with
  | zero => exact .inl ⟨rfl, s1 h⟩
  | succ j => exact .inr ⟨j, rfl, h⟩
/-- the parts of two sequences, place by place -/
theorem eqLs_at {f : D → D → Option Bool} : ∀ {a b : List D} {c : Bool}, eqLs f a b = some c →
    (∀ (j : Nat) (x y : D), a[j]? = some x → b[j]? = some y → ∃ p, f x y = some p) ∧ (c = true ↔ ∀ (j : Nat) (x y : D), a[j]? = some x → b[j]? = some y → f x y = some true)
  | [], b, c, e => ⟨fun j x y h => (nomatch h), fun zz j x y h=> (nomatch h), fun zz=> (s1 (show some true = some c by cases b <;> exact e)).symm⟩
  | _ :: _, [], c, e => ⟨fun j x y zz h=> (nomatch h), fun zz j x y zz h=> (nomatch h), fun zz=> (s1 e).symm⟩
  | a :: x, b :: y, c, e => by
    refine bo1 e fun p hp e => bo1 e fun q hq e => ?_
    obtain ⟨h1, h2⟩ := eqLs_at hq
    have e := s1 e
    refine ⟨fun j u v hu hv => ?_, ?_⟩
    · rcases at_cons hu with ⟨rfl, rfl⟩ | ⟨i, rfl, hu⟩
      · exact s1 hv ▸ ⟨p, hp⟩
      · exact h1 i u v hu hv
    · cases p with
      | false => exact ⟨fun h => absurd (e.trans h) Bool.false_ne_true, fun h => absurd (s1 (hp.symm.trans (h 0 a b rfl rfl))) Bool.false_ne_true⟩
      | true =>
        rw [← show q = c from e]
        refine h2.trans ⟨fun h j u v hu hv => ?_, fun h j u v hu hv => h (j + 1) u v hu hv⟩
        rcases at_cons hu with ⟨rfl, rfl⟩ | ⟨i, rfl, hu⟩
        · exact s1 hv ▸ hp
        · exact h i u v hu hv

theorem Reps.at {vs : List Value} {l : List D} (r : Reps prog w Φ vs l) {i : Nat} {v : Value} (e : vs[i]? = some v) : ∃ d, l[i]? = some d ∧ Rep prog w Φ v d := by
  induction l generalizing vs i with
  | nil => rw [r.nil_inv] at e; exact nomatch e
  | cons a l ih =>
    obtain ⟨u, us, rfl, h, r⟩ := r.cons_inv
    cases i with
    | zero => exact ⟨a, rfl, s1 e ▸ h⟩
    | succ i => exact ih (i := i) r e
/-- compared, it answers nothing -/
noncomputable def Dead (d : D) : Prop := (∀ n x, eqD n d x = .none) ∧ ∀ n x, eqD n x d = .none
theorem dead_dict (l : List (D × D)) : Dead (.dict l) := ⟨fun n x => by cases n <;> rfl, fun n x => by cases n with
  | zero => rfl
  | succ n => cases x <;> rfl⟩
theorem dead_inst (C : Nat) (l : List (Str × D)) : Dead (.inst C l) := ⟨fun n x => by cases n <;> rfl, fun n x => by cases n with
  | zero => rfl
  | succ n => cases x <;> rfl⟩
noncomputable def Flat (d : D) : Prop := ∀ n c, eqD n d d = some c → c = true
section
variable (prog : Program) (w : World)
noncomputable def RefV (Φ : Facts) (a : Addr) (d : D) : Prop := ∃ o, Φ a o ∧ ((∃ vs n l, d = .tup l ∧ o = tupObj vs n ∧ Reps prog w Φ vs l) ∨ (∃ vs n l, d = .list l ∧ o = lstObj vs n ∧ Reps prog w Φ vs l) ∨ (o.cls ≠ .type "tuple" ∧ o.cls ≠ .type "list" ∧ Dead d))
noncomputable def RepV (Φ : Facts) : Value → D → Prop
  | .none, d => d = .none
  | .bool b, d => d = .bool b
  | .int i _, d => d = .int i
  | .str s _, d => d = .str s
  | .bytes l _, d => d = .bytes l.toList
  | .ref a, d => RefV prog w Φ a d
  | _, _ => False
/-- two readings of one value -/
noncomputable def Same (Φ : Facts) (a b : D) : Prop := (a = b ∧ Flat a) ∨ (∃ vs l k, a = .tup l ∧ b = .tup k ∧ Reps prog w Φ vs l ∧ Reps prog w Φ vs k) ∨ (∃ vs l k, a = .list l ∧ b = .list k ∧ Reps prog w Φ vs l ∧ Reps prog w Φ vs k) ∨ (Dead a ∧ Dead b)
end
theorem Rep.vinv {v : Value} {d : D} (r : Rep prog w Φ v d) : RepV prog w Φ v d := by
  cases r with
  | none => exact rfl
  | bool b => exact rfl
  | int i t => exact rfl
  | str s t => exact rfl
  | bytes l t => exact rfl
  | tup h r => exact ⟨_, h, .inl ⟨_, _, _, rfl, rfl, r⟩⟩
  | list h r => exact ⟨_, h, .inr (.inl ⟨_, _, _, rfl, rfl, r⟩)⟩
  | dict h n r => exact ⟨_, h, .inr (.inr ⟨fun e => no_cls (r.cls.symm.trans e) (by decide), fun e => no_cls (r.cls.symm.trans e) (by decide), dead_dict _⟩)⟩
  | inst h h' r => exact ⟨_, h, .inr (.inr ⟨fun e => (nomatch e), fun e => (nomatch e), dead_inst _ _⟩)⟩
theorem seq_inj {c c' : Value} {vs us : List Value} {n m : Nat} (e : ({ cls := c, data := .seq vs.toArray n } : Obj) = { cls := c', data := .seq us.toArray m }) : vs = us := by
  have := congrArg Obj.data e
  simp only [Data.seq.injEq] at this
  exact congrArg Array.toList this.1
theorem same_ref (fn : ∀ a o o', Φ a o → Φ a o' → o = o') {a : Addr} {d d' : D} (r : RefV prog w Φ a d) (r' : RefV prog w Φ a d') : Same prog w Φ d d' := by
  obtain ⟨o, p, r⟩ := r
  obtain ⟨o', p', r'⟩ := r'
  have e := fn _ _ _ p p'
  rcases r with ⟨vs, n, l, e1, e2, r⟩ | ⟨vs, n, l, e1, e2, r⟩ | ⟨n1, n2, r⟩ <;> rcases r' with ⟨us, m, k, f1, f2, r'⟩ | ⟨us, m, k, f1, f2, r'⟩ | ⟨m1, m2, r'⟩
  · exact .inr (.inl ⟨vs, l, k, e1, f1, r, seq_inj (e2.symm.trans (e.trans f2)) ▸ r'⟩)
  · exact (no_cls (congrArg Obj.cls (e2.symm.trans (e.trans f2))) (by decide)).elim
  · exact (m1 (congrArg Obj.cls (e.symm.trans e2))).elim
  · exact (no_cls (congrArg Obj.cls (e2.symm.trans (e.trans f2))) (by decide)).elim
  · exact .inr (.inr (.inl ⟨vs, l, k, e1, f1, r, seq_inj (e2.symm.trans (e.trans f2)) ▸ r'⟩))
  · exact (m2 (congrArg Obj.cls (e.symm.trans e2))).elim
  · exact (n1 (congrArg Obj.cls (e.trans f2))).elim
  · exact (n2 (congrArg Obj.cls (e.trans f2))).elim
  · exact .inr (.inr (.inr ⟨r, r'⟩))
theorem beq_self_true {x : Int} : (x == x) = true := beq_self_eq_true x
theorem rep_same (fn : ∀ a o o', Φ a o → Φ a o' → o = o') {v : Value} {a b : D} (ra : Rep prog w Φ v a) (rb : Rep prog w Φ v b) : Same prog w Φ a b := by
  have q := rb.vinv
  cases ra with
  | none => exact .inl ⟨q.symm, fun n c e => by cases n <;> cases e; rfl⟩
  | bool b => exact .inl ⟨q.symm, fun n c e => by cases n <;> cases e⟩
  | int i t => exact .inl ⟨q.symm, fun n c e => by cases n with
    | zero => cases e
    | succ n => exact (s1 e).symm.trans beq_self_true⟩
  | str s t => exact .inl ⟨q.symm, fun n c e => by cases n with
    | zero => cases e
    | succ n => exact (s1 e).symm.trans (seq_refl s)⟩
  | bytes l t => exact .inl ⟨q.symm, fun n c e => by cases n with
    | zero => cases e
    | succ n => exact (s1 e).symm.trans (bytesEq_iff.mpr rfl)⟩
  | tup p r => exact same_ref fn ⟨_, p, .inl ⟨_, _, _, rfl, rfl, r⟩⟩ q
  | list p r => exact same_ref fn ⟨_, p, .inr (.inl ⟨_, _, _, rfl, rfl, r⟩)⟩ q
  | dict h n r => exact same_ref fn (Rep.dict h n r).vinv q
  | inst h h' r => exact same_ref fn (Rep.inst h h' r).vinv q
theorem isEmpty_len {α β : Type} {l : List α} {k : List β} (e : l.length = k.length) : l.isEmpty = k.isEmpty := by
  cases l <;> cases k <;> first | rfl | cases e
/-- one value, two readings: compared with a third they agree -/
theorem eq_agree (fn : ∀ a o o', Φ a o → Φ a o' → o = o') : ∀ (n : Nat) {v : Value} {a a' x : D} {c c' : Bool}, Rep prog w Φ v a → Rep prog w Φ v a' → eqD n a x = some c → eqD n a' x = some c' → c = c'
  | 0, _, _, _, _, _, _, _, _, e, _ => nomatch e
  | n + 1, v, a, a', x, c, c', ra, ra', e, e' => by
    rcases rep_same fn ra ra' with ⟨rfl, _⟩ | ⟨vs, l, k, rfl, rfl, r, r'⟩ | ⟨vs, l, k, rfl, rfl, r, r'⟩ | ⟨d, _⟩
    · exact s1 (e.symm.trans e')
    · have ll := r.length.symm.trans r'.length
      refine bo1 e fun y hy e => bo1 e fun c1 h1 e => bo1 e' fun y' hy' e' => bo1 e' fun c2 h2 e' => ?_
      obtain rfl := s1 (hy.symm.trans hy')
      have : c1 = c2 := by
        obtain ⟨d1, i1⟩ := eqLs_at h1
        obtain ⟨d2, i2⟩ := eqLs_at h2
        refine Bool.eq_iff_iff.mpr (i1.trans (Iff.trans ?_ i2.symm))
        constructor
        · intro h j u' y hu' hy
          obtain ⟨vj, hv, q'⟩ := r'.get hu'
          obtain ⟨u, hu, q⟩ := r.at hv
          obtain ⟨b, hb⟩ := d2 j u' y hu' hy
          rw [hb, eq_agree fn n q' q hb (h j u y hu hy)]
        · intro h j u y hu hy
          obtain ⟨vj, hv, q⟩ := r.get hu
          obtain ⟨u', hu', q'⟩ := r'.at hv
          obtain ⟨b, hb⟩ := d1 j u y hu hy
          rw [hb, eq_agree fn n q q' hb (h j u' y hu' hy)]
      rw [this, ll] at e
      exact s1 (e.symm.trans e')
    · refine bo1 e fun y hy e => bi e fun zz e=> bo1 e' fun y' hy' e' => bi e' fun zz e'=> ?_
      exact (s1 e).symm.trans ((isEmpty_len (r.length.symm.trans r'.length)).trans (s1 e'))
    · exact (ns ((d.1 _ _).symm.trans e)).elim
/-- compared with itself -/
theorem eq_self (fn : ∀ a o o', Φ a o → Φ a o' → o = o') : ∀ (n : Nat) {v : Value} {a a' : D} {c : Bool}, Rep prog w Φ v a → Rep prog w Φ v a' → eqD n a a' = some c → c = true
  | 0, _, _, _, _, _, _, e => nomatch e
  | n + 1, v, a, a', c, ra, ra', e => by
    rcases rep_same fn ra ra' with ⟨rfl, q⟩ | ⟨vs, l, k, rfl, rfl, r, r'⟩ | ⟨vs, l, k, rfl, rfl, r, r'⟩ | ⟨d, _⟩
    · exact q _ _ e
    · have ll := r.length.symm.trans r'.length
      refine bo1 (x := eqLs (eqD n) l k) e fun c1 h1 e => ?_
      rw [ll, if_pos (Nat.beq_refl _)] at e
      obtain rfl := s1 e
      obtain ⟨d1, i1⟩ := eqLs_at h1
      refine i1.mpr fun j u y hu hy => ?_
      obtain ⟨vj, hv, q⟩ := r.get hu
      obtain ⟨y', hy', q'⟩ := r'.at hv
      obtain rfl := s1 (hy.symm.trans hy')
      obtain ⟨b, hb⟩ := d1 j u y hu hy
      rw [hb, eq_self fn n q q' hb]
    · refine bi (show (if k.isEmpty = true then some l.isEmpty else .none) = some c from e) fun hn e => ?_
      exact (s1 e).symm.trans ((isEmpty_len (r.length.symm.trans r'.length)).trans hn)
    · exact (ns ((d.1 _ _).symm.trans e)).elim
end
end Mine

set_option Elab.async false
set_option maxRecDepth 100000
namespace Mine
open PySem PySem.W PyProof.Rows PySem.Calls PySem.SeqAt

section
variable {prog : Program} {w : World} {Φ : Facts} {s : Shared}
theorem seq_beq (a b : Str) : seq a b = (a == b) := by
  rw [Bool.eq_iff_iff, seq_iff, beq_iff_eq]
theorem rep_isList {a : Addr} {vs : List Value} {n : Nat} (h : s.heap.get? a = some (lstObj vs n)) : s.heap.IsList a vs.toArray := ⟨_, h, rfl, n, rfl⟩
theorem rep_isTuple {a : Addr} {vs : List Value} {n : Nat} (h : s.heap.get? a = some (tupObj vs n)) : s.heap.IsTuple a vs.toArray := ⟨_, h, rfl, n, rfl⟩
theorem rep_isTup {a : Addr} {vs : List Value} {n : Nat} (h : s.heap.get? a = some (tupObj vs n)) : IsTup s.heap a vs.toArray := ⟨_, h, rfl, n, rfl⟩

theorem tup_rc {n : Nat} {A : Around} {a b : Addr} {vs us : List Value} {m k : Nat} {l r : List D} {c : Bool}
    (IH : ∀ {u v : Value} {x y : D} {c : Bool}, eqD n x y = some c → Rep prog w Φ u x → Rep prog w Φ v y → EqAt A.in1 s u v c)
    (pa : s.heap.get? a = some (tupObj vs m)) (pb : s.heap.get? b = some (tupObj us k)) (ra : Reps prog w Φ vs l) (rb : Reps prog w Φ us r) (h : eqLs (eqD n) l r = some c) (hu : A.units < cLine) :
    RcAt A s (.ref a) (.ref b) (if Nat.beq l.length r.length then c else false) := by
  obtain ⟨d1, i1⟩ := eqLs_at h
  have la := ra.length
  have lb := rb.length
  have T := RcAt.tuples (A := A) (e := fun j => match l[j]?, r[j]? with
    | some x, some y => (eqD n x y).getD false
    | _, _ => false) (rep_isTuple pa) (rep_isTuple pb) hu (fun j h1 h2 => by
      simp only [List.size_toArray] at h1 h2
      obtain ⟨x, hx, rx⟩ := ra.at (List.getElem?_eq_getElem h1)
      obtain ⟨y, hy, ry⟩ := rb.at (List.getElem?_eq_getElem h2)
      obtain ⟨p, hp⟩ := d1 j x y hx hy
      simp only [hx, hy, hp, Option.getD_some, List.getElem_toArray]
      exact IH hp rx ry)
  refine cast (congrArg (RcAt A s _ _) ?_) T
  simp only [List.size_toArray, la, lb]
  by_cases hl : l.length = r.length
  · rw [if_pos (by rw [hl]; exact Nat.beq_refl _), hl, Nat.min_self, beq_self_eq_true, Bool.and_true]
    refine Bool.eq_iff_iff.mpr (Iff.trans ?_ i1.symm)
    rw [List.all_eq_true]
    constructor
    · intro q j x y hx hy
      have hj : j < r.length := (List.getElem?_eq_some_iff.mp hy).1
      have := q j (List.mem_range.mpr hj)
      simp only [hx, hy] at this
      obtain ⟨p, hp⟩ := d1 j x y hx hy
      rw [hp] at this ⊢
      simpa using this
    · intro q j hj
      have hj := List.mem_range.mp hj
      have hx : l[j]? = some l[j] := List.getElem?_eq_getElem (by omega)
      have hy : r[j]? = some r[j] := List.getElem?_eq_getElem hj
      simp only [hx, hy, q j _ _ hx hy, Option.getD_some]
  · rw [if_neg (fun e => hl (Nat.eq_of_beq_eq_true e)), beq_eq_false_iff_ne.mpr hl, Bool.and_false]
theorem rep_eq (fn : ∀ a o o', Φ a o → Φ a o' → o = o') (hΦ : ∀ a o, Φ a o → s.heap.get? a = some o) : ∀ (n : Nat) {A : Around} {a b : D} {u v : Value} {c : Bool}, eqD n a b = some c → Rep prog w Φ u a → Rep prog w Φ v b → A.units + n < cLine →
    RcAt A s u v c ∧ EqAt A s u v c
  | 0, _, _, _, _, _, _, e, _, _, _ => nomatch e
  | n + 1, A, a, b, u, v, c, e, ru, rv, hu => by
    have refs : ∀ {x y : Addr}, u = .ref x → v = .ref y → RcAt A s (.ref x) (.ref y) c → RcAt A s u v c ∧ EqAt A s u v c := by
      rintro x y rfl rfl h
      refine ⟨h, ?_⟩
      by_cases q : x = y
      · subst q
        rw [eq_self fn (n + 1) ru rv e]
        exact EqAt.same _
      · exact EqAt.of_refs q h
    cases a with
    | none =>
      refine bi e fun hb e => ?_
      rw [isNone_is hb] at rv
      rw [ru.none_inv, rv.none_inv, ← s1 e]
      exact ⟨RcAt.none_none, EqAt.same _⟩
    | int i =>
      refine bo1 e fun y hy e => ?_
      rw [asInt_some hy] at rv
      obtain ⟨t, rfl⟩ := ru.int_inv
      obtain ⟨t', rfl⟩ := rv.int_inv
      rw [← s1 e]
      exact ⟨RcAt.int_int _ _ _ _, EqAt.int_int _ _ _ _⟩
    | str x =>
      refine bo1 e fun y hy e => ?_
      rw [asStr_some hy] at rv
      obtain ⟨t, rfl⟩ := ru.str_inv
      obtain ⟨t', rfl⟩ := rv.str_inv
      rw [← s1 e, seq_beq]
      exact ⟨RcAt.str_str _ _ _ _, EqAt.str_str _ _ _ _⟩
    | bytes l =>
      refine bo1 e fun y hy e => ?_
      rw [asBytes_some hy] at rv
      obtain ⟨t, rfl⟩ := ru.bytes_inv
      obtain ⟨t', rfl⟩ := rv.bytes_inv
      rw [← s1 e]
      exact ⟨fun prog w E Q h => rc_bytes h, fun prog w E Q h => eqBool_bytes h⟩
    | list l =>
      refine bo1 e fun y hy e' => bi e' fun hn e' => ?_
      obtain rfl := List.isEmpty_iff.mp hn
      rw [asList_some hy] at rv
      obtain ⟨p1, vs, m, e1, p, r⟩ := ru.list_inv
      obtain ⟨p2, us, m', e2, p', r'⟩ := rv.list_inv
      refine refs e1 e2 ?_
      rw [r'.nil_inv] at p'
      rw [← s1 e', ← isEmpty_len r.length]
      cases vs with
      | nil => exact RcAt.lists (e := fun zz=> true) (rep_isList (hΦ _ _ p)) (rep_isList (hΦ _ _ p')) rfl (by omega) fun j h1 => absurd h1 (Nat.not_lt_zero _)
      | cons _ _ => exact RcAt.lists_lengths (rep_isList (hΦ _ _ p)) (rep_isList (hΦ _ _ p')) (by simp) (by omega)
    | tup l =>
      refine bo1 e fun y hy e' => bo1 e' fun c1 h1 e' => ?_
      rw [asTup_some hy] at rv
      obtain ⟨p1, vs, m, e1, p, r⟩ := ru.tup_inv
      obtain ⟨p2, us, m', e2, p', r'⟩ := rv.tup_inv
      refine refs e1 e2 ?_
      rw [← s1 e']
      exact tup_rc (fun hp rx ry => (rep_eq fn hΦ n hp rx ry (by rw [units_in1]; omega)).2) (hΦ _ _ p) (hΦ _ _ p') r r' h1 (by omega)
    | _ => exact (ns e).elim
end
end Mine

set_option Elab.async false
set_option maxRecDepth 100000
namespace Mine
open PySem PySem.W PyProof.Rows PySem.Calls

section
variable {prog : Program} {w : World} {Φ : Facts} {h : Heap}
section
variable {T : Type} [DecidableEq T] {em : T → D}
theorem stored_hit (k : T) (v0 v : Value) (r : List (T × Value)) (hn : k ∉ r.map (·.1)) : stored ((k, v0) :: r) k v = (k, v) :: r := by
  unfold stored
  rw [if_pos (by simp)]
  rw [List.map_cons, if_pos rfl, map_store_of_not_mem r k v hn]
theorem stored_miss {k kk : T} (v0 v : Value) (r : List (T × Value)) (hn : k ≠ kk) : stored ((k, v0) :: r) kk v = (k, v0) :: stored r kk v := by
  unfold stored
  simp only [List.any_cons, decide_eq_false hn, Bool.false_or, List.map_cons, if_neg hn]
  split <;> rfl
theorem getK (hem : ∀ a b, keyEq (em a) (em b) = some (decide (a = b))) {kk : T} : ∀ {kvs : List (T × Value)} {l : List (D × D)} {r : Option D}, RepK prog w Φ (kvs.map fun p => (em p.1, p.2)) l → dget l (em kk) = some r →
    (match r with
      | .none => valueAt kvs kk = none
      | some d => ∃ v, valueAt kvs kk = some v ∧ Rep prog w Φ v d)
  | [], l, r, q, e => by
    cases q
    rw [dget, hem] at e
    rw [← s1 (show some .none = some r from e)]
    rfl
  | (k, v0) :: kvs, l, r, q, e => by
    cases q with
    | cons h q =>
      rw [dget, hem] at e
      have e : (if decide (k = kk) = true then _ else _) = some r := e
      by_cases hk : k = kk
      · rw [decide_eq_true hk] at e
        rw [← s1 (show some (some _) = some r from e)]
        exact ⟨v0, by simp [valueAt, hk], h⟩
      · rw [decide_eq_false hk] at e
        have := getK hem q e
        have ev : valueAt ((k, v0) :: kvs) kk = valueAt kvs kk := by simp [valueAt, hk]
        rw [ev]; exact this
theorem putK (hem : ∀ a b, keyEq (em a) (em b) = some (decide (a = b))) {kk : T} {v : Value} {d : D} (rv : Rep prog w Φ v d) : ∀ {kvs : List (T × Value)} {l l' : List (D × D)}, (kvs.map (·.1)).Nodup → RepK prog w Φ (kvs.map fun p => (em p.1, p.2)) l → dput l (em kk) d = some l' →
    RepK prog w Φ ((stored kvs kk v).map fun p => (em p.1, p.2)) l'
  | [], l, l', _, q, e => by
    cases q
    rw [dput, hem] at e
    rw [← s1 (show some [(em kk, d)] = some l' from e)]
    exact .cons rv .nil
  | (k, v0) :: kvs, l, l', hn, q, e => by
    rw [List.map_cons, List.nodup_cons] at hn
    cases q with
    | cons h q =>
      rw [dput, hem] at e
      have e : (if decide (k = kk) = true then _ else _) = some l' := e
      by_cases hk : k = kk
      · subst hk
        rw [decide_eq_true rfl] at e
        rw [← s1 (show some (_ :: _) = some l' from e)]
        rw [stored_hit k v0 v kvs hn.1]
        exact .cons rv q
      · rw [decide_eq_false hk] at e
        rw [stored_miss v0 v kvs hk]
        refine bo1 e fun l2 h2 e => ?_
        rw [← s1 e]
        exact .cons h (putK hem rv hn.2 q h2)
end
theorem em_int (a b : Int) : keyEq (D.int a) (D.int b) = some (decide (a = b)) := rfl
theorem em_str (a b : Str) : keyEq (D.str a) (D.str b) = some (decide (a = b)) := by
  show some (seq a b) = _
  congr 1
  rw [Bool.eq_iff_iff, seq_iff, decide_eq_true_eq]
theorem em_bytes (a b : List UInt8) : keyEq (D.bytes a) (D.bytes b) = some (decide (a = b)) := by
  show some (bytesEq a b) = _
  congr 1
  rw [Bool.eq_iff_iff, bytesEq_iff, decide_eq_true_eq]
theorem dictNil {T U : Type} [DecidableEq T] [DecidableEq U] {knd : KeyKind prog w T} {knd' : KeyKind prog w U} {o : Obj} (x : o.IsDictOf knd []) : o.IsDictOf knd' [] := by
  obtain ⟨es, ep, h1, h2, h3, h4, h5⟩ := x
  have z : es.toList = [] := by cases h : es.toList with
    | nil => rfl
    | cons a b => rw [h] at h4; cases h4
  refine ⟨es, ep, h1, h2, fun e he => ?_, by rw [z]; exact .nil, List.nodup_nil⟩
  have := Array.mem_toList_iff.mpr he
  rw [z] at this; cases this

/-- a dict and a key, in the library's words -/
structure KeyAt (prog : Program) (w : World) (Φ : Facts) (o : Obj) (u : Value) (l : List (D × D)) (k : D) (T : Type) [DecidableEq T] (knd : KeyKind prog w T) (kk : T) (kvs : List (T × Value)) : Prop where
  is : knd.is kk u = true
  dict : o.IsDictOf knd kvs
  len : kvs.length = l.length
  get : ∀ r, dget l k = some r → (match r with
      | .none => valueAt kvs kk = none
      | some d => ∃ v, valueAt kvs kk = some v ∧ Rep prog w Φ v d)
  put : ∀ o' v d l', dput l k d = some l' → Rep prog w Φ v d → o'.IsDictOf knd (stored kvs kk v) → RepO prog w Φ o' l'
theorem RepK.length : ∀ {vs : List (D × Value)} {l : List (D × D)}, RepK prog w Φ vs l → vs.length = l.length
  | _, _, .nil => rfl
  | _, _, .cons _ r => by simp [RepK.length r]
theorem RepO.len {o : Obj} {l : List (D × D)} (h : RepO prog w Φ o l) (e : l ≠ []) : True := trivial
theorem keyAt_int {o : Obj} {l : List (D × D)} {i : Int} {t : Tok} {kvs : List (Int × Value)} (x : o.IsDictOf (intKind prog w) kvs) (q : RepK prog w Φ (kvs.map fun p => (D.int p.1, p.2)) l) : KeyAt prog w Φ o (.int i t) l (.int i) Int (intKind prog w) i kvs :=
  ⟨intKind_is prog w i t, x, by simpa using q.length, fun r e => getK em_int q e, fun o' v d l' e rv y => .ik y (putK em_int rv (let ⟨_, _, _, _, _, _, h⟩ := x; h) q e)⟩
theorem keyAt_str {o : Obj} {l : List (D × D)} {i : Str} {t : Tok} {kvs : List (Str × Value)} (x : o.IsDictOf (strKind prog w) kvs) (q : RepK prog w Φ (kvs.map fun p => (D.str p.1, p.2)) l) : KeyAt prog w Φ o (.str i t) l (.str i) Str (strKind prog w) i kvs :=
  ⟨strKind_is prog w i t, x, by simpa using q.length, fun r e => getK em_str q e, fun o' v d l' e rv y => .sk y (putK em_str rv (let ⟨_, _, _, _, _, _, h⟩ := x; h) q e)⟩
theorem keyAt_bytes {o : Obj} {l : List (D × D)} {i : List UInt8} {t : Tok} {kvs : List (List UInt8 × Value)} (x : o.IsDictOf (bytesKind prog w) kvs) (q : RepK prog w Φ (kvs.map fun p => (D.bytes p.1, p.2)) l) : KeyAt prog w Φ o (.bytes i.toArray t) l (.bytes i) (List UInt8) (bytesKind prog w) i kvs :=
  ⟨by simp [bytesKind, isBytesOf, bytesEq_iff], x, by simpa using q.length, fun r e => getK em_bytes q e, fun o' v d l' e rv y => .bk y (putK em_bytes rv (let ⟨_, _, _, _, _, _, h⟩ := x; h) q e)⟩
/-- a key that the dict's keys can be compared with -/
noncomputable def keyFits : List (D × D) → D → Bool
  | [], k => (keyEq k k).isSome
  | (k', _) :: _, k => (keyEq k' k).isSome
theorem some_isSome {α : Type} {x : Option α} {a : α} (e : x = some a) : x.isSome = true := by rw [e]; rfl
theorem dget_fits {l : List (D × D)} {k : D} {r : Option D} (e : dget l k = some r) : keyFits l k = true := by
  cases l with
  | nil => exact bo1 e fun b h zz=> some_isSome h
  | cons p l => exact bo1 e fun b h zz=> some_isSome h
theorem dput_fits {l l' : List (D × D)} {k d : D} (e : dput l k d = some l') : keyFits l k = true := by
  cases l with
  | nil => exact bo1 e fun b h zz=> some_isSome h
  | cons p l => exact bo1 e fun b h zz=> some_isSome h
theorem keyNil {o : Obj} {u : Value} {k : D} (x : ∀ {T : Type} [DecidableEq T] (knd : KeyKind prog w T), o.IsDictOf knd []) (rk : Rep prog w Φ u k) (e : keyFits [] k = true) :
    ∃ (T : Type) (_ : DecidableEq T) (knd : KeyKind prog w T) (kk : T) (kvs : List (T × Value)), KeyAt prog w Φ o u [] k T knd kk kvs := by
  cases k with
  | int i =>
    obtain ⟨t, rfl⟩ := rk.int_inv
    exact ⟨_, _, _, _, _, keyAt_int (kvs := []) (x _) .nil⟩
  | str i =>
    obtain ⟨t, rfl⟩ := rk.str_inv
    exact ⟨_, _, _, _, _, keyAt_str (kvs := []) (x _) .nil⟩
  | bytes i =>
    obtain ⟨t, rfl⟩ := rk.bytes_inv
    exact ⟨_, _, _, _, _, keyAt_bytes (kvs := []) (x _) .nil⟩
  | _ => exact absurd e Bool.false_ne_true
theorem o1_isSome {α β : Type} {x : Option α} {f : α → Option β} (e : (o1 x f).isSome = true) : ∃ a, x = some a := by
  cases x with
  | none => exact absurd e Bool.false_ne_true
  | some a => exact ⟨a, rfl⟩
theorem keyAt_of {o : Obj} {l : List (D × D)} {u : Value} {k : D} (ro : RepO prog w Φ o l) (rk : Rep prog w Φ u k) (e : keyFits l k = true) :
    ∃ (T : Type) (_ : DecidableEq T) (knd : KeyKind prog w T) (kk : T) (kvs : List (T × Value)), KeyAt prog w Φ o u l k T knd kk kvs := by
  cases ro with
  | @ik _ kvs _ x q =>
    cases kvs with
    | nil => cases q; exact keyNil (fun zz=> dictNil x) rk e
    | cons p kvs =>
      obtain ⟨v, r, q1, q2⟩ : ∃ v r, l = (.int p.1, v) :: r ∧ True := by cases q; exact ⟨_, _, rfl, trivial⟩
      rw [q1] at e
      obtain ⟨y, hy⟩ := o1_isSome e
      rw [asInt_some hy] at rk ⊢
      obtain ⟨t, rfl⟩ := rk.int_inv
      exact ⟨_, _, _, _, _, keyAt_int x q⟩
  | @sk _ kvs _ x q =>
    cases kvs with
    | nil => cases q; exact keyNil (fun zz=> dictNil x) rk e
    | cons p kvs =>
      obtain ⟨v, r, q1, q2⟩ : ∃ v r, l = (.str p.1, v) :: r ∧ True := by cases q; exact ⟨_, _, rfl, trivial⟩
      rw [q1] at e
      obtain ⟨y, hy⟩ := o1_isSome e
      rw [asStr_some hy] at rk ⊢
      obtain ⟨t, rfl⟩ := rk.str_inv
      exact ⟨_, _, _, _, _, keyAt_str x q⟩
  | @bk _ kvs _ x q =>
    cases kvs with
    | nil => cases q; exact keyNil (fun zz=> dictNil x) rk e
    | cons p kvs =>
      obtain ⟨v, r, q1, q2⟩ : ∃ v r, l = (.bytes p.1, v) :: r ∧ True := by cases q; exact ⟨_, _, rfl, trivial⟩
      rw [q1] at e
      obtain ⟨y, hy⟩ := o1_isSome e
      rw [asBytes_some hy] at rk ⊢
      obtain ⟨t, rfl⟩ := rk.bytes_inv
      exact ⟨_, _, _, _, _, keyAt_bytes x q⟩
end
end Mine

set_option Elab.async false
set_option maxRecDepth 100000
namespace Mine
open PySem PySem.W PyProof.Rows PySem.Calls PySem.SeqAt

section
variable {prog : Program} {w : World} {h₀ : Base} {h h' : Heap} {K : Frag} {g : Gt} {o : Orc} {n : Nat} {Ψ Φ Φ' : Facts} {pe : PySem.Env} {V : Str → Option Value} {env : MEnv} {A : Around} {s : Shared}

/-- what the facts say of one heap -/
structure Sat (Φ : Facts) (h : Heap) : Prop where
  at_ : ∀ a o, Φ a o → h.get? a = some o
theorem Sat.fn {Φ : Facts} (x : Sat Φ h) : ∀ a o o', Φ a o → Φ a o' → o = o' := fun a o o' p q => Option.some.inj ((x.at_ a o p).symm.trans (x.at_ a o' q))
theorem Inv.sat (I : Inv prog w h₀ Ψ Φ h pe V env) : Sat Φ h := ⟨I.phi⟩
theorem fit63 {m : Nat} (e : fitN m = true) : (m : Int) < 2 ^ 63 := by have := fitN_le e; omega

theorem RepO.kind {o : Obj} {l : List (D × D)} (r : RepO prog w Φ o l) : ∃ (T : Type) (_ : DecidableEq T) (knd : KeyKind prog w T) (kvs : List (T × Value)), o.IsDictOf knd kvs ∧ kvs.length = l.length := by
  cases r with
  | ik x z => exact ⟨_, _, _, _, x, List.length_map (as := _) _ ▸ z.length⟩
  | sk x z => exact ⟨_, _, _, _, x, List.length_map (as := _) _ ▸ z.length⟩
  | bk x z => exact ⟨_, _, _, _, x, List.length_map (as := _) _ ▸ z.length⟩
theorem size_empty {l : List D} {vs : List Value} (e : vs.length = l.length) : vs.toArray.isEmpty = l.isEmpty := by rw [← isEmpty_len e]; exact List.isEmpty_toArray _
theorem truthy_any {d : D} {v : Value} {b : Bool} {Q : Bool → Shared → Prop} {E : Value → Shared → Prop} (e : truthyD d = some b) (S : Sat Φ s.heap) (r : Rep prog w Φ v d) (k : ∀ tk, Q b { s with toks := tk }) : wpAny (model prog w) A (truthy v) Q E s := by
  cases d with
  | none => rw [r.none_inv]; exact truthy_none (s1 e ▸ k s.toks)
  | bool i => rw [r.bool_inv]; exact wpAny_truthy_bool (s1 e ▸ k s.toks)
  | int i => obtain ⟨t, rfl⟩ := r.int_inv; exact PyProof.Rows.truthy_int (s1 e ▸ k s.toks)
  | str x =>
    refine bi e fun hf e => ?_
    obtain ⟨t, rfl⟩ := r.str_inv
    have := fit63 hf
    refine PySem.P.truthy_str (by omega) ?_
    have e' : ((x.length : Int) != 0) = (x.length != 0) := by
      rw [Bool.eq_iff_iff]; simp
    rw [e', s1 e]
    exact k _
  | tup l =>
    refine bi e fun hf e => ?_
    obtain ⟨a, vs, n, rfl, p, q⟩ := r.tup_inv
    refine truthy_tuple (rep_isTup (S.at_ _ _ p)) (by rw [List.size_toArray, q.length]; exact fit63 hf) ?_
    rw [size_empty q.length, s1 e]
    exact k _
  | list l =>
    refine bi e fun hf e => ?_
    obtain ⟨a, vs, n, rfl, p, q⟩ := r.list_inv
    refine wpAny_truthy_list (rep_isList (S.at_ _ _ p)) (by rw [List.size_toArray, q.length]; exact fit63 hf) ?_
    rw [size_empty q.length, s1 e]
    exact k _
  | dict l =>
    refine bi e fun hf e => ?_
    obtain ⟨a, o, rfl, p, ne, q⟩ := r.dict_inv
    obtain ⟨T, _, knd, kvs, x, hl⟩ := q.kind
    refine wpAny_truthy_dict (beq_eq_false_iff_ne.mpr ne) (Heap.dictOf_iff.mpr ⟨_, S.at_ _ _ p, x⟩) (by rw [hl]; exact fit63 hf) ?_
    rw [isEmpty_len hl, s1 e]
    exact k _
  | _ => exact (ns e).elim
theorem inL_some {x : D} : ∀ {l : List D} {c : Bool}, inL x l = some c → (∀ y ∈ l, ∃ p, eqD 60 y x = some p) ∧ (c = true ↔ ∃ y ∈ l, eqD 60 y x = some true)
  | [], c, e => s1 e ▸ ⟨fun y h => (nomatch h), fun h => (nomatch h), fun ⟨y, h, _⟩ => (nomatch h)⟩
  | a :: l, c, e => by
    refine bo1 e fun p hp e => bo1 e fun q hq e => ?_
    obtain ⟨h1, h2⟩ := inL_some hq
    rw [← s1 e]
    refine ⟨fun y hy => ?_, ?_⟩
    · rcases List.mem_cons.mp hy with rfl | hy
      · exact ⟨p, hp⟩
      · exact h1 y hy
    · cases p with
      | true => exact ⟨fun zz=> ⟨a, .head _, hp⟩, fun zz=> rfl⟩
      | false =>
        refine h2.trans ⟨fun ⟨y, hy, q⟩ => ⟨y, .tail _ hy, q⟩, fun ⟨y, hy, q⟩ => ?_⟩
        rcases List.mem_cons.mp hy with rfl | hy
        · exact absurd (s1 (hp.symm.trans q)) Bool.false_ne_true
        · exact ⟨y, hy, q⟩
theorem Reps.mem : ∀ {vs : List Value} {l : List D}, Reps prog w Φ vs l → (∀ v ∈ vs, ∃ d ∈ l, Rep prog w Φ v d) ∧ ∀ d ∈ l, ∃ v ∈ vs, Rep prog w Φ v d
  | _, _, .nil => ⟨fun zz h=> (nomatch h), fun zz h=> (nomatch h)⟩
  | _, _, .cons h r => by
    obtain ⟨a, b⟩ := Reps.mem r
    refine ⟨fun v hv => ?_, fun d hd => ?_⟩
    · rcases List.mem_cons.mp hv with rfl | hv
      · exact ⟨_, .head _, h⟩
      · obtain ⟨d, hd, q⟩ := a v hv; exact ⟨d, .tail _ hd, q⟩
    · rcases List.mem_cons.mp hd with rfl | hd
      · exact ⟨_, .head _, h⟩
      · obtain ⟨v, hv, q⟩ := b d hd; exact ⟨v, .tail _ hv, q⟩
open Classical in
/-- the test of membership, value by value -/
theorem in_tests {vs : List Value} {l : List D} {x : D} {u : Value} {c : Bool} (S : Sat Φ s.heap) (r : Reps prog w Φ vs l) (rx : Rep prog w Φ u x) (e : inL x l = some c) (hu : A.units + 61 < cLine) :
    ∃ f : Value → Bool, (∀ y, y ∈ vs.toArray → EqAt A.in1 s y u (f y)) ∧ vs.toArray.any f = c := by
  obtain ⟨h1, h2⟩ := inL_some e
  obtain ⟨m1, m2⟩ := r.mem
  refine ⟨fun y => decide (∃ d ∈ l, Rep prog w Φ y d ∧ eqD 60 d x = some true), fun y hy => ?_, ?_⟩
  · have hy : y ∈ vs := by simpa using hy
    obtain ⟨d, hd, q⟩ := m1 y hy
    obtain ⟨p, hp⟩ := h1 d hd
    have E := (rep_eq S.fn S.at_ 60 (A := A.in1) hp q rx (by rw [units_in1]; omega)).2
    have : decide (∃ d ∈ l, Rep prog w Φ y d ∧ eqD 60 d x = some true) = p := by
      cases p with
      | true => exact decide_eq_true ⟨d, hd, q, hp⟩
      | false =>
        refine decide_eq_false fun ⟨d', _, q', hp'⟩ => ?_
        have := eq_agree S.fn 60 q q' hp hp'
        cases this
    show EqAt A.in1 s y u (decide (∃ d ∈ l, Rep prog w Φ y d ∧ eqD 60 d x = some true))
    rw [this]; exact E
  · rw [Bool.eq_iff_iff, h2, Array.any_eq_true']
    constructor
    · rintro ⟨y, _, q⟩
      obtain ⟨d, hd, _, hp⟩ := of_decide_eq_true q
      exact ⟨d, hd, hp⟩
    · rintro ⟨d, hd, hp⟩
      obtain ⟨v, hv, q⟩ := m2 d hd
      exact ⟨v, by simpa using hv, decide_eq_true ⟨d, hd, q, hp⟩⟩

theorem dictOf_at {T : Type} [DecidableEq T] {knd : KeyKind prog w T} {a : Addr} {ob : Obj} {kvs : List (T × Value)} (S : Sat Φ h) (p : Φ a ob) (x : ob.IsDictOf knd kvs) : h.DictOf knd a kvs := Heap.dictOf_iff.mpr ⟨_, S.at_ _ _ p, x⟩
theorem ne_list {l : List D} {u v : Value} {c : Bool} (S : Sat Φ s.heap) (ra : Rep prog w Φ u (.list l)) (rb : Rep prog w Φ v (.list [])) (e : (!l.isEmpty) = c) (hu : A.units + 61 < cLine) : RcNeAt A s u v c := by
  obtain ⟨a, vs, n, rfl, p, r⟩ := ra.list_inv
  obtain ⟨b, us, m, rfl, p', r'⟩ := rb.list_inv
  rw [r'.nil_inv] at p'
  rw [← e, ← isEmpty_len r.length]
  cases vs with
  | nil => exact RcNeAt.lists (e := fun zz=> true) (rep_isList (S.at_ _ _ p)) (rep_isList (S.at_ _ _ p')) rfl (by omega) fun j h1 => absurd h1 (Nat.not_lt_zero _)
  | cons _ _ => exact RcNeAt.lists_lengths (rep_isList (S.at_ _ _ p)) (rep_isList (S.at_ _ _ p')) (by simp) (by omega)
theorem RepO.nilAny {o : Obj} (r : RepO prog w Φ o []) {T : Type} [DecidableEq T] (knd : KeyKind prog w T) : o.IsDictOf knd [] := by
  obtain ⟨U, _, knd', kvs, x, hl⟩ := r.kind
  obtain rfl := List.length_eq_zero_iff.mp hl
  exact dictNil x
theorem ne_dict {a a' : Addr} {ob ob' : Obj} {l : List (D × D)} {Q : Value → Shared → Prop} {E : Value → Shared → Prop} (S : Sat Φ s.heap) (p : Φ a ob) (ne : a ≠ sysModules) (q : RepO prog w Φ ob l)
    (p' : Φ a' ob') (ne' : a' ≠ sysModules) (q' : RepO prog w Φ ob' []) (hu : A.units < cLine) (k : ∀ tk, Q (.bool (!l.isEmpty)) { s with toks := tk }) :
    wpAny (model prog w) A (compareOp .NotEq (.ref a) (.ref a')) Q E s := by
  obtain ⟨T, _, knd, kvs, x, hl⟩ := q.kind
  refine keq_ne (r := true) (beq_eq_false_iff_ne.mpr ne) (beq_eq_false_iff_ne.mpr ne') (dictOf_at S p x) (dictOf_at S p' (q'.nilAny knd)) hu (fun h => ?_) ?_
  · cases kvs with
    | nil => exact .nil
    | cons _ _ => cases h
  · have : (kvs.length == ([] : List (T × Value)).length && true) = l.isEmpty := by
      rw [hl]; cases l <;> rfl
    rw [this]; exact k s.toks

theorem ne_any {a b : D} {u v : Value} {c : Bool} {Q : Value → Shared → Prop} {E : Value → Shared → Prop} (e : neD a b = some c) (S : Sat Φ s.heap) (ra : Rep prog w Φ u a) (rb : Rep prog w Φ v b) (hu : A.units + 61 < cLine)
    (k : ∀ tk, Q (.bool c) { s with toks := tk }) : wpAny (model prog w) A (compareOp .NotEq u v) Q E s := by
  cases a with
  | dict l =>
    refine bo1 e fun y hy e => bi e fun hn e => ?_
    obtain rfl := List.isEmpty_iff.mp hn
    rw [asDict_some hy] at rb
    obtain ⟨a, o, rfl, p, ne, q⟩ := ra.dict_inv
    obtain ⟨a', o', rfl, p', ne', q'⟩ := rb.dict_inv
    exact ne_dict S p ne q p' ne' q' (by omega) (s1 e ▸ k)
  | list l =>
    refine bo1 e fun y hy e => bi e fun hn e => ?_
    obtain rfl := List.isEmpty_iff.mp hn
    rw [asList_some hy] at rb
    exact ne_list S ra rb (s1 e) hu prog w E Q (k s.toks)
  | int i =>
    refine bo1 e fun y hy e => ?_
    rw [asInt_some hy] at rb
    obtain ⟨t, rfl⟩ := ra.int_inv
    obtain ⟨t', rfl⟩ := rb.int_inv
    exact PyProof.Rows.ne_int (s1 e ▸ k s.toks)
  | str i =>
    refine bo1 e fun y hy e => ?_
    rw [asStr_some hy] at rb
    obtain ⟨t, rfl⟩ := ra.str_inv
    obtain ⟨t', rfl⟩ := rb.str_inv
    exact PyProof.Rows.ne_str (by rw [bne, ← seq_beq, s1 e]; exact k s.toks)
  | _ => exact (ns e).elim
/-- x in c and x not in c -/
theorem in_any {a b : D} {u v : Value} {c : Bool} {E : Value → Shared → Prop} (e : inD a b = some c) (S : Sat Φ s.heap) (ra : Rep prog w Φ u a) (rb : Rep prog w Φ v b) (hu : A.units + 61 < cLine) :
    (∀ {Q : Value → Shared → Prop}, (∀ tk, Q (.bool c) { s with toks := tk }) → wpAny (model prog w) A (compareOp .In u v) Q E s) ∧
    (∀ {Q : Value → Shared → Prop}, (∀ tk, Q (.bool !c) { s with toks := tk }) → wpAny (model prog w) A (compareOp .NotIn u v) Q E s) := by
  cases b with
  | tup l =>
    obtain ⟨b, vs, n, rfl, p, r⟩ := rb.tup_inv
    obtain ⟨f, h1, h2⟩ := in_tests (A := A) S r ra e hu
    exact ⟨fun k => in_tupleAt f (rep_isTuple (S.at_ _ _ p)) h1 (by rw [h2]; exact k s.toks), fun k => notIn_tupleAt f (rep_isTuple (S.at_ _ _ p)) h1 (by rw [h2]; exact k s.toks)⟩
  | list l =>
    obtain ⟨b, vs, n, rfl, p, r⟩ := rb.list_inv
    obtain ⟨f, h1, h2⟩ := in_tests (A := A) S r ra e hu
    exact ⟨fun k => in_listAt f (rep_isList (S.at_ _ _ p)) h1 (by rw [h2]; exact k s.toks), fun k => notIn_listAt f (rep_isList (S.at_ _ _ p)) h1 (by rw [h2]; exact k s.toks)⟩
  | dict l =>
    obtain ⟨b, ob, rfl, p, ne, q⟩ := rb.dict_inv
    refine bo1 e fun r hd e => ?_
    obtain ⟨T, _, knd, kk, kvs, X⟩ := keyAt_of q ra (dget_fits hd)
    have hv : (valueAt kvs kk).isSome = c := by
      have hv := X.get _ hd
      rw [← s1 e]
      cases r with
      | none => rw [show valueAt kvs kk = none from hv]; rfl
      | some d => obtain ⟨v', hv, _⟩ := hv; rw [hv]; rfl
    exact ⟨fun k => wpAny_in_of X.is (beq_eq_false_iff_ne.mpr ne) (dictOf_at S p X.dict).mapOf (by rw [hv]; exact k _), fun k => wpAny_notIn_of X.is (beq_eq_false_iff_ne.mpr ne) (dictOf_at S p X.dict).mapOf (by rw [hv]; exact k _)⟩
  | _ => exact (ns e).elim
theorem ints_any {P : Value → Value → Prop} {f : Int → Int → Bool} {a b : D} {u v : Value} {c : Bool} (e : ints2 f a b = some c) (ra : Rep prog w Φ u a) (rb : Rep prog w Φ v b) (k : ∀ x y t t', f x y = c → P (.int x t) (.int y t')) : P u v := by
  refine bo1 e fun x hx e => bo1 e fun y hy e => ?_
  rw [asInt_some hx] at ra
  rw [asInt_some hy] at rb
  obtain ⟨t, rfl⟩ := ra.int_inv
  obtain ⟨t', rfl⟩ := rb.int_inv
  exact k _ _ _ _ (s1 e)
theorem isNone_rep {u : Value} {a : D} (ra : Rep prog w Φ u a) : (u == Value.none) = isNone a := by cases ra <;> rfl
theorem cmp_any {op : CmpOp} {a b : D} {u v : Value} {c : Bool} {Q : Value → Shared → Prop} {E : Value → Shared → Prop} (e : cmpD op a b = some c) (S : Sat Φ s.heap) (ra : Rep prog w Φ u a) (rb : Rep prog w Φ v b) (hu : A.units + 61 < cLine)
    (k : ∀ tk, Q (.bool c) { s with toks := tk }) : wpAny (model prog w) A (compareOp op u v) Q E s := by
  cases op with
  | Eq => exact (rep_eq S.fn S.at_ 60 e ra rb (by omega)).1 prog w E Q (k s.toks)
  | NotEq => exact ne_any e S ra rb hu k
  | Lt => exact ints_any (P := fun u v => wpAny (model prog w) A (compareOp .Lt u v) Q E s) e ra rb fun x y t t' h => PyProof.Rows.lt_int (h ▸ k s.toks)
  | Gt => exact ints_any (P := fun u v => wpAny (model prog w) A (compareOp .Gt u v) Q E s) e ra rb fun x y t t' h => PyProof.Rows.gt_int (h ▸ k s.toks)
  | LtE => exact ints_any (P := fun u v => wpAny (model prog w) A (compareOp .LtE u v) Q E s) e ra rb fun x y t t' h => PyProof.Rows.le_int (h ▸ k s.toks)
  | GtE => exact ints_any (P := fun u v => wpAny (model prog w) A (compareOp .GtE u v) Q E s) e ra rb fun x y t t' h => PyProof.Rows.ge_int (h ▸ k s.toks)
  | In => exact (in_any e S ra rb hu).1 k
  | NotIn => exact bo1 e fun c' e h => (in_any e S ra rb hu).2 (s1 h ▸ k)
  | Is =>
    refine bi e fun hb e => ?_
    rw [isNone_is hb] at rb
    rw [rb.none_inv]
    refine is_none ?_
    rw [isNone_rep ra, s1 e]; exact k s.toks
  | IsNot =>
    refine bi e fun hb e => ?_
    rw [isNone_is hb] at rb
    rw [rb.none_inv]
    refine isNot_none ?_
    rw [isNone_rep ra, s1 e]; exact k s.toks
end
end Mine

set_option Elab.async false
set_option maxRecDepth 100000
namespace Mine
open PySem PySem.W PyProof.Rows PySem.Calls

section
variable {prog : Program} {w : World} {h₀ : Base} {h h' : Heap} {K : Frag} {g : Gt} {o : Orc} {n : Nat} {Ψ Φ Φ' : Facts} {pe : PySem.Env} {V : Str → Option Value} {env : MEnv} {A : Around} {s : Shared}

theorem own?_of {x : Str} {d : D} (e : env.own? x = some d) : env.isVar x = true ∧ getv env.vars x = some (.own d) := by
  refine bo1 e fun sl h e => bi h fun hx h => ⟨hx, ?_⟩
  cases sl with
  | dat d' => exact (ns e).elim
  | own d' => exact s1 e ▸ h
theorem Room.line {n : Nat} {A : Around} (r : Room n A) : A.units + 61 < cLine := by have := r.2.2; omega
/-- a value that is only looked at -/
noncomputable abbrev OkPeek (prog : Program) (w : World) (h₀ : Base) (Ψ Φ : Facts) (s : Shared) (pe : PySem.Env) (V : Str → Option Value) (env' : MEnv) (d : D) (Q : Value → Shared → Prop) : Prop :=
  ∀ v Φ' h' tk Φ'', Le Φ Φ' → Inv prog w h₀ Ψ Φ' h' pe V env' → Le Φ' Φ'' → Sat Φ'' h' → Rep prog w Φ'' v d → Q v { s with heap := h', toks := tk }
set_option tactic.hygienic true in
theorem snd_peek (hE : SndE prog w h₀ o n) {x : Expr} {d : D} {env' : MEnv} (e : peekE o env x = some (d, env')) {Q : Value → Shared → Prop} (I : Inv prog w h₀ Ψ Φ s.heap pe V env) (R : Room n A)
    (k : OkPeek prog w h₀ Ψ Φ s pe V env' d Q) : wpAny (model prog w) A (eval x pe) Q NoE s := by
  have plain : o.E env x = some (d, env') → wpAny (model prog w) A (eval x pe) Q NoE s := fun e =>
    hE _ _ _ _ e _ _ _ _ _ _ _ I R fun v Φ' h' tk le I' r => k v Φ' h' tk Φ' le I' (Le.refl _) I'.sat r
  unfold peekE at e
  split at e
  · rename_i y pos
    split at e
    · rename_i d' he
      obtain ⟨rfl, rfl⟩ := sp e
      obtain ⟨hx, hd⟩ := own?_of he
      obtain ⟨v, hv, _⟩ := I.own y _ hx hd
      obtain ⟨Φ', le, I', r⟩ := I.freeze hx hd hv
      exact name_var I hx hv (k v Φ s.heap s.toks Φ' (Le.refl _) I le I'.sat r)
    · exact plain e
  · exact plain e
theorem marks_of {op : CmpOp} {r : Expr} (h : isSetE r = false) : behindInMarks op r = false := by
  cases r <;> first | rfl | cases h
theorem isEmptyList_of {r : Expr} (h : isEmptyList r = true) : ∃ pos, r = .List [] pos := by
  cases r with
  | List es pos => cases es with
    | nil => exact ⟨pos, rfl⟩
    | cons _ _ => exact absurd h Bool.false_ne_true
  | _ => exact absurd h Bool.false_ne_true
theorem Sat.push {Φ : Facts} {h : Heap} (S : Sat Φ h) (o : Obj) (hf : o.isFreed = false := by rfl) : Sat (also Φ h.objs.size o) (h.push o) := ⟨fun a x q => by
  rcases q with q | ⟨rfl, rfl⟩
  · exact Heap.get?_push_of_some _ (S.at_ a x q)
  · exact Heap.get?_push_size _ hf⟩
theorem snd_right (hE : SndE prog w h₀ o n) {x : Expr} {op : CmpOp} {d : D} {env' : MEnv} (e : rightE o env op x = some (d, env')) {Q : Value → Shared → Prop} (I : Inv prog w h₀ Ψ Φ s.heap pe V env) (R : Room n A)
    (k : OkPeek prog w h₀ Ψ Φ s pe V env' d Q) : wpAny (model prog w) A (eval x pe) Q NoE s := by
  unfold rightE at e
  split at e
  · exact snd_peek hE e I R k
  · exact snd_peek hE e I R k
  · exact hE _ _ _ _ e _ _ _ _ _ _ _ I R fun v Φ2 h2 t2 le2 I2 r2 => k v Φ2 h2 t2 Φ2 le2 I2 (Le.refl _) I2.sat r2
/-- one comparison: both sides, then what is made of them -/
theorem snd_sides (hE : SndE prog w h₀ o n) {l r : Expr} {op : CmpOp} {c : Bool} {env' : MEnv} (e : cmpE o env l op r = some (c, env')) {Q : Value → Shared → Prop} (I : Inv prog w h₀ Ψ Φ s.heap pe V env) (R : Room n A)
    (k : OkT prog w h₀ Ψ Φ s pe V env' c fun c s' => Q (.bool c) s') : behindInMarks op r = false ∧ wpAny (model prog w) A (eval l pe) (fun u s₁ => wpAny (model prog w) A (eval r pe) (fun v s₂ => wpAny (model prog w) A (compareOp op u v) Q NoE s₂) NoE s₁) NoE s := by
  refine bn e fun hset e => ⟨marks_of hset, ?_⟩
  refine bie e (fun hc e => bo2 e fun a env1 ha e => bo1 e fun b hb e => ?_) (fun zz e=> bo2 e fun a env1 ha e => bo2 e fun b env2 hb e => bo1 e fun c' hc e => ?_)
  · have k := okT_eq e k
    obtain ⟨pos, rfl⟩ := isEmptyList_of (Bool.and_eq_true_iff.mp hc).1
    refine snd_peek hE ha I R fun u Φ1 h1 t1 Φ1' le1 I1 le1' S1 r1 => ?_
    refine List_ (wpAny_items_nil ?_)
    have S2 := S1.push (lstObj [] 0)
    exact wpAny_newObj_type (cmp_any hb S2 (r1.mono (le_also _ _ _)) (.list (also_at _ _ _) .nil) R.line fun tk => k Φ1 _ tk le1 (I1.push' _)) (by show (#[] : Array Value).size ≤ sizeLine; simp)
  · have k := okT_eq e k
    refine hE _ _ _ _ ha _ _ _ _ _ _ _ I R fun u Φ1 h1 t1 le1 I1 r1 => ?_
    refine snd_right hE hb I1 R fun v Φ2 h2 t2 Φ2' le2 I2 le2' S2 r2 => ?_
    exact cmp_any hc S2 (r1.mono (le2.trans le2')) r2 R.line fun tk => k Φ2 h2 tk (le1.trans le2) I2
theorem snd_Compare (hE : SndE prog w h₀ o n) {l : Expr} {rs : List Expr} {ops : List CmpOp} {pos : Pos} {d : D} {env' : MEnv}
    (e : (o2 (cmpOne o env l ops rs) fun b env1 => some (D.bool b, env1)) = some (d, env')) {Q : Value → Shared → Prop} (I : Inv prog w h₀ Ψ Φ s.heap pe V env) (R : Room n A)
    (k : OkE prog w h₀ Ψ Φ s pe V env' d Q) : wpAny (model prog w) A (eval (.Compare l ops rs pos) pe) Q NoE s := by
  refine bo2 e fun b env1 hb e => bo1 hb fun op ho hb => bo1 hb fun r hr hb => ?_
  rw [oneC_some ho, oneE_some hr]
  have k := okE_eq e k
  obtain ⟨hm, hq⟩ := snd_sides hE hb I R (Q := Q) fun Φ' h' tk le I' => k _ Φ' h' tk le I' (.bool b)
  exact wpAny_Compare1 hq hm
theorem snd_TCompare (hE : SndE prog w h₀ o n) {l : Expr} {rs : List Expr} {ops : List CmpOp} {pos : Pos} {c : Bool} {env' : MEnv} {whole : Sem Value}
    (e : cmpOne o env l ops rs = some (c, env')) {Q : Bool → Shared → Prop} (I : Inv prog w h₀ Ψ Φ s.heap pe V env) (R : Room n A)
    (k : OkT prog w h₀ Ψ Φ s pe V env' c Q) : wpAny (model prog w) A (isTrue (.Compare l ops rs pos) pe whole) Q NoE s := by
  refine bo1 e fun op ho e => bo1 e fun r hr e => ?_
  rw [oneC_some ho, oneE_some hr]
  obtain ⟨hm, hq⟩ := snd_sides hE e I R (Q := fun c s' => wpAny (model prog w) A (truthy c) Q NoE s') fun Φ' h' tk le I' => wpAny_truthy_bool (k Φ' h' tk le I')
  exact wpAny_isTrue_Compare1 hq hm
theorem snd_Un (hE : SndE prog w h₀ o n) {op : UnaryOp} {x : Expr} {pos : Pos} {d : D} {env' : MEnv}
    (e : unE o env op x = some (d, env')) {Q : Value → Shared → Prop} (I : Inv prog w h₀ Ψ Φ s.heap pe V env) (R : Room n A)
    (k : OkE prog w h₀ Ψ Φ s pe V env' d Q) : wpAny (model prog w) A (eval (.UnaryOp op x pos) pe) Q NoE s := by
  cases op with
  | USub =>
    refine bo2 e fun d1 env1 h1 e => bo1 e fun i hi e => ?_
    have k := okE_eq e k
    refine UnaryOp_ (hE _ _ _ _ h1 _ _ _ _ _ _ _ I R fun u Φ1 h1 t1 le1 I1 r1 => ?_)
    rw [asInt_some hi] at r1
    obtain ⟨t, rfl⟩ := r1.int_inv
    exact neg_int (k _ Φ1 h1 _ le1 I1 (.int _ _))
  | Not =>
    refine bo2 e fun d1 env1 h1 e => bo1 e fun b hb e => ?_
    have k := okE_eq e k
    refine UnaryOp_ (hE _ _ _ _ h1 _ _ _ _ _ _ _ I R fun u Φ1 h1 t1 le1 I1 r1 => ?_)
    exact not_of (truthy_any hb I1.sat r1 fun tk => k _ Φ1 h1 tk le1 I1 (.bool _))
  | _ => exact (ns e).elim
theorem snd_Bool (hE : SndE prog w h₀ o n) {op : BoolOp} {vs : List Expr} {pos : Pos} {d : D} {env' : MEnv}
    (e : boolE o env op vs = some (d, env')) {Q : Value → Shared → Prop} (I : Inv prog w h₀ Ψ Φ s.heap pe V env) (R : Room n A)
    (k : OkE prog w h₀ Ψ Φ s pe V env' d Q) : wpAny (model prog w) A (eval (.BoolOp op vs pos) pe) Q NoE s := by
  refine bo2 e fun x y hxy e => bo2 e fun a env1 ha e => bo1 e fun b hb e => ?_
  rw [twoE_some hxy]
  have go : ∀ {Φ1 : Facts} {h1 : Heap} {tk : Nat}, Le Φ Φ1 → Inv prog w h₀ Ψ Φ1 h1 pe V env1 → o.E env1 y = some (d, env') → wpAny (model prog w) A (eval y pe) Q NoE { s with heap := h1, toks := tk } :=
    fun le1 I1 e => hE _ _ _ _ e _ _ _ _ _ _ _ I1 R (OkE.later k le1)
  cases op with
  | And =>
    refine wpAny_And2 (hE _ _ _ _ ha _ _ _ _ _ _ _ I R fun u Φ1 h1 t1 le1 I1 r1 => truthy_any hb I1.sat r1 fun tk => ?_)
    cases b with
    | true => exact go le1 I1 e
    | false => exact okE_eq e k _ Φ1 h1 tk le1 I1 r1
  | Or =>
    refine wpAny_Or2 (hE _ _ _ _ ha _ _ _ _ _ _ _ I R fun u Φ1 h1 t1 le1 I1 r1 => truthy_any hb I1.sat r1 fun tk => ?_)
    cases b with
    | false => exact go le1 I1 e
    | true => exact okE_eq e k _ Φ1 h1 tk le1 I1 r1
theorem OkT.later {c : Bool} {env'' : MEnv} {Q : Bool → Shared → Prop} {h' : Heap} {tk : Nat} (k : OkT prog w h₀ Ψ Φ s pe V env'' c Q) (le : Le Φ Φ') : OkT prog w h₀ Ψ Φ' { s with heap := h', toks := tk } pe V env'' c Q :=
  fun Φ'' h'' tk' le' I => k Φ'' h'' tk' (le.trans le') I
theorem snd_allT (hT : SndT prog w h₀ o n) {op : BoolOp} : ∀ {vs : List Expr} {env : MEnv} {c : Bool} {env' : MEnv}, allT o op env vs = some (c, env') → ∀ {Φ : Facts} {s : Shared} {Q : Bool → Shared → Prop}, Inv prog w h₀ Ψ Φ s.heap pe V env → Room n A →
    OkT prog w h₀ Ψ Φ s pe V env' c Q → wpAny (model prog w) A (allTrue op vs pe) Q NoE s
  | [], env, c, env', e, Φ, s, Q, I, R, k => by
    have k := okT_eq e k
    cases op with
    | And => exact wpAny_allTrue_And_nil (k Φ s.heap s.toks (Le.refl _) I)
    | Or => exact wpAny_allTrue_Or_nil (k Φ s.heap s.toks (Le.refl _) I)
  | x :: r, env, c, env', e, Φ, s, Q, I, R, k => by
    refine bo2 e fun b env1 hb e => ?_
    cases op with
    | And =>
      refine wpAny_allTrue_And_cons (hT _ _ _ _ hb _ _ _ _ _ _ _ I R fun Φ1 h1 t1 le1 I1 => ?_)
      cases b with
      | true => exact snd_allT hT e I1 R (OkT.later k le1)
      | false => exact okT_eq e k Φ1 h1 t1 le1 I1
    | Or =>
      refine wpAny_allTrue_Or_cons (hT _ _ _ _ hb _ _ _ _ _ _ _ I R fun Φ1 h1 t1 le1 I1 => ?_)
      cases b with
      | false => exact snd_allT hT e I1 R (OkT.later k le1)
      | true => exact okT_eq e k Φ1 h1 t1 le1 I1
theorem isTrue_plain {x : Expr} {whole : Sem Value} (h : testForm x = false) : isTrue x pe whole = (do let v ← whole; standAt x.pos; holding [v] (truthy v)) := by
  cases x <;> first | rfl | exact absurd h.symm Bool.false_ne_true
theorem snd_TPlain (hE : SndE prog w h₀ o n) {x : Expr} {c : Bool} {env' : MEnv} (e : plainT o env x = some (c, env')) (he : testForm x = false) {Q : Bool → Shared → Prop} (I : Inv prog w h₀ Ψ Φ s.heap pe V env) (R : Room n A)
    (k : OkT prog w h₀ Ψ Φ s pe V env' c Q) : wpAny (model prog w) A (isTrue x pe (eval x pe)) Q NoE s := by
  refine bo2 e fun d env1 hd e => bi e fun zz e=> bo1 e fun b hb e => ?_
  have k := okT_eq e k
  exact wpAny_isTrue_value (snd_peek hE hd I R fun v Φ' h' tk Φ'' le I' le' S r => truthy_any hb S r fun tk => k Φ' h' tk le I') (isTrue_plain he)
theorem notT_is {op : UnaryOp} (h : notT op = true) : op = .Not := by cases op <;> first | rfl | exact absurd h Bool.false_ne_true
theorem snd_T (hE : SndE prog w h₀ o n) (hT : SndT prog w h₀ o n) {x : Expr} {c : Bool} {env' : MEnv} (e : stepT o env x = some (c, env')) {Q : Bool → Shared → Prop} (I : Inv prog w h₀ Ψ Φ s.heap pe V env) (R : Room n A)
    (k : OkT prog w h₀ Ψ Φ s pe V env' c Q) : wpAny (model prog w) A (isTrue x pe (eval x pe)) Q NoE s := by
  refine bie e (fun zz e=> ?_) (fun h e => snd_TPlain hE e h I R k)
  cases x with
  | UnaryOp op y pos =>
    refine bi e fun ho e => bo2 e fun b env1 hb e => ?_
    rw [notT_is ho]
    have k := okT_eq e k
    exact wpAny_isTrue_Not (hT _ _ _ _ hb _ _ _ _ _ _ _ I R fun Φ1 h1 t1 le1 I1 => k Φ1 h1 t1 le1 I1)
  | BoolOp op vs pos => exact wpAny_isTrue_BoolOp (snd_allT hT e I R k)
  | Compare l ops rs pos => exact snd_TCompare hE e I R k
  | _ => exact (ns e).elim
end
end Mine

set_option Elab.async false
set_option maxRecDepth 100000
namespace Mine
open PySem PySem.W PyProof.Rows PySem.Calls

section
variable {prog : Program} {w : World} {h₀ : Base} {h h' : Heap} {K : Frag} {g : Gt} {o : Orc} {n : Nat} {Ψ Φ Φ' : Facts} {pe : PySem.Env} {V : Str → Option Value} {env : MEnv} {A : Around} {s : Shared}

/-! fresh containers: nobody else knows them -/
theorem Inv.pushPsi (I : Inv prog w h₀ Ψ Φ h pe V env) (ob : Obj) (hf : ob.isFreed = false := by rfl) : Inv prog w h₀ (also Ψ h.objs.size ob) Φ (h.push ob) pe V env := by
  have J := I.push' ob
  have none := get_none_size h
  refine { J with psi := ?_, frame := ?_, own := ?_, sep := ?_ }
  · rintro a o' (q | ⟨rfl, rfl⟩)
    · exact J.psi a o' q
    · exact Heap.get?_push_size _ hf
  · intro a x
    refine ⟨fun o' q => ?_, (J.frame a x).2⟩
    rcases q with q | ⟨rfl, rfl⟩
    · exact (J.frame a x).1 o' q
    · obtain ⟨o₁, e⟩ := I.frame_there x
      rw [none] at e; cases e
  · intro x d hx hd
    obtain ⟨v, hv, r, q⟩ := J.own x d hx hd
    refine ⟨v, hv, r, fun b hb => ⟨fun o' z => ?_, (q b hb).2⟩⟩
    rcases z with z | ⟨rfl, rfl⟩
    · exact (q b hb).1 o' z
    · obtain ⟨v', hv', r', _⟩ := I.own x d hx hd
      rw [hv] at hv'; cases hv'
      have y' := OwnAt.back r' (fun o ⟨a, e, g⟩ => ⟨a, e, Heap.get?_push_of_some _ g⟩) hb
      obtain ⟨o₁, e⟩ := r'.there y'
      rw [none] at e; cases e
  · rintro a o' o'' (q | ⟨rfl, rfl⟩) z
    · exact J.sep a o' o'' q z
    · rw [I.phi _ _ z] at none; cases none
theorem Inv.psi_new (I : Inv prog w h₀ Ψ Φ h pe V env) : ∀ o', ¬ Ψ h.objs.size o' := fun o' q => by
  have := I.psi _ _ q
  rw [get_none_size h] at this; cases this
theorem Inv.new_low (I : Inv prog w h₀ Ψ Φ h pe V env) : h.objs.size ≠ sysModules := Nat.ne_of_gt (Nat.lt_trans I.low.1 (let ⟨_, hm, _⟩ := I.real.loc; hm.lt))
/-- what was only ours becomes data -/
theorem Inv.give {a : Addr} {ob : Obj} (I : Inv prog w h₀ (also Ψ a ob) Φ h pe V env) (hn : ∀ o', ¬ Ψ a o') : Inv prog w h₀ Ψ (also Φ a ob) h pe V env where
  kinds := I.kinds
  real := I.real
  psi := fun b x q => I.psi b x (.inl q)
  phi := fun b x q => by
    rcases q with q | ⟨rfl, rfl⟩
    · exact I.phi b x q
    · exact I.psi _ _ (.inr ⟨rfl, rfl⟩)
  frame := fun b x => ⟨fun o' q => (I.frame b x).1 o' (.inl q), fun o' q => by
    rcases q with q | ⟨rfl, rfl⟩
    · exact (I.frame b x).2 o' q
    · exact (I.frame b x).1 _ (.inr ⟨rfl, rfl⟩)⟩
  apartCells := I.apartCells
  cellLoc := I.cellLoc
  dat := fun x d hx hd => by
    obtain ⟨v, hv, r⟩ := I.dat x d hx hd
    exact ⟨v, hv, r.mono (le_also _ _ _)⟩
  own := fun x d hx hd => by
    obtain ⟨v, hv, r, q⟩ := I.own x d hx hd
    refine ⟨v, hv, r.mono (le_also _ _ _), fun b hb => ⟨fun o' z => (q b hb).1 o' (.inl z), fun o' z => ?_, (q b hb).2.2⟩⟩
    rcases z with z | ⟨rfl, rfl⟩
    · exact (q b hb).2.1 o' z
    · exact (q b hb).1 _ (.inr ⟨rfl, rfl⟩)
  apart := I.apart
  low := I.low
  base := fun b x q => .inl (I.base b x q)
  sep := fun b x y p q => by
    rcases q with q | ⟨rfl, rfl⟩
    · exact I.sep b x y (.inl p) q
    · exact hn _ p
theorem fillX_own {a : Addr} {ob : Obj} (I : Inv prog w h₀ (also Ψ a ob) Φ h pe V env) (hs : ∀ b o, b ≠ a → h.get? b = some o → h'.get? b = some o) :
    ∀ x d, env.isVar x = true → getv env.vars x = some (.own d) → ∀ v, V x = some v → Own prog w Φ h v d ∧ (∀ b, OwnAt h v b → b ≠ a) ∧ Own prog w Φ h' v d ∧ ∀ b, OwnAt h' v b → OwnAt h v b := fun x d hx hd v hv => by
  obtain ⟨v', hv', r, q⟩ := I.own x d hx hd
  obtain rfl := s1 (hv.symm.trans hv')
  have ne : ∀ b, OwnAt h v b → b ≠ a := fun b hb e => (q b hb).1 ob (.inr ⟨e, rfl⟩)
  exact ⟨r, ne, r.keep fun b o' hb e => hs b o' (ne b hb) e, fun b hb => OwnAt.back r (fun o' ⟨c, e, g⟩ => ⟨c, e, hs c o' (ne c (.inl e)) g⟩) hb⟩
theorem fillX_real {a : Addr} {ob : Obj} (I : Inv prog w h₀ (also Ψ a ob) Φ h pe V env) (hs : ∀ b o, b ≠ a → h.get? b = some o → h'.get? b = some o) (hc : ∀ v, ob.data ≠ .cell v) : Real env h' pe V := by
  refine ⟨?_, fun x hx => ?_⟩
  · obtain ⟨m, hm, e⟩ := I.real.loc
    exact ⟨m, hm.at' fun o e => hs _ o (fun z => (I.frame _ (.inl rfl)).1 ob (.inr ⟨z, rfl⟩)) e, e⟩
  · obtain ⟨c, h1, o', h2, h3⟩ := I.real.cell x hx
    rcases Decidable.em (c = a) with e | e
    · have := I.psi a ob (.inr ⟨rfl, rfl⟩)
      rw [← e, h2] at this
      obtain rfl := s1 this
      exact absurd h3 (hc _)
    · exact ⟨c, h1, o', hs c o' e h2, h3⟩
/-- what is only ours changes, new objects may come -/
theorem Inv.fillX {a : Addr} {ob ob' : Obj} (I : Inv prog w h₀ (also Ψ a ob) Φ h pe V env) (hn : ∀ o', ¬ Ψ a o') (hs : ∀ b o, b ≠ a → h.get? b = some o → h'.get? b = some o) (hb : h'.get? a = some ob') (hc : ∀ v, ob.data ≠ .cell v) :
    Inv prog w h₀ (also Ψ a ob') Φ h' pe V env :=
  have nphi : ∀ b o', Φ b o' → b ≠ a := fun b o' q e => I.sep b ob o' (.inr ⟨e, rfl⟩) q
  have own' := fillX_own I hs
  { kinds := I.kinds
    real := fillX_real I hs hc
    psi := fun b x q => q.elim (fun q => hs b x (fun e => hn x (e ▸ q)) (I.psi b x (.inl q))) fun q => q.1 ▸ q.2 ▸ hb
    phi := fun b x q => hs b x (nphi b x q) (I.phi b x q)
    frame := fun b x => ⟨fun o' q => q.elim (fun q => (I.frame b x).1 o' (.inl q)) fun q => (I.frame b x).1 ob (.inr ⟨q.1, rfl⟩), (I.frame b x).2⟩
    apartCells := I.apartCells
    cellLoc := I.cellLoc
    dat := I.dat
    own := fun x d hx hd =>
      let ⟨v, hv, _, q⟩ := I.own x d hx hd
      let ⟨_, ne, r', back⟩ := own' x d hx hd v hv
      ⟨v, hv, r', fun b hb' => ⟨fun o' z => z.elim (fun z => (q b (back b hb')).1 o' (.inl z)) fun z => ne _ (back b hb') z.1, (q b (back b hb')).2⟩⟩
    apart := fun x y d e v u b hx hy hxy gx gy hv hu bx bY => I.apart x y d e v u b hx hy hxy gx gy hv hu ((own' x d hx gx v hv).2.2.2 b bx) ((own' y e hy gy u hu).2.2.2 b bY)
    low := I.low
    base := I.base
    sep := fun b x y p q => p.elim (fun p => I.sep b x y (.inl p) q) fun p => I.sep b ob y (.inr ⟨p.1, rfl⟩) q }
/-- what is only ours is written -/
theorem Inv.fill {a : Addr} {ob ob' : Obj} (I : Inv prog w h₀ (also Ψ a ob) Φ h pe V env) (hn : ∀ o', ¬ Ψ a o') (hs : Heap.SameBut a h h') (hb : h'.get? a = some ob') (hc : ∀ v, ob.data ≠ .cell v := by exact nofun) :
    Inv prog w h₀ (also Ψ a ob') Φ h' pe V env := I.fillX hn (fun b zz ne e=> (hs.2 b ne).trans e) hb hc

theorem atIdx_some {l : List D} {i : Int} {c : D} (e : atIdx l i = some c) : ∃ j : Nat, i = .ofNat j ∧ fitN j = true ∧ l[j]? = some c := by
  cases i with
  | ofNat j => exact bi e fun hf e => ⟨j, rfl, hf, e⟩
  | negSucc j => exact (ns e).elim
theorem sub_any {a b c : D} {value slice : Expr} {u v : Value} {Q : Value → Shared → Prop} (e : subD a b = some c) (I : Inv prog w h₀ Ψ Φ s.heap pe V env) (ra : Rep prog w Φ u a) (rb : Rep prog w Φ v b)
    (hs : ∀ o i, subscripted slice false o i = operate [o, i] (getItem o i)) (k : OkE prog w h₀ Ψ Φ s pe V env c Q) : wpAny (model prog w) A (subscriptTail value slice u v) Q NoE s := by
  cases a with
  | list l =>
    refine bo1 e fun i hi e => ?_
    rw [asInt_some hi] at rb
    obtain ⟨j, rfl, hf, e⟩ := atIdx_some e
    obtain ⟨t, rfl⟩ := rb.int_inv
    obtain ⟨a, vs, m, rfl, p, r⟩ := ra.list_inv
    obtain ⟨x, hx, rx⟩ := r.get e
    have hl : s.heap.IsList _ vs.toArray := rep_isList (I.phi _ _ p)
    exact tail_any hl.typeIs slot_list_getitem.lookup (wpAny_getItem_list (x := x) hl (Int.natCast_nonneg j) (by have := fit63 hf; exact this) (by simpa using hx) (k _ Φ s.heap s.toks (Le.refl _) I rx)) (hs _ _)
  | tup l =>
    refine bo1 e fun i hi e => ?_
    rw [asInt_some hi] at rb
    obtain ⟨j, rfl, hf, e⟩ := atIdx_some e
    obtain ⟨t, rfl⟩ := rb.int_inv
    obtain ⟨a, vs, m, rfl, p, r⟩ := ra.tup_inv
    obtain ⟨x, hx, rx⟩ := r.get e
    have hl : IsTup s.heap _ vs.toArray := rep_isTup (I.phi _ _ p)
    have hlt : j < vs.length := (List.getElem?_eq_some_iff.mp hx).1
    exact item_tupleT (j := j) (x := x) hl (by show _ ≤ (j : Int); omega) (by have := fit63 hf; exact this) (by simp [seqIndex?]; omega) hx (k _ Φ s.heap s.toks (Le.refl _) I rx) (hs _ _)
  | dict l =>
    refine bo1 e fun r hd e => ?_
    obtain rfl : r = some c := e
    obtain ⟨a, ob, rfl, p, ne, q⟩ := ra.dict_inv
    obtain ⟨T, _, knd, kk, kvs, X⟩ := keyAt_of q rb (dget_fits hd)
    obtain ⟨v', hv, rv⟩ := X.get _ hd
    have hm := (dictOf_at I.sat p X.dict).mapOf
    exact tail_any hm.typeIs slot_dict_getitem.lookup (wpAny_getItem_of X.is hm hv (k _ Φ s.heap _ (Le.refl _) I rv)) (hs _ _)
  | _ => exact (ns e).elim
theorem subscripted_plain {i : Expr} (hi : isSlice i = false) (o i' : Value) : subscripted i false o i' = operate [o, i'] (getItem o i') := by
  cases i <;> first | rfl | exact absurd hi.symm Bool.false_ne_true
theorem snd_Subscript (hE : SndE prog w h₀ o n) {v i : Expr} {pos : Pos} {d : D} {env' : MEnv} (hi : isSlice i = false)
    (e : (o2 (o.E env v) fun d env1 => o2 (o.E env1 i) fun k env2 => o1 (subD d k) fun r => some (r, env2)) = some (d, env')) {Q : Value → Shared → Prop} (I : Inv prog w h₀ Ψ Φ s.heap pe V env) (R : Room n A)
    (k : OkE prog w h₀ Ψ Φ s pe V env' d Q) : wpAny (model prog w) A (eval (.Subscript v i pos) pe) Q NoE s := by
  refine bo2 e fun a env1 ha e => bo2 e fun b env2 hb e => bo1 e fun c hc e => ?_
  have k := okE_eq e k
  refine Subscript_ (hE _ _ _ _ ha _ _ _ _ _ _ _ I R fun u Φ1 h1 t1 le1 I1 r1 => hE _ _ _ _ hb _ _ _ _ _ _ _ I1 R fun v Φ2 h2 t2 le2 I2 r2 => ?_)
  exact sub_any hc I2 (r1.mono le2) r2 (subscripted_plain hi) (OkE.later k (le1.trans le2))
theorem slicePick_upto_any (items : Array Value) (b : Nat) : slicePick items none (some b) none = (items.toList.take b).toArray := by
  by_cases h : b ≤ items.size
  · exact slicePick_upto items b h
  · have e : sliceBounds none (some (b : Int)) none items.size = sliceBounds none (some (items.size : Int)) none items.size := by
      simp only [sliceBounds, Option.getD_none]
      have h1 : ¬ ((b : Int) < 0) := by omega
      have h2 : ¬ ((items.size : Int) < 0) := by omega
      simp only [h1, h2, if_false, show (1 : Int) > 0 by decide, if_true]
      congr 1
      congr 1; omega
    have : slicePick items none (some b) none = slicePick items none (some items.size) none := by unfold slicePick; rw [e]
    rw [this, slicePick_upto items items.size (Nat.le_refl _), List.take_of_length_le (by simp), List.take_of_length_le (by simp; omega)]
theorem slice_getItem {l sl : Addr} {vs : List Value} {m : Nat} {vl vu : Value} {lo hi : Option Int} {ds' : List D} {Q : Value → Shared → Prop} (I : Inv prog w h₀ Ψ Φ s.heap pe V env) (p : Φ l (lstObj vs m)) (r : Reps prog w Φ (slicePick vs.toArray lo hi .none).toList ds')
    (hs : s.heap.IsSliceOf sl vl vu .none) (pl : IsPart vl lo) (pu : IsPart vu hi) (hsz : vs.length ≤ sizeLine) (k : OkE prog w h₀ Ψ Φ s pe V env (.list ds') Q) : wpAny (model prog w) A (getItem (.ref l) (.ref sl)) Q NoE s := by
  refine wpAny_getItem_list_slice (rep_isList (I.phi _ _ p)) hs pl pu .none (by simp) ?_ (by simpa using hsz)
  have e : slicePick vs.toArray lo hi .none = (slicePick vs.toArray lo hi .none).toList.toArray := by simp
  rw [e]
  exact k _ _ _ s.toks (le_also _ _ _) (I.push _) (.list (also_at _ _ _) (r.mono (le_also _ _ _)))
theorem Reps.drop {vs : List Value} {l : List D} (h : Reps prog w Φ vs l) (k : Nat) : Reps prog w Φ (vs.drop k) (l.drop k) := by
  induction l generalizing vs k with
  | nil => rw [h.nil_inv]; cases k <;> exact .nil
  | cons d l ih =>
    cases k with
    | zero => exact h
    | succ k =>
      obtain ⟨v, us, rfl, _, r⟩ := h.cons_inv
      exact ih r k
theorem Reps.take {vs : List Value} {l : List D} (h : Reps prog w Φ vs l) (k : Nat) : Reps prog w Φ (vs.take k) (l.take k) := by
  induction l generalizing vs k with
  | nil => rw [h.nil_inv]; cases k <;> exact .nil
  | cons d l ih =>
    cases k with
    | zero => exact .nil
    | succ k =>
      obtain ⟨v, us, rfl, q, r⟩ := h.cons_inv
      exact .cons q (ih r k)
theorem natC_some {a : Expr} {n : Nat} (e : natC a = some n) : ∃ i p, a = .Constant (.int (.ofNat n)) i p := by
  cases a with
  | Constant c i p => cases c with
    | int x => cases x with
      | ofNat m => exact s1 e ▸ ⟨_, _, rfl⟩
      | negSucc m => exact (ns e).elim
    | _ => exact (ns e).elim
  | _ => exact (ns e).elim
theorem snd_Slice (hE : SndE prog w h₀ o n) {v : Expr} {lo hi : Option Expr} {p pos : Pos} {d : D} {env' : MEnv}
    (e : (o2 (o.E env v) fun d env1 => o1 (sliceE d lo hi) fun d' => some (d', env1)) = some (d, env')) {Q : Value → Shared → Prop} (I : Inv prog w h₀ Ψ Φ s.heap pe V env) (R : Room n A)
    (k : OkE prog w h₀ Ψ Φ s pe V env' d Q) : wpAny (model prog w) A (eval (.Subscript v (.Slice lo hi .none p) pos) pe) Q NoE s := by
  refine bo2 e fun a env1 ha e => bo1 e fun d' hd e => bo1 hd fun l hl hd => bi hd fun hf hd => ?_
  have k := okE_eq e k
  refine Subscript_ (hE _ _ _ _ ha _ _ _ _ _ _ _ I R fun u Φ1 h1 t1 le1 I1 r1 => ?_)
  rw [asList_some hl] at r1
  obtain ⟨al, vs, m', rfl, q, r⟩ := r1.list_inv
  cases lo with
  | none => cases hi with
    | none => exact (ns hd).elim
    | some b =>
      refine bo1 hd fun m hm hd => ?_
      obtain rfl := s1 hd
      obtain ⟨_, _, rfl⟩ := natC_some hm
      refine wpAny_Slice ?_
      rw [evalPart_some, evalPart_none]
      refine wpAny_pure (wpAny_Constant_int (wpAny_pure ?_))
      refine tail_any (T := "list") (Heap.IsList.typeIs (rep_isList ((I1.push' _).phi _ _ q))) slot_list_getitem.lookup ?_ rfl
      refine slice_getItem (ds' := l.take m) (I1.push' _) q ?_ (Heap.IsSliceOf.new ..) .none (.int _ _) (by rw [r.length]; exact fit_line hf) (OkE.later k le1)
      show Reps prog w Φ1 (slicePick _ none (some (m : Int)) none).toList _
      rw [slicePick_upto_any]
      exact r.take m
  | some b => cases hi with
    | some c => exact (ns hd).elim
    | none =>
      refine bo1 hd fun m hm hd => bi hd fun hml hd => ?_
      obtain rfl := s1 hd
      obtain ⟨_, _, rfl⟩ := natC_some hm
      refine wpAny_Slice ?_
      rw [evalPart_some, evalPart_none]
      refine wpAny_Constant_int (wpAny_pure (wpAny_pure ?_))
      refine tail_any (T := "list") (Heap.IsList.typeIs (rep_isList ((I1.push' _).phi _ _ q))) slot_list_getitem.lookup ?_ rfl
      refine slice_getItem (ds' := l.drop m) (I1.push' _) q ?_ (Heap.IsSliceOf.new ..) (.int _ _) .none (by rw [r.length]; exact fit_line hf) (OkE.later k le1)
      show Reps prog w Φ1 (slicePick _ (some (m : Int)) none none).toList _
      rw [slicePick_from _ m (by rw [List.size_toArray, r.length]; exact Nat.le_of_ble_eq_true hml)]
      exact r.drop m
theorem sliceT_some {i : Expr} {lo hi : Option Expr} (e : sliceT i = some (lo, hi)) : ∃ p, i = .Slice lo hi .none p := by
  cases i with
  | Slice a b c p => cases c with
    | none => obtain ⟨rfl, rfl⟩ := sp e; exact ⟨_, rfl⟩
    | some c => exact (ns e).elim
  | _ => exact (ns e).elim
theorem snd_Sub (hE : SndE prog w h₀ o n) {v i : Expr} {pos : Pos} {d : D} {env' : MEnv} (e : subE o env v i = some (d, env')) {Q : Value → Shared → Prop} (I : Inv prog w h₀ Ψ Φ s.heap pe V env) (R : Room n A)
    (k : OkE prog w h₀ Ψ Φ s pe V env' d Q) : wpAny (model prog w) A (eval (.Subscript v i pos) pe) Q NoE s := by
  refine bie e (fun zz e=> bo2 e fun lo hi hs e => ?_) (fun hs e => snd_Subscript hE hs e I R k)
  obtain ⟨p, rfl⟩ := sliceT_some hs
  exact snd_Slice hE e I R k
end
end Mine

set_option Elab.async false
set_option maxRecDepth 100000
namespace Mine
open PySem PySem.W PyProof.Rows PySem.Calls

section
variable {prog : Program} {w : World} {h₀ : Base} {h h' : Heap} {K : Frag} {g : Gt} {o : Orc} {n : Nat} {Ψ Φ Φ' : Facts} {pe : PySem.Env} {V : Str → Option Value} {env : MEnv} {A : Around} {s : Shared}

/-- a container that nobody else knows -/
noncomputable abbrev OkNew (prog : Program) (w : World) (h₀ : Base) (Ψ Φ : Facts) (s : Shared) (pe : PySem.Env) (V : Str → Option Value) (env' : MEnv) (P : Facts → Obj → Prop) (Q : Value → Shared → Prop) : Prop :=
  ∀ a ob Φ' h' tk, Le Φ Φ' → (∀ o', ¬ Ψ a o') → a ≠ sysModules → Inv prog w h₀ (also Ψ a ob) Φ' h' pe V env' → P Φ' ob → Q (.ref a) { s with heap := h', toks := tk }
noncomputable def ListP (prog : Program) (w : World) (ds : List D) (Φ : Facts) (ob : Obj) : Prop := ∃ vs n, ob = lstObj vs n ∧ Reps prog w Φ vs ds
noncomputable def DictP (prog : Program) (w : World) (l : List (D × D)) (Φ : Facts) (ob : Obj) : Prop := RepO prog w Φ ob l

theorem mk_list (hL : SndL prog w h₀ o n) {es : List Expr} {pos : Pos} {ds : List D} {env' : MEnv} (he : o.L env es = some (ds, env')) (hf : fitN ds.length = true) {Q : Value → Shared → Prop}
    (I : Inv prog w h₀ Ψ Φ s.heap pe V env) (R : Room n A) (k : OkNew prog w h₀ Ψ Φ s pe V env' (ListP prog w ds) Q) : wpAny (model prog w) A (eval (.List es pos) pe) Q NoE s := by
  refine List_ (hL _ _ _ _ he _ _ _ _ _ _ _ _ I R fun vs Φ' h' tk le I' r => ?_)
  exact wpAny_newObj_type (k _ _ Φ' _ tk le (fun o' q => I'.psi_new o' q) I'.new_low (I'.pushPsi (lstObj vs 0)) ⟨vs, 0, rfl, r⟩) (by show vs.toArray.size ≤ sizeLine; rw [List.size_toArray, r.length]; exact fit_line hf)

inductive RepP (prog : Program) (w : World) (Φ : Facts) : List (Value × Value) → List (D × D) → Prop
  | nil : RepP prog w Φ [] []
  | cons {k v : Value} {a b : D} {r : List (Value × Value)} {l : List (D × D)} : Rep prog w Φ k a → Rep prog w Φ v b → RepP prog w Φ r l → RepP prog w Φ ((k, v) :: r) ((a, b) :: l)
theorem snd_pairs (hE : SndE prog w h₀ o n) {pos : Pos} : ∀ {ks : List (Option Expr)} {vs : List Expr} {env : MEnv} {ps : List (D × D)} {env' : MEnv}, pairsE o env ks vs = some (ps, env') → ∀ {Φ : Facts} {s : Shared} {Q : List (Value × Value) → Shared → Prop}, Inv prog w h₀ Ψ Φ s.heap pe V env → Room n A →
    (∀ r Φ' h' tk, Le Φ Φ' → Inv prog w h₀ Ψ Φ' h' pe V env' → RepP prog w Φ' r ps → Q r { s with heap := h', toks := tk }) → wpAny (model prog w) A (evalPairs (pairTrees ks vs pe pos)) Q NoE s
  | [], [], env, ps, env', e, Φ, s, Q, I, R, k => by
    obtain ⟨rfl, rfl⟩ := sp e
    exact pairTrees_nil_walk (k [] Φ s.heap s.toks (Le.refl _) I .nil)
  | [], _ :: _, _, _, _, e, _, _, _, _, _, _ => (ns e).elim
  | .none :: _, _, _, _, _, e, _, _, _, _, _, _ => (ns e).elim
  | some _ :: _, [], _, _, _, e, _, _, _, _, _, _ => (ns e).elim
  | some kx :: ks, vx :: vs, env, ps, env', e, Φ, s, Q, I, R, k => by
    refine bo2 e fun kd env1 hk e => bo2 e fun vd env2 hv e => bo2 e fun ps' env3 hp e => ?_
    obtain ⟨rfl, rfl⟩ := sp e
    refine pairTrees_cons_walk (hE _ _ _ _ hk _ _ _ _ _ _ _ I R fun u Φ1 h1 t1 le1 I1 r1 => hE _ _ _ _ hv _ _ _ _ _ _ _ I1 R fun v Φ2 h2 t2 le2 I2 r2 => snd_pairs hE hp I2 R fun r Φ3 h3 t3 le3 I3 r3 => ?_)
    exact k _ Φ3 h3 t3 ((le1.trans le2).trans le3) I3 (.cons (r1.mono (le2.trans le3)) (r2.mono le3) r3)
theorem pairsE_length : ∀ {ks : List (Option Expr)} {vs : List Expr} {env : MEnv} {ps : List (D × D)} {env' : MEnv}, pairsE o env ks vs = some (ps, env') → ks.all (·.isSome) = true ∧ ks.length = vs.length
  | [], [], _, _, _, _ => ⟨rfl, rfl⟩
  | [], _ :: _, _, _, _, e => (ns e).elim
  | .none :: _, _, _, _, _, e => (ns e).elim
  | some _ :: _, [], _, _, _, e => (ns e).elim
  | some kx :: ks, vx :: vs, env, ps, env', e => bo2 e fun kd env1 hk e => bo2 e fun vd env2 hv e => bo2 e fun ps' env3 hp e =>
    ⟨(pairsE_length hp).1, congrArg (· + 1) (pairsE_length hp).2⟩
section
variable {T : Type} [DecidableEq T] {em : T → D} {knd : KeyKind prog w T} {isK : D → Bool}
theorem notIn_of (hem : ∀ a b, keyEq (em a) (em b) = some (decide (a = b))) {x : T} : ∀ {l : List (D × D)} {kvs : List (T × Value)}, notIn (em x) l = true → RepK prog w Φ (kvs.map fun p => (em p.1, p.2)) l → x ∉ kvs.map (·.1)
  | _, [], _, _ => by simp
  | l, (y, v) :: kvs, e, q => by
    cases q with
    | cons h q =>
      rw [notIn, hem] at e
      rw [List.map_cons, List.mem_cons]
      by_cases hk : x = y
      · rw [decide_eq_true hk] at e; exact absurd e Bool.false_ne_true
      · rw [decide_eq_false hk] at e
        exact fun z => z.elim hk (notIn_of hem e q)
theorem display (hem : ∀ a b, keyEq (em a) (em b) = some (decide (a = b))) (hk : ∀ {d : D} {u : Value}, isK d = true → Rep prog w Φ u d → ∃ k, d = em k ∧ knd.is k u = true) : ∀ {r : List (Value × Value)} {l : List (D × D)}, RepP prog w Φ r l → distinctK isK l = true →
    ∃ kvs : List (T × Value), Carries knd r kvs ∧ RepK prog w Φ (kvs.map fun p => (em p.1, p.2)) l ∧ (kvs.map (·.1)).Nodup
  | _, _, .nil, _ => ⟨[], trivial, .nil, List.nodup_nil⟩
  | _, _, .cons (r := r) h1 h2 h3, e => by
    obtain ⟨e1, e⟩ := ite_true_and e
    obtain ⟨e2, e⟩ := ite_true_and e
    obtain ⟨kvs, a, b, c⟩ := display hem hk h3 e
    obtain ⟨k, rfl, q⟩ := hk e1 h1
    refine ⟨(k, _) :: kvs, ⟨q, rfl, a⟩, .cons h2 b, ?_⟩
    rw [List.map_cons, List.nodup_cons]
    exact ⟨notIn_of hem e2 b, c⟩
end
theorem isStrD_rep {d : D} {u : Value} (h : isStrD d = true) (r : Rep prog w Φ u d) : ∃ k, d = .str k ∧ (strKind prog w).is k u = true := by
  obtain ⟨k, hk⟩ := isSome_get h
  rw [asStr_some hk] at r
  obtain ⟨t, rfl⟩ := r.str_inv
  exact ⟨k, asStr_some hk, strKind_is prog w _ _⟩
theorem isIntD_rep {d : D} {u : Value} (h : isIntD d = true) (r : Rep prog w Φ u d) : ∃ k, d = .int k ∧ (intKind prog w).is k u = true := by
  obtain ⟨k, hk⟩ := isSome_get h
  rw [asInt_some hk] at r
  obtain ⟨t, rfl⟩ := r.int_inv
  exact ⟨k, asInt_some hk, intKind_is prog w _ _⟩
noncomputable abbrev emptyDict : Obj := { cls := .type "dict", data := .dict #[] }
theorem mk_dict_any {T : Type} [DecidableEq T] {knd : KeyKind prog w T} {em : T → D} (hE : SndE prog w h₀ o n) {ks : List (Option Expr)} {vs : List Expr} {pos : Pos} {ps : List (D × D)} {env' : MEnv} (h0 : ks ≠ []) (hlen : ks.length ≤ 15) (hp : pairsE o env ks vs = some (ps, env'))
    (disp : ∀ Φ r, RepP prog w Φ r ps → ∃ kvs : List (T × Value), Carries knd r kvs ∧ RepK prog w Φ (kvs.map fun p => (em p.1, p.2)) ps ∧ (kvs.map (·.1)).Nodup)
    (mk : ∀ Φ ob (kvs : List (T × Value)), ob.IsDictOf knd kvs → RepK prog w Φ (kvs.map fun p => (em p.1, p.2)) ps → RepO prog w Φ ob ps) {Q : Value → Shared → Prop}
    (I : Inv prog w h₀ Ψ Φ s.heap pe V env) (R : Room n A) (k : OkNew prog w h₀ Ψ Φ s pe V env' (DictP prog w ps) Q) : wpAny (model prog w) A (eval (.Dict ks vs pos) pe) Q NoE s := by
  obtain ⟨hall, hl⟩ := pairsE_length hp
  refine wpAny_Dict_walk (knd := knd) hall hl h0 hlen ?_
  have hn : ∀ o', ¬ Ψ s.heap.objs.size o' := fun o' q => I.psi_new o' q
  refine snd_pairs hE (s := { s with heap := s.heap.push emptyDict }) hp (I.pushPsi emptyDict) R fun r Φ1 h1 t1 le1 I1 r1 => ?_
  obtain ⟨kvs, a, b, c⟩ := disp _ _ r1
  refine ⟨kvs, a, ?_, fun h' hd hs => ?_⟩
  · have e0 := I1.psi s.heap.objs.size emptyDict (.inr ⟨rfl, rfl⟩)
    refine Heap.dictOf_iff.mpr ⟨_, e0, ?_⟩
    obtain ⟨o₂, g₂, q₂⟩ := Heap.dictOf_iff.mp (Heap.DictOf.new (knd := knd) s.heap)
    have : (s.heap.push emptyDict).get? s.heap.objs.size = some emptyDict := Heap.get?_push_size _ rfl
    rw [this] at g₂; cases g₂
    exact q₂
  · rw [merged_nil_of_nodup kvs c] at hd
    obtain ⟨ob, g, q⟩ := Heap.dictOf_iff.mp hd
    exact k _ ob Φ1 h' _ le1 hn I.new_low (I1.fill hn hs g) (mk _ _ _ q b)
theorem mk_dict (hE : SndE prog w h₀ o n) {ks : List (Option Expr)} {vs : List Expr} {pos : Pos} {ps : List (D × D)} {env' : MEnv} (e : dictE o env ks vs = some (ps, env')) {Q : Value → Shared → Prop}
    (I : Inv prog w h₀ Ψ Φ s.heap pe V env) (R : Room n A) (k : OkNew prog w h₀ Ψ Φ s pe V env' (DictP prog w ps) Q) : wpAny (model prog w) A (eval (.Dict ks vs pos) pe) Q NoE s := by
  refine bi e fun hlen e => bo2 e fun ps' env1 hp e => bi e fun hd e => ?_
  obtain ⟨rfl, rfl⟩ := sp e
  have hlen := Nat.le_of_ble_eq_true hlen
  by_cases h0 : ks = []
  · subst h0
    obtain rfl := List.length_eq_zero_iff.mp (pairsE_length hp).2.symm
    obtain ⟨rfl, rfl⟩ := sp hp
    refine wpAny_Dict_empty (k _ emptyDict Φ _ s.toks (Le.refl _) (fun o' q => I.psi_new o' q) I.new_low (I.pushPsi _) ?_)
    obtain ⟨o₂, g₂, q₂⟩ := Heap.dictOf_iff.mp (Heap.DictOf.new (knd := strKind prog w) s.heap)
    have : (s.heap.push emptyDict).get? s.heap.objs.size = some emptyDict := Heap.get?_push_size _ rfl
    obtain rfl := s1 (this.symm.trans g₂)
    exact .sk (kvs := []) q₂ .nil
  · cases hS : distinctK isStrD ps' with
    | true => exact mk_dict_any (knd := strKind prog w) (em := D.str) hE h0 hlen hp (fun Φ r q => display em_str isStrD_rep q hS) (fun Φ ob kvs a b => .sk a b) I R k
    | false =>
      rw [hS] at hd
      exact mk_dict_any (knd := intKind prog w) (em := D.int) hE h0 hlen hp (fun Φ r q => display em_int isIntD_rep q hd) (fun Φ ob kvs a b => .ik a b) I R k
theorem snd_Dict (hE : SndE prog w h₀ o n) {ks : List (Option Expr)} {vs : List Expr} {pos : Pos} {d : D} {env' : MEnv}
    (e : (o2 (dictE o env ks vs) fun l env1 => some (D.dict l, env1)) = some (d, env')) {Q : Value → Shared → Prop} (I : Inv prog w h₀ Ψ Φ s.heap pe V env) (R : Room n A)
    (k : OkE prog w h₀ Ψ Φ s pe V env' d Q) : wpAny (model prog w) A (eval (.Dict ks vs pos) pe) Q NoE s := by
  refine bo2 e fun l env1 hd e => ?_
  have k := okE_eq e k
  exact mk_dict hE hd I R fun a ob Φ' h' tk le hn hs I' r => k _ _ h' tk (le.trans (le_also _ _ _)) (I'.give hn) (.dict (also_at _ _ _) hs (RepO.mono (le_also _ _ _) r))
end
end Mine

set_option Elab.async false
set_option maxRecDepth 100000
namespace Mine
open PySem PySem.W PyProof.Rows PySem.Calls

section
variable {prog : Program} {w : World} {h₀ : Base} {h h' : Heap} {K : Frag} {g : Gt} {o : Orc} {n : Nat} {Ψ Φ Φ' : Facts} {pe : PySem.Env} {V : Str → Option Value} {env : MEnv} {A : Around} {s : Shared}

noncomputable def upd (V : Str → Option Value) (x : Str) (v : Value) : Str → Option Value := fun y => if y = x then some v else V y
set_option tactic.hygienic true in
theorem isOwnVar_kind {x : Str} (hx : env.isOwnVar x = true) : kindL env.names x = some .local ∨ kindL env.names x = some .cell := by
  unfold MEnv.isOwnVar at hx
  split at hx
  · rename_i e; exact .inl e
  · rename_i e; exact .inr e
  · cases hx
theorem isVar_of_own {x : Str} (hx : env.isOwnVar x = true) : env.isVar x = true := by
  unfold MEnv.isVar
  rcases isOwnVar_kind hx with e | e <;> rw [e]
/-- a variable is bound -/
theorem store_var {M : Model} {x : Str} {v : Value} {Q : Unit → Shared → Prop} {E : Value → Shared → Prop} (I : Inv prog w h₀ Ψ Φ s.heap pe V env) (hx : env.isOwnVar x = true)
    (k : ∀ c h' tk, FrameAt pe env c → Heap.SameBut c s.heap h' → (∀ env', env'.names = env.names → Real env' h' pe (upd V x v)) → Q () { s with heap := h', toks := tk }) : wpAny M A (storeName pe x v) Q E s := by
  rcases isOwnVar_kind hx with e | e
  · obtain ⟨m, hm, q⟩ := I.real.loc
    refine wpAny_storeName_local (I.kinds.kind x _ e) hm (fun h' hn hs => k pe.locals h' _ (.inl rfl) hs fun env' he => ⟨⟨_, hn, fun y hy => ?_⟩, fun y hy => ?_⟩) ?_
    · unfold upd
      split
      · rfl
      · exact q y (he ▸ hy)
    · have hy : CellName env y := by unfold CellName at hy ⊢; rwa [he] at hy
      obtain ⟨c, h1, o', h2, h3⟩ := I.real.cell y hy
      have ne : y ≠ x := fun z => by
        rw [z] at hy
        rcases hy with hy | hy <;> rw [e] at hy <;> cases hy
      refine ⟨c, h1, o', (hs.2 c fun z => I.cellLoc y hy (z ▸ h1)).trans h2, ?_⟩
      rw [h3]; unfold upd; rw [if_neg ne]
    · rw [I.kinds.fn]; rfl
  · obtain ⟨c, h1, h2⟩ := I.real.cell x (.inl e)
    refine wpAny_storeName_cell I.kinds.fn (I.kinds.kind x _ e) h1 h2 fun h' hc hs => k c h' s.toks (.inr ⟨x, e, h1⟩) hs fun env' he => ⟨?_, fun y hy => ?_⟩
    · obtain ⟨m, hm, q⟩ := I.real.loc
      refine ⟨m, hm.sameBut hs fun z => I.cellLoc x (.inl e) (z ▸ h1), fun y hy => ?_⟩
      have ne : y ≠ x := fun z => by rw [z, he, e] at hy; cases hy
      unfold upd; rw [if_neg ne]; exact q y (he ▸ hy)
    · have hy : CellName env y := by unfold CellName at hy ⊢; rwa [he] at hy
      by_cases ne : y = x
      · subst ne
        exact ⟨c, h1, by unfold upd; rw [if_pos rfl]; exact hc⟩
      · obtain ⟨c', h1', o', h2', h3'⟩ := I.real.cell y hy
        refine ⟨c', h1', o', (hs.2 c' fun z => ne ?_).trans h2', ?_⟩
        · exact seq_iff.mp (I.apartCells y x c hy (.inl e) (z ▸ h1') h1)
        · rw [h3']; unfold upd; rw [if_neg ne]
theorem put_names (x : Str) (sl : Slot) : (env.put x sl).names = env.names := rfl
theorem put_vars (x : Str) (sl : Slot) : (env.put x sl).vars = putv env.vars x sl := rfl
theorem frame_put {x : Str} {sl : Slot} {a : Addr} : FrameAt pe (env.put x sl) a ↔ FrameAt pe env a := Iff.rfl
/-- what a write of the frame keeps -/
theorem keep_frame {c : Addr} (I : Inv prog w h₀ Ψ Φ h pe V env) (hc : FrameAt pe env c) (hs : Heap.SameBut c h h') : (∀ a x, Ψ a x → h'.get? a = some x) ∧ (∀ a x, Φ a x → h'.get? a = some x) ∧
    ∀ y d, env.isVar y = true → getv env.vars y = some (.own d) → ∀ v, V y = some v → Own prog w Φ h' v d ∧ ∀ b, OwnAt h' v b → OwnAt h v b := by
  have f := I.frame c hc
  refine ⟨fun a x q => (hs.2 a fun e => f.1 x (e ▸ q)).trans (I.psi a x q), fun a x q => (hs.2 a fun e => f.2 x (e ▸ q)).trans (I.phi a x q), fun y d hy hd v hv => ?_⟩
  obtain ⟨v', hv', r, q⟩ := I.own y d hy hd
  rw [hv] at hv'; cases hv'
  have ne : ∀ b, OwnAt h v b → b ≠ c := fun b hb z => (q b hb).2.2 (z ▸ hc)
  exact ⟨r.keep fun b o' hb e => (hs.2 b (ne b hb)).trans e, fun b hb => OwnAt.back r (fun o' ⟨a, e, g⟩ => ⟨a, e, (hs.2 a (ne a (.inl e))).trans g⟩) hb⟩
theorem upd_ne {x y : Str} {v : Value} (e : seq x y = false) : upd V x v y = V y := by unfold upd; rw [if_neg (Ne.symm (seq_false e))]
theorem upd_self (x : Str) (v : Value) : upd V x v x = some v := by unfold upd; rw [if_pos rfl]

theorem Inv.bindDat {x : Str} {d : D} {v : Value} {c : Addr} (I : Inv prog w h₀ Ψ Φ h pe V env) (hc : FrameAt pe env c) (hs : Heap.SameBut c h h') (hr : Real (env.put x (.dat d)) h' pe (upd V x v)) (rv : Rep prog w Φ v d) (hp : ∀ y, env.pin = some y → seq x y = false) :
    Inv prog w h₀ Ψ Φ h' pe (upd V x v) (env.put x (.dat d)) := by
  obtain ⟨k1, k2, k3⟩ := keep_frame I hc hs
  have no : ∀ y d', getv (env.put x (.dat d)).vars y = some (.own d') → seq x y = false ∧ getv env.vars y = some (.own d') := fun y d' hy => by
    rw [put_vars] at hy
    cases k : seq x y with
    | true =>
      have := seq_iff.mp k
      subst this
      rw [getv_putv_self] at hy; cases hy
    | false => exact ⟨rfl, by rwa [getv_putv_ne _ k] at hy⟩
  exact {
    kinds := ⟨I.kinds.fn, I.kinds.glob, I.kinds.blt, I.kinds.kind, I.kinds.plain⟩
    real := hr
    psi := k1
    phi := k2
    frame := I.frame
    apartCells := I.apartCells
    cellLoc := I.cellLoc
    dat := fun y e hy he => by
      cases k : seq x y with
      | true =>
        have := seq_iff.mp k
        subst this
        rw [put_vars, getv_putv_self] at he
        cases he
        exact ⟨v, upd_self _ _, rv⟩
      | false =>
        rw [put_vars, getv_putv_ne _ k] at he
        rw [upd_ne k]
        exact I.dat y e hy he
    own := fun y e hy he => by
      obtain ⟨k, he⟩ := no y e he
      rw [upd_ne k]
      obtain ⟨u, hu, _, q⟩ := I.own y e hy he
      obtain ⟨r, back⟩ := k3 y e hy he u hu
      exact ⟨u, hu, r, fun b hb => q b (back b hb)⟩
    apart := fun y z e f u t b hy hz hyz gy gz hu ht bu bt => by
      obtain ⟨ky, gy⟩ := no y e gy
      obtain ⟨kz, gz⟩ := no z f gz
      rw [upd_ne ky] at hu
      rw [upd_ne kz] at ht
      exact I.apart y z e f u t b hy hz hyz gy gz hu ht ((k3 y e hy gy u hu).2 b bu) ((k3 z f hz gz t ht).2 b bt)
    low := ⟨I.low.1, fun y e => (upd_ne (hp y e)).trans (I.low.2 y e)⟩
    base := I.base
    sep := I.sep }

/-- a fresh container is bound to a variable -/
theorem Inv.bindOwn {x : Str} {d : D} {a c : Addr} {ob : Obj} (I : Inv prog w h₀ (also Ψ a ob) Φ h pe V env) (hn : ∀ o', ¬ Ψ a o') (hc : FrameAt pe env c) (hs : Heap.SameBut c h h') (hr : Real (env.put x (.own d)) h' pe (upd V x (.ref a)))
    (ro : Own prog w Φ h' (.ref a) d) (only : ∀ b, OwnAt h' (.ref a) b → b = a) (hp : ∀ y, env.pin = some y → seq x y = false) : Inv prog w h₀ Ψ Φ h' pe (upd V x (.ref a)) (env.put x (.own d)) := by
  obtain ⟨k1, k2, k3⟩ := keep_frame I hc hs
  have old : ∀ y d', seq x y = false → getv (env.put x (.own d)).vars y = some (.own d') → getv env.vars y = some (.own d') := fun y d' k hy => by
    rwa [put_vars, getv_putv_ne _ k] at hy
  have nown : ∀ y e, env.isVar y = true → getv env.vars y = some (.own e) → ∀ u, V y = some u → ¬ OwnAt h' u a := fun y e hy gy u hu z => by
    obtain ⟨u', hu', _, q⟩ := I.own y e hy gy
    rw [hu] at hu'; cases hu'
    exact (q a ((k3 y e hy gy u hu).2 a z)).1 ob (.inr ⟨rfl, rfl⟩)
  exact {
    kinds := ⟨I.kinds.fn, I.kinds.glob, I.kinds.blt, I.kinds.kind, I.kinds.plain⟩
    real := hr
    psi := fun b x' q => k1 b x' (.inl q)
    phi := k2
    frame := fun b z => ⟨fun o' q => (I.frame b z).1 o' (.inl q), (I.frame b z).2⟩
    apartCells := I.apartCells
    cellLoc := I.cellLoc
    dat := fun y e hy he => by
      cases k : seq x y with
      | true =>
        have := seq_iff.mp k
        subst this
        rw [put_vars, getv_putv_self] at he
        cases he
      | false =>
        rw [put_vars, getv_putv_ne _ k] at he
        rw [upd_ne k]
        exact I.dat y e hy he
    own := fun y e hy he => by
      cases k : seq x y with
      | true =>
        have := seq_iff.mp k
        subst this
        rw [put_vars, getv_putv_self] at he
        cases he
        refine ⟨_, upd_self _ _, ro, fun b hb => ?_⟩
        have := only b hb
        subst this
        exact ⟨hn, fun o' q => I.sep b ob o' (.inr ⟨rfl, rfl⟩) q, fun z => (I.frame b z).1 ob (.inr ⟨rfl, rfl⟩)⟩
      | false =>
        have he := old y e k he
        rw [upd_ne k]
        obtain ⟨u, hu, _, q⟩ := I.own y e hy he
        obtain ⟨r, back⟩ := k3 y e hy he u hu
        exact ⟨u, hu, r, fun b hb => ⟨fun o' z => (q b (back b hb)).1 o' (.inl z), (q b (back b hb)).2⟩⟩
    apart := fun y z e f u t b hy hz hyz gy gz hu ht bu bt => by
      cases ky : seq x y with
      | true =>
        have := seq_iff.mp ky
        subst this
        have kz := hyz
        have gz := old z f kz gz
        rw [upd_ne kz] at ht
        rw [upd_self] at hu; cases hu
        have := only b bu
        subst this
        exact nown z f hz gz t ht bt
      | false =>
        have gy := old y e ky gy
        rw [upd_ne ky] at hu
        cases kz : seq x z with
        | true =>
          have := seq_iff.mp kz
          subst this
          rw [upd_self] at ht; cases ht
          have := only b bt
          subst this
          exact nown y e hy gy u hu bu
        | false =>
          have gz := old z f kz gz
          rw [upd_ne kz] at ht
          exact I.apart y z e f u t b hy hz hyz gy gz hu ht ((k3 y e hy gy u hu).2 b bu) ((k3 z f hz gz t ht).2 b bt)
    low := ⟨I.low.1, fun y e => (upd_ne (hp y e)).trans (I.low.2 y e)⟩
    base := I.base
    sep := fun b x' y p q => I.sep b x' y (.inl p) q }
end
end Mine

set_option Elab.async false
set_option maxRecDepth 100000
namespace Mine
open PySem PySem.W PyProof.Rows PySem.Calls

section
variable {prog : Program} {w : World} {h₀ : Base} {h h' : Heap} {K : Frag} {g : Gt} {o : Orc} {n : Nat} {Ψ Φ Φ' : Facts} {pe : PySem.Env} {V : Str → Option Value} {env : MEnv} {A : Around} {s : Shared}

theorem dict_data {T : Type} [DecidableEq T] {knd : KeyKind prog w T} {ob : Obj} {kvs : List (T × Value)} (k : ob.IsDictOf knd kvs) : ob.cls = .type "dict" ∧ ∀ v, ob.data ≠ .cell v := by
  obtain ⟨es, ep, h1, h2, _⟩ := k
  exact ⟨h1.1, fun v e => by rw [h2] at e; cases e⟩
theorem RepO.data {ob : Obj} {l : List (D × D)} (r : RepO prog w Φ ob l) : ob.cls = .type "dict" ∧ ∀ v, ob.data ≠ .cell v := by
  cases r with
  | ik k _ => exact dict_data k
  | sk k _ => exact dict_data k
  | bk k _ => exact dict_data k
theorem Own.noCell {v : Value} {d : D} (x : Own prog w Φ h v d) {b : Addr} (q : OwnAt h v b) : ∀ ob, h.get? b = some ob → ∀ y, ob.data ≠ .cell y := by
  intro ob e y z
  cases x with
  | list g r =>
    rcases q with e' | ⟨a, C, e', g'⟩
    · cases e'; rw [g] at e; cases e; cases z
    · cases e'; rw [g] at g'; cases g'
  | dict g n r =>
    rcases q with e' | ⟨a, C, e', g'⟩
    · cases e'; rw [g] at e; cases e; exact r.data.2 y z
    · cases e'; rw [g] at g'; cases g'; have := r.data.1; cases this
  | inst g g' n r =>
    rcases q with e' | ⟨a, C, e', g''⟩
    · cases e'; rw [g] at e; cases e; cases z
    · cases e'; rw [g] at g''; cases g''; rw [g'] at e; cases e; cases z
/-- an own container is written -/
theorem Inv.write {x : Str} {d d' : D} {v : Value} {c : Addr} (I : Inv prog w h₀ Ψ Φ h pe V env) (hx : env.isVar x = true) (hd : getv env.vars x = some (.own d)) (hv : V x = some v) (hc : OwnAt h v c) (hs : Heap.SameBut c h h')
    (ro : Own prog w Φ h' v d') (back : ∀ b, OwnAt h' v b → OwnAt h v b) : Inv prog w h₀ Ψ Φ h' pe V (env.put x (.own d')) := by
  obtain ⟨v', hv', r, q⟩ := I.own x d hx hd
  rw [hv] at hv'; cases hv'
  obtain ⟨c1, c2, c3⟩ := q c hc
  have old : ∀ y e, seq x y = false → getv (env.put x (.own d')).vars y = some e → getv env.vars y = some e := fun y e k hy => by
    rwa [put_vars, getv_putv_ne _ k] at hy
  have other : ∀ y e, env.isVar y = true → seq x y = false → getv env.vars y = some (.own e) → ∀ u, V y = some u → Own prog w Φ h' u e ∧ ∀ b, OwnAt h' u b → OwnAt h u b := fun y e hy k gy u hu => by
    obtain ⟨u', hu', ru, _⟩ := I.own y e hy gy
    rw [hu] at hu'; cases hu'
    have ne : ∀ b, OwnAt h u b → b ≠ c := fun b hb z => I.apart x y d e v u c hx hy k hd gy hv hu hc (z ▸ hb)
    exact ⟨ru.keep fun b o' hb e => (hs.2 b (ne b hb)).trans e, fun b hb => OwnAt.back ru (fun o' ⟨a, e, g⟩ => ⟨a, e, (hs.2 a (ne a (.inl e))).trans g⟩) hb⟩
  exact {
    kinds := ⟨I.kinds.fn, I.kinds.glob, I.kinds.blt, I.kinds.kind, I.kinds.plain⟩
    real := by
      refine ⟨?_, fun y hy => ?_⟩
      · obtain ⟨m, hm, e⟩ := I.real.loc
        exact ⟨m, hm.sameBut hs fun z => c3 (.inl z.symm), e⟩
      · obtain ⟨c', h1, o', h2, h3⟩ := I.real.cell y hy
        refine ⟨c', h1, o', (hs.2 c' fun z => ?_).trans h2, h3⟩
        subst z
        exact r.noCell hc o' h2 _ h3
    psi := fun a o' z => (hs.2 a fun e => c1 o' (e ▸ z)).trans (I.psi a o' z)
    phi := fun a o' z => (hs.2 a fun e => c2 o' (e ▸ z)).trans (I.phi a o' z)
    frame := I.frame
    apartCells := I.apartCells
    cellLoc := I.cellLoc
    dat := fun y e hy he => by
      cases k : seq x y with
      | true =>
        have := seq_iff.mp k
        subst this
        rw [put_vars, getv_putv_self] at he
        cases he
      | false => exact I.dat y e hy (old y _ k he)
    own := fun y e hy he => by
      cases k : seq x y with
      | true =>
        have := seq_iff.mp k
        subst this
        rw [put_vars, getv_putv_self] at he
        cases he
        exact ⟨v, hv, ro, fun b hb => q b (back b hb)⟩
      | false =>
        have he := old y _ k he
        obtain ⟨u, hu, _, qu⟩ := I.own y e hy he
        obtain ⟨ru, bu⟩ := other y e hy k he u hu
        exact ⟨u, hu, ru, fun b hb => qu b (bu b hb)⟩
    apart := fun y z e f u t b hy hz hyz gy gz hu ht bu bt => by
      cases ky : seq x y with
      | true =>
        have := seq_iff.mp ky
        subst this
        have gz := old z _ hyz gz
        rw [hv] at hu; cases hu
        exact I.apart x z d f v t b hx hz hyz hd gz hv ht (back b bu) ((other z f hz hyz gz t ht).2 b bt)
      | false =>
        have gy := old y _ ky gy
        cases kz : seq x z with
        | true =>
          have := seq_iff.mp kz
          subst this
          rw [hv] at ht; cases ht
          exact I.apart x y d e v u b hx hy ky hd gy hv hu (back b bt) ((other y e hy ky gy u hu).2 b bu)
        | false =>
          have gz := old z _ kz gz
          exact I.apart y z e f u t b hy hz hyz gy gz hu ht ((other y e hy ky gy u hu).2 b bu) ((other z f hz kz gz t ht).2 b bt)
    low := I.low
    base := I.base
    sep := I.sep }
end
end Mine

set_option Elab.async false
set_option maxRecDepth 100000
namespace Mine
open PySem PySem.W PyProof.Rows PySem.Calls

section
variable {prog : Program} {w : World} {A : Around} {E : Value → Shared → Prop} {s : Shared}
theorem draw_list {it t : Addr} {items : Array Value} (hne : t ≠ it) : ∀ (n i : Nat) (s : Shared) (Q : List Value → Shared → Prop), s.heap.IsListIter it t i → s.heap.IsList t items → i + n ≤ items.size →
    (∀ h', h'.IsListIter it t (i + n) → Heap.SameBut it s.heap h' → Q ((items.toList.drop i).take n) { s with heap := h' }) → wpAny (model prog w) A (draw (.ref it) n) Q E s
  | 0, i, s, Q, hit, _, _, hQ => by
    show wpAny _ _ (pure []) Q E s
    exact wpAny_pure (by simpa using hQ s.heap hit (Heap.SameBut.refl ..))
  | n + 1, i, s, Q, hit, ht, hle, hQ => by
    have hlt : i < items.size := by omega
    show wpAny _ _ (pyNext (.ref it) >>= _) Q E s
    refine wpAny_bind (wpAny_pyNext_list_item hit ht (x := items[i]) (by simp [hlt]) fun h₁ hit₁ hs₁ => ?_)
    refine wpAny_bind (wpAny_holding (draw_list hne n (i + 1) _ _ hit₁ (ht.extBut hs₁.extBut hne) (by omega) fun h₂ hit₂ hs₂ => wpAny_pure ?_))
    have hd : items.toList.drop i = items[i] :: items.toList.drop (i + 1) := by simp [List.drop_eq_getElem_cons, hlt]
    have := hQ h₂ (by rw [show i + (n + 1) = i + 1 + n by omega]; exact hit₂) (hs₁.trans hs₂)
    rw [hd, List.take_succ_cons] at this
    exact this
theorem unpackItems_list {t : Addr} {items : Array Value} {Q : List Value → Shared → Prop} (hh : A.handled = none) (ht : s.heap.IsList t items)
    (hQ : ∀ h', Heap.ExtBut s.heap.objs.size s.heap h' → Q items.toList { s with heap := h' }) : wpAny (model prog w) A (unpackItems (.ref t) items.size none) Q E s := by
  have hlt : t ≠ s.heap.objs.size := by obtain ⟨o, ho, _⟩ := ht; exact Nat.ne_of_lt (Heap.lt_size ho)
  unfold unpackItems
  refine wpAny_bind ?_
  · unfold notIterableAtAll
    refine wpAny_bind (wpAny_specialOf ht.typeIs slot_list_iter.lookup ?_)
    refine wpAny_pure ?_
    simp only [Bool.false_eq_true, if_false]
    refine wpAny_bind (wpAny_holding (wpAny_pyIter_list ht ?_))
    refine wpAny_bind (wpAny_holding (draw_list hlt items.size 0 _ _ ⟨_, Heap.get?_push_size _ rfl, rfl, rfl⟩ (ht.push _) (by omega) fun h₁ hit₁ hs₁ => ?_))
    have hall : List.take items.size (List.drop 0 items.toList) = items.toList := by
      rw [List.drop_zero]; exact List.take_of_length_le (by simp)
    rw [hall]
    rw [if_neg (by simp)]
    have ht₁ : h₁.IsList t items := (ht.push _).extBut hs₁.extBut hlt
    refine wpAny_bind (wpAny_holding (wpAny_pyNext_list_end hh hit₁ ht₁ (by simp) fun h₂ he₂ => ?_))
    simp only [Option.isSome_none, Bool.false_eq_true, if_false]
    refine wpAny_pure (hQ h₂ fun b o hb e => he₂ b o hb (hs₁.extBut b o hb (Heap.get?_push_of_some _ e)))
theorem setItem_raw {l : Addr} {items : Array Value} {m : Nat} {k : Int} {t : Tok} {v : Value} {Q : Unit → Shared → Prop} (hl : s.heap.get? l = some { cls := .type "list", data := .seq items m })
    (h0 : 0 ≤ k) (hfit : k < 2 ^ 63) (hn : k < items.size)
    (hQ : Q () { s with heap := s.heap.update l (Obj.mapSeq (·.setIfInBounds k.toNat v)) }) :
    wpAny (model prog w) A (setItem (.ref l) (.int k t) v) Q E s := by
  have il : s.heap.IsList l items := ⟨_, hl, rfl, _, rfl⟩
  obtain ⟨o, ho, hc, ne, hd⟩ := id il
  unfold setItem
  try with_reducible refine wpAny_holding ?_
  first | refine wpAny_bind (wpAny_pure ?_) | skip
  refine wpAny_bind (wpAny_sequenceKey il.typeIs (by decide) ?_)
  refine wpAny_bind (wpAny_callSpecial?_slot (name := Str.ofString "__setitem__") il.typeIs slot_list_setitem
    (wpAny_call_entry slot_list_setitem il.typeIs entry_list_setitem ?_ (args_list_setitem _ _ _)))
  show wpAny _ _ (Builtin.List.listSubscript? (.int k t) >>= _) _ _ s
  refine wpAny_bind (wpAny_listSubscript_int (fitsIndex_of h0 hfit) ?_)
  clear hfit
  obtain ⟨j, rfl⟩ := Int.eq_ofNat_of_zero_le h0
  have hj : j < items.size := by omega
  have hx' : items[j]? = some items[j] := Array.getElem?_eq_getElem hj
  show wpAny _ _ ((seqItemAt l j >>= fun r => pure (r.map (j, ·))) >>= _) _ _ s
  refine wpAny_bind (wpAny_bind (wpAny_seqItemAt ho hd (wpAny_pure ?_)))
  rw [hx']
  show wpAny _ _ (setSeqItemAt l j v >>= _) _ _ s
  refine wpAny_bind (wpAny_setSeqItemAt ho hd ?_)
  first
    | exact wpAny_bind (wpAny_pure (wpAny_pure ⟨.none, rfl, wpAny_pure hQ⟩))
    | exact wpAny_pure ⟨.none, rfl, wpAny_pure hQ⟩
end

section
variable {prog : Program} {w : World} {h₀ : Base} {h h' : Heap} {K : Frag} {g : Gt} {o : Orc} {n : Nat} {Ψ Φ Φ' : Facts} {pe : PySem.Env} {V : Str → Option Value} {env : MEnv} {A : Around} {s : Shared}
theorem Reps.setAt {v : Value} {d : D} (r : Rep prog w Φ v d) : ∀ {vs : List Value} {l : List D}, Reps prog w Φ vs l → ∀ {j : Nat} {l' : List D}, setAt l j d = some l' → j < vs.length ∧ Reps prog w Φ (vs.set j v) l'
  | _, _, .nil, j, l', e => (ns e).elim
  | _, _, .cons r0 q, 0, l', e => s1 e ▸ ⟨Nat.succ_pos _, .cons r q⟩
  | _, _, .cons r0 q, j + 1, l', e => by
    refine bo1 e fun l2 h2 e => ?_
    obtain ⟨a, b⟩ := Reps.setAt r q h2
    exact s1 e ▸ ⟨Nat.succ_lt_succ a, .cons r0 b⟩
theorem mapSeq_lst (f : Array Value → Array Value) (vs : List Value) (m : Nat) : ∃ m', (Obj.mapSeq f (lstObj vs m)) = { cls := .type "list", data := .seq (f vs.toArray) m' } := ⟨_, rfl⟩
theorem ownAt_list {l : Addr} {vs : List Value} {m : Nat} {b : Addr} (g : h.get? l = some (lstObj vs m)) (q : OwnAt h (.ref l) b) : b = l := by
  rcases q with e | ⟨a, C, e, g'⟩
  · injection e with e; exact e.symm
  · injection e with e; subst e; exact nomatch congrArg Obj.cls (s1 (g.symm.trans g'))
theorem ownAt_dict {l : Addr} {ob : Obj} {d : List (D × D)} {b : Addr} (g : h.get? l = some ob) (r : RepO prog w Φ ob d) (q : OwnAt h (.ref l) b) : b = l := by
  rcases q with e | ⟨a, C, e, g'⟩
  · injection e with e; exact e.symm
  · injection e with e; subst e; exact nomatch r.cls.symm.trans (congrArg Obj.cls (s1 (g.symm.trans g')))
/-- an own list gets other items -/
theorem Inv.rewriteList {x : Str} {l : Addr} {vs us : List Value} {m : Nat} {ds ds' : List D} {f : Array Value → Array Value} (I : Inv prog w h₀ Ψ Φ h pe V env) (hx : env.isVar x = true) (hd : getv env.vars x = some (.own (.list ds))) (hv : V x = some (.ref l))
    (gl : h.get? l = some (lstObj vs m)) (hf : f vs.toArray = us.toArray) (r : Reps prog w Φ us ds') : Inv prog w h₀ Ψ Φ (h.update l (Obj.mapSeq f)) pe V (env.put x (.own (.list ds'))) := by
  obtain ⟨m', e⟩ := mapSeq_lst f vs m
  have g' : (h.update l (Obj.mapSeq f)).get? l = some (lstObj us m') := by
    rw [Heap.get?_update_self _ gl (by rw [e]; rfl), e, hf]
  exact I.write hx hd hv (.inl rfl) (Heap.SameBut.update ..) (.list g' r) fun b hb => .inl (by rw [ownAt_list g' hb])
theorem Own.listAt {v : Value} {ds : List D} (x : Own prog w Φ h v (.list ds)) : ∃ l vs m, v = .ref l ∧ h.get? l = some (lstObj vs m) ∧ Reps prog w Φ vs ds := x.inv
theorem Own.dictAt {v : Value} {l : List (D × D)} (x : Own prog w Φ h v (.dict l)) : ∃ a ob, v = .ref a ∧ h.get? a = some ob ∧ a ≠ sysModules ∧ RepO prog w Φ ob l := x.inv
theorem set_own {x : Str} {pos : Pos} {i : Expr} (hE : SndE prog w h₀ o n) {d : D} {u : Value} {env' : MEnv} (e : storeSub o env x i d = some env') {Q : Unit → Shared → Prop} (I : Inv prog w h₀ Ψ Φ s.heap pe V env) (R : Room n A) (ru : Rep prog w Φ u d) (hv₀ : env.isVar x = true) (hu₀ : ∃ v, V x = some v)
    (k : ∀ Φ' h' tk, Le Φ Φ' → Inv prog w h₀ Ψ Φ' h' pe V env' → Q () { s with heap := h', toks := tk }) :
    wpAny (model prog w) A (eval (.Name x pos) pe) (fun ov s₂ => wpAny (model prog w) A (eval i pe) (fun iv s₃ => wpAny (model prog w) A (setItem ov iv u) Q NoE s₃) NoE s₂) NoE s := by
  obtain ⟨v, hv⟩ := hu₀
  refine name_var I hv₀ hv (bo2 e fun kd env1 hk e => bo1 e fun dx ho e => ?_)
  refine hE _ _ _ _ hk _ _ _ _ _ _ _ I R fun iv Φ1 h1 t1 le1 I1 r1 => ?_
  obtain ⟨hx, hd⟩ := own?_of ho
  obtain ⟨v', hv', ro, q⟩ := I1.own x _ hx hd
  obtain rfl := s1 (hv.symm.trans hv')
  cases dx with
  | dict l =>
    refine bi e fun hf e => bo1 e fun l' hp e => ?_
    obtain rfl := s1 e
    obtain ⟨a, ob, rfl, g, ne, r⟩ := ro.dictAt
    obtain ⟨T, _, knd, kk, kvs, X⟩ := keyAt_of r r1 (dput_fits hp)
    refine wpAny_setItem_pairs (kvs := kvs) X.is (Heap.dictOf_iff.mpr ⟨_, g, X.dict⟩) (fun h' hm hs => ?_) (by rw [X.len]; exact fit_line hf)
    obtain ⟨ob', g', y⟩ := Heap.dictOf_iff.mp hm
    have r' := X.put ob' u d l' hp (ru.mono le1) y
    exact k Φ1 h' _ le1 (I1.write hx hd hv (.inl rfl) hs (.dict g' ne r') fun b hb => .inl (by rw [ownAt_dict g' r' hb]))
  | list l =>
    refine bo1 e fun j hj e => bi e fun hf e => bo1 e fun l' hp e => ?_
    obtain rfl := s1 e
    rw [asNat_some hj] at r1
    obtain ⟨t, rfl⟩ := r1.int_inv
    obtain ⟨a, vs, m, rfl, g, r⟩ := ro.listAt
    obtain ⟨hj, r'⟩ := Reps.setAt (ru.mono le1) r hp
    refine setItem_raw g (Int.natCast_nonneg j) (fit63 hf) (by rw [List.size_toArray]; exact Int.ofNat_lt.mpr hj) ?_
    exact k Φ1 _ t1 le1 (I1.rewriteList hx hd hv g (us := vs.set j u) (by simp) r')
  | _ => exact (ns e).elim
end
end Mine

set_option Elab.async false
set_option maxRecDepth 100000
namespace Mine
open PySem PySem.W PyProof.Rows PySem.Calls

section
variable {prog : Program} {w : World} {A : Around} {E : Value → Shared → Prop} {s : Shared} {K : Frag} {x C dx : Addr} {R : Result → Shared → Prop}
set_option tactic.hygienic true in
theorem osa_raw {ox : Obj} {name : Str} {tk : Tok} {v : Value} {es : List DictEntry} {n : Nat} (X : K.In s.heap)
    (I : InstAt s.heap x ox C (some (dictOf es n))) (hd : ox.dict = some dx) (hp : plainOver K C = true) (ht : takerIn K C name = some none) (hh : (clsIn K C).any (·.hasDict) = true)
    (hl : (getL name es).isSome = true) (D : s.heap.get? dx = some (dictOf es n)) (hz : es.length < 1000)
    (h : ∀ h' n' t', Heap.SameBut dx s.heap h' → h'.get? dx = some (dictOf (putL name (PyData.keyHash w.params name) (.str name t') v es) n') → R (.ok (.ret .none)) { s with heap := h', toks := s.toks + 1 }) :
    codeAny (model prog w) A (.call (.builtin "object.__setattr__") ⟨[.ref x, .str name tk, v], []⟩) R s := by
  refine osa_open X I hp ht fun b => ?_
  obtain ⟨cd, hc, hd'⟩ := any_some hh
  have e := putName_dict name (PyData.keyHash w.params name) (.str name s.toks) v es n
  have D' : (s.heap.update dx (Obj.putName name (PyData.keyHash w.params name) (.str name s.toks) v)).get? dx = some (dictOf (putL name (PyData.keyHash w.params name) (.str name s.toks) v es) (putN name es n)) := by
    rw [Heap.get?_update_self _ D (by rw [e]; rfl), e]
  obtain ⟨hx, hcl, hn, -⟩ := I
  obtain ⟨oc, odi, oda, osl⟩ := ox
  dsimp only at hcl hd
  subst hcl hd
  refine wpAny_bind (wpAny_pure (wpAny_bind (wpAny_bind (wpAny_loadPart hx (wpAny_bind ((looks_clsIn X hc).here ?_))))))
  rw [hd']
  refine wpAny_pure (a := some dx) (wpAny_bind (wpAny_pure (wpAny_bind ?_)))
  unfold nsSet
  refine wpAny_bind (wpAny_bind (wpAny_askSetting (wpAny_pure (wpAny_bind (wpAny_mkText (wpAny_bind (wpAny_loadPart D ?_)))))))
  dsimp only
  have c : (!es.toArray.any (·.key.isStr name) && es.toArray.any (·.refKey)) = false := by
    rw [← Array.any_toList, ← Array.any_toList]
    unfold getL at hl
    split at hl
    · rename_i en he
      rw [List.any_eq_true.mpr ⟨en, List.mem_of_find?_eq_some he, List.find?_some he⟩]; rfl
    · split at hl
      · cases hl
      · rename_i z; rw [Bool.not_eq_true] at z; rw [show es.toArray.toList = es from rfl, z, Bool.and_false]
  rw [aRefKeyMayBeTheName_at, c]
  refine wpAny_updatePart D ?_
  have len : (putL name (PyData.keyHash w.params name) (.str name s.toks) v es).length ≤ es.length + 1 := by
    clear e D' hl c D hz h
    induction es with
    | nil => simp [putL]
    | cons a r ih => unfold putL; split <;> simp <;> omega
  refine wpAny_bind (wpAny_lookBehind D' (by exact pastItsLine_dict (by rw [List.size_toArray, sizeLine_eq]; omega)) ?_)
  exact wpAny_pure (h _ _ _ (Heap.SameBut.update ..) D')
theorem setattr_raw {ox : Obj} {name : Str} {v : Value} {es : List DictEntry} {n : Nat} {Q : Unit → Shared → Prop} (X : K.In s.heap)
    (I : InstAt s.heap x ox C (some (dictOf es n))) (hd : ox.dict = some dx) (ok : storeOkB K C name = true)
    (hl : (getL name es).isSome = true) (D : s.heap.get? dx = some (dictOf es n)) (hz : es.length < 1000)
    (h : ∀ h' n' t' tk, Heap.SameBut dx s.heap h' → h'.get? dx = some (dictOf (putL name (PyData.keyHash w.params name) (.str name t') v es) n') → Q () { s with heap := h', toks := tk }) :
    wpAny (model prog w) A (setAttr (.ref x) name v) Q E s := by
  simp only [storeOkB, Bool.and_eq_true] at ok
  exact set_plain X I (beq_iff_eq.mp ok.1.1.1) (osa_raw (s := { s with toks := s.toks + 1 }) X I hd ok.1.1.2 (beq_iff_eq.mp ok.1.2) ok.2 hl D hz fun h' n' t' a b => h h' n' t' _ a b)
end

section
variable {prog : Program} {w : World} {h₀ : Base} {h h' : Heap} {K : Frag} {g : Gt} {o : Orc} {n : Nat} {Ψ Φ Φ' : Facts} {pe : PySem.Env} {V : Str → Option Value} {env : MEnv} {A : Around} {s : Shared}
theorem RepF.length : ∀ {es : List DictEntry} {fs : List (Str × D)}, RepF prog w Φ es fs → es.length = fs.length
  | _, _, .nil => rfl
  | _, _, .cons _ r => by simp [RepF.length r]
theorem RepF.noRef : ∀ {es : List DictEntry} {fs : List (Str × D)}, RepF prog w Φ es fs → es.any (·.refKey) = false
  | _, _, .nil => rfl
  | _, _, .cons h r => by rw [List.any_cons, RepF.noRef r]; rfl
theorem RepF.any {x : Str} {es : List DictEntry} {fs : List (Str × D)} (r : RepF prog w Φ es fs) : (getL x es).isSome = true := by
  unfold getL
  split
  · rfl
  · rw [r.noRef]; rfl
theorem RepF.put {x : Str} {t : Tok} {v : Value} {d : D} (rv : Rep prog w Φ v d) : ∀ {es : List DictEntry} {fs : List (Str × D)}, RepF prog w Φ es fs → RepF prog w Φ (putL x (PyData.keyHash w.params x) (.str x t) v es) (fput fs x d)
  | _, _, .nil => .cons rv .nil
  | _, _, .cons (x := y) (t := t') (v := u) (es := es) h r => by
    unfold putL fput
    by_cases q : seq y x = true
    · rw [if_pos q]
      have := seq_iff.mp q
      subst this
      rw [if_pos (by simp [Value.isStr])]
      exact .cons rv r
    · rw [if_neg q]
      have ne : ¬ (Value.isStr (.str y t') x) = true := fun z => q (seq_iff.mpr (by simpa [Value.isStr] using z))
      rw [if_neg ne]
      exact .cons h (RepF.put rv r)
theorem Own.instAt {v : Value} {C : Nat} {fs : List (Str × D)} (x : Own prog w Φ h v (.inst C fs)) : ∃ a dx es n, v = .ref a ∧ h.get? a = some (instObj C dx) ∧ h.get? dx = some (dictOf es n) ∧ a ≠ dx ∧ RepF prog w Φ es fs := x.inv
theorem store_attr (C : Cx prog w h₀ K g) {x : Str} {Cc : Nat} {fs : List (Str × D)} {f : Str} {d : D} {v u : Value} (hx : env.isVar x = true) (hd : getv env.vars x = some (.own (.inst Cc fs))) (hv : V x = some v) (hf : fieldIn g.fields Cc f = true) (hz : Nat.ble fs.length 100 = true) (ru : Rep prog w Φ u d)
    {Q : Unit → Shared → Prop} {E : Value → Shared → Prop} (I : Inv prog w h₀ Ψ Φ s.heap pe V env) (k : ∀ h' tk, Inv prog w h₀ Ψ Φ h' pe V (env.put x (.own (.inst Cc (fput fs f d)))) → Q () { s with heap := h', toks := tk }) :
    wpAny (model prog w) A (setAttr v f u) Q E s := by
  obtain ⟨v', hv', ro, q⟩ := I.own x _ hx hd
  rw [hv] at hv'; cases hv'
  obtain ⟨a, dx, es, n, rfl, g1, g2, ne, r⟩ := ro.instAt
  refine setattr_raw (frag_at C I) ⟨g1, rfl, rfl, g2⟩ rfl (C.fst _ _ hf) r.any g2 (by rw [r.length]; have := Nat.le_of_ble_eq_true hz; omega) fun h' n' t' tk hs g2' => k h' tk ?_
  have g1' : h'.get? a = some (instObj Cc dx) := (hs.2 a ne).trans g1
  have ad : OwnAt s.heap (.ref a) dx := .inr ⟨a, Cc, rfl, g1⟩
  refine I.write hx hd hv ad hs (.inst g1' g2' ne (r.put ru)) fun b hb => ?_
  rcases hb with e | ⟨a', C', e, g⟩
  · exact .inl e
  · cases e; rw [g1'] at g; cases g; exact ad
end
end Mine

set_option Elab.async false
set_option maxRecDepth 100000
namespace Mine
open PySem PySem.W PyProof.Rows PySem.Calls

section
variable {prog : Program} {w : World} {h₀ : Base} {h h' : Heap} {K : Frag} {g : Gt} {o : Orc} {n : Nat} {Ψ Φ Φ' : Facts} {pe : PySem.Env} {V : Str → Option Value} {env : MEnv} {A : Around} {s : Shared}

theorem Inv.weaken {Ψ' : Facts} (I : Inv prog w h₀ Ψ Φ h pe V env) (le : Le Ψ' Ψ) : Inv prog w h₀ Ψ' Φ h pe V env :=
  { I with
    psi := fun a o q => I.psi a o (le a o q)
    frame := fun a x => ⟨fun o q => (I.frame a x).1 o (le a o q), (I.frame a x).2⟩
    own := fun x d hx hd => by
      obtain ⟨v, hv, r, q⟩ := I.own x d hx hd
      exact ⟨v, hv, r, fun b hb => ⟨fun o z => (q b hb).1 o (le b o z), (q b hb).2⟩⟩
    sep := fun a o o' p q => I.sep a o o' (le a o p) q }
/-- what a fresh container holds -/
inductive OwnP (prog : Program) (w : World) (Φ : Facts) (ob : Obj) : D → Prop
  | list {vs : List Value} {m : Nat} {ds : List D} : ob = lstObj vs m → Reps prog w Φ vs ds → OwnP prog w Φ ob (.list ds)
  | dict {l : List (D × D)} : RepO prog w Φ ob l → OwnP prog w Φ ob (.dict l)
inductive Slot1 (prog : Program) (w : World) (Φ : Facts) (Ψ : Facts) : Facts → Value → Slot → Prop
  | dat {v : Value} {d : D} : Rep prog w Φ v d → Slot1 prog w Φ Ψ Ψ v (.dat d)
  | own {a : Addr} {ob : Obj} {d : D} : (∀ o', ¬ Ψ a o') → a ≠ sysModules → OwnP prog w Φ ob d → Slot1 prog w Φ Ψ (also Ψ a ob) (.ref a) (.own d)
inductive SlotsR (prog : Program) (w : World) (Φ : Facts) : Facts → Facts → List Value → List Slot → Prop
  | nil {Ψ : Facts} : SlotsR prog w Φ Ψ Ψ [] []
  | cons {Ψ Ψ1 Ψp : Facts} {v : Value} {sl : Slot} {vs : List Value} {ss : List Slot} : Slot1 prog w Φ Ψ Ψ1 v sl → SlotsR prog w Φ Ψ1 Ψp vs ss → SlotsR prog w Φ Ψ Ψp (v :: vs) (sl :: ss)
theorem OwnP.mono {ob : Obj} {d : D} (le : Le Φ Φ') (x : OwnP prog w Φ ob d) : OwnP prog w Φ' ob d := by
  cases x with
  | list e r => exact .list e (r.mono le)
  | dict r => exact .dict (r.mono le)
theorem Slot1.mono {Ψ' : Facts} {v : Value} {sl : Slot} (le : Le Φ Φ') (x : Slot1 prog w Φ Ψ Ψ' v sl) : Slot1 prog w Φ' Ψ Ψ' v sl := by
  cases x with
  | dat r => exact .dat (r.mono le)
  | own a b c => exact .own a b (c.mono le)
theorem SlotsR.length {Ψ Ψp : Facts} {vs : List Value} {ss : List Slot} (x : SlotsR prog w Φ Ψ Ψp vs ss) : vs.length = ss.length := by
  induction x with
  | nil => rfl
  | cons _ _ ih => simp [ih]
theorem SlotsR.le {Ψ Ψp : Facts} {vs : List Value} {ss : List Slot} (x : SlotsR prog w Φ Ψ Ψp vs ss) : Le Ψ Ψp := by
  induction x with
  | nil => exact Le.refl _
  | cons a _ ih => cases a with
    | dat _ => exact ih
    | own _ _ _ => exact (le_also _ _ _).trans ih
theorem SlotsR.less {Ψ1 Ψp : Facts} {vs : List Value} {ss : List Slot} (x : SlotsR prog w Φ Ψ1 Ψp vs ss) : ∀ {Ψ : Facts} {a : Addr}, Le Ψ Ψ1 → (∀ o', ¬ Ψ a o') → (∃ o', Ψ1 a o') → ∃ Ψm, SlotsR prog w Φ Ψ Ψm vs ss ∧ Le Ψm Ψp ∧ ∀ o', ¬ Ψm a o' := by
  induction x with
  | nil => exact fun le no zz=> ⟨_, .nil, le, no⟩
  | cons a _ ih =>
    intro Ψ b le no ex
    cases a with
    | dat r =>
      obtain ⟨Ψm, x, y, z⟩ := ih le no ex
      exact ⟨Ψm, .cons (.dat r) x, y, z⟩
    | @own c ob d f ne p =>
      have ncb : c ≠ b := fun e => by
        obtain ⟨o', q⟩ := ex
        exact f o' (e ▸ q)
      obtain ⟨Ψm, x, y, z⟩ := ih (Ψ := also Ψ c ob) (a := b) (fun a' o' q => q.imp (le a' o') id) (fun o' q => q.elim (no o') fun q => ncb q.1.symm) (ex.imp fun o' q => .inl q)
      exact ⟨Ψm, .cons (.own (fun o' q => f o' (le c o' q)) ne p) x, y, z⟩
theorem own_of {ob : Obj} {d : D} {a : Addr} (x : OwnP prog w Φ ob d) (g : h.get? a = some ob) (ne : a ≠ sysModules) : Own prog w Φ h (.ref a) d ∧ ∀ b, OwnAt h (.ref a) b → b = a := by
  cases x with
  | list e r => subst e; exact ⟨.list g r, fun b hb => ownAt_list g hb⟩
  | dict r => exact ⟨.dict g ne r, fun b hb => ownAt_dict g r hb⟩

theorem SlotsR.nil_inv {Ψp : Facts} {vs : List Value} (x : SlotsR prog w Φ Ψ Ψp vs []) : Ψp = Ψ ∧ vs = [] := by cases x; exact ⟨rfl, rfl⟩
theorem SlotsR.cons_inv {Ψp : Facts} {vs : List Value} {sl : Slot} {ss : List Slot} (x : SlotsR prog w Φ Ψ Ψp vs (sl :: ss)) : ∃ Ψ1 v us, vs = v :: us ∧ Slot1 prog w Φ Ψ Ψ1 v sl ∧ SlotsR prog w Φ Ψ1 Ψp us ss := by cases x with
  | cons a b => exact ⟨_, _, _, rfl, a, b⟩
/-- a slot goes to a variable -/
theorem bind_slot {M : Model} {Ψm Ψp : Facts} {x : Str} {v : Value} {sl : Slot} {env' : MEnv} {Q : Unit → Shared → Prop} {E : Value → Shared → Prop} (e : bindName env x sl = some env') (I : Inv prog w h₀ Ψp Φ s.heap pe V env) (le : Le Ψm Ψp)
    (sl1 : match sl with
      | .dat d => Rep prog w Φ v d
      | .own d => ∃ a ob, v = .ref a ∧ (∀ o', ¬ Ψm a o') ∧ a ≠ sysModules ∧ Ψp a ob ∧ OwnP prog w Φ ob d)
    (k : ∀ V' h' tk, Inv prog w h₀ Ψm Φ h' pe V' env' → Q () { s with heap := h', toks := tk }) : wpAny M A (storeName pe x v) Q E s := by
  refine bi e fun hx e => band hx fun hx hu => ?_
  obtain rfl := s1 e
  have hp : ∀ y, env.pin = some y → seq x y = false := fun y ey => by
    unfold unpinned at hu; rw [ey] at hu; simpa using hu
  refine store_var I hx fun c h' tk hc hs hr => ?_
  cases sl with
  | dat d => exact k _ h' tk ((I.weaken le).bindDat hc hs (hr _ rfl) sl1 hp)
  | own d =>
    obtain ⟨a, ob, rfl, no, ne, pa, p⟩ := sl1
    have J : Inv prog w h₀ (also Ψm a ob) Φ s.heap pe V env := I.weaken fun b o' q => q.elim (le b o') fun q => q.1 ▸ q.2 ▸ pa
    have ga : h'.get? a = some ob := (hs.2 a fun z => (I.frame c hc).1 ob (z ▸ pa)).trans (I.psi a ob pa)
    obtain ⟨o1, o2⟩ := own_of p ga ne
    exact k _ h' tk (J.bindOwn no hc hs (hr _ rfl) o1 o2 hp)
theorem bind_names {M : Model} {E : Value → Shared → Prop} : ∀ {ts : List Expr} {vs : List Value} {ss : List Slot} {Ψp : Facts} {env env' : MEnv} {V : Str → Option Value} {s : Shared} {Q : Unit → Shared → Prop}, SlotsR prog w Φ Ψ Ψp vs ss → Inv prog w h₀ Ψp Φ s.heap pe V env → bindNames env ts ss = some env' →
    (∀ V' h' tk, Inv prog w h₀ Ψ Φ h' pe V' env' → Q () { s with heap := h', toks := tk }) → wpAny M A (assignInOrder ((assignEach ts pe).map (·.2)) vs) Q E s
  | [], _, [], _, env, env', V, s, Q, x, I, e, k => by
    obtain ⟨rfl, rfl⟩ := x.nil_inv
    obtain rfl := s1 e
    exact assignInOrder_nil (k V s.heap s.toks I)
  | t :: ts, _, sl :: ss, Ψp, env, env', V, s, Q, x, I, e, k => by
    obtain ⟨Ψ1, v, us, rfl, x1, x2⟩ := x.cons_inv
    refine bo1 e fun y hy e => bo1 e fun env1 hb e2 => ?_
    obtain ⟨p, rfl⟩ := nameT_some hy
    refine assignInOrder_cons (wpAny_assign_Name ?_)
    cases x1 with
    | dat r => exact bind_slot hb I (Le.refl _) r fun V' h' tk I' => bind_names x2 I' e2 fun V' h' tk I' => k V' h' tk I'
    | @own a ob d no ne p =>
      obtain ⟨Ψm, y1, y2, y3⟩ := x2.less (Ψ := Ψ) (a := a) (le_also _ _ _) no ⟨ob, .inr ⟨rfl, rfl⟩⟩
      exact bind_slot hb I y2 ⟨a, ob, rfl, y3, ne, x2.le _ _ (.inr ⟨rfl, rfl⟩), p⟩ fun V' h' tk I' => bind_names y1 I' e2 fun V' h' tk I' => k V' h' tk I'
  | [], _, _ :: _, _, _, _, _, _, _, _, _, e, _ => (ns e).elim
  | t :: _, _, [], _, _, _, _, _, _, _, _, e, _ => (ns e).elim
end
end Mine

set_option Elab.async false
set_option maxRecDepth 100000
namespace Mine
open PySem PySem.W PyProof.Rows PySem.Calls

section
variable {prog : Program} {w : World} {h₀ : Base} {h h' : Heap} {K : Frag} {g : Gt} {o : Orc} {n : Nat} {Ψ Φ Φ' : Facts} {pe : PySem.Env} {V : Str → Option Value} {env : MEnv} {A : Around} {s : Shared}

set_option tactic.hygienic true in
theorem snd_rhs (hE : SndE prog w h₀ o n) (hL : SndL prog w h₀ o n) {x : Expr} {sl : Slot} {env' : MEnv} (e : rhsE o env x = some (sl, env')) {Q : Value → Shared → Prop} (I : Inv prog w h₀ Ψ Φ s.heap pe V env) (R : Room n A)
    (k : ∀ v Φ' Ψ' h' tk, Le Φ Φ' → Inv prog w h₀ Ψ' Φ' h' pe V env' → Slot1 prog w Φ' Ψ Ψ' v sl → Q v { s with heap := h', toks := tk }) : wpAny (model prog w) A (eval x pe) Q NoE s := by
  unfold rhsE at e
  split at e
  · rename_i es hx
    refine bo2 e fun ds env1 hd e => bi e fun hf e => ?_
    obtain ⟨rfl, rfl⟩ := sp e
    obtain ⟨p, rfl⟩ := listT_some hx
    clear e
    refine mk_list hL hd hf I R fun a ob Φ' h' tk le no ne I' p => k _ Φ' _ h' tk le I' (.own no ne ?_)
    obtain ⟨vs, m, e, r⟩ := p
    exact .list e r
  · split at e
    · rename_i es hx
      refine bo2 e fun l env1 hd e => ?_
      obtain ⟨rfl, rfl⟩ := sp e
      obtain ⟨p, rfl⟩ := dictT_some hx
      exact mk_dict hE hd I R fun a ob Φ' h' tk le no ne I' p => k _ Φ' _ h' tk le I' (.own no ne (.dict p))
    · refine bo2 e fun d env1 hd e => ?_
      obtain ⟨rfl, rfl⟩ := sp e
      exact hE _ _ _ _ hd _ _ _ _ _ _ _ I R fun v Φ' h' tk le I' r => k v Φ' Ψ h' tk le I' (.dat r)
theorem SlotsR.mono {Ψp : Facts} {vs : List Value} {ss : List Slot} (le : Le Φ Φ') (x : SlotsR prog w Φ Ψ Ψp vs ss) : SlotsR prog w Φ' Ψ Ψp vs ss := by
  induction x with
  | nil => exact .nil
  | cons a _ ih => exact .cons (a.mono le) ih
theorem starEach_one {e : Expr} {r : List Expr} (hn : isStarred e = false) : starEach (e :: r) pe = (false, eval e pe) :: starEach r pe := by
  cases e <;> first | rfl | exact absurd hn.symm Bool.false_ne_true
theorem snd_rhsAll (hE : SndE prog w h₀ o n) (hL : SndL prog w h₀ o n) {pos : Pos} : ∀ {es : List Expr} {env : MEnv} {ss : List Slot} {env' : MEnv}, rhsAll o env es = some (ss, env') → es.any isStarred = false → ∀ {Ψ Φ : Facts} {s : Shared} {Q : List Value → Shared → Prop}, Inv prog w h₀ Ψ Φ s.heap pe V env → Room n A →
    (∀ vs Φ' Ψ' h' tk, Le Φ Φ' → Inv prog w h₀ Ψ' Φ' h' pe V env' → SlotsR prog w Φ' Ψ Ψ' vs ss → Q vs { s with heap := h', toks := tk }) → wpAny (model prog w) A (spliced (backTo pos (starEach es pe))) Q NoE s
  | [], env, ss, env', e, _, Ψ, Φ, s, Q, I, R, k => by
    obtain ⟨rfl, rfl⟩ := sp e
    exact wpAny_items_nil (k [] Φ Ψ s.heap s.toks (Le.refl _) I .nil)
  | x :: r, env, ss, env', e, hs, Ψ, Φ, s, Q, I, R, k => by
    rw [List.any_cons, Bool.or_eq_false_iff] at hs
    refine bo2 e fun sl env1 h1 e => bo2 e fun ss' env2 h2 e => ?_
    obtain ⟨rfl, rfl⟩ := sp e
    refine wpAny_items_cons (snd_rhs hE hL h1 I R fun v Φ1 Ψ1 g1 t1 le1 I1 x1 => snd_rhsAll hE hL h2 hs.2 I1 R fun vs Φ2 Ψ2 g2 t2 le2 I2 x2 => ?_) (starEach_one hs.1)
    exact k _ Φ2 Ψ2 g2 t2 (le1.trans le2) I2 (.cons (x1.mono le2) x2)
set_option tactic.hygienic true in
theorem ownName_is {t : Expr} (h : ownName env t = true) : ∃ x p, t = .Name x p ∧ env.isOwnVar x = true := by
  unfold ownName at h
  split at h
  · rename_i x hx
    obtain ⟨p, rfl⟩ := nameT_some hx
    exact ⟨x, p, rfl, h⟩
  · exact absurd h Bool.false_ne_true
theorem assignEach_names : ∀ {ts : List Expr} {env : MEnv}, ts.all (ownName env) = true → (assignEach ts pe).findIdx? (·.1) = none ∧ (assignEach ts pe).length = ts.length
  | [], _, _ => ⟨rfl, rfl⟩
  | t :: ts, env, e => by
    rw [List.all_cons, Bool.and_eq_true] at e
    obtain ⟨a, b⟩ := assignEach_names e.2
    obtain ⟨x, pos, rfl, _⟩ := ownName_is e.1
    refine ⟨?_, ?_⟩
    · show List.findIdx? _ ((false, assign (.Name x pos) pe) :: assignEach ts pe) = none
      rw [List.findIdx?_cons, a]; rfl
    · show ((false, assign (.Name x pos) pe) :: assignEach ts pe).length = _
      rw [List.length_cons, b, List.length_cons]
theorem unpack_list {t : Addr} {items : Array Value} {targets : List (Bool × (Value → Sem Unit))} {Q : Unit → Shared → Prop} {E : Value → Shared → Prop} (hh : A.handled = none) (ht : s.heap.IsList t items)
    (hn : targets.length = items.size) (hstar : targets.findIdx? (·.1) = none)
    (h : ∀ h', Heap.ExtBut s.heap.objs.size s.heap h' → wpAny (model prog w) A (assignInOrder (targets.map (·.2)) items.toList) Q E { s with heap := h' }) :
    wpAny (model prog w) A (unpack (.ref t) targets) Q E s := by
  unfold unpack
  rw [hn, hstar]
  exact wpAny_bind (wpAny_holding (unpackItems_list hh ht h))
theorem Inv.ext (I : Inv prog w h₀ Ψ Φ h pe V env) (he : Heap.ExtBut h.objs.size h h') : Inv prog w h₀ Ψ Φ h' pe V env :=
  I.grow (fun b o e => he b o (Nat.ne_of_lt (Heap.lt_size e)) e) (Le.refl _) fun zz zz q=> .inl q

/-! which stores are swapped -/
theorem kinds_local (I : Kinds pe env) {x : Str} (hx : env.isOwnVar x = true) : (pe.kindOf x == some .local) = localB env x := by
  unfold localB
  rcases isOwnVar_kind hx with e | e
  · rw [e, I.kind x _ e]; rfl
  · rw [e, I.kind x _ e]; rfl
theorem swapNames_eq (I : Kinds pe env) (line : Nat) : ∀ {ts : List Expr}, ts.all (ownName env) = true →
    ts.filterMap (fun
    | .Name id pos => if pe.kindOf id == some .local && pos.line == line then some id else none
    | _ => none) = swapNames env line ts
  | [], _ => rfl
  | t :: ts, e => by
    rw [List.all_cons, Bool.and_eq_true] at e
    obtain ⟨x, pos, rfl, hx⟩ := ownName_is e.1
    rw [List.filterMap_cons]
    dsimp only
    rw [kinds_local I hx, swapNames_eq I line e.2]
    rw [show swapNames env line (.Name x pos :: ts) = (if localB env x && pos.line == line then x :: swapNames env line ts else swapNames env line ts) from rfl]
    cases localB env x && pos.line == line <;> rfl
theorem blockKind_fn (I : Kinds pe env) : pe.blockKind = .function := by
  unfold Env.blockKind
  rw [I.fn]; rfl
theorem isStarred_fun : (fun e : Expr => match e with | .Starred .. => true | _ => false) = isStarred := by funext x; cases x <;> rfl
theorem swapped_of (I : Kinds pe env) {ts vs : List Expr} {k1 k2 : Nat} {p1 p2 : Pos} {b : Bool} (e : swapped env ts vs = some b) :
    ts.all (ownName env) = true ∧ (vs.length = ts.length ∧ fitN ts.length = true) ∧ vs.any isStarred = false ∧ swappedStores [.Tuple ts k1 p1] (.Tuple vs k2 p2) pe = pure (if b then some (swapNames env (headLine ts) ts) else none) ∧ (b = true → (swapNames env (headLine ts) ts).length = ts.length) := by
  refine bi e fun c e => band c fun h1 c => band c fun h2 c => band c fun hfit h3 => ?_
  have h2 : vs.length = ts.length := by simpa using h2
  have h3 : vs.any isStarred = false := by simpa using h3
  refine ⟨h1, ⟨h2, hfit⟩, h3, ?_⟩
  have hh : ((ts.head?.map (·.pos.line)).getD 0) = headLine ts := by cases ts <;> rfl
  have hst : (vs.any fun | .Starred .. => true | _ => false) = false := by
    rw [← isStarred_fun] at h3; exact h3
  unfold swappedStores
  dsimp only
  rw [blockKind_fn I]
  generalize hN : List.filterMap _ ts = N
  have hN' : N = swapNames env (headLine ts) ts := hN.symm.trans (by rw [← hh]; exact swapNames_eq I _ h1)
  generalize hS : List.any vs _ = S
  have hS' : S = false := hS.symm.trans hst
  subst hN' hS'
  have hd : (vs.length != ts.length || ScopeKind.function != ScopeKind.function) = false := by rw [h2]; simp
  refine bie e (fun h4 e => ?_) (fun h4 e => ?_)
  · obtain rfl := s1 e
    exact ⟨(if_pos (by rw [Bool.or_assoc, h4, Bool.true_or])).trans rfl, fun q => absurd q Bool.false_ne_true⟩
  · have c1 : ¬ ((!(ts.length == 2 || ts.length == 3) || vs.length != ts.length || ScopeKind.function != ScopeKind.function) = true) := by
      rw [Bool.or_assoc, h4, hd]; decide
    rw [if_neg c1]
    refine bie e (fun h5 e => ?_) (fun h5 e => bn e fun h6 e => bn e fun h7 e => ?_)
    · obtain rfl := s1 e
      exact ⟨(if_neg (by decide)).trans ((if_pos h5).trans rfl), fun q => absurd q Bool.false_ne_true⟩
    · obtain rfl := s1 e
      refine ⟨(if_neg (by decide)).trans ((if_neg (by rw [h5]; decide)).trans ((if_neg (by rw [h6]; decide)).trans ((if_neg (by rw [h7]; decide)).trans rfl))), fun zz=> ?_⟩
      rw [Bool.or_eq_false_iff] at h5
      simpa using h5.1
end
end Mine

set_option Elab.async false
set_option maxRecDepth 100000
namespace Mine
open PySem PySem.W PyProof.Rows PySem.Calls

section
variable {M : Model} {A : Around} {E : Value → Shared → Prop} {s : Shared} {env : PySem.Env}
set_option tactic.hygienic true in
theorem Assign_one {t value : Expr} {pos : Pos} {Q : Flow → Shared → Prop}
    (h : wpAny M A (eval value env) (fun v s₁ => wpAny M A (assign t env v) (fun zz=> Q .next) E s₁) E s)
    (hs : swapsWithSole [t] value pos.line env = pure false) (hw : swappedStores [t] value env = pure none) (ha : assignEach [t] env = [(false, assign t env)]) :
    wpAny M A (exec (.Assign [t] value pos) env) Q E s := by
  rw [PyProof.Rows.exec_Assign]
  refine wpAny_bind (wpAny_standAt ?_)
  rw [hs]
  refine wpAny_bind (wpAny_pure ?_)
  rw [if_neg (by decide)]
  refine wpAny_bind (wpAny_mono h (fun v s₁ h₁ => ?_) fun zz zz x=> x)
  rw [hw, ha]
  refine wpAny_bind (wpAny_pure ?_)
  show wpAny M A (do assignAll v [assign t env]; pure .next) Q E s₁
  exact wpAny_bind (wpAny_mono h₁ (fun zz zz x=> wpAny_pure x) fun zz zz x=> x)
theorem assign_sub {o i : Expr} {pos : Pos} {v : Value} {Q : Unit → Shared → Prop}
    (h : wpAny M A (eval o env) (fun ov s₂ => wpAny M A (eval i env) (fun iv s₃ => wpAny M A (setItem ov iv v) Q E s₃) E s₂) E s) : wpAny M A (assign (.Subscript o i pos) env v) Q E s := fun Γ p hΓ => by
  simp only [assign_Subscript, Sem.wp_bind', Sem.wp_holding, Sem.wp_cmd_standAt, Sem.wp_release]
  exact Sem.wp_mono M Γ _ (fun ov p₂ s₂ h₂ => Sem.wp_mono M Γ _ (fun iv zz s₃ h₃=> h₃ Γ _ hΓ) (fun zz zz zz h'=> h') _ _ (h₂ Γ p₂ hΓ)) (fun zz zz zz h'=> h') _ _ (h Γ p hΓ)
theorem assign_attr {o : Expr} {f : Str} {pos : Pos} {v : Value} {Q : Unit → Shared → Prop}
    (h : wpAny M A (eval o env) (fun ov s₂ => wpAny M A (setAttr ov f v) Q E s₂) E s) : wpAny M A (assign (.Attribute o f pos) env v) Q E s := fun Γ p hΓ => by
  simp only [assign_Attribute, Sem.wp_bind', Sem.wp_holding, Sem.wp_cmd_standAt, Sem.wp_release]
  exact Sem.wp_mono M Γ _ (fun ov p₂ s₂ h₂ => h₂ Γ _ hΓ) (fun zz zz zz h'=> h') _ _ (h Γ p hΓ)
end

section
variable {prog : Program} {w : World} {h₀ : Base} {h h' : Heap} {K : Frag} {g : Gt} {o : Orc} {n : Nat} {Ψ Φ Φ' : Facts} {pe : PySem.Env} {V : Str → Option Value} {env : MEnv} {A : Around} {s : Shared}

noncomputable abbrev OkU (prog : Program) (w : World) (h₀ : Base) (Ψ Φ : Facts) (s : Shared) (pe : PySem.Env) (env' : MEnv) (Q : Unit → Shared → Prop) : Prop :=
  ∀ V' Φ' h' tk, Le Φ Φ' → Inv prog w h₀ Ψ Φ' h' pe V' env' → Q () { s with heap := h', toks := tk }
theorem undat_of {Ψp : Facts} : ∀ {ss : List Slot} {ds : List D} {vs : List Value}, undat ss = some ds → SlotsR prog w Φ Ψ Ψp vs ss → Ψp = Ψ ∧ Reps prog w Φ vs ds
  | [], ds, vs, e, x => by
    obtain ⟨rfl, rfl⟩ := x.nil_inv
    exact s1 e ▸ ⟨rfl, .nil⟩
  | .dat d :: r, ds, vs, e, x => by
    refine bo1 e fun l hl e => ?_
    obtain rfl := s1 e
    obtain ⟨Ψ1, v, us, rfl, a, b⟩ := x.cons_inv
    cases a with
    | dat q =>
      obtain ⟨h1, h2⟩ := undat_of hl b
      exact ⟨h1, .cons q h2⟩
  | .own d :: r, ds, vs, e, x => (ns e).elim
theorem Reps.reverse : ∀ {vs : List Value} {l : List D}, Reps prog w Φ vs l → Reps prog w Φ vs.reverse l.reverse
  | _, _, .nil => .nil
  | _, _, .cons h r => by rw [List.reverse_cons, List.reverse_cons]; exact r.reverse.append (.cons h .nil)
theorem bind_strs {M : Model} {E : Value → Shared → Prop} : ∀ {xs : List Str} {vs : List Value} {ds : List D} {env env' : MEnv} {V : Str → Option Value} {s : Shared} {Q : Unit → Shared → Prop}, Reps prog w Φ vs ds → Inv prog w h₀ Ψ Φ s.heap pe V env → bindStrs env xs (dats ds) = some env' →
    (∀ V' h' tk, Inv prog w h₀ Ψ Φ h' pe V' env' → Q () { s with heap := h', toks := tk }) → wpAny M A (assignInOrder (xs.map fun x => PySem.bindName pe x) vs) Q E s
  | [], _, _, env, env', V, s, Q, .nil, I, e, k => by
    obtain rfl := s1 e
    exact assignInOrder_nil (k V s.heap s.toks I)
  | x :: xs, _, _, env, env', V, s, Q, .cons r q, I, e, k => by
    refine bo1 e fun env1 hb e => ?_
    exact assignInOrder_cons (wpAny_bindName (bind_slot hb I (Le.refl _) r fun V' h' tk I' => bind_strs q I' e fun V' h' tk I' => k V' h' tk I'))
  | [], _, _, _, _, _, _, _, .cons _ _, _, e, _ => (ns e).elim
  | _ :: _, _, _, _, _, _, _, _, .nil, _, e, _ => (ns e).elim
theorem snd_store (C : Cx prog w h₀ K g) (hE : SndE prog w h₀ o n) {t : Expr} {d : D} {u : Value} {env' : MEnv} (e : storeOne g o env t d = some env') {Q : Unit → Shared → Prop} (I : Inv prog w h₀ Ψ Φ s.heap pe V env) (R : Room n A) (ru : Rep prog w Φ u d)
    (k : OkU prog w h₀ Ψ Φ s pe env' Q) : wpAny (model prog w) A (assign t pe u) Q NoE s := by
  cases t with
  | Name x pos => exact wpAny_assign_Name (bind_slot e I (Le.refl _) ru fun V' h' tk I' => k V' Φ h' tk (Le.refl _) I')
  | Subscript v i pos =>
    refine bo1 e fun x hx e => bo1 e fun d' ho e2 => ?_
    obtain ⟨p, rfl⟩ := nameT_some hx
    obtain ⟨hx, hd⟩ := own?_of ho
    obtain ⟨v, hv, _⟩ := I.own _ _ hx hd
    exact assign_sub (set_own hE e2 I R ru hx ⟨v, hv⟩ fun Φ' h' tk le I' => k V Φ' h' tk le I')
  | Attribute v f pos =>
    refine bo1 e fun x hx e => bo1 e fun d' ho e => bo2 e fun Cc fs hi e => bi e fun hf e => ?_
    obtain rfl := s1 e
    obtain ⟨p, rfl⟩ := nameT_some hx
    obtain ⟨hx, hd⟩ := own?_of ho
    obtain ⟨v, hv, _⟩ := I.own _ _ hx hd
    rw [asInst_some hi] at hd
    refine band hf fun hf1 hf2 => ?_
    exact assign_attr (name_var I hx hv (store_attr C hx hd hv hf1 hf2 ru I fun h' tk I' => k V Φ h' tk (Le.refl _) I'))
  | _ => exact (ns e).elim
noncomputable def storable : Expr → Bool
  | .Name .. => true
  | .Subscript .. => true
  | .Attribute .. => true
  | _ => false
theorem storeOne_able {t : Expr} {d : D} {env' : MEnv} (e : storeOne g o env t d = some env') : storable t = true := by
  cases t <;> first | rfl | exact (ns e).elim
theorem each_cons {t : Expr} {ts : List Expr} (h : storable t = true) : assignEach (t :: ts) pe = (false, assign t pe) :: assignEach ts pe := by
  cases t <;> first | rfl | exact absurd h Bool.false_ne_true
theorem snd_storeMany (C : Cx prog w h₀ K g) (hE : SndE prog w h₀ o n) : ∀ {ts : List Expr} {ds : List D} {us : List Value} {env env' : MEnv}, storeMany g o env ts ds = some env' → ∀ {Φ : Facts} {V : Str → Option Value} {s : Shared} {Q : Unit → Shared → Prop}, Inv prog w h₀ Ψ Φ s.heap pe V env → Room n A → Reps prog w Φ us ds →
    OkU prog w h₀ Ψ Φ s pe env' Q → wpAny (model prog w) A (assignInOrder ((assignEach ts pe).map (·.2)) us) Q NoE s
  | [], _, _, env, env', e, Φ, V, s, Q, I, R, .nil, k => by
    obtain rfl := s1 e
    exact assignInOrder_nil (k V Φ s.heap s.toks (Le.refl _) I)
  | t :: ts, _, _, env, env', e, Φ, V, s, Q, I, R, .cons r q, k => by
    refine bo1 e fun env1 h1 e => ?_
    rw [each_cons (storeOne_able h1)]
    exact assignInOrder_cons (snd_store C hE h1 I R r fun V1 Φ1 h1 t1 le1 I1 => snd_storeMany C hE e I1 R (q.mono le1) fun V2 Φ2 h2 t2 le2 I2 => k V2 Φ2 h2 t2 (le1.trans le2) I2)
  | [], _, _, _, _, e, _, _, _, _, _, _, .cons _ _, _ => (ns e).elim
  | _ :: _, _, _, _, _, e, _, _, _, _, _, _, .nil, _ => (ns e).elim
theorem storeMany_each : ∀ {ts : List Expr} {ds : List D} {env env' : MEnv}, storeMany g o env ts ds = some env' → (assignEach ts pe).findIdx? (·.1) = none ∧ (assignEach ts pe).length = ds.length
  | [], [], _, _, _ => ⟨rfl, rfl⟩
  | t :: ts, d :: ds, env, env', e => by
    refine bo1 e fun env1 h1 e => ?_
    obtain ⟨a, b⟩ := storeMany_each e
    rw [each_cons (storeOne_able h1)]
    refine ⟨?_, by rw [List.length_cons, b, List.length_cons]⟩
    rw [List.findIdx?_cons, a]; rfl
  | [], _ :: _, _, _, e => (ns e).elim
  | _ :: _, [], _, _, e => (ns e).elim
end
end Mine

set_option Elab.async false
set_option maxRecDepth 100000
namespace Mine
open PySem PySem.W PyProof.Rows PySem.Calls

section
variable {prog : Program} {w : World} {h₀ : Base} {h h' : Heap} {K : Frag} {g : Gt} {o : Orc} {n : Nat} {Ψ Φ Φ' : Facts} {pe : PySem.Env} {V : Str → Option Value} {env : MEnv} {A : Around} {s : Shared}

theorem isTup_of {a : Addr} {vs : List Value} {m : Nat} (g : h.get? a = some (tupObj vs m)) : IsTup h a vs.toArray := ⟨_, g, rfl, m, rfl⟩
theorem isList_of {a : Addr} {vs : List Value} {m : Nat} (g : h.get? a = some (lstObj vs m)) : h.IsList a vs.toArray := ⟨_, g, rfl, _, rfl⟩
theorem rhsAll_length : ∀ {es : List Expr} {env : MEnv} {ss : List Slot} {env' : MEnv}, rhsAll o env es = some (ss, env') → ss.length = es.length
  | [], _, _, _, e => by rw [← (sp e).1]; rfl
  | x :: r, env, ss, env', e => by
    refine bo2 e fun sl env1 h1 e => bo2 e fun ss' env2 h2 e => ?_
    rw [← (sp e).1, List.length_cons, rhsAll_length h2, List.length_cons]
set_option tactic.hygienic true in
theorem snd_peekSeq (hE : SndE prog w h₀ o n) {x : Expr} {d : D} {ds : List D} {env' : MEnv} (e : peekE o env x = some (d, env')) (hs : seqD d = some ds) {Q : Value → Shared → Prop} (I : Inv prog w h₀ Ψ Φ s.heap pe V env) (R : Room n A)
    (k : ∀ t items Φ' h' tk, Le Φ Φ' → Inv prog w h₀ Ψ Φ' h' pe V env' → (h'.IsList t items ∨ IsTup h' t items) → Reps prog w Φ' items.toList ds → Q (.ref t) { s with heap := h', toks := tk }) : wpAny (model prog w) A (eval x pe) Q NoE s := by
  have plain : o.E env x = some (d, env') → wpAny (model prog w) A (eval x pe) Q NoE s := fun e =>
    hE _ _ _ _ e _ _ _ _ _ _ _ I R fun v Φ' h' tk le I' r => by
      cases d with
      | tup l =>
        obtain rfl := s1 hs
        obtain ⟨a, vs, m, rfl, p, q⟩ := r.tup_inv
        exact k _ _ Φ' h' tk le I' (.inr (isTup_of (I'.phi _ _ p))) q
      | list l =>
        obtain rfl := s1 hs
        obtain ⟨a, vs, m, rfl, p, q⟩ := r.list_inv
        exact k _ _ Φ' h' tk le I' (.inl (isList_of (I'.phi _ _ p))) q
      | _ => exact (ns hs).elim
  unfold peekE at e
  split at e
  · rename_i y pos
    split at e
    · rename_i d' he
      obtain ⟨rfl, rfl⟩ := sp e
      obtain ⟨hx, hd⟩ := own?_of he
      obtain ⟨v, hv, ro, _⟩ := I.own y _ hx hd
      cases d' with
      | list l =>
        obtain rfl := s1 hs
        obtain ⟨a, vs, m, rfl, g, r⟩ := ro.list_inv
        exact name_var I hx hv (k _ _ Φ s.heap s.toks (Le.refl _) I (.inl (isList_of g)) r)
      | tup l => exact ro.inv.elim
      | _ => exact (ns hs).elim
    · exact plain e
  · exact plain e
theorem snd_unpack (C : Cx prog w h₀ K g) (hE : SndE prog w h₀ o n) {ts : List Expr} {kk : Nat} {pos : Pos} {ds : List D} {t : Addr} {items : Array Value} {env' : MEnv} (e : storeMany g o env ts ds = some env') {Q : Unit → Shared → Prop} (I : Inv prog w h₀ Ψ Φ s.heap pe V env) (R : Room n A)
    (hl : s.heap.IsList t items ∨ IsTup s.heap t items) (r : Reps prog w Φ items.toList ds) (k : OkU prog w h₀ Ψ Φ s pe env' Q) : wpAny (model prog w) A (assign (.Tuple ts kk pos) pe (.ref t)) Q NoE s := by
  obtain ⟨h1, h2⟩ := storeMany_each (pe := pe) e
  have hn : (assignEach ts pe).length = items.size := by rw [h2, ← r.length, Array.length_toList]
  rw [PyProof.Rows.assign_Tuple]
  refine wpAny_bind (wpAny_standAt ?_)
  rcases hl with hl | hl
  · exact unpack_list R.1 hl hn h1 fun h' he => snd_storeMany C hE e (I.ext he) R r fun V' Φ' h'' tk le I' => k V' Φ' h'' tk le I'
  · exact unpack_tuple R.1 hl hn h1 fun h' he => snd_storeMany C hE e (I.ext he) R r fun V' Φ' h'' tk le I' => k V' Φ' h'' tk le I'

set_option tactic.hygienic true in
/-- a tuple display goes to names -/
theorem snd_swap (hE : SndE prog w h₀ o n) (hL : SndL prog w h₀ o n) {ts es : List Expr} {k1 k2 : Nat} {p1 p2 pos : Pos} {env' : MEnv}
    (e : (o1 (swapped env ts es) fun sw => o2 (rhsAll o env es) fun ss env1 => if sw then (o1 (undat ss) fun ds => bindStrs env1 (swapNames env (headLine ts) ts).reverse (dats ds.reverse)) else bindNames env1 ts ss) = some env')
    {Q : Flow → Shared → Prop} (I : Inv prog w h₀ Ψ Φ s.heap pe V env) (R : Room n A)
    (k : OkU prog w h₀ Ψ Φ s pe env' fun zz=> Q .next) : wpAny (model prog w) A (exec (.Assign [.Tuple ts k1 p1] (.Tuple es k2 p2) pos) pe) Q NoE s := by
  refine bo1 e fun sw hsw e => bo2 e fun ss env1 hr e => ?_
  obtain ⟨a1, a2, a3, a4, a5⟩ := swapped_of (k1 := k1) (k2 := k2) (p1 := p1) (p2 := p2) I.kinds hsw
  have tup : wpAny (model prog w) A (eval (.Tuple es k2 p2) pe) (fun v s₁ => ∃ vs Φ1 Ψ1 h1 tk t, v = .ref t ∧ s₁ = { s with heap := h1, toks := tk } ∧ Le Φ Φ1 ∧ Inv prog w h₀ Ψ1 Φ1 h1 pe V env1 ∧ SlotsR prog w Φ1 Ψ Ψ1 vs ss ∧ IsTup h1 t vs.toArray ∧ vs.length = ts.length) NoE s := by
    refine Tuple_ (snd_rhsAll hE hL hr a3 I R fun vs Φ1 Ψ1 h1 t1 le1 I1 x1 => ?_)
    have hlen : vs.length = ts.length := by rw [x1.length, rhsAll_length hr, a2.1]
    refine wpAny_newObj_type ?_ (by show vs.toArray.size ≤ sizeLine; rw [List.size_toArray, hlen]; exact fit_line a2.2)
    exact ⟨vs, Φ1, Ψ1, _, t1, _, rfl, rfl, le1, I1.push' (tupObj vs 0), x1, isTup_of (Heap.get?_push_size _ rfl), hlen⟩
  cases sw with
  | false =>
    refine PyProof.Rows.Assign_Tuple (wpAny_mono tup (fun v s₁ q => ?_) fun zz zz x=> x) (by rfl) a4
    obtain ⟨vs, Φ1, Ψ1, h1, tk, t, rfl, rfl, le1, I1, x1, ht, hlen⟩ := q
    rw [PyProof.Rows.assign_Tuple]
    refine wpAny_bind (wpAny_standAt ?_)
    obtain ⟨b1, b2⟩ := assignEach_names (pe := pe) a1
    refine unpack_tuple R.1 ht (by rw [b2, List.size_toArray, hlen]) b1 fun h' he => ?_
    exact bind_names (x1) (I1.ext he) e fun V' h'' tk I' => k V' Φ1 h'' tk le1 I'
  | true =>
    refine bo1 e fun ds hu e => ?_
    refine PyProof.Rows.Assign_Tuple_swapped (wpAny_mono tup (fun v s₁ q => ?_) fun zz zz x=> x) (by rfl) a4
    obtain ⟨vs, Φ1, Ψ1, h1, tk, t, rfl, rfl, le1, I1, x1, ht, hlen⟩ := q
    obtain ⟨rfl, q⟩ := undat_of hu x1
    have hz : (swapNames env (headLine ts) ts).length = vs.toArray.size := by rw [a5 rfl, List.size_toArray, hlen]
    rw [hz]
    refine unpackItems_tuple R.1 ht fun h' he => ?_
    exact bind_strs q.reverse (I1.ext he) e fun V' h'' tk I' => k V' Φ1 h'' tk le1 I'
theorem names_kind {e : Expr} (h : isComp e = false) (t : Expr) (line : Nat) : swapsWithSole [t] e line pe = pure false := by
  cases e <;> first | rfl | exact absurd h.symm Bool.false_ne_true
noncomputable def plainTgt : Expr → Bool
  | .Name .. => true
  | .Subscript .. => true
  | .Attribute .. => true
  | _ => false
theorem swaps_tgt {t v : Expr} (h : plainTgt t = true) : swappedStores [t] v pe = pure none := by
  cases t <;> first | rfl | exact absurd h Bool.false_ne_true
theorem sole_tgt {t v : Expr} {line : Nat} (h : storable t = true) (hn : nameT t = none) : swapsWithSole [t] v line pe = pure false := by
  cases t with
  | Subscript a b p => cases v <;> rfl
  | Attribute a b p => cases v <;> rfl
  | Name x p => exact nomatch hn
  | _ => exact absurd h Bool.false_ne_true
theorem sole_tup {ts : List Expr} {v : Expr} {k line : Nat} {p : Pos} : swapsWithSole [.Tuple ts k p] v line pe = pure false := by cases v <;> rfl
theorem tup_other {ts : List Expr} {v : Expr} {k : Nat} {p : Pos} (h : tupT v = none) : swappedStores [.Tuple ts k p] v pe = pure none := by
  cases v <;> first | rfl | exact nomatch h
set_option tactic.hygienic true in
theorem snd_AssignName (hE : SndE prog w h₀ o n) (hL : SndL prog w h₀ o n) {x : Str} {v : Expr} {p pos : Pos} {env' : MEnv} (hc : isComp v = false) (e : (o2 (rhsE o env v) fun s env1 => bindName env1 x s) = some env') {Q : Flow → Shared → Prop} (I : Inv prog w h₀ Ψ Φ s.heap pe V env) (R : Room n A)
    (k : OkU prog w h₀ Ψ Φ s pe env' fun zz=> Q .next) : wpAny (model prog w) A (exec (.Assign [.Name x p] v pos) pe) Q NoE s := by
  refine bo2 e fun sl env1 hr e => ?_
  refine Assign_one (snd_rhs hE hL hr I R fun u Φ1 Ψ1 h1 t1 le1 I1 x1 => wpAny_assign_Name ?_) (names_kind hc _ _) (swaps_tgt rfl) rfl
  cases x1 with
  | dat r => exact bind_slot e I1 (Le.refl _) r fun V' h' tk I' => k V' Φ1 h' tk le1 I'
  | @own a ob d no ne p => exact bind_slot e I1 (le_also _ _ _) ⟨a, ob, rfl, no, ne, .inr ⟨rfl, rfl⟩, p⟩ fun V' h' tk I' => k V' Φ1 h' tk le1 I'
set_option tactic.hygienic true in
theorem snd_AssignTup (C : Cx prog w h₀ K g) (hE : SndE prog w h₀ o n) (hL : SndL prog w h₀ o n) {ts : List Expr} {v : Expr} {kk : Nat} {p pos : Pos} {env' : MEnv} (e : assignTup g o env ts v = some env') {Q : Flow → Shared → Prop} (I : Inv prog w h₀ Ψ Φ s.heap pe V env) (R : Room n A)
    (k : OkU prog w h₀ Ψ Φ s pe env' fun zz=> Q .next) : wpAny (model prog w) A (exec (.Assign [.Tuple ts kk p] v pos) pe) Q NoE s := by
  unfold assignTup at e
  split at e
  · rename_i es hv
    obtain ⟨_, _, rfl⟩ := tupT_some hv
    exact snd_swap hE hL e I R k
  · rename_i hv
    refine bo2 e fun d env1 hd e => bo1 e fun ds hs e => ?_
    exact PyProof.Rows.Assign_Tuple (snd_peekSeq hE hd hs I R fun t items Φ1 h1 t1 le1 I1 hl r => snd_unpack C hE e I1 R hl r fun V' Φ' h' tk le I' => k V' Φ' h' tk (le1.trans le) I') sole_tup (tup_other hv)
theorem storable_tgt {t : Expr} (h : storable t = true) : plainTgt t = true := by cases t <;> first | rfl | exact absurd h Bool.false_ne_true
set_option tactic.hygienic true in
theorem snd_Assign (C : Cx prog w h₀ K g) (hE : SndE prog w h₀ o n) (hL : SndL prog w h₀ o n) {t v : Expr} {pos : Pos} {env' : MEnv} (e : assignE g o env t v = some env')
    {Q : Flow → Shared → Prop} (I : Inv prog w h₀ Ψ Φ s.heap pe V env) (R : Room n A) (k : OkU prog w h₀ Ψ Φ s pe env' fun zz=> Q .next)
    (hcomp : ∀ {x : Str} {p : Pos} {elt : Expr} {gens : List Comprehension} {scope : Scope} {p' : Pos}, (o2 (compE g o env elt gens scope) fun d env1 => bindName env1 x (.dat d)) = some env' → wpAny (model prog w) A (exec (.Assign [.Name x p] (.ListComp elt gens scope p') pos) pe) Q NoE s) :
    wpAny (model prog w) A (exec (.Assign [t] v pos) pe) Q NoE s := by
  unfold assignE at e
  split at e
  · rename_i x hx
    obtain ⟨p, rfl⟩ := nameT_some hx
    unfold assignName at e
    split at e
    · rename_i q hq
      obtain ⟨p', rfl⟩ := lcT_some hq
      exact hcomp e
    · exact bn e fun hc e => snd_AssignName hE hL hc e I R k
  · rename_i hx
    split at e
    · rename_i ts ht
      obtain ⟨_, _, rfl⟩ := tupT_some ht
      exact snd_AssignTup C hE hL e I R k
    · refine bo2 e fun d env1 hd e => ?_
      have st := storeOne_able e
      exact Assign_one (hE _ _ _ _ hd _ _ _ _ _ _ _ I R fun u Φ1 g1 t1 le1 I1 r => snd_store C hE e I1 R r fun V' Φ' h' tk le I' => k V' Φ' h' tk (le1.trans le) I') (sole_tgt st hx) (swaps_tgt (storable_tgt st)) (by rw [each_cons st]; rfl)
set_option tactic.hygienic true in
theorem snd_ExprS (hE : SndE prog w h₀ o n) {x : Expr} {pos : Pos} {fl : Fl} {env' : MEnv} (hc : isComp x = false)
    (e : (o2 (o.E env x) fun d env1 => if isNone d then some (Fl.nxt, env1) else .none) = some (fl, env')) {Q : Flow → Shared → Prop} (I : Inv prog w h₀ Ψ Φ s.heap pe V env) (R : Room n A)
    (k : OkS prog w h₀ Ψ Φ s pe env' fl Q) : wpAny (model prog w) A (exec (.Expr x pos) pe) Q NoE s := by
  refine bo2 e fun d env1 hd e => bi e fun hn e => ?_
  have k := okS_eq e k
  refine wpAny_Expr (hE _ _ _ _ hd _ _ _ _ _ _ _ I R fun v Φ1 h1 t1 le1 I1 r => ?_) (by unfold interactive; rw [I.kinds.fn]; rfl) (by cases x <;> first | rfl | exact absurd hc.symm Bool.false_ne_true)
  rw [isNone_is hn] at r
  obtain rfl := r.none_inv
  exact k .next V Φ1 h1 t1 le1 I1 trivial
end
end Mine

set_option Elab.async false
set_option maxRecDepth 100000
namespace Mine
open PySem PySem.W PyProof.Rows PySem.Calls

noncomputable def ownedNames : List String := ["enumerate", "zip", "dict_itemiterator", "dict_reverseitemiterator", "odict_iterator", "itertools.zip_longest", "itertools.pairwise"]

section
variable {prog : Program} {w : World} {h₀ : Base} {h h' : Heap} {K : Frag} {g : Gt} {o : Orc} {n : Nat} {Ψ Φ Φ' : Facts} {pe : PySem.Env} {V : Str → Option Value} {env : MEnv} {A : Around} {s : Shared}

/-- what is only ours has been left behind -/
theorem Inv.dropX {a : Addr} {ob : Obj} (I : Inv prog w h₀ (also Ψ a ob) Φ h pe V env) (hn : ∀ o', ¬ Ψ a o') (hs : ∀ b o, b ≠ a → h.get? b = some o → h'.get? b = some o) (hc : ∀ v, ob.data ≠ .cell v) :
    Inv prog w h₀ Ψ Φ h' pe V env :=
  have nphi : ∀ b o', Φ b o' → b ≠ a := fun b o' q e => I.sep b ob o' (.inr ⟨e, rfl⟩) q
  have own' := fillX_own I hs
  { kinds := I.kinds
    real := fillX_real I hs hc
    psi := fun b x q => hs b x (fun e => hn x (e ▸ q)) (I.psi b x (.inl q))
    phi := fun b x q => hs b x (nphi b x q) (I.phi b x q)
    frame := fun b x => ⟨fun o' q => (I.frame b x).1 o' (.inl q), (I.frame b x).2⟩
    apartCells := I.apartCells
    cellLoc := I.cellLoc
    dat := I.dat
    own := fun x d hx hd =>
      let ⟨v, hv, _, q⟩ := I.own x d hx hd
      let ⟨_, _, r', back⟩ := own' x d hx hd v hv
      ⟨v, hv, r', fun b hb' => ⟨fun o' z => (q b (back b hb')).1 o' (.inl z), (q b (back b hb')).2⟩⟩
    apart := fun x y d e v u b hx hy hxy gx gy hv hu bx bY => I.apart x y d e v u b hx hy hxy gx gy hv hu ((own' x d hx gx v hv).2.2.2 b bx) ((own' y e hy gy u hu).2.2.2 b bY)
    low := I.low
    base := I.base
    sep := fun b x y p q => I.sep b x y (.inl p) q }
/-- an iterator's object -/
noncomputable def ItObj (ob : Obj) : Prop := ∃ n vs, ob.cls = .type n ∧ ob.data = .fields vs ∧ ownedNames.contains n = false
theorem ItObj.noCell {ob : Obj} (x : ItObj ob) : ∀ v, ob.data ≠ .cell v := by
  obtain ⟨n, vs, _, h, _⟩ := x
  intro v e; rw [h] at e; cases e
theorem letgo_of {I : Addr} {ob : Obj} {t : Expr} {v : Value} {Q : Unit → Shared → Prop} {E : Value → Shared → Prop} {M : Model} (g : s.heap.get? I = some ob) (x : ItObj ob) (k : Q () s) : wpAny M A (letOwnedTupleGo t (.ref I) v) Q E s := by
  obtain ⟨n, vs, hc, hd, hn⟩ := x
  have tup : wpAny M A (do
      let (.ref r, .ref a) := (Value.ref I, v) | return
      let o ← load r
      match o.cls, o.data with
      | .type n, .fields vs =>
        if ["enumerate", "zip", "dict_itemiterator", "dict_reverseitemiterator", "odict_iterator", "itertools.zip_longest", "itertools.pairwise"].contains n && vs[0]? == some (rawInt a) then
          rule "for.unpacks-the-owned-tuple"
          updateField r 0 .none
      | _, _ => pure ()) Q E s := by
    cases v <;> first | exact wpAny_pure k | skip
    refine wpAny_bind (wpAny_load g ?_)
    rw [hc, hd]
    dsimp only
    rw [if_neg (by rw [show ["enumerate", "zip", "dict_itemiterator", "dict_reverseitemiterator", "odict_iterator", "itertools.zip_longest", "itertools.pairwise"].contains n = false from hn]; simp)]
    exact wpAny_pure k
  unfold letOwnedTupleGo
  cases t <;> first | exact tup | exact wpAny_pure k

/-- a source of items -/
structure Src (prog : Program) (w : World) (Φ : Facts) (I : Addr) (ds : List D) (h : Heap) (fp : List Addr) (P : Nat → Value → Prop) (St : Nat → Heap → Prop) : Prop where
  walks : ∀ A : Around, A.handled = none → Walks prog w A I fp [I] ds.length P St
  start : St 0 h
  rep : ∀ i v d, ds[i]? = some d → P i v → Rep prog w Φ v d
  there : ∀ i h, St i h → ∃ ob, h.get? I = some ob ∧ ItObj ob
  old : ∀ b ∈ fp, b = I ∨ ∃ ob, Φ b ob
/-- an iterator is handed on -/
noncomputable abbrev OkIt (prog : Program) (w : World) (h₀ : Base) (Ψ Φ : Facts) (s : Shared) (pe : PySem.Env) (V : Str → Option Value) (env' : MEnv) (ds : List D) (Q : Value → Shared → Prop) : Prop :=
  ∀ I ob Φ' h' tk fp P St, Le Φ Φ' → (∀ o', ¬ Ψ I o') → Inv prog w h₀ (also Ψ I ob) Φ' h' pe V env' → h'.get? I = some ob → Src prog w Φ' I ds h' fp P St → Q (.ref I) { s with heap := h', toks := tk }

theorem nat_get : ∀ {l : List UInt8} {i : Nat} {d : D}, (octInts l)[i]? = some d → ∃ c, l[i]? = some c ∧ d = .int c.toNat
  | [], i, d, e => nomatch e
  | b :: r, 0, d, e => ⟨b, rfl, (s1 e).symm⟩
  | b :: r, i + 1, d, e => nat_get (l := r) (i := i) e
theorem octInts_length : ∀ l : List UInt8, (octInts l).length = l.length
  | [] => rfl
  | b :: r => by simp [octInts, octInts_length r]
theorem sign_get : ∀ {l : List Nat} {i : Nat} {d : D}, (signs l)[i]? = some d → ∃ c, l[i]? = some c ∧ d = .str ⟨#[c]⟩
  | [], i, d, e => nomatch e
  | b :: r, 0, d, e => ⟨b, rfl, (s1 e).symm⟩
  | b :: r, i + 1, d, e => sign_get (l := r) (i := i) e
theorem signs_length : ∀ l : List Nat, (signs l).length = l.length
  | [] => rfl
  | b :: r => by simp [signs, signs_length r]
theorem keysD_length : ∀ l : List (D × D), (keysD l).length = l.length
  | [] => rfl
  | b :: r => by simp [keysD, keysD_length r]
theorem keys_get {T : Type} {em : T → D} : ∀ {kvs : List (T × Value)} {l : List (D × D)}, RepK prog w Φ (kvs.map fun p => (em p.1, p.2)) l → ∀ {i : Nat} {d : D}, (keysD l)[i]? = some d → ∃ k x, kvs[i]? = some (k, x) ∧ d = em k
  | [], _, q, i, d, e => by cases q; exact nomatch e
  | (k, x) :: kvs, _, q, i, d, e => by
    cases q with
    | cons h q =>
      cases i with
      | zero => exact ⟨k, x, rfl, (s1 e).symm⟩
      | succ i => exact keys_get q e
theorem reps_at {vs : List Value} {l : List D} (r : Reps prog w Φ vs l) {i : Nat} {v : Value} {d : D} (e : l[i]? = some d) (q : vs.toArray[i]? = some v) : Rep prog w Φ v d := by
  obtain ⟨u, hu, ru⟩ := r.get e
  rw [List.getElem?_toArray, hu] at q
  exact s1 q ▸ ru
theorem new_ne (I : Inv prog w h₀ Ψ Φ h pe V env) {a : Addr} {ob : Obj} (p : Φ a ob) : a ≠ h.objs.size := Nat.ne_of_lt (Heap.lt_size (I.phi a ob p))

theorem old_two {I a : Addr} {ob : Obj} (p : Φ a ob) : ∀ b ∈ [I, a], b = I ∨ ∃ ob, Φ b ob := fun b hb => by
  rcases List.mem_cons.mp hb with rfl | hb
  · exact .inl rfl
  · exact List.mem_singleton.mp hb ▸ .inr ⟨_, p⟩
theorem src_list {a : Addr} {vs : List Value} {m : Nat} {ds : List D} (I : Inv prog w h₀ Ψ Φ h pe V env) (p : Φ a (lstObj vs m)) (r : Reps prog w Φ vs ds) :
    Src prog w Φ h.objs.size ds (h.push { cls := .type "list_iterator", data := .fields #[.ref a, .int 0 0] }) [h.objs.size, a] (fun i v => vs.toArray[i]? = some v) (fun i h' => h'.IsListIter h.objs.size a i ∧ h'.IsList a vs.toArray) where
  walks := fun A hA => by
    have := Walks.list (prog := prog) (w := w) hA h.objs.size a (new_ne I p) vs.toArray
    rw [show vs.toArray.size = ds.length from (List.size_toArray ..).trans r.length] at this
    exact this
  start := ⟨⟨_, Heap.get?_push_size _ rfl, rfl, rfl⟩, (isList_of (I.phi _ _ p)).push _⟩
  rep := fun i v d e q => reps_at r e q
  there := fun i h st => by
    obtain ⟨⟨o, h1, h2, h3⟩, _⟩ := st
    exact ⟨o, h1, _, _, h2, h3, by decide⟩
  old := old_two p
theorem src_tup {a : Addr} {vs : List Value} {m : Nat} {ds : List D} (I : Inv prog w h₀ Ψ Φ h pe V env) (p : Φ a (tupObj vs m)) (r : Reps prog w Φ vs ds) :
    Src prog w Φ h.objs.size ds (h.push { cls := .type "tuple_iterator", data := .fields #[.ref a, .int 0 0] }) [h.objs.size, a] (fun i v => vs.toArray[i]? = some v) (fun i h' => h'.IsTupleIter h.objs.size a i ∧ h'.IsTuple a vs.toArray) where
  walks := fun A hA => by
    have := Walks.tuple (prog := prog) (w := w) hA h.objs.size a (new_ne I p) vs.toArray
    rw [show vs.toArray.size = ds.length from (List.size_toArray ..).trans r.length] at this
    exact this
  start := ⟨⟨_, Heap.get?_push_size _ rfl, rfl, rfl⟩, ⟨_, Heap.get?_push_of_some _ (I.phi _ _ p), rfl, _, rfl⟩⟩
  rep := fun i v d e q => reps_at r e q
  there := fun i h st => by
    obtain ⟨⟨o, h1, h2, h3⟩, _⟩ := st
    exact ⟨o, h1, _, _, h2, h3, by decide⟩
  old := old_two p
theorem src_bytes (l : List UInt8) (t : Tok) :
    Src prog w Φ h.objs.size (octInts l) (h.push { cls := .type "bytes_iterator", data := .fields #[.bytes l.toArray t, .int 0 0] }) [h.objs.size] (fun i v => ∃ c u, l.toArray[i]? = some c ∧ v = .int (c.toNat : Int) u) (fun i h' => PySem.W.KBw.IsBytesIter h' h.objs.size l.toArray t i) where
  walks := fun A hA => by
    have := PySem.W.KBw.walks (prog := prog) (w := w) hA h.objs.size l.toArray t
    rw [show l.toArray.size = (octInts l).length from (List.size_toArray ..).trans (octInts_length l).symm] at this
    exact this
  start := ⟨_, Heap.get?_push_size _ rfl, rfl, rfl⟩
  rep := fun i v d e q => by
    obtain ⟨c, hc, rfl⟩ := nat_get e
    obtain ⟨c', u, hc', rfl⟩ := q
    rw [List.getElem?_toArray, hc] at hc'
    exact s1 hc' ▸ .int _ _
  there := fun i h st => by
    obtain ⟨o, h1, h2, h3⟩ := st
    exact ⟨o, h1, _, _, h2, h3, by decide⟩
  old := fun b hb => .inl (List.mem_singleton.mp hb)
theorem src_str (x : Str) (t : Tok) (ty : String) (hW : ∀ A : Around, A.handled = none → Walks prog w A h.objs.size [h.objs.size] [h.objs.size] x.cps.size (SignAt x) (fun i h' => h'.IsStrIter h.objs.size ty x t i)) (hty : ownedNames.contains ty = false) :
    Src prog w Φ h.objs.size (signs x.cps.toList) (h.push { cls := .type ty, data := .fields #[.str x t, .int 0 0] }) [h.objs.size] (SignAt x) (fun i h' => h'.IsStrIter h.objs.size ty x t i) where
  walks := fun A hA => by
    have := hW A hA
    rw [show x.cps.size = (signs x.cps.toList).length by rw [signs_length, Array.length_toList]] at this
    exact this
  start := ⟨_, Heap.get?_push_size _ rfl, rfl, rfl⟩
  rep := fun i v d e q => by
    obtain ⟨c, hc, rfl⟩ := sign_get e
    obtain ⟨c', u, hc', rfl⟩ := q
    rw [Array.getElem?_toList, hc'] at hc
    exact s1 hc ▸ .str _ _
  there := fun i h st => by
    obtain ⟨o, h1, h2, h3⟩ := st
    exact ⟨o, h1, _, _, h2, h3, hty⟩
  old := fun b hb => .inl (List.mem_singleton.mp hb)
theorem iter_dict {T : Type} [DecidableEq T] {knd : KeyKind prog w T} {em : T → D} {ob : Obj} {kvs : List (T × Value)} {a : Addr} {l : List (D × D)} {Q : Value → Shared → Prop} {E : Value → Shared → Prop} (I : Inv prog w h₀ Ψ Φ s.heap pe V env) (p : Φ a ob) (ne0 : a ≠ sysModules) (y : ob.IsDictOf knd kvs) (q : RepK prog w Φ (kvs.map fun p => (em p.1, p.2)) l)
    (hk : ∀ k v, knd.is k v = true → Rep prog w Φ v (em k)) (k : OkIt prog w h₀ Ψ Φ s pe V env (keysD l) Q) : wpAny (model prog w) A (pyIter (.ref a)) Q E s := by
  obtain ⟨es, ep, y1, y2, y3, y4, y5⟩ := y
  have hd : s.heap.DictAt knd a kvs ep := ⟨_, es, I.phi _ _ p, y1, y2, y3, y4, y5⟩
  have hlen : kvs.length = (keysD l).length := by
    have := q.length
    rw [List.length_map] at this
    rw [this, keysD_length]
  have S : Src prog w Φ s.heap.objs.size (keysD l) (s.heap.push { cls := .type "dict_keyiterator", data := .fields #[.ref a, .int 0 0, .int kvs.length 0, .int ep 0] }) [s.heap.objs.size, a]
      (fun i v => ∃ k x, kvs[i]? = some (k, x) ∧ knd.is k v = true) (fun i h => h.IsKeyIter s.heap.objs.size a i kvs.length ep ∧ h.DictAt knd a kvs ep) := by
    refine ⟨fun A hA => ?_, ⟨⟨_, Heap.get?_push_size _ rfl, rfl, rfl⟩, hd.at' fun o e => Heap.get?_push_of_some _ e⟩, fun i v d e z => ?_, fun i h st => ?_, fun b hb => ?_⟩
    · have := Walks.dictKeys (prog := prog) (w := w) (knd := knd) hA s.heap.objs.size a (new_ne I p) kvs ep
      rw [← hlen]
      exact this
    · obtain ⟨k', x, hx, rfl⟩ := keys_get q e
      obtain ⟨k2, x2, hx2, is2⟩ := z
      rw [hx] at hx2; cases hx2
      exact hk _ _ is2
    · obtain ⟨⟨o, h1, h2, h3⟩, _⟩ := st
      exact ⟨o, h1, _, _, h2, h3, by decide⟩
    · rcases List.mem_cons.mp hb with rfl | hb
      · exact .inl rfl
      · rw [List.mem_singleton.mp hb]; exact .inr ⟨_, p⟩
  exact wpAny_pyIter_dict (beq_eq_false_iff_ne.mpr ne0) hd (k _ _ Φ _ s.toks _ _ _ (Le.refl _) I.psi_new (I.pushPsi _) (Heap.get?_push_size _ rfl) S)
theorem iter_any {d : D} {ds : List D} {v : Value} (e : itemsOf d = some ds) (r : Rep prog w Φ v d) {Q : Value → Shared → Prop} {E : Value → Shared → Prop} (I : Inv prog w h₀ Ψ Φ s.heap pe V env) (k : OkIt prog w h₀ Ψ Φ s pe V env ds Q) : wpAny (model prog w) A (pyIter v) Q E s := by
  cases d with
  | list l =>
    obtain ⟨a, vs, m, rfl, p, r⟩ := r.list_inv
    obtain rfl := s1 e
    exact wpAny_pyIter_list (isList_of (I.phi _ _ p)) (k _ _ Φ _ s.toks _ _ _ (Le.refl _) I.psi_new (I.pushPsi _) (Heap.get?_push_size _ rfl) (src_list I p r))
  | tup l =>
    obtain ⟨a, vs, m, rfl, p, r⟩ := r.tup_inv
    obtain rfl := s1 e
    exact wpAny_pyIter_tuple (isTup_of (I.phi _ _ p)) (k _ _ Φ _ s.toks _ _ _ (Le.refl _) I.psi_new (I.pushPsi _) (Heap.get?_push_size _ rfl) (src_tup I p r))
  | bytes l =>
    obtain ⟨t, rfl⟩ := r.bytes_inv
    obtain rfl := s1 e
    exact PySem.W.KBw.pyIter_bytes (k _ _ Φ _ s.toks _ _ _ (Le.refl _) I.psi_new (I.pushPsi _) (Heap.get?_push_size _ rfl) (src_bytes l t))
  | str x =>
    obtain ⟨t, rfl⟩ := r.str_inv
    obtain rfl := s1 e
    cases ha : x.cps.all (· < 128)
    · exact wpAny_pyIter_wide ha (k _ _ Φ _ s.toks _ _ _ (Le.refl _) I.psi_new (I.pushPsi _) (Heap.get?_push_size _ rfl) (src_str x t "str_iterator" (fun A hA => Walks.strWide hA _ x t) (by decide)))
    · exact wpAny_pyIter_ascii ha (k _ _ Φ _ s.toks _ _ _ (Le.refl _) I.psi_new (I.pushPsi _) (Heap.get?_push_size _ rfl) (src_str x t "str_ascii_iterator" (fun A hA => Walks.strAscii hA _ x t) (by decide)))
  | dict l =>
    obtain ⟨a, ob, rfl, p, ne0, q⟩ := r.dict_inv
    obtain rfl := s1 e
    cases q with
    | ik y q => exact iter_dict (em := D.int) I p ne0 y q (fun k v h => by obtain ⟨t, rfl⟩ := Value.isInt_shape h; exact .int _ _) k
    | sk y q => exact iter_dict (em := D.str) I p ne0 y q (fun k v h => by obtain ⟨t, rfl⟩ := Value.isStrOf_shape h; exact .str _ _) k
    | bk y q => exact iter_dict (em := D.bytes) I p ne0 y q (fun k v h => by obtain ⟨t, rfl⟩ := isBytesOf_shape h; exact .bytes _ _) k
  | _ => exact (ns e).elim
end
end Mine

set_option Elab.async false
set_option maxRecDepth 100000
namespace Mine
open PySem PySem.W PyProof.Rows PySem.Calls

section
variable {prog : Program} {w : World} {h₀ : Base} {h h' : Heap} {K : Frag} {g : Gt} {o : Orc} {n : Nat} {Ψ Φ Φ' : Facts} {pe : PySem.Env} {V : Str → Option Value} {env : MEnv} {A : Around} {s : Shared}

theorem slots_dats : ∀ {vs : List Value} {l : List D}, Reps prog w Φ vs l → SlotsR prog w Φ Ψ Ψ vs (dats l)
  | _, _, .nil => .nil
  | _, _, .cons h r => .cons (.dat h) (slots_dats r)
theorem bindNames_each : ∀ {ts : List Expr} {ss : List Slot} {env env' : MEnv}, bindNames env ts ss = some env' → (assignEach ts pe).findIdx? (·.1) = none ∧ (assignEach ts pe).length = ss.length
  | [], [], _, _, _ => ⟨rfl, rfl⟩
  | t :: ts, sl :: ss, env, env', e => by
    refine bo1 e fun y hy e => bo1 e fun env1 hb e2 => ?_
    obtain ⟨p, rfl⟩ := nameT_some hy
    obtain ⟨a, b⟩ := bindNames_each e2
    rw [each_cons rfl]
    refine ⟨?_, by rw [List.length_cons, b, List.length_cons]⟩
    rw [List.findIdx?_cons, a]; rfl
  | [], _ :: _, _, _, e => (ns e).elim
  | t :: _, [], _, _, e => (ns e).elim
theorem dats_length : ∀ l : List D, (dats l).length = l.length
  | [] => rfl
  | _ :: r => by simp [dats, dats_length r]
set_option tactic.hygienic true in
/-- a loop's target -/
theorem snd_target {t : Expr} {d : D} {v : Value} {env' : MEnv} (e : bindT env t d = some env') {Q : Unit → Shared → Prop} {E : Value → Shared → Prop} (I : Inv prog w h₀ Ψ Φ s.heap pe V env) (hh : A.handled = none) (r : Rep prog w Φ v d)
    (k : ∀ V' h' tk, Inv prog w h₀ Ψ Φ h' pe V' env' → Q () { s with heap := h', toks := tk }) : wpAny (model prog w) A (assign t pe v) Q E s := by
  unfold bindT at e
  split at e
  · rename_i x hx
    obtain ⟨p, rfl⟩ := nameT_some hx
    exact wpAny_assign_Name (bind_slot e I (Le.refl _) r fun V' h' tk I' => k V' h' tk I')
  · refine bo1 e fun ts ht e => bo1 e fun l hl e2 => ?_
    obtain ⟨_, _, rfl⟩ := tupT_some ht
    rw [asTup_some hl] at r
    obtain ⟨a, vs, m, rfl, p, q⟩ := r.tup_inv
    obtain ⟨a, b⟩ := bindNames_each (pe := pe) e2
    rw [PyProof.Rows.assign_Tuple]
    refine wpAny_bind (wpAny_standAt (unpack_tuple hh (isTup_of (I.phi _ _ p)) (by rw [b, dats_length, ← q.length]; exact (List.size_toArray ..).symm) a fun h' he => ?_))
    exact bind_names (slots_dats q) (I.ext he) e2 fun V' h' tk I' => k V' h' tk I'
/-- where a loop stands -/
inductive ForSt (prog : Program) (w : World) (h₀ : Base) (o : Orc) (Ψ Φ : Facts) (s : Shared) (pe : PySem.Env) (I : Addr) (St : Nat → Heap → Prop) (t : Expr) (b : List Stmt) (ds : List D) (out : Option (Fl × MEnv)) : Nat → Shared → Prop
  | mk {env1 : MEnv} {V1 : Str → Option Value} {Φ1 : Facts} {h1 : Heap} {tk1 i : Nat} {ob1 : Obj} : Le Φ Φ1 → Inv prog w h₀ (also Ψ I ob1) Φ1 h1 pe V1 env1 → St i h1 → i ≤ ds.length → forAll o t b env1 (ds.drop i) = out → ForSt prog w h₀ o Ψ Φ s pe I St t b ds out (ds.length - i) { s with heap := h1, toks := tk1 }
set_option tactic.hygienic true in
theorem snd_forAll (hB : SndB prog w h₀ o n) {t : Expr} {b : List Stmt} {I : Addr} {ob : Obj} {ds : List D} {fp : List Addr} {P : Nat → Value → Prop} {St : Nat → Heap → Prop} {fl : Fl} {env' : MEnv} (e : forAll o t b env ds = some (fl, env')) {R : Result → Shared → Prop}
    (J : Inv prog w h₀ (also Ψ I ob) Φ s.heap pe V env) (S : Src prog w Φ I ds s.heap fp P St) (hn : ∀ o', ¬ Ψ I o') (Rm : Room n A)
    (k : ∀ f V' Φ' h' tk, Le Φ Φ' → Inv prog w h₀ Ψ Φ' h' pe V' env' → FlR prog w Φ' f fl → R (.ok f) { s with heap := h', toks := tk }) :
    codeAny (model prog w) A (.forLoop t (.ref I) b [] pe) R s := by
  have W := S.walks A Rm.1
  refine codeAny_forLoop_any (ForSt prog w h₀ o Ψ Φ s pe I St t b ds (some (fl, env'))) ?_ (ds.length) (.mk (i := 0) (Le.refl _) J S.start (Nat.zero_le _) e)
  intro kk s' st
  cases st with
  | @mk env1 V1 Φ1 h1 tk1 i ob1 le1 J1 st1 hi e1 =>
  obtain ⟨ob1', g1, it1⟩ := S.there i h1 st1
  obtain rfl : ob1' = ob1 := s1 (g1.symm.trans (J1.psi I ob1 (.inr ⟨rfl, rfl⟩)))
  rcases Nat.lt_or_ge i ds.length with hlt | hge
  · refine W.item i _ _ _ hlt st1 fun v h2 tk2 hP st2 hk2 => ?_
    obtain ⟨ob2, g2, it2⟩ := S.there (i + 1) h2 st2
    have J2 := J1.fillX hn (fun b o nb e => hk2 b o (fun z => nb (List.mem_singleton.mp z)) e) g2 it1.noCell
    have r2 : Rep prog w Φ1 v ds[i] := (S.rep i v _ (List.getElem?_eq_getElem hlt) hP).mono le1
    rw [List.drop_eq_getElem_cons hlt] at e1
    refine bo1 e1 fun env2 hb e1 => bo2 e1 fun fl1 env3 hbody e1 => ?_
    refine letgo_of g2 it2 (snd_target hb J2 Rm.1 r2 fun V3 h3 tk3 J3 => ?_)
    refine wpAny_mono (hB _ _ _ _ hbody _ _ _ _ _ _ _ J3 Rm fun f V4 Φ4 h4 tk4 le4 J4 hf => ?_) (fun zz zz x=> x) (fun zz zz x=> x.elim)
    cases fl1 with
    | nxt =>
      have stay : St (i + 1) h4 := W.frame _ _ _ st2 fun a ha x ex => by
        rcases S.old a ha with z | ⟨y, hy⟩
        · exact s1 (ex.symm.trans (J2.psi a ob2 (.inr ⟨z, rfl⟩))) ▸ J4.psi a _ (.inr ⟨z, rfl⟩)
        · exact s1 (ex.symm.trans (J2.phi a y (le1 _ _ hy))) ▸ J4.phi a _ (le4 _ _ (le1 _ _ hy))
      rw [hf.nxt_inv]
      exact ⟨ds.length - (i + 1), Nat.sub_lt_sub_left hlt (Nat.lt_succ_self i), .mk (le1.trans le4) J4 stay hlt e1⟩
    | ret d' =>
      obtain ⟨rfl, rfl⟩ := sp e1
      obtain ⟨v', rfl, rv⟩ := hf.ret_inv
      exact k _ V4 Φ4 h4 tk4 (le1.trans le4) (J4.dropX hn (fun zz zz zz e=> e) it2.noCell) rv
  · obtain rfl : i = ds.length := Nat.le_antisymm hi hge
    rw [List.drop_length] at e1
    obtain ⟨rfl, rfl⟩ := sp e1
    refine W.done _ _ _ st1 fun h2 tk2 hk2 => ?_
    exact wpAny_execs_nil (k .next V1 Φ1 h2 tk2 le1 (J1.dropX hn (fun b o nb e => hk2 b o (fun z => nb (List.mem_singleton.mp z)) e) it1.noCell) trivial)
/-- what iterE answers is what the iterator hands on -/
noncomputable def SndI (prog : Program) (w : World) (h₀ : Base) (g : Gt) (o : Orc) (n : Nat) : Prop := ∀ (env : MEnv) (x : Expr) (ds : List D) (env' : MEnv), iterE g o env x = some (ds, env') →
  ∀ (Ψ Φ : Facts) (s : Shared) (pe : PySem.Env) (V : Str → Option Value) (A : Around) (Q : Value → Shared → Prop), Inv prog w h₀ Ψ Φ s.heap pe V env → Room n A →
    OkIt prog w h₀ Ψ Φ s pe V env' ds Q → wpAny (model prog w) A (eval x pe) (fun v s₁ => wpAny (model prog w) A (pyIter v) Q NoE s₁) NoE s
theorem folded_of {x : Expr} (h : isSetE x = false) (v : Value) : foldedSetIterable x pe v = pure v := by
  cases x <;> first | rfl | exact absurd h.symm Bool.false_ne_true
theorem snd_For (hB : SndB prog w h₀ o n) (hI : SndI prog w h₀ g o n) {t it : Expr} {b : List Stmt} {pos : Pos} {fl : Fl} {env' : MEnv} (hset : isSetE it = false)
    (e : (o2 (iterE g o env it) fun ds env1 => forAll o t b env1 ds) = some (fl, env')) {Q : Flow → Shared → Prop} (I : Inv prog w h₀ Ψ Φ s.heap pe V env) (R : Room n A)
    (k : OkS prog w h₀ Ψ Φ s pe env' fl Q) : wpAny (model prog w) A (exec (.For t it b [] pos) pe) Q NoE s := by
  refine bo2 e fun ds env1 hi e => ?_
  refine wpAny_For (hI _ _ _ _ hi _ _ _ _ _ _ _ I R fun I1 ob Φ1 h1 t1 fp P St le1 hn J1 g1 S => ?_) (folded_of hset)
  exact snd_forAll hB e J1 S hn R fun f V' Φ' h' tk le J' hf => k f V' Φ' h' tk (le1.trans le) J' hf
inductive WhileSt (prog : Program) (w : World) (h₀ : Base) (o : Orc) (Ψ Φ : Facts) (s : Shared) (pe : PySem.Env) (t : Expr) (b : List Stmt) (out : Option (Fl × MEnv)) : Nat → Shared → Prop
  | mk {env1 : MEnv} {V1 : Str → Option Value} {Φ1 : Facts} {h1 : Heap} {tk1 kk : Nat} : Le Φ Φ1 → Inv prog w h₀ Ψ Φ1 h1 pe V1 env1 → whileAll o t b kk env1 = out → WhileSt prog w h₀ o Ψ Φ s pe t b out kk { s with heap := h1, toks := tk1 }
set_option tactic.hygienic true in
theorem snd_whileAll (hB : SndB prog w h₀ o n) (hT : SndT prog w h₀ o n) {t : Expr} {b : List Stmt} {fl : Fl} {env' : MEnv} {m : Nat} (e : whileAll o t b m env = some (fl, env')) {R : Result → Shared → Prop}
    (J : Inv prog w h₀ Ψ Φ s.heap pe V env) (Rm : Room n A)
    (k : ∀ f V' Φ' h' tk, Le Φ Φ' → Inv prog w h₀ Ψ Φ' h' pe V' env' → FlR prog w Φ' f fl → R (.ok f) { s with heap := h', toks := tk }) :
    codeAny (model prog w) A (.whileLoop t b [] pe) R s := by
  refine codeAny_whileLoop (WhileSt prog w h₀ o Ψ Φ s pe t b (some (fl, env'))) ?_ m (.mk (Le.refl _) J e)
  intro kk s' st
  cases st with
  | @mk env1 V1 Φ1 h1 tk1 _ le1 J1 e1 =>
  cases kk with
  | zero => exact (ns e1).elim
  | succ kk =>
    refine bo2 e1 fun c env2 ht e1 => ?_
    refine wpAny_mono (hT _ _ _ _ ht _ _ _ _ _ _ _ J1 Rm fun Φ2 h2 tk2 le2 J2 => ?_) (fun zz zz x=> x) (fun zz zz x=> x.elim)
    cases c with
    | true =>
      refine bo2 e1 fun fl1 env3 hbody e1 => ?_
      refine wpAny_mono (hB _ _ _ _ hbody _ _ _ _ _ _ _ J2 Rm fun f V4 Φ4 h4 tk4 le4 J4 hf => ?_) (fun zz zz x=> x) (fun zz zz x=> x.elim)
      cases fl1 with
      | nxt =>
        rw [hf.nxt_inv]
        exact ⟨kk, Nat.lt_succ_self _, .mk ((le1.trans le2).trans le4) J4 e1⟩
      | ret d' =>
        obtain ⟨rfl, rfl⟩ := sp e1
        obtain ⟨v', rfl, rv⟩ := hf.ret_inv
        exact k _ V4 Φ4 h4 tk4 ((le1.trans le2).trans le4) J4 rv
    | false =>
      obtain ⟨rfl, rfl⟩ := sp e1
      exact wpAny_execs_nil (k .next V1 Φ2 h2 tk2 (le1.trans le2) J2 trivial)
theorem snd_While (hB : SndB prog w h₀ o n) (hT : SndT prog w h₀ o n) {t : Expr} {b : List Stmt} {pos : Pos} {fl : Fl} {env' : MEnv} {m : Nat} (e : whileAll o t b m env = some (fl, env')) {Q : Flow → Shared → Prop} (I : Inv prog w h₀ Ψ Φ s.heap pe V env) (R : Room n A)
    (k : OkS prog w h₀ Ψ Φ s pe env' fl Q) : wpAny (model prog w) A (exec (.While t b [] pos) pe) Q NoE s :=
  wpAny_While (snd_whileAll hB hT e I R fun f V' Φ' h' tk le J' hf => k f V' Φ' h' tk le J' hf)
end
end Mine

set_option Elab.async false
set_option maxRecDepth 100000
namespace Mine
open PySem PySem.W PyProof.Rows PySem.Calls

section
variable {prog : Program} {w : World} {h₀ : Base} {h h' : Heap} {K : Frag} {g : Gt} {o : Orc} {n : Nat} {Ψ Φ Φ' : Facts} {pe : PySem.Env} {V : Str → Option Value} {env : MEnv} {A : Around} {s : Shared}

/-- a long way on: what was there stays (but for what was only ours), new facts are of new objects -/
theorem Inv.leap {Ψp : Facts} {X : Addr → Prop} (I : Inv prog w h₀ Ψp Φ h pe V env) (lp : Le Ψ Ψp) (hX : ∀ a, X a → (∃ ob, Ψp a ob ∧ ∀ v, ob.data ≠ .cell v) ∧ ∀ o', ¬ Ψ a o') (hs : ∀ b o, ¬ X b → h.get? b = some o → h'.get? b = some o)
    (le : Le Φ Φ') (hnew : ∀ a o, Φ' a o → Φ a o ∨ (h.get? a = none ∧ h'.get? a = some o)) : Inv prog w h₀ Ψ Φ' h' pe V env := by
  have na : ∀ b, (∀ o', ¬ Ψp b o') → ¬ X b := fun b q x => let ⟨⟨ob, p, _⟩, _⟩ := hX b x; q ob p
  have nphi : ∀ b o', Φ b o' → ¬ X b := fun b o' q x => let ⟨⟨ob, p, _⟩, _⟩ := hX b x; I.sep b ob o' p q
  have own' : ∀ x d, env.isVar x = true → getv env.vars x = some (.own d) → ∀ v, V x = some v → Own prog w Φ h v d ∧ (∀ b, OwnAt h v b → ¬ X b) ∧ Own prog w Φ' h' v d ∧ ∀ b, OwnAt h' v b → OwnAt h v b := fun x d hx hd v hv => by
    obtain ⟨v', hv', r, q⟩ := I.own x d hx hd
    rw [hv] at hv'; cases hv'
    have ne : ∀ b, OwnAt h v b → ¬ X b := fun b hb => na b (q b hb).1
    refine ⟨r, ne, (r.keep fun b o' hb e => hs b o' (ne b hb) e).mono le, fun b hb => OwnAt.back r (fun o' ⟨c, e, g⟩ => ⟨c, e, hs c o' (ne c (.inl e)) g⟩) hb⟩
  exact {
    kinds := I.kinds
    real := by
      refine ⟨?_, fun x hx => ?_⟩
      · obtain ⟨m, hm, e⟩ := I.real.loc
        exact ⟨m, hm.at' fun o e => hs _ o (na _ (I.frame _ (.inl rfl)).1) e, e⟩
      · obtain ⟨c, h1, o', h2, h3⟩ := I.real.cell x hx
        refine ⟨c, h1, o', hs c o' (fun x => ?_) h2, h3⟩
        obtain ⟨⟨ob, p, nc⟩, _⟩ := hX c x
        have := I.psi c ob p
        rw [h2] at this
        cases this
        exact nc _ h3
    psi := fun b x q => hs b x (fun z => (hX b z).2 x q) (I.psi b x (lp b x q))
    phi := fun b x q => by
      rcases hnew b x q with q | ⟨_, q⟩
      · exact hs b x (nphi b x q) (I.phi b x q)
      · exact q
    frame := fun b x => ⟨fun o' q => (I.frame b x).1 o' (lp b o' q), fun o' q => by
      rcases hnew b o' q with q | ⟨q, _⟩
      · exact (I.frame b x).2 o' q
      · obtain ⟨o₁, e⟩ := I.frame_there x
        rw [e] at q; cases q⟩
    apartCells := I.apartCells
    cellLoc := I.cellLoc
    dat := fun x d hx hd => by
      obtain ⟨v, hv, r⟩ := I.dat x d hx hd
      exact ⟨v, hv, r.mono le⟩
    own := fun x d hx hd => by
      obtain ⟨v, hv, r, q⟩ := I.own x d hx hd
      obtain ⟨_, ne, r', back⟩ := own' x d hx hd v hv
      refine ⟨v, hv, r', fun b hb' => ⟨fun o' z => (q b (back b hb')).1 o' (lp b o' z), fun o' z => ?_, (q b (back b hb')).2.2⟩⟩
      rcases hnew b o' z with z | ⟨z, _⟩
      · exact (q b (back b hb')).2.1 o' z
      · obtain ⟨o₁, e⟩ := r.there (back b hb')
        rw [e] at z; cases z
    apart := fun x y d e v u b hx hy hxy gx gy hv hu bx bY => I.apart x y d e v u b hx hy hxy gx gy hv hu ((own' x d hx gx v hv).2.2.2 b bx) ((own' y e hy gy u hu).2.2.2 b bY)
    low := I.low
    base := fun a o e => le _ _ (I.base a o e)
    sep := fun b x y p q => by
      rcases hnew b y q with q | ⟨q, _⟩
      · exact I.sep b x y (lp b x p) q
      · rw [I.psi b x (lp b x p)] at q; cases q }

theorem kindL_lookup (x : Str) : ∀ names : List (Str × NameKind), kindL names x = names.lookup x
  | [] => rfl
  | (y, k) :: r => by
    unfold kindL
    rw [List.lookup_cons, kindL_lookup x r]
    by_cases h : y = x
    · subst h; rw [if_pos (seq_refl _)]; simp
    · rw [if_neg (by rw [ne_seq h]; decide)]
      have : (x == y) = false := beq_eq_false_iff_ne.mpr (Ne.symm h)
      rw [this]

/-! the cells of the free names -/
noncomputable def cellV (pe : PySem.Env) (x : Str) : Addr := (pe.cells.lookup x).getD 0
noncomputable def clFrom (pe : PySem.Env) : List (Str × NameKind) → List (Str × Addr) → List (Str × Addr)
  | [], cs => cs
  | (x, k) :: r, cs => if k == .free then clFrom pe r ((x, cellV pe x) :: cs) else clFrom pe r cs
theorem clFrom_ok : ∀ {names : List (Str × NameKind)} {cs : List (Str × Addr)}, (∀ p ∈ cs, p.2 = cellV pe p.1) → (∀ p ∈ clFrom pe names cs, p.2 = cellV pe p.1) ∧ (∀ p ∈ cs, p ∈ clFrom pe names cs) ∧ ∀ x, (x, NameKind.free) ∈ names → (x, cellV pe x) ∈ clFrom pe names cs
  | [], cs, h => ⟨h, fun p q => q, fun x q => nomatch q⟩
  | (y, k) :: r, cs, h => by
    unfold clFrom
    by_cases hk : (k == NameKind.free) = true
    · rw [if_pos hk]
      obtain ⟨a, b, c⟩ := clFrom_ok (names := r) (cs := (y, cellV pe y) :: cs) fun p hp => by
        rcases List.mem_cons.mp hp with rfl | hp
        · rfl
        · exact h p hp
      refine ⟨a, fun p hp => b p (.tail _ hp), fun x hx => ?_⟩
      rcases List.mem_cons.mp hx with e | hx
      · cases e; exact b _ (.head _)
      · exact c x hx
    · rw [if_neg hk]
      obtain ⟨a, b, c⟩ := clFrom_ok (names := r) (cs := cs) h
      refine ⟨a, b, fun x hx => ?_⟩
      rcases List.mem_cons.mp hx with e | hx
      · cases e; exact absurd rfl hk
      · exact c x hx
theorem lookup_ok {x : Str} : ∀ {l : List (Str × Addr)}, (∀ p ∈ l, p.2 = cellV pe p.1) → (x, cellV pe x) ∈ l → l.lookup x = some (cellV pe x)
  | [], _, h => nomatch h
  | (y, a) :: r, ok, h => by
    rw [List.lookup_cons]
    by_cases e : x = y
    · subst e
      simp only [beq_self_eq_true]
      have := ok _ (.head _)
      exact congrArg some this
    · rw [beq_eq_false_iff_ne.mpr e]
      rcases List.mem_cons.mp h with z | h
      · cases z; exact absurd rfl e
      · exact lookup_ok (fun p hp => ok p (.tail _ hp)) h
theorem closure_of {scope : Scope} (hc : ∀ x, (x, NameKind.free) ∈ scope.names → ∃ c, pe.cells.lookup x = some c) : closureFor scope pe = pure (clFrom pe scope.names []) := by
  have go : ∀ (l : List (Str × NameKind)) (cs : List (Str × Addr)), (∀ x, (x, NameKind.free) ∈ l → ∃ c, pe.cells.lookup x = some c) →
      (forIn l cs (fun x r => if x.2 == NameKind.free then do let c ← cellOf pe x.1; pure (ForInStep.yield ((x.1, c) :: r)) else pure (ForInStep.yield r)) : Sem (List (Str × Addr))) = pure (clFrom pe l cs) := by
    intro l
    induction l with
    | nil => intro cs _; rfl
    | cons p l ih =>
      intro cs h
      obtain ⟨x, k⟩ := p
      rw [List.forIn_cons]
      unfold clFrom
      by_cases hk : (k == NameKind.free) = true
      · have hk' : k = .free := by cases k <;> first | rfl | cases hk
        subst hk'
        obtain ⟨c, hc⟩ := h x (.head _)
        have : cellOf pe x = pure c := by unfold cellOf; rw [hc]
        have cv : cellV pe x = c := by unfold cellV; rw [hc]; rfl
        simp only [if_pos hk, this, pure_bind]
        rw [ih _ fun y hy => h y (.tail _ hy), cv]
      · simp only [if_neg hk, pure_bind]
        exact ih _ fun y hy => h y (.tail _ hy)
  unfold closureFor
  exact (congrArg (· >>= fun r => pure r) (go scope.names [] hc)).trans rfl
end
end Mine

set_option Elab.async false
set_option maxRecDepth 100000
namespace Mine
open PySem PySem.W PyProof.Rows PySem.Calls

section
variable {prog : Program} {w : World} {h₀ : Base} {h h' : Heap} {K : Frag} {g : Gt} {o : Orc} {n : Nat} {Ψ Φ Φ' : Facts} {pe : PySem.Env} {V : Str → Option Value} {env : MEnv} {A : Around} {s : Shared}

/-- somebody's object that nobody here knows -/
theorem Inv.adopt {a : Addr} {ob : Obj} (I : Inv prog w h₀ Ψ Φ h pe V env) (g : h.get? a = some ob) (nΦ : ∀ o', ¬ Φ a o') (nF : ¬ FrameAt pe env a)
    (nO : ∀ x d v, env.isVar x = true → getv env.vars x = some (.own d) → V x = some v → ¬ OwnAt h v a) : Inv prog w h₀ (also Ψ a ob) Φ h pe V env :=
  { I with
    psi := fun b x q => by
      rcases q with q | ⟨rfl, rfl⟩
      · exact I.psi b x q
      · exact g
    frame := fun b x => ⟨fun o' q => by
      rcases q with q | ⟨rfl, rfl⟩
      · exact (I.frame b x).1 o' q
      · exact nF x, (I.frame b x).2⟩
    own := fun x d hx hd => by
      obtain ⟨v, hv, r, q⟩ := I.own x d hx hd
      refine ⟨v, hv, r, fun b hb => ⟨fun o' z => ?_, (q b hb).2⟩⟩
      rcases z with z | ⟨rfl, rfl⟩
      · exact (q b hb).1 o' z
      · exact nO x d v hx hd hv hb
    sep := fun b x y p q => by
      rcases p with p | ⟨rfl, rfl⟩
      · exact I.sep b x y p q
      · exact nΦ y q }

theorem append_raw {l : Addr} {vs : List Value} {m : Nat} {x : Value} {Q : Value → Shared → Prop} {E : Value → Shared → Prop} (hl : s.heap.get? l = some (lstObj vs m)) (hsz : vs.length ≤ sizeLine)
    (hQ : ∀ h' m', Heap.SameBut l s.heap h' → h'.get? l = some (lstObj (vs ++ [x]) m') → Q .none { s with heap := h' }) : wpAny (model prog w) A (call (.builtin "list.append") [.ref l, x]) Q E s := by
  refine wpAny_call_entry slot_list_append (isList_of hl).typeIs entry_list_append ?_ (args_list_append _ _)
  show wpAny _ _ (updateSeq l (·.push x) >>= fun zz=> ret .none) _ _ s
  refine wpAny_bind (wpAny_updateSeq hl rfl (wpAny_pure ⟨.none, rfl, ?_⟩) (hz := by rw [List.size_toArray]; exact hsz))
  obtain ⟨m', e⟩ := mapSeq_lst (·.push x) vs m
  refine hQ _ m' (Heap.SameBut.update ..) ?_
  rw [Heap.get?_update_self _ hl (by rw [e]; rfl), e]
  simp

theorem tests_false {pe : PySem.Env} {M : Model} {Q : Bool → Shared → Prop} {E : Value → Shared → Prop} (hQ : Q false s) : ∀ l : List Expr,
    wpAny M A (forIn l false fun c r => if r = true then do let ok ← isTrue c pe (eval c pe); pure (ForInStep.yield ok) else pure (ForInStep.yield r)) Q E s
  | [] => wpAny_pure hQ
  | c :: l => by
    rw [List.forIn_cons]
    refine wpAny_bind ?_
    rw [if_neg (by decide)]
    exact wpAny_pure (tests_false hQ l)
theorem snd_tests (hT : SndT prog w h₀ o n) : ∀ {l : List Expr} {env : MEnv} {c : Bool} {env' : MEnv}, allT o .And env l = some (c, env') → ∀ {Φ : Facts} {s : Shared} {Q : Bool → Shared → Prop}, Inv prog w h₀ Ψ Φ s.heap pe V env → Room n A →
    OkT prog w h₀ Ψ Φ s pe V env' c Q → wpAny (model prog w) A (forIn l true fun c r => if r = true then do let ok ← isTrue c pe (eval c pe); pure (ForInStep.yield ok) else pure (ForInStep.yield r)) Q NoE s
  | [], env, c, env', e, Φ, s, Q, I, R, k => wpAny_pure (okT_eq e k Φ s.heap s.toks (Le.refl _) I)
  | x :: r, env, c, env', e, Φ, s, Q, I, R, k => by
    refine bo2 e fun b env1 hb e => ?_
    rw [List.forIn_cons]
    refine wpAny_bind ?_
    rw [if_pos rfl]
    refine wpAny_bind (hT _ _ _ _ hb _ _ _ _ _ _ _ I R fun Φ1 h1 t1 le1 I1 => wpAny_pure ?_)
    cases b with
    | true => exact snd_tests hT e I1 R (OkT.later k le1)
    | false => exact tests_false (okT_eq e k Φ1 h1 t1 le1 I1) r
/-! the comprehension's own environment -/
theorem cons_free {y x : Str} {k : NameKind} {r : List (Str × NameKind)} (hk : k ≠ .free) (h : (x, NameKind.free) ∈ (y, k) :: r) : (x, NameKind.free) ∈ r := by
  rcases List.mem_cons.mp h with z | h
  · exact absurd (congrArg Prod.snd z).symm hk
  · exact h
theorem kind_free (k : NameKind) : k = .free ∨ k ≠ .free := by cases k <;> first | exact .inl rfl | exact .inr fun e => nomatch e
theorem freeV_ne {y : Str} {k : NameKind} {r : List (Str × NameKind)} (hk : k ≠ .free) : freeV ((y, k) :: r) env = freeV r env := by cases k <;> first | rfl | exact absurd rfl hk
theorem datFree_ne {y : Str} {k : NameKind} {r : List (Str × NameKind)} (hk : k ≠ .free) : datFree env ((y, k) :: r) = datFree env r := by cases k <;> first | rfl | exact absurd rfl hk
set_option tactic.hygienic true in
theorem freeV_get {x : Str} : ∀ {names : List (Str × NameKind)} {sl : Slot}, getv (freeV names env) x = some sl → (x, NameKind.free) ∈ names ∧ env.get x = some sl
  | [], _, e => nomatch e
  | (y, k) :: r, sl, e => by
    have tail : getv (freeV r env) x = some sl → (x, NameKind.free) ∈ (y, k) :: r ∧ env.get x = some sl := fun e =>
      ⟨.tail _ (freeV_get e).1, (freeV_get e).2⟩
    rcases kind_free k with rfl | hk
    · unfold freeV at e
      split at e
      · rename_i s hs
        unfold getv at e
        split at e
        · rename_i q
          have := seq_iff.mp q
          subst this
          exact ⟨.head _, s1 e ▸ hs⟩
        · exact tail e
      · exact tail e
    · rw [freeV_ne hk] at e
      exact tail e
theorem scope_kind {x : Str} {k : NameKind} : ∀ {names : List (Str × NameKind)}, scopeOk names = true → (x, k) ∈ names → kindL names x = some k
  | [], _, h => nomatch h
  | (y, j) :: r, e, h => by
    obtain ⟨c, e⟩ := ite_true_and e
    refine band c fun zz c=> ?_
    unfold kindL
    rcases List.mem_cons.mp h with z | h
    · injection z with z1 z2
      subst z1 z2; rw [if_pos (seq_refl _)]
    · have := scope_kind e h
      rw [if_neg, this]
      intro q
      rw [seq_iff.mp q, this] at c
      exact absurd c Bool.false_ne_true
set_option tactic.hygienic true in
theorem scope_in {x : Str} {k : NameKind} : ∀ {names : List (Str × NameKind)}, kindL names x = some k → (x, k) ∈ names
  | [], h => nomatch h
  | (y, j) :: r, h => by
    unfold kindL at h
    split at h
    · rename_i q
      rw [← s1 h, seq_iff.mp q]; exact .head _
    · exact .tail _ (scope_in h)
theorem scope_each {x : Str} {k : NameKind} : ∀ {names : List (Str × NameKind)}, scopeOk names = true → (x, k) ∈ names → compKind k = true ∧ nameOk x = true
  | [], _, h => nomatch h
  | (y, j) :: r, e, h => by
    obtain ⟨c, e⟩ := ite_true_and e
    refine band c fun c zz=> ?_
    rcases List.mem_cons.mp h with z | h
    · injection z with z1 z2
      subst z1 z2; exact Bool.and_eq_true_iff.mp c
    · exact scope_each e h
set_option tactic.hygienic true in
theorem nameOk_of {x : Str} (h : nameOk x = true) : (x == ("__debug__" : Str)) = false ∧ (x == ("__classdict__" : Str)) = false := by
  unfold nameOk at h
  split at h
  · cases h
  · rename_i h1
    have h1 : seq x n_debug = false := by simpa using h1
    have h2 : seq x n_classdict = false := by simpa using h
    exact ⟨beq_eq_false_iff_ne.mpr fun e => absurd (e.trans (by decide +kernel : ("__debug__" : Str) = n_debug)) (seq_false h1), beq_eq_false_iff_ne.mpr fun e => absurd (e.trans (by decide +kernel : ("__classdict__" : Str) = n_classdict)) (seq_false h2)⟩
set_option tactic.hygienic true in
theorem cellB_is {x : Str} (h : cellB env x = true) : CellName env x := by
  unfold cellB at h
  split at h
  · rename_i q; exact .inl q
  · rename_i q; exact .inr q
  · exact absurd h Bool.false_ne_true
set_option tactic.hygienic true in
theorem datFree_of {x : Str} : ∀ {names : List (Str × NameKind)}, datFree env names = true → (x, NameKind.free) ∈ names → (∃ d, env.get x = some (.dat d)) ∧ CellName env x
  | [], _, h => nomatch h
  | (y, k) :: r, e, h => by
    rcases kind_free k with rfl | hk
    · unfold datFree at e
      split at e
      · rename_i d hd
        rw [Bool.and_eq_true] at e
        rcases List.mem_cons.mp h with z | h
        · injection z with z1 _
          subst z1; exact ⟨⟨d, hd⟩, cellB_is e.1⟩
        · exact datFree_of e.2 h
      · exact absurd e Bool.false_ne_true
    · rw [datFree_ne hk] at e
      exact datFree_of e (cons_free hk h)
set_option tactic.hygienic true in
theorem get_of {x : Str} {sl : Slot} (h : env.get x = some sl) : env.isVar x = true ∧ getv env.vars x = some sl := by
  unfold MEnv.get at h
  split at h
  · rename_i q; exact ⟨q, h⟩
  · cases h
set_option tactic.hygienic true in
theorem relabel_kind (scope : Scope) (x : Str) : ∀ names : List (Str × NameKind), (names.map fun (n, k) => if (k == NameKind.free && pe.scope.kind == .function && pe.kindOf n == some .cell) then (n, NameKind.cell) else (n, k)).lookup x =
    (kindL names x).map fun k => if (k == NameKind.free && pe.scope.kind == .function && pe.kindOf x == some .cell) then NameKind.cell else k
  | [] => rfl
  | (y, k) :: r => by
    have ih := relabel_kind scope x r
    rw [List.map_cons]
    unfold kindL
    by_cases e : y = x
    · subst e
      rw [if_pos (seq_refl _)]
      dsimp only
      split
      · rename_i q
        simp only [List.lookup_cons, beq_self_eq_true, Option.map_some, if_pos q]
      · rename_i q
        simp only [List.lookup_cons, beq_self_eq_true, Option.map_some, if_neg q]
    · have ne : (x == y) = false := beq_eq_false_iff_ne.mpr (Ne.symm e)
      rw [if_neg (by rw [ne_seq e]; decide)]
      dsimp only
      split <;> (rw [List.lookup_cons]; simp only [ne]; exact ih)
end
end Mine

set_option Elab.async false
set_option maxRecDepth 100000
namespace Mine
open PySem PySem.W PyProof.Rows PySem.Calls

section
variable {prog : Program} {w : World} {h₀ : Base} {h h' : Heap} {K : Frag} {g : Gt} {o : Orc} {n : Nat} {Ψ Φ Φ' : Facts} {pe : PySem.Env} {V : Str → Option Value} {env : MEnv} {A : Around} {s : Shared}

noncomputable abbrev cEnv (scope : Scope) (C : Addr) (pe : PySem.Env) : PySem.Env := compEnvC scope (clFrom pe scope.names []) C pe
/-- what the comprehension's block must leave alone -/
noncomputable def others (h : Heap) (Φ : Facts) (C D I : Addr) : Facts := fun a o => h.get? a = some o ∧ (∀ o', ¬ Φ a o') ∧ a ≠ C ∧ a ≠ D ∧ a ≠ I
noncomputable def compV (scope : Scope) (V : Str → Option Value) : Str → Option Value := fun y => match kindL scope.names y with
  | some .local => none
  | _ => V y

theorem fnScope_is {scope : Scope} (hf : fnScope scope = true) : scope.kind = .function := by unfold fnScope at hf; split at hf <;> first | assumption | exact absurd hf Bool.false_ne_true
theorem comp_start {scope : Scope} {I C D : Addr} {ob : Obj} (J : Inv prog w h₀ (also Ψ I ob) Φ h pe V env) (hf : fnScope scope = true) (hk : scopeOk scope.names = true) (hd : datFree env scope.names = true)
    (old : ∀ b o, h.get? b = some o → h'.get? b = some o) (hD : h'.get? D = some (lstObj [] 0)) (hC : h'.Ns C fun zz=> none) (nD : h.get? D = none) (nC : h.get? C = none) (ne : D ≠ C) (hlow : pe.locals < C) :
    Inv prog w h₀ (also (also (others h' Φ C D I) D (lstObj [] 0)) I ob) Φ h' (cEnv scope C pe) (compV scope V) { names := scope.names, vars := freeV scope.names env } := by
  have gI := J.psi I ob (.inr ⟨rfl, rfl⟩)
  have nIC : I ≠ C := fun e => ns (nC.symm.trans (e ▸ gI))
  have nΦC : ∀ o', ¬ Φ C o' := fun o' q => ns (nC.symm.trans (J.phi _ _ q))
  have nΦD : ∀ o', ¬ Φ D o' := fun o' q => ns (nD.symm.trans (J.phi _ _ q))
  have fk := fnScope_is hf
  have noCell : ∀ x, kindL scope.names x ≠ some .cell := fun x e => by
    have := (scope_each hk (scope_in e)).1
    cases this
  have free : ∀ x, CellName (env := ⟨scope.names, freeV scope.names env, .none⟩) x → (x, NameKind.free) ∈ scope.names := fun x e => by
    rcases e with e | e
    · exact absurd e (noCell x)
    · exact scope_in e
  have cell : ∀ x, CellName (env := ⟨scope.names, freeV scope.names env, .none⟩) x → ∃ c, (clFrom pe scope.names []).lookup x = some c ∧ pe.cells.lookup x = some c ∧ h.IsCell c (V x) := fun x e => by
    have hx := free x e
    obtain ⟨_, cn⟩ := datFree_of hd hx
    obtain ⟨c, h1, h2⟩ := J.real.cell x cn
    have ok := clFrom_ok (pe := pe) (names := scope.names) (cs := []) (fun p hp => nomatch hp)
    have := lookup_ok ok.1 (ok.2.2 x hx)
    refine ⟨c, ?_, h1, h2⟩
    rw [this]; unfold cellV; rw [h1]; rfl
  have kindAt : ∀ x, (cEnv scope C pe).kindOf x = (kindL scope.names x).map fun k => if (k == NameKind.free && pe.scope.kind == .function && pe.kindOf x == some .cell) then NameKind.cell else k := fun x => relabel_kind scope x scope.names
  exact {
    kinds := by
      refine ⟨fk, J.kinds.glob, J.kinds.blt, fun x k e => ?_, fun x k e => nameOk_of (scope_each hk (scope_in e)).2⟩
      have e : kindL scope.names x = some k := e
      rw [kindAt, e]
      cases k <;> first | trivial | rfl | skip
      · simp only [Option.map_some]
        split
        · exact .inl rfl
        · exact .inr rfl
    real := by
      refine ⟨⟨_, hC, fun x e => ?_⟩, fun x e => ?_⟩
      · have e : kindL scope.names x = some .local := e
        unfold compV; rw [e]
      · obtain ⟨c, h1, _, o', h2, h3⟩ := cell x e
        refine ⟨c, h1, o', old _ _ h2, ?_⟩
        rw [h3]
        have := scope_kind hk (free x e)
        unfold compV; rw [this]
    psi := by
      rintro a o' ((q | ⟨rfl, rfl⟩) | ⟨rfl, rfl⟩)
      · exact q.1
      · exact hD
      · exact old _ _ gI
    phi := fun a o' q => old _ _ (J.phi _ _ q)
    frame := fun a x => by
      have : a = C := by
        rcases x with x | ⟨x, hx, _⟩
        · exact x
        · exact absurd hx (noCell x)
      subst this
      refine ⟨?_, nΦC⟩
      rintro o' ((q | q) | q)
      · exact q.2.2.1 rfl
      · exact ne q.1.symm
      · exact nIC q.1.symm
    apartCells := fun x y c hx hy lx ly => by
      obtain ⟨c1, a1, b1, _⟩ := cell x hx
      obtain ⟨c2, a2, b2, _⟩ := cell y hy
      have lx : (clFrom pe scope.names []).lookup x = some c := lx
      have ly : (clFrom pe scope.names []).lookup y = some c := ly
      rw [lx] at a1; cases a1
      rw [ly] at a2; cases a2
      exact J.apartCells x y c (datFree_of hd (free x hx)).2 (datFree_of hd (free y hy)).2 b1 b2
    cellLoc := fun x hx e => by
      obtain ⟨c1, a1, _, o', b1, _⟩ := cell x hx
      have e : (clFrom pe scope.names []).lookup x = some C := e
      rw [e] at a1; cases a1
      rw [nC] at b1; cases b1
    dat := fun x d hx he => by
      obtain ⟨m1, m2⟩ := freeV_get he
      obtain ⟨v1, v2⟩ := get_of m2
      obtain ⟨v, hv, r⟩ := J.dat x d v1 v2
      refine ⟨v, ?_, r⟩
      have := scope_kind hk m1
      unfold compV; rw [this]; exact hv
    own := fun x d hx he => by
      obtain ⟨m1, m2⟩ := freeV_get he
      obtain ⟨⟨d', e'⟩, _⟩ := datFree_of hd m1
      exact nomatch s1 (m2.symm.trans e')
    apart := fun x y d e v u b hx hy hxy gx => by
      obtain ⟨m1, m2⟩ := freeV_get gx
      obtain ⟨⟨d', e'⟩, _⟩ := datFree_of hd m1
      exact nomatch s1 (m2.symm.trans e')
    low := ⟨Nat.lt_trans J.low.1 hlow, fun zz e=> nomatch e⟩
    base := J.base
    sep := by
      rintro a o' o'' ((q | ⟨rfl, rfl⟩) | ⟨rfl, rfl⟩) z
      · exact q.2.1 _ z
      · exact nΦD _ z
      · exact J.sep _ _ _ (.inr ⟨rfl, rfl⟩) z }
end
end Mine

set_option Elab.async false
set_option maxRecDepth 100000
namespace Mine
open PySem PySem.W PyProof.Rows PySem.Calls

section
variable {prog : Program} {w : World} {h₀ : Base} {h h' : Heap} {K : Frag} {g : Gt} {o : Orc} {n : Nat} {Ψ Φ Φ' : Facts} {pe : PySem.Env} {V : Str → Option Value} {env : MEnv} {A : Around} {s : Shared}

theorem also_swap {a b : Addr} {x y : Obj} : Le (also (also Ψ a x) b y) (also (also Ψ b y) a x) := fun c o' q => by
  rcases q with (q | q) | q
  · exact .inl (.inl q)
  · exact .inr q
  · exact .inl (.inr q)
theorem compAll_length {x : Str} {elt : Expr} {ifs : List Expr} : ∀ {ds : List D} {env : MEnv} {r : List D}, compAll o x elt ifs env ds = some r → r.length ≤ ds.length
  | [], _, _, e => s1 e ▸ Nat.le_refl _
  | d :: ds, env, r, e => bo1 e fun env0 zz e=> bo2 e fun c env1 zz e=> bie e
    (fun zz e=> bo2 e fun y env2 zz e=> bo1 e fun ys hr e => s1 e ▸ Nat.succ_le_succ (compAll_length hr))
    (fun zz e=> Nat.le_succ_of_le (compAll_length e))
/-- where a comprehension stands -/
inductive CompSt (prog : Program) (w : World) (h₀ : Base) (o : Orc) (Ψc Φ : Facts) (s : Shared) (pc : PySem.Env) (Da I : Addr) (St : Nat → Heap → Prop) (x : Str) (elt : Expr) (ifs : List Expr) (ds r : List D) : Nat → Shared → Prop
  | mk {env1 : MEnv} {V1 : Str → Option Value} {Φ1 : Facts} {h1 : Heap} {tk1 i : Nat} {ob1 : Obj} {ys : List Value} {m : Nat} {done rest : List D} : Le Φ Φ1 → Inv prog w h₀ (also (also Ψc Da (lstObj ys m)) I ob1) Φ1 h1 pc V1 env1 →
      St i h1 → i ≤ ds.length → compAll o x elt ifs env1 (ds.drop i) = some rest → Reps prog w Φ1 ys done → r = done ++ rest → ys.length ≤ i → CompSt prog w h₀ o Ψc Φ s pc Da I St x elt ifs ds r (ds.length - i) { s with heap := h1, toks := tk1 }
set_option tactic.hygienic true in
theorem comp_loop (hE : SndE prog w h₀ o n) (hT : SndT prog w h₀ o n) {elt iter : Expr} {x : Str} {px : Pos} {ifs : List Expr} {scope : Scope} {pos : Pos} {pc : PySem.Env} {Vc : Str → Option Value} {envc : MEnv} {Da I : Addr} {ob : Obj} {ds r : List D} {fp : List Addr} {P : Nat → Value → Prop} {St : Nat → Heap → Prop} {R : Result → Shared → Prop} {Ψc : Facts}
    (e : compAll o x elt ifs envc ds = some r) (hfit : fitN ds.length = true) (J : Inv prog w h₀ (also (also Ψc Da (lstObj [] 0)) I ob) Φ s.heap pc Vc envc) (S : Src prog w Φ I ds s.heap fp P St) (nI : ∀ o', ¬ Ψc I o') (nD : ∀ o', ¬ Ψc Da o') (nDI : Da ≠ I) (Rm : Room n A)
    (k : ∀ V' env' Φ' h' tk ys m, Le Φ Φ' → Inv prog w h₀ (also Ψc Da (lstObj ys m)) Φ' h' pc V' env' → (∀ o', ¬ Φ' I o') → Reps prog w Φ' ys r → R (.ok .next) { s with heap := h', toks := tk }) :
    codeAny (model prog w) A (.compLoop (.ListComp elt [⟨.Name x px, iter, ifs, 0⟩] scope pos) 0 (.ref I) (.ref Da) pc) R s := by
  have W := S.walks A Rm.1
  refine codeAny_compLoop_tests (CompSt prog w h₀ o Ψc Φ s pc Da I St x elt ifs ds r) ?_ (ds.length) (.mk (i := 0) (ys := []) (done := []) (rest := r) (Le.refl _) J S.start (Nat.zero_le _) e .nil rfl (Nat.zero_le _))
  intro kk s' st
  cases st with
  | @mk env1 V1 Φ1 h1 tk1 i ob1 ys m done rest le1 J1 st1 hi e1 rd rr hy =>
  obtain ⟨ob1', g1, it1⟩ := S.there i h1 st1
  obtain rfl : ob1' = ob1 := s1 (g1.symm.trans (J1.psi I ob1 (.inr ⟨rfl, rfl⟩)))
  have nI' : ∀ {ys : List Value} {m : Nat} o', ¬ (also Ψc Da (lstObj ys m)) I o' := fun o' q => q.elim (nI o') fun q => nDI q.1.symm
  rcases Nat.lt_or_ge i ds.length with hlt | hge
  · refine W.item i _ _ _ hlt st1 fun v h2 tk2 hP st2 hk2 => ?_
    obtain ⟨ob2, g2, it2⟩ := S.there (i + 1) h2 st2
    have J2 := J1.fillX nI' (fun b o nb e => hk2 b o (fun z => nb (List.mem_singleton.mp z)) e) g2 it1.noCell
    have r2 : Rep prog w Φ1 v ds[i] := (S.rep i v _ (List.getElem?_eq_getElem hlt) hP).mono le1
    have dec := Nat.sub_lt_sub_left hlt (Nat.lt_succ_self i)
    rw [List.drop_eq_getElem_cons hlt] at e1
    refine bo1 e1 fun env2 hb e1 => bo2 e1 fun c env3 ht e1 => ?_
    refine wpAny_assign_Name (bind_slot hb J2 (Le.refl _) r2 fun V3 h3 tk3 J3 => ?_)
    have stay : ∀ {Φ4 : Facts} {h4 : Heap} {V4 : Str → Option Value} {env4 : MEnv} {Ψ4 : Facts}, Le Φ1 Φ4 → Ψ4 I ob2 → Inv prog w h₀ Ψ4 Φ4 h4 pc V4 env4 → St (i + 1) h4 := fun {Φ4 h4 V4 env4 Ψ4} le4 p4 J4 => by
      refine W.frame _ _ _ st2 fun a ha x ex => ?_
      rcases S.old a ha with z | ⟨y, hy⟩
      · exact s1 (ex.symm.trans (J2.psi a ob2 (.inr ⟨z, rfl⟩))) ▸ J4.psi a _ (z ▸ p4)
      · exact s1 (ex.symm.trans (J2.phi a y (le1 _ _ hy))) ▸ J4.phi a _ (le4 _ _ (le1 _ _ hy))
    refine wpAny_mono (snd_tests hT ht J3 Rm fun Φ4 h4 tk4 le4 J4 => ?_) (fun zz zz x=> x) (fun zz zz x=> x.elim)
    cases c with
    | true =>
      rw [if_pos rfl]
      refine bo2 e1 fun y env4 hy4 e1 => bo1 e1 fun rest' hr' e1 => ?_
      obtain rfl := s1 e1
      refine wpAny_mono (hE _ _ _ _ hy4 _ _ _ _ _ _ _ J4 Rm fun u Φ5 h5 tk5 le5 J5 r5 => ?_) (fun zz zz x=> x) (fun zz zz x=> x.elim)
      have gD := J5.psi Da (lstObj ys m) (.inl (.inr ⟨rfl, rfl⟩))
      refine append_raw gD (Nat.le_trans hy (Nat.le_trans hi (fit_line hfit))) fun h6 m6 hs6 g6 => ?_
      have J6 := (J5.weaken also_swap).fill (a := Da) (ob' := lstObj (ys ++ [u]) m6) (fun o' q => q.elim (nD o') fun q => nDI q.1) hs6 g6
      have le : Le Φ1 Φ5 := le4.trans le5
      exact ⟨ds.length - (i + 1), dec, .mk (le1.trans le) (J6.weaken also_swap) (stay le (.inl (.inr ⟨rfl, rfl⟩)) J6) hlt hr'
        ((rd.mono le).append (.cons r5 .nil)) (by rw [rr, List.append_assoc]; rfl) (by rw [List.length_append]; exact Nat.succ_le_succ hy)⟩
    | false =>
      rw [if_neg (by decide)]
      exact ⟨ds.length - (i + 1), dec, .mk (le1.trans le4) J4 (stay le4 (.inr ⟨rfl, rfl⟩) J4) hlt e1 (rd.mono le4) rr (Nat.le_succ_of_le hy)⟩
  · obtain rfl : i = ds.length := Nat.le_antisymm hi hge
    rw [List.drop_length] at e1
    rw [← s1 e1, List.append_nil] at rr
    subst rr
    refine W.done _ _ _ st1 fun h2 tk2 hk2 => ?_
    exact k V1 env1 Φ1 h2 tk2 ys m le1 (J1.dropX nI' (fun b o nb e => hk2 b o (fun z => nb (List.mem_singleton.mp z)) e) it1.noCell) (fun o' q => J1.sep I ob1' o' (.inr ⟨rfl, rfl⟩) q) rd
end
end Mine

set_option Elab.async false
set_option maxRecDepth 100000
namespace Mine
open PySem PySem.W PyProof.Rows PySem.Calls

section
variable {prog : Program} {w : World} {h₀ : Base} {h h' : Heap} {K : Frag} {g : Gt} {o : Orc} {n : Nat} {Ψ Φ Φ' : Facts} {pe : PySem.Env} {V : Str → Option Value} {env : MEnv} {A : Around} {s : Shared}

set_option tactic.hygienic true in
theorem comp_block (hE : SndE prog w h₀ o n) (hT : SndT prog w h₀ o n) {elt iter : Expr} {x : Str} {px : Pos} {ifs : List Expr} {scope : Scope} {pos : Pos} {I : Addr} {ob : Obj} {ds r : List D} {fp : List Addr} {P : Nat → Value → Prop} {St : Nat → Heap → Prop} {RR : Value → Addr → Result → Shared → Prop}
    (e : compAll o x elt ifs { names := scope.names, vars := freeV scope.names env } ds = some r) (hfit : fitN ds.length = true) (hf : fnScope scope = true) (hk : scopeOk scope.names = true) (hd : datFree env scope.names = true)
    (J : Inv prog w h₀ (also Ψ I ob) Φ s.heap pe V env) (S : Src prog w Φ I ds s.heap fp P St) (nI : ∀ o', ¬ Ψ I o') (Rm : Room n A)
    (k : ∀ Da C obD obC m' Φ' h' tk, Le Φ Φ' → (∀ o', ¬ Ψ Da o') → Da ≠ sysModules → (∀ o', ¬ also Ψ Da obD C o') → Inv prog w h₀ (also (also Ψ Da obD) C obC) Φ' h' pe V env → h'.Ns C m' → ListP prog w r Φ' obD → RR (.ref Da) C (.ok .next) { s with heap := h', toks := tk }) :
    wpAny (model prog w) A (newList []) (fun acc s₃ => wpAny (model prog w) A (newFunctionEnv scope pe.globals (clFrom pe scope.names []) [] pe.qual none .none (some pe)) (fun cenv s₄ =>
      codeAny (model prog w) A (.compStart (.ListComp elt [⟨.Name x px, iter, ifs, 0⟩] scope pos) 0 (.ref I) acc { cenv with scope := relabel scope pe }) (RR acc cenv.locals) s₄) NoE s₃) NoE s := by
  have hkind := fnScope_is hf
  have hcell : ∀ y ∈ scope.names, y.2 ≠ .cell := fun y hy e => by
    have := (scope_each (x := y.1) (k := y.2) hk hy).1
    rw [e] at this; cases this
  refine wpAny_newObj_type (wpAny_newFunctionEnv hcell (by intro y hy; simp at hy) (fun h₁ hns₁ hsb₁ => ?_) hkind)
  dsimp only at hns₁ hsb₁ ⊢
  generalize hH2 : s.heap.push { cls := .type "list", dict := none, data := .seq ([] : List Value).toArray } = H2 at hns₁ hsb₁ ⊢
  have hC : H2.objs.size = s.heap.objs.size + 1 := by rw [← hH2, Heap.size_push]
  have hDC : s.heap.objs.size ≠ H2.objs.size := by rw [hC]; exact Nat.ne_of_lt (Nat.lt_succ_self _)
  have below : ∀ b, b < s.heap.objs.size → b ≠ H2.objs.size ∧ b ≠ s.heap.objs.size := fun b hb => ⟨by rw [hC]; exact Nat.ne_of_lt (Nat.lt_succ_of_lt hb), Nat.ne_of_lt hb⟩
  have old : ∀ b o, s.heap.get? b = some o → h₁.get? b = some o := fun b o e => hsb₁.extBut b o (below b (Heap.lt_size e)).1 (Heap.get?_push_of_some _ (hH2 ▸ Heap.get?_push_of_some _ e))
  have hD : h₁.get? s.heap.objs.size = some (lstObj [] 0) := hsb₁.extBut _ _ hDC (Heap.get?_push_of_some _ (hH2 ▸ Heap.get?_push_size _ rfl))
  have nD : s.heap.get? s.heap.objs.size = none := get_none_size _
  have nC : s.heap.get? H2.objs.size = none := by
    cases e : s.heap.get? H2.objs.size with
    | none => rfl
    | some o' => exact absurd (Heap.lt_size e) (by rw [hC]; exact Nat.not_lt.mpr (Nat.le_succ _))
  have llt : pe.locals < s.heap.objs.size := let ⟨_, hm, _⟩ := J.real.loc; hm.lt
  have J1 := comp_start (scope := scope) (C := H2.objs.size) (D := s.heap.objs.size) J hf hk hd old hD hns₁ nD nC hDC (by rw [hC]; exact Nat.lt_succ_of_lt llt)
  have gI := J.psi I ob (.inr ⟨rfl, rfl⟩)
  have ItI := Heap.lt_size gI
  obtain ⟨obI, gI', it⟩ := S.there 0 s.heap S.start
  have : obI = ob := by rw [gI] at gI'; exact (Option.some.inj gI').symm
  subst this
  have S1 : Src prog w Φ I ds h₁ fp P St := { S with start := (S.walks A Rm.1).frame _ _ _ S.start fun b zz o e=> old b o e }
  have loop : ∀ s₃ : Shared, s₃ = { s with heap := h₁, toks := s.toks + ([] : List (Str × Value)).length } →
      codeAny (model prog w) A (.compLoop (.ListComp elt [⟨.Name x px, iter, ifs, 0⟩] scope pos) 0 (.ref I) (.ref s.heap.objs.size) (cEnv scope H2.objs.size pe))
        (RR (.ref s.heap.objs.size) H2.objs.size) s₃ := by
    rintro s₃ rfl
    refine comp_loop hE hT (s := { s with heap := h₁, toks := s.toks + ([] : List (Str × Value)).length }) e hfit J1 S1 (fun o' q => q.2.2.2.2 rfl) (fun o' q => q.2.2.2.1 rfl) (Ne.symm (below I ItI).2) Rm fun V' env' Φ' h' tk ys m le J' nΦI rs => ?_
    have hs : ∀ b o, ¬ b = I → s.heap.get? b = some o → h'.get? b = some o := fun b o nb e => by
      by_cases q : ∃ o', Φ b o'
      · obtain ⟨o', q⟩ := q
        have := J.phi b o' q
        exact s1 (this.symm.trans e) ▸ J'.phi b _ (le b _ q)
      · exact J'.psi b o (.inl ⟨old b o e, fun o' z => q ⟨o', z⟩, (below b (Heap.lt_size e)).1, (below b (Heap.lt_size e)).2, nb⟩)
    have hnew : ∀ a o, Φ' a o → Φ a o ∨ (s.heap.get? a = none ∧ h'.get? a = some o) := fun a o q => by
      cases e : s.heap.get? a with
      | none => exact .inr ⟨rfl, J'.phi a o q⟩
      | some o1 =>
        by_cases z : ∃ o', Φ a o'
        · obtain ⟨o', z⟩ := z
          have h1 := J'.phi a o' (le a o' z)
          have h2 := J'.phi a o q
          exact .inl (s1 (h1.symm.trans h2) ▸ z)
        · by_cases i : a = I
          · subst i; exact absurd q (nΦI o)
          · exact absurd q (J'.sep a o1 o (.inl ⟨old a o1 e, fun o' y => z ⟨o', y⟩, (below a (Heap.lt_size e)).1, (below a (Heap.lt_size e)).2, i⟩))
    have L := J.leap (Ψ := Ψ) (X := fun a => a = I) (h' := h') (le_also _ _ _) (fun a ha => by subst ha; exact ⟨⟨obI, .inr ⟨rfl, rfl⟩, it.noCell⟩, nI⟩) hs le hnew
    have nF : ∀ a, s.heap.get? a = none → ¬ FrameAt pe env a := fun a ha q => by
      obtain ⟨o₁, e⟩ := J.frame_there q
      rw [ha] at e; cases e
    have nO : ∀ a, s.heap.get? a = none → ∀ x d v, env.isVar x = true → getv env.vars x = some (.own d) → V x = some v → ¬ OwnAt h' v a := fun a ha x d v hx hg hv q => by
      obtain ⟨v', hv', ro, z⟩ := J.own x d hx hg
      rw [hv] at hv'; cases hv'
      have q' := OwnAt.back ro (fun o' ⟨c, e, g⟩ => ⟨c, e, hs c o' (fun i => (z c (.inl e)).1 obI (.inr ⟨i, rfl⟩)) g⟩) q
      obtain ⟨o₁, e⟩ := ro.there q'
      rw [ha] at e; cases e
    have gD := J'.psi _ (lstObj ys m) (.inr ⟨rfl, rfl⟩)
    have LD := L.adopt gD (fun o' q => J'.sep _ (lstObj ys m) o' (.inr ⟨rfl, rfl⟩) q) (nF _ nD) (nO _ nD)
    obtain ⟨m', hn', _⟩ := J'.real.loc
    obtain ⟨oC, _, _, gC, _⟩ := id hn'
    have LC := LD.adopt gC (fun o' q => (J'.frame _ (.inl rfl)).2 o' q) (nF _ nC) (nO _ nC)
    refine k _ _ _ _ m' Φ' h' tk le (fun o' q => ?_) J.new_low (fun o' q => ?_) LC hn' ⟨ys, m, rfl, rs⟩
    · have := J.psi _ o' (.inl q)
      rw [nD] at this; cases this
    · rcases q with q | q
      · have := J.psi _ o' (.inl q)
        rw [nC] at this; cases this
      · exact hDC q.1.symm
  exact codeAny_compStart_list (loop _ rfl) ((S.walks A Rm.1).self 0 _ _ _ S1.start (loop _ rfl))
end
end Mine

set_option Elab.async false
set_option maxRecDepth 100000
namespace Mine
open PySem PySem.W PyProof.Rows PySem.Calls

section
variable {prog : Program} {w : World} {h₀ : Base} {h h' : Heap} {K : Frag} {g : Gt} {o : Orc} {n : Nat} {Ψ Φ Φ' : Facts} {pe : PySem.Env} {V : Str → Option Value} {env : MEnv} {A : Around} {s : Shared}

set_option tactic.hygienic true in
theorem freeze_all : ∀ {names : List (Str × NameKind)} {env : MEnv} {Φ : Facts}, Inv prog w h₀ Ψ Φ h pe V env → ∃ Φ', Le Φ Φ' ∧ Inv prog w h₀ Ψ Φ' h pe V (freezeF names env)
  | [], env, Φ, I => ⟨Φ, Le.refl _, I⟩
  | (x, k) :: r, env, Φ, I => by
    rcases kind_free k with rfl | hk
    · unfold freezeF
      split
      · rename_i d hd
        obtain ⟨hx, hg⟩ := own?_of hd
        obtain ⟨v, hv, _⟩ := I.own x d hx hg
        obtain ⟨Φ1, le1, I1, _⟩ := I.freeze hx hg hv
        obtain ⟨Φ2, le2, I2⟩ := freeze_all (names := r) I1
        exact ⟨Φ2, le1.trans le2, I2⟩
      · exact freeze_all (names := r) I
    · rw [show freezeF ((x, k) :: r) env = freezeF r env by cases k <;> first | rfl | exact absurd rfl hk]
      exact freeze_all (names := r) I
set_option tactic.hygienic true in
theorem comp_any (hE : SndE prog w h₀ o n) (hT : SndT prog w h₀ o n) (hI : SndI prog w h₀ g o n) {elt : Expr} {gens : List Comprehension} {scope : Scope} {pos : Pos} {d : D} {env' : MEnv} (e : compE g o env elt gens scope = some (d, env')) {use : Option (Value → Sem Unit)} {Q : Value → Shared → Prop}
    (I : Inv prog w h₀ Ψ Φ s.heap pe V env) (R : Room n A)
    (k : ∀ l Da C obD obC m' Φ' h' tk, d = .list l → Le Φ Φ' → (∀ o', ¬ Ψ Da o') → Da ≠ sysModules → (∀ o', ¬ also Ψ Da obD C o') → Inv prog w h₀ (also (also Ψ Da obD) C obC) Φ' h' pe V env' → h'.Ns C m' → ListP prog w l Φ' obD → compPost (model prog w) A NoE use Q (.ref Da) C (.ok .next) { s with heap := h', toks := tk }) :
    wpAny (model prog w) A (comprehension (.ListComp elt gens scope pos) scope pe (firstIterPos gens pos) (newList []) (firstAsync gens) (firstIter gens pe) use) Q NoE s := by
  unfold compE at e
  split at e
  · rename_i t iter ifs
    refine bo1 e fun x hx e => bi e fun hsd e => bo2 e fun ds env1 hit e => bi e fun hc e => bo1 e fun r hr e => ?_
    obtain ⟨rfl, rfl⟩ := sp e
    obtain ⟨px, rfl⟩ := nameT_some hx
    obtain ⟨hset, hdf⟩ := Bool.and_eq_true_iff.mp hsd
    have hset : isSetE iter = false := by simpa using hset
    simp only [Bool.and_eq_true] at hc
    obtain ⟨⟨⟨c1, c2⟩, c3⟩, c4⟩ := hc
    obtain ⟨Φ0, le0, I0⟩ := freeze_all (names := scope.names) I
    have hclos : closureFor scope pe = pure (clFrom pe scope.names []) := closure_of fun y hy => by
      obtain ⟨c, h1, _⟩ := I0.real.cell y (datFree_of hdf hy).2
      exact ⟨c, h1⟩
    have hnames : ∀ y ∈ scope.names, y.2 = .local → scope.names.lookup y.1 = some .local := fun y hy e => by
      rw [← kindL_lookup]
      exact scope_kind c3 (by rw [← e]; exact hy)
    refine wpAny_comprehension_free (cl := clFrom pe scope.names []) (use := use) rfl (folded_of hset) hclos (fnScope_is c2) hnames ?_
    refine hI _ _ _ _ hit _ _ _ _ _ _ _ I0 R fun I1 ob Φ1 h1 t1 fp P St le1 nI J1 g1 S => ?_
    exact comp_block hE hT hr c1 c2 c3 c4 J1 S nI R fun Da C obD obC m' Φ' h' tk le nD nS nC J' hn hl => k r Da C obD obC m' Φ' h' tk rfl ((le0.trans le1).trans le) nD nS nC J' hn hl
  · exact (ns e).elim
theorem drop_frame {Da C : Addr} {obD obC : Obj} {m' : Str → Option Value} (J : Inv prog w h₀ (also (also Ψ Da obD) C obC) Φ h pe V env) (nC : ∀ o', ¬ also Ψ Da obD C o') (hn : h.Ns C m') (hs : Heap.SameBut C h h') : Inv prog w h₀ (also Ψ Da obD) Φ h' pe V env := by
  refine J.dropX nC (fun b o nb e => (hs.2 b nb).trans e) fun v e => ?_
  obtain ⟨o', es, ep, g', dd, _⟩ := hn
  have := J.psi C obC (.inr ⟨rfl, rfl⟩)
  rw [g'] at this; cases this
  rw [dd] at e; cases e
theorem snd_ListComp (hE : SndE prog w h₀ o n) (hT : SndT prog w h₀ o n) (hI : SndI prog w h₀ g o n) {elt : Expr} {gens : List Comprehension} {scope : Scope} {pos : Pos} {d : D} {env' : MEnv} (e : compE g o env elt gens scope = some (d, env')) {Q : Value → Shared → Prop}
    (I : Inv prog w h₀ Ψ Φ s.heap pe V env) (R : Room n A) (k : OkE prog w h₀ Ψ Φ s pe V env' d Q) : wpAny (model prog w) A (eval (.ListComp elt gens scope pos) pe) Q NoE s := by
  rw [eval_ListComp]
  refine comp_any hE hT hI e I R fun l Da C obD obC m' Φ' h' tk hd le nD nS nC J' hn hl => ?_
  subst hd
  refine ⟨m', hn, fun h'' hs => ?_⟩
  obtain ⟨vs, m, rfl, r⟩ := hl
  exact k _ _ h'' tk (le.trans (le_also _ _ _)) ((drop_frame J' nC hn hs).give nD) (.list (also_at _ _ _) (r.mono (le_also _ _ _)))
end
end Mine

set_option Elab.async false
set_option maxRecDepth 100000
namespace Mine
open PySem PySem.W PyProof.Rows PySem.Calls

section
variable {prog : Program} {w : World} {h₀ : Base} {h h' : Heap} {K : Frag} {g : Gt} {o : Orc} {n : Nat} {Ψ Φ Φ' : Facts} {pe : PySem.Env} {V : Str → Option Value} {env : MEnv} {A : Around} {s : Shared}

set_option tactic.hygienic true in
/-- x = [.. for ..] -/
theorem snd_CompAssign (hE : SndE prog w h₀ o n) (hT : SndT prog w h₀ o n) (hI : SndI prog w h₀ g o n) {x : Str} {px pos pos2 : Pos} {elt : Expr} {gens : List Comprehension} {scope : Scope} {d : D} {env1 env' : MEnv} (e : compE g o env elt gens scope = some (d, env1)) (hb : bindName env1 x (.dat d) = some env') {Q : Flow → Shared → Prop}
    (I : Inv prog w h₀ Ψ Φ s.heap pe V env) (R : Room n A) (k : OkU prog w h₀ Ψ Φ s pe env' fun zz=> Q .next) : wpAny (model prog w) A (exec (.Assign [.Name x px] (.ListComp elt gens scope pos) pos2) pe) Q NoE s := by
  have hs : swapsWith (.ListComp elt gens scope pos) (some (.Name x px)) pos2.line pe = pure (pe.blockKind == .function && pe.kindOf x == some .local && px.line == pos.line && !(scope.names.any fun (n, k) => n == x && (k == .local || k == .cell))) := rfl
  generalize hbv : (pe.blockKind == .function && pe.kindOf x == some .local && px.line == pos.line && !(scope.names.any fun (n, k) => n == x && (k == .local || k == .cell))) = bv at hs
  cases bv with
  | false =>
    refine wpAny_Assign_Name (snd_ListComp hE hT hI e I R fun v Φ1 h1 t1 le1 I1 r => ?_) hs
    exact bind_slot hb I1 (Le.refl _) r fun V' h' tk I' => k V' Φ1 h' tk le1 I'
  | true =>
    rw [exec_Assign_Name_used x px _ pos2 hs]
    refine wpAny_bind (wpAny_standAt (wpAny_bind ?_))
    rw [arm_evalThenUse_ListComp]
    refine wpAny_bind (comp_any hE hT hI e (use := some (assign (.Name x px) pe)) (Q := fun zz s'=> wpAny (model prog w) A (pure ()) (fun zz s'=> wpAny (model prog w) A (pure Flow.next) Q NoE s') NoE s') I R fun l Da C obD obC m' Φ' h' tk hd le nD nS nC J' hn hl => ?_)
    subst hd
    obtain ⟨vs, m, rfl, r⟩ := hl
    have gC := J'.psi C obC (.inr ⟨rfl, rfl⟩)
    have J2 : Inv prog w h₀ (also (also Ψ C obC) Da (lstObj vs m)) Φ' h' pe V env1 := J'.weaken also_swap
    have nDC : Da ≠ C := fun e => nC (lstObj vs m) (.inr ⟨e.symm, rfl⟩)
    have J3 := J2.give (fun o' q => q.elim (nD o') fun q => nDC q.1)
    refine wpAny_assign_Name (bind_slot hb J3 (Le.refl _) (.list (also_at _ _ _) (r.mono (le_also _ _ _))) fun V' h'' tk' J4 => ?_)
    have nCC : ∀ o', ¬ Ψ C o' := fun o' q => nC o' (.inl q)
    obtain ⟨oC, es, ep, gC', dC, rest⟩ := id hn
    rw [gC] at gC'; cases gC'
    have hn'' : h''.Ns C m' := ⟨_, es, ep, J4.psi C obC (.inr ⟨rfl, rfl⟩), dC, rest⟩
    refine ⟨m', hn'', fun h3 hs3 => wpAny_pure (wpAny_pure (k V' _ h3 tk' (le.trans (le_also _ _ _)) (J4.dropX nCC (fun b o nb e => (hs3.2 b nb).trans e) fun v e => ?_)))⟩
    rw [dC] at e; cases e
end
end Mine

set_option Elab.async false
set_option maxRecDepth 100000
namespace Mine
open PySem PySem.W PyProof.Rows PySem.Calls

section
variable {prog : Program} {w : World} {h₀ : Base} {h h' : Heap} {K : Frag} {g : Gt} {o : Orc} {n : Nat} {Ψ Φ Φ' : Facts} {pe : PySem.Env} {V : Str → Option Value} {env : MEnv} {A : Around} {s : Shared}

theorem snd_iterRest (hE : SndE prog w h₀ o n) {x : Expr} {ds : List D} {env' : MEnv}
    (e : iterRest o env x = some (ds, env')) {Q : Value → Shared → Prop} (I : Inv prog w h₀ Ψ Φ s.heap pe V env) (R : Room n A)
    (k : OkIt prog w h₀ Ψ Φ s pe V env' ds Q) : wpAny (model prog w) A (eval x pe) (fun v s₁ => wpAny (model prog w) A (pyIter v) Q NoE s₁) NoE s := by
  refine bo2 e fun d env1 hd e => bo1 e fun l hl e => ?_
  obtain ⟨rfl, rfl⟩ := sp e
  exact hE _ _ _ _ hd _ _ _ _ _ _ _ I R fun v Φ1 h1 t1 le1 I1 r => iter_any hl r I1 fun I ob Φ' h' tk fp P St le hn J g S => k I ob Φ' h' tk fp P St (le1.trans le) hn J g S
end
end Mine

set_option Elab.async false
set_option maxRecDepth 100000
namespace Mine
open PySem PySem.W PyProof.Rows PySem.Calls

theorem bb_len : bootBuiltins n_len = some (.builtin "len") := by kernel_rfl
theorem bb_isinstance : bootBuiltins n_isinstance = some (.builtin "isinstance") := by kernel_rfl
theorem bb_sorted : bootBuiltins n_sorted = some (.builtin "sorted") := by kernel_rfl
theorem bb_ord : bootBuiltins n_ord = some (.builtin "ord") := by kernel_rfl
theorem bb_chr : bootBuiltins n_chr = some (.builtin "chr") := by kernel_rfl
theorem bb_tuple : bootBuiltins n_tuple = some (.type "tuple") := by kernel_rfl
theorem bb_list : bootBuiltins n_list = some (.type "list") := by kernel_rfl
theorem bb_dict : bootBuiltins n_dict = some (.type "dict") := by kernel_rfl
theorem bb_bytes : bootBuiltins n_bytes = some (.type "bytes") := by kernel_rfl
theorem bb_str : bootBuiltins n_str = some (.type "str") := by kernel_rfl
theorem bb_range : bootBuiltins n_range = some (.type "range") := by kernel_rfl
theorem bb_reversed : bootBuiltins n_reversed = some (.type "reversed") := by kernel_rfl
theorem bb_bool : bootBuiltins n_bool = some (.type "bool") := by kernel_rfl
theorem bb_int : bootBuiltins n_int = some (.type "int") := by kernel_rfl
theorem ne_name {x : Str} (h : seq x ⟨#[95, 95, 110, 97, 109, 101, 95, 95]⟩ = false) : x ≠ "__name__" := by
  intro e
  subst e
  revert h
  decide +kernel

/-- what is evaluated in a list is plain syntax -/
noncomputable def SndQ (o : Orc) : Prop := ∀ env es r, o.L env es = some r → es.all plainExpr = true
theorem starEach_all {pe : PySem.Env} : ∀ {es : List Expr}, es.all plainExpr = true → starEach es pe = es.map fun e => (false, eval e pe)
  | [], _ => rfl
  | e :: r, h => by
    rw [List.all_cons, Bool.and_eq_true] at h
    rw [starEach_plain h.1, starEach_all h.2, List.map_cons]
theorem backTo_all {pe : PySem.Env} {pos : Pos} {es : List Expr} (h : es.all plainExpr = true) : backTo pos (starEach es pe) = es.map fun e => (false, eval e pe) := by
  rw [starEach_all h]
  unfold backTo
  rw [List.map_map]
  rfl
theorem any_star {pe : PySem.Env} {pos : Pos} {es : List Expr} (h : es.all plainExpr = true) : (backTo pos (starEach es pe)).any (·.1) = false := by
  rw [backTo_all h, List.any_map]
  apply List.any_eq_false.mpr
  intro x _
  simp

section
variable {prog : Program} {w : World} {h₀ : Base} {h h' : Heap} {K : Frag} {g : Gt} {o : Orc} {n : Nat} {Ψ Φ Φ' : Facts} {pe : PySem.Env} {V : Str → Option Value} {env : MEnv} {A : Around} {s : Shared}

theorem evalArgs_all {M : Model} {E : Value → Shared → Prop} {f : Value} {args : List (Bool × Sem Value)} {Q : Args → Shared → Prop} (hp : args.any (·.1) = false)
    (h : wpAny M A (spliced args) (fun vs s' => Q ⟨vs, []⟩ s') E s) : wpAny M A (evalArgs f true args []) Q E s := by
  cases args with
  | nil =>
    unfold evalArgs
    show wpAny M A (spliced [] >>= _) Q E s
    refine wpAny_bind (wpAny_mono h (fun vs s' h' => ?_) fun zz zz x=> x)
    refine wpAny_holding ?_
    exact wpAny_bind (wpAny_pure (wpAny_bind (wpAny_pure (wpAny_pure h'))))
  | cons p r =>
    obtain ⟨b, x⟩ := p
    cases b with
    | true => cases hp
    | false => exact evalArgs_plain h
theorem blt_at (C : Cx prog w h₀ K g) {x : Str} (hx : x ∈ bltNames) (hg : (lookS g.globals x).isNone = true) : nsIn K mainGlobals x = some none := C.blt x hx hg
theorem blt_fn {x : Str} {p pos : Pos} {args : List Expr} {id : String} {Q : Value → Shared → Prop} (C : Cx prog w h₀ K g) (I : Inv prog w h₀ Ψ Φ s.heap pe V env) (hx : env.isGlob x = true) (e : nsIn K mainGlobals x = some none) (hv : bootBuiltins x = some (.builtin id)) (hn : x ≠ "__name__")
    (hp : args.all plainExpr = true) (h : wpAny (model prog w) A (spliced (backTo pos (starEach args pe))) (fun vs s₁ => wpAny (model prog w) A (call (.builtin id) vs) Q NoE s₁) NoE s) :
    wpAny (model prog w) A (eval (.Call (.Name x p) args [] pos) pe) Q NoE s :=
  Call_Name rfl (name_blt C I hx e hv hn (Calls.callWith_builtin (any_star hp) (evalArgs_all (any_star hp) h)))
theorem blt_ty {x : Str} {p pos : Pos} {args : List Expr} {T : String} {Q : Value → Shared → Prop} (C : Cx prog w h₀ K g) (I : Inv prog w h₀ Ψ Φ s.heap pe V env) (hx : env.isGlob x = true) (e : nsIn K mainGlobals x = some none) (hv : bootBuiltins x = some (.type T)) (hn : x ≠ "__name__")
    (hp : args.all plainExpr = true) (h : wpAny (model prog w) A (spliced (backTo pos (starEach args pe))) (fun vs s₁ => wpAny (model prog w) A (call (.type T) vs) Q NoE s₁) NoE s) :
    wpAny (model prog w) A (eval (.Call (.Name x p) args [] pos) pe) Q NoE s :=
  Call_Name rfl (name_blt C I hx e hv hn (PyProof.Rows.callWith_type (any_star hp) (evalArgs_all (any_star hp) h)))
theorem spliced_one {M : Model} {E : Value → Shared → Prop} {x : Expr} {pos : Pos} {Q : List Value → Shared → Prop} (hp : plainExpr x = true) (h : wpAny M A (eval x pe) (fun v s₁ => Q [v] s₁) E s) : wpAny M A (spliced (backTo pos (starEach [x] pe))) Q E s := by
  rw [backTo_all (by simp [hp])]
  exact Calls.spliced_cons (wpAny_mono h (fun v s₁ h₁ => Calls.spliced_nil h₁) fun zz zz e=> e)

/-! range -/
theorem rangeL_length : ∀ (n : Nat) (a : Int), (rangeL a n).length = n
  | 0, _ => rfl
  | n + 1, a => by simp [rangeL, rangeL_length n]
theorem rangeL_get : ∀ (n : Nat) (a : Int) (i : Nat) (d : D), (rangeL a n)[i]? = some d → d = .int (a + (i : Int) * 1)
  | 0, _, _, _, e => by cases e
  | n + 1, a, 0, d, e => by cases e; simp
  | n + 1, a, i + 1, d, e => by
    have := rangeL_get n (a + 1) i d (by simpa [rangeL] using e)
    rw [this]; congr 1; push_cast; omega
theorem range2_length : ∀ (n : Nat) (a : Int), (range2 a n).length = n
  | 0, _ => rfl
  | n + 1, a => by simp [range2, range2_length n]
theorem range2_get : ∀ (n : Nat) (a : Int) (i : Nat) (d : D), (range2 a n)[i]? = some d → d = .int (a + (i : Int) * 2)
  | 0, _, _, _, e => by cases e
  | n + 1, a, 0, d, e => by cases e; simp
  | n + 1, a, i + 1, d, e => by
    have := range2_get n (a + 2) i d (by simpa [range2] using e)
    rw [this]; congr 1; push_cast; omega
theorem src_range (a c : Int) {n : Nat} {ds : List D} (hl : ds.length = n) (hd : ∀ (i : Nat) (d : D), ds[i]? = some d → d = .int (a + (i : Int) * c)) :
    Src prog w Φ h.objs.size ds (h.push { cls := .type "range_iterator", data := .fields #[rawInt a, rawInt (n : Int), rawInt c] }) [h.objs.size] (fun i v => ∃ t, v = .int (a + (i : Int) * c) t) (fun i h' => IsRangeIter h' h.objs.size (a + (i : Nat) * c) ((n : Int) - (i : Nat)) c) where
  walks := fun A hA => by rw [hl]; exact Walks.range hA _ a c n
  start := by show IsRangeIter _ _ _ _ _; simpa using Heap.get?_push_size _ rfl
  rep := fun i v d e q => by
    obtain ⟨t, rfl⟩ := q
    rw [hd i d e]
    exact .int _ _
  there := fun i h st => ⟨_, st, _, _, rfl, rfl, by decide⟩
  old := fun b hb => .inl (List.mem_singleton.mp hb)
theorem small_2 {n : Int} (h0 : 0 ≤ n) (h1 : n ≤ 1000000) : Builtin.Range.small 0 n 2 = true ∧ Builtin.Range.rangeSize 0 n 2 = (n + 1) / 2 := by
  have e : Builtin.Range.rangeSize 0 n 2 = (n + 1) / 2 := by
    unfold Builtin.Range.rangeSize
    rw [if_pos (by decide)]
    split <;> omega
  refine ⟨?_, e⟩
  unfold Builtin.Range.small
  rw [e]
  simp only [Builtin.Range.rangeFitsLong, Bool.and_eq_true, Bool.or_eq_true, decide_eq_true_eq, beq_iff_eq, show (2 : Int) > 0 by decide, if_true]
  omega

theorem range_iter {a b c : Int} {t u v : Tok} {n : Nat} {ds : List D} {Q : Value → Shared → Prop} {E : Value → Shared → Prop} (I : Inv prog w h₀ Ψ Φ s.heap pe V env) (hr : IsRange s.heap r a b c t u v) (hs : Builtin.Range.small a b c = true) (hn : Builtin.Range.rangeSize a b c = (n : Int))
    (hl : ds.length = n) (hd : ∀ (i : Nat) (d : D), ds[i]? = some d → d = .int (a + (i : Int) * c)) (k : OkIt prog w h₀ Ψ Φ s pe V env ds Q) : wpAny (model prog w) A (pyIter (.ref r)) Q E s := by
  refine wpAny_pyIter_range hr hs ?_
  rw [hn]
  exact k _ _ Φ _ s.toks _ _ _ (Le.refl _) I.psi_new (I.pushPsi _) (Heap.get?_push_size _ rfl) (src_range a c hl hd)
set_option tactic.hygienic true in
theorem call_range {ds l : List D} {vs : List Value} (e : rangeB ds = some l) (r : Reps prog w Φ vs ds) {Q : Value → Shared → Prop} (I : Inv prog w h₀ Ψ Φ s.heap pe V env) (k : OkIt prog w h₀ Ψ Φ s pe V env l Q) :
    wpAny (model prog w) A (call (.type "range") vs) (fun v s₁ => wpAny (model prog w) A (pyIter v) Q NoE s₁) NoE s := by
  unfold rangeB at e
  split at e
  · rename_i d hd
    refine bo1 e fun n hn e => bi e fun hf e => ?_
    obtain rfl := s1 e
    rw [oneOf_some hd, asNat_some hn] at r
    obtain ⟨v, rfl, r1⟩ := r.one_inv
    obtain ⟨t, rfl⟩ := r1.int_inv
    have hn := fitN_le hf
    refine call_range_1 ?_
    refine range_iter (a := 0) (b := (n : Int)) (c := 1) (I.push' _) (IsRange.new _ _ _ _ _ _ _) (small_one (by decide) (by decide) (by omega) (by omega)) ?_ (rangeL_length n 0) (fun i d e => rangeL_get n 0 i d e) ?_
    · rw [rangeSize_one]; split <;> omega
    · exact k
  · unfold rangeB3 at e
    split at e
    · refine bo1 e fun x hx e => bo1 e fun n hn e => bo1 e fun y hy e => bi e fun hf e => ?_
      obtain rfl := s1 e
      refine band hf fun hf hfit => band hf fun h1 h2 => ?_
      obtain rfl := Nat.eq_of_beq_eq_true h1
      obtain rfl := Nat.eq_of_beq_eq_true h2
      rw [asNat_some hx, asNat_some hn, asNat_some hy] at r
      obtain ⟨v1, us, rfl, r1, r⟩ := r.cons_inv
      obtain ⟨v2, v3, rfl, r2, r3⟩ := r.two_inv
      obtain ⟨t1, rfl⟩ := r1.int_inv
      obtain ⟨t2, rfl⟩ := r2.int_inv
      obtain ⟨t3, rfl⟩ := r3.int_inv
      have hn := fitN_le hfit
      have sm := small_2 (n := (n : Int)) (by omega) (by omega)
      refine call_range_3 (by decide) ?_ (.inl (PyProof.noPylong_small (by decide)))
      refine range_iter (a := 0) (b := (n : Int)) (c := 2) (I.push' _) (IsRange.new _ _ _ _ _ _ _) sm.1 (n := (n + 1) / 2) (sm.2.trans (by omega)) (range2_length _ 0) (fun i d e => range2_get _ 0 i d e) ?_
      exact k
    · exact (ns e).elim
/-! reversed -/
theorem src_rev {a : Addr} {vs : List Value} {m : Nat} {ds : List D} (I : Inv prog w h₀ Ψ Φ h pe V env) (p : Φ a (lstObj vs m)) (r : Reps prog w Φ vs ds) :
    Src prog w Φ h.objs.size ds.reverse (h.push (revObj a ((vs.toArray.size : Int) - 1))) [h.objs.size, a] (fun i v => vs.toArray[vs.toArray.size - 1 - i]? = some v) (fun i h' => i ≤ vs.toArray.size ∧ h'.IsRevIter h.objs.size a ((vs.toArray.size : Int) - 1 - (i : Int)) ∧ h'.IsList a vs.toArray) where
  walks := fun A hA => by
    have := Walks.listRev (prog := prog) (w := w) hA h.objs.size a (new_ne I p) vs.toArray
    rw [show ds.reverse.length = vs.toArray.size by rw [List.length_reverse, ← r.length]; exact (List.size_toArray ..).symm]
    exact this
  start := ⟨Nat.zero_le _, ⟨_, Heap.get?_push_size _ rfl, rfl, by simp [revObj]⟩, (isList_of (I.phi _ _ p)).push _⟩
  rep := fun i v d e q => by
    have hi : i < ds.length := by
      have := (List.getElem?_eq_some_iff.mp e).1
      rwa [List.length_reverse] at this
    rw [List.getElem?_reverse hi] at e
    have e2 : vs.toArray.size - 1 - i = ds.length - 1 - i := by rw [List.size_toArray, r.length]
    rw [e2] at q
    exact reps_at r e q
  there := fun i h st => by
    obtain ⟨_, ⟨o, h1, h2, h3⟩, _⟩ := st
    exact ⟨o, h1, _, _, h2, h3, by decide⟩
  old := old_two p
theorem call_rev {l : List D} {v : Value} (r : Rep prog w Φ v (.list l)) {Q : Value → Shared → Prop} (I : Inv prog w h₀ Ψ Φ s.heap pe V env) (k : OkIt prog w h₀ Ψ Φ s pe V env l.reverse Q) :
    wpAny (model prog w) A (call (.type "reversed") [v]) (fun v s₁ => wpAny (model prog w) A (pyIter v) Q NoE s₁) NoE s := by
  obtain ⟨a, vs, m, rfl, p, r⟩ := r.list_inv
  refine call_reversed_list (isList_of (I.phi _ _ p)) ?_
  refine wpAny_pyIter_revIter ⟨_, Heap.get?_push_size _ rfl, rfl, rfl⟩ ?_
  exact k _ _ Φ _ s.toks _ _ _ (Le.refl _) I.psi_new (I.pushPsi _) (Heap.get?_push_size _ rfl) (src_rev I p r)
theorem bltCallT_some {x : Expr} {f : Str} {args : List Expr} (e : bltCallT x = some (f, args)) : ∃ p pos, x = .Call (.Name f p) args [] pos := by
  unfold bltCallT at e
  split at e
  · obtain ⟨rfl, rfl⟩ := sp e
    exact ⟨_, _, rfl⟩
  · exact (ns e).elim
set_option tactic.hygienic true in
theorem snd_I (C : Cx prog w h₀ K g) (hE : SndE prog w h₀ o n) (hL : SndL prog w h₀ o n) (hP : SndP o) (hQ : SndQ o) : SndI prog w h₀ g o n := by
  intro env x ds env' e Ψ Φ s pe V A Q I R k
  unfold iterE at e
  split at e
  · exact snd_iterRest hE e I R k
  · rename_i f args hb
    refine bie e (fun hg e => bie e (fun hf e => bo2 e fun es env1 hl e => bo1 e fun l hr e => ?_) (fun zz e=> bie e (fun hf e => bo1 e fun a ha e => bo2 e fun d env1 he e => bo1 e fun l hl e => ?_) (fun zz e=> snd_iterRest hE e I R k))) (fun zz e=> snd_iterRest hE e I R k)
    · obtain ⟨rfl, rfl⟩ := sp e
      rw [Bool.and_eq_true] at hg
      obtain ⟨p, pos, rfl⟩ := bltCallT_some hb
      obtain rfl := seq_iff.mp hf
      refine blt_ty C I hg.1 (blt_at C (by simp [bltNames]) hg.2) bb_range (ne_name (by decide +kernel)) (hQ _ _ _ hl) (hL _ _ _ _ hl _ _ _ _ _ _ _ _ I R fun vs Φ1 h1 t1 le1 I1 r1 => ?_)
      exact call_range hr r1 I1 fun I ob Φ' h' tk fp P St le hn J g S => k I ob Φ' h' tk fp P St (le1.trans le) hn J g S
    · obtain ⟨rfl, rfl⟩ := sp e
      rw [Bool.and_eq_true] at hg
      obtain ⟨p, pos, rfl⟩ := bltCallT_some hb
      obtain rfl := seq_iff.mp hf
      have hp := hP _ _ _ he
      rw [oneE_some ha]
      refine blt_ty C I hg.1 (blt_at C (by simp [bltNames]) hg.2) bb_reversed (ne_name (by decide +kernel)) (by simp [hp]) (spliced_one hp (hE _ _ _ _ he _ _ _ _ _ _ _ I R fun v Φ1 h1 t1 le1 I1 r1 => ?_))
      rw [asList_some hl] at r1
      exact call_rev r1 I1 fun I ob Φ' h' tk fp P St le hn J g S => k I ob Φ' h' tk fp P St (le1.trans le) hn J g S
end
end Mine

set_option Elab.async false
set_option maxRecDepth 100000
namespace Mine
open PySem PySem.W PyProof.Rows PySem.Calls

noncomputable abbrev SK := PyProof.Rows.KeyKind

/-! insertion sort by a key's order -/
section
variable (κ : SK)
noncomputable def insK (x : κ.α) : List κ.α → List κ.α
  | [] => [x]
  | y :: r => if κ.blt x y then x :: y :: r else y :: insK x r
noncomputable def isoK : List κ.α → List κ.α
  | [] => []
  | x :: r => insK κ x (isoK r)
theorem insK_perm (x : κ.α) : ∀ l, (insK κ x l).Perm (x :: l)
  | [] => .refl _
  | y :: r => by
    unfold insK
    split
    · exact .refl _
    · exact (List.Perm.cons y (insK_perm x r)).trans (.swap x y r)
theorem isoK_perm : ∀ l, (isoK κ l).Perm l
  | [] => .refl _
  | x :: r => (insK_perm κ x _).trans ((isoK_perm r).cons x)
set_option tactic.hygienic true in
theorem insK_sorted (x : κ.α) : ∀ {l}, l.Pairwise κ.kle → (insK κ x l).Pairwise κ.kle
  | [], _ => List.pairwise_singleton ..
  | y :: r, h => by
    obtain ⟨h1, h2⟩ := List.pairwise_cons.mp h
    unfold insK
    split
    · rename_i q
      refine List.pairwise_cons.mpr ⟨fun z hz => ?_, h⟩
      rcases List.mem_cons.mp hz with rfl | hz
      · exact KeyOrd.kle_of_klt q
      · exact KeyOrd.kle_trans (KeyOrd.kle_of_klt q) (h1 z hz)
    · rename_i q
      refine List.pairwise_cons.mpr ⟨fun z hz => ?_, insK_sorted x h2⟩
      rcases List.mem_cons.mp ((insK_perm κ x r).mem_iff.mp hz) with rfl | hz
      · exact KeyOrd.kle_of_not_klt q
      · exact h1 z hz
theorem isoK_sorted : ∀ l, (isoK κ l).Pairwise κ.kle
  | [] => .nil
  | x :: r => insK_sorted κ x (isoK_sorted r)
theorem perm_sorted : ∀ {l k : List κ.α}, l.Perm k → l.Pairwise κ.kle → k.Pairwise κ.kle → l = k
  | [], k, p, _, _ => (List.nil_perm.mp p).symm
  | x :: l, [], p, _, _ => absurd p.length_eq (by simp)
  | x :: l, y :: k, p, h, q => by
    obtain ⟨h1, h2⟩ := List.pairwise_cons.mp h
    obtain ⟨q1, q2⟩ := List.pairwise_cons.mp q
    have e : x = y := by
      have a : x ∈ y :: k := p.mem_iff.mp (.head _)
      have b : y ∈ x :: l := p.mem_iff.mpr (.head _)
      rcases List.mem_cons.mp a with e | a
      · exact e
      · rcases List.mem_cons.mp b with e | b
        · exact e.symm
        · exact KeyOrd.kle_antisymm (h1 y b) (q1 x a)
    subst e
    rw [perm_sorted ((List.perm_cons _).mp p) h2 q2]

/-- the keys' trees are ordered likewise -/
structure KeyD (prog : Program) (w : World) (em : κ.α → D) : Prop where
  lt : ∀ a b, ltD (em a) (em b) = some (κ.blt a b)
  rep : ∀ (Φ : Facts) v a, κ.keyOf v = some a → Rep prog w Φ v (em a)
  one : κ.OneLt
  kind : ∀ {v₁ v₂ : Value} {r : List Value}, (∀ v ∈ v₁ :: v₂ :: r, ∃ a, κ.keyOf v = some a) → keyKind' (v₁ :: v₂ :: r).toArray = pure oneType'
end
theorem insD_eq {κ : SK} {prog : Program} {w : World} {em : κ.α → D} (Z : KeyD κ prog w em) (x : κ.α) : ∀ l : List κ.α, insD (em x) (l.map em) = some ((insK κ x l).map em)
  | [] => rfl
  | y :: r => by
    rw [List.map_cons]
    unfold insD insK
    rw [Z.lt, insD_eq Z x r]
    show (if κ.blt x y = true then _ else _) = _
    cases κ.blt x y <;> rfl
theorem sortD_eq {κ : SK} {prog : Program} {w : World} {em : κ.α → D} (Z : KeyD κ prog w em) : ∀ l : List κ.α, sortD (l.map em) = some ((isoK κ l).map em)
  | [] => rfl
  | x :: r => by
    rw [List.map_cons]
    unfold sortD
    rw [sortD_eq Z r]
    exact insD_eq Z x _
theorem reps_keys {κ : SK} {prog : Program} {w : World} {em : κ.α → D} (Z : KeyD κ prog w em) {Φ : Facts} : ∀ {vs : List Value} {ks : List κ.α}, vs.map κ.keyOf = ks.map some → Reps prog w Φ vs (ks.map em)
  | [], [], _ => .nil
  | v :: vs, k :: ks, e => by
    rw [List.map_cons, List.map_cons, List.cons.injEq] at e
    exact .cons (Z.rep _ _ _ e.1) (reps_keys Z e.2)
  | [], _ :: _, e => by cases e
  | _ :: _, [], e => by cases e
theorem keys_all {κ : SK} : ∀ {vs : List Value} {ks : List κ.α}, vs.map κ.keyOf = ks.map some → ∀ v ∈ vs, ∃ a, κ.keyOf v = some a
  | v :: vs, k :: ks, e, u, hu => by
    rw [List.map_cons, List.map_cons, List.cons.injEq] at e
    rcases List.mem_cons.mp hu with rfl | hu
    · exact ⟨_, e.1⟩
    · exact keys_all e.2 u hu
  | [], _, _, _, h => nomatch h
  | _ :: _, [], e, _, _ => by cases e

theorem sorted_keys {κ : SK} {vs : List Value} {ks : List κ.α} (hk : vs.map κ.keyOf = ks.map some) {xs : Array Keyed} (hp : xs.Perm (pairsOf vs)) (hs : SortedToK κ xs (pairsOf vs).size) :
    (xs.map (·.2)).toList.map κ.keyOf = (isoK κ ks).map some := by
  have hl : xs.toList.Perm (vs.zip vs) := by rw [← pairsOf_toList]; exact Array.perm_iff_toList_perm.mp hp
  have hmem : ∀ p, p ∈ xs.toList → p.1 = p.2 ∧ p.1 ∈ vs := fun p hp' => mem_zip_self (hl.mem_iff.mp hp')
  have e1 : (xs.map (·.2)).toList = xs.toList.map (·.1) := by
    rw [Array.toList_map]; exact List.map_congr_left fun p hp' => (hmem p hp').1.symm
  let ka : Value → κ.α := fun v => (κ.keyOf v).getD κ.dflt
  have hka : ∀ v ∈ vs, κ.keyOf v = some (ka v) := fun v hv => by
    obtain ⟨a, ha⟩ := keys_all hk v hv
    show _ = some ((κ.keyOf v).getD κ.dflt)
    rw [ha]; rfl
  have ek : vs.map ka = ks := by
    have : (vs.map ka).map some = ks.map some := by
      rw [← hk, List.map_map]
      exact List.map_congr_left fun v hv => (hka v hv).symm
    exact List.map_inj_right (fun zz zz=> Option.some.inj) |>.mp this
  have e2 : (xs.toList.map (·.1)).map κ.keyOf = (xs.toList.map fun p => ka p.1).map some := by
    rw [List.map_map, List.map_map]
    exact List.map_congr_left fun p hp' => hka p.1 (hmem p hp').2
  rw [e1, e2]
  congr 1
  refine perm_sorted κ ?_ ?_ (isoK_sorted κ ks)
  · refine List.Perm.trans ?_ (isoK_perm κ ks).symm
    have := hl.map (fun p => ka p.1)
    have e : (vs.zip vs).map (fun p => ka p.1) = vs.map ka := by
      have : (vs.zip vs).map (fun p => ka p.1) = ((vs.zip vs).map Prod.fst).map ka := by rw [List.map_map]; rfl
      rw [this, List.map_fst_zip (Nat.le_refl _)]
    rw [e, ek] at this
    exact this
  · rw [List.pairwise_iff_getElem]
    intro i j hi hj hij
    have hi' : i < xs.size := by simpa using hi
    have hj' : j < xs.size := by simpa using hj
    have h1 := hs i j (Nat.le_of_lt hij) (by rw [← hp.size_eq]; exact hj')
    simp only [List.getElem_map, Array.getElem_toList]
    have kk : ∀ m (hm : m < xs.size), KK κ xs m = ka xs[m].1 := fun m hm => by unfold KK; rw [getElem?_pos xs m hm]
    rw [kk i hi', kk j hj'] at h1
    exact h1

/-! the three kinds of keys -/
theorem ltN_iff : ∀ {a b : List Nat}, ltN a b = decide (a < b)
  | [], [] => by simp [ltN]
  | [], b :: y => by simp [ltN]
  | a :: x, [] => by simp [ltN]
  | a :: x, b :: y => by
    unfold ltN
    rw [ltN_iff (a := x) (b := y)]
    by_cases h : a = b
    · subst h
      rw [if_pos (Nat.beq_refl a)]
      congr 1
      simp
    · rw [if_neg (fun q => h (Nat.eq_of_beq_eq_true q))]
      rw [Bool.eq_iff_iff]
      simp only [decide_eq_true_eq, List.cons_lt_cons_iff]
      rw [show (Nat.blt a b = true) = (a + 1 ≤ b) from by unfold Nat.blt; simp]
      constructor
      · intro q; exact .inl q
      · rintro (q | ⟨q, _⟩)
        · exact q
        · exact absurd q h

section
variable {prog : Program} {w : World} {A : Around} {E : Value → Shared → Prop} {s : Shared}

/-- texts -/
noncomputable def strK : SK := PyProof.Rows.strKind
noncomputable def emS (a : List Nat) : D := .str ⟨a.toArray⟩
theorem keyD_str (prog : Program) (w : World) : KeyD strK prog w emS where
  lt := by
    have : ∀ a b : List Nat, ltD (emS a) (emS b) = some (decide (a < b)) := fun a b => by
      show some (ltN a.toArray.toList b.toArray.toList) = some (decide (a < b))
      rw [ltN_iff]
    exact this
  rep := fun Φ v a e => by
    have e : PyProof.Rows.strKind.keyOf v = some a := e
    cases v <;> simp only [PyProof.Rows.strKind, reduceCtorEq, Option.some.injEq] at e
    cases e
    exact .str _ _
  one := strKind_oneLt
  kind := fun {v₁ v₂ r} h => keyKind_strs (strsAre_map _ fun v hv => by
    obtain ⟨a, e⟩ := h v hv
    have e : PyProof.Rows.strKind.keyOf v = some a := e
    cases v <;> simp only [PyProof.Rows.strKind, reduceCtorEq] at e
    exact ⟨_, _, rfl⟩)

/-- whole numbers -/
noncomputable def intK : SK where
  α := Int
  blt a b := decide (a < b)
  irrefl a := by simp
  trans a b c h1 h2 := by simp only [decide_eq_true_eq] at *; omega
  negTrans a b c h := by simp only [decide_eq_true_eq] at *; omega
  total a b h1 h2 := by simp only [decide_eq_false_iff_not] at *; omega
  keyOf v := match v with | .int i _ => some i | _ => none
  dflt := 0
theorem intsAre_of : ∀ (vs : List Value), (∀ v ∈ vs, ∃ i t, v = .int i t) → ∃ ns, IntsAre vs ns
  | [], _ => ⟨[], .nil⟩
  | v :: vs, h => by
    obtain ⟨i, t, rfl⟩ := h v (.head _)
    obtain ⟨ns, q⟩ := intsAre_of vs fun u hu => h u (.tail _ hu)
    exact ⟨i :: ns, .cons _ _ q⟩
theorem keyD_int (prog : Program) (w : World) : KeyD intK prog w D.int where
  lt := fun a b => rfl
  rep := fun Φ v a e => by
    have e : intK.keyOf v = some a := e
    cases v <;> simp only [intK, reduceCtorEq, Option.some.injEq] at e
    cases e
    exact .int _ _
  one := by
    intro prog w A E s x y a b Q ha hb h
    cases x <;> simp only [intK, reduceCtorEq, Option.some.injEq] at ha
    cases y <;> simp only [intK, reduceCtorEq, Option.some.injEq] at hb
    cases ha; cases hb
    exact oneLt_int h
  kind := fun {v₁ v₂ r} h => by
    obtain ⟨ns, q⟩ := intsAre_of (v₁ :: v₂ :: r) fun v hv => by
      obtain ⟨a, e⟩ := h v hv
      have e : intK.keyOf v = some a := e
      cases v <;> simp only [intK, reduceCtorEq] at e
      exact ⟨_, _, rfl⟩
    exact keyKind_ints q

/-- bytes -/
theorem slot_bytes_lt : PySem.Slot "bytes" "__lt__" "bytes.__lt__" :=
  .of (owner := "bytes") (n := "__lt__") (by rw [typeLookup_type, builtinLookup_eq_fast]; kernel_rfl) (by decide +kernel) (by decide +kernel) (by decide +kernel)
    (by first | exact .inl (by decide +kernel) | exact .inr (by decide +kernel)) (by rw [isSubtype_type]; kernel_rfl)
theorem entry_bytes_lt : entryFor table "bytes.__lt__" = some Builtin.«bytes.__lt__» := entryFor_of_tree (by kernel_rfl)
theorem args_bytes_lt_2 (a b : Value) : argsOk "bytes.__lt__" ⟨[a, b], []⟩ := by unfold argsOk; kernel_rfl
theorem gives_bytes_lt (x y : Array UInt8) (t u : Tok) : Gives (Builtin.«bytes.__lt__» ⟨[.bytes x t, .bytes y u], []⟩) (.val (.bool (Builtin.Bytes.order x.toList y.toList == .lt))) := .of_eq (by kernel_rfl)
theorem order_lt : ∀ {x y : List UInt8}, (Builtin.Bytes.order x y == .lt) = ltN (x.map UInt8.toNat) (y.map UInt8.toNat)
  | [], [] => rfl
  | [], _ :: _ => rfl
  | _ :: _, [] => rfl
  | a :: x, b :: y => by
    rw [List.map_cons, List.map_cons]
    unfold Builtin.Bytes.order ltN
    by_cases h : Nat.beq a.toNat b.toNat = true
    · have e : a = b := UInt8.toNat_inj.mp (Nat.eq_of_beq_eq_true h)
      subst e
      rw [if_neg (by simp), if_neg (by simp), if_pos h]
      exact order_lt
    · have ne : a ≠ b := fun e => h (by rw [e]; exact Nat.beq_refl _)
      rw [if_neg h]
      by_cases l : a < b
      · rw [if_pos l]
        have : a.toNat < b.toNat := l
        rw [show Nat.blt a.toNat b.toNat = true from Nat.ble_eq_true_of_le this]
        rfl
      · rw [if_neg l]
        have g : a > b := by
          rcases UInt8.lt_or_lt_of_ne ne with q | q
          · exact absurd q l
          · exact q
        rw [if_pos g]
        have : ¬ a.toNat < b.toNat := l
        rw [show Nat.blt a.toNat b.toNat = false from by
          cases q : Nat.blt a.toNat b.toNat with
          | false => rfl
          | true => exact absurd (Nat.le_of_ble_eq_true q) this]
        rfl
theorem oneLt_bytes {a b : Array UInt8} {t u : Tok} {Q : Bool → Shared → Prop} (h : Q (decide (a.toList.map UInt8.toNat < b.toList.map UInt8.toNat)) s) : wpAny (model prog w) A (oneLt' true (.bytes a t) (.bytes b u)) Q E s := by
  rw [oneLt'_eq]
  simp only [if_true]
  refine wpAny_bind (wpAny_cRoomFor_byValue rfl ?_)
  have hT : s.TypeIs (.bytes a t) "bytes" := rfl
  refine wpAny_bind (wpAny_callSpecialIfBound?_slot hT slot_bytes_lt (call_meets slot_bytes_lt hT entry_bytes_lt (args_bytes_lt_2 _ _) (gives_bytes_lt a b t u).meets ?_))
  show wpAny _ _ _ _ _ _
  refine wpAny_truthy_bool ?_
  rw [order_lt, ltN_iff]
  exact h
noncomputable def byteK : SK where
  α := List UInt8
  blt a b := PyProof.Rows.strKind.blt (a.map UInt8.toNat) (b.map UInt8.toNat)
  irrefl a := PyProof.Rows.strKind.irrefl _
  trans a b c h1 h2 := PyProof.Rows.strKind.trans _ _ _ h1 h2
  negTrans a b c h := PyProof.Rows.strKind.negTrans _ _ _ h
  total a b h1 h2 := List.map_inj_right (fun zz zz=> UInt8.toNat_inj.mp) |>.mp (PyProof.Rows.strKind.total _ _ h1 h2)
  keyOf v := match v with | .bytes b _ => some b.toList | _ => none
  dflt := []
theorem firstOfTuple'_bytes (x : Array UInt8) (t : Tok) : firstOfTuple' (.bytes x t) = pure none := rfl
theorem mapM_first_bytes : ∀ {vs : List Value}, (∀ v ∈ vs, ∃ x t, v = .bytes x t) → vs.mapM firstOfTuple' = pure (vs.map fun zz=> none)
  | [], _ => by simp
  | v :: vs, h => by
    obtain ⟨x, t, rfl⟩ := h v (.head _)
    rw [List.mapM_cons, firstOfTuple'_bytes, mapM_first_bytes fun u hu => h u (.tail _ hu)]; simp
theorem mapM_typeOf_bytes : ∀ {vs : List Value}, (∀ v ∈ vs, ∃ x t, v = .bytes x t) → vs.mapM typeOf = pure (vs.map fun zz=> Value.type "bytes")
  | [], _ => by simp
  | v :: vs, h => by
    obtain ⟨x, t, rfl⟩ := h v (.head _)
    rw [List.mapM_cons, mapM_typeOf_bytes fun u hu => h u (.tail _ hu)]
    show (pure (Value.type "bytes") >>= fun b => pure _ >>= fun bs => pure (b :: bs)) = _
    simp
theorem keyKind_bytes {v₁ v₂ : Value} {vs : List Value} (h : ∀ v ∈ v₁ :: v₂ :: vs, ∃ x t, v = .bytes x t) : keyKind' (v₁ :: v₂ :: vs).toArray = pure oneType' := by
  rw [keyKind'_eq, List.mapM_toArray, mapM_first_bytes h]
  simp only [map_pure, pure_bind]
  rw [if_neg (by simp), if_neg (by simp)]
  rw [oneTypeOnly'_eq, List.mapM_toArray, mapM_typeOf_bytes h]
  simp only [map_pure, pure_bind]
  have hall : ((List.map (fun zz=> Value.type "bytes") (v₁ :: v₂ :: vs)).toArray.all fun x => x == Value.type "bytes") = true := by
    simp only [List.all_toArray, List.all_map, List.all_eq_true]
    intro _ _
    rfl
  have h0 : (List.map (fun zz=> Value.type "bytes") (v₁ :: v₂ :: vs)).toArray[0]? = some (Value.type "bytes") := by simp
  rw [h0]
  simp only [hall, if_true, pure_bind, Option.isSome_some]
theorem keyD_bytes (prog : Program) (w : World) : KeyD byteK prog w D.bytes where
  lt := by
    have : ∀ a b : List UInt8, ltD (.bytes a) (.bytes b) = some (decide (a.map UInt8.toNat < b.map UInt8.toNat)) := fun a b => by
      show some (ltN (a.map UInt8.toNat) (b.map UInt8.toNat)) = _
      rw [ltN_iff]
    exact this
  rep := fun Φ v a e => by
    have e : byteK.keyOf v = some a := e
    cases v <;> simp only [byteK, reduceCtorEq] at e
    cases e
    exact .bytes _ _
  one := by
    intro prog w A E s x y a b Q ha hb h
    cases x <;> simp only [byteK, reduceCtorEq] at ha
    cases y <;> simp only [byteK, reduceCtorEq] at hb
    cases ha; cases hb
    exact oneLt_bytes h
  kind := fun {v₁ v₂ r} h => keyKind_bytes fun v hv => by
    obtain ⟨a, e⟩ := h v hv
    have e : byteK.keyOf v = some a := e
    cases v <;> simp only [byteK, reduceCtorEq] at e
    exact ⟨_, _, rfl⟩
end

/-! the call -/
section
variable {prog : Program} {w : World} {h₀ : Base} {h h' : Heap} {K : Frag} {g : Gt} {o : Orc} {n : Nat} {Ψ Φ Φ' : Facts} {pe : PySem.Env} {V : Str → Option Value} {env : MEnv} {A : Around} {s : Shared}

theorem sort_list {κ : SK} {em : κ.α → D} (Z : KeyD κ prog w em) {a : Addr} {vs : List Value} {ks : List κ.α} {m : Nat} {P : Fin → Shared → Prop} {E : Value → Shared → Prop} (ho : s.heap.get? a = some (lstObj vs m)) (hk : vs.map κ.keyOf = ks.map some) (h64 : vs.length < 64)
    (k : ∀ out m' h', Reps prog w Φ out ((isoK κ ks).map em) → h'.get? a = some (lstObj out m') → (∀ b o, b ≠ a → s.heap.get? b = some o → h'.get? b = some o) → P (.done (.ret .none)) { s with heap := h' }) :
    wpAny (model prog w) A (Builtin.«list.sort» ⟨[.ref a], []⟩) P E s := by
  have all := keys_all hk
  refine list_sort_treeK Z.one (n := m) ho (fun p hp => ?_) (fun v₁ v₂ r e => Z.kind (e ▸ all)) h64 fun st' hp hs => ?_
  · rw [pairsOf_toList] at hp
    exact all _ (mem_zip_self hp).2
  · obtain ⟨e', he⟩ := sortedHeap_at (vs := vs) (out := (arrOf st').map (·.2)) ho
    refine k ((arrOf st').map (·.2)).toList e' _ (reps_keys Z (sorted_keys hk hp hs)) ?_ fun b o nb eb => ?_
    · rw [he]
    · rw [sortedHeap_old nb (Heap.lt_size eb)]; exact eb
/-- sorted: what is collected, and then put in order -/
theorem call_sorted {κ : SK} {em : κ.α → D} (Z : KeyD κ prog w em) {r : Addr} {ks : List κ.α} {Q : Value → Shared → Prop} (I : Inv prog w h₀ Ψ Φ s.heap pe V env) (h64 : ks.length < 64)
    (hc : ∀ R : List Value → Shared → Prop, (∀ vs h' tk, (∀ b o, s.heap.get? b = some o → h'.get? b = some o) → vs.map κ.keyOf = ks.map some → R vs { s with heap := h', toks := tk }) → wpAny (model prog w) A.in1 (collect (.ref r)) R NoE s)
    (k : OkE prog w h₀ Ψ Φ s pe V env (.list ((isoK κ ks).map em)) Q) : wpAny (model prog w) A (call (.builtin "sorted") [.ref r]) Q NoE s := by
  refine call_function_entry kind_sorted plain_sorted entry_sorted (args_sorted1 _) ?_
  unfold Builtin.«sorted»
  refine wpAny_bind (m := checkCount "sorted" 1 1 _) (wpAny_pure ?_)
  refine wpAny_bind (hc _ fun vs h1 t1 hk1 hv => ?_)
  have hl : vs.length = ks.length := by have := congrArg List.length hv; simpa using this
  refine wpAny_bind (wpAny_newList ?_ (by rw [hl, sizeLine_eq]; omega))
  have ho : (h1.push (lstObj vs 0)).get? h1.objs.size = some (lstObj vs 0) := Heap.get?_push_size _ rfl
  have hnew : s.heap.get? h1.objs.size = none := by
    cases e : s.heap.get? h1.objs.size with
    | none => rfl
    | some o => exact absurd (Heap.lt_size (hk1 _ _ e)) (Nat.lt_irrefl _)
  refine wpAny_bind (wpAny_holding (wpAny_call_entry slot_list_sort ⟨_, ho, rfl⟩ entry_list_sort (sort_list Z (Φ := Φ) (a := h1.objs.size) (s := ⟨h1.push (lstObj vs 0), s.gens, s.drawn, t1, s.os⟩) ho hv (by rw [hl]; exact h64) fun out m' h' r' ho' hs' => ⟨_, rfl, ?_⟩) (args_list_sort _)))
  have keep : ∀ b o, s.heap.get? b = some o → h'.get? b = some o := fun b o e => hs' b o (Nat.ne_of_lt (Heap.lt_size (hk1 _ _ e))) (Heap.get?_push_of_some _ (hk1 _ _ e))
  refine wpAny_pure ⟨_, rfl, k _ (also Φ h1.objs.size (lstObj out m')) h' t1 (le_also _ _ _) (I.grow keep (le_also _ _ _) fun a x q => ?_) (.list (also_at _ _ _) (r'.mono (le_also _ _ _)))⟩
  rcases q with q | ⟨rfl, rfl⟩
  · exact .inl q
  · exact .inr ⟨hnew, ho'⟩
end
end Mine

set_option Elab.async false
set_option maxRecDepth 100000
namespace Mine
open PySem PySem.W PyProof.Rows PySem.Calls

theorem slot_bytes_bytes : typeLookup (.type "bytes") "__bytes__" = pure (some (.builtin "bytes.__bytes__")) := by rw [typeLookup_type, builtinLookup_eq_fast]; kernel_rfl
theorem bytes_new_of (x : Array UInt8) (t : Tok) : Meets (Builtin.«bytes.__new__» ⟨[.type "bytes", .bytes x t], []⟩) (fun zz R s=> R (.ok (.ret (.bytes x t))) s) := by
  intro prog w A R s h
  have hT : s.TypeIs (.bytes x t) "bytes" := rfl
  unfold Builtin.«bytes.__new__»
  refine wpAny_bind (wpAny_of_eq (a := true) rfl ?_)
  refine bm_if_false rfl ?_
  refine wpAny_bind (wpAny_of_eq F.bm_sub ?_)
  refine bm_if_false rfl ?_
  refine wpAny_bind (wpAny_of_eq (F.bm_bind _) ?_)
  refine wpAny_bind (wpAny_of_eq (a := ()) rfl ?_)
  refine wpAny_bind (wpAny_of_eq (a := ()) rfl ?_)
  refine bm_if_false rfl ?_
  refine wpAny_bind (wpAny_specialOf hT slot_bytes_bytes ?_)
  refine wpAny_bind (wpAny_rule ?_)
  refine wpAny_bind (wpAny_typeOf hT ?_)
  refine bm_if_true rfl ?_
  exact wpAny_of_eq (a := Fin.done (.ret (.bytes x t))) rfl h

theorem keysD_map {prog : Program} {w : World} {Φ : Facts} {T : Type} {em : T → D} : ∀ {kvs : List (T × Value)} {l : List (D × D)}, RepK prog w Φ (kvs.map fun p => (em p.1, p.2)) l → keysD l = (kvs.map (·.1)).map em
  | [], _, q => by cases q; rfl
  | (k, x) :: kvs, _, q => by
    cases q with
    | cons h q => unfold keysD; rw [keysD_map q]; rfl
theorem repK_length {prog : Program} {w : World} {Φ : Facts} {T : Type} {em : T → D} {kvs : List (T × Value)} {l : List (D × D)} (q : RepK prog w Φ (kvs.map fun p => (em p.1, p.2)) l) : kvs.length = l.length := by
  have := q.length
  rwa [List.length_map] at this

section
variable {prog : Program} {w : World} {h₀ : Base} {h h' : Heap} {K : Frag} {g : Gt} {o : Orc} {n : Nat} {Ψ Φ Φ' : Facts} {pe : PySem.Env} {V : Str → Option Value} {env : MEnv} {A : Around} {s : Shared}

/-- a new object is made, the old ones stay -/
theorem Inv.made {a : Addr} {ob : Obj} (I : Inv prog w h₀ Ψ Φ h pe V env) (hk : ∀ b o, h.get? b = some o → h'.get? b = some o) (na : h.get? a = none) (ga : h'.get? a = some ob) : Inv prog w h₀ Ψ (also Φ a ob) h' pe V env :=
  I.grow hk (le_also _ _ _) fun b x q => by
    rcases q with q | ⟨rfl, rfl⟩
    · exact .inl q
    · exact .inr ⟨na, ga⟩
theorem Inv.keep (I : Inv prog w h₀ Ψ Φ h pe V env) (hk : ∀ b o, h.get? b = some o → h'.get? b = some o) : Inv prog w h₀ Ψ Φ h' pe V env := I.grow hk (Le.refl _) fun zz zz q=> .inl q
theorem none_later (hk : ∀ b o, h.get? b = some o → h'.get? b = some o) : h.get? h'.objs.size = none := by
  cases e : h.get? h'.objs.size with
  | none => rfl
  | some o => exact absurd (Heap.lt_size (hk _ _ e)) (Nat.lt_irrefl _)

/-! sorted -/
theorem keys_at {T : Type} {κ : SK} {kvs : List (T × Value)} {vs : List Value} {ek : T → κ.α} {P : T → Value → Prop} (hl : vs.length = kvs.length) (hv : ∀ (j : Nat) (v : Value), vs[j]? = some v → ∃ k x, kvs[j]? = some (k, x) ∧ P k v) (hP : ∀ k v, P k v → κ.keyOf v = some (ek k)) :
    vs.map κ.keyOf = ((kvs.map (·.1)).map ek).map some := by
  apply List.ext_getElem?
  intro j
  rw [List.getElem?_map, List.getElem?_map, List.getElem?_map, List.getElem?_map]
  cases e : vs[j]? with
  | none =>
    have : kvs[j]? = none := by rw [List.getElem?_eq_none_iff] at e ⊢; omega
    rw [this]; rfl
  | some v =>
    obtain ⟨k, x, hx, p⟩ := hv j v e
    rw [hx]
    exact congrArg some (hP k v p)
theorem sorted_dict {T : Type} [DecidableEq T] {knd : PySem.KeyKind prog w T} {em : T → D} {κ : SK} {eκ : κ.α → D} {ek : T → κ.α} (Z : KeyD κ prog w eκ) (hek : ∀ k, eκ (ek k) = em k) (hP : ∀ k v, knd.is k v = true → κ.keyOf v = some (ek k))
    {ob : Obj} {kvs : List (T × Value)} {a : Addr} {l : List (D × D)} {r : List D} {Q : Value → Shared → Prop} (I : Inv prog w h₀ Ψ Φ s.heap pe V env) (hh : A.handled = none) (p : Φ a ob) (ne0 : a ≠ sysModules) (y : ob.IsDictOf knd kvs) (q : RepK prog w Φ (kvs.map fun p => (em p.1, p.2)) l)
    (h64 : l.length < 64) (e : sortD (keysD l) = some r) (k : OkE prog w h₀ Ψ Φ s pe V env (.list r) Q) : wpAny (model prog w) A (call (.builtin "sorted") [.ref a]) Q NoE s := by
  obtain ⟨es, ep, y1, y2, y3, y4, y5⟩ := y
  have hd : s.heap.DictAt knd a kvs ep := ⟨_, es, I.phi _ _ p, y1, y2, y3, y4, y5⟩
  have ks : keysD l = ((kvs.map (·.1)).map ek).map eκ := by
    simp only [keysD_map q, List.map_map]
    exact List.map_congr_left fun x zz=> (hek x.1).symm
  rw [ks, sortD_eq Z] at e
  cases e
  have hl := repK_length q
  refine call_sorted (r := a) (ks := (kvs.map (·.1)).map ek) Z I (by rw [List.length_map, List.length_map, hl]; exact h64) (fun R hR => ?_) k
  refine kdu_collect (A := A.in1) (kdl_dict (knd := knd) (kvs := kvs) (ep := ep) (beq_eq_false_iff_ne.mpr ne0)) hh hd (by rw [hl, sizeLine_eq]; omega) fun h' tk acc hk hacc => ?_
  exact hR _ _ _ hk (keys_at (by rw [Array.length_toList]; exact hacc.1) (fun j v e => hacc.2 j v (by rw [← Array.getElem?_toList]; exact e)) hP)
theorem strs_keys : ∀ {vs : List Value} {l : List D}, Reps prog w Φ vs l → allStr l = true → ∃ ks : List (List Nat), vs.map strK.keyOf = ks.map some ∧ l = ks.map emS
  | _, _, .nil, _ => ⟨[], rfl, rfl⟩
  | _, _, .cons (v := v) (d := d) h r, e => by
    cases d with
    | str x =>
      obtain ⟨ks, a, b⟩ := strs_keys r e
      obtain ⟨t, rfl⟩ := h.str_inv
      refine ⟨x.cps.toList :: ks, ?_, ?_⟩
      · rw [List.map_cons, List.map_cons, a]; rfl
      · rw [List.map_cons, b]; rfl
    | _ => exact absurd e Bool.false_ne_true
theorem call_sortedD {d : D} {l r : List D} {v : Value} (e1 : sortable d = some l) (e2 : sortD l = some r) (rv : Rep prog w Φ v d) {Q : Value → Shared → Prop} (I : Inv prog w h₀ Ψ Φ s.heap pe V env) (hh : A.handled = none) (k : OkE prog w h₀ Ψ Φ s pe V env (.list r) Q) :
    wpAny (model prog w) A (call (.builtin "sorted") [v]) Q NoE s := by
  cases d with
  | tup l' =>
    refine bi e1 fun c e1 => band c fun c1 c2 => ?_
    obtain rfl := s1 e1
    obtain ⟨a', vs, n', rfl, p, q⟩ := rv.tup_inv
    obtain ⟨ks, a, b⟩ := strs_keys q c2
    have h64 : ks.length < 64 := by
      have := congrArg List.length b
      rw [List.length_map] at this
      rw [← this]; exact Nat.le_of_ble_eq_true c1
    rw [b] at e2
    obtain rfl := s1 ((sortD_eq (keyD_str prog w) ks).symm.trans e2)
    refine call_sorted (ks := ks) (keyD_str prog w) I h64 (fun R hR => ?_) k
    obtain ⟨o', g1, g2, n', g3⟩ := isTup_of (I.phi _ _ p)
    exact wpAny_collect_seq _ (.inr rfl) g1 g2 g3 (fun h' hk => hR _ _ s.toks hk a) (by have := Nat.le_of_ble_eq_true c1; rw [List.size_toArray, q.length, sizeLine_eq]; omega)
  | dict l' =>
    refine bi e1 fun c e1 => ?_
    obtain rfl := s1 e1
    have h64 := Nat.le_of_ble_eq_true c
    obtain ⟨a', ob, rfl, p, ne0, q⟩ := rv.dict_inv
    cases q with
    | ik y q => exact sorted_dict (em := D.int) (κ := intK) (ek := id) (keyD_int prog w) (fun zz=> rfl) (fun k v h => by obtain ⟨t, rfl⟩ := Value.isInt_shape h; rfl) I hh p ne0 y q h64 e2 k
    | sk y q => exact sorted_dict (em := D.str) (κ := strK) (ek := fun k => k.cps.toList) (keyD_str prog w) (fun zz=> rfl) (fun k v h => by obtain ⟨t, rfl⟩ := Value.isStrOf_shape h; rfl) I hh p ne0 y q h64 e2 k
    | bk y q => exact sorted_dict (em := D.bytes) (κ := byteK) (ek := id) (keyD_bytes prog w) (fun zz=> rfl) (fun k v h => by obtain ⟨t, rfl⟩ := isBytesOf_shape h; rfl) I hh p ne0 y q h64 e2 k
  | _ => exact (ns e1).elim
/-! the other makers -/
theorem call_tupleD {l : List D} {v : Value} (hf : fitN l.length = true) (rv : Rep prog w Φ v (.list l)) {Q : Value → Shared → Prop} {E : Value → Shared → Prop} (I : Inv prog w h₀ Ψ Φ s.heap pe V env) (k : OkE prog w h₀ Ψ Φ s pe V env (.tup l) Q) :
    wpAny (model prog w) A (call (.type "tuple") [v]) Q E s := by
  obtain ⟨a', vs, n', rfl, p, q⟩ := rv.list_inv
  refine call_tuple_list (isList_of (I.phi _ _ p)) (fun h' hk => ?_) (by rw [List.size_toArray, q.length]; exact fit_line hf)
  have I' := I.keep hk
  exact k _ _ _ s.toks (le_also _ _ _) (I'.push _) (.tup (also_at _ _ _) (q.mono (le_also _ _ _)))
theorem call_listD {l : List D} {v : Value} (hf : fitN l.length = true) (rv : Rep prog w Φ v (.list l)) {Q : Value → Shared → Prop} {E : Value → Shared → Prop} (I : Inv prog w h₀ Ψ Φ s.heap pe V env) (k : OkE prog w h₀ Ψ Φ s pe V env (.list l) Q) :
    wpAny (model prog w) A (call (.type "list") [v]) Q E s := by
  obtain ⟨a', vs, n', rfl, p, q⟩ := rv.list_inv
  refine call_list_seq _ (.inl rfl) (I.phi _ _ p) rfl rfl (fun h' c' hk hD => ?_) (by rw [List.size_toArray, q.length]; exact fit_line hf)
  exact k _ _ _ s.toks (le_also _ _ _) (I.made hk (get_none_size _) hD) (.list (also_at _ _ _) (q.mono (le_also _ _ _)))
theorem dict_copy {T : Type} [DecidableEq T] {knd : PySem.KeyKind prog w T} {ob : Obj} {kvs : List (T × Value)} {a : Addr} {l : List (D × D)} {Q : Value → Shared → Prop} {E : Value → Shared → Prop} (I : Inv prog w h₀ Ψ Φ s.heap pe V env) (p : Φ a ob) (ne0 : a ≠ sysModules) (y : ob.IsDictOf knd kvs)
    (hl : kvs.length ≤ sizeLine) (hR : ∀ (ob' : Obj) (Φ' : Facts), ob'.IsDictOf knd kvs → Le Φ Φ' → RepO prog w Φ' ob' l) (k : OkE prog w h₀ Ψ Φ s pe V env (.dict l) Q) : wpAny (model prog w) A (call (.type "dict") [.ref a]) Q E s := by
  refine kt_call_dict (beq_eq_false_iff_ne.mpr ne0) (Heap.dictOf_iff.mpr ⟨_, I.phi _ _ p, y⟩) hl fun h' hd hs => ?_
  obtain ⟨ob', ho', y'⟩ := Heap.dictOf_iff.mp hd
  have hk : ∀ b o, s.heap.get? b = some o → h'.get? b = some o := fun b o e => hs.extBut b o (Nat.ne_of_lt (Heap.lt_size e)) (Heap.get?_push_of_some _ e)
  exact k _ _ _ s.toks (le_also _ _ _) (I.made hk (get_none_size _) ho') (.dict (also_at _ _ _) I.new_low (hR _ _ y' (le_also _ _ _)))
theorem call_dictD {l : List (D × D)} {v : Value} (hf : fitN l.length = true) (rv : Rep prog w Φ v (.dict l)) {Q : Value → Shared → Prop} {E : Value → Shared → Prop} (I : Inv prog w h₀ Ψ Φ s.heap pe V env) (k : OkE prog w h₀ Ψ Φ s pe V env (.dict l) Q) :
    wpAny (model prog w) A (call (.type "dict") [v]) Q E s := by
  obtain ⟨a', ob, rfl, p, ne0, q⟩ := rv.dict_inv
  cases q with
  | ik y q => exact dict_copy I p ne0 y (by rw [repK_length (em := D.int) q]; exact fit_line hf) (fun ob' Φ' y' le => .ik y' (q.mono le)) k
  | sk y q => exact dict_copy I p ne0 y (by rw [repK_length (em := D.str) q]; exact fit_line hf) (fun ob' Φ' y' le => .sk y' (q.mono le)) k
  | bk y q => exact dict_copy I p ne0 y (by rw [repK_length (em := D.bytes) q]; exact fit_line hf) (fun ob' Φ' y' le => .bk y' (q.mono le)) k
theorem octs_ints : ∀ {l : List D} {b : List UInt8}, octetsOf l = some b → ∀ {vs : List Value}, Reps prog w Φ vs l → ∃ ns : List Int, IntsAre vs ns ∧ (∀ n ∈ ns, 0 ≤ n ∧ n < 256) ∧ ns.map (fun n => n.toNat.toUInt8) = b
  | [], b, e, vs, r => by
    rw [r.nil_inv, ← s1 e]
    exact ⟨[], .nil, fun zz h=> (nomatch h), rfl⟩
  | d :: l, b, e, vs, r => by
    refine bo1 e fun n hd e => bi e fun hn e => bo1 e fun b' hb e => ?_
    rw [asNat_some hd] at r
    obtain ⟨v, us, rfl, r1, r2⟩ := r.cons_inv
    obtain ⟨t, rfl⟩ := r1.int_inv
    obtain ⟨ns, a1, a2, a3⟩ := octs_ints hb r2
    have hn : n < 256 := Nat.le_of_ble_eq_true hn
    refine ⟨(n : Int) :: ns, .cons _ _ a1, fun m hm => ?_, ?_⟩
    · rcases List.mem_cons.mp hm with rfl | hm
      · omega
      · exact a2 m hm
    · rw [List.map_cons, a3, ← s1 e]; rfl
theorem call_bytesD {l : List D} {b : List UInt8} {v : Value} (hf : fitN l.length = true) (e : octetsOf l = some b) (rv : Rep prog w Φ v (.list l)) {Q : Value → Shared → Prop} {E : Value → Shared → Prop} (I : Inv prog w h₀ Ψ Φ s.heap pe V env) (hh : A.handled = none) (k : OkE prog w h₀ Ψ Φ s pe V env (.bytes b) Q) :
    wpAny (model prog w) A (call (.type "bytes") [v]) Q E s := by
  obtain ⟨a', vs, n', rfl, p, q⟩ := rv.list_inv
  obtain ⟨ns, a1, a2, a3⟩ := octs_ints e q
  refine call_bytes_ints (isList_of (I.phi _ _ p)) a1 a2 (by rw [q.length]; exact fit_line hf) hh fun h' t tk hk => ?_
  have e : byteArr ns = b.toArray := by unfold byteArr; rw [a3]
  rw [e]
  exact k _ Φ h' tk (Le.refl _) (I.keep hk) (.bytes _ _)
theorem call_bytes_bytes {b : Array UInt8} {t : Tok} {Q : Value → Shared → Prop} {E : Value → Shared → Prop} (h : Q (.bytes b t) s) : wpAny (model prog w) A (call (.type "bytes") [.bytes b t]) Q E s :=
  callType_new F.bm_called (by decide) (F.bm_typeCall _) (F.bm_newCall _) (fun obj => F.args_object_init_2 obj _) F.bm_entry (bytes_new_of b t) ⟨rfl, h⟩
theorem call_ordD {x : Str} {c : Nat} {t : Tok} (e : x.cps.toList = [c]) {Q : Value → Shared → Prop} {E : Value → Shared → Prop} (I : Inv prog w h₀ Ψ Φ s.heap pe V env) (k : OkE prog w h₀ Ψ Φ s pe V env (.int c) Q) : wpAny (model prog w) A (call (.builtin "ord") [.str x t]) Q E s := by
  have ex : x = ⟨#[c]⟩ := by
    cases x with
    | mk cps => congr 1; exact Array.toList_inj.mp e
  subst ex
  exact P.ord_of_char (k _ Φ s.heap _ (Le.refl _) I (.int _ _))
theorem digit_cases {P : Nat → Prop} (h : P 0 ∧ P 1 ∧ P 2 ∧ P 3 ∧ P 4 ∧ P 5 ∧ P 6 ∧ P 7 ∧ P 8 ∧ P 9) : ∀ {n : Nat}, n < 10 → P n
  | 0, _ => h.1
  | 1, _ => h.2.1
  | 2, _ => h.2.2.1
  | 3, _ => h.2.2.2.1
  | 4, _ => h.2.2.2.2.1
  | 5, _ => h.2.2.2.2.2.1
  | 6, _ => h.2.2.2.2.2.2.1
  | 7, _ => h.2.2.2.2.2.2.2.1
  | 8, _ => h.2.2.2.2.2.2.2.2.1
  | 9, _ => h.2.2.2.2.2.2.2.2.2
  | n + 10, q => absurd q (Nat.not_lt.mpr (Nat.le_add_left 10 n))
theorem digit_text {n : Nat} (hn : n < 10) : (Str.ofString (toString (n : Int)) : Str) = ⟨#[48 + n]⟩ := digit_cases (P := fun n => (Str.ofString (toString (n : Int)) : Str) = ⟨#[48 + n]⟩) (by decide +kernel) hn
theorem blt_sorted (e : (o1 (sortable d) fun l => o1 (sortD l) fun r => some (D.list r)) = some d') (I : Inv prog w h₀ Ψ Φ s.heap pe V env) (hh : A.handled = none) (r : Rep prog w Φ v d) (k : OkE prog w h₀ Ψ Φ s pe V env d' Q) : wpAny (model prog w) A (call (.builtin "sorted") [v]) Q NoE s :=
  bo1 e fun l hs e => bo1 e fun r' hr e => call_sortedD hs hr r I hh (s1 e ▸ k)
theorem blt_tuple (e : (o1 (asList d) fun l => if fitN l.length then some (.tup l) else .none) = some d') (I : Inv prog w h₀ Ψ Φ s.heap pe V env) (r : Rep prog w Φ v d) (k : OkE prog w h₀ Ψ Φ s pe V env d' Q) : wpAny (model prog w) A (call (.type "tuple") [v]) Q NoE s :=
  bo1 e fun l hs e => bi e fun hf e => call_tupleD hf (asList_some hs ▸ r) I (s1 e ▸ k)
theorem blt_list (e : (o1 (asList d) fun l => if fitN l.length then some (.list l) else .none) = some d') (I : Inv prog w h₀ Ψ Φ s.heap pe V env) (r : Rep prog w Φ v d) (k : OkE prog w h₀ Ψ Φ s pe V env d' Q) : wpAny (model prog w) A (call (.type "list") [v]) Q NoE s :=
  bo1 e fun l hs e => bi e fun hf e => call_listD hf (asList_some hs ▸ r) I (s1 e ▸ k)
theorem blt_dict (e : (o1 (asDict d) fun l => if fitN l.length then some (.dict l) else .none) = some d') (I : Inv prog w h₀ Ψ Φ s.heap pe V env) (r : Rep prog w Φ v d) (k : OkE prog w h₀ Ψ Φ s pe V env d' Q) : wpAny (model prog w) A (call (.type "dict") [v]) Q NoE s :=
  bo1 e fun l hs e => bi e fun hf e => call_dictD hf (asDict_some hs ▸ r) I (s1 e ▸ k)
theorem blt_bytes (e : bytesB d = some d') (I : Inv prog w h₀ Ψ Φ s.heap pe V env) (hh : A.handled = none) (r : Rep prog w Φ v d) (k : OkE prog w h₀ Ψ Φ s pe V env d' Q) : wpAny (model prog w) A (call (.type "bytes") [v]) Q NoE s := by
  cases d with
  | bytes l =>
    obtain ⟨t, rfl⟩ := r.bytes_inv
    exact call_bytes_bytes (k _ Φ s.heap s.toks (Le.refl _) I (s1 e ▸ .bytes _ _))
  | list l => exact bi e fun hf e => bo1 e fun b hb e => call_bytesD hf hb r I hh (s1 e ▸ k)
  | _ => exact (ns e).elim
theorem blt_ord (e : (o1 (asStr d) fun s => o1 (oneN s.cps.toList) fun n => some (.int n)) = some d') (I : Inv prog w h₀ Ψ Φ s.heap pe V env) (r : Rep prog w Φ v d) (k : OkE prog w h₀ Ψ Φ s pe V env d' Q) : wpAny (model prog w) A (call (.builtin "ord") [v]) Q NoE s := by
  refine bo1 e fun x hx e => bo1 e fun n hn e => ?_
  rw [asStr_some hx] at r
  obtain ⟨t, rfl⟩ := r.str_inv
  exact call_ordD (oneN_some hn) I (s1 e ▸ k)
theorem blt_chr (e : (o1 (asNat d) fun n => if Nat.blt n 55296 then some (.str ⟨#[n]⟩) else .none) = some d') (I : Inv prog w h₀ Ψ Φ s.heap pe V env) (r : Rep prog w Φ v d) (k : OkE prog w h₀ Ψ Φ s pe V env d' Q) : wpAny (model prog w) A (call (.builtin "chr") [v]) Q NoE s := by
  refine bo1 e fun n hn e => bi e fun hc e => ?_
  rw [asNat_some hn] at r
  obtain ⟨t, rfl⟩ := r.int_inv
  have hc := Nat.le_of_ble_eq_true hc
  exact chr_of_range (Int.natCast_nonneg _) (by show ((_ : Nat) : Int) ≤ _; omega) (k _ Φ s.heap _ (Le.refl _) I (s1 e ▸ .str _ _))
theorem blt_str (e : (o1 (asNat d) fun n => if Nat.blt n 10 then some (.str ⟨#[48 + n]⟩) else .none) = some d') (I : Inv prog w h₀ Ψ Φ s.heap pe V env) (r : Rep prog w Φ v d) (k : OkE prog w h₀ Ψ Φ s pe V env d' Q) : wpAny (model prog w) A (call (.type "str") [v]) Q NoE s := by
  refine bo1 e fun n hn e => bi e fun hc e => ?_
  rw [asNat_some hn] at r
  obtain ⟨t, rfl⟩ := r.int_inv
  have hc : n < 10 := Nat.le_of_ble_eq_true hc
  refine str_of_int_fit (a := (n : Int)) (N := 10) (by rw [if_neg (by omega)]; omega) (by decide) fun zz=> ?_
  show Q (.str (Str.ofString (toString (n : Int))) _) _
  rw [digit_text hc]
  exact k _ Φ s.heap _ (Le.refl _) I (s1 e ▸ .str _ _)
/-- the builtins that take values -/
theorem snd_callB (C : Cx prog w h₀ K g) (hL : SndL prog w h₀ o n) (hQ : SndQ o) {f : Str} {p pos : Pos} {args : List Expr} {d : D} {env' : MEnv} (hg : env.isGlob f = true) (hn : (lookS g.globals f).isNone = true)
    (e : (o2 (o.L env args) fun ds env1 => o1 (callB f ds) fun d => some (d, env1)) = some (d, env')) {Q : Value → Shared → Prop} (I : Inv prog w h₀ Ψ Φ s.heap pe V env) (R : Room n A) (k : OkE prog w h₀ Ψ Φ s pe V env' d Q) :
    wpAny (model prog w) A (eval (.Call (.Name f p) args [] pos) pe) Q NoE s := by
  refine bo2 e fun ds env1 hl e => bo1 e fun d' hb e => bo1 hb fun d1 hd hb => ?_
  have k := okE_eq e k
  have hp := hQ _ _ _ hl
  have fn : ∀ {N : Str} (id : String), seq f N = true → N ∈ bltNames → N ≠ "__name__" → bootBuiltins N = some (.builtin id) →
      (∀ v Φ1 h1 t1, Le Φ Φ1 → Inv prog w h₀ Ψ Φ1 h1 pe V env1 → Rep prog w Φ1 v d1 → wpAny (model prog w) A (call (.builtin id) [v]) Q NoE { s with heap := h1, toks := t1 }) → wpAny (model prog w) A (eval (.Call (.Name f p) args [] pos) pe) Q NoE s := fun {N} id q hm hne hv kk => by
    obtain rfl := seq_iff.mp q
    refine blt_fn C I hg (blt_at C hm hn) hv hne hp (hL _ _ _ _ hl _ _ _ _ _ _ _ _ I R fun vs Φ1 h1 t1 le1 I1 r1 => ?_)
    rw [oneOf_some hd] at r1
    obtain ⟨v, rfl, r2⟩ := r1.one_inv
    exact kk v Φ1 h1 t1 le1 I1 r2
  have ty : ∀ {N : Str} (T : String), seq f N = true → N ∈ bltNames → N ≠ "__name__" → bootBuiltins N = some (.type T) →
      (∀ v Φ1 h1 t1, Le Φ Φ1 → Inv prog w h₀ Ψ Φ1 h1 pe V env1 → Rep prog w Φ1 v d1 → wpAny (model prog w) A (call (.type T) [v]) Q NoE { s with heap := h1, toks := t1 }) → wpAny (model prog w) A (eval (.Call (.Name f p) args [] pos) pe) Q NoE s := fun {N} T q hm hne hv kk => by
    obtain rfl := seq_iff.mp q
    refine blt_ty C I hg (blt_at C hm hn) hv hne hp (hL _ _ _ _ hl _ _ _ _ _ _ _ _ I R fun vs Φ1 h1 t1 le1 I1 r1 => ?_)
    rw [oneOf_some hd] at r1
    obtain ⟨v, rfl, r2⟩ := r1.one_inv
    exact kk v Φ1 h1 t1 le1 I1 r2
  refine bie hb (fun q hb => fn "sorted" q (by simp [bltNames]) (ne_name (by decide +kernel)) bb_sorted fun v Φ1 h1 t1 le1 I1 r1 => blt_sorted hb I1 R.1 r1 (OkE.later k le1)) fun zz hb=> ?_
  refine bie hb (fun q hb => ty "tuple" q (by simp [bltNames]) (ne_name (by decide +kernel)) bb_tuple fun v Φ1 h1 t1 le1 I1 r1 => blt_tuple hb I1 r1 (OkE.later k le1)) fun zz hb=> ?_
  refine bie hb (fun q hb => ty "list" q (by simp [bltNames]) (ne_name (by decide +kernel)) bb_list fun v Φ1 h1 t1 le1 I1 r1 => blt_list hb I1 r1 (OkE.later k le1)) fun zz hb=> ?_
  refine bie hb (fun q hb => ty "dict" q (by simp [bltNames]) (ne_name (by decide +kernel)) bb_dict fun v Φ1 h1 t1 le1 I1 r1 => blt_dict hb I1 r1 (OkE.later k le1)) fun zz hb=> ?_
  refine bie hb (fun q hb => ty "bytes" q (by simp [bltNames]) (ne_name (by decide +kernel)) bb_bytes fun v Φ1 h1 t1 le1 I1 r1 => blt_bytes hb I1 R.1 r1 (OkE.later k le1)) fun zz hb=> ?_
  refine bie hb (fun q hb => fn "ord" q (by simp [bltNames]) (ne_name (by decide +kernel)) bb_ord fun v Φ1 h1 t1 le1 I1 r1 => blt_ord hb I1 r1 (OkE.later k le1)) fun zz hb=> ?_
  refine bie hb (fun q hb => fn "chr" q (by simp [bltNames]) (ne_name (by decide +kernel)) bb_chr fun v Φ1 h1 t1 le1 I1 r1 => blt_chr hb I1 r1 (OkE.later k le1)) fun zz hb=> ?_
  exact bi hb fun q hb => ty "str" q (by simp [bltNames]) (ne_name (by decide +kernel)) bb_str fun v Φ1 h1 t1 le1 I1 r1 => blt_str hb I1 r1 (OkE.later k le1)
end
end Mine

set_option Elab.async false
set_option maxRecDepth 100000
namespace Mine
open PySem PySem.W PyProof.Rows PySem.Calls

/-- what the written part says of a class whose objects are asked about -/
noncomputable def isiOwn (K : Frag) (C : Addr) : Bool := plainGet K C "__class__" && hasDictIn K C && (findIn K (.ref C) "__class__" == some (some (.builtin "object.__class__"))) && (specialIn K (.builtin "object.__class__") "__get__" == some (some (.builtin "getset_descriptor.__get__"))) &&
  (takesIn K (.builtin "object.__class__") == some true) && (mroIn K C (.type "object") == some true)
noncomputable def isiBase (K : Frag) (C : Addr) : Bool := isIn K (.ref C) C && isNotIn K "NoneType" C && isNotIn K "bool" C && isNotIn K "int" C && isNotIn K "list" C && isNotIn K "dict" C
noncomputable def isiBack (K : Frag) (C : Addr) : Bool := kin_notT K C "bool" && kin_notT K C "int" && kin_notT K C "list" && kin_notT K C "dict"
noncomputable def isiB (K : Frag) (cs : List Nat) : Bool := cs.all fun C => isiBase K C && isiBack K C && isiOwn K C && cs.all fun E => Nat.beq C E || kin_not K C E
structure Cy (prog : Program) (w : World) (h₀ : Base) (K : Frag) (g : Gt) : Prop extends Cx prog w h₀ K g where
  clsAt : ∀ x C f, lookS g.globals x = some (.cls C f) → nsIn K mainGlobals x = some (some (.ref C))
  isi : isiB K g.classes = true

set_option tactic.hygienic true in
theorem memN_iff {C : Nat} : ∀ {cs : List Nat}, memN C cs = true → C ∈ cs
  | c :: r, h => by
    unfold memN at h
    split at h
    · rename_i e; rw [Nat.eq_of_beq_eq_true e]; exact .head _
    · exact .tail _ (memN_iff h)
section
variable {prog : Program} {w : World} {h₀ : Base} {h h' : Heap} {K : Frag} {g : Gt} {o : Orc} {n : Nat} {Ψ Φ Φ' : Facts} {pe : PySem.Env} {V : Str → Option Value} {env : MEnv} {A : Around} {s : Shared}

theorem isi_of {C : Nat} {cs : List Nat} (e : isiB K cs = true) (hc : memN C cs = true) : isiBase K C = true ∧ isiBack K C = true ∧ isiOwn K C = true ∧ ∀ E, memN E cs = true → Nat.beq C E = true ∨ kin_not K C E = true := by
  have := List.all_eq_true.mp e C (memN_iff hc)
  simp only [Bool.and_eq_true] at this
  obtain ⟨⟨⟨a, b⟩, c⟩, d⟩ := this
  refine ⟨a, b, c, fun E he => ?_⟩
  have := List.all_eq_true.mp d E (memN_iff he)
  rwa [Bool.or_eq_true] at this
/-- isobject of a value of one of the kinds -/
theorem isi_row {d : D} {k : Kd} {f : Kd → Bool} {b : Bool} {v T : Value} (e1 : kindD d = some k) (hb : f k = b) (r : Rep prog w Φ v d) (ph : ∀ a o, Φ a o → s.heap.get? a = some o) {Q : Value → Shared → Prop} {E : Value → Shared → Prop} (kk : ∀ tk, Q (.bool b) { s with toks := tk })
    (h1 : (∀ tk, Q (.bool (f .none)) { s with toks := tk }) → wpAny (model prog w) A (call (.builtin "isinstance") [.none, T]) Q E s)
    (h2 : ∀ x, (∀ tk, Q (.bool (f .bool)) { s with toks := tk }) → wpAny (model prog w) A (call (.builtin "isinstance") [.bool x, T]) Q E s)
    (h3 : ∀ x t, (∀ tk, Q (.bool (f .int)) { s with toks := tk }) → wpAny (model prog w) A (call (.builtin "isinstance") [.int x t, T]) Q E s)
    (h4 : ∀ a vs n, s.heap.get? a = some (lstObj vs n) → (∀ tk, Q (.bool (f .list)) { s with toks := tk }) → wpAny (model prog w) A (call (.builtin "isinstance") [.ref a, T]) Q E s)
    (h5 : ∀ a o, s.heap.get? a = some o → o.cls = .type "dict" → (∀ tk, Q (.bool (f .dict)) { s with toks := tk }) → wpAny (model prog w) A (call (.builtin "isinstance") [.ref a, T]) Q E s)
    (h6 : ∀ a c dx es n, s.heap.get? a = some (instObj c dx) → s.heap.get? dx = some (dictOf es n) → k = .inst c → (∀ tk, Q (.bool (f (.inst c))) { s with toks := tk }) → wpAny (model prog w) A (call (.builtin "isinstance") [.ref a, T]) Q E s) :
    wpAny (model prog w) A (call (.builtin "isinstance") [v, T]) Q E s := by
  subst hb
  cases d with
  | none => obtain rfl := s1 e1; rw [r.none_inv]; exact h1 kk
  | bool x => obtain rfl := s1 e1; rw [r.bool_inv]; exact h2 x kk
  | int x =>
    obtain rfl := s1 e1
    obtain ⟨t, rfl⟩ := r.int_inv
    exact h3 x t kk
  | list l =>
    obtain rfl := s1 e1
    obtain ⟨a, vs, n, rfl, p, _⟩ := r.list_inv
    exact h4 a vs n (ph _ _ p) kk
  | dict l =>
    obtain rfl := s1 e1
    obtain ⟨a, o, rfl, p, _, q⟩ := r.dict_inv
    exact h5 a o (ph _ _ p) q.cls kk
  | inst c fs =>
    obtain rfl := s1 e1
    obtain ⟨a, dx, es, n, rfl, g1, g2, _⟩ := r.inst_inv
    exact h6 a c dx es n (ph _ _ g1) (ph _ _ g2) rfl kk
  | _ => exact (ns e1).elim
/-- an object asked for a class of ours -/
theorem call_isiC {d : D} {k : Kd} {C : Nat} {b : Bool} {v : Value} (H : isiB K g.classes = true) (X : K.In s.heap) (e1 : kindD d = some k) (e2 : isInstC g.classes k C = some b) (r : Rep prog w Φ v d) (ph : ∀ a o, Φ a o → s.heap.get? a = some o)
    {Q : Value → Shared → Prop} {E : Value → Shared → Prop} (kk : ∀ tk, Q (.bool b) { s with toks := tk }) : wpAny (model prog w) A (call (.builtin "isinstance") [v, .ref C]) Q E s := by
  refine bi e2 fun hc e2 => band hc fun hc1 hc2 => ?_
  obtain ⟨base, back, own, apart⟩ := isi_of H hc1
  simp only [isiBase, Bool.and_eq_true] at base
  obtain ⟨⟨⟨⟨⟨b1, b2⟩, b3⟩, b4⟩, b5⟩, b6⟩ := base
  refine isi_row (f := fun k => match k with | .inst c => Nat.beq c C | _ => false) e1 (s1 e2) r ph kk (fun kk => ?_) (fun x kk => ?_) (fun x t kk => ?_) (fun a vs n g kk => ?_) (fun a o g hc kk => ?_) (fun a c dx es n i1 i2 hk kk => ?_)
  · exact isn_call (P := fun zz=> True) X (fun M => Looks.of_pure rfl) b2 (by intro e; cases e) trivial none_cls (kk _)
  · exact isn_call (P := fun zz=> True) X (fun M => Looks.of_pure rfl) b3 (by intro e; cases e) trivial bool_cls (kk _)
  · exact isn_call (P := fun zz=> True) X (fun M => Looks.of_pure rfl) b4 (by intro e; cases e) trivial int_cls (kk _)
  · exact isn_call (P := fun h => ∃ o, h.get? _ = some o ∧ o.cls = .type "list") X (fun M => (Looks.ld g).andThen .now) b5 (by intro e; cases e) ⟨_, g, rfl⟩ list_cls (kk _)
  · refine isn_call (P := fun h => ∃ o, h.get? _ = some o ∧ o.cls = .type "dict") X (fun M => ?_) b6 (by intro e; cases e) ⟨_, g, hc⟩ dict_cls (kk _)
    have L : Looks M s.heap (typeOf (.ref a)) o.cls := (Looks.ld g).andThen .now
    rwa [hc] at L
  · have IA : InstAt s.heap _ (instObj c dx) c (some (dictOf es n)) := ⟨i1, rfl, rfl, i2⟩
    have kk : ∀ tk, Q (.bool (Nat.beq c C)) { s with toks := tk } := kk
    by_cases hcC : Nat.beq c C = true
    · have k1 : Q (.bool true) s := hcC ▸ kk s.toks
      obtain rfl := Nat.eq_of_beq_eq_true hcC
      exact isi_call X (fun M => IA.type) b1 (by intro e; cases e) k1
    · rw [Bool.not_eq_true] at hcC
      rw [hcC] at kk
      obtain ⟨_, _, ownc, apartc⟩ := isi_of H (show memN c g.classes = true from (hk ▸ hc2 : Kd.ok g.classes (.inst c) = true))
      rcases apartc C hc1 with z | z
      · exact absurd (hcC.symm.trans z) Bool.false_ne_true
      · simp only [isiOwn, Bool.and_eq_true, beq_iff_eq] at ownc
        obtain ⟨⟨⟨⟨⟨o1, o2⟩, o3⟩, o4⟩, o5⟩, o6⟩ := ownc
        exact kin_callC X IA z o1 o2 o3 o4 o5 o6 (kk _)
/-- and for a built-in one -/
theorem call_isiT {d : D} {k : Kd} {t : Str} {b : Bool} {v : Value} (H : isiB K g.classes = true) (X : K.In s.heap) (e1 : kindD d = some k) (e2 : isInstB g.classes k t = some b) (r : Rep prog w Φ v d) (ph : ∀ a o, Φ a o → s.heap.get? a = some o)
    {Q : Value → Shared → Prop} {E : Value → Shared → Prop} (kk : ∀ tk, Q (.bool b) { s with toks := tk }) : ∃ T : String, t ∈ bltNames ∧ t ≠ "__name__" ∧ bootBuiltins t = some (.type T) ∧ wpAny (model prog w) A (call (.builtin "isinstance") [v, .type T]) Q E s := by
  refine bi e2 fun hok e2 => ?_
  have inst : ∀ {T : String} {a c dx : Addr} {es : List DictEntry} {m : Nat}, typeOf (.type T) = pure (.type "type") → (isiBack K c = true → kin_notT K c T = true) → s.heap.get? a = some (instObj c dx) → s.heap.get? dx = some (dictOf es m) → k = .inst c → (∀ tk, Q (.bool false) { s with toks := tk }) →
      wpAny (model prog w) A (call (.builtin "isinstance") [.ref a, .type T]) Q E s := fun {T a c dx es m} hty hn g1 g2 hk kk => by
    have IA : InstAt s.heap a (instObj c dx) c (some (dictOf es m)) := ⟨g1, rfl, rfl, g2⟩
    obtain ⟨_, back, own, _⟩ := isi_of H (show memN c g.classes = true from (hk ▸ hok : Kd.ok g.classes (.inst c) = true))
    simp only [isiOwn, Bool.and_eq_true, beq_iff_eq] at own
    obtain ⟨⟨⟨⟨⟨o1, o2⟩, o3⟩, o4⟩, o5⟩, o6⟩ := own
    exact kin_callT X IA (hn back) hty o1 o2 o3 o4 o5 o6 (kk _)
  refine bie e2 (fun q e2 => ?_) fun zz e2=> bie e2 (fun q e2 => ?_) fun zz e2=> bie e2 (fun q e2 => ?_) fun zz e2=> bi e2 fun q e2 => ?_ <;> obtain rfl := seq_iff.mp q
  · exact ⟨"bool", by simp [bltNames], ne_name (by decide +kernel), bb_bool, isi_row (f := fun k => match k with | .bool => true | _ => false) e1 (s1 e2) r ph kk (fun kk => IsiPair.NoneType_bool (kk _)) (fun zz kk=> IsiPair.bool_bool (kk s.toks)) (fun zz zz kk=> IsiPair.int_bool (kk _))
      (fun zz zz zz g kk=> IsiPair.list_bool g rfl (kk _)) (fun zz zz g hc kk=> IsiPair.dict_bool g hc (kk _)) (fun zz zz zz zz zz g1 g2 hk kk=> inst PySem.F.isi_meta_bool (fun b => (Bool.and_eq_true_iff.mp (Bool.and_eq_true_iff.mp (Bool.and_eq_true_iff.mp b).1).1).1) g1 g2 hk kk)⟩
  · exact ⟨"int", by simp [bltNames], ne_name (by decide +kernel), bb_int, isi_row (f := fun k => match k with | .int => true | .bool => true | _ => false) e1 (s1 e2) r ph kk (fun kk => IsiPair.NoneType_int (kk _)) (fun zz kk=> IsiPair.bool_int (kk s.toks)) (fun zz zz kk=> IsiPair.int_int (kk s.toks))
      (fun zz zz zz g kk=> IsiPair.list_int g rfl (kk _)) (fun zz zz g hc kk=> IsiPair.dict_int g hc (kk _)) (fun zz zz zz zz zz g1 g2 hk kk=> inst PySem.F.isi_meta_int (fun b => (Bool.and_eq_true_iff.mp (Bool.and_eq_true_iff.mp (Bool.and_eq_true_iff.mp b).1).1).2) g1 g2 hk kk)⟩
  · exact ⟨"list", by simp [bltNames], ne_name (by decide +kernel), bb_list, isi_row (f := fun k => match k with | .list => true | _ => false) e1 (s1 e2) r ph kk (fun kk => IsiPair.NoneType_list (kk _)) (fun zz kk=> IsiPair.bool_list (kk _)) (fun zz zz kk=> IsiPair.int_list (kk _))
      (fun zz zz zz g kk=> IsiPair.list_list g rfl (kk s.toks)) (fun zz zz g hc kk=> IsiPair.dict_list g hc (kk _)) (fun zz zz zz zz zz g1 g2 hk kk=> inst PySem.F.isi_meta_list (fun b => (Bool.and_eq_true_iff.mp (Bool.and_eq_true_iff.mp b).1).2) g1 g2 hk kk)⟩
  · exact ⟨"dict", by simp [bltNames], ne_name (by decide +kernel), bb_dict, isi_row (f := fun k => match k with | .dict => true | _ => false) e1 (s1 e2) r ph kk (fun kk => IsiPair.NoneType_dict (kk _)) (fun zz kk=> IsiPair.bool_dict (kk _)) (fun zz zz kk=> IsiPair.int_dict (kk _))
      (fun zz zz zz g kk=> IsiPair.list_dict g rfl (kk _)) (fun zz zz g hc kk=> IsiPair.dict_dict g hc (kk s.toks)) (fun zz zz zz zz zz g1 g2 hk kk=> inst PySem.F.isi_meta_dict (fun b => (Bool.and_eq_true_iff.mp b).2) g1 g2 hk kk)⟩
theorem spliced_two {M : Model} {E : Value → Shared → Prop} {x y : Expr} {pos : Pos} {Q : List Value → Shared → Prop} (hx : plainExpr x = true) (hy : plainExpr y = true) (h : wpAny M A (eval x pe) (fun v s₁ => wpAny M A (eval y pe) (fun u s₂ => Q [v, u] s₂) E s₁) E s) :
    wpAny M A (spliced (backTo pos (starEach [x, y] pe))) Q E s := by
  rw [backTo_all (by simp [hx, hy])]
  exact Calls.spliced_cons (wpAny_mono h (fun v s₁ h₁ => Calls.spliced_cons (wpAny_mono h₁ (fun u s₂ h₂ => Calls.spliced_nil h₂) fun zz zz e=> e)) fun zz zz e=> e)
set_option tactic.hygienic true in
theorem snd_isinst (C : Cy prog w h₀ K g) (hE : SndE prog w h₀ o n) (hP : SndP o) {p pos : Pos} {args : List Expr} {b : Bool} {env' : MEnv} (hg : env.isGlob n_isinstance = true) (hn : (lookS g.globals n_isinstance).isNone = true)
    (e : isinstE g o env args = some (b, env')) {Q : Value → Shared → Prop} (I : Inv prog w h₀ Ψ Φ s.heap pe V env) (R : Room n A) (k : OkE prog w h₀ Ψ Φ s pe V env' (.bool b) Q) :
    wpAny (model prog w) A (eval (.Call (.Name n_isinstance p) args [] pos) pe) Q NoE s := by
  refine bo2 e fun x y hxy e => bo1 e fun c hy e => bo2 e fun d env1 hd e => bo1 e fun kd hk e => bi e fun hc e2 => ?_
  rw [twoE_some hxy]
  obtain ⟨cp, rfl⟩ := nameT_some hy
  have px := hP _ _ _ hd
  refine blt_fn C.toCx I hg (blt_at C.toCx (by simp [bltNames]) hn) bb_isinstance (ne_name (by decide +kernel)) (by rw [List.all_cons, px]; rfl) (spliced_two px rfl (hE _ _ _ _ hd _ _ _ _ _ _ _ I R fun v Φ1 h1 t1 le1 I1 r1 => ?_))
  unfold isinstOf at e2
  split at e2
  · rename_i C' f hl
    refine bo1 e2 fun b' hb e => ?_
    obtain ⟨rfl, rfl⟩ := sp e
    exact name_glob C.toCx I1 hc (C.clsAt _ _ _ hl) (call_isiC C.isi (frag_at C.toCx I1) hk hb r1 I1.phi fun tk => k _ Φ1 h1 tk le1 I1 (.bool _))
  · exact (ns e2).elim
  · rename_i hl
    refine bo1 e2 fun b' hb e => ?_
    obtain ⟨rfl, rfl⟩ := sp e
    obtain ⟨T, m1, m2, m3, m4⟩ := call_isiT (A := A) (s := { s with heap := h1, toks := t1 }) (Q := Q) (E := NoE) C.isi (frag_at C.toCx I1) hk hb r1 I1.phi fun tk => k _ Φ1 h1 tk le1 I1 (.bool _)
    exact name_blt C.toCx I1 hc (blt_at C.toCx m1 (by rw [hl]; rfl)) m3 m2 m4
end
end Mine

set_option Elab.async false
set_option maxRecDepth 100000
namespace Mine
open PySem PySem.W PyProof.Rows PySem.Calls PySem.SeqAt

section
variable {prog : Program} {w : World} {h₀ : Base} {h h' : Heap} {K : Frag} {g : Gt} {o : Orc} {n : Nat} {Ψ Φ Φ' : Facts} {pe : PySem.Env} {V : Str → Option Value} {env : MEnv} {A : Around} {s : Shared}

/-! len -/
theorem peek_plain (hP : SndP o) {x : Expr} {r : D × MEnv} (e : peekE o env x = some r) : plainExpr x = true := by
  unfold peekE at e
  split at e
  · rfl
  · exact hP _ _ _ e
theorem call_lenD {d : D} {i : Int} {v : Value} (e : lenD d = some i) (S : Sat Φ s.heap) (r : Rep prog w Φ v d) {Q : Value → Shared → Prop} {E : Value → Shared → Prop} (k : ∀ t tk, Q (.int i t) { s with toks := tk }) : wpAny (model prog w) A (call (.builtin "len") [v]) Q E s := by
  refine bo1 e fun m hm e => bi e fun hf e => ?_
  obtain rfl := s1 e
  have hle := fitN_le hf
  cases d with
  | list l =>
    obtain rfl := s1 hm
    obtain ⟨a, vs, n, rfl, p, q⟩ := r.list_inv
    have hs : vs.toArray.size = l.length := (List.size_toArray ..).trans q.length
    refine PySem.Calls.call_len_list (rep_isList (S.at_ _ _ p)) (by rw [hs]; omega) ?_
    rw [hs]; exact k _ _
  | tup l =>
    obtain rfl := s1 hm
    obtain ⟨a, vs, n, rfl, p, q⟩ := r.tup_inv
    have hs : vs.toArray.size = l.length := (List.size_toArray ..).trans q.length
    refine PyProof.Rows.len_tuple (rep_isTup (S.at_ _ _ p)) (by rw [hs]; omega) ?_
    rw [hs]; exact k _ _
  | _ => exact (ns hm).elim
theorem snd_len (C : Cx prog w h₀ K g) (hE : SndE prog w h₀ o n) (hP : SndP o) {p pos : Pos} {args : List Expr} {d : D} {env' : MEnv} (hg : env.isGlob n_len = true) (hn : (lookS g.globals n_len).isNone = true)
    (e : (o1 (oneE args) fun x => o2 (peekE o env x) fun d env1 => o1 (lenD d) fun n => some (D.int n, env1)) = some (d, env')) {Q : Value → Shared → Prop} (I : Inv prog w h₀ Ψ Φ s.heap pe V env) (R : Room n A) (k : OkE prog w h₀ Ψ Φ s pe V env' d Q) :
    wpAny (model prog w) A (eval (.Call (.Name n_len p) args [] pos) pe) Q NoE s := by
  refine bo1 e fun x hx e => bo2 e fun d1 env1 hd e => bo1 e fun i hi e => ?_
  have k := okE_eq e k
  rw [oneE_some hx]
  have hp := peek_plain hP hd
  refine blt_fn C I hg (blt_at C (by simp [bltNames]) hn) bb_len (ne_name (by decide +kernel)) (by simp [hp]) (spliced_one hp (snd_peek hE hd I R fun v Φ1 h1 t1 Φ1' le1 I1 le1' S1 r1 => ?_))
  exact call_lenD hi S1 r1 fun t tk => k _ Φ1 h1 tk le1 I1 (.int _ _)
/-! the methods of built-in values -/
theorem callOk_of {apos pos : Pos} {args : List Expr} (e : callOk apos pos args = true) : (apos.endLine == pos.line) = true ∧ args.length < 29 := by
  unfold callOk at e
  rw [Bool.and_eq_true] at e
  exact ⟨e.1, Nat.le_of_ble_eq_true e.2⟩
theorem form_of {pos : Pos} {args : List Expr} (hp : args.all plainExpr = true) (hl : args.length < 29) :
    ((backTo pos (starEach args pe)).all (fun x => !x.1) && (backToKw pos (keywordEach [] pe)).all (fun x => x.1.isSome) && decide (args.length + ([] : List Keyword).length + (if ([] : List Keyword).isEmpty then 0 else 1) < 30)) = true := by
  rw [Bool.and_eq_true, Bool.and_eq_true]
  refine ⟨⟨?_, rfl⟩, ?_⟩
  · rw [backTo_all hp, List.all_map]
    exact List.all_eq_true.mpr fun x zz=> rfl
  · simp; omega
theorem meth_blt {recv : Expr} {m : Str} {apos pos : Pos} {args : List Expr} {T id : String} {Q : Value → Shared → Prop} {E : Value → Shared → Prop} (hb : plainBase recv = true) (hc : callOk apos pos args = true) (hp : args.all plainExpr = true)
    (pa : PlainAttrs T) (slot : PySem.Slot T m id) (hty : typeOf (.builtin id) = pure (.type "method_descriptor"))
    (h : wpAny (model prog w) A (eval recv pe) (fun ov s₁ => s₁.TypeIs ov T ∧ (∀ a, ov = .ref a → ∃ ob, s₁.heap.get? a = some ob ∧ ob.dict = none) ∧
      wpAny (model prog w) A (spliced (backTo pos (starEach args pe))) (fun vs s₂ => wpAny (model prog w) A (call (.builtin id) (ov :: vs)) Q E s₂) E s₁) E s) :
    wpAny (model prog w) A (eval (.Call (.Attribute recv m apos) args [] pos) pe) Q E s := by
  obtain ⟨h1, h2⟩ := callOk_of hc
  refine wpAny_Call_method (attributeBase_plain hb) (form_of hp h2) h1 pa slot hty (wpAny_mono h (fun ov s₁ ⟨a, b, c⟩ => ⟨a, b, ?_⟩) fun zz zz x=> x)
  exact Calls.callWith_builtin (any_star hp) (evalArgs_all (any_star hp) c)

theorem nm_get : n_get = ("get" : Str) := by decide +kernel
theorem nm_join : n_join = ("join" : Str) := by decide +kernel
theorem nm_encode : n_encode = ("encode" : Str) := by decide +kernel
theorem nm_index : n_index = ("index" : Str) := by decide +kernel
theorem nm_append : n_append = ("append" : Str) := by decide +kernel
theorem nm_pop : n_pop = ("pop" : Str) := by decide +kernel
theorem nm_extend : n_extend = ("extend" : Str) := by decide +kernel

theorem dictOf_exact {T : Type} [DecidableEq T] {knd : PySem.KeyKind prog w T} {ob : Obj} {kvs : List (T × Value)} (y : ob.IsDictOf knd kvs) : ob.dict = none := by
  obtain ⟨_, _, ⟨_, hd, _⟩, _⟩ := y
  exact hd
theorem repO_dict {ob : Obj} {l : List (D × D)} (q : RepO prog w Φ ob l) : ob.dict = none := by
  cases q with
  | ik y _ => exact dictOf_exact y
  | sk y _ => exact dictOf_exact y
  | bk y _ => exact dictOf_exact y

theorem recv_dict {v : Value} {l : List (D × D)} (ph : ∀ a o, Φ a o → s.heap.get? a = some o) (r : Rep prog w Φ v (.dict l)) : s.TypeIs v "dict" ∧ ∀ a, v = .ref a → ∃ ob, s.heap.get? a = some ob ∧ ob.dict = none := by
  obtain ⟨a, o, rfl, p, _, q⟩ := r.dict_inv
  exact ⟨⟨_, ph _ _ p, q.cls⟩, fun a e => by injection e with e; exact e ▸ ⟨_, ph _ _ p, repO_dict q⟩⟩
theorem recv_list {v : Value} {l : List D} (ph : ∀ a o, Φ a o → s.heap.get? a = some o) (r : Rep prog w Φ v (.list l)) : s.TypeIs v "list" ∧ ∀ a, v = .ref a → ∃ ob, s.heap.get? a = some ob ∧ ob.dict = none := by
  obtain ⟨a, vs, n, rfl, p, _⟩ := r.list_inv
  exact ⟨⟨_, ph _ _ p, rfl⟩, fun a e => by injection e with e; exact e ▸ ⟨_, ph _ _ p, rfl⟩⟩
theorem recv_str {v : Value} {x : Str} (r : Rep prog w Φ v (.str x)) : s.TypeIs v "str" ∧ ∀ a, v = .ref a → ∃ ob, s.heap.get? a = some ob ∧ ob.dict = none := by
  obtain ⟨t, rfl⟩ := r.str_inv
  exact ⟨rfl, fun a e => nomatch e⟩
theorem call_get1 {l : List (D × D)} {kd : D} {r : Option D} {v u : Value} (e : dget l kd = some r) (rv : Rep prog w Φ v (.dict l)) (ru : Rep prog w Φ u kd) {Q : Value → Shared → Prop} {E : Value → Shared → Prop} (I : Inv prog w h₀ Ψ Φ s.heap pe V env)
    (k : OkE prog w h₀ Ψ Φ s pe V env (r.getD .none) Q) : wpAny (model prog w) A (call (.builtin "dict.get") [v, u]) Q E s := by
  obtain ⟨a, o, rfl, p, ne, q⟩ := rv.dict_inv
  obtain ⟨T, _, knd, kk, kvs, X⟩ := keyAt_of q ru (dget_fits e)
  have hd := dictOf_at I.sat p X.dict
  refine call_meetsIn PySem.F.slot_dict_get hd.typeIs PySem.F.entry_dict_get (PySem.F.args_dict_get_2 _ _) (meets_dict_get knd _ X.is (beq_eq_false_iff_ne.mpr ne)) ⟨_, hd.mapOf, ?_⟩
  have := X.get _ e
  cases r with
  | none => rw [this]; exact k _ Φ s.heap _ (Le.refl _) I .none
  | some d =>
    obtain ⟨v', hv, rv⟩ := this
    rw [hv]; exact k _ Φ s.heap _ (Le.refl _) I rv
theorem call_get2 {l : List (D × D)} {kd df : D} {r : Option D} {v u x : Value} (e : dget l kd = some r) (rv : Rep prog w Φ v (.dict l)) (ru : Rep prog w Φ u kd) (rx : Rep prog w Φ x df) {Q : Value → Shared → Prop} {E : Value → Shared → Prop} (I : Inv prog w h₀ Ψ Φ s.heap pe V env)
    (k : OkE prog w h₀ Ψ Φ s pe V env (r.getD df) Q) : wpAny (model prog w) A (call (.builtin "dict.get") [v, u, x]) Q E s := by
  obtain ⟨a, o, rfl, p, ne, q⟩ := rv.dict_inv
  obtain ⟨T, _, knd, kk, kvs, X⟩ := keyAt_of q ru (dget_fits e)
  have hd := dictOf_at I.sat p X.dict
  refine call_meetsIn PySem.F.slot_dict_get hd.typeIs PySem.F.entry_dict_get (PySem.F.args_dict_get_3 _ _ _) (meets_dict_get_default knd _ X.is (beq_eq_false_iff_ne.mpr ne) _) ⟨_, hd.mapOf, ?_⟩
  have := X.get _ e
  cases r with
  | none => rw [this]; exact k _ Φ s.heap _ (Le.refl _) I rx
  | some d =>
    obtain ⟨v', hv, rv⟩ := this
    rw [hv]; exact k _ Φ s.heap _ (Le.refl _) I rv
theorem join_strs (sep : Str) : ∀ {l : List D} {t : Str}, joinL sep l = some t → ∀ {vs : List Value}, Reps prog w Φ vs l → ∃ ys : List Str, StrsAre vs ys ∧ Txt.join sep ys = t ∧ lenSum l = (ys.map (·.length)).sum ∧ ys.length = l.length := by
  intro l t e vs r
  suffices h : ∃ ys : List Str, StrsAre vs ys ∧ Str.join sep ys = t ∧ lenSum l = (ys.map (·.length)).sum ∧ ys.length = l.length by
    obtain ⟨ys, a, b, c⟩ := h
    exact ⟨ys, a, (show Builtin.Str.glued sep ys = t from (StrLaws.glued_eq_join sep ys).trans b), c⟩
  induction l generalizing t vs with
  | nil =>
    rw [r.nil_inv, ← s1 e]
    exact ⟨[], .nil, rfl, rfl, rfl⟩
  | cons d l ih =>
    refine bo1 e fun x hx e => ?_
    rw [asStr_some hx] at r ⊢
    obtain ⟨v, us, rfl, r1, r2⟩ := r.cons_inv
    obtain ⟨tk, rfl⟩ := r1.str_inv
    refine bie e (fun hn e => ?_) (fun hn e => bo1 e fun t' ht e => ?_)
    · obtain rfl := List.isEmpty_iff.mp hn
      rw [r2.nil_inv, ← s1 e]
      exact ⟨[_], .cons _ _ .nil, rfl, by simp [lenSum], rfl⟩
    · obtain ⟨ys, a, b, c, c2⟩ := ih ht r2
      rw [← s1 e]
      refine ⟨x :: ys, .cons _ _ a, ?_, ?_, by simp [c2]⟩
      · cases ys with
        | nil =>
          rw [List.length_eq_zero_iff.mp c2.symm] at hn
          exact absurd hn.symm Bool.false_ne_true
        | cons y ys => rw [Str.join, b]; exact fun e => nomatch e
      · rw [List.map_cons, List.sum_cons, ← c]; rfl
theorem call_joinD {l : List D} {x t : Str} {tk : Tok} {v : Value} (hf : joinFits x l = true) (e : joinL x l = some t) (rv : Rep prog w Φ v (.list l)) {Q : Value → Shared → Prop} {E : Value → Shared → Prop} (I : Inv prog w h₀ Ψ Φ s.heap pe V env)
    (k : OkE prog w h₀ Ψ Φ s pe V env (.str t) Q) : wpAny (model prog w) A (call (.builtin "str.join") [.str x tk, v]) Q E s := by
  obtain ⟨a', vs, n, rfl, p, q⟩ := rv.list_inv
  obtain ⟨ys, a, b, c, c2⟩ := join_strs x e q
  have hb := Nat.le_of_ble_eq_true hf
  refine join_list (rep_isList (I.phi _ _ p)) (by simpa using a) ?_ fun t' tk' => ?_
  · rw [← c, c2]; omega
  · rw [b]; exact k _ Φ s.heap _ (Le.refl _) I (.str _ _)
theorem enc_rows {P : Str → List UInt8 → Prop} (h1 : P ⟨#[97]⟩ [97]) (h2 : P ⟨#[97, 98]⟩ [97, 98]) (h3 : P ⟨#[98]⟩ [98]) (h4 : P ⟨#[90]⟩ [90]) {x : Str} {b : List UInt8} (e : lookS encTab x = some b) : P x b :=
  bie e (fun q e => seq_iff.mp q ▸ s1 e ▸ h1) fun zz e=> bie e (fun q e => seq_iff.mp q ▸ s1 e ▸ h2) fun zz e=> bie e (fun q e => seq_iff.mp q ▸ s1 e ▸ h3) fun zz e=> bie e (fun q e => seq_iff.mp q ▸ s1 e ▸ h4) fun zz e=> (ns e).elim
theorem enc_tab {x : Str} {b : List UInt8} (e : lookS encTab x = some b) (t u : Tok) : Builtin.«str.encode» ⟨[.str x t, .str n_ascii u], []⟩ = (do ret (← mkBytes b.toArray)) :=
  enc_rows (P := fun x b => Builtin.«str.encode» ⟨[.str x t, .str n_ascii u], []⟩ = (do ret (← mkBytes b.toArray))) (by kernel_rfl) (by kernel_rfl) (by kernel_rfl) (by kernel_rfl) e
theorem enc_small {x : Str} {b : List UInt8} (e : lookS encTab x = some b) : b.length ≤ 2 :=
  enc_rows (P := fun zz b=> b.length ≤ 2) (by decide) (by decide) (by decide) (by decide) e
theorem call_encodeD {x : Str} {b : List UInt8} {t u : Tok} (e : lookS encTab x = some b) {Q : Value → Shared → Prop} {E : Value → Shared → Prop} (I : Inv prog w h₀ Ψ Φ s.heap pe V env) (k : OkE prog w h₀ Ψ Φ s pe V env (.bytes b) Q) :
    wpAny (model prog w) A (call (.builtin "str.encode") [.str x t, .str n_ascii u]) Q E s :=
  call_gives (m := .bytes b.toArray) PySem.F.slot_str_encode (typeIs_str _ _ _) PySem.F.entry_str_encode (PySem.F.args_str_encode_2 _ _) (.of_eq (enc_tab e t u)) ⟨by have := enc_small e; show b.toArray.size ≤ sizeLine; rw [List.size_toArray, sizeLine_eq]; omega, k _ Φ s.heap _ (Le.refl _) I (.bytes _ _)⟩

open Classical in
theorem index_tests {vs : List Value} {l : List D} {x : D} {u : Value} {c : Bool} (S : Sat Φ s.heap) (r : Reps prog w Φ vs l) (rx : Rep prog w Φ u x) (e : inL x l = some c) (hu : A.units + 61 < cLine) :
    ∃ f : Value → Bool, (∀ y, y ∈ vs.toArray → EqAt A.in1 s y u (f y)) ∧ ∀ (m : Nat) (d : D), l[m]? = some d → ∃ y, vs[m]? = some y ∧ eqD 60 d x = some (f y) := by
  obtain ⟨h1, h2⟩ := inL_some e
  obtain ⟨m1, m2⟩ := r.mem
  have val : ∀ y d, d ∈ l → Rep prog w Φ y d → ∀ p, eqD 60 d x = some p → decide (∃ d ∈ l, Rep prog w Φ y d ∧ eqD 60 d x = some true) = p := fun y d hd q p hp => by
    cases p with
    | true => exact decide_eq_true ⟨d, hd, q, hp⟩
    | false =>
      refine decide_eq_false fun ⟨d', _, q', hp'⟩ => ?_
      have := eq_agree S.fn 60 q q' hp hp'
      cases this
  refine ⟨fun y => decide (∃ d ∈ l, Rep prog w Φ y d ∧ eqD 60 d x = some true), fun y hy => ?_, fun m d hd => ?_⟩
  · have hy : y ∈ vs := by simpa using hy
    obtain ⟨d, hd, q⟩ := m1 y hy
    obtain ⟨p, hp⟩ := h1 d hd
    have E := (rep_eq S.fn S.at_ 60 (A := A.in1) hp q rx (by rw [units_in1]; omega)).2
    show EqAt A.in1 s y u (decide (∃ d ∈ l, Rep prog w Φ y d ∧ eqD 60 d x = some true))
    rw [val y d hd q p hp]; exact E
  · obtain ⟨y, hy, q⟩ := r.get hd
    have hm := List.mem_of_getElem? hd
    obtain ⟨p, hp⟩ := h1 d hm
    exact ⟨y, hy, hp.trans (congrArg some (val y d hm q p hp).symm)⟩
theorem indexL_at {x : D} : ∀ {l : List D} {i : Int} {r : D}, indexL x l i = some r → ∃ j, j < l.length ∧ r = .int (i + (j : Int)) ∧ (∀ d, l[j]? = some d → eqD 60 d x = some true) ∧ ∀ m, m < j → ∀ d, l[m]? = some d → eqD 60 d x = some false
  | [], i, r, e => (ns e).elim
  | y :: l, i, r, e => by
    refine bo1 e fun b h e => ?_
    cases b with
    | true => exact ⟨0, Nat.succ_pos _, (s1 e).symm.trans (by simp), fun d hd => s1 hd ▸ h, fun m hm => absurd hm (Nat.not_lt_zero _)⟩
    | false =>
      obtain ⟨j, a, b, c, c2⟩ := indexL_at e
      refine ⟨j + 1, Nat.succ_lt_succ a, by rw [b]; congr 1; push_cast; omega, fun d hd => c d hd, fun m hm d hd => ?_⟩
      cases m with
      | zero => exact s1 hd ▸ h
      | succ m => exact c2 m (Nat.lt_of_succ_lt_succ hm) d hd
theorem call_indexD {l : List D} {x r : D} {v u : Value} (hf : fitN l.length = true) (ei : inL x l = some true) (e : indexL x l 0 = some r) (rv : Rep prog w Φ v (.list l)) (ru : Rep prog w Φ u x) {Q : Value → Shared → Prop} {E : Value → Shared → Prop} (I : Inv prog w h₀ Ψ Φ s.heap pe V env) (hu : A.units + 61 < cLine)
    (k : OkE prog w h₀ Ψ Φ s pe V env r Q) : wpAny (model prog w) A (call (.builtin "list.index") [v, u]) Q E s := by
  obtain ⟨a, vs, m, rfl, p, q⟩ := rv.list_inv
  obtain ⟨f, f1, f2⟩ := index_tests (A := A) I.sat q ru ei hu
  obtain ⟨j, j1, j2, j3, j4⟩ := indexL_at e
  have hle := fitN_le hf
  have hj : j < vs.toArray.size := by rw [List.size_toArray, q.length]; exact j1
  have val : ∀ (m : Nat) (hm : m < vs.toArray.size) (b : Bool), (∀ d, l[m]? = some d → eqD 60 d x = some b) → f vs.toArray[m] = b := fun m hm b hb => by
    have hm' : m < l.length := by rw [← q.length]; simpa using hm
    obtain ⟨y, hy, ey⟩ := f2 m _ (List.getElem?_eq_getElem hm')
    have e2 : vs.toArray[m] = y := by
      have := List.getElem?_eq_getElem (l := vs) (i := m) (by simpa using hm)
      rw [this] at hy
      exact s1 hy
    rw [e2]; exact s1 (ey.symm.trans (hb _ (List.getElem?_eq_getElem hm')))
  refine call_meets PySem.F.slot_list_index ⟨_, I.phi _ _ p, rfl⟩ PySem.F.entry_list_index (PySem.F.args_list_index_2 _ _) (list_indexAt a vs.toArray m none #[] u f j hj (by omega) (val j hj true j3) (fun m' hm' hlt => val m' hm' false fun d hd => j4 m' hlt d hd)) ⟨I.phi _ _ p, f1, ?_⟩
  obtain rfl : r = .int (j : Int) := by rw [j2]; congr 1; omega
  exact k _ Φ s.heap _ (Le.refl _) I (.int _ _)
section
variable {recv : Expr} {apos pos : Pos} {args : List Expr} {d' : D} {ds : List D} {env1 env2 : MEnv} {Q : Value → Shared → Prop}
/-- a method of a built-in value, when its receiver's type is known -/
theorem snd_meth {d : D} {T id : String} {m N : Str} (hE : SndE prog w h₀ o n) (hL : SndL prog w h₀ o n) (hQ : SndQ o) (hb : plainBase recv = true) (hc : callOk apos pos args = true) (hm : seq m N = true) (pa : PlainAttrs T) (slot : PySem.Slot T N id) (hty : typeOf (.builtin id) = pure (.type "method_descriptor"))
    (rc : ∀ {Φ : Facts} {s : Shared} {v : Value}, (∀ a o, Φ a o → s.heap.get? a = some o) → Rep prog w Φ v d → s.TypeIs v T ∧ ∀ a, v = .ref a → ∃ ob, s.heap.get? a = some ob ∧ ob.dict = none)
    (e1 : o.E env recv = some (d, env1)) (e2 : o.L env1 args = some (ds, env2)) (I : Inv prog w h₀ Ψ Φ s.heap pe V env) (R : Room n A)
    (kk : ∀ {Φ2 : Facts} {h2 : Heap} {t2 : Nat} {v : Value} {vs : List Value}, Le Φ Φ2 → Inv prog w h₀ Ψ Φ2 h2 pe V env2 → Rep prog w Φ2 v d → Reps prog w Φ2 vs ds → wpAny (model prog w) A (call (.builtin id) (v :: vs)) Q NoE { s with heap := h2, toks := t2 }) :
    wpAny (model prog w) A (eval (.Call (.Attribute recv m apos) args [] pos) pe) Q NoE s := by
  obtain rfl := seq_iff.mp hm
  refine meth_blt hb hc (hQ _ _ _ e2) pa slot hty (hE _ _ _ _ e1 _ _ _ _ _ _ _ I R fun v Φ1 h1 t1 le1 I1 r1 => ?_)
  obtain ⟨a, b⟩ := rc (s := { s with heap := h1, toks := t1 }) I1.phi r1
  exact ⟨a, b, hL _ _ _ _ e2 _ _ _ _ _ _ _ _ I1 R fun vs Φ2 h2 t2 le2 I2 r2 => kk (le1.trans le2) I2 (r1.mono le2) r2⟩
theorem call_getD {l : List (D × D)} {v : Value} {vs : List Value} (e : getD2 l ds = some d') (rv : Rep prog w Φ v (.dict l)) (r : Reps prog w Φ vs ds) (I : Inv prog w h₀ Ψ Φ s.heap pe V env) (k : OkE prog w h₀ Ψ Φ s pe V env d' Q) : wpAny (model prog w) A (call (.builtin "dict.get") (v :: vs)) Q NoE s := by
  unfold getD2 at e
  split at e
  · refine bo1 e fun x hx e => ?_
    obtain ⟨u, rfl, ru⟩ := r.one_inv
    exact call_get1 hx rv ru I (s1 e ▸ k)
  · refine bo1 e fun x hx e => ?_
    obtain ⟨u, u', rfl, ru, ru'⟩ := r.two_inv
    exact call_get2 hx rv ru ru' I (s1 e ▸ k)
  · exact (ns e).elim
theorem snd_methD (hE : SndE prog w h₀ o n) (hL : SndL prog w h₀ o n) (hQ : SndQ o) {m : Str} {d : D} (hb : plainBase recv = true) (hc : callOk apos pos args = true)
    (e1 : o.E env recv = some (d, env1)) (e2 : o.L env1 args = some (ds, env2)) (e3 : methD d m ds = some d') (I : Inv prog w h₀ Ψ Φ s.heap pe V env) (R : Room n A) (k : OkE prog w h₀ Ψ Φ s pe V env2 d' Q) :
    wpAny (model prog w) A (eval (.Call (.Attribute recv m apos) args [] pos) pe) Q NoE s := by
  cases d with
  | dict l =>
    refine bi e3 fun q e3 => ?_
    exact snd_meth hE hL hQ hb hc q PySem.F.plainAttrs_dict (id := "dict.get") (nm_get ▸ PySem.F.slot_dict_get) PySem.F.type_dict_get recv_dict e1 e2 I R fun le I2 rv r2 => call_getD e3 rv r2 I2 (OkE.later k le)
  | str x =>
    refine bie e3 (fun q e3 => bo1 e3 fun d1 h1 e3 => bo1 e3 fun l hl e3 => bi e3 fun hf e3 => bo1 e3 fun t ht e3 => ?_) (fun zz e3=> bi e3 fun q e3 => bo1 e3 fun d1 h1 e3 => bo1 e3 fun a ha e3 => bi e3 fun hq e3 => bo1 e3 fun b hb' e3 => ?_)
    · refine snd_meth hE hL hQ hb hc q PySem.F.plainAttrs_str (id := "str.join") (nm_join ▸ PySem.F.slot_str_join) PySem.F.type_str_join (fun zz=> recv_str) e1 e2 I R fun le I2 rv r2 => ?_
      rw [oneOf_some h1, asList_some hl] at r2
      obtain ⟨tk, rfl⟩ := rv.str_inv
      obtain ⟨u, rfl, ru⟩ := r2.one_inv
      exact call_joinD hf ht ru I2 (s1 e3 ▸ OkE.later k le)
    · refine snd_meth hE hL hQ hb hc q PySem.F.plainAttrs_str (id := "str.encode") (nm_encode ▸ PySem.F.slot_str_encode) PySem.F.type_str_encode (fun zz=> recv_str) e1 e2 I R fun le I2 rv r2 => ?_
      rw [oneOf_some h1, asStr_some ha, seq_iff.mp hq] at r2
      obtain ⟨tk, rfl⟩ := rv.str_inv
      obtain ⟨u, rfl, ru⟩ := r2.one_inv
      obtain ⟨tu, rfl⟩ := ru.str_inv
      exact call_encodeD hb' I2 (s1 e3 ▸ OkE.later k le)
  | list l =>
    refine bi e3 fun q e3 => band q fun q hf => bo1 e3 fun x hx e3 => bo1 e3 fun b hi e3 => bi e3 fun ht e3 => ?_
    refine snd_meth hE hL hQ hb hc q PySem.F.plainAttrs_list (id := "list.index") (nm_index ▸ PySem.F.slot_list_index) PySem.F.type_list_index recv_list e1 e2 I R fun le I2 rv r2 => ?_
    rw [oneOf_some hx] at r2
    obtain ⟨u, rfl, ru⟩ := r2.one_inv
    exact call_indexD hf (ht ▸ hi) e3 rv ru I2 R.line (OkE.later k le)
  | _ => exact (ns e3).elim
end
end
end Mine

set_option Elab.async false
set_option maxRecDepth 100000
namespace Mine
open PySem PySem.W PyProof.Rows PySem.Calls PySem.SeqAt
section
variable {prog : Program} {w : World} {h₀ : Base} {h h' : Heap} {K : Frag} {g : Gt} {o : Orc} {n : Nat} {Ψ Φ Φ' : Facts} {pe : PySem.Env} {V : Str → Option Value} {env : MEnv} {A : Around} {s : Shared}
theorem own_recv {v : Value} {l : List D} (r : Own prog w Φ s.heap v (.list l)) : s.TypeIs v "list" ∧ ∀ a, v = .ref a → ∃ ob, s.heap.get? a = some ob ∧ ob.dict = none := by
  obtain ⟨a, vs, n, rfl, p, _⟩ := r.list_inv
  exact ⟨⟨_, p, rfl⟩, fun a e => by injection e with e; exact e ▸ ⟨_, p, rfl⟩⟩
theorem call_append {l : Addr} {vs : List Value} {m : Nat} {x : Value} {Q : Value → Shared → Prop} {E : Value → Shared → Prop} (hl : s.heap.get? l = some (lstObj vs m)) (hsz : vs.length ≤ sizeLine)
    (hQ : Q .none { s with heap := s.heap.update l (Obj.mapSeq (·.push x)) }) : wpAny (model prog w) A (call (.builtin "list.append") [.ref l, x]) Q E s := by
  refine wpAny_call_entry slot_list_append (isList_of hl).typeIs entry_list_append ?_ (args_list_append _ _)
  show wpAny _ _ (updateSeq l (·.push x) >>= fun zz=> ret .none) _ _ s
  exact wpAny_bind (wpAny_updateSeq hl rfl (wpAny_pure ⟨.none, rfl, hQ⟩) (hz := by rw [List.size_toArray]; exact hsz))
theorem getLast_at {l : List D} {d : D} (e : l.getLast? = some d) : l = l.dropLast ++ [d] := by
  obtain ⟨ys, rfl⟩ := List.getLast?_eq_some_iff.mp e
  simp
theorem reps_split {l k : List D} {vs : List Value} (r : Reps prog w Φ vs (l ++ k)) : ∃ us ts, vs = us ++ ts ∧ Reps prog w Φ us l ∧ Reps prog w Φ ts k := by
  induction l generalizing vs with
  | nil => exact ⟨[], vs, rfl, .nil, r⟩
  | cons d l ih =>
    obtain ⟨v, us, rfl, h, r⟩ := Reps.cons_inv (l := l ++ k) r
    obtain ⟨us, ts, rfl, a, b⟩ := ih r
    exact ⟨_ :: us, ts, rfl, .cons h a, b⟩
theorem ownList_some {x : Str} {l : List D} (e : ownList env x = some l) : env.isVar x = true ∧ getv env.vars x = some (.own (.list l)) :=
  bo1 e fun d ho e => asList_some e ▸ own?_of ho
section
variable {x m : Str} {p apos pos : Pos} {args : List Expr} {d' : D} {env' : MEnv} {Q : Value → Shared → Prop} {v : Value} {l0 : List D}
theorem own_meth {N : Str} {id : String} (hc : callOk apos pos args = true) (hp : args.all plainExpr = true) (hm : seq m N = true) (slot : PySem.Slot "list" N id) (hty : typeOf (.builtin id) = pure (.type "method_descriptor")) (I : Inv prog w h₀ Ψ Φ s.heap pe V env) (hx : env.isVar x = true) (hv : V x = some v) (ro : Own prog w Φ s.heap v (.list l0))
    (k : wpAny (model prog w) A (spliced (backTo pos (starEach args pe))) (fun vs s₂ => wpAny (model prog w) A (call (.builtin id) (v :: vs)) Q NoE s₂) NoE s) : wpAny (model prog w) A (eval (.Call (.Attribute (.Name x p) m apos) args [] pos) pe) Q NoE s := by
  obtain rfl := seq_iff.mp hm
  obtain ⟨a, b⟩ := own_recv ro
  exact meth_blt rfl hc hp PySem.F.plainAttrs_list (id := id) slot hty (name_var I hx hv ⟨a, b, k⟩)
theorem own_now (I : Inv prog w h₀ Ψ Φ h pe V env) {l1 : List D} (ho : ownList env x = some l1) (hv : V x = some v) : env.isVar x = true ∧ getv env.vars x = some (.own (.list l1)) ∧ ∃ L us mm, v = .ref L ∧ h.get? L = some (lstObj us mm) ∧ Reps prog w Φ us l1 := by
  obtain ⟨hx1, hd1⟩ := ownList_some ho
  obtain ⟨v1, hv1, ro1, _⟩ := I.own x _ hx1 hd1
  exact ⟨hx1, hd1, (s1 (hv.symm.trans hv1) ▸ ro1).listAt⟩
theorem snd_callOwn (hL : SndL prog w h₀ o n) (hQ : SndQ o) (hc : callOk apos pos args = true) (hown : ownList env x = some l0)
    (e : callOwn o env x m args = some (d', env')) (I : Inv prog w h₀ Ψ Φ s.heap pe V env) (R : Room n A) (k : OkE prog w h₀ Ψ Φ s pe V env' d' Q) :
    wpAny (model prog w) A (eval (.Call (.Attribute (.Name x p) m apos) args [] pos) pe) Q NoE s := by
  obtain ⟨hx, hd⟩ := ownList_some hown
  obtain ⟨v, hv, ro, _⟩ := I.own x _ hx hd
  refine bie e (fun q e => bo2 e fun ds env1 hl e => bo1 e fun d h1 e => bo1 e fun l1 ho1 e => bi e fun hf e => ?_) fun zz e=> bie e (fun q e => bi e fun hn e => bo1 e fun l1 ho1 e => bi e fun hf e => bo1 e fun d hd' e => ?_) fun zz e=> bi e fun q e => bo2 e fun ds env1 hl e => bo1 e fun d h1 e => bo1 e fun l2 h2 e => bo1 e fun l1 ho1 e => bi e fun hf e => ?_
  · have k := okE_eq e k
    refine own_meth hc (hQ _ _ _ hl) q (id := "list.append") (nm_append ▸ slot_list_append) PySem.F.type_list_append I hx hv ro (hL _ _ _ _ hl _ _ _ _ _ _ _ _ I R fun vs Φ2 h2 t2 le2 I2 r2 => ?_)
    rw [oneOf_some h1] at r2
    obtain ⟨u, rfl, r3⟩ := r2.one_inv
    obtain ⟨hx1, hd1, L, us, mm, rfl, gl, ru⟩ := own_now I2 ho1 hv
    refine call_append gl (by rw [ru.length]; exact fit_line hf) ?_
    exact k _ Φ2 _ t2 le2 (I2.rewriteList hx1 hd1 hv gl (us := us ++ [_]) (by simp) (ru.append (.cons r3 .nil))) .none
  · have k := okE_eq e k
    obtain rfl := List.isEmpty_iff.mp hn
    refine own_meth hc rfl q (id := "list.pop") (nm_pop ▸ PySem.F.slot_list_pop) PySem.F.type_list_pop I hx hv ro (wpAny_items_nil ?_)
    obtain ⟨hx1, hd1, L, us, mm, rfl, gl, ru⟩ := own_now I ho1 hv
    have hle := fitN_le hf
    have e0 := getLast_at hd'
    rw [e0] at ru
    obtain ⟨us, ts, rfl, r1, r2⟩ := reps_split ru
    obtain ⟨y, rfl, r3⟩ := r2.one_inv
    have hlen : us.length + 1 = l1.length := by have := congrArg List.length e0; rw [List.length_append, List.length_singleton] at this; rw [r1.length]; omega
    have hy : (us ++ [y]).toArray[(us ++ [y]).toArray.size - 1]? = some y := by simp
    refine call_meets PySem.F.slot_list_pop ⟨_, gl, rfl⟩ PySem.F.entry_list_pop (PySem.F.args_list_pop_1 _) (MeetsSeq.list_pop_last L (us ++ [y]).toArray mm y hy (by simp only [List.size_toArray, List.length_append, List.length_singleton]; rw [sizeLine_eq]; omega)) ⟨gl, ?_⟩
    exact k _ Φ _ s.toks (Le.refl _) (I.rewriteList hx1 hd1 hv gl (us := us) (by simp [Array.eraseIdxIfInBounds, List.eraseIdx_append_of_length_le]) r1) r3
  · have k := okE_eq e k
    refine own_meth hc (hQ _ _ _ hl) q (id := "list.extend") (nm_extend ▸ PySem.F.slot_list_extend) PySem.F.type_list_extend I hx hv ro (hL _ _ _ _ hl _ _ _ _ _ _ _ _ I R fun vs Φ2 h3 t2 le2 I2 r2 => ?_)
    rw [oneOf_some h1, asList_some h2] at r2
    obtain ⟨u, rfl, r3⟩ := r2.one_inv
    obtain ⟨b2, ws, m2, rfl, p, q⟩ := r3.list_inv
    obtain ⟨hx1, hd1, L, us, mm, rfl, gl, ru⟩ := own_now I2 ho1 hv
    have hle := fitN_le hf
    have g2 := I2.phi _ _ p
    have l1 := ru.length
    have l2 := q.length
    refine call_meets PySem.F.slot_list_extend ⟨_, gl, rfl⟩ PySem.F.entry_list_extend (PySem.F.args_list_extend_2 _ _) (AutoSeq1.list_extend_list_list_0 L us.toArray mm b2 ws.toArray m2 ?_ (by rw [List.size_toArray, sizeLine_eq]; omega) (by rw [List.size_toArray, List.size_toArray, sizeLine_eq]; omega)) ⟨gl, g2, ?_⟩
    · rw [Bool.and_eq_true]
      rintro ⟨_, c⟩
      unfold Builtin.List.listTooLong at c
      rw [List.size_toArray, List.size_toArray] at c
      simp only [decide_eq_true_eq] at c
      rw [sizeLine_eq] at c
      omega
    · exact k _ Φ2 _ t2 le2 (I2.rewriteList hx1 hd1 hv gl (us := us ++ ws) (by simp) (ru.append q)) .none
end
end
end Mine

set_option Elab.async false
set_option maxRecDepth 100000
namespace Mine
open PySem PySem.W PyProof.Rows PySem.Calls

/-! the names of a function's block -/
noncomputable def fnKind : NameKind → Bool
  | .local => true
  | .cell => true
  | .globalImplicit => true
  | _ => false
noncomputable def fnNames : List (Str × NameKind) → Bool
  | [] => true
  | (x, k) :: r => if fnKind k && nameOk x && (kindL r x).isNone then fnNames r else false
noncomputable def memStr (x : Str) : List Str → Bool
  | [] => false
  | y :: r => if seq y x then true else memStr x r
noncomputable def parOk (names : List (Str × NameKind)) : List Str → Bool
  | [] => true
  | x :: r => (match kindL names x with
    | some .local => true
    | some .cell => true
    | _ => false) && !(memStr x r) && parOk names r

theorem fnNames_each {x : Str} {k : NameKind} : ∀ {names : List (Str × NameKind)}, fnNames names = true → (x, k) ∈ names → fnKind k = true ∧ nameOk x = true
  | [], _, h => nomatch h
  | (y, j) :: r, e, h => by
    obtain ⟨c, e⟩ := ite_true_and e
    refine band c fun c zz=> ?_
    rcases List.mem_cons.mp h with z | h
    · injection z with z1 z2
      subst z1 z2; exact Bool.and_eq_true_iff.mp c
    · exact fnNames_each e h
set_option tactic.hygienic true in
theorem fn_cell {x : Str} : ∀ {names : List (Str × NameKind)} {n : Nat} {acc : List (Str × Addr)}, ((x, NameKind.cell) ∈ names ∨ (acc.lookup x).isSome = true) → ((cellsFrom n names acc).lookup x).isSome = true
  | [], n, acc, h => by
    rcases h with h | h
    · cases h
    · exact h
  | (y, k) :: r, n, acc, h => by
    unfold cellsFrom
    split
    · rename_i hk
      refine fn_cell ?_
      rcases h with h | h
      · rcases List.mem_cons.mp h with z | h
        · cases z; exact .inr (by rw [List.lookup_cons, beq_self_eq_true]; rfl)
        · exact .inl h
      · refine .inr ?_
        rw [List.lookup_cons]
        cases (x == y) <;> simp [h]
    · rename_i hk
      refine fn_cell ?_
      rcases h with h | h
      · rcases List.mem_cons.mp h with z | h
        · cases z; exact absurd rfl hk
        · exact .inl h
      · exact .inr h
set_option tactic.hygienic true in
theorem memStr_false {x : Str} : ∀ {l : List Str}, memStr x l = false → x ∉ l
  | [], _, h => nomatch h
  | y :: r, e, h => by
    unfold memStr at e
    split at e
    · exact absurd e.symm Bool.false_ne_true
    · rename_i q
      rcases List.mem_cons.mp h with z | h
      · exact q (z ▸ seq_refl _)
      · exact memStr_false e h
section
variable {kindOf : Str → Option NameKind}
theorem bindL_skip {x : Str} : ∀ {binds : List (Str × Value)} {m : Str → Option Value}, (∀ p ∈ binds, p.1 ≠ x) → bindL kindOf binds m x = m x
  | [], _, _ => rfl
  | (y, v) :: r, m, h => by
    unfold bindL
    rw [bindL_skip fun p hp => h p (.tail _ hp)]
    split
    · have := h _ (.head _)
      exact if_neg fun e => this e.symm
    · rfl
theorem bindC_skip {x : Str} : ∀ {binds : List (Str × Value)} {m : Str → Option Value}, (∀ p ∈ binds, p.1 ≠ x) → bindC kindOf binds m x = m x
  | [], _, _ => rfl
  | (y, v) :: r, m, h => by
    unfold bindC
    rw [bindC_skip fun p hp => h p (.tail _ hp)]
    split
    · rfl
    · have := h _ (.head _)
      exact if_neg fun e => this e.symm
/-- the values go to the parameters -/
inductive SlotsV (P : Value → Slot → Prop) : List Value → List Slot → Prop
  | nil : SlotsV P [] []
  | cons {v : Value} {s : Slot} {vs : List Value} {ss : List Slot} : P v s → SlotsV P vs ss → SlotsV P (v :: vs) (s :: ss)
theorem SlotsV.append {P : Value → Slot → Prop} : ∀ {vs us : List Value} {ss ts : List Slot}, SlotsV P vs ss → SlotsV P us ts → SlotsV P (vs ++ us) (ss ++ ts)
  | _, _, _, _, .nil, q => q
  | _, _, _, _, .cons h r, q => .cons h (r.append q)
theorem zip_fst {x : Str} : ∀ {xs : List Str} {vs : List Value}, x ∉ xs → ∀ p ∈ xs.zip vs, p.1 ≠ x
  | [], _, _, p, h => by simp at h
  | y :: xs, [], _, p, h => by simp at h
  | y :: xs, v :: vs, n, p, h => by
    rw [List.zip_cons_cons] at h
    rcases List.mem_cons.mp h with z | h
    · subst z; exact fun e => n (e ▸ .head _)
    · exact zip_fst (fun q => n (.tail _ q)) p h
set_option tactic.hygienic true in
theorem bind_get {P : Value → Slot → Prop} {names : List (Str × NameKind)} : ∀ {xs : List Str} {vals : List Value} {ss : List Slot} {vs : List (Str × Slot)}, bindAll xs ss = some vs → SlotsV P vals ss → parOk names xs = true →
    ∀ {x : Str} {sl : Slot}, getv vs x = some sl → ∃ v, P v sl ∧ (∀ m, kindOf x = some .local → bindL kindOf (xs.zip vals) m x = some v) ∧ (∀ m, kindOf x ≠ some .local → bindC kindOf (xs.zip vals) m x = some v)
  | [], vals, [], vs, e, q, hp, x, sl, h => by
    rw [← s1 e] at h; exact nomatch h
  | y :: xs, _, s :: ss, vs, e, .cons (v := v) (vs := vals) hv q, hp, x, sl, h => by
    refine bo1 e fun l hl e => ?_
    obtain rfl := s1 e
    unfold parOk at hp
    rw [Bool.and_eq_true, Bool.and_eq_true] at hp
    have hn : y ∉ xs := memStr_false (by simpa using hp.1.2)
    unfold getv at h
    rw [List.zip_cons_cons]
    split at h
    · rename_i hy
      obtain rfl := s1 h
      have := seq_iff.mp hy
      subst this
      refine ⟨v, hv, fun m hk => ?_, fun m hk => ?_⟩
      · unfold bindL
        rw [if_pos hk, bindL_skip (zip_fst hn), if_pos rfl]
      · unfold bindC
        rw [if_neg hk, bindC_skip (zip_fst hn), if_pos rfl]
    · obtain ⟨v', p1, p2, p3⟩ := bind_get hl q hp.2 h
      exact ⟨v', p1, fun m hk => by unfold bindL; exact p2 _ hk, fun m hk => by unfold bindC; exact p3 _ hk⟩
  | [], _, _ :: _, _, e, _, _, _, _, _ => (ns e).elim
  | _ :: _, _, [], _, e, _, _, _, _, _ => (ns e).elim
theorem bindAll_first {y : Str} {xs : List Str} {s : Slot} {ss : List Slot} {vs : List (Str × Slot)} (e : bindAll (y :: xs) (s :: ss) = some vs) : ∃ r, vs = (y, s) :: r ∧ bindAll xs ss = some r :=
  bo1 e fun l hl e => ⟨l, (s1 e).symm, hl⟩
set_option tactic.hygienic true in
theorem par_kind {names : List (Str × NameKind)} {x : Str} : ∀ {xs : List Str}, parOk names xs = true → x ∈ xs → kindL names x = some .local ∨ kindL names x = some .cell
  | y :: xs, hp, h => by
    unfold parOk at hp
    rw [Bool.and_eq_true, Bool.and_eq_true] at hp
    rcases List.mem_cons.mp h with z | h
    · subst z
      have := hp.1.1
      split at this
      · rename_i e; exact .inl e
      · rename_i e; exact .inr e
      · cases this
    · exact par_kind hp.2 h
end

/-- what the written part says of a function -/
structure FnAt (prog : Program) (w : World) (K : Frag) (f : FnRec) (oc : Value) (od : Option Addr) (osl : Array (Option Value)) (fd : FuncData) (dv : List Value) : Prop where
  at_ : K.lookup f.addr = some ⟨oc, od, .func fd, osl⟩
  body : fd.body = .stmts f.body
  names : fd.scope.names = f.names
  kind : fd.scope.kind = .function
  co : fd.scope.isCoroutine = false
  gen : fd.scope.isGenerator = false
  glob : fd.globals = mainGlobals
  blt : fd.builtins = builtinsNs
  clo : fd.closure = []
  code : codeIn K fd.code fd.qualname = true
  dflts : Reps prog w (fun zz zz=> False) dv f.dflts
  binds : ∀ vals : List Value, f.params.length ≤ vals.length + dv.length → vals.length ≤ f.params.length → ∀ s : Shared, K.In s.heap → BindsTo s fd ⟨vals, []⟩ (f.params.zip (vals ++ dv.drop (dv.length + vals.length - f.params.length)))
  ok : fnNames f.names = true
  par : parOk f.names f.params = true

section
variable {prog : Program} {w : World} {h₀ : Base} {h h' : Heap} {K : Frag} {g : Gt} {o : Orc} {n : Nat} {Ψ Φ Φ' : Facts} {pe : PySem.Env} {V : Str → Option Value} {env : MEnv} {A : Around} {s : Shared}

theorem bindAll_length : ∀ {xs : List Str} {ss : List Slot} {vs : List (Str × Slot)}, bindAll xs ss = some vs → ss.length = xs.length
  | [], [], _, _ => rfl
  | x :: xs, s :: ss, vs, e => by
    obtain ⟨r, _, h⟩ := bindAll_first e
    simp [bindAll_length h]
  | [], _ :: _, _, e => (ns e).elim
  | _ :: _, [], _, e => (ns e).elim
theorem slots_reps {P : Value → Slot → Prop} (hP : ∀ v d, Rep prog w Φ v d → P v (.dat d)) : ∀ {vs : List Value} {ds : List D}, Reps prog w Φ vs ds → SlotsV P vs (dats ds)
  | _, _, .nil => .nil
  | _, _, .cons h r => .cons (hP _ _ h) (slots_reps hP r)
theorem reps_drop {vs : List Value} {ds : List D} (n : Nat) (r : Reps prog w Φ vs ds) : Reps prog w Φ (vs.drop n) (ds.drop n) := r.drop n
set_option tactic.hygienic true in
/-- the callee's start -/
theorem fn_start {f : FnRec} {oc : Value} {od : Option Addr} {osl : Array (Option Value)} {fd : FuncData} {dv : List Value} (F : FnAt prog w K f oc od osl fd dv) {ow : Option (Value × D)} {vals : List Value} {ss : List Slot} {vs : List (Str × Slot)} {s₁ : Shared}
    (hb : bindAll f.params ss = some vs) (hv : SlotsV (fun v sl => (∃ d, sl = .dat d ∧ Rep prog w Φ v d) ∨ ∃ d, sl = .own d ∧ ow = some (v, d)) vals ss) (only : ∀ x y d e, getv vs x = some (.own d) → getv vs y = some (.own e) → seq x y = true)
    (hown : ∀ v0 d0, ow = some (v0, d0) → Own prog w Φ s.heap v0 d0 ∧ ∀ b, OwnAt s.heap v0 b → ∀ o, ¬ Φ b o) (ph : ∀ a o, Φ a o → s.heap.get? a = some o) (base : ∀ a o, h₀.heap.get? a = some o → Φ a o) (low : sysModules < s.heap.objs.size)
    (x : InCallC s (callEnvC fd s.heap.objs.size f.addr).locals (bindL (callEnvC fd s.heap.objs.size f.addr).kindOf (f.params.zip vals) fun zz=> none) (callEnvC fd s.heap.objs.size f.addr).cells (bindC (callEnvC fd s.heap.objs.size f.addr).kindOf (f.params.zip vals) fun zz=> none) s₁) :
    ∃ V, Inv prog w ⟨h₀.heap, ow.map (·.1)⟩ (fun a o => s.heap.get? a = some o ∧ (∀ o', ¬ Φ a o') ∧ ∀ v0 d0, ow = some (v0, d0) → ¬ OwnAt s.heap v0 a) Φ s₁.heap (callEnvC fd s.heap.objs.size f.addr) V { names := f.names, vars := vs, pin := pinOf vs } ∧
      ∀ y sl, getv vs y = some sl → ∃ v, V y = some v ∧ ((∃ d, sl = .dat d ∧ Rep prog w Φ v d) ∨ ∃ d, sl = .own d ∧ ow = some (v, d)) := by
  generalize hpe : callEnvC fd s.heap.objs.size f.addr = pe at x
  have hkind : ∀ y, pe.kindOf y = kindL f.names y := fun y => by
    subst hpe
    rw [kindL_lookup, ← F.names]; rfl
  have hL : pe.locals = s.heap.objs.size := by subst hpe; rfl
  have hcells : pe.cells = cellsFrom (s.heap.objs.size + 1) f.names [] := by subst hpe; rw [← F.names]; rfl
  let V : Str → Option Value := fun y => if kindL f.names y = some .local then bindL pe.kindOf (f.params.zip vals) (fun zz=> none) y else bindC pe.kindOf (f.params.zip vals) (fun zz=> none) y
  have hV : ∀ y sl, getv vs y = some sl → ∃ v, V y = some v ∧ ((∃ d, sl = .dat d ∧ Rep prog w Φ v d) ∨ ∃ d, sl = .own d ∧ ow = some (v, d)) := fun y sl hy => by
    obtain ⟨v, p1, p2, p3⟩ := bind_get (kindOf := pe.kindOf) hb hv F.par hy
    refine ⟨v, ?_, p1⟩
    show (if kindL f.names y = some .local then _ else _) = _
    split
    · rename_i k; exact p2 _ (by rw [hkind]; exact k)
    · rename_i k; exact p3 _ (by rw [hkind]; exact k)
  have old : ∀ b o, s.heap.get? b = some o → s₁.heap.get? b = some o := x.toInCall.keep
  have fresh : ∀ a, s.heap.objs.size ≤ a → s.heap.get? a = none := fun a ha => Heap.get?_none_of_le ha
  have cellAt : ∀ y, CellName { names := f.names, vars := vs, pin := pinOf vs } y → ∃ c, pe.cells.lookup y = some c ∧ kindL f.names y = some .cell := fun y hy => by
    rcases hy with e | e
    · have e : kindL f.names y = some .cell := e
      have := fn_cell (n := s.heap.objs.size + 1) (acc := []) (.inl (scope_in e))
      rw [← hcells] at this
      obtain ⟨c, hc⟩ := Option.isSome_iff_exists.mp this
      exact ⟨c, hc, e⟩
    · have e : kindL f.names y = some .free := e
      have := (fnNames_each F.ok (scope_in e)).1
      cases this
  have frameFresh : ∀ a, FrameAt pe { names := f.names, vars := vs, pin := pinOf vs } a → s.heap.objs.size ≤ a := fun a ha => by
    rcases ha with ha | ⟨y, hy, hc⟩
    · rw [ha, hL]; exact Nat.le_refl _
    · have := x.above y a (mem_of_lookup hc)
      rw [hL] at this
      exact Nat.le_of_lt this
  have back : ∀ v0 d0, ow = some (v0, d0) → ∀ b, OwnAt s₁.heap v0 b → OwnAt s.heap v0 b := fun v0 d0 e b hb => OwnAt.back (hown v0 d0 e).1 (fun o' ⟨c, e, g⟩ => ⟨c, e, old _ _ g⟩) hb
  refine ⟨V, ?_, hV⟩
  exact {
    kinds := by
      refine ⟨?_, ?_, ?_, fun y k e => ?_, fun y k e => nameOk_of (fnNames_each F.ok (scope_in e)).2⟩
      · subst hpe; exact F.kind
      · subst hpe; exact F.glob
      · subst hpe; exact F.blt
      · have e : kindL f.names y = some k := e
        rw [hkind, e]
        cases k <;> first | trivial | rfl | exact .inr rfl
    real := by
      refine ⟨⟨_, x.toInCall.ns, fun y e => ?_⟩, fun y hy => ?_⟩
      · have e : kindL f.names y = some .local := e
        show _ = (if kindL f.names y = some .local then _ else _)
        rw [if_pos e]
      · obtain ⟨c, hc, e⟩ := cellAt y hy
        refine ⟨c, hc, ?_⟩
        have := x.cell y c hc
        show s₁.heap.IsCell c (if kindL f.names y = some .local then _ else _)
        rw [if_neg (by rw [e]; decide)]
        exact this
    psi := fun a o' q => old _ _ q.1
    phi := fun a o' q => old _ _ (ph a o' q)
    frame := fun a ha => by
      have := fresh a (frameFresh a ha)
      refine ⟨fun o' q => ?_, fun o' q => ?_⟩
      · rw [this] at q; cases q.1
      · rw [ph a o' q] at this; cases this
    apartCells := fun y z c hy hz ly lz => seq_iff.mpr (name_of_addr x.apart (mem_of_lookup ly) (mem_of_lookup lz))
    cellLoc := fun y hy e => Nat.lt_irrefl _ (x.above y _ (mem_of_lookup e))
    dat := fun y d hy he => by
      obtain ⟨v, p1, p2⟩ := hV y _ he
      rcases p2 with ⟨d', e, r⟩ | ⟨d', e, _⟩
      · cases e; exact ⟨v, p1, r⟩
      · cases e
    own := fun y d hy he => by
      obtain ⟨v, p1, p2⟩ := hV y _ he
      rcases p2 with ⟨d', e, r⟩ | ⟨d', e, e2⟩
      · cases e
      · cases e
        obtain ⟨o1, o2⟩ := hown _ _ e2
        refine ⟨v, p1, o1.keep fun b o' zz g=> old _ _ g, fun b hb => ?_⟩
        have hb := back _ _ e2 b hb
        refine ⟨fun o' q => q.2.2 _ _ e2 hb, o2 b hb, fun q => ?_⟩
        obtain ⟨o₁, g⟩ := o1.there hb
        rw [fresh b (frameFresh b q)] at g; cases g
    apart := fun y z d e v u b hy hz hyz gy gz => by
      have := only y z d e gy gz
      rw [hyz] at this; cases this
    low := by
      refine ⟨by rw [hL]; exact low, fun y e => ?_⟩
      have e : pinOf vs = some y := e
      cases vs with
      | nil => cases e
      | cons p r =>
        obtain ⟨z, sl⟩ := p
        cases sl with
        | dat d => cases e
        | own d =>
          cases e
          obtain ⟨v, p1, p2⟩ := hV y (.own d) (by unfold getv; rw [if_pos (seq_refl _)])
          rcases p2 with ⟨d', e, r⟩ | ⟨d', e, e2⟩
          · cases e
          · rw [p1, e2]; rfl
    base := base
    sep := fun a o' o'' p q => p.2.1 _ q }
end
end Mine

set_option Elab.async false
set_option maxRecDepth 100000
namespace Mine
open PySem PySem.W PyProof.Rows PySem.Calls

section
variable {prog : Program} {w : World} {h₀ : Base} {h h' : Heap} {K : Frag} {g : Gt} {o : Orc} {n : Nat} {Ψ Φ Φ' : Facts} {pe : PySem.Env} {V : Str → Option Value} {env : MEnv} {A : Around} {s : Shared}

noncomputable def ownSlots (ow : Option (Value × D)) : List Slot := match ow with
  | some (_, d) => [.own d]
  | .none => []
noncomputable def ownVals (ow : Option (Value × D)) : List Value := match ow with
  | some (v, _) => [v]
  | .none => []
/-- the addresses that are lent -/
noncomputable def Lent (h : Heap) (ow : Option (Value × D)) (a : Addr) : Prop := ∃ v d, ow = some (v, d) ∧ OwnAt h v a

theorem bind_dats : ∀ {xs : List Str} {ds : List D} {vs : List (Str × Slot)}, bindAll xs (dats ds) = some vs → ∀ x d, getv vs x ≠ some (.own d)
  | [], [], vs, e, x, d, h => by rw [← s1 e] at h; exact nomatch h
  | y :: xs, a :: ds, vs, e, x, d, h => by
    obtain ⟨r, rfl, hr⟩ := bindAll_first (ss := dats ds) e
    unfold getv at h
    split at h
    · exact nomatch s1 h
    · exact bind_dats hr x d h
  | [], _ :: _, _, e, _, _, _ => (ns e).elim
  | _ :: _, [], _, e, _, _, _ => (ns e).elim
theorem dats_append : ∀ l k : List D, dats l ++ dats k = dats (l ++ k)
  | [], _ => rfl
  | a :: l, k => congrArg (Slot.dat a :: ·) (dats_append l k)
set_option tactic.hygienic true in
theorem bind_only {ow : Option (Value × D)} {xs : List Str} {ds : List D} {vs : List (Str × Slot)} (e : bindAll xs (ownSlots ow ++ dats ds) = some vs) : ∀ x y d e, getv vs x = some (.own d) → getv vs y = some (.own e) → seq x y = true := by
  intro x y d f hx hy
  cases ow with
  | none => exact absurd hx (bind_dats e x d)
  | some p =>
    obtain ⟨v, d0⟩ := p
    cases xs with
    | nil => cases e
    | cons z xs =>
      obtain ⟨r, rfl, hr⟩ := bindAll_first (ss := dats ds) e
      unfold getv at hx hy
      split at hx
      · rename_i q
        split at hy
        · rename_i q'
          rw [← seq_iff.mp q, ← seq_iff.mp q']; exact seq_refl _
        · exact absurd hy (bind_dats hr y f)
      · exact absurd hx (bind_dats hr x d)

/-- room for a call -/
noncomputable def RoomF (n : Nat) (A : Around) : Prop := A.handled = none ∧ A.depth + 1 + 3 * n < recursionLimit ∧ A.units + 3 + 24 * n + 100 < cLine
theorem Room.call {n : Nat} {A : Around} (r : Room (n + 1) A) : RoomF n A := ⟨r.1, by have := r.2.1; omega, by have := r.2.2; omega⟩
theorem Room.make {n : Nat} {A : Around} (r : Room (n + 1) A) (C : Addr) (vs : List Value) : RoomF n (A.under (.builtin "type.__call__" ⟨.ref C :: vs, []⟩)) := by
  have w1 : (Code.builtin "type.__call__" ⟨.ref C :: vs, []⟩).weight = 1 := by kernel_rfl
  have w2 : (Code.builtin "type.__call__" ⟨.ref C :: vs, []⟩).cUnits = 1 := by kernel_rfl
  refine ⟨r.1, ?_, ?_⟩
  · show A.depth + (Code.builtin "type.__call__" ⟨.ref C :: vs, []⟩).weight + 1 + 3 * n < _
    rw [w1]; have := r.2.1; omega
  · show A.units + (Code.builtin "type.__call__" ⟨.ref C :: vs, []⟩).cUnits + 3 + 24 * n + 100 < _
    rw [w2]; have := r.2.2; omega
theorem fn_counts {f : FnRec} {ow : Option (Value × D)} {vs dv : List Value} {ds : List D} {vs' : List (Str × Slot)} (hbind : bindAll f.params (padded f (ownSlots ow ++ dats ds)) = some vs') (r : Reps prog w Φ vs ds) (hdv : dv.length = f.dflts.length) :
    f.params.length ≤ (ownVals ow ++ vs).length + dv.length ∧ (ownVals ow ++ vs).length ≤ f.params.length ∧ (ownVals ow ++ vs).length = (ownSlots ow ++ dats ds).length := by
  have hlen := bindAll_length hbind
  have hol : (ownSlots ow).length = (ownVals ow).length := by cases ow <;> rfl
  have hvl : (ownVals ow ++ vs).length = (ownSlots ow ++ dats ds).length := by rw [List.length_append, List.length_append, hol, dats_length, r.length]
  have hpl : (ownVals ow ++ vs).length + (f.dflts.length - (f.dflts.length + (ownVals ow ++ vs).length - f.params.length)) = f.params.length := by
    have := hlen
    unfold padded at this
    rw [List.length_append, dats_length, List.length_drop, ← hvl] at this
    exact this
  exact ⟨by rw [hdv]; omega, by omega, hvl⟩
set_option tactic.hygienic true in
/-- what has become of the heap and of the lent container, when the callee has ended -/
theorem fn_end {ow : Option (Value × D)} {V2 : Str → Option Value} {env1 : MEnv} (ph : ∀ a o, Φ a o → h.get? a = some o) (le : Le Φ Φ') (J' : Inv prog w ⟨h₀.heap, ow.map (·.1)⟩ (fun a o => h.get? a = some o ∧ (∀ o', ¬ Φ a o') ∧ ∀ v0 d0, ow = some (v0, d0) → ¬ OwnAt h v0 a) Φ' h' pe V2 env1) :
    (∀ b o, h.get? b = some o → ¬ Lent h ow b → h'.get? b = some o) ∧ (∀ a o, Φ' a o → Φ a o ∨ h.get? a = none ∨ Lent h ow a) ∧
      (∀ v0 d0 d1, ow = some (v0, d0) → firstOf env1 = .own d1 → Own prog w Φ' h' v0 d1 ∧ ∀ b, OwnAt h' v0 b → (∀ o, ¬ Φ' b o) ∧ (h.get? b = none ∨ Lent h ow b)) := by
  refine ⟨fun b o e nl => ?_, fun a o q => ?_, fun v0 d0 d1 e1 e2 => ?_⟩
  · by_cases q : ∃ o', Φ b o'
    · obtain ⟨o', q⟩ := q
      exact s1 ((ph b o' q).symm.trans e) ▸ J'.phi b _ (le b _ q)
    · exact J'.psi b o ⟨e, fun o' z => q ⟨o', z⟩, fun v0 d0 e1 z => nl ⟨v0, d0, e1, z⟩⟩
  · by_cases nl : Lent h ow a
    · exact .inr (.inr nl)
    · cases e : h.get? a with
      | none => exact .inr (.inl rfl)
      | some o1 =>
        by_cases z : ∃ o', Φ a o'
        · obtain ⟨o', z⟩ := z
          exact .inl (s1 ((J'.phi a o' (le a o' z)).symm.trans (J'.phi a o q)) ▸ z)
        · exact absurd q (J'.sep a o1 o ⟨e, fun o' y => z ⟨o', y⟩, fun v0 d0 e1 y => nl ⟨v0, d0, e1, y⟩⟩)
  · unfold firstOf at e2
    split at e2
    · rename_i y hy
      split at e2
      · rename_i sl hsl
        subst e2
        obtain ⟨g1, g2⟩ := get_of hsl
        obtain ⟨v, hv, o1, o2⟩ := J'.own y d1 g1 g2
        have := J'.low.2 y hy
        rw [e1, hv] at this
        obtain rfl : v = v0 := s1 this
        refine ⟨o1, fun b hb => ⟨(o2 b hb).2.1, ?_⟩⟩
        cases e : h.get? b with
        | none => exact .inl rfl
        | some o1 =>
          by_cases nl : Lent h ow b
          · exact .inr nl
          · exact absurd ⟨e, fun o' y => (o2 b hb).2.1 o' (le b o' y), fun v0 d0 e1 y => nl ⟨v0, d0, e1, y⟩⟩ ((o2 b hb).1 o1)
      · exact nomatch e2
    · exact nomatch e2
set_option tactic.hygienic true in
theorem retOf_rep {f : Flow} {fl : Fl} (r : FlR prog w Φ f fl) : ∃ v, Rep prog w Φ v (retOf fl) ∧ (f = .next ∧ v = .none ∨ f = .ret v) := by
  cases fl with
  | nxt => rw [r.nxt_inv]; exact ⟨.none, .none, .inl ⟨rfl, rfl⟩⟩
  | ret d => obtain ⟨v, rfl, q⟩ := r.ret_inv; exact ⟨v, q, .inr rfl⟩
/-- a function is called -/
theorem call_fn {f : FnRec} {oc : Value} {od : Option Addr} {osl : Array (Option Value)} {fd : FuncData} {dv : List Value} (F : FnAt prog w K f oc od osl fd dv) (hB : ∀ p, SndB prog w ⟨h₀.heap, p⟩ o n) {ow : Option (Value × D)} {vs : List Value} {ds : List D} {d : D} {fst : Slot}
    (e : stepK o f (ownSlots ow ++ dats ds) = some (d, fst)) (hown : ∀ v0 d0, ow = some (v0, d0) → Own prog w Φ s.heap v0 d0 ∧ ∀ b, OwnAt s.heap v0 b → ∀ o, ¬ Φ b o) (r : Reps prog w Φ vs ds) (ph : ∀ a o, Φ a o → s.heap.get? a = some o) (base : ∀ a o, h₀.heap.get? a = some o → Φ a o)
    (low : sysModules < s.heap.objs.size) (X : K.In s.heap) (lim : s.heap.NoLimit) (Rm : RoomF n A) {RR : Result → Shared → Prop}
    (k : ∀ v Φ' h' tk, Le Φ Φ' → (∀ b o, s.heap.get? b = some o → ¬ Lent s.heap ow b → h'.get? b = some o) → (∀ a o, Φ' a o → h'.get? a = some o) → (∀ a o, Φ' a o → Φ a o ∨ s.heap.get? a = none ∨ Lent s.heap ow a) →
      (∀ v0 d0 d1, ow = some (v0, d0) → fst = .own d1 → Own prog w Φ' h' v0 d1 ∧ ∀ b, OwnAt h' v0 b → (∀ o, ¬ Φ' b o) ∧ (s.heap.get? b = none ∨ Lent s.heap ow b)) → Rep prog w Φ' v d → RR (.ok (.ret v)) { s with heap := h', toks := tk }) :
    codeAny (model prog w) A (.call (.ref f.addr) ⟨ownVals ow ++ vs, []⟩) RR s := by
  refine bo1 e fun vs' hbind e => bo2 e fun fl env1 hbody e => ?_
  obtain ⟨rfl, rfl⟩ := sp e
  have hdv : dv.length = f.dflts.length := F.dflts.length
  obtain ⟨h1, h2, hvl⟩ := fn_counts hbind r hdv
  have hsv : SlotsV (fun v sl => (∃ d, sl = Slot.dat d ∧ Rep prog w Φ v d) ∨ ∃ d, sl = .own d ∧ ow = some (v, d)) ((ownVals ow ++ vs) ++ dv.drop (dv.length + (ownVals ow ++ vs).length - f.params.length)) (padded f (ownSlots ow ++ dats ds)) := by
    unfold padded
    refine (SlotsV.append ?_ (slots_reps (fun v d r => .inl ⟨d, rfl, r⟩) r)).append ?_
    · cases ow with
      | none => exact .nil
      | some p => exact .cons (.inr ⟨_, rfl, rfl⟩) .nil
    · rw [hdv, hvl]
      exact slots_reps (fun v d r => .inl ⟨d, rfl, r⟩) (reps_drop _ (F.dflts.mono fun zz zz h=> h.elim))
  have honly := bind_only (ow := ow) (ds := ds ++ f.dflts.drop (f.dflts.length + (ownSlots ow ++ dats ds).length - f.params.length)) (xs := f.params) (vs := vs') (by
    rw [← dats_append, ← List.append_assoc]; exact hbind)
  refine codeAny_call_function (by have := Rm.2.1; omega) (X _ _ F.at_) rfl F.co F.gen F.body (codeRec_of X F.code) ?_
  refine F.binds _ h1 h2 s X _ _ _ _ ?_
  rw [F.clo]
  refine wpAny_newFunctionEnv_cells F.kind (fun y hy => ?_) fun env' he s' x => ?_
  · rw [F.names, ← kindL_lookup]
    have hm : y.1 ∈ f.params := (List.of_mem_zip (a := y.1) (b := y.2) hy).1
    rcases par_kind F.par hm with q | q
    · exact .inl q
    · exact .inr ⟨q, fn_cell (.inl (scope_in q))⟩
  · subst he
    refine ⟨lim.keeps x.toInCall.keep, codeAny_func ?_⟩
    obtain ⟨V', J, _⟩ := fn_start F (h₀ := h₀) hbind hsv honly hown ph base low x
    obtain ⟨h1', t1, rfl⟩ := x.toInCall.same
    have Rm' : Room n (A.deeper (callEnvC fd s.heap.objs.size f.addr)) := ⟨Rm.1, by show A.depth + 1 + 3 * n < _; have := Rm.2.1; omega, by show A.units + 3 + 24 * n + 100 < _; have := Rm.2.2; omega⟩
    refine wpAny_mono (hB _ _ _ _ _ hbody _ _ _ _ _ _ (fun fl' s' => ∃ V2 Φ' h' tk, s' = { s with heap := h', toks := tk } ∧ Le Φ Φ' ∧ Inv prog w ⟨h₀.heap, ow.map (·.1)⟩ (fun a o => s.heap.get? a = some o ∧ (∀ o', ¬ Φ a o') ∧ ∀ v0 d0, ow = some (v0, d0) → ¬ OwnAt s.heap v0 a) Φ' h' (callEnvC fd s.heap.objs.size f.addr) V2 env1 ∧ FlR prog w Φ' fl' fl) J Rm' fun fl' V2 Φ' h' tk le J' hf => ⟨V2, Φ', h', tk, rfl, le, J', hf⟩) ?_ (fun zz zz z=> z.elim)
    rintro fl' s' ⟨V2, Φ', h', tk, rfl, le, J', hf⟩
    obtain ⟨old, new, own⟩ := fn_end ph le J'
    obtain ⟨v, rv, hf⟩ := retOf_rep hf
    rcases hf with ⟨rfl, rfl⟩ | rfl
    · exact k _ Φ' h' tk le old J'.phi new own rv
    · exact k _ Φ' h' tk le old J'.phi new own rv
end
end Mine

set_option Elab.async false
set_option maxRecDepth 100000
namespace Mine
open PySem PySem.W PyProof.Rows PySem.Calls

noncomputable def FnOk (prog : Program) (w : World) (K : Frag) (f : FnRec) : Prop := ∃ oc od osl fd dv, FnAt prog w K f oc od osl fd dv
noncomputable def clsOkB (K : Frag) (C fI : Addr) : Bool := makesIn K C && (findIn K (.ref C) "__init__" == some (some (.ref fI))) && (typeIn K (.ref fI) == some (.type "function")) && keepIn K (.ref C)
noncomputable def mthOkB (K : Frag) (C : Addr) (m : Str) (f : Addr) : Bool := plainGet K C m && (findIn K (.ref C) m == some (some (.ref f))) && isFn K (.ref f)
structure Cz (prog : Program) (w : World) (h₀ : Base) (K : Frag) (g : Gt) : Prop extends Cy prog w h₀ K g where
  fnAt : ∀ x f, lookS g.globals x = some (.fn f) → nsIn K mainGlobals x = some (some (.ref f.addr)) ∧ FnOk prog w K f
  clsFn : ∀ x C f, lookS g.globals x = some (.cls C f) → FnOk prog w K f ∧ clsOkB K C f.addr = true
  mth : ∀ C m f, lookM g.methods C m = some f → FnOk prog w K f ∧ mthOkB K C m f.addr = true

section
variable {prog : Program} {w : World} {h₀ : Base} {h h' : Heap} {K : Frag} {g : Gt} {o o' : Orc} {n m : Nat} {Ψ Φ Φ' : Facts} {pe : PySem.Env} {V : Str → Option Value} {env : MEnv} {A : Around} {s : Shared}

theorem FnAt.keep {f : FnRec} {oc : Value} {od : Option Addr} {osl : Array (Option Value)} {fd : FuncData} {dv : List Value} (F : FnAt prog w K f oc od osl fd dv) : keepIn K (.ref f.addr) = true := by
  simp only [keepIn, F.at_]
theorem Inv.low_size (I : Inv prog w h₀ Ψ Φ h pe V env) : sysModules < h.objs.size := Nat.lt_trans I.low.1 (let ⟨_, hm, _⟩ := I.real.loc; hm.lt)
theorem nolimit_at (C : Cx prog w h₀ K g) (I : Inv prog w h₀ Ψ Φ h pe V env) : h.NoLimit := let ⟨_, _, _, _, T⟩ := C.T; T.nolimit.keeps (base_keep I)
theorem callWith_any {f : Value} {first : List Value} {args : List (Bool × Sem Value)} {pos : Pos} {Q : Value → Shared → Prop} {M : Model} {E : Value → Shared → Prop} (hk : keepIn K f = true) (hp : args.any (·.1) = false)
    (h : wpAny M A (spliced args) (fun vs s₁ => K.In s₁.heap ∧ wpAny M A (call f (first ++ vs)) Q E s₁) E s) : wpAny M A (callWith pos f first args []) Q E s :=
  callWith_of (P := fun h => K.In h) (by rw [hp]; rfl) (keeps_K hk) (evalArgs_all hp h)
theorem no_lent {a : Addr} : ¬ Lent h none a := fun ⟨_, _, e, _⟩ => nomatch e

/-- a function of data -/
theorem call_plain (C : Cx prog w h₀ K g) {f : FnRec} (F : FnOk prog w K f) (hB : ∀ p, SndB prog w ⟨h₀.heap, p⟩ o n) {vs : List Value} {ds : List D} {d : D} {fst : Slot} (e : stepK o f (dats ds) = some (d, fst)) (r : Reps prog w Φ vs ds) {Q : Value → Shared → Prop}
    (I : Inv prog w h₀ Ψ Φ s.heap pe V env) (Rm : RoomF n A) (k : OkE prog w h₀ Ψ Φ s pe V env d Q) : wpAny (model prog w) A (call (.ref f.addr) vs) Q NoE s := by
  obtain ⟨oc, od, osl, fd, dv, F⟩ := F
  refine wpAny_call (call_fn F hB (ow := none) e (fun zz zz h=> nomatch h) r I.phi I.base I.low_size (frag_at C I) (nolimit_at C I) Rm fun v Φ' h' tk le old ph new own rv => ?_)
  refine k v Φ' h' tk le (I.grow (fun b o e => old b o e no_lent) le fun a o q => ?_) rv
  rcases new a o q with z | z | z
  · exact .inl z
  · exact .inr ⟨z, ph a o q⟩
  · exact absurd z no_lent

theorem Inv.lent {x : Str} {l0 l1 : List D} {v : Value} (I : Inv prog w h₀ Ψ Φ h pe V env) (hx : env.isVar x = true) (hd : getv env.vars x = some (.own (.list l0))) (hv : V x = some v)
    (le : Le Φ Φ') (old : ∀ b o, h.get? b = some o → ¬ OwnAt h v b → h'.get? b = some o) (ph : ∀ a o, Φ' a o → h'.get? a = some o) (new : ∀ a o, Φ' a o → Φ a o ∨ h.get? a = none ∨ OwnAt h v a)
    (own : Own prog w Φ' h' v (.list l1)) (off : ∀ b, OwnAt h' v b → ∀ o, ¬ Φ' b o) : Inv prog w h₀ Ψ Φ' h' pe V (env.put x (.own (.list l1))) := by
  obtain ⟨v', hv', ro, q⟩ := I.own x _ hx hd
  obtain rfl := s1 (hv.symm.trans hv')
  obtain ⟨a, us, m, rfl, ga, ru⟩ := ro.listAt
  obtain ⟨a', us', m', e, ga', ru'⟩ := own.listAt
  injection e with e
  subst e
  have at1 : ∀ b, OwnAt h (.ref a) b ↔ b = a := fun b => ⟨fun z => ownAt_list ga z, fun z => .inl (by rw [z])⟩
  have at2 : ∀ b, OwnAt h' (.ref a) b ↔ b = a := fun b => ⟨fun z => ownAt_list ga' z, fun z => .inl (by rw [z])⟩
  have gm : (h'.update a (fun zz=> lstObj us m)).get? a = some (lstObj us m) := Heap.get?_update_self _ ga' rfl
  have J := I.grow (h' := h'.update a (fun zz=> lstObj us m)) (Φ' := Φ') (fun b o e => by
      by_cases nb : b = a
      · exact nb ▸ gm.trans (ga.symm.trans (nb ▸ e))
      · rw [Heap.get?_update_ne _ _ _ _ nb]
        exact old b o e fun z => nb ((at1 b).mp z)) le (fun b o z => by
      have nb : b ≠ a := fun e => off b ((at2 b).mpr e) o z
      rcases new b o z with y | y | y
      · exact .inl y
      · exact .inr ⟨y, by rw [Heap.get?_update_ne _ _ _ _ nb]; exact ph b o z⟩
      · exact absurd ((at1 b).mp y) nb)
  refine J.write (c := a) (h' := h') hx hd hv (.inl rfl) ⟨(Heap.size_update ..).symm, fun b nb => (Heap.get?_update_ne _ _ _ _ nb).symm⟩ own fun b hb => ?_
  exact .inl (by rw [(at2 b).mp hb])
theorem snd_lent (C : Cz prog w h₀ K g) (hL : SndL prog w h₀ o n) (hQ : SndQ o) (hB : ∀ p, SndB prog w ⟨h₀.heap, p⟩ o' m) (hK : ∀ f ss, o.K f ss = stepK o' f ss) (Rm : ∀ {A}, Room n A → RoomF m A) {x : Str} {p pos : Pos} {args : List Expr} {f : FnRec} {d : D} {env' : MEnv} (hg : env.isGlob x = true) (hf : lookS g.globals x = some (.fn f))
    (e : callLent o env f args = some (d, env')) {Q : Value → Shared → Prop} (I : Inv prog w h₀ Ψ Φ s.heap pe V env) (R : Room n A) (k : OkE prog w h₀ Ψ Φ s pe V env' d Q) : wpAny (model prog w) A (eval (.Call (.Name x p) args [] pos) pe) Q NoE s := by
  obtain ⟨hn, F⟩ := C.fnAt _ _ hf
  have hk : keepIn K (.ref f.addr) = true := let ⟨_, _, _, _, _, F⟩ := F; F.keep
  refine Call_Name rfl (name_glob C.toCx I hg hn ?_)
  cases args with
  | nil => exact (ns e).elim
  | cons a rest =>
    refine bo1 e fun y hy e => bo1 e fun l hl0 e => bo2 e fun ds env1 hl e => bo1 e fun l1 hy1 e => bo2 e fun d1 sl hKe e => bo1 e fun l2 hsl e => ?_
    have k := okE_eq e k
    obtain ⟨yp, rfl⟩ := nameT_some hy
    rw [hK, slotList_some hsl] at hKe
    have hp := hQ _ _ _ hl
    have hp' : (Expr.Name y yp :: rest).all plainExpr = true := by rw [List.all_cons, hp]; rfl
    obtain ⟨hx, hd⟩ := ownList_some hl0
    obtain ⟨v, hv, _⟩ := I.own y _ hx hd
    refine callWith_any hk (any_star hp') ?_
    rw [backTo_all hp', List.map_cons]
    refine Calls.spliced_cons (name_var I hx hv ?_)
    rw [← backTo_all (pos := pos) hp]
    refine hL _ _ _ _ hl _ _ _ _ _ _ _ _ I R fun vs Φ2 h2 t2 le2 I2 r2 => ⟨frag_at C.toCx I2, ?_⟩
    obtain ⟨hx1, hd1⟩ := ownList_some hy1
    obtain ⟨v1, hv1, ro1, q1⟩ := I2.own y _ hx1 hd1
    obtain rfl := s1 (hv.symm.trans hv1)
    obtain ⟨oc, od, osl, fd, dv, F⟩ := F
    have one : ∀ {v0 : Value} {d0 : D}, some (v, D.list l1) = some (v0, d0) → v = v0 ∧ .list l1 = d0 := fun h => sp h
    refine wpAny_call (call_fn F hB (ow := some (v, .list l1)) (s := { s with heap := h2, toks := t2 }) hKe (fun v0 d0 h => (one h).1 ▸ (one h).2 ▸ ⟨ro1, fun b hb => (q1 b hb).2.1⟩) r2 I2.phi I2.base I2.low_size (frag_at C.toCx I2) (nolimit_at C.toCx I2) (Rm R) fun u Φ' h' tk le old ph new own rv => ?_)
    obtain ⟨o1, o2⟩ := own v _ _ rfl rfl
    exact k u Φ' h' tk (le2.trans le) (I2.lent hx1 hd1 hv le (fun b o e z => old b o e fun ⟨v0, d0, e1, y⟩ => z ((one e1).1 ▸ y)) ph (fun a o z => by
      rcases new a o z with y | y | ⟨v0, d0, e1, y⟩
      · exact .inl y
      · exact .inr (.inl y)
      · exact .inr (.inr ((one e1).1 ▸ y))) o1 fun b hb => (o2 b hb).1) rv
theorem snd_callFn (C : Cz prog w h₀ K g) (hL : SndL prog w h₀ o n) (hQ : SndQ o) (hB : ∀ p, SndB prog w ⟨h₀.heap, p⟩ o' m) (hK : ∀ f ss, o.K f ss = stepK o' f ss) (Rm : ∀ {A}, Room n A → RoomF m A) {x : Str} {p pos : Pos} {args : List Expr} {f : FnRec} {d : D} {env' : MEnv} (hg : env.isGlob x = true) (hf : lookS g.globals x = some (.fn f))
    (e : callFn o env f args = some (d, env')) {Q : Value → Shared → Prop} (I : Inv prog w h₀ Ψ Φ s.heap pe V env) (R : Room n A) (k : OkE prog w h₀ Ψ Φ s pe V env' d Q) : wpAny (model prog w) A (eval (.Call (.Name x p) args [] pos) pe) Q NoE s := by
  refine bie e (fun zz e=> snd_lent C hL hQ hB hK Rm hg hf e I R k) (fun zz e=> bo2 e fun ds env1 hl e => bo2 e fun d1 fst hKe e => ?_)
  have k := okE_eq e k
  obtain ⟨hn, F⟩ := C.fnAt _ _ hf
  have hk : keepIn K (.ref f.addr) = true := let ⟨_, _, _, _, _, F⟩ := F; F.keep
  refine Call_Name rfl (name_glob C.toCx I hg hn ?_)
  rw [hK] at hKe
  refine callWith_any hk (any_star (hQ _ _ _ hl)) (hL _ _ _ _ hl _ _ _ _ _ _ _ _ I R fun vs Φ2 h2 t2 le2 I2 r2 => ⟨frag_at C.toCx I2, ?_⟩)
  exact call_plain C.toCx F hB hKe r2 I2 (Rm R) (OkE.later k le2)
end
end Mine

set_option Elab.async false
set_option maxRecDepth 100000
namespace Mine
open PySem PySem.W PyProof.Rows PySem.Calls

section
variable {prog : Program} {w : World} {h₀ : Base} {h h' : Heap} {K : Frag} {g : Gt} {o o' : Orc} {n m : Nat} {Ψ Φ Φ' : Facts} {pe : PySem.Env} {V : Str → Option Value} {env : MEnv} {A : Around} {s : Shared}

theorem ownAt_inst {x C dx b : Addr} (g : h.get? x = some (instObj C dx)) (q : OwnAt h (.ref x) b) : b = x ∨ b = dx := by
  rcases q with e | ⟨a, C', e, g'⟩
  · injection e with e; exact .inl e.symm
  · injection e with e
    subst e
    have := congrArg Obj.dict (s1 (g.symm.trans g'))
    injection this with this
    exact .inr this.symm
/-- an object is made -/
theorem call_class (C : Cx prog w h₀ K g) {f : FnRec} {Cc : Nat} (F : FnOk prog w K f) (hc : clsOkB K Cc f.addr = true) (hB : ∀ p, SndB prog w ⟨h₀.heap, p⟩ o n) {vs : List Value} {ds : List D} {C' : Nat} {fs : List (Str × D)} (e : stepK o f (.own (.inst Cc []) :: dats ds) = some (.none, .own (.inst C' fs)))
    (r : Reps prog w Φ vs ds) {Q : Value → Shared → Prop} (I : Inv prog w h₀ Ψ Φ s.heap pe V env) (Rm : RoomF n (A.under (.builtin "type.__call__" ⟨.ref Cc :: vs, []⟩))) (k : OkE prog w h₀ Ψ Φ s pe V env (.inst C' fs) Q) : wpAny (model prog w) A (call (.ref Cc) vs) Q NoE s := by
  obtain ⟨oc, od, osl, fd, dv, F⟩ := F
  simp only [clsOkB, Bool.and_eq_true, beq_iff_eq] at hc
  obtain ⟨⟨⟨c1, c2⟩, c3⟩, _⟩ := hc
  have X := frag_at C I
  obtain ⟨hh, gg, dr, tt, oo⟩ := s
  refine wpAny_call (make_core (makes_of X c1) (looks_findIn X c2) (fun self => bind_fn X self c3) (.inl rfl) ?_)
  have keep : ∀ b o, hh.get? b = some o → ((hh.push emptyDict).push (instObj Cc hh.objs.size)).get? b = some o := fun b o e => Heap.get?_push_of_some _ (Heap.get?_push_of_some _ e)
  have sz : (hh.push emptyDict).objs.size = hh.objs.size + 1 := Heap.size_push ..
  have gx : ((hh.push emptyDict).push (instObj Cc hh.objs.size)).get? (hh.objs.size + 1) = some (instObj Cc hh.objs.size) := by rw [← sz]; exact Heap.get?_push_size _ rfl
  have gd : ((hh.push emptyDict).push (instObj Cc hh.objs.size)).get? hh.objs.size = some (dictOf [] 0) := Heap.get?_push_of_some _ (Heap.get?_push_size _ rfl)
  have nx : hh.get? (hh.objs.size + 1) = none := Heap.get?_none_of_le (Nat.le_succ _)
  have nd : hh.get? hh.objs.size = none := Heap.get?_none_of_le (Nat.le_refl _)
  have at0 : ∀ b, OwnAt ((hh.push emptyDict).push (instObj Cc hh.objs.size)) (.ref (hh.objs.size + 1)) b → hh.get? b = none := fun b hb => by
    rcases ownAt_inst gx hb with rfl | rfl
    · exact nx
    · exact nd
  refine call_fn F hB (ow := some (.ref (hh.objs.size + 1), .inst Cc [])) (s := ⟨(hh.push emptyDict).push (instObj Cc hh.objs.size), gg, dr, tt, oo⟩) (Φ := Φ) e (fun v0 d0 h => by
      obtain ⟨rfl, rfl⟩ := sp h
      refine ⟨.inst gx gd (Nat.succ_ne_self _) .nil, fun b hb o q => ?_⟩
      exact ns ((at0 b hb).symm.trans (I.phi b o q))) r (fun a o q => keep _ _ (I.phi a o q)) I.base (Nat.lt_of_lt_of_le I.low_size (by show hh.objs.size ≤ ((hh.push emptyDict).push _).objs.size; rw [Heap.size_push, sz]; omega)) (X.keeps keep) ((nolimit_at C I).keeps keep) Rm fun u Φ' h' tk le old ph new own rv => ?_
  obtain ⟨o1, o2⟩ := own _ _ _ rfl rfl
  rw [rv.none_inv]
  refine ⟨rfl, ?_⟩
  have isNew : ∀ {a : Addr}, ((hh.push emptyDict).push (instObj Cc hh.objs.size)).get? a = none → hh.get? a = none := fun {a} z => by
    cases e : hh.get? a with
    | none => rfl
    | some o1 => exact (keep a o1 e).symm.trans z
  have leΦ : Le Φ' fun b o => Φ' b o ∨ (OwnAt h' (.ref (hh.objs.size + 1)) b ∧ h'.get? b = some o) := fun zz zz h=> .inl h
  refine k _ (fun b o => Φ' b o ∨ (OwnAt h' (.ref (hh.objs.size + 1)) b ∧ h'.get? b = some o)) h' tk (le.trans leΦ) (I.grow (fun b o e => old b o (keep b o e) fun ⟨v0, d0, e1, y⟩ => ?_) (le.trans leΦ) fun a o q => ?_) ?_
  · exact ns ((at0 b ((sp e1).1 ▸ y)).symm.trans e)
  · rcases q with q | ⟨q, q'⟩
    · rcases new a o q with z | z | ⟨v0, d0, e1, y⟩
      · exact .inl z
      · refine .inr ⟨?_, ph a o q⟩
        exact isNew z
      · exact .inr ⟨at0 a ((sp e1).1 ▸ y), ph a o q⟩
    · refine .inr ⟨?_, q'⟩
      rcases (o2 a q).2 with z | ⟨v0, d0, e1, y⟩
      · exact isNew z
      · exact at0 a ((sp e1).1 ▸ y)
  · obtain ⟨a', dx', es', n', e3, g1, g2, ne, rf⟩ := o1.inst_inv
    injection e3 with e3
    subst e3
    exact .inst (.inr ⟨.inl rfl, g1⟩) (.inr ⟨.inr ⟨_, _, rfl, g1⟩, g2⟩) (rf.mono leΦ)

theorem snd_class (C : Cz prog w h₀ K g) (hL : SndL prog w h₀ o n) (hQ : SndQ o) (hB : ∀ p, SndB prog w ⟨h₀.heap, p⟩ o' m) (hK : ∀ f ss, o.K f ss = stepK o' f ss) (Rm : ∀ {A} C vs, Room n A → RoomF m (A.under (.builtin "type.__call__" ⟨.ref C :: vs, []⟩))) {x : Str} {p pos : Pos} {args : List Expr} {f : FnRec} {Cc : Nat} {d : D} {env' : MEnv} (hg : env.isGlob x = true) (hf : lookS g.globals x = some (.cls Cc f))
    (e : callCls o env Cc f args = some (d, env')) {Q : Value → Shared → Prop} (I : Inv prog w h₀ Ψ Φ s.heap pe V env) (R : Room n A) (k : OkE prog w h₀ Ψ Φ s pe V env' d Q) : wpAny (model prog w) A (eval (.Call (.Name x p) args [] pos) pe) Q NoE s := by
  refine bo2 e fun ds env1 hl e => bo2 e fun d1 sl hKe e => bo2 e fun C' fs hsl e => bi e fun hn e => ?_
  have k := okE_eq e k
  obtain ⟨F, hc⟩ := C.clsFn _ _ _ hf
  have hk : keepIn K (.ref Cc) = true := by
    simp only [clsOkB, Bool.and_eq_true] at hc
    exact hc.2
  refine Call_Name rfl (name_glob C.toCx I hg (C.clsAt _ _ _ hf) ?_)
  rw [hK, slotInst_some hsl, isNone_is hn] at hKe
  refine callWith_any hk (any_star (hQ _ _ _ hl)) (hL _ _ _ _ hl _ _ _ _ _ _ _ _ I R fun vs Φ2 h2 t2 le2 I2 r2 => ⟨frag_at C.toCx I2, ?_⟩)
  exact call_class C.toCx F hc hB hKe r2 I2 (Rm _ _ R) (OkE.later k le2)
/-! methods of instances -/
set_option tactic.hygienic true in
theorem getL_none {x : Str} : ∀ {es : List DictEntry} {fs : List (Str × D)}, RepF prog w Φ es fs → fget fs x = none → getL x es = some none
  | _, _, .nil, _ => rfl
  | _, _, .cons (x := y) (t := t) (v := v) (es := es) h r, e => by
    unfold fget at e
    split at e
    · exact nomatch e
    · rename_i q
      have ih := getL_none r e
      unfold getL at ih ⊢
      have ne : ¬ (Value.isStr (.str y t) x) = true := fun z => q (seq_iff.mpr (by simpa [Value.isStr] using z))
      rw [List.find?_cons_of_neg (p := fun (e : DictEntry) => e.key.isStr x) ne]
      exact ih
theorem snd_methI (C : Cz prog w h₀ K g) (hE : SndE prog w h₀ o n) (hL : SndL prog w h₀ o n) (hQ : SndQ o) (hB : ∀ p, SndB prog w ⟨h₀.heap, p⟩ o' m) (hK : ∀ f ss, o.K f ss = stepK o' f ss) (Rm : ∀ {A}, Room n A → RoomF m A) {recv : Expr} {nm : Str} {apos pos : Pos} {args : List Expr} {Cc : Nat} {fs : List (Str × D)} {f : FnRec} {ds : List D} {d' : D} {fst : Slot} {env1 env2 : MEnv} (hb : plainBase recv = true) (hc : callOk apos pos args = true)
    (e1 : o.E env recv = some (.inst Cc fs, env1)) (e2 : o.L env1 args = some (ds, env2)) (hn : (fget fs nm).isNone = true) (hm : lookM g.methods Cc nm = some f) (e3 : o.K f (.dat (.inst Cc fs) :: dats ds) = some (d', fst)) {Q : Value → Shared → Prop} (I : Inv prog w h₀ Ψ Φ s.heap pe V env) (R : Room n A) (k : OkE prog w h₀ Ψ Φ s pe V env2 d' Q) :
    wpAny (model prog w) A (eval (.Call (.Attribute recv nm apos) args [] pos) pe) Q NoE s := by
  have hp := hQ _ _ _ e2
  obtain ⟨F, hmk⟩ := C.mth _ _ _ hm
  have hk : keepIn K (.ref f.addr) = true := let ⟨_, _, _, _, _, F⟩ := F; F.keep
  simp only [mthOkB, Bool.and_eq_true, beq_iff_eq] at hmk
  obtain ⟨⟨m1, m2⟩, m3⟩ := hmk
  obtain ⟨h1, h2⟩ := callOk_of hc
  have hform : methodCallForm (args.length + ([] : List Keyword).length) (backTo pos (starEach args pe)) (backToKw pos (keywordEach [] pe)) = true := form_of hp h2
  have hpos : methodCallPos true recv pe apos pos = pure pos := by unfold methodCallPos; simp [h1]
  rw [arm_eval_Call, attributeBase_plain hb]
  refine wpAny_bind (hE _ _ _ _ e1 _ _ _ _ _ _ _ I R fun v Φ1 h1 t1 le1 I1 r1 => ?_)
  refine wpAny_bind (wpAny_standAt ?_)
  unfold methodCall
  rw [hform]
  have X := frag_at C.toCx I1
  have r1' := r1
  obtain ⟨ax, dx, es, mm, rfl, g1, g2, rf⟩ := r1.inst_inv
  · have IA : InstAt h1 _ (instObj _ _) Cc (some (dictOf _ _)) := ⟨I1.phi _ _ g1, rfl, rfl, I1.phi _ _ g2⟩
    have hn' : fget fs nm = none := by simpa using hn
    refine wpAny_bind (wpAny_holding (method_fn (s := { s with heap := h1, toks := t1 }) X IA (plainGet_of m1).1 (plainGet_of m1).2 m2 (beq_iff_eq.mp m3) (by show (lookIn nm (dictOf _ _)).map _ = _; rw [lookIn_dict, getL_none rf hn']; rfl) ?_))
    refine wpAny_bind (wpAny_of_eq hpos ?_)
    refine callWith_any hk (any_star hp) (hL _ _ _ _ e2 _ _ _ _ _ _ _ _ I1 R fun vs Φ2 h2 t2 le2 I2 r2 => ⟨frag_at C.toCx I2, ?_⟩)
    rw [hK] at e3
    exact call_plain C.toCx F hB (ds := .inst Cc fs :: ds) e3 (.cons (r1'.mono le2) r2) I2 (Rm R) (OkE.later k (le1.trans le2))
end
end Mine

set_option Elab.async false
set_option maxRecDepth 100000
namespace Mine
open PySem PySem.W PyProof.Rows PySem.Calls

section
variable {prog : Program} {w : World} {h₀ : Base} {h h' : Heap} {K : Frag} {g : Gt} {o o' : Orc} {n m : Nat} {Ψ Φ Φ' : Facts} {pe : PySem.Env} {V : Str → Option Value} {env : MEnv} {A : Around} {s : Shared}

/-- all that the steps lean on -/
structure Leans (prog : Program) (w : World) (h₀ : Base) (K : Frag) (g : Gt) (o o' : Orc) (n m : Nat) : Prop where
  C : Cz prog w h₀ K g
  P : SndP o
  Q : SndQ o
  E : SndE prog w h₀ o n
  T : SndT prog w h₀ o n
  L : SndL prog w h₀ o n
  S : SndS prog w h₀ o n
  B : SndB prog w h₀ o n
  low : ∀ p, SndB prog w ⟨h₀.heap, p⟩ o' m
  K : ∀ f ss, o.K f ss = stepK o' f ss
  room : ∀ {A}, Room n A → RoomF m A
  roomC : ∀ {A} C vs, Room n A → RoomF m (A.under (.builtin "type.__call__" ⟨.ref C :: vs, []⟩))

set_option tactic.hygienic true in
theorem snd_callName (X : Leans prog w h₀ K g o o' n m) {f : Str} {p pos : Pos} {args : List Expr} {d : D} {env' : MEnv} (e : callName g o env f args = some (d, env')) {Q : Value → Shared → Prop} (I : Inv prog w h₀ Ψ Φ s.heap pe V env) (R : Room n A)
    (k : OkE prog w h₀ Ψ Φ s pe V env' d Q) : wpAny (model prog w) A (eval (.Call (.Name f p) args [] pos) pe) Q NoE s := by
  refine bi e fun hg e => ?_
  unfold callGlob at e
  split at e
  · rename_i r hl
    exact snd_callFn X.C X.L X.Q X.low X.K X.room hg hl e I R k
  · rename_i Cc r hl
    exact snd_class X.C X.L X.Q X.low X.K X.roomC hg hl e I R k
  · exact (ns e).elim
  · rename_i hl
    have hn : (lookS g.globals f).isNone = true := by rw [hl]; rfl
    refine bie e (fun q e => bo2 e fun b env1 hb e => ?_) fun zz e=> bie e (fun q e2 => ?_) fun zz e=> snd_callB X.C.toCx X.L X.Q hg hn e I R k
    · have k := okE_eq e k
      obtain rfl := seq_iff.mp q
      exact snd_isinst X.C.toCy X.E X.P hg hn hb I R k
    · obtain rfl := seq_iff.mp q
      exact snd_len X.C.toCx X.E X.P hg hn e2 I R k
set_option tactic.hygienic true in
theorem snd_callMeth (X : Leans prog w h₀ K g o o' n m) {recv : Expr} {nm : Str} {apos pos : Pos} {args : List Expr} {d : D} {env' : MEnv} (hb : plainBase recv = true) (hc : callOk apos pos args = true) (e : callMeth g o env recv nm args = some (d, env')) {Q : Value → Shared → Prop}
    (I : Inv prog w h₀ Ψ Φ s.heap pe V env) (R : Room n A) (k : OkE prog w h₀ Ψ Φ s pe V env' d Q) : wpAny (model prog w) A (eval (.Call (.Attribute recv nm apos) args [] pos) pe) Q NoE s := by
  unfold callMeth at e
  split at e
  · rename_i x hr
    refine bo1 hr fun y hy hr => bo1 hr fun l hown hr => ?_
    obtain rfl := s1 hr
    obtain ⟨p, rfl⟩ := nameT_some hy
    exact snd_callOwn X.L X.Q hc hown e I R k
  · refine bo2 e fun d1 env1 h1 e => bo2 e fun ds env2 h2 e => ?_
    unfold callVal at e
    split at e
    · rename_i Cc fs hi
      refine bi e fun hn e => bo1 e fun f hm e => bo2 e fun d2 fst hK e => ?_
      rw [asInst_some hi] at h1 hK
      exact snd_methI X.C X.E X.L X.Q X.low X.K X.room hb hc h1 h2 hn hm hK I R (okE_eq e k)
    · exact bo1 e fun d2 hm e => snd_methD X.E X.L X.Q hb hc h1 h2 hm I R (okE_eq e k)
set_option tactic.hygienic true in
theorem snd_callE (X : Leans prog w h₀ K g o o' n m) {f : Expr} {args : List Expr} {kw : List Keyword} {pos : Pos} {d : D} {env' : MEnv} (e : callE g o env f args kw pos = some (d, env')) {Q : Value → Shared → Prop} (I : Inv prog w h₀ Ψ Φ s.heap pe V env) (R : Room n A)
    (k : OkE prog w h₀ Ψ Φ s pe V env' d Q) : wpAny (model prog w) A (eval (.Call f args kw pos) pe) Q NoE s := by
  refine bi e fun hk e2 => ?_
  obtain rfl := List.isEmpty_iff.mp hk
  clear e
  split at e2
  · rename_i x hx
    obtain ⟨p, rfl⟩ := nameT_some hx
    exact snd_callName X e2 I R k
  · refine bo1 e2 fun p hp e => bi e fun hc e => band hc fun h1 h2 => ?_
    rw [attrT_some hp]
    exact snd_callMeth X h1 h2 e I R k
theorem step_E (X : Leans prog w h₀ K g o o' n m) {x : Expr} {d : D} {env' : MEnv} (e : stepE g o env x = some (d, env')) {Q : Value → Shared → Prop} (I : Inv prog w h₀ Ψ Φ s.heap pe V env) (R : Room n A) (k : OkE prog w h₀ Ψ Φ s pe V env' d Q) :
    wpAny (model prog w) A (eval x pe) Q NoE s := by
  cases x with
  | Constant c i pos => exact bo1 e fun d1 hc e => snd_Constant hc I (okE_eq e k)
  | Name x pos => exact snd_Name X.C.toCx e I k
  | Attribute v n pos => exact snd_Attribute X.C.toCx X.E e I R k
  | Subscript v i pos => exact snd_Sub X.E e I R k
  | Tuple es i pos => exact snd_Tuple X.L e I R k
  | List es pos => exact snd_List X.L e I R k
  | Dict ks vs pos => exact snd_Dict X.E e I R k
  | UnaryOp op y pos => exact snd_Un X.E e I R k
  | BinOp l op r pos => exact snd_BinOp X.E e I R k
  | BoolOp op vs pos => exact snd_Bool X.E e I R k
  | Compare l ops rs pos => exact snd_Compare X.E e I R k
  | IfExp t a b pos => exact snd_IfExp X.E X.T e I R k
  | ListComp elt gens scope pos => exact snd_ListComp X.E X.T (snd_I X.C.toCx X.E X.L X.P X.Q) e I R k
  | Call f args kw pos => exact snd_callE X e I R k
  | _ => exact (ns e).elim
theorem step_plain {x : Expr} {r : D × MEnv} (e : stepE g o env x = some r) : plainExpr x = true := by
  cases x <;> first | rfl | exact (ns e).elim
theorem step_L_plain (hP : SndP o) (hQ : SndQ o) {es : List Expr} {r : List D × MEnv} (e : stepL o env es = some r) : es.all plainExpr = true := by
  cases es with
  | nil => rfl
  | cons x r =>
    refine bo2 e fun d env1 h1 e => bo2 e fun ds env2 h2 e => ?_
    rw [List.all_cons, hP _ _ _ h1, hQ _ _ _ h2]; rfl
set_option tactic.hygienic true in
theorem step_S (X : Leans prog w h₀ K g o o' n m) {st : Stmt} {fl : Fl} {env' : MEnv} (e : stepS g o env st = some (fl, env')) {Q : Flow → Shared → Prop} (I : Inv prog w h₀ Ψ Φ s.heap pe V env) (R : Room n A) (k : OkS prog w h₀ Ψ Φ s pe env' fl Q) :
    wpAny (model prog w) A (exec st pe) Q NoE s := by
  have hI := snd_I X.C.toCx X.E X.L X.P X.Q
  cases st with
  | Expr x pos => exact bn e fun hc e => snd_ExprS X.E hc e I R k
  | Return x pos =>
    refine bo1 e fun y hy e => ?_
    subst hy
    exact snd_Return X.E e I R k
  | If t b c pos => exact snd_If X.B X.T e I R k
  | Assign ts v pos =>
    refine bo1 e fun t ht e => bo1 e fun env1 ha e => ?_
    have k := okS_eq e k
    rw [oneE_some ht]
    have kk : OkU prog w h₀ Ψ Φ s pe env1 fun zz=> Q .next := fun V' Φ' h' tk le I' => k .next V' Φ' h' tk le I' trivial
    exact snd_Assign X.C.toCx X.E X.L ha I R kk fun {x p elt gens scope p'} h => bo2 h fun d env2 hcomp hb => snd_CompAssign X.E X.T hI hcomp hb I R kk
  | For t it b e' pos =>
    refine bi e fun hc e2 => band hc fun h1 h2 => ?_
    obtain rfl := List.isEmpty_iff.mp h1
    exact snd_For X.B hI (by simpa using h2) e2 I R k
  | While t b e' pos =>
    refine bi e fun h1 e2 => ?_
    obtain rfl := List.isEmpty_iff.mp h1
    exact snd_While X.B X.T e2 I R k
  | _ => exact (ns e).elim
/-- everything at one fuel -/
structure Sound (prog : Program) (w : World) (H : Heap) (o : Orc) (n : Nat) : Prop where
  P : SndP o
  Q : SndQ o
  E : ∀ p, SndE prog w ⟨H, p⟩ o n
  T : ∀ p, SndT prog w ⟨H, p⟩ o n
  L : ∀ p, SndL prog w ⟨H, p⟩ o n
  S : ∀ p, SndS prog w ⟨H, p⟩ o n
  B : ∀ p, SndB prog w ⟨H, p⟩ o n
theorem sound_bot (prog : Program) (w : World) (H : Heap) (n : Nat) : Sound prog w H .bot n where
  P := fun zz zz zz e=> nomatch e
  Q := fun zz zz zz e=> nomatch e
  E := fun zz zz zz zz zz e=> nomatch e
  T := fun zz zz zz zz zz e=> nomatch e
  L := fun zz zz zz zz zz e=> nomatch e
  S := fun zz zz zz zz zz e=> nomatch e
  B := fun zz zz zz zz zz e=> nomatch e
theorem sound_step {H : Heap} (C : ∀ p, Cz prog w ⟨H, p⟩ K g) (X : Sound prog w H o (n + 1)) (hlow : ∀ p, SndB prog w ⟨H, p⟩ o' n) (hK : ∀ f ss, o.K f ss = stepK o' f ss) : Sound prog w H (stepO g o) (n + 2) := by
  have lean : ∀ p, Leans prog w ⟨H, p⟩ K g o o' (n + 1) n := fun p => ⟨C p, X.P, X.Q, X.E p, X.T p, X.L p, X.S p, X.B p, hlow, hK, fun r => r.call, fun C vs r => r.make C vs⟩
  exact {
    P := fun env e r h => step_plain (env := env) h
    Q := fun env es r h => step_L_plain (env := env) X.P X.Q h
    E := fun p env e d env' h Ψ Φ s pe V A Q I R k => step_E (lean p) h I R.less k
    T := fun p env e d env' h Ψ Φ s pe V A Q I R k => snd_T (X.E p) (X.T p) h I R.less k
    L := fun p env e d env' h Ψ Φ s pe V A pos Q I R k => snd_L (X.E p) (X.L p) X.P h I R.less k
    S := fun p env e d env' h Ψ Φ s pe V A Q I R k => step_S (lean p) h I R.less k
    B := fun p env e d env' h Ψ Φ s pe V A Q I R k => snd_B (X.S p) (X.B p) h I R.less k }
theorem bot_K (f : FnRec) (ss : List Slot) : Orc.bot.K f ss = stepK .bot f ss := by
  unfold stepK
  cases bindAll f.params (padded f ss) <;> rfl
theorem sound_ev {H : Heap} (C : ∀ p, Cz prog w ⟨H, p⟩ K g) : ∀ n, Sound prog w H (ev g n) (n + 1)
  | 0 => sound_bot prog w H 1
  | 1 => sound_step C (o := .bot) (o' := .bot) (n := 0) (sound_bot prog w H 1) (sound_bot prog w H 0).B bot_K
  | n + 2 => sound_step C (o := ev g (n + 1)) (o' := ev g n) (sound_ev C (n + 1)) (sound_ev C n).B fun zz zz=> rfl
end
end Mine

set_option Elab.async false
set_option maxRecDepth 100000
namespace Mine
open PySem PySem.W PyProof.Rows PySem.Calls

/-! what the written part says of a function, as tests -/
noncomputable def fdAt (K : Frag) (a : Addr) : Option FuncData := match K.lookup a with
  | some ⟨_, _, .func fd, _⟩ => some fd
  | _ => none
noncomputable def dfOk : D → Bool
  | .none => true
  | .bool _ => true
  | _ => false
noncomputable def dfV : D → Value
  | .bool b => .bool b
  | _ => .none
noncomputable def fnKindB : ScopeKind → Bool
  | .function => true
  | _ => false
noncomputable def fdB (K : Frag) (f : FnRec) (fd : FuncData) : Bool :=
  fnKindB fd.scope.kind && (!fd.scope.isCoroutine && (!fd.scope.isGenerator && (Nat.beq fd.globals mainGlobals && (Nat.beq fd.builtins builtinsNs && (fd.closure.isEmpty && (codeIn K fd.code fd.qualname && (fnNames f.names && (parOk f.names f.params && f.dflts.all dfOk))))))))
noncomputable def vecN (v1 v2 v3 v4 v5 v6 : Value) : Nat → List Value
  | 0 => []
  | 1 => [v1]
  | 2 => [v1, v2]
  | 3 => [v1, v2, v3]
  | 4 => [v1, v2, v3, v4]
  | 5 => [v1, v2, v3, v4, v5]
  | _ => [v1, v2, v3, v4, v5, v6]
noncomputable def bindN (K : Frag) (f : FnRec) (n : Nat) : Prop := ∀ (S : Setting) (v1 v2 v3 v4 v5 v6 : Value), (o1 (fdAt K f.addr) fun fd => peek K S (bindArgs fd ⟨vecN v1 v2 v3 v4 v5 v6 n, []⟩)) =
  some (f.params.zip (vecN v1 v2 v3 v4 v5 v6 n ++ (f.dflts.map dfV).drop ((f.dflts.map dfV).length + n - f.params.length)))
/-- the bindings, k of the defaults left out or fewer -/
noncomputable def bindsUp (K : Frag) (f : FnRec) : Nat → Prop
  | 0 => bindN K f f.params.length
  | k + 1 => bindN K f (f.params.length - (k + 1)) ∧ bindsUp K f k
structure FnC (K : Frag) (f : FnRec) : Prop where
  ok : (o1 (fdAt K f.addr) fun fd => some (fdB K f fd)) = some true
  body : (o1 (fdAt K f.addr) fun fd => some fd.body) = some (.stmts f.body)
  names : (o1 (fdAt K f.addr) fun fd => some fd.scope.names) = some f.names
  few : Nat.ble f.params.length 6 = true
  binds : bindsUp K f f.dflts.length
theorem bindsUp_at {K : Frag} {f : FnRec} : ∀ {k n : Nat}, bindsUp K f k → f.params.length ≤ n + k → n ≤ f.params.length → bindN K f n
  | 0, n, h, h1, h2 => Nat.le_antisymm h2 h1 ▸ h
  | k + 1, n, h, h1, h2 => by
    rcases Nat.lt_or_ge (n + k) f.params.length with q | q
    · have e : f.params.length - (k + 1) = n := by omega
      exact e ▸ h.1
    · exact bindsUp_at h.2 q h2
theorem vec_of {vals : List Value} (h : vals.length ≤ 6) : ∃ v1 v2 v3 v4 v5 v6, vals = vecN v1 v2 v3 v4 v5 v6 vals.length := by
  match vals with
  | [] => exact ⟨.none, .none, .none, .none, .none, .none, rfl⟩
  | [a] => exact ⟨a, .none, .none, .none, .none, .none, rfl⟩
  | [a, b] => exact ⟨a, b, .none, .none, .none, .none, rfl⟩
  | [a, b, c] => exact ⟨a, b, c, .none, .none, .none, rfl⟩
  | [a, b, c, d] => exact ⟨a, b, c, d, .none, .none, rfl⟩
  | [a, b, c, d, e] => exact ⟨a, b, c, d, e, .none, rfl⟩
  | [a, b, c, d, e, f] => exact ⟨a, b, c, d, e, f, rfl⟩
  | _ :: _ :: _ :: _ :: _ :: _ :: _ :: _ => exact absurd h (by simp)
section
variable {prog : Program} {w : World}
theorem dflts_reps {Φ : Facts} : ∀ {l : List D}, l.all dfOk = true → Reps prog w Φ (l.map dfV) l
  | [], _ => .nil
  | d :: l, h => by
    rw [List.all_cons, Bool.and_eq_true] at h
    refine .cons ?_ (dflts_reps h.2)
    cases d with
    | none => exact .none
    | bool b => exact .bool b
    | _ => exact absurd h.1 Bool.false_ne_true
set_option tactic.hygienic true in
theorem fdAt_some {K : Frag} {a : Addr} {fd : FuncData} (e : fdAt K a = some fd) : ∃ oc od osl, K.lookup a = some ⟨oc, od, .func fd, osl⟩ := by
  unfold fdAt at e
  split at e
  · rename_i oc od fd' osl h
    exact ⟨oc, od, osl, s1 e ▸ h⟩
  · exact nomatch e
theorem fnOk_of {K : Frag} {f : FnRec} (F : FnC K f) : FnOk prog w K f := by
  refine bo1 F.ok fun fd hfd ok => ?_
  obtain ⟨oc, od, osl, hl⟩ := fdAt_some hfd
  have hb := F.body
  have hn := F.names
  rw [hfd] at hb hn
  refine band (s1 ok) fun a1 ok => band ok fun a2 ok => band ok fun a3 ok => band ok fun a4 ok => band ok fun a5 ok => band ok fun a6 ok => band ok fun a7 ok => band ok fun a8 ok => band ok fun a9 a10 => ?_
  refine ⟨oc, od, osl, fd, f.dflts.map dfV, hl, s1 hb, s1 hn, ?_, by simpa using a2, by simpa using a3, Nat.eq_of_beq_eq_true a4, Nat.eq_of_beq_eq_true a5, List.isEmpty_iff.mp a6, a7, dflts_reps a10, fun vals h1 h2 s X => ?_, a8, a9⟩
  · cases h : fd.scope.kind <;> rw [h] at a1 <;> first | rfl | exact absurd a1 Bool.false_ne_true
  · rw [List.length_map] at h1
    obtain ⟨v1, v2, v3, v4, v5, v6, hv⟩ := vec_of (Nat.le_trans h2 (Nat.le_of_ble_eq_true F.few))
    refine kp_binds X fun S => ?_
    have := bindsUp_at F.binds h1 h2 S v1 v2 v3 v4 v5 v6
    rw [hfd, ← hv] at this
    exact this
end
end Mine

set_option Elab.async false
set_option maxRecDepth 100000
namespace Mine
open PySem PySem.W PyProof.Rows PySem.Calls

noncomputable def tupAt (K : Frag) (a : Addr) : Option (List Value × Nat) := match K.lookup a with
  | some ⟨.type t, .none, .seq vs n, sl⟩ => if (t == "tuple") && sl.isEmpty then some (vs.toList, n) else .none
  | _ => .none
noncomputable def strB (v : Value) (d : D) : Bool := match v with
  | .str t _ => (match d with
    | .str s => seq s t
    | _ => false)
  | _ => false
noncomputable def strsB : List Value → List D → Bool
  | [], [] => true
  | v :: vs, d :: l => strB v d && strsB vs l
  | _, _ => false
/-- a value of a global name -/
noncomputable def litB (K : Frag) (d : D) (v : Value) : Bool := match d with
  | .int i => (match v with
    | .int j _ => i == j
    | _ => false)
  | .str s => (match v with
    | .str t _ => seq s t
    | _ => false)
  | .tup l => (match v with
    | .ref a => (match tupAt K a with
      | some p => strsB p.1 l
      | .none => false)
    | _ => false)
  | _ => false
noncomputable def refIn (K : Frag) (x : Str) (a : Addr) : Bool := match nsIn K mainGlobals x with
  | some (some (.ref b)) => Nat.beq b a
  | _ => false
noncomputable def globB (K : Frag) (x : Str) : GV → Bool
  | .fn f => refIn K x f.addr
  | .cls C f => refIn K x C && clsOkB K C f.addr
  | .val (.dict _) => true
  | .val d => (match nsIn K mainGlobals x with
    | some (some v) => litB K d v
    | _ => false)
noncomputable def globsB (K : Frag) : List (Str × GV) → Bool
  | [] => true
  | p :: r => if globB K p.1 p.2 then globsB K r else false
noncomputable def fncG (K : Frag) : List (Str × GV) → Prop
  | [] => True
  | (_, .fn f) :: r => FnC K f ∧ fncG K r
  | (_, .cls _ f) :: r => FnC K f ∧ fncG K r
  | _ :: r => fncG K r
noncomputable def mthsB (K : Frag) : List (Nat × Str × FnRec) → Bool
  | [] => true
  | (C, m, f) :: r => if mthOkB K C m f.addr then mthsB K r else false
noncomputable def fncM (K : Frag) : List (Nat × Str × FnRec) → Prop
  | [] => True
  | (_, _, f) :: r => FnC K f ∧ fncM K r
noncomputable def fldsB (K : Frag) : List (Nat × Str) → Bool
  | [] => true
  | (C, x) :: r => if fieldOkB K C x && storeOkB K C x then fldsB K r else false
noncomputable def bltsB (K : Frag) (gl : List (Str × GV)) : List Str → Bool
  | [] => true
  | x :: r => if (if (lookS gl x).isNone then (match nsIn K mainGlobals x with
    | some .none => true
    | _ => false) else true) then bltsB K gl r else false
/-- the rows of a table whose keys are texts -/
structure TabRow where
  key : Str
  t : Tok
  val : Int
  u : Tok
noncomputable def tabE (P : Params) : List TabRow → List DictEntry
  | [] => []
  | r :: l => ⟨PyData.keyHash P r.key, .str r.key r.t, .int r.val r.u⟩ :: tabE P l
noncomputable def tabD : List TabRow → List (D × D)
  | [] => []
  | r :: l => (.str r.key, .int r.val) :: tabD l
noncomputable def tabV : List TabRow → List (Str × Value)
  | [] => []
  | r :: l => (r.key, .int r.val r.u) :: tabV l
noncomputable def TabOk (P : Params) (K : Frag) (x : Str) (l : List (D × D)) : Prop := ∃ a rows n, nsIn K mainGlobals x = some (some (.ref a)) ∧ K.lookup a = some { cls := .type "dict", data := .dict (tabE P rows).toArray n } ∧ l = tabD rows ∧ ((tabV rows).map (·.1)).Nodup ∧ a ≠ sysModules
noncomputable def dictGV : GV → Option (List (D × D))
  | .val d => asDict d
  | _ => .none
noncomputable def tabG (P : Params) (K : Frag) : List (Str × GV) → Prop
  | [] => True
  | p :: r => (match dictGV p.2 with
    | some l => TabOk P K p.1 l ∧ tabG P K r
    | .none => tabG P K r)
/-- what the written part and the tables g must say of each other -/
structure KC (P : Params) (K : Frag) (g : Gt) : Prop where
  globs : globsB K g.globals = true
  fns : fncG K g.globals
  mths : mthsB K g.methods = true
  fnm : fncM K g.methods
  flds : fldsB K g.fields = true
  blts : bltsB K g.globals bltNames = true
  isi : isiB K g.classes = true
  tabs : tabG P K g.globals
section
variable {prog : Program} {w : World} {h : Heap} {K : Frag} {g : Gt}
set_option tactic.hygienic true in
theorem lookS_mem {α : Type} {x : Str} {v : α} : ∀ {l : List (Str × α)}, lookS l x = some v → (x, v) ∈ l
  | [], e => nomatch e
  | (y, k) :: r, e => by
    unfold lookS at e
    split at e
    · rename_i q
      rw [← s1 e, seq_iff.mp q]; exact .head _
    · exact .tail _ (lookS_mem e)
theorem lookM_mem {C : Nat} {m : Str} {f : FnRec} : ∀ {l : List (Nat × Str × FnRec)}, lookM l C m = some f → (C, m, f) ∈ l
  | [], e => nomatch e
  | (c, y, k) :: r, e => by
    refine bie e (fun q e => bie e (fun q' e => ?_) fun zz e=> .tail _ (lookM_mem e)) fun zz e=> .tail _ (lookM_mem e)
    rw [← s1 e, seq_iff.mp q', Nat.eq_of_beq_eq_true q]; exact .head _
set_option tactic.hygienic true in
theorem fieldIn_mem {C : Nat} {x : Str} : ∀ {l : List (Nat × Str)}, fieldIn l C x = true → (C, x) ∈ l
  | [], e => nomatch e
  | (c, y) :: r, e => by
    unfold fieldIn at e
    split at e
    · rename_i q
      split at e
      · rename_i q'
        rw [seq_iff.mp q', Nat.eq_of_beq_eq_true q]; exact .head _
      · exact .tail _ (fieldIn_mem e)
    · exact .tail _ (fieldIn_mem e)
theorem globsB_at {x : Str} {v : GV} : ∀ {l : List (Str × GV)}, globsB K l = true → (x, v) ∈ l → globB K x v = true
  | p :: r, e, h => by
    obtain ⟨a, b⟩ := ite_true_and e
    rcases List.mem_cons.mp h with z | h
    · subst z; exact a
    · exact globsB_at b h
theorem mthsB_at {C : Nat} {x : Str} {v : FnRec} : ∀ {l : List (Nat × Str × FnRec)}, mthsB K l = true → (C, x, v) ∈ l → mthOkB K C x v.addr = true
  | (c, y, f) :: r, e, h => by
    obtain ⟨a, b⟩ := ite_true_and e
    rcases List.mem_cons.mp h with z | h
    · injection z with z1 z
      injection z with z2 z3
      subst z1 z2 z3; exact a
    · exact mthsB_at b h
theorem fldsB_at {C : Nat} {x : Str} : ∀ {l : List (Nat × Str)}, fldsB K l = true → (C, x) ∈ l → fieldOkB K C x = true ∧ storeOkB K C x = true
  | (c, y) :: r, e, h => by
    obtain ⟨a, b⟩ := ite_true_and e
    rcases List.mem_cons.mp h with z | h
    · injection z with z1 z2
      subst z1 z2; exact Bool.and_eq_true_iff.mp a
    · exact fldsB_at b h
theorem bltsB_at {x : Str} {gl : List (Str × GV)} : ∀ {l : List Str}, bltsB K gl l = true → x ∈ l → (lookS gl x).isNone = true → nsIn K mainGlobals x = some .none
  | y :: r, e, h, n => by
    obtain ⟨a, b⟩ := ite_true_and e
    rcases List.mem_cons.mp h with z | h
    · subst z
      rw [if_pos n] at a
      split at a
      · assumption
      · exact absurd a Bool.false_ne_true
    · exact bltsB_at b h n
theorem fncG_at {x : Str} {v : GV} : ∀ {l : List (Str × GV)}, fncG K l → (x, v) ∈ l → (∀ f, v = .fn f → FnC K f) ∧ ∀ C f, v = .cls C f → FnC K f
  | (y, u) :: r, e, h => by
    have tail : fncG K r := by cases u <;> first | exact e.2 | exact e
    rcases List.mem_cons.mp h with z | h
    · injection z with z1 z2
      subst z1 z2
      exact ⟨fun f q => by subst q; exact e.1, fun C f q => by subst q; exact e.1⟩
    · exact fncG_at tail h
theorem tabG_at {P : Params} {x : Str} {l : List (D × D)} : ∀ {gl : List (Str × GV)}, tabG P K gl → (x, .val (.dict l)) ∈ gl → TabOk P K x l
  | p :: r, e, h => by
    have e : (match dictGV p.2 with
      | some l => TabOk P K p.1 l ∧ tabG P K r
      | .none => tabG P K r) := e
    rcases List.mem_cons.mp h with z | h
    · subst z; exact e.1
    · refine tabG_at ?_ h
      split at e
      · exact e.2
      · exact e
theorem fncM_at {C : Nat} {x : Str} {v : FnRec} : ∀ {l : List (Nat × Str × FnRec)}, fncM K l → (C, x, v) ∈ l → FnC K v
  | (c, y, f) :: r, e, h => by
    rcases List.mem_cons.mp h with z | h
    · injection z with z1 z
      injection z with z2 z3
      subst z1 z2 z3; exact e.1
    · exact fncM_at e.2 h
set_option tactic.hygienic true in
theorem refIn_is {x : Str} {a : Addr} (e : refIn K x a = true) : nsIn K mainGlobals x = some (some (.ref a)) := by
  unfold refIn at e
  split at e
  · rename_i b hb
    rw [hb, Nat.eq_of_beq_eq_true e]
  · exact absurd e Bool.false_ne_true
theorem strB_rep {Φ : Facts} {v : Value} {d : D} (e : strB v d = true) : Rep prog w Φ v d := by
  unfold strB at e
  split at e
  · split at e
    · rw [seq_iff.mp e]; exact .str _ _
    · exact absurd e Bool.false_ne_true
  · exact absurd e Bool.false_ne_true
theorem strsB_reps {Φ : Facts} : ∀ {vs : List Value} {l : List D}, strsB vs l = true → Reps prog w Φ vs l
  | [], [], _ => .nil
  | v :: vs, d :: l, e => band e fun e1 e2 => .cons (strB_rep e1) (strsB_reps e2)
  | [], _ :: _, e => absurd e Bool.false_ne_true
  | _ :: _, [], e => absurd e Bool.false_ne_true
set_option tactic.hygienic true in
theorem tupAt_is {a : Addr} {p : List Value × Nat} (e : tupAt K a = some p) : K.lookup a = some (tupObj p.1 p.2) := by
  unfold tupAt at e
  split at e
  · rename_i t vs n sl hl
    refine bi e fun c e => band c fun c1 c2 => ?_
    rw [hl, ← s1 e, beq_iff_eq.mp c1, Array.isEmpty_iff.mp c2]
  · exact nomatch e
set_option tactic.hygienic true in
theorem litB_rep {d : D} {v : Value} (X : K.In h) (e : litB K d v = true) : Rep prog w (fun a o => h.get? a = some o) v d := by
  unfold litB at e
  split at e
  · split at e
    · rw [beq_iff_eq.mp e]; exact .int _ _
    · exact absurd e Bool.false_ne_true
  · split at e
    · rw [seq_iff.mp e]; exact .str _ _
    · exact absurd e Bool.false_ne_true
  · split at e
    · split at e
      · rename_i p hp
        exact .tup (X _ _ (tupAt_is hp)) (strsB_reps e)
      · exact absurd e Bool.false_ne_true
    · exact absurd e Bool.false_ne_true
  · exact absurd e Bool.false_ne_true
theorem tab_keys {rows : List TabRow} {e : DictEntry} (h : e ∈ tabE w.params rows) : ∃ k, (strKind prog w).is k e.key = true ∧ e.hash = (strKind prog w).hash k := by
  induction rows with
  | nil => exact nomatch h
  | cons r l ih =>
    rcases List.mem_cons.mp h with z | h
    · exact z ▸ ⟨r.key, strKind_is prog w _ _, rfl⟩
    · exact ih h
theorem tab_pairs : ∀ rows : List TabRow, Pairs (strKind prog w) (tabE w.params rows) (tabV rows)
  | [] => .nil
  | r :: l => .cons (strKind_is prog w _ _) rfl (tab_pairs l)
theorem tab_repK {Φ : Facts} : ∀ rows : List TabRow, RepK prog w Φ ((tabV rows).map fun p => (D.str p.1, p.2)) (tabD rows)
  | [] => .nil
  | r :: l => .cons (.int _ _) (tab_repK l)
set_option tactic.hygienic true in
theorem cz_of {h₀ : Base} (C : KC w.params K g) (X : K.In h₀.heap) (T : ∃ p loose mg mb, TopRead p loose mg mb h₀.heap) : Cz prog w h₀ K g where
  KX := X
  T := T
  gval := fun x d e => by
    have hm := globsB_at C.globs (lookS_mem e)
    have gen : (match nsIn K mainGlobals x with
      | some (some v) => litB K d v
      | _ => false) = true → ∃ v, nsIn K mainGlobals x = some (some v) ∧ Rep prog w (fun a o => h₀.heap.get? a = some o) v d := fun q => by
      split at q
      · rename_i v hv
        exact ⟨v, hv, litB_rep X q⟩
      · exact absurd q Bool.false_ne_true
    cases d with
    | dict l =>
      obtain ⟨a, rows, n, h1, h2, rfl, h4, h5⟩ := tabG_at C.tabs (lookS_mem e)
      refine ⟨_, h1, .dict (X _ _ h2) h5 (.sk (kvs := tabV rows) ⟨_, _, ⟨rfl, rfl, rfl⟩, rfl, fun e he => tab_keys (Array.mem_toList_iff.mpr he), tab_pairs rows, h4⟩ (tab_repK rows))⟩
    | _ => exact gen hm
  fld := fun C' x e => (fldsB_at C.flds (fieldIn_mem e)).1
  fst := fun C' x e => (fldsB_at C.flds (fieldIn_mem e)).2
  blt := fun x hx hn => bltsB_at C.blts hx hn
  clsAt := fun x C' f e => refIn_is (Bool.and_eq_true_iff.mp (globsB_at C.globs (lookS_mem e))).1
  isi := C.isi
  fnAt := fun x f e => ⟨refIn_is (globsB_at C.globs (lookS_mem e)), fnOk_of ((fncG_at C.fns (lookS_mem e)).1 f rfl)⟩
  clsFn := fun x C' f e => ⟨fnOk_of ((fncG_at C.fns (lookS_mem e)).2 C' f rfl), (Bool.and_eq_true_iff.mp (globsB_at C.globs (lookS_mem e))).2⟩
  mth := fun C' m f e => ⟨fnOk_of (fncM_at C.fnm (lookM_mem e)), mthsB_at C.mths (lookM_mem e)⟩
end
end Mine

set_option Elab.async false
set_option maxRecDepth 100000
namespace Mine
open PySem
/-! the tables of this program -/
noncomputable def st (i : Nat) : Option Stmt := PySem.Challenge.pw_pb0496_01.main.body[i]?
noncomputable def stIn (i j : Nat) : Option Stmt := match st i with
  | some (.ClassDef _ _ _ b _ _ _ _ _ _ _) => b[j]?
  | _ => .none
noncomputable def dfE : Expr → D
  | .Constant (.bool b) _ _ => .bool b
  | _ => .none
noncomputable def recS (addr : Nat) (bor : Bool) (s : Option Stmt) : FnRec := match s with
  | some (.FunctionDef _ a b _ _ _ sc _ _ _) => { addr, params := a.args.map (·.arg), body := b, names := sc.names, borrows := bor, dflts := a.defaults.map dfE }
  | _ => { addr, params := [], body := [], names := [] }
noncomputable def f_kind_of : FnRec := recS 265 false (st 13)
noncomputable def f_told_plain : FnRec := recS 272 false (st 14)
noncomputable def f_told : FnRec := recS 277 false (st 15)
noncomputable def f_home_of : FnRec := recS 415 false (st 23)
noncomputable def f_is_node : FnRec := recS 422 false (st 24)
noncomputable def f_kids_of : FnRec := recS 429 false (st 25)
noncomputable def f_met : FnRec := recS 436 false (st 26)
noncomputable def f_spots : FnRec := recS 443 false (st 27)
noncomputable def f_fields_of : FnRec := recS 450 false (st 28)
noncomputable def f_page_spots : FnRec := recS 455 false (st 29)
noncomputable def f_pages : FnRec := recS 460 false (st 30)
noncomputable def f_key_of : FnRec := recS 467 false (st 33)
noncomputable def f_node_of : FnRec := recS 474 false (st 34)
noncomputable def f_row_of : FnRec := recS 481 false (st 35)
noncomputable def f_node_pairs : FnRec := recS 486 false (st 36)
noncomputable def f_longer_way : FnRec := recS 500 false (st 38)
noncomputable def f_tree_pairs : FnRec := recS 505 false (st 39)
noncomputable def f_target_of : FnRec := recS 559 false (st 47)
noncomputable def f_names_root : FnRec := recS 566 false (st 48)
noncomputable def f_old_names : FnRec := recS 573 false (st 49)
noncomputable def f_destination_of : FnRec := recS 587 false (st 51)
noncomputable def f_page_index_of : FnRec := recS 592 false (st 52)
noncomputable def f_named : FnRec := recS 597 false (st 53)
noncomputable def f_octets_line : FnRec := recS 602 false (st 55)
noncomputable def f_rows_text : FnRec := recS 609 false (st 58)
noncomputable def f_target_told : FnRec := recS 616 false (st 59)
noncomputable def f_names_text : FnRec := recS 621 false (st 60)
noncomputable def f_law_draw : FnRec := recS 630 true (st 64)
noncomputable def f_law_goal : FnRec := recS 637 true (st 65)
noncomputable def f_law : FnRec := recS 642 false (st 66)
noncomputable def f_Decimal_new : FnRec := recS 75 false (stIn 5 0)
noncomputable def f_Name_new : FnRec := recS 180 false (stIn 9 0)
noncomputable def f_String_new : FnRec := recS 202 false (stIn 10 0)
noncomputable def f_Stream_new : FnRec := recS 223 false (stIn 11 0)
noncomputable def f_Reference_new : FnRec := recS 244 false (stIn 12 0)
noncomputable def f_Reference_pair : FnRec := recS 251 false (stIn 12 1)
noncomputable def f_Lookup_new : FnRec := recS 292 false (stIn 17 0)
noncomputable def f_Lookup_fetch : FnRec := recS 299 false (stIn 17 1)
noncomputable def f_Lookup_get : FnRec := recS 306 false (stIn 17 2)
noncomputable def f_Shelf_numbers : FnRec := recS 348 false (stIn 18 3)
noncomputable def f_Shelf_root : FnRec := recS 355 false (stIn 18 4)
noncomputable def f_Shelf_told : FnRec := recS 360 false (stIn 18 5)
noncomputable def f_Page_new : FnRec := recS 380 false (stIn 21 0)
noncomputable def f_Spot_new : FnRec := recS 401 false (stIn 22 0)
noncomputable def f_Target_new : FnRec := recS 540 false (stIn 45 0)
noncomputable def viewRows : List TabRow := [⟨⟨#[88, 89, 90]⟩, 895, 3, 896⟩, ⟨⟨#[70, 105, 116]⟩, 897, 0, 898⟩, ⟨⟨#[70, 105, 116, 72]⟩, 899, 1, 900⟩, ⟨⟨#[70, 105, 116, 86]⟩, 901, 1, 902⟩, ⟨⟨#[70, 105, 116, 82]⟩, 903, 4, 904⟩, ⟨⟨#[70, 105, 116, 66]⟩, 905, 0, 906⟩, ⟨⟨#[70, 105, 116, 66, 72]⟩, 907, 1, 908⟩, ⟨⟨#[70, 105, 116, 66, 86]⟩, 909, 1, 910⟩]
noncomputable def g0 : Gt where
  globals := [
    (⟨#[107, 105, 110, 100, 95, 111, 102]⟩, .fn f_kind_of),
    (⟨#[116, 111, 108, 100, 95, 112, 108, 97, 105, 110]⟩, .fn f_told_plain),
    (⟨#[116, 111, 108, 100]⟩, .fn f_told),
    (⟨#[104, 111, 109, 101, 95, 111, 102]⟩, .fn f_home_of),
    (⟨#[105, 115, 95, 110, 111, 100, 101]⟩, .fn f_is_node),
    (⟨#[107, 105, 100, 115, 95, 111, 102]⟩, .fn f_kids_of),
    (⟨#[109, 101, 116]⟩, .fn f_met),
    (⟨#[115, 112, 111, 116, 115]⟩, .fn f_spots),
    (⟨#[102, 105, 101, 108, 100, 115, 95, 111, 102]⟩, .fn f_fields_of),
    (⟨#[112, 97, 103, 101, 95, 115, 112, 111, 116, 115]⟩, .fn f_page_spots),
    (⟨#[112, 97, 103, 101, 115]⟩, .fn f_pages),
    (⟨#[107, 101, 121, 95, 111, 102]⟩, .fn f_key_of),
    (⟨#[110, 111, 100, 101, 95, 111, 102]⟩, .fn f_node_of),
    (⟨#[114, 111, 119, 95, 111, 102]⟩, .fn f_row_of),
    (⟨#[110, 111, 100, 101, 95, 112, 97, 105, 114, 115]⟩, .fn f_node_pairs),
    (⟨#[108, 111, 110, 103, 101, 114, 95, 119, 97, 121]⟩, .fn f_longer_way),
    (⟨#[116, 114, 101, 101, 95, 112, 97, 105, 114, 115]⟩, .fn f_tree_pairs),
    (⟨#[116, 97, 114, 103, 101, 116, 95, 111, 102]⟩, .fn f_target_of),
    (⟨#[110, 97, 109, 101, 115, 95, 114, 111, 111, 116]⟩, .fn f_names_root),
    (⟨#[111, 108, 100, 95, 110, 97, 109, 101, 115]⟩, .fn f_old_names),
    (⟨#[100, 101, 115, 116, 105, 110, 97, 116, 105, 111, 110, 95, 111, 102]⟩, .fn f_destination_of),
    (⟨#[112, 97, 103, 101, 95, 105, 110, 100, 101, 120, 95, 111, 102]⟩, .fn f_page_index_of),
    (⟨#[110, 97, 109, 101, 100]⟩, .fn f_named),
    (⟨#[111, 99, 116, 101, 116, 115, 95, 108, 105, 110, 101]⟩, .fn f_octets_line),
    (⟨#[114, 111, 119, 115, 95, 116, 101, 120, 116]⟩, .fn f_rows_text),
    (⟨#[116, 97, 114, 103, 101, 116, 95, 116, 111, 108, 100]⟩, .fn f_target_told),
    (⟨#[110, 97, 109, 101, 115, 95, 116, 101, 120, 116]⟩, .fn f_names_text),
    (⟨#[95, 108, 97, 119, 95, 100, 114, 97, 119]⟩, .fn f_law_draw),
    (⟨#[95, 108, 97, 119, 95, 103, 111, 97, 108]⟩, .fn f_law_goal),
    (⟨#[108, 97, 119]⟩, .fn f_law),
    (⟨#[116, 111, 108, 100, 95, 111, 98, 106, 101, 99, 116, 115]⟩, .fn f_told),
    (⟨#[68, 101, 99, 105, 109, 97, 108]⟩, .cls 155 f_Decimal_new),
    (⟨#[78, 97, 109, 101]⟩, .cls 183 f_Name_new),
    (⟨#[83, 116, 114, 105, 110, 103]⟩, .cls 205 f_String_new),
    (⟨#[83, 116, 114, 101, 97, 109]⟩, .cls 226 f_Stream_new),
    (⟨#[82, 101, 102, 101, 114, 101, 110, 99, 101]⟩, .cls 254 f_Reference_new),
    (⟨#[83, 104, 101, 108, 102]⟩, .cls 363 f_Lookup_new),
    (⟨#[80, 97, 103, 101]⟩, .cls 383 f_Page_new),
    (⟨#[83, 112, 111, 116]⟩, .cls 404 f_Spot_new),
    (⟨#[84, 97, 114, 103, 101, 116]⟩, .cls 543 f_Target_new),
    (⟨#[77, 79, 83, 84, 95, 72, 79, 80, 83]⟩, .val (.int 30)),
    (⟨#[73, 78, 72, 69, 82, 73, 84, 69, 68]⟩, .val (.tup [.str ⟨#[82, 101, 115, 111, 117, 114, 99, 101, 115]⟩, .str ⟨#[77, 101, 100, 105, 97, 66, 111, 120]⟩, .str ⟨#[67, 114, 111, 112, 66, 111, 120]⟩, .str ⟨#[82, 111, 116, 97, 116, 101]⟩])),
    (⟨#[77, 79, 83, 84, 95, 68, 69, 69, 80]⟩, .val (.int 40)),
    (⟨#[78, 79, 84, 72, 73, 78, 71]⟩, .val (.str ⟨#[110, 111, 110, 101]⟩)),
    (⟨#[95, 108, 97, 119, 95, 110, 97, 109, 101, 115]⟩, .val (.tup [.str ⟨#[97]⟩, .str ⟨#[97, 98]⟩, .str ⟨#[98]⟩, .str ⟨#[90]⟩])),
    (⟨#[95, 108, 97, 119, 95, 118, 105, 101, 119, 115]⟩, .val (.tup [.str ⟨#[70, 105, 116]⟩, .str ⟨#[88, 89, 90]⟩, .str ⟨#[70, 105, 116, 72]⟩, .str ⟨#[70, 97, 116]⟩])),
    (⟨#[86, 73, 69, 87, 83]⟩, .val (.dict (tabD viewRows)))]
  methods := [(363, ⟨#[102, 101, 116, 99, 104]⟩, f_Lookup_fetch), (363, ⟨#[103, 101, 116]⟩, f_Lookup_get), (363, ⟨#[110, 117, 109, 98, 101, 114, 115]⟩, f_Shelf_numbers), (363, ⟨#[114, 111, 111, 116]⟩, f_Shelf_root), (363, ⟨#[116, 111, 108, 100]⟩, f_Shelf_told), (254, ⟨#[112, 97, 105, 114]⟩, f_Reference_pair)]
  fields := [(183, ⟨#[116, 101, 120, 116]⟩), (205, ⟨#[111, 99, 116, 101, 116, 115]⟩), (205, ⟨#[105, 115, 95, 104, 101, 120]⟩), (254, ⟨#[110, 117, 109, 98, 101, 114]⟩), (254, ⟨#[103, 101, 110, 101, 114, 97, 116, 105, 111, 110]⟩), (363, ⟨#[116, 97, 98, 108, 101]⟩), (363, ⟨#[116, 114, 97, 105, 108, 101, 114]⟩), (383, ⟨#[114, 101, 102, 101, 114, 101, 110, 99, 101]⟩), (383, ⟨#[102, 105, 101, 108, 100, 115]⟩), (404, ⟨#[114, 101, 102, 101, 114, 101, 110, 99, 101]⟩), (404, ⟨#[104, 101, 97, 100]⟩), (404, ⟨#[97, 98, 111, 118, 101]⟩), (404, ⟨#[105, 110, 104, 101, 114, 105, 116, 101, 100]⟩), (404, ⟨#[105, 115, 95, 112, 97, 103, 101]⟩), (543, ⟨#[112, 97, 103, 101]⟩), (543, ⟨#[118, 105, 101, 119]⟩), (543, ⟨#[110, 117, 109, 98, 101, 114, 115]⟩)]
  classes := [155, 183, 205, 226, 254]
end Mine

set_option Elab.async false
set_option maxRecDepth 100000
namespace Mine
open PySem
/-! the law's data as trees -/
noncomputable def w_number : Str := ⟨#[110, 117, 109, 98, 101, 114]⟩
noncomputable def w_generation : Str := ⟨#[103, 101, 110, 101, 114, 97, 116, 105, 111, 110]⟩
noncomputable def w_text : Str := ⟨#[116, 101, 120, 116]⟩
noncomputable def w_octets : Str := ⟨#[111, 99, 116, 101, 116, 115]⟩
noncomputable def w_is_hex : Str := ⟨#[105, 115, 95, 104, 101, 120]⟩
noncomputable def w_table : Str := ⟨#[116, 97, 98, 108, 101]⟩
noncomputable def w_trailer : Str := ⟨#[116, 114, 97, 105, 108, 101, 114]⟩
noncomputable def w_Type : Str := ⟨#[84, 121, 112, 101]⟩
noncomputable def w_Kids : Str := ⟨#[75, 105, 100, 115]⟩
noncomputable def w_Count : Str := ⟨#[67, 111, 117, 110, 116]⟩
noncomputable def w_Pages : Str := ⟨#[80, 97, 103, 101, 115]⟩
noncomputable def w_Page : Str := ⟨#[80, 97, 103, 101]⟩
noncomputable def w_Parent : Str := ⟨#[80, 97, 114, 101, 110, 116]⟩
noncomputable def w_Catalog : Str := ⟨#[67, 97, 116, 97, 108, 111, 103]⟩
noncomputable def w_Dests : Str := ⟨#[68, 101, 115, 116, 115]⟩
noncomputable def w_Names : Str := ⟨#[78, 97, 109, 101, 115]⟩
noncomputable def w_Root : Str := ⟨#[82, 111, 111, 116]⟩
noncomputable def w_reference : Str := ⟨#[114, 101, 102, 101, 114, 101, 110, 99, 101]⟩
noncomputable def w_fields : Str := ⟨#[102, 105, 101, 108, 100, 115]⟩
noncomputable def w_page : Str := ⟨#[112, 97, 103, 101]⟩
noncomputable def w_view : Str := ⟨#[118, 105, 101, 119]⟩
noncomputable def w_numbers : Str := ⟨#[110, 117, 109, 98, 101, 114, 115]⟩
noncomputable def w_D : Str := ⟨#[68]⟩
noncomputable def refD (n : Int) : D := .inst 254 [(w_number, .int n), (w_generation, .int 0)]
noncomputable def nameD (s : Str) : D := .inst 183 [(w_text, .str s)]
noncomputable def strD (b : List UInt8) : D := .inst 205 [(w_octets, .bytes b), (w_is_hex, .bool false)]
noncomputable def pageNode : D := .dict [(.str w_Type, nameD w_Page), (.str w_Parent, refD 2)]
noncomputable def kidsL : Nat → List D
  | 0 => []
  | 1 => [refD 3]
  | 2 => [refD 3, refD 4]
  | _ => [refD 3, refD 4, refD 5]
noncomputable def pagesNode (c : Nat) : D := .dict [(.str w_Type, nameD w_Pages), (.str w_Kids, .list (kidsL c)), (.str w_Count, .int c)]
noncomputable def rootN (O : D) (nm : Option D) : D := .dict ((.str w_Type, nameD w_Catalog) :: (.str w_Pages, refD 2) :: (.str w_Dests, O) :: (match nm with
  | some N => [(.str w_Names, N)]
  | .none => []))
noncomputable def pageRows : Nat → List (D × D)
  | 0 => []
  | 1 => [(.int 3, .tup [.int 0, pageNode])]
  | 2 => [(.int 3, .tup [.int 0, pageNode]), (.int 4, .tup [.int 0, pageNode])]
  | _ => [(.int 3, .tup [.int 0, pageNode]), (.int 4, .tup [.int 0, pageNode]), (.int 5, .tup [.int 0, pageNode])]
noncomputable def tableL (c : Nat) : List (D × D) := (.int 2, .tup [.int 0, pagesNode c]) :: pageRows c
noncomputable def shelfD (c : Nat) (R : D) : D := .inst 363 [(w_table, .dict (tableL c ++ [(.int 1, .tup [.int 0, R])])), (w_trailer, .dict [(.str w_Root, refD 1)])]
noncomputable def pageI (n : Int) : D := .inst 383 [(w_reference, refD n), (w_fields, pageNode)]
noncomputable def pagesL : Nat → List D
  | 0 => []
  | 1 => [pageI 3]
  | 2 => [pageI 3, pageI 4]
  | _ => [pageI 3, pageI 4, pageI 5]
end Mine

set_option Elab.async false
set_option maxRecDepth 100000
namespace Mine
open PySem PySem.W PyProof.Rows PySem.Calls
/-! goals: a spot, a view, a way -/
inductive Sp where
  | a | b | c | d | e
inductive Vw where
  | fit | xyz | fitH | fat
inductive Wy where
  | row | dict | none
inductive Ct where
  | one | two | three
noncomputable def Sp.n : Sp → Nat
  | .a => 0
  | .b => 1
  | .c => 2
  | .d => 3
  | .e => 4
noncomputable def Ct.n : Ct → Nat
  | .one => 1
  | .two => 2
  | .three => 3
noncomputable def Vw.s : Vw → Str
  | .fit => ⟨#[70, 105, 116]⟩
  | .xyz => ⟨#[88, 89, 90]⟩
  | .fitH => ⟨#[70, 105, 116, 72]⟩
  | .fat => ⟨#[70, 97, 116]⟩
structure Goal where
  s : Sp
  v : Vw
  w : Wy
noncomputable def gRow (s : Sp) (v : Vw) : D := .list [refD ((3 + s.n : Nat) : Int), nameD v.s]
noncomputable def gV (g : Goal) : D := match g.w with
  | .row => gRow g.s g.v
  | .dict => .dict [(.str w_D, gRow g.s g.v)]
  | .none => .none
noncomputable def nowhere : Str := ⟨#[110, 111, 119, 104, 101, 114, 101]⟩
noncomputable def onPage (s : Sp) (v : Vw) : Str := (⟨#[112, 97, 103, 101, 32]⟩ ++ ⟨#[48 + s.n]⟩) ++ ⟨#[32]⟩ ++ v.s
/-- where a goal leads to -/
noncomputable def gW (c : Ct) (g : Goal) : Str := match g.w with
  | .none => nowhere
  | _ => match g.v with
    | .fat => nowhere
    | v => if Nat.blt g.s.n c.n then onPage g.s v else nowhere
noncomputable def viewNs : Vw → List D
  | .fit => []
  | .xyz => [.none, .none, .none]
  | .fitH => [.none]
  | .fat => []
noncomputable def targetD (s : Sp) (v : Vw) : D := .inst 543 [(w_page, refD ((3 + s.n : Nat) : Int)), (w_view, .str v.s), (w_numbers, .list (viewNs v))]
/-- a goal's target -/
noncomputable def gT (g : Goal) : D := match g.w with
  | .none => .none
  | _ => match g.v with
    | .fat => .none
    | v => targetD g.s v
noncomputable def shelfX (TB TR : D) : D := .inst 363 [(w_table, TB), (w_trailer, TR)]
theorem dest_at (TB TR : D) (n : Nat) (g : Goal) : (ev g0 (n + 60)).K f_destination_of [.dat (shelfX TB TR), .dat (gV g)] = some (gT g, .dat .none) := by
  obtain ⟨s, v, w⟩ := g
  cases s <;> cases v <;> cases w <;> kernel_rfl
end Mine

set_option Elab.async false
set_option maxRecDepth 100000
namespace Mine
open PySem
/-! steps of the evaluator, one by one -/
noncomputable def noS : Stmt := .Pass ⟨0, 0, 0, 0⟩
noncomputable def noE : Expr := .Name ⟨#[]⟩ ⟨0, 0, 0, 0⟩
noncomputable def plainR (v : Expr) : Bool := (listT v).isNone && ((dictT v).isNone && ((lcT v).isNone && !(isComp v)))
noncomputable def ch0 : Expr → Expr
  | .IfExp t _ _ _ => t
  | .BinOp l _ _ _ => l
  | .Subscript v _ _ => v
  | .Compare l _ _ _ => l
  | .Attribute v _ _ => v
  | .Call f _ _ _ => f
  | .UnaryOp _ x _ => x
  | _ => noE
noncomputable def ch1 : Expr → Expr
  | .IfExp _ t _ _ => t
  | .BinOp _ _ r _ => r
  | .Subscript _ i _ => i
  | .Compare _ _ rs _ => rs.getD 0 noE
  | _ => noE
noncomputable def ch2 : Expr → Expr
  | .IfExp _ _ t _ => t
  | _ => noE
noncomputable def argsE : Expr → List Expr
  | .Call _ as _ _ => as
  | _ => []
noncomputable def kids : Expr → List Expr
  | .BoolOp _ vs _ => vs
  | .Tuple es _ _ => es
  | .List es _ => es
  | _ => []
noncomputable def ex0 : Stmt → Expr
  | .Assign _ v _ => v
  | .If t _ _ _ => t
  | .For _ it _ _ _ => it
  | .Return (some e) _ => e
  | .Expr e _ => e
  | _ => noE
noncomputable def ex1 : Stmt → Expr
  | .Assign ts _ _ => ts.getD 0 noE
  | .For t _ _ _ _ => t
  | _ => noE
noncomputable def bl0 : Stmt → List Stmt
  | .If _ b _ _ => b
  | .For _ _ b _ _ => b
  | _ => []
noncomputable def bl1 : Stmt → List Stmt
  | .If _ _ b _ => b
  | _ => []
noncomputable def sPos : Stmt → Pos
  | .Assign _ _ p => p
  | .If _ _ _ p => p
  | .For _ _ _ _ p => p
  | .Return _ p => p
  | .Expr _ p => p
  | _ => ⟨0, 0, 0, 0⟩
section
variable {g : Gt} {n : Nat} {env env1 env2 : MEnv}
theorem o2_of {α β γ : Type} {x : Option (α × β)} {a : α} {b : β} {f : α → β → Option γ} {out : Option γ} (h : x = some (a, b)) (k : f a b = out) : o2 x f = out := by
  rw [h]; exact k
theorem o1_of {α γ : Type} {x : Option α} {a : α} {f : α → Option γ} {out : Option γ} (h : x = some a) (k : f a = out) : o1 x f = out := by
  rw [h]; exact k
theorem run_K {f : FnRec} {ss : List Slot} {vs : List (Str × Slot)} {fl : Fl} (h : bindAll f.params (padded f ss) = some vs) (hb : (ev g n).B { names := f.names, vars := vs, pin := pinOf vs } f.body = some (fl, env1)) :
    (ev g (n + 1)).K f ss = some (retOf fl, firstOf env1) := o1_of h (o2_of hb rfl)
theorem run_B {s : Stmt} {r : List Stmt} {out : Option (Fl × MEnv)} (h : (ev g n).S env s = some (.nxt, env1)) (hb : (ev g n).B env1 r = out) : (ev g (n + 1)).B env (s :: r) = out := o2_of h hb
theorem run_ret {s : Stmt} {r : List Stmt} {d : D} (h : (ev g n).S env s = some (.ret d, env1)) : (ev g (n + 1)).B env (s :: r) = some (.ret d, env1) := o2_of h rfl
theorem E_of {e e' : Expr} {out : Option (D × MEnv)} (he : e = e') (h : stepE g (ev g n) env e' = out) : (ev g (n + 1)).E env e = out := by
  rw [he]; exact h
theorem S_of {s s' : Stmt} {out : Option (Fl × MEnv)} (he : s = s') (h : stepS g (ev g n) env s' = out) : (ev g (n + 1)).S env s = out := by
  rw [he]; exact h
theorem S_asg {s : Stmt} {t v : Expr} {p : Pos} (he : s = .Assign [t] v p) (h : assignE g (ev g n) env t v = some env2) : (ev g (n + 1)).S env s = some (.nxt, env2) := by
  rw [he]
  show o1 (assignE g (ev g n) env t v) _ = _
  rw [h]
  rfl
theorem rhs_plain {e : Expr} {d : D} (hp : plainR e = true) (hE : (ev g n).E env e = some (d, env1)) : rhsE (ev g n) env e = some (.dat d, env1) := by
  refine band hp fun p1 hp => band hp fun p2 zz=> ?_
  unfold rhsE
  rw [isNone_eq' p1]
  show (match dictT e with
    | some p => _
    | .none => _) = _
  rw [isNone_eq' p2]
  exact o2_of hE rfl
/-! x = v -/
theorem run_asg {s : Stmt} {x : Str} {d : D} (hs : s = .Assign [ex1 s] (ex0 s) (sPos s) ∧ nameT (ex1 s) = some x ∧ plainR (ex0 s) = true) (hE : (ev g n).E env (ex0 s) = some (d, env1)) (hb : bindName env1 x (.dat d) = some env2) : (ev g (n + 1)).S env s = some (.nxt, env2) := by
  refine S_asg hs.1 ?_
  unfold assignE
  rw [hs.2.1]
  show assignName g (ev g n) env x (ex0 s) = _
  refine band hs.2.2 fun p1 hp => band hp fun p2 hp => band hp fun p3 p4 => ?_
  unfold assignName
  rw [isNone_eq' p3]
  show (if isComp (ex0 s) = true then _ else _) = _
  rw [if_neg (by simpa using p4)]
  exact o2_of (rhs_plain hs.2.2 hE) hb
/-! a if t else b -/
theorem run_if {e : Expr} {c : Bool} {out : Option (D × MEnv)} (he : e = .IfExp (ch0 e) (ch1 e) (ch2 e) e.pos) (hT : (ev g n).T env (ch0 e) = some (c, env1)) (ho : (if c = true then (ev g n).E env1 (ch1 e) else (ev g n).E env1 (ch2 e)) = out) : (ev g (n + 1)).E env e = out :=
  E_of he (o2_of hT ho)
/-! f(..) -/
theorem run_callN {e : Expr} {x : Str} {out : Option (D × MEnv)} (he : e = .Call (ch0 e) (argsE e) [] e.pos ∧ nameT (ch0 e) = some x) (hg : env.isGlob x = true) (ho : callGlob g (ev g n) env x (argsE e) = out) : (ev g (n + 1)).E env e = out := by
  refine E_of he.1 ?_
  show (match nameT (ch0 e) with
    | some x => callName g (ev g n) env x (argsE e)
    | .none => _) = out
  rw [he.2]
  show (if env.isGlob x = true then _ else _) = out
  rw [if_pos hg]
  exact ho
theorem run_fn {x : Str} {r : FnRec} {args : List Expr} {ds : List D} {d : D} {sl : Slot} (hl : lookS g.globals x = some (.fn r)) (hb : r.borrows = false) (hL : (ev g n).L env args = some (ds, env1)) (hK : (ev g n).K r (dats ds) = some (d, sl)) :
    callGlob g (ev g n) env x args = some (d, env1) := by
  unfold callGlob
  rw [hl]
  show (if r.borrows = true then _ else _) = _
  rw [if_neg (by rw [hb]; decide)]
  exact o2_of hL (o2_of hK rfl)
/-! l op r -/
theorem run_bin {e : Expr} {op : Operator} {a b c : D} (he : e = .BinOp (ch0 e) op (ch1 e) e.pos) (hl : (ev g n).E env (ch0 e) = some (a, env1)) (hr : (ev g n).E env1 (ch1 e) = some (b, env2)) (hb : binD op a b = some c) : (ev g (n + 1)).E env e = some (c, env2) :=
  E_of he (o2_of hl (o2_of hr (o1_of hb rfl)))
/-! v[i] -/
theorem run_sub {e : Expr} {a b c : D} (he : e = .Subscript (ch0 e) (ch1 e) e.pos ∧ isSlice (ch1 e) = false) (hl : (ev g n).E env (ch0 e) = some (a, env1)) (hr : (ev g n).E env1 (ch1 e) = some (b, env2)) (hb : subD a b = some c) : (ev g (n + 1)).E env e = some (c, env2) := by
  refine E_of he.1 ?_
  show (if isSlice (ch1 e) = true then _ else _) = _
  rw [if_neg (by rw [he.2]; decide)]
  exact o2_of hl (o2_of hr (o1_of hb rfl))
/-! return e -/
theorem run_retE {s : Stmt} {d : D} (he : s = .Return (some (ex0 s)) (sPos s)) (hE : (ev g n).E env (ex0 s) = some (d, env1)) : (ev g (n + 1)).S env s = some (.ret d, env1) :=
  S_of he (o2_of hE rfl)
/-! len(x) -/
theorem run_len {args : List Expr} {x : Str} {d : D} {i : Int} (hx : seq x n_isinstance = false) (hq : seq x n_len = true) (hl : lookS g.globals x = .none) (ho : (o1 (oneE args) fun a => peekE (ev g n) env a) = some (d, env1)) (hd : lenD d = some i) : callGlob g (ev g n) env x args = some (.int i, env1) := by
  unfold callGlob
  rw [hl]
  show (if seq x n_isinstance = true then _ else _) = _
  rw [if_neg (by rw [hx]; decide), if_pos hq]
  exact bo1 ho fun a ha h => o1_of ha (o2_of h (o1_of hd rfl))
/-! and where the variables stay as they are -/
theorem pure_bin {e : Expr} {op : Operator} {a b c : D} (he : e = .BinOp (ch0 e) op (ch1 e) e.pos) (hl : (ev g n).E env (ch0 e) = some (a, env)) (hr : (ev g n).E env (ch1 e) = some (b, env)) (hb : binD op a b = some c) : (ev g (n + 1)).E env e = some (c, env) := run_bin he hl hr hb
theorem pure_sub {e : Expr} {a b c : D} (he : e = .Subscript (ch0 e) (ch1 e) e.pos ∧ isSlice (ch1 e) = false) (hl : (ev g n).E env (ch0 e) = some (a, env)) (hr : (ev g n).E env (ch1 e) = some (b, env)) (hb : subD a b = some c) : (ev g (n + 1)).E env e = some (c, env) := run_sub he hl hr hb
/-! f(x, ..): x is lent -/
theorem run_lent {x y : Str} {r : FnRec} {a : Expr} {rest : List Expr} {l0 l1 : List D} {ds : List D} {d : D} (hl : lookS g.globals x = some (.fn r)) (hb : r.borrows = true) (hy : nameT a = some y) (h0 : ownList env y = some l0) (hL : (ev g n).L env rest = some (ds, env)) (hK : (ev g n).K r (.own (.list l0) :: dats ds) = some (d, .own (.list l1))) :
    callGlob g (ev g n) env x (a :: rest) = some (d, env.put y (.own (.list l1))) := by
  unfold callGlob
  rw [hl]
  show (if r.borrows = true then _ else _) = _
  rw [if_pos hb]
  exact o1_of hy (o1_of h0 (o2_of hL (o1_of h0 (o2_of hK rfl))))
/-! a, b, .. = .., .. -/
theorem run_tupA {s : Stmt} {sw : Bool} {ss : List Slot} {ts es : List Expr} (hs : s = .Assign [ex1 s] (ex0 s) (sPos s) ∧ nameT (ex1 s) = .none ∧ tupT (ex1 s) = some ts ∧ tupT (ex0 s) = some es) (hw : swapped env ts es = some sw) (hr : rhsAll (ev g n) env es = some (ss, env1))
    (hb : (if sw then (o1 (undat ss) fun ds => bindStrs env1 (swapNames env (headLine ts) ts).reverse (dats ds.reverse)) else bindNames env1 ts ss) = some env2) : (ev g (n + 1)).S env s = some (.nxt, env2) := by
  refine S_asg hs.1 ?_
  unfold assignE
  rw [hs.2.1, hs.2.2.1]
  show assignTup g (ev g n) env ts (ex0 s) = _
  unfold assignTup
  rw [hs.2.2.2]
  exact o1_of hw (o2_of hr hb)
theorem rhs_nil : rhsAll (ev g n) env [] = some ([], env) := rfl
theorem rhs_cons {e : Expr} {r : List Expr} {d : D} {ss : List Slot} (hp : plainR e = true) (hE : (ev g n).E env e = some (d, env1)) (hr : rhsAll (ev g n) env1 r = some (ss, env2)) : rhsAll (ev g n) env (e :: r) = some (.dat d :: ss, env2) :=
  o2_of (rhs_plain hp hE) (o2_of hr rfl)
/-! if t: .. else: .. -/
theorem run_ifS {s : Stmt} {c : Bool} {out : Option (Fl × MEnv)} (he : s = .If (ex0 s) (bl0 s) (bl1 s) (sPos s)) (hT : (ev g n).T env (ex0 s) = some (c, env1)) (ho : (if c = true then (ev g n).B env1 (bl0 s) else (ev g n).B env1 (bl1 s)) = out) : (ev g (n + 1)).S env s = out :=
  S_of he (o2_of hT ho)
theorem run_for {s : Stmt} {ds : List D} {out : Option (Fl × MEnv)} (he : s = .For (ex1 s) (ex0 s) (bl0 s) [] (sPos s) ∧ isSetE (ex0 s) = false) (hi : iterE g (ev g n) env (ex0 s) = some (ds, env1)) (ho : forAll (ev g n) (ex1 s) (bl0 s) env1 ds = out) : (ev g (n + 1)).S env s = out := by
  refine S_of he.1 ?_
  show (if (true && !(isSetE (ex0 s))) = true then _ else _) = _
  rw [he.2]
  exact o2_of hi ho
theorem all_cons {t : Expr} {b : List Stmt} {d : D} {r : List D} {out : Option (Fl × MEnv)} (hb : bindT env t d = some env1) (hB : (ev g n).B env1 b = some (.nxt, env2)) (ho : forAll (ev g n) t b env2 r = out) : forAll (ev g n) t b env (d :: r) = out :=
  o1_of hb (o2_of hB ho)
/-! l == r -/
theorem run_cmpOne {l r : Expr} {op : CmpOp} {a b : D} {c : Bool} (h1 : isSetE r = false) (h2 : isEmptyList r = false) (hl : (ev g n).E env l = some (a, env1)) (hr : rightE (ev g n) env1 op r = some (b, env2)) (hc : cmpD op a b = some c) : cmpOne (ev g n) env l [op] [r] = some (c, env2) := by
  show (if isSetE r = true then _ else _) = _
  rw [if_neg (by rw [h1]; decide), if_neg (by rw [h2]; exact Bool.false_ne_true)]
  exact o2_of hl (o2_of hr (o1_of hc rfl))
theorem run_cmpT {e : Expr} {op : CmpOp} {a b : D} {c : Bool} (he : e = .Compare (ch0 e) [op] [ch1 e] e.pos ∧ isSetE (ch1 e) = false ∧ isEmptyList (ch1 e) = false) (hl : (ev g n).E env (ch0 e) = some (a, env1)) (hr : rightE (ev g n) env1 op (ch1 e) = some (b, env2)) (hc : cmpD op a b = some c) : (ev g (n + 1)).T env e = some (c, env2) := by
  rw [he.1]
  exact run_cmpOne he.2.1 he.2.2 hl hr hc
/-! a, b[i] = e -/
theorem run_unp {s : Stmt} {d : D} {ds : List D} {ts : List Expr} (hs : s = .Assign [ex1 s] (ex0 s) (sPos s) ∧ nameT (ex1 s) = .none ∧ tupT (ex1 s) = some ts ∧ tupT (ex0 s) = .none) (hE : peekE (ev g n) env (ex0 s) = some (d, env1)) (hd : seqD d = some ds) (hb : storeMany g (ev g n) env1 ts ds = some env2) : (ev g (n + 1)).S env s = some (.nxt, env2) := by
  refine S_asg hs.1 ?_
  unfold assignE
  rw [hs.2.1, hs.2.2.1]
  show assignTup g (ev g n) env ts (ex0 s) = _
  unfold assignTup
  rw [hs.2.2.2]
  exact o2_of hE (o1_of hd hb)
theorem store_cons {t : Expr} {ts : List Expr} {d : D} {ds : List D} {out : Option MEnv} (h : storeOne g (ev g n) env t d = some env1) (hr : storeMany g (ev g n) env1 ts ds = out) : storeMany g (ev g n) env (t :: ts) (d :: ds) = out := o1_of h hr
theorem store_item {t : Expr} {x : Str} {w k : D} {l l' : List (D × D)} (ht : t = .Subscript (ch0 t) (ch1 t) t.pos ∧ nameT (ch0 t) = some x) (hE : (ev g n).E env (ch1 t) = some (k, env)) (ho : env.own? x = some (.dict l)) (hf : fitN l.length = true) (hp : dput l k w = some l') (hq : env.put x (.own (.dict l')) = env1) : storeOne g (ev g n) env t w = some env1 := by
  rw [ht.1]
  refine o1_of ht.2 (o1_of ho (o2_of hE (o1_of ho ?_)))
  show (if fitN l.length = true then _ else _) = _
  rw [if_pos hf, hp]
  exact congrArg some hq
/-! a or b -/
theorem run_orT {e a b : Expr} {c : Bool} (he : e = .BoolOp .Or [a, b] e.pos) (h1 : (ev g n).T env a = some (false, env1)) (h2 : (ev g n).T env1 b = some (c, env2)) : (ev g (n + 1)).T env e = some (c, env2) := by
  rw [he]
  refine o2_of h1 (o2_of h2 ?_)
  cases c <;> rfl
end
end Mine

set_option Elab.async false
set_option maxRecDepth 100000
namespace Mine
open PySem PySem.W PyProof.Rows PySem.Calls
noncomputable def w_array : Str := ⟨#[97, 114, 114, 97, 121]⟩
noncomputable def w_dict : Str := ⟨#[100, 105, 99, 116]⟩
noncomputable def w_ref : Str := ⟨#[114, 101, 102]⟩
noncomputable def w_name : Str := ⟨#[110, 97, 109, 101]⟩
noncomputable def w_null : Str := ⟨#[110, 117, 108, 108]⟩
noncomputable def tRow (s : Sp) (v : Vw) : D := .tup [.str w_array, .tup [.str w_ref, .int ((3 + s.n : Nat) : Int), .int 0], .tup [.str w_name, .str v.s]]
/-- a goal as it is told -/
noncomputable def tV (g : Goal) : D := match g.w with
  | .row => tRow g.s g.v
  | .dict => .tup [.str w_dict, .tup [.str w_D, tRow g.s g.v]]
  | .none => .tup [.str w_null]
theorem told_at (n : Nat) (g : Goal) : (ev g0 (n + 60)).K f_told [.dat (gV g)] = some (tV g, .dat .none) := by
  obtain ⟨s, v, w⟩ := g
  cases s <;> cases v <;> cases w <;> kernel_rfl
noncomputable def shelfC (c : Ct) (O : D) (nm : Option D) : D := shelfD c.n (rootN O nm)
noncomputable def w_shelf : Str := ⟨#[115, 104, 101, 108, 102]⟩
noncomputable def w_target : Str := ⟨#[116, 97, 114, 103, 101, 116]⟩
noncomputable def w_row : Str := ⟨#[114, 111, 119]⟩
noncomputable def w_index : Str := ⟨#[105, 110, 100, 101, 120]⟩
noncomputable def pairD (k : Int) : D := .tup [.int k, .int 0]
noncomputable def rowC : Ct → D
  | .one => .list [pairD 3]
  | .two => .list [pairD 3, pairD 4]
  | .three => .list [pairD 3, pairD 4, pairD 5]
noncomputable def idxC (c : Ct) (s : Sp) : Int := if Nat.blt s.n c.n then ((s.n : Nat) : Int) else -1
noncomputable def pioVars (c : Ct) (O : D) (nm : Option D) (T : D) : List (Str × Slot) := [(w_shelf, .dat (shelfC c O nm)), (w_target, .dat T)]
theorem pio_row (c : Ct) (O : D) (nm : Option D) (T : D) (n : Nat) : (ev g0 (n + 70)).S { names := f_page_index_of.names, vars := pioVars c O nm T, pin := .none } (f_page_index_of.body.getD 1 noS) =
    some (.nxt, { names := f_page_index_of.names, vars := pioVars c O nm T ++ [(w_row, .dat (rowC c))], pin := .none }) := by
  cases c <;> cases nm <;> kernel_rfl
theorem pio_at (c : Ct) (O : D) (nm : Option D) (s : Sp) (v : Vw) (n : Nat) : (ev g0 (n + 80)).K f_page_index_of [.dat (shelfC c O nm), .dat (targetD s v)] = some (.int (idxC c s), .dat .none) := by
  refine run_K (n := n + 79) (fl := .ret (.int (idxC c s))) (env1 := { names := f_page_index_of.names, vars := pioVars c O nm (targetD s v) ++ [(w_row, .dat (rowC c))], pin := .none }) (vs := pioVars c O nm (targetD s v)) (by kernel_rfl) ?_
  refine run_B (n := n + 78) (s := f_page_index_of.body.getD 0 noS) (r := [f_page_index_of.body.getD 1 noS, f_page_index_of.body.getD 2 noS]) (env1 := { names := f_page_index_of.names, vars := pioVars c O nm (targetD s v), pin := .none }) (by cases v <;> kernel_rfl) ?_
  refine run_B (n := n + 77) (pio_row c O nm (targetD s v) (n + 7)) ?_
  refine run_ret (n := n + 76) ?_
  cases c <;> cases s <;> kernel_rfl
end Mine

set_option Elab.async false
set_option maxRecDepth 100000
namespace Mine
open PySem PySem.W PyProof.Rows PySem.Calls
noncomputable def w_page_index_of : Str := ⟨#[112, 97, 103, 101, 95, 105, 110, 100, 101, 120, 95, 111, 102]⟩
theorem tt_none (c : Ct) (O : D) (nm : Option D) (n : Nat) : (ev g0 (n + 90)).K f_target_told [.dat (shelfC c O nm), .dat .none] = some (.str nowhere, .dat .none) := by kernel_rfl
noncomputable def whC (c : Ct) (s : Sp) (v : Vw) : Str := if Nat.blt s.n c.n then onPage s v else nowhere
noncomputable def w_tindex : Str := ⟨#[105, 110, 100, 101, 120]⟩
theorem tt_rest (sh : D) (c : Ct) (s : Sp) (v : Vw) (hv : v ≠ .fat) (n : Nat) :
    (ev g0 (n + 87)).B { names := f_target_told.names, vars := [(w_shelf, .dat sh), (w_target, .dat (targetD s v)), (w_tindex, .dat (.int (idxC c s)))], pin := .none } [f_target_told.body.getD 1 noS, f_target_told.body.getD 2 noS] =
      some (.ret (.str (whC c s v)), { names := f_target_told.names, vars := [(w_shelf, .dat sh), (w_target, .dat (targetD s v)), (w_tindex, .dat (.int (idxC c s)))], pin := .none }) := by
  cases v <;> first | exact absurd rfl hv | (cases c <;> cases s <;> kernel_rfl)
theorem tt_at (c : Ct) (O : D) (nm : Option D) (s : Sp) (v : Vw) (hv : v ≠ .fat) (n : Nat) : (ev g0 (n + 90)).K f_target_told [.dat (shelfC c O nm), .dat (targetD s v)] = some (.str (whC c s v), .dat .none) :=
  run_K (n := n + 89) (fl := .ret (.str (whC c s v))) (env1 := { names := f_target_told.names, vars := [(w_shelf, .dat (shelfC c O nm)), (w_target, .dat (targetD s v)), (w_tindex, .dat (.int (idxC c s)))], pin := .none }) (vs := [(w_shelf, .dat (shelfC c O nm)), (w_target, .dat (targetD s v))]) (by kernel_rfl)
    (run_B (n := n + 88) (s := f_target_told.body.getD 0 noS) (r := [f_target_told.body.getD 1 noS, f_target_told.body.getD 2 noS]) (env1 := { names := f_target_told.names, vars := [(w_shelf, .dat (shelfC c O nm)), (w_target, .dat (targetD s v)), (w_tindex, .dat (.int (idxC c s)))], pin := .none })
      (run_asg (x := w_tindex) (d := .int (idxC c s)) (env1 := { names := f_target_told.names, vars := [(w_shelf, .dat (shelfC c O nm)), (w_target, .dat (targetD s v))], pin := .none }) ⟨by kernel_rfl, by kernel_rfl, by kernel_rfl⟩
        (run_if (n := n + 86) (c := false) (env1 := { names := f_target_told.names, vars := [(w_shelf, .dat (shelfC c O nm)), (w_target, .dat (targetD s v))], pin := .none }) (by kernel_rfl) (by kernel_rfl)
          (run_callN (n := n + 85) (x := w_page_index_of) ⟨by kernel_rfl, by kernel_rfl⟩ (by kernel_rfl) (run_fn (r := f_page_index_of) (ds := [shelfC c O nm, targetD s v]) (by kernel_rfl) (by kernel_rfl) (by kernel_rfl) (pio_at c O nm s v (n + 5))))) (by kernel_rfl))
      (tt_rest (shelfC c O nm) c s v hv (n + 1)))
/-- where a goal's target leads to -/
theorem told_target (c : Ct) (O : D) (nm : Option D) (g : Goal) (n : Nat) : (ev g0 (n + 90)).K f_target_told [.dat (shelfC c O nm), .dat (gT g)] = some (.str (gW c g), .dat .none) := by
  obtain ⟨s, v, w⟩ := g
  cases w with
  | none => exact tt_none c O nm n
  | row => cases v with
    | fat => exact tt_none c O nm n
    | fit => exact tt_at c O nm s .fit (by intro e; cases e) n
    | xyz => exact tt_at c O nm s .xyz (by intro e; cases e) n
    | fitH => exact tt_at c O nm s .fitH (by intro e; cases e) n
  | dict => cases v with
    | fat => exact tt_none c O nm n
    | fit => exact tt_at c O nm s .fit (by intro e; cases e) n
    | xyz => exact tt_at c O nm s .xyz (by intro e; cases e) n
    | fitH => exact tt_at c O nm s .fitH (by intro e; cases e) n
end Mine

set_option Elab.async false
set_option maxRecDepth 100000
namespace Mine
open PySem PySem.W PyProof.Rows PySem.Calls
/-! a draw -/
noncomputable def w_tape : Str := ⟨#[116, 97, 112, 101]⟩
noncomputable def w_many : Str := ⟨#[109, 97, 110, 121]⟩
noncomputable def w_cells : Str := ⟨#[99, 101, 108, 108, 115]⟩
noncomputable def w_at : Str := ⟨#[97, 116]⟩
noncomputable def w_len : Str := ⟨#[108, 101, 110]⟩
noncomputable def cellsD (cs : List Int) : D := .list (cs.map .int)
noncomputable def tapeD (C : D) (k : Nat) : D := .list [C, .int (k : Int)]
noncomputable def drawEnv (C : D) (k k' : Nat) (m : Nat) : MEnv := { names := f_law_draw.names, vars := [(w_tape, .own (tapeD C k')), (w_many, .dat (.int (m : Int))), (w_cells, .dat C), (w_at, .dat (.int (k : Int)))], pin := some w_tape }
theorem draw_s0 (C : D) (k m n : Nat) : (ev g0 (n + 30)).S { names := f_law_draw.names, vars := [(w_tape, .own (tapeD C k)), (w_many, .dat (.int (m : Int)))], pin := some w_tape } (f_law_draw.body.getD 0 noS) = some (.nxt, drawEnv C k k m) := by kernel_rfl
theorem draw_s1 (C : D) (k m n : Nat) : (ev g0 (n + 30)).S (drawEnv C k k m) (f_law_draw.body.getD 1 noS) = some (.nxt, drawEnv C k (k + 1) m) := by kernel_rfl
theorem fitN_of {n : Nat} (h : n ≤ 1000000) : fitN n = true := Nat.ble_eq_true_of_le h
theorem fitI_of {i : Int} (h : i.natAbs < 1000000) : fitI i = true := Nat.ble_eq_true_of_le (Nat.le_trans h (by decide))
theorem small_of {b : Int} (h0 : 0 < b) (h1 : b < 1000000) : smallDiv b = true := decide_eq_true ⟨h0, h1⟩
section
variable {cs : List Int} {k m : Nat} (h0 : 0 < cs.length) (h1 : cs.length ≤ 50) (hk : k ≤ 60) (hm : 0 < m) (hm' : m ≤ 10)
theorem len_cells (h1 : cs.length ≤ 50) : lenD (cellsD cs) = some (cs.length : Int) := by
  show (if fitN (cs.map D.int).length = true then some (((cs.map D.int).length : Nat) : Int) else .none) = _
  rw [List.length_map, if_pos (fitN_of (Nat.le_trans h1 (by decide)))]
theorem mod_int {a b : Int} (h0 : 0 < b) (h1 : b < 1000000) : binD .Mod (.int a) (.int b) = some (.int (Int.fmod a b)) := by
  show (if smallDiv b = true then some (D.int (Int.fmod a b)) else .none) = _
  rw [if_pos (small_of h0 h1)]
theorem div_int {a b : Int} (h0 : 0 < b) (h1 : b < 1000000) : binD .FloorDiv (.int a) (.int b) = some (.int (Int.fdiv a b)) := by
  show (if smallDiv b = true then some (D.int (Int.fdiv a b)) else .none) = _
  rw [if_pos (small_of h0 h1)]
theorem mul_int' {a b : Int} (h0 : a.natAbs < 1000000) (h1 : b.natAbs < 1000000) : binD .Mult (.int a) (.int b) = some (.int (a * b)) := by
  show (if (fitI a && fitI b) = true then some (D.int (a * b)) else .none) = _
  rw [fitI_of h0, fitI_of h1]
  rfl
theorem add_int' {a b : Int} : binD .Add (.int a) (.int b) = some (.int (a + b)) := rfl
theorem cell_at (h0 : 0 < cs.length) (h1 : cs.length ≤ 50) : subD (cellsD cs) (.int (Int.fmod (k : Int) (cs.length : Int))) = some (.int (cs[k % cs.length]'(Nat.mod_lt _ h0))) := by
  have e : Int.fmod (k : Int) (cs.length : Int) = .ofNat (k % cs.length) := by
    rw [Int.fmod_eq_emod_of_nonneg _ (Int.natCast_nonneg _)]; rfl
  rw [e]
  have hl := Nat.mod_lt k h0
  show (if fitN (k % cs.length) = true then (cs.map D.int)[k % cs.length]? else .none) = _
  rw [if_pos (fitN_of (by omega)), List.getElem?_map, List.getElem?_eq_getElem hl]
  rfl
/-- the return's expression -/
noncomputable def drawX : Expr := ex0 (f_law_draw.body.getD 2 noS)
theorem draw_len (h1 : cs.length ≤ 50) {e : Expr} {n : Nat} (he : e = .Call (ch0 e) (argsE e) [] e.pos ∧ nameT (ch0 e) = some w_len) (hp : (o1 (oneE (argsE e)) fun a => peekE (ev g0 (n + 10)) (drawEnv (cellsD cs) k (k + 1) m) a) = some (cellsD cs, drawEnv (cellsD cs) k (k + 1) m)) : (ev g0 (n + 11)).E (drawEnv (cellsD cs) k (k + 1) m) e = some (.int (cs.length : Int), drawEnv (cellsD cs) k (k + 1) m) :=
  run_callN (x := w_len) he (by kernel_rfl) (run_len (by decide +kernel) (by decide +kernel) (by kernel_rfl) hp (len_cells h1))
theorem draw_val (h0 : 0 < cs.length) (h1 : cs.length ≤ 50) (hk : k ≤ 60) (hm : 0 < m) (hm' : m ≤ 10) : ∃ i : Nat, i < m ∧ ∀ n, (ev g0 (n + 30)).E (drawEnv (cellsD cs) k (k + 1) m) drawX = some (.int (i : Int), drawEnv (cellsD cs) k (k + 1) m) := by
  have hL : (0 : Int) < (cs.length : Int) := by omega
  have hL' : (cs.length : Int) < 1000000 := by omega
  have q1 : Int.fdiv (k : Int) (cs.length : Int) = ((k / cs.length : Nat) : Int) := by rw [Int.fdiv_eq_ediv_of_nonneg _ (Int.natCast_nonneg _)]; rfl
  have q2 : Int.fdiv (k : Int) 2 = ((k / 2 : Nat) : Int) := by rw [Int.fdiv_eq_ediv_of_nonneg _ (by decide)]; rfl
  have b1 : k / cs.length ≤ k := Nat.div_le_self _ _
  have b2 : k / 2 ≤ k := Nat.div_le_self _ _
  have e7 := mul_int' (a := 7) (b := (k : Int)) (by decide) (by omega)
  have ey := mul_int' (a := ((k / cs.length : Nat) : Int)) (b := 7 * (k : Int) + 3 + ((k / 2 : Nat) : Int)) (by rw [Int.natAbs_natCast]; omega) (by omega)
  have hmI : (0 : Int) < (m : Int) := by omega
  generalize hz : (cs[k % cs.length]'(Nat.mod_lt _ h0)) + ((k / cs.length : Nat) : Int) * (7 * (k : Int) + 3 + ((k / 2 : Nat) : Int)) = z
  refine ⟨(Int.fmod z (m : Int)).toNat, ?_, fun n => ?_⟩
  · have := Int.fmod_lt_of_pos z hmI
    have := Int.fmod_nonneg_of_pos z hmI
    omega
  have er : ((Int.fmod z (m : Int)).toNat : Int) = Int.fmod z (m : Int) := Int.toNat_of_nonneg (Int.fmod_nonneg_of_pos z hmI)
  rw [er]
  refine pure_bin (n := n + 29) (op := .Mod) (a := .int z) (b := .int (m : Int)) (by kernel_rfl) ?_ (by kernel_rfl) (mod_int hmI (by omega))
  rw [← hz]
  refine pure_bin (n := n + 28) (op := .Add) (by kernel_rfl) (pure_sub (n := n + 27) ⟨by kernel_rfl, by kernel_rfl⟩ (by kernel_rfl) (pure_bin (n := n + 26) (op := .Mod) (by kernel_rfl) (by kernel_rfl) (draw_len (n := n + 15) h1 ⟨by kernel_rfl, by kernel_rfl⟩ (by kernel_rfl)) (mod_int hL hL')) (cell_at h0 h1)) ?_ add_int'
  refine pure_bin (n := n + 27) (op := .Mult) (by kernel_rfl) (pure_bin (n := n + 26) (op := .FloorDiv) (by kernel_rfl) (by kernel_rfl) (draw_len (n := n + 15) h1 ⟨by kernel_rfl, by kernel_rfl⟩ (by kernel_rfl)) ((div_int hL hL').trans (by rw [q1]))) ?_ ey
  refine pure_bin (n := n + 26) (op := .Add) (by kernel_rfl) (pure_bin (n := n + 25) (op := .Add) (by kernel_rfl) (pure_bin (n := n + 24) (op := .Mult) (by kernel_rfl) (by kernel_rfl) (by kernel_rfl) e7) (by kernel_rfl) add_int') (pure_bin (n := n + 25) (op := .FloorDiv) (by kernel_rfl) (by kernel_rfl) (by kernel_rfl) ((div_int (a := (k : Int)) (b := 2) (by decide) (by decide)).trans (by rw [q2]))) add_int'
/-- a draw: a number below many; the tape moves on -/
theorem draw_at (h0 : 0 < cs.length) (h1 : cs.length ≤ 50) (hk : k ≤ 60) (hm : 0 < m) (hm' : m ≤ 10) : ∃ i : Nat, i < m ∧ ∀ n, (ev g0 (n + 40)).K f_law_draw [.own (tapeD (cellsD cs) k), .dat (.int (m : Int))] = some (.int (i : Int), .own (tapeD (cellsD cs) (k + 1))) := by
  obtain ⟨i, hi, he⟩ := draw_val h0 h1 hk hm hm' (cs := cs) (k := k)
  refine ⟨i, hi, fun n => ?_⟩
  exact run_K (n := n + 39) (fl := .ret (.int (i : Int))) (env1 := drawEnv (cellsD cs) k (k + 1) m) (vs := [(w_tape, .own (tapeD (cellsD cs) k)), (w_many, .dat (.int (m : Int)))]) (by kernel_rfl)
    (run_B (n := n + 38) (s := f_law_draw.body.getD 0 noS) (r := [f_law_draw.body.getD 1 noS, f_law_draw.body.getD 2 noS]) (draw_s0 (cellsD cs) k m (n + 8))
      (run_B (n := n + 37) (draw_s1 (cellsD cs) k m (n + 7)) (run_ret (n := n + 36) (run_retE (n := n + 35) (by kernel_rfl) (he (n + 5))))))
end
end Mine

set_option Elab.async false
set_option maxRecDepth 100000
namespace Mine
open PySem PySem.W PyProof.Rows PySem.Calls
noncomputable def w_draw : Str := ⟨#[95, 108, 97, 119, 95, 100, 114, 97, 119]⟩
noncomputable def w_count : Str := ⟨#[99, 111, 117, 110, 116]⟩
noncomputable def w_spot : Str := ⟨#[115, 112, 111, 116]⟩
noncomputable def w_way : Str := ⟨#[119, 97, 121]⟩
noncomputable def w_where : Str := ⟨#[119, 104, 101, 114, 101]⟩
/-- a call that is lent the tape, where the tape is a variable of one's own -/
theorem tape_call {env env' : MEnv} {e : Expr} {C d m : D} {r : FnRec} {f : Str} {k k' n : Nat} (he : (e = .Call (ch0 e) (argsE e) [] e.pos ∧ nameT (ch0 e) = some f) ∧ argsE e = (argsE e).headD noE :: (argsE e).drop 1) (hg : env.isGlob f = true) (hr : lookS g0.globals f = some (.fn r) ∧ r.borrows = true) (hy : nameT ((argsE e).headD noE) = some w_tape) (h0 : ownList env w_tape = some [C, .int (k : Int)]) (hL : (ev g0 n).L env ((argsE e).drop 1) = some ([m], env))
    (hK : (ev g0 n).K r [.own (tapeD C k), .dat m] = some (d, .own (tapeD C k'))) (hp : env.put w_tape (.own (tapeD C k')) = env') : (ev g0 (n + 1)).E env e = some (d, env') :=
  run_callN he.1 hg (by rw [he.2]; exact hp ▸ run_lent (l1 := [C, .int ((k' : Nat) : Int)]) hr.1 hr.2 hy h0 hL hK)
/-- a call of draw -/
theorem draw_call {env env' : MEnv} {e : Expr} {C : D} {k m i n : Nat} (he : (e = .Call (ch0 e) (argsE e) [] e.pos ∧ nameT (ch0 e) = some w_draw) ∧ argsE e = (argsE e).headD noE :: (argsE e).drop 1) (hg : env.isGlob w_draw = true) (hy : nameT ((argsE e).headD noE) = some w_tape) (h0 : ownList env w_tape = some [C, .int (k : Int)]) (hL : (ev g0 (n + 40)).L env ((argsE e).drop 1) = some ([.int (m : Int)], env))
    (hK : (ev g0 (n + 40)).K f_law_draw [.own (tapeD C k), .dat (.int (m : Int))] = some (.int (i : Int), .own (tapeD C (k + 1)))) (hp : env.put w_tape (.own (tapeD C (k + 1))) = env') : (ev g0 (n + 41)).E env e = some (.int (i : Int), env') :=
  tape_call he hg ⟨by kernel_rfl, by kernel_rfl⟩ hy h0 hL hK hp
noncomputable def goalEnv (C : D) (k : Nat) (c : Ct) : MEnv := { names := f_law_goal.names, vars := [(w_tape, .own (tapeD C k)), (w_count, .dat (.int ((c.n : Nat) : Int)))], pin := some w_tape }
noncomputable def goalS0 : Stmt := f_law_goal.body.getD 0 noS
noncomputable def goalX (j : Nat) : Expr := (kids (ex0 goalS0)).getD j noE
noncomputable def Vw.n : Vw → Nat
  | .fit => 0
  | .xyz => 1
  | .fitH => 2
  | .fat => 3
noncomputable def Wy.n : Wy → Nat
  | .row => 0
  | .dict => 1
  | .none => 2
theorem sp_of {i : Nat} (h : i < 5) : ∃ s : Sp, i = s.n := by
  match i, h with
  | 0, _ => exact ⟨.a, rfl⟩
  | 1, _ => exact ⟨.b, rfl⟩
  | 2, _ => exact ⟨.c, rfl⟩
  | 3, _ => exact ⟨.d, rfl⟩
  | 4, _ => exact ⟨.e, rfl⟩
theorem vw_of {i : Nat} (h : i < 4) : ∃ s : Vw, i = s.n := by
  match i, h with
  | 0, _ => exact ⟨.fit, rfl⟩
  | 1, _ => exact ⟨.xyz, rfl⟩
  | 2, _ => exact ⟨.fitH, rfl⟩
  | 3, _ => exact ⟨.fat, rfl⟩
theorem wy_of {i : Nat} (h : i < 3) : ∃ s : Wy, i = s.n := by
  match i, h with
  | 0, _ => exact ⟨.row, rfl⟩
  | 1, _ => exact ⟨.dict, rfl⟩
  | 2, _ => exact ⟨.none, rfl⟩
noncomputable def goalVars (T : D) (c : Ct) (g : Goal) : List (Str × Slot) := [(w_tape, .own T), (w_count, .dat (.int ((c.n : Nat) : Int))), (w_way, .dat (.int ((g.w.n : Nat) : Int))), (w_view, .dat (.str g.v.s)), (w_spot, .dat (.int ((g.s.n : Nat) : Int)))]
noncomputable def goalOut (c : Ct) (g : Goal) : D := .tup [gV g, .str (gW c g)]
theorem goal_rest (T : D) (c : Ct) (g : Goal) (n : Nat) : (o2 ((ev g0 (n + 50)).B { names := f_law_goal.names, vars := goalVars T c g, pin := some w_tape } (f_law_goal.body.drop 1)) fun fl env1 => some (retOf fl, firstOf env1)) = some (goalOut c g, .own T) := by
  obtain ⟨s, v, w⟩ := g
  cases c <;> cases s <;> cases v <;> cases w <;> kernel_rfl
theorem goal_xs : tupT (ex0 goalS0) = some [goalX 0, goalX 1, goalX 2] := by kernel_rfl
theorem views_at (v : Vw) : subD (.tup [.str ⟨#[70, 105, 116]⟩, .str ⟨#[88, 89, 90]⟩, .str ⟨#[70, 105, 116, 72]⟩, .str ⟨#[70, 97, 116]⟩]) (.int ((v.n : Nat) : Int)) = some (.str v.s) := by cases v <;> rfl
/-- a goal is drawn -/
theorem goal_at {cs : List Int} {k : Nat} (h0 : 0 < cs.length) (h1 : cs.length ≤ 50) (hk : k ≤ 50) (c : Ct) : ∃ g : Goal, ∀ n, (ev g0 (n + 60)).K f_law_goal [.own (tapeD (cellsD cs) k), .dat (.int ((c.n : Nat) : Int))] = some (goalOut c g, .own (tapeD (cellsD cs) (k + 3))) := by
  obtain ⟨i5, l5, d5⟩ := draw_at (m := 5) h0 h1 (k := k) (by omega) (by omega) (by omega)
  obtain ⟨i4, l4, d4⟩ := draw_at (m := 4) h0 h1 (k := k + 1) (by omega) (by omega) (by omega)
  obtain ⟨i3, l3, d3⟩ := draw_at (m := 3) h0 h1 (k := k + 1 + 1) (by omega) (by omega) (by omega)
  obtain ⟨s, rfl⟩ := sp_of l5
  obtain ⟨v, rfl⟩ := vw_of l4
  obtain ⟨w, rfl⟩ := wy_of l3
  refine ⟨⟨s, v, w⟩, fun n => ?_⟩
  have hr : rhsAll (ev g0 (n + 57)) (goalEnv (cellsD cs) k c) [goalX 0, goalX 1, goalX 2] = some ([.dat (.int ((s.n : Nat) : Int)), .dat (.str v.s), .dat (.int ((w.n : Nat) : Int))], goalEnv (cellsD cs) (k + 3) c) :=
    rhs_cons (by kernel_rfl) (draw_call (n := n + 16) (env' := goalEnv (cellsD cs) (k + 1) c) (k := k) (m := 5) ⟨⟨by kernel_rfl, by kernel_rfl⟩, by kernel_rfl⟩ (by kernel_rfl) (by kernel_rfl) (by kernel_rfl) (by kernel_rfl) (d5 (n + 16)) (by kernel_rfl))
      (rhs_cons (by kernel_rfl) (run_sub (n := n + 56) (env1 := goalEnv (cellsD cs) (k + 1) c) (a := .tup [.str ⟨#[70, 105, 116]⟩, .str ⟨#[88, 89, 90]⟩, .str ⟨#[70, 105, 116, 72]⟩, .str ⟨#[70, 97, 116]⟩]) ⟨by kernel_rfl, by kernel_rfl⟩ (by kernel_rfl)
          (draw_call (n := n + 15) (env' := goalEnv (cellsD cs) (k + 2) c) (k := k + 1) (m := 4) ⟨⟨by kernel_rfl, by kernel_rfl⟩, by kernel_rfl⟩ (by kernel_rfl) (by kernel_rfl) (by kernel_rfl) (by kernel_rfl) (d4 (n + 15)) (by kernel_rfl)) (views_at v))
        (rhs_cons (by kernel_rfl) (draw_call (n := n + 16) (env' := goalEnv (cellsD cs) (k + 3) c) (k := k + 1 + 1) (m := 3) ⟨⟨by kernel_rfl, by kernel_rfl⟩, by kernel_rfl⟩ (by kernel_rfl) (by kernel_rfl) (by kernel_rfl) (by kernel_rfl) (d3 (n + 16)) (by kernel_rfl)) rhs_nil))
  have hS : (ev g0 (n + 58)).S (goalEnv (cellsD cs) k c) goalS0 = some (.nxt, { names := f_law_goal.names, vars := goalVars (tapeD (cellsD cs) (k + 3)) c ⟨s, v, w⟩, pin := some w_tape }) :=
    run_tupA (n := n + 57) (sw := true) (ts := kids (ex1 goalS0)) ⟨by kernel_rfl, by kernel_rfl, by kernel_rfl, goal_xs⟩ (by kernel_rfl) hr (by kernel_rfl)
  have hB := goal_rest (tapeD (cellsD cs) (k + 3)) c ⟨s, v, w⟩ (n + 8)
  refine bo2 hB fun fl env1 hb e => ?_
  have e := s1 e
  have := run_K (g := g0) (n := n + 59) (f := f_law_goal) (ss := [.own (tapeD (cellsD cs) k), .dat (.int ((c.n : Nat) : Int))]) (vs := [(w_tape, .own (tapeD (cellsD cs) k)), (w_count, .dat (.int ((c.n : Nat) : Int)))]) (by kernel_rfl)
    (run_B (n := n + 58) (s := goalS0) (r := f_law_goal.body.drop 1) hS hb)
  exact this.trans (congrArg some e)
end Mine

set_option Elab.async false
set_option maxRecDepth 100000
namespace Mine
open PySem PySem.W PyProof.Rows PySem.Calls
/-! the four names, and what is kept under them -/
inductive Nm where
  | a | ab | b | z
noncomputable def Nm.n : Nm → Nat
  | .z => 0
  | .a => 1
  | .ab => 2
  | .b => 3
noncomputable def Nm.s : Nm → Str
  | .a => ⟨#[97]⟩
  | .ab => ⟨#[97, 98]⟩
  | .b => ⟨#[98]⟩
  | .z => ⟨#[90]⟩
noncomputable def Nm.o : Nm → List UInt8
  | .a => [97]
  | .ab => [97, 98]
  | .b => [98]
  | .z => [90]
noncomputable def eqN (x y : Nm) : Bool := Nat.beq x.n y.n
theorem eqN_is {x y : Nm} (h : eqN x y = true) : x = y := by
  cases x <;> cases y <;> first | rfl | exact absurd h Bool.false_ne_true
theorem eqN_rfl (x : Nm) : eqN x x = true := by cases x <;> rfl
structure KeyOk (em : Nm → D) : Prop where
  eq : ∀ x y, keyEq (em x) (em y) = some (eqN x y)
  lt : ∀ x y, ltD (em x) (em y) = some (Nat.blt x.n y.n)
noncomputable def kS (x : Nm) : D := .str x.s
noncomputable def kO (x : Nm) : D := .bytes x.o
theorem okS : KeyOk kS := ⟨fun x y => by cases x <;> cases y <;> rfl, fun x y => by cases x <;> cases y <;> rfl⟩
theorem okO : KeyOk kO := ⟨fun x y => by cases x <;> cases y <;> rfl, fun x y => by cases x <;> cases y <;> rfl⟩
section
variable {α : Type}
noncomputable def putN : List (Nm × α) → Nm → α → List (Nm × α)
  | [], x, v => [(x, v)]
  | (y, w) :: r, x, v => if eqN y x then (y, v) :: r else (y, w) :: putN r x v
noncomputable def getN : List (Nm × α) → Nm → Option α
  | [], _ => .none
  | (y, w) :: r, x => if eqN y x then some w else getN r x
noncomputable def mapN (em : Nm → D) (V : α → D) : List (Nm × α) → List (D × D)
  | [] => []
  | (x, v) :: r => (em x, V v) :: mapN em V r
noncomputable def distN : List (Nm × α) → Prop
  | [] => True
  | (x, _) :: r => getN r x = .none ∧ distN r
noncomputable def putT (l : List (Nm × α)) : List (Nm × α) → List (Nm × α)
  | [] => l
  | (x, v) :: r => putT (putN l x v) r
variable {em : Nm → D} {V : α → D}
theorem mapN_len : ∀ l : List (Nm × α), (mapN em V l).length = l.length
  | [] => rfl
  | (_, _) :: r => congrArg (· + 1) (mapN_len r)
theorem dput_map (K : KeyOk em) (x : Nm) (v : α) (l : List (Nm × α)) : dput (mapN em V l) (em x) (V v) = some (mapN em V (putN l x v)) := by
  induction l with
  | nil => exact o1_of (K.eq x x) rfl
  | cons p r ih =>
    refine o1_of (K.eq p.1 x) ?_
    show _ = some (mapN em V (if eqN p.1 x = true then _ else _))
    cases eqN p.1 x with
    | true => rfl
    | false => exact o1_of ih rfl
theorem dget_map (K : KeyOk em) (x : Nm) (l : List (Nm × α)) : dget (mapN em V l) (em x) = some ((getN l x).map V) := by
  induction l with
  | nil => exact o1_of (K.eq x x) rfl
  | cons p r ih =>
    refine o1_of (K.eq p.1 x) ?_
    show _ = some (Option.map V (if eqN p.1 x = true then _ else _))
    cases eqN p.1 x with
    | true => rfl
    | false => exact ih
theorem get_put (x : Nm) (v : α) (y : Nm) (l : List (Nm × α)) : getN (putN l x v) y = if eqN x y then some v else getN l y := by
  induction l with
  | nil => rfl
  | cons p r ih =>
    show getN (if eqN p.1 x = true then _ else _) y = if eqN x y = true then _ else (if eqN p.1 y = true then _ else _)
    cases h : eqN p.1 x with
    | true =>
      obtain rfl := eqN_is h
      show (if eqN p.1 y = true then _ else _) = _
      cases eqN p.1 y <;> rfl
    | false =>
      show (if eqN p.1 y = true then _ else getN (putN r x v) y) = _
      rw [ih]
      cases h1 : eqN p.1 y with
      | false => rfl
      | true =>
        obtain rfl := eqN_is h1
        cases h2 : eqN x p.1 with
        | false => rfl
        | true =>
          obtain rfl := eqN_is h2
          exact absurd (h.symm.trans (eqN_rfl _)) (by decide)
theorem dist_put (x : Nm) (v : α) (l : List (Nm × α)) (h : distN l) : distN (putN l x v) := by
  induction l with
  | nil => exact ⟨rfl, trivial⟩
  | cons p r ih =>
    show distN (if eqN p.1 x = true then _ else _)
    cases h1 : eqN p.1 x with
    | true => exact h
    | false =>
      refine ⟨?_, ih h.2⟩
      rw [get_put]
      cases h2 : eqN x p.1 with
      | false => exact h.1
      | true =>
        obtain rfl := eqN_is h2
        exact absurd (h1.symm.trans (eqN_rfl _)) (by decide)
theorem len_put (x : Nm) (v : α) (l : List (Nm × α)) : (putN l x v).length ≤ l.length + 1 := by
  induction l with
  | nil => exact Nat.le_refl _
  | cons p r ih =>
    show List.length (if eqN p.1 x = true then _ else _) ≤ _
    cases eqN p.1 x with
    | true => exact Nat.le_succ _
    | false => exact Nat.succ_le_succ ih
theorem dist_putT (t : List (Nm × α)) : ∀ l : List (Nm × α), distN l → distN (putT l t) := by
  induction t with
  | nil => exact fun zz h=> h
  | cons p r ih => exact fun l h => ih _ (dist_put _ _ _ h)
theorem len_putT (t : List (Nm × α)) : ∀ l : List (Nm × α), (putT l t).length ≤ l.length + t.length := by
  induction t with
  | nil => exact fun zz=> Nat.le_refl _
  | cons p r ih =>
    intro l
    have h1 := ih (putN l p.1 p.2)
    have h2 := len_put p.1 p.2 l
    show (putT (putN l p.1 p.2) r).length ≤ l.length + (r.length + 1)
    omega
theorem get_putT (t : List (Nm × α)) : ∀ l k : List (Nm × α), (∀ y, getN l y = getN k y) → ∀ y, getN (putT l t) y = getN (putT k t) y := by
  induction t with
  | nil => exact fun zz zz h=> h
  | cons p r ih => exact fun l k h => ih _ _ fun y => by rw [get_put, get_put, h]
theorem putT_snoc (x : Nm) (v : α) (t : List (Nm × α)) : ∀ l : List (Nm × α), putT l (t ++ [(x, v)]) = putN (putT l t) x v := by
  induction t with
  | nil => exact fun zz=> rfl
  | cons p r ih => exact fun l => ih _
/-! sorted keys -/
noncomputable def c1 (c : Bool) (x : Nm) (l : List Nm) : List Nm := if c = true then x :: l else l
noncomputable def pick4 (z a ab b : Bool) : List Nm := c1 z .z (c1 a .a (c1 ab .ab (c1 b .b [])))
noncomputable def pick (p : Nm → Bool) : List Nm := [.z, .a, .ab, .b].filter p
theorem pick_eq (p : Nm → Bool) : pick p = pick4 (p .z) (p .a) (p .ab) (p .b) := by
  unfold pick
  rw [List.filter_cons, List.filter_cons, List.filter_cons, List.filter_cons]
  rfl
noncomputable def insN (x : Nm) : List Nm → List Nm
  | [] => [x]
  | y :: r => if Nat.blt x.n y.n then x :: y :: r else y :: insN x r
theorem ins_a (x y z : Bool) : insN .a (pick4 x false y z) = pick4 x true y z := by cases x <;> cases y <;> cases z <;> rfl
theorem ins_z (x y z : Bool) : insN .z (pick4 false x y z) = pick4 true x y z := by cases x <;> cases y <;> cases z <;> rfl
theorem ins_ab (x y z : Bool) : insN .ab (pick4 x y false z) = pick4 x y true z := by cases x <;> cases y <;> cases z <;> rfl
theorem ins_b (x y z : Bool) : insN .b (pick4 x y z false) = pick4 x y z true := by cases x <;> cases y <;> cases z <;> rfl
theorem ins_pick (x : Nm) (p : Nm → Bool) (h : p x = false) : insN x (pick p) = pick fun y => if eqN x y then true else p y := by
  rw [pick_eq, pick_eq]
  cases x with
  | a => rw [h]; exact ins_a ..
  | ab => rw [h]; exact ins_ab ..
  | b => rw [h]; exact ins_b ..
  | z => rw [h]; exact ins_z ..
theorem insD_map (K : KeyOk em) (x : Nm) (l : List Nm) : insD (em x) (l.map em) = some ((insN x l).map em) := by
  induction l with
  | nil => rfl
  | cons y r ih =>
    refine o1_of (K.lt x y) ?_
    show _ = some (List.map em (if Nat.blt x.n y.n = true then _ else _))
    cases Nat.blt x.n y.n with
    | true => rfl
    | false => exact o1_of ih rfl
noncomputable def hasN (l : List (Nm × α)) (y : Nm) : Bool := (getN l y).isSome
theorem sort_map (K : KeyOk em) (l : List (Nm × α)) (h : distN l) : sortD (keysD (mapN em V l)) = some ((pick (hasN l)).map em) := by
  induction l with
  | nil => rfl
  | cons p r ih =>
    refine o1_of (ih h.2) ((insD_map K p.1 _).trans ?_)
    rw [ins_pick p.1 _ (by show (getN r p.1).isSome = false; rw [h.1]; rfl)]
    refine congrArg (fun q => some ((pick q).map em)) (funext fun y => ?_)
    show _ = (if eqN p.1 y = true then _ else _ : Option α).isSome
    cases eqN p.1 y <;> rfl
theorem pick_len (p : Nm → Bool) : (pick p).length ≤ 4 := List.length_filter_le p [.z, .a, .ab, .b]
theorem pick_mem {p : Nm → Bool} {y : Nm} (h : y ∈ pick p) : p y = true := (List.mem_filter.mp h).2
end
end Mine

set_option Elab.async false
set_option maxRecDepth 100000
namespace Mine
open PySem PySem.W PyProof.Rows PySem.Calls
/-! the law's variables -/
noncomputable def w_script : Str := ⟨#[115, 99, 114, 105, 112, 116]⟩
noncomputable def w_old : Str := ⟨#[111, 108, 100]⟩
noncomputable def w_tree : Str := ⟨#[116, 114, 101, 101]⟩
noncomputable def w_due : Str := ⟨#[100, 117, 101]⟩
noncomputable def w_value : Str := ⟨#[118, 97, 108, 117, 101]⟩
noncomputable def w_goal : Str := ⟨#[95, 108, 97, 119, 95, 103, 111, 97, 108]⟩
noncomputable def lawS (i : Nat) : Stmt := f_law.body.getD i noS
noncomputable def lawEnv (S C : D) (k : Nat) (c : Ct) (tb os ts ds : Slot) (rest : List (Str × Slot)) : MEnv := { names := f_law.names, vars := (w_script, .dat S) :: (w_tape, .own (tapeD C k)) :: (w_count, .dat (.int ((c.n : Nat) : Int))) :: (w_table, tb) :: (w_spot, .dat (.int ((c.n.pred : Nat) : Int))) :: (w_old, os) :: (w_tree, ts) :: (w_due, ds) :: rest, pin := .none }
noncomputable def oldL (o : List (Nm × Goal)) : List (D × D) := mapN kS gV o
noncomputable def dueL (c : Ct) (u : List (Nm × Goal)) : List (D × D) := mapN kS (fun g => .str (gW c g)) u
noncomputable def treeL : List (Nm × Goal) → List D
  | [] => []
  | (x, g) :: r => strD x.o :: gV g :: treeL r
noncomputable def own0 : Slot := .own (.list [])
noncomputable def nmR : Option Nm → List (Str × Slot)
  | .none => []
  | some x => [(w_name, .dat (.str x.s))]
noncomputable def env5 (S C : D) (c : Ct) (k : Nat) (o : List (Nm × Goal)) (q : Option Nm) : MEnv := lawEnv S C k c (.own (.dict (tableL c.n))) (.own (.dict (oldL o))) own0 (.own (.dict (dueL c o))) (nmR q)
section
variable {S : D} {cs : List Int} (c : Ct)
noncomputable def if5 : Stmt := (bl0 (lawS 5)).getD 0 noS
noncomputable def as5 : Stmt := (bl0 if5).getD 0 noS
theorem fit_map {α : Type} {em : Nm → D} {V : α → D} {l : List (Nm × α)} (h : l.length ≤ 20) : fitN (mapN em V l).length = true := by
  rw [mapN_len]
  exact fitN_of (Nat.le_trans h (by decide))
/-- the test of a draw of two -/
theorem draw2_T {env env' : MEnv} {e : Expr} {i n : Nat} (he : (e = .Compare (ch0 e) [.Eq] [ch1 e] e.pos ∧ isSetE (ch1 e) = false ∧ isEmptyList (ch1 e) = false) ∧ rightE (ev g0 (n + 41)) env' .Eq (ch1 e) = some (.int 0, env'))
    (h : (ev g0 (n + 41)).E env (ch0 e) = some (.int (i : Int), env')) : (ev g0 (n + 42)).T env e = some (Nat.beq i 0, env') :=
  run_cmpT he.1 h he.2 (by cases i <;> rfl)
theorem step5 (h0 : 0 < cs.length) (h1 : cs.length ≤ 50) (x : Nm) (k : Nat) (o : List (Nm × Goal)) (hk : k ≤ 46) (ho : o.length ≤ 10) : ∃ k' o', k' ≤ k + 4 ∧ (distN o → distN o') ∧ o'.length ≤ o.length + 1 ∧ ∀ n, (ev g0 (n + 70)).B (env5 S (cellsD cs) c k o (some x)) (bl0 (lawS 5)) = some (.nxt, env5 S (cellsD cs) c k' o' (some x)) := by
  obtain ⟨i, hi, hd⟩ := draw_at (m := 2) h0 h1 (k := k) (by omega) (by omega) (by omega)
  have hT : ∀ n, (ev g0 (n + 68)).T (env5 S (cellsD cs) c k o (some x)) (ex0 if5) = some (Nat.beq i 0, env5 S (cellsD cs) c (k + 1) o (some x)) := fun n =>
    draw2_T (n := n + 26) ⟨⟨by kernel_rfl, by kernel_rfl, by kernel_rfl⟩, by kernel_rfl⟩ (draw_call (m := 2) (k := k) (n := n + 26) ⟨⟨by kernel_rfl, by kernel_rfl⟩, by kernel_rfl⟩ (by kernel_rfl) (by kernel_rfl) (by kernel_rfl) (by kernel_rfl) (hd (n + 26)) (by kernel_rfl))
  cases i with
  | succ i => exact ⟨k + 1, o, by omega, id, Nat.le_succ _, fun n => run_B (n := n + 69) (s := if5) (r := []) (env1 := env5 S (cellsD cs) c (k + 1) o (some x)) (run_ifS (n := n + 68) (by kernel_rfl) (hT n) (by kernel_rfl)) (by kernel_rfl)⟩
  | zero =>
    obtain ⟨g, hg⟩ := goal_at h0 h1 (k := k + 1) (by omega) c
    refine ⟨k + 4, putN o x g, Nat.le_refl _, dist_put x g o, len_put x g o, fun n => ?_⟩
    refine run_B (n := n + 69) (s := if5) (r := []) (env1 := env5 S (cellsD cs) c (k + 4) (putN o x g) (some x)) (run_ifS (n := n + 68) (by kernel_rfl) (hT n) ?_) (by kernel_rfl)
    refine run_B (n := n + 67) (s := as5) (r := []) (env1 := env5 S (cellsD cs) c (k + 4) (putN o x g) (some x)) ?_ (by kernel_rfl)
    refine run_unp (n := n + 66) (d := goalOut c g) (ds := [gV g, .str (gW c g)]) (ts := [(kids (ex1 as5)).getD 0 noE, (kids (ex1 as5)).getD 1 noE]) ⟨by kernel_rfl, by kernel_rfl, by kernel_rfl, by kernel_rfl⟩ (env1 := env5 S (cellsD cs) c (k + 4) o (some x))
      (tape_call (n := n + 65) (k := k + 1) (k' := k + 4) (m := .int ((c.n : Nat) : Int)) (f := w_goal) (e := ex0 as5) ⟨⟨by kernel_rfl, by kernel_rfl⟩, by kernel_rfl⟩ (by kernel_rfl) ⟨by kernel_rfl, by kernel_rfl⟩ (by kernel_rfl) (by kernel_rfl) (by kernel_rfl) (hg (n + 5)) (by kernel_rfl)) (by kernel_rfl) ?_
    refine store_cons (env1 := lawEnv S (cellsD cs) (k + 4) c (.own (.dict (tableL c.n))) (.own (.dict (oldL (putN o x g)))) own0 (.own (.dict (dueL c o))) (nmR (some x)))
      (store_item (x := w_old) (k := kS x) (l := oldL o) ⟨by kernel_rfl, by kernel_rfl⟩ (by kernel_rfl) (by kernel_rfl) (fit_map (by omega)) (dput_map okS x g o) (by kernel_rfl)) ?_
    exact store_cons (env1 := env5 S (cellsD cs) c (k + 4) (putN o x g) (some x)) (store_item (x := w_due) (k := kS x) (l := dueL c o) ⟨by kernel_rfl, by kernel_rfl⟩ (by kernel_rfl) (by kernel_rfl) (fit_map (by omega)) (dput_map okS x g o) (by kernel_rfl)) (by kernel_rfl)
theorem bind5 (C : D) (k : Nat) (o : List (Nm × Goal)) (q : Option Nm) (x : Nm) : bindT (env5 S C c k o q) (ex1 (lawS 5)) (kS x) = some (env5 S C c k o (some x)) := by cases q <;> kernel_rfl
theorem loop5 (h0 : 0 < cs.length) (h1 : cs.length ≤ 50) (r : List Nm) : ∀ (x : Nm) (k : Nat) (o : List (Nm × Goal)) (q : Option Nm), k + 4 * r.length ≤ 46 → o.length + r.length ≤ 10 → ∃ k' o' y, k' ≤ k + 4 * (r.length + 1) ∧ (distN o → distN o') ∧ o'.length ≤ o.length + (r.length + 1) ∧
    ∀ n, forAll (ev g0 (n + 70)) (ex1 (lawS 5)) (bl0 (lawS 5)) (env5 S (cellsD cs) c k o q) (kS x :: r.map kS) = some (.nxt, env5 S (cellsD cs) c k' o' (some y)) := by
  induction r with
  | nil =>
    intro x k o q hk ho
    obtain ⟨k', o', e1, e2, e3, e4⟩ := step5 (S := S) c h0 h1 x k o hk (Nat.le_trans (Nat.le_add_right _ _) ho)
    exact ⟨k', o', x, e1, e2, e3, fun n => all_cons (bind5 c _ k o q x) (e4 n) rfl⟩
  | cons z r ih =>
    intro x k o q hk ho
    have hk : k + 4 * (r.length + 1) ≤ 46 := hk
    have ho : o.length + (r.length + 1) ≤ 10 := ho
    obtain ⟨k', o', e1, e2, e3, e4⟩ := step5 (S := S) c h0 h1 x k o (by omega) (by omega)
    obtain ⟨k2, o2, y, f1, f2, f3, f4⟩ := ih z k' o' (some x) (by omega) (by omega)
    exact ⟨k2, o2, y, Nat.le_trans f1 (by show _ ≤ k + 4 * (r.length + 1 + 1); omega), fun h => f2 (e2 h), Nat.le_trans f3 (by show _ ≤ o.length + (r.length + 1 + 1); omega), fun n => all_cons (bind5 c _ k o q x) (e4 n) (f4 n)⟩
end
end Mine

set_option Elab.async false
set_option maxRecDepth 100000
namespace Mine
open PySem PySem.W PyProof.Rows PySem.Calls
noncomputable def valR : Option D → List (Str × Slot)
  | .none => []
  | some d => [(w_value, .dat d)]
noncomputable def env6 (S C : D) (c : Ct) (k : Nat) (o u : List (Nm × Goal)) (ts : Slot) (y : Nm) (v : Option D) : MEnv := lawEnv S C k c (.own (.dict (tableL c.n))) (.own (.dict (oldL o))) ts (.own (.dict (dueL c u))) ((w_name, .dat (.str y.s)) :: valR v)
noncomputable def TS (t : List (Nm × Goal)) (ts : Slot) : Prop := (t = [] ∧ ts = own0) ∨ ts = .dat (.list (treeL t))
theorem treeL_len : ∀ t : List (Nm × Goal), (treeL t).length = 2 * t.length
  | [] => rfl
  | (_, _) :: r => by
    show (treeL r).length + 1 + 1 = 2 * (r.length + 1)
    rw [treeL_len r]
    rfl
theorem treeL_snoc (x : Nm) (g : Goal) : ∀ t : List (Nm × Goal), treeL (t ++ [(x, g)]) = treeL t ++ [strD x.o, gV g]
  | [] => rfl
  | (y, h) :: r => congrArg (fun l => strD y.o :: gV h :: l) (treeL_snoc x g r)
noncomputable def if6 : Stmt := (bl0 (lawS 6)).getD 0 noS
noncomputable def as6 : Stmt := (bl0 if6).getD 0 noS
noncomputable def tr6 : Stmt := (bl0 if6).getD 1 noS
section
variable {S C : D} {cs : List Int} (c : Ct) (o : List (Nm × Goal))
theorem tr6_new (k : Nat) (u : List (Nm × Goal)) (x : Nm) (g : Goal) (l : List D) (n : Nat) : (ev g0 (n + 60)).E (env6 S C c k o u (.dat (.list l)) x (some (gV g))) (ch1 (ex0 tr6)) = some (.list [strD x.o, gV g], env6 S C c k o u (.dat (.list l)) x (some (gV g))) := by
  cases x <;> kernel_rfl
theorem tr6_old (k : Nat) (u t : List (Nm × Goal)) (x : Nm) (g : Goal) (ts : Slot) (h : TS t ts) (n : Nat) : (ev g0 (n + 60)).E (env6 S C c k o u ts x (some (gV g))) (ch0 (ex0 tr6)) = some (.list (treeL t), env6 S C c k o u (.dat (.list (treeL t))) x (some (gV g))) := by
  rcases h with ⟨rfl, rfl⟩ | rfl <;> kernel_rfl
theorem tr6_at (k : Nat) (u t : List (Nm × Goal)) (x : Nm) (g : Goal) (ts : Slot) (h : TS t ts) (hl : t.length ≤ 10) (n : Nat) : (ev g0 (n + 62)).S (env6 S C c k o u ts x (some (gV g))) tr6 = some (.nxt, env6 S C c k o u (.dat (.list (treeL (t ++ [(x, g)])))) x (some (gV g))) := by
  refine run_asg (n := n + 61) (x := w_tree) (d := .list (treeL (t ++ [(x, g)]))) (env1 := env6 S C c k o u (.dat (.list (treeL t))) x (some (gV g))) ⟨by kernel_rfl, by kernel_rfl, by kernel_rfl⟩ ?_ (by kernel_rfl)
  refine run_bin (n := n + 60) (op := .Add) (by kernel_rfl) (tr6_old c o k u t x g ts h n) (tr6_new c o k u x g (treeL t) n) ?_
  rw [treeL_snoc]
  show (if fitN ((treeL t).length + 2) = true then _ else _) = _
  rw [treeL_len, if_pos (fitN_of (by omega))]
theorem bind6 (k : Nat) (u : List (Nm × Goal)) (ts : Slot) (y : Nm) (v : Option D) (x : Nm) : bindT (env6 S C c k o u ts y v) (ex1 (lawS 6)) (kS x) = some (env6 S C c k o u ts x v) := by cases v <;> kernel_rfl
theorem step6 (h0 : 0 < cs.length) (h1 : cs.length ≤ 50) (x : Nm) (k : Nat) (u t : List (Nm × Goal)) (ts : Slot) (v : Option D) (h : TS t ts) (hk : k ≤ 46) (hu : u.length ≤ 20) (ht : t.length ≤ 10) : ∃ k' t' ts' v', k' ≤ k + 4 ∧ t'.length ≤ t.length + 1 ∧ TS t' ts' ∧ (∀ l, u = putT l t → ∃ u', u' = putT l t' ∧
    ∀ n, (ev g0 (n + 70)).B (env6 S (cellsD cs) c k o u ts x v) (bl0 (lawS 6)) = some (.nxt, env6 S (cellsD cs) c k' o u' ts' x v')) := by
  obtain ⟨i, hi, hd⟩ := draw_at (m := 2) h0 h1 (k := k) (by omega) (by omega) (by omega)
  have hT : ∀ n, (ev g0 (n + 68)).T (env6 S (cellsD cs) c k o u ts x v) (ex0 if6) = some (Nat.beq i 0, env6 S (cellsD cs) c (k + 1) o u ts x v) := fun n =>
    draw2_T (n := n + 26) ⟨⟨by kernel_rfl, by kernel_rfl, by kernel_rfl⟩, by kernel_rfl⟩ (draw_call (m := 2) (k := k) (n := n + 26) ⟨⟨by kernel_rfl, by kernel_rfl⟩, by kernel_rfl⟩ (by kernel_rfl) (by kernel_rfl) (by kernel_rfl) (by kernel_rfl) (hd (n + 26)) (by kernel_rfl))
  cases i with
  | succ i => exact ⟨k + 1, t, ts, v, by omega, Nat.le_succ _, h, fun l e => ⟨u, e, fun n => run_B (n := n + 69) (s := if6) (r := []) (env1 := env6 S (cellsD cs) c (k + 1) o u ts x v) (run_ifS (n := n + 68) (by kernel_rfl) (hT n) (by kernel_rfl)) (by kernel_rfl)⟩⟩
  | zero =>
    obtain ⟨g, hg⟩ := goal_at h0 h1 (k := k + 1) (by omega) c
    refine ⟨k + 4, t ++ [(x, g)], .dat (.list (treeL (t ++ [(x, g)]))), some (gV g), Nat.le_refl _, by rw [List.length_append]; exact Nat.le_refl _, .inr rfl, fun l e => ⟨putN u x g, by rw [putT_snoc, e], fun n => ?_⟩⟩
    refine run_B (n := n + 69) (s := if6) (r := []) (env1 := env6 S (cellsD cs) c (k + 4) o (putN u x g) (.dat (.list (treeL (t ++ [(x, g)])))) x (some (gV g))) (run_ifS (n := n + 68) (by kernel_rfl) (hT n) ?_) (by kernel_rfl)
    refine run_B (n := n + 67) (s := as6) (r := [tr6]) (env1 := env6 S (cellsD cs) c (k + 4) o (putN u x g) ts x (some (gV g))) ?_ (run_B (n := n + 66) (r := []) (tr6_at c o (k + 4) (putN u x g) t x g ts h ht (n + 4)) (by kernel_rfl))
    refine run_unp (n := n + 66) (d := goalOut c g) (ds := [gV g, .str (gW c g)]) (ts := [(kids (ex1 as6)).getD 0 noE, (kids (ex1 as6)).getD 1 noE]) ⟨by kernel_rfl, by kernel_rfl, by kernel_rfl, by kernel_rfl⟩ (env1 := env6 S (cellsD cs) c (k + 4) o u ts x v)
      (tape_call (n := n + 65) (k := k + 1) (k' := k + 4) (m := .int ((c.n : Nat) : Int)) (f := w_goal) (e := ex0 as6) ⟨⟨by kernel_rfl, by kernel_rfl⟩, by kernel_rfl⟩ (by kernel_rfl) ⟨by kernel_rfl, by kernel_rfl⟩ (by kernel_rfl) (by kernel_rfl) (by kernel_rfl) (hg (n + 5)) (by kernel_rfl)) (by kernel_rfl) ?_
    refine store_cons (env1 := env6 S (cellsD cs) c (k + 4) o u ts x (some (gV g))) (by cases v <;> kernel_rfl) ?_
    exact store_cons (env1 := env6 S (cellsD cs) c (k + 4) o (putN u x g) ts x (some (gV g))) (store_item (x := w_due) (k := kS x) (l := dueL c u) ⟨by kernel_rfl, by kernel_rfl⟩ (by kernel_rfl) (by kernel_rfl) (fit_map hu) (dput_map okS x g u) (by kernel_rfl)) (by kernel_rfl)
theorem loop6 (h0 : 0 < cs.length) (h1 : cs.length ≤ 50) (l : List (Nm × Goal)) (hl : l.length ≤ 10) (r : List Nm) : ∀ (k : Nat) (t : List (Nm × Goal)) (ts : Slot) (y : Nm) (v : Option D), TS t ts → k + 4 * r.length ≤ 48 → t.length + r.length ≤ 10 → ∃ k' t' ts' y' v', k' ≤ k + 4 * r.length ∧ t'.length ≤ t.length + r.length ∧ TS t' ts' ∧
    ∀ n, forAll (ev g0 (n + 70)) (ex1 (lawS 6)) (bl0 (lawS 6)) (env6 S (cellsD cs) c k o (putT l t) ts y v) (r.map kS) = some (.nxt, env6 S (cellsD cs) c k' o (putT l t') ts' y' v') := by
  induction r with
  | nil => exact fun k t ts y v h zz zz=> ⟨k, t, ts, y, v, Nat.le_refl _, Nat.le_refl _, h, fun n => rfl⟩
  | cons z r ih =>
    intro k t ts y v h hk ht
    have hk : k + 4 * (r.length + 1) ≤ 48 := hk
    have ht : t.length + (r.length + 1) ≤ 10 := ht
    have hu := len_putT t l
    obtain ⟨k1, t1, s1, v1, e1, e2, e3, e4⟩ := step6 (S := S) c o h0 h1 z k (putT l t) t ts v h (by omega) (by omega) (by omega)
    obtain ⟨_, rfl, e5⟩ := e4 l rfl
    obtain ⟨k2, t2, s2, y2, v2, f1, f2, f3, f4⟩ := ih k1 t1 s1 z v1 e3 (by omega) (by omega)
    exact ⟨k2, t2, s2, y2, v2, Nat.le_trans f1 (by show _ ≤ k + 4 * (r.length + 1); omega), Nat.le_trans f2 (by show _ ≤ t.length + (r.length + 1); omega), f3, fun n => all_cons (bind6 c o k _ ts y v z) (e5 n) (f4 n)⟩
end
end Mine

set_option Elab.async false
set_option maxRecDepth 100000
namespace Mine
open PySem
section
variable {g : Gt} {n : Nat} {env env1 env2 : MEnv}
/-! sorted(d), as an expression and as what is looped over -/
theorem run_sorted {e : Expr} {d : D} {r : List D} (he : e = .Call (ch0 e) (argsE e) [] e.pos ∧ nameT (ch0 e) = some n_sorted) (hg : env.isGlob n_sorted = true) (hl : lookS g.globals n_sorted = .none) (hL : (ev g n).L env (argsE e) = some ([d], env1)) (hd : (o1 (sortable d) sortD) = some r) : (ev g (n + 1)).E env e = some (.list r, env1) := by
  refine run_callN he hg ?_
  unfold callGlob
  rw [hl]
  have e1 : callBlt g (ev g n) env n_sorted (argsE e) = o2 ((ev g n).L env (argsE e)) (fun ds env1 => o1 (callB n_sorted ds) fun d => some (d, env1)) := by kernel_rfl
  refine e1.trans (o2_of hL ?_)
  refine bo1 hd fun l h1 h2 => ?_
  have e2 : callB n_sorted [d] = o1 (sortable d) fun l => o1 (sortD l) fun r => some (.list r) := by kernel_rfl
  rw [e2, h1]
  show o1 (o1 (sortD l) _) _ = _
  rw [h2]
  rfl
theorem run_iter {e : Expr} {d : D} {l : List D} (h : iterE g (ev g n) env e = iterRest (ev g n) env e) (hE : (ev g n).E env e = some (d, env1)) (hi : itemsOf d = some l) : iterE g (ev g n) env e = some (l, env1) :=
  h.trans (o2_of hE (o1_of hi rfl))
/-! v[i] = e -/
theorem run_store {s : Stmt} {d : D} (hs : s = .Assign [ex1 s] (ex0 s) (sPos s) ∧ nameT (ex1 s) = .none ∧ tupT (ex1 s) = .none) (hE : (ev g n).E env (ex0 s) = some (d, env1)) (hst : storeOne g (ev g n) env1 (ex1 s) d = some env2) : (ev g (n + 1)).S env s = some (.nxt, env2) := by
  refine S_asg hs.1 ?_
  unfold assignE
  rw [hs.2.1, hs.2.2]
  exact o2_of hE hst
theorem L_nil : (ev g (n + 1)).L env [] = some ([], env) := rfl
theorem L_cons {e : Expr} {r : List Expr} {d : D} {ds : List D} (hE : (ev g n).E env e = some (d, env1)) (hL : (ev g n).L env1 r = some (ds, env2)) : (ev g (n + 1)).L env (e :: r) = some (d :: ds, env2) := o2_of hE (o2_of hL rfl)
/-! comprehensions -/
noncomputable def elt : Expr → Expr
  | .ListComp e _ _ _ => e
  | _ => noE
noncomputable def cmp1 : Expr → Comprehension
  | .ListComp _ gs _ _ => gs.getD 0 ⟨noE, noE, [], 0⟩
  | _ => ⟨noE, noE, [], 0⟩
noncomputable def cscopeS : Expr → Scope
  | .ListComp _ _ s _ => s
  | _ => { kind := .function, names := [], isGenerator := false, isCoroutine := false }
theorem comp_cons {x : Str} {e : Expr} {ifs : List Expr} {env0 : MEnv} {d y : D} {r ys : List D} (hb : bindName env x (.dat d) = some env0) (ha : allT (ev g n) .And env0 ifs = some (true, env1)) (hE : (ev g n).E env1 e = some (y, env2)) (hr : compAll (ev g n) x e ifs env2 r = some ys) : compAll (ev g n) x e ifs env (d :: r) = some (y :: ys) :=
  o1_of hb (o2_of ha ((if_pos rfl).trans (o2_of hE (o1_of hr rfl))))
theorem comp_skip {x : Str} {e : Expr} {ifs : List Expr} {env0 : MEnv} {d : D} {r ys : List D} (hb : bindName env x (.dat d) = some env0) (ha : allT (ev g n) .And env0 ifs = some (false, env1)) (hr : compAll (ev g n) x e ifs env1 r = some ys) : compAll (ev g n) x e ifs env (d :: r) = some ys :=
  o1_of hb (o2_of ha ((if_neg Bool.false_ne_true).trans hr))
theorem run_comp {e : Expr} {x : Str} {ds r : List D} (he : e = .ListComp (elt e) [⟨(cmp1 e).target, (cmp1 e).iter, (cmp1 e).ifs, 0⟩] (cscopeS e) e.pos ∧ nameT (cmp1 e).target = some x) (h1 : (!(isSetE (cmp1 e).iter) && datFree (freezeF (cscopeS e).names env) (cscopeS e).names) = true)
    (hi : iterE g (ev g n) (freezeF (cscopeS e).names env) (cmp1 e).iter = some (ds, env1)) (hf : fitN ds.length = true) (hs : (true && fnScope (cscopeS e) && scopeOk (cscopeS e).names && datFree env1 (cscopeS e).names) = true)
    (hc : compAll (ev g n) x (elt e) (cmp1 e).ifs { names := (cscopeS e).names, vars := freeV (cscopeS e).names env1 } ds = some r) : (ev g (n + 1)).E env e = some (.list r, env1) := by
  refine E_of he.1 (o1_of he.2 ((if_pos h1).trans (o2_of hi ?_)))
  show (if (fitN ds.length && _ && _ && _) = true then _ else _) = _
  rw [hf, if_pos hs]
  exact o1_of hc rfl
/-! methods of values -/
theorem run_call {e : Expr} {m : Str} {d : D} {ds : List D} {out : Option (D × MEnv)} (he : e = .Call (ch0 e) (argsE e) [] e.pos ∧ ch0 e = .Attribute (ch0 (ch0 e)) m (ch0 e).pos ∧ (plainBase (ch0 (ch0 e)) && callOk (ch0 e).pos e.pos (argsE e)) = true) (ho : ownRecv env (ch0 (ch0 e)) = .none)
    (hE : (ev g n).E env (ch0 (ch0 e)) = some (d, env1)) (hL : (ev g n).L env1 (argsE e) = some (ds, env2)) (hv : callVal g (ev g n) env2 d m ds = out) : (ev g (n + 1)).E env e = out := by
  refine E_of he.1 ?_
  show (match nameT (ch0 e) with
    | some x => callName g (ev g n) env x (argsE e)
    | .none => o1 (attrT (ch0 e)) fun p => if (plainBase p.1 && callOk p.2.2 e.pos (argsE e)) = true then callMeth g (ev g n) env p.1 p.2.1 (argsE e) else .none) = out
  have h1 : nameT (ch0 e) = .none := by rw [he.2.1]; rfl
  have h2 : attrT (ch0 e) = some (ch0 (ch0 e), m, (ch0 e).pos) := by rw [he.2.1]; rfl
  rw [h1]
  refine o1_of h2 ((if_pos he.2.2).trans ?_)
  unfold callMeth
  rw [ho]
  exact o2_of hE (o2_of hL hv)
theorem val_inst {m : Str} {ds : List D} {C : Nat} {fs : List (Str × D)} {r : FnRec} {d' : D} {sl : Slot} (hf : (fget fs m).isNone = true) (hM : lookM g.methods C m = some r) (hK : (ev g n).K r (.dat (.inst C fs) :: dats ds) = some (d', sl)) : callVal g (ev g n) env (.inst C fs) m ds = some (d', env) :=
  ((if_pos hf).trans (o1_of hM (o2_of hK rfl)) : (if (fget fs m).isNone = true then _ else _) = _)
theorem val_join {s t : Str} {m : Str} {l : List D} (hm : seq m n_join = true) (hj : joinFits s l = true) (ht : joinL s l = some t) : callVal g (ev g n) env (.str s) m [.list l] = some (.str t, env) := by
  refine (o1_of (a := .str t) ?_ rfl : o1 (methD (.str s) m [.list l]) _ = _)
  show (if seq m n_join = true then _ else _) = _
  rw [if_pos hm]
  exact ((if_pos hj).trans (o1_of ht rfl) : (if joinFits s l = true then _ else _) = _)
end
end Mine

set_option Elab.async false
set_option maxRecDepth 100000
namespace Mine
open PySem PySem.W PyProof.Rows PySem.Calls
noncomputable def w_root : Str := ⟨#[114, 111, 111, 116]⟩
noncomputable def oldD (o : List (Nm × Goal)) : D := .dict (oldL o)
noncomputable def namesD (t : List (Nm × Goal)) : D := .dict [(.str w_Dests, .dict [(.str w_Names, .list (treeL t))])]
noncomputable def NM (t : List (Nm × Goal)) (nm : Option D) : Prop := nm = some (namesD t) ∨ (nm = .none ∧ t = [])
noncomputable def env7 (S C : D) (c : Ct) (k : Nat) (o u : List (Nm × Goal)) (ts : Slot) (y : Nm) (v : Option D) (nm : Option D) : MEnv := lawEnv S C k c (.own (.dict (tableL c.n))) (.dat (oldD o)) ts (.own (.dict (dueL c u))) ((w_name, .dat (.str y.s)) :: (valR v ++ [(w_root, .own (rootN (oldD o) nm))]))
noncomputable def env10 (S C : D) (c : Ct) (k : Nat) (o : List (Nm × Goal)) (ts ds : Slot) (y : Nm) (v : Option D) (nm : Option D) (rest : List (Str × Slot)) : MEnv := lawEnv S C k c (.dat (.dict (tableL c.n ++ [(.int 1, .tup [.int 0, rootN (oldD o) nm])]))) (.dat (oldD o)) ts ds ((w_name, .dat (.str y.s)) :: (valR v ++ (w_root, .dat (rootN (oldD o) nm)) :: (w_shelf, .dat (shelfC c (oldD o) nm)) :: rest))
noncomputable def or8 : Expr := ex0 (lawS 8)
section
variable {S C : D} {cs : List Int} (c : Ct) (o u t : List (Nm × Goal)) (ts : Slot) (y : Nm) (v : Option D) (nm : Option D) (k n : Nat)
theorem s7 : (ev g0 (n + 40)).S (env6 S C c k o u ts y v) (lawS 7) = some (.nxt, env7 S C c k o u ts y v .none) := by cases v <;> kernel_rfl
theorem s8_tree (p : Nm × Goal) : (ev g0 (n + 60)).S (env7 S C c k o u (.dat (.list (treeL (p :: t)))) y v .none) (lawS 8) = some (.nxt, env7 S C c k o u (.dat (.list (treeL (p :: t)))) y v (some (namesD (p :: t)))) := by cases v <;> kernel_rfl
theorem s8_test (h : TS [] ts) : (ev g0 (n + 40)).T (env7 S C c k o u ts y v .none) ((kids or8).getD 0 noE) = some (false, env7 S C c k o u ts y v .none) := by rcases h with ⟨_, rfl⟩ | rfl <;> cases v <;> kernel_rfl
theorem s8_put (h : TS [] ts) : (ev g0 (n + 40)).B (env7 S C c k o u ts y v .none) (bl0 (lawS 8)) = some (.nxt, env7 S C c k o u (.dat (.list [])) y v (some (namesD []))) := by rcases h with ⟨_, rfl⟩ | rfl <;> cases v <;> kernel_rfl
theorem s8 (h0 : 0 < cs.length) (h1 : cs.length ≤ 50) (h : TS t ts) (hk : k ≤ 50) : ∃ k' ts' nm, NM t nm ∧ ∀ n, (ev g0 (n + 60)).S (env7 S (cellsD cs) c k o u ts y v .none) (lawS 8) = some (.nxt, env7 S (cellsD cs) c k' o u ts' y v nm) := by
  cases t with
  | cons p r =>
    obtain rfl : ts = .dat (.list (treeL (p :: r))) := by
      rcases h with ⟨h, _⟩ | h
      · exact nomatch h
      · exact h
    exact ⟨k, _, _, .inl rfl, fun n => s8_tree c o u r y v k n p⟩
  | nil =>
    obtain ⟨i, hi, hd⟩ := draw_at (m := 2) h0 h1 (k := k) (by omega) (by omega) (by omega)
    have hT : ∀ n, (ev g0 (n + 59)).T (env7 S (cellsD cs) c k o u ts y v .none) or8 = some (Nat.beq i 0, env7 S (cellsD cs) c (k + 1) o u ts y v .none) := fun n =>
      run_orT (n := n + 58) (a := (kids or8).getD 0 noE) (b := (kids or8).getD 1 noE) (by kernel_rfl) (s8_test c o u ts y v k (n + 18) h)
        (draw2_T (n := n + 16) ⟨⟨by kernel_rfl, by kernel_rfl, by kernel_rfl⟩, by kernel_rfl⟩ (draw_call (m := 2) (k := k) (n := n + 16) ⟨⟨by kernel_rfl, by kernel_rfl⟩, by kernel_rfl⟩ (by kernel_rfl) (by kernel_rfl) (by kernel_rfl) (by kernel_rfl) (hd (n + 16)) (by kernel_rfl)))
    cases i with
    | zero => exact ⟨k + 1, _, _, .inl rfl, fun n => run_ifS (n := n + 59) (by kernel_rfl) (hT n) (s8_put c o u ts y v (k + 1) (n + 19) h)⟩
    | succ i => exact ⟨k + 1, ts, .none, .inr ⟨rfl, rfl⟩, fun n => run_ifS (n := n + 59) (by kernel_rfl) (hT n) (by kernel_rfl)⟩
theorem s9 {C : D} : (ev g0 (n + 40)).B (env7 S C c k o u ts y v nm) [lawS 9, lawS 10] = some (.nxt, env10 S C c k o ts (.own (.dict (dueL c u))) y v nm []) := by cases v <;> cases c <;> kernel_rfl
end
end Mine

set_option Elab.async false
set_option maxRecDepth 100000
namespace Mine
open PySem PySem.W PyProof.Rows PySem.Calls
/-! named -/
noncomputable def w_found : Str := ⟨#[102, 111, 117, 110, 100]⟩
noncomputable def w_key : Str := ⟨#[107, 101, 121]⟩
noncomputable def w_dest : Str := ⟨#[100, 101, 115, 116, 105, 110, 97, 116, 105, 111, 110, 95, 111, 102]⟩
noncomputable def w_tree_pairs : Str := ⟨#[116, 114, 101, 101, 95, 112, 97, 105, 114, 115]⟩
noncomputable def namS (i : Nat) : Stmt := f_named.body.getD i noS
noncomputable def foundD (F : List (Nm × Goal)) : D := .dict (mapN kO gT F)
noncomputable def nEnv (sh : D) (F : List (Nm × Goal)) (o : List (Nm × Goal)) (rest : List (Str × Slot)) : MEnv := { names := f_named.names, vars := (w_shelf, .dat sh) :: (w_found, .own (foundD F)) :: (w_old, .dat (oldD o)) :: rest, pin := .none }
noncomputable def keyR : Option Nm → List (Str × Slot)
  | .none => []
  | some x => [(w_key, .dat (.str x.s))]
noncomputable def rootV (t : List (Nm × Goal)) : Option D → D
  | some _ => .dict [(.str w_Names, .list (treeL t))]
  | .none => .none
noncomputable def pairsL : List (Nm × Goal) → List D
  | [] => []
  | (x, g) :: r => .tup [kO x, gV g] :: pairsL r
noncomputable def st2 : Stmt := (bl0 (namS 2)).getD 0 noS
noncomputable def for4 : Stmt := (bl0 (namS 4)).getD 0 noS
noncomputable def st4 : Stmt := (bl0 for4).getD 0 noS
theorem tp_at (TB TR : D) (t : List (Nm × Goal)) (h : t.length ≤ 4) (n : Nat) : (ev g0 (n + 60)).K f_tree_pairs [.dat (shelfX TB TR), .dat (.dict [(.str w_Names, .list (treeL t))]), .dat (.str w_Names)] = some (.list (pairsL t), .dat .none) := by
  match t, h with
  | [], _ => kernel_rfl
  | [(_, _)], _ => kernel_rfl
  | [(_, _), (_, _)], _ => kernel_rfl
  | [(_, _), (_, _), (_, _)], _ => kernel_rfl
  | [(_, _), (_, _), (_, _), (_, _)], _ => kernel_rfl
  | _ :: _ :: _ :: _ :: _ :: _, h => exact absurd h (by simp)
section
variable {TB TR : D} {o : List (Nm × Goal)}
theorem bind2 (sh : D) (F : List (Nm × Goal)) (q : Option Nm) (x : Nm) : bindT (nEnv sh F o (keyR q)) (ex1 (namS 2)) (kS x) = some (nEnv sh F o (keyR (some x))) := by cases q <;> kernel_rfl
theorem step2 (F : List (Nm × Goal)) (x : Nm) (g : Goal) (hg : getN o x = some g) (hF : F.length ≤ 20) (n : Nat) : (ev g0 (n + 66)).B (nEnv (shelfX TB TR) F o (keyR (some x))) (bl0 (namS 2)) = some (.nxt, nEnv (shelfX TB TR) (putN F x g) o (keyR (some x))) := by
  refine run_B (n := n + 65) (s := st2) (r := []) (env1 := nEnv (shelfX TB TR) (putN F x g) o (keyR (some x))) ?_ (by kernel_rfl)
  refine run_store (n := n + 64) (d := gT g) (env1 := nEnv (shelfX TB TR) F o (keyR (some x))) ⟨by kernel_rfl, by kernel_rfl, by kernel_rfl⟩ ?_ ?_
  · refine run_callN (n := n + 63) (x := w_dest) ⟨by kernel_rfl, by kernel_rfl⟩ (by kernel_rfl) (run_fn (r := f_destination_of) (ds := [shelfX TB TR, gV g]) (by kernel_rfl) (by kernel_rfl) ?_ (dest_at TB TR (n + 3) g))
    refine (L_cons (n := n + 62) (env1 := nEnv (shelfX TB TR) F o (keyR (some x))) (e := (argsE (ex0 st2)).getD 0 noE) (r := [(argsE (ex0 st2)).getD 1 noE]) (by kernel_rfl) (L_cons (n := n + 61) (env1 := nEnv (shelfX TB TR) F o (keyR (some x))) ?_ (by kernel_rfl)))
    exact pure_sub (n := n + 60) (a := oldD o) (b := kS x) ⟨by kernel_rfl, by kernel_rfl⟩ (by kernel_rfl) (by kernel_rfl) (o1_of (dget_map okS x o) (by rw [hg]; rfl))
  · exact store_item (x := w_found) (k := kO x) (l := mapN kO gT F) ⟨by kernel_rfl, by kernel_rfl⟩ (by cases x <;> kernel_rfl) (by kernel_rfl) (fit_map hF) (dput_map okO x g F) (by kernel_rfl)
theorem loop2 (xs : List Nm) : ∀ (F : List (Nm × Goal)) (q : Option Nm), (∀ x ∈ xs, hasN o x = true) → F.length + xs.length ≤ 20 → ∃ F' q', (distN F → distN F') ∧ F'.length ≤ F.length + xs.length ∧ (∀ y, (y ∈ xs → getN F' y = getN o y) ∧ (¬ y ∈ xs → getN F' y = getN F y)) ∧
    ∀ n, forAll (ev g0 (n + 66)) (ex1 (namS 2)) (bl0 (namS 2)) (nEnv (shelfX TB TR) F o (keyR q)) (xs.map kS) = some (.nxt, nEnv (shelfX TB TR) F' o (keyR q')) := by
  induction xs with
  | nil => exact fun F q zz zz=> ⟨F, q, id, Nat.le_refl _, fun y => ⟨fun h => (nomatch h), fun zz=> rfl⟩, fun n => rfl⟩
  | cons z r ih =>
    intro F q hx hF
    have hF : F.length + (r.length + 1) ≤ 20 := hF
    obtain ⟨g, hg⟩ := isSome_get (hx z (.head _))
    have hl := len_put z g F
    obtain ⟨F', q', e1, e2, e3, e4⟩ := ih (putN F z g) (some z) (fun x h => hx x (.tail _ h)) (by omega)
    have hz : getN (putN F z g) z = getN o z := by rw [get_put, eqN_rfl, hg]; rfl
    refine ⟨F', q', fun h => e1 (dist_put _ _ _ h), Nat.le_trans e2 (by show _ ≤ F.length + (r.length + 1); omega), fun y => ⟨fun h => ?_, fun h => ?_⟩, fun n => all_cons (bind2 _ F q z) (step2 F z g hg (by omega) n) (e4 n)⟩
    · by_cases hr : y ∈ r
      · exact (e3 y).1 hr
      · rcases List.mem_cons.mp h with rfl | h
        · exact ((e3 y).2 hr).trans hz
        · exact absurd h hr
    · refine ((e3 y).2 fun hr => h (.tail _ hr)).trans ?_
      rw [get_put]
      cases he : eqN z y with
      | false => rfl
      | true =>
        obtain rfl := eqN_is he
        exact absurd (.head _) h
noncomputable def rT (b : Bool) (t : List (Nm × Goal)) (p : Nm × Goal) : List (Str × Slot) := match b with
  | true => [(w_key, .dat (kO p.1)), (w_root, .dat (rootV t (some .none))), (w_value, .dat (gV p.2))]
  | false => [(w_root, .dat (rootV t (some .none))), (w_key, .dat (kO p.1)), (w_value, .dat (gV p.2))]
theorem bind4 (sh : D) (F t : List (Nm × Goal)) (b : Bool) (p q : Nm × Goal) : bindT (nEnv sh F o (rT b t p)) (ex1 for4) (.tup [kO q.1, gV q.2]) = some (nEnv sh F o (rT b t q)) := by cases b <;> kernel_rfl
theorem step4 (F t : List (Nm × Goal)) (b : Bool) (p : Nm × Goal) (hF : F.length ≤ 20) (n : Nat) : (ev g0 (n + 66)).B (nEnv (shelfX TB TR) F o (rT b t p)) (bl0 for4) = some (.nxt, nEnv (shelfX TB TR) (putN F p.1 p.2) o (rT b t p)) := by
  refine run_B (n := n + 65) (s := st4) (r := []) (env1 := nEnv (shelfX TB TR) (putN F p.1 p.2) o (rT b t p)) ?_ (by kernel_rfl)
  refine run_store (n := n + 64) (d := gT p.2) (env1 := nEnv (shelfX TB TR) F o (rT b t p)) ⟨by kernel_rfl, by kernel_rfl, by kernel_rfl⟩ ?_ ?_
  · exact run_callN (n := n + 63) (x := w_dest) ⟨by kernel_rfl, by kernel_rfl⟩ (by kernel_rfl) (run_fn (r := f_destination_of) (ds := [shelfX TB TR, gV p.2]) (by kernel_rfl) (by kernel_rfl) (by cases b <;> kernel_rfl) (dest_at TB TR (n + 3) p.2))
  · exact store_item (x := w_found) (k := kO p.1) (l := mapN kO gT F) ⟨by kernel_rfl, by kernel_rfl⟩ (by cases b <;> kernel_rfl) (by kernel_rfl) (fit_map hF) (dput_map okO p.1 p.2 F) (by kernel_rfl)
theorem loop4 (t0 : List (Nm × Goal)) (b : Bool) (t : List (Nm × Goal)) : ∀ (F : List (Nm × Goal)) (p : Nm × Goal) (E0 : MEnv), bindT E0 (ex1 for4) (.tup [kO p.1, gV p.2]) = some (nEnv (shelfX TB TR) F o (rT b t0 p)) → F.length + t.length ≤ 20 → ∃ p',
    ∀ n, forAll (ev g0 (n + 66)) (ex1 for4) (bl0 for4) E0 (pairsL (p :: t)) = some (.nxt, nEnv (shelfX TB TR) (putT F (p :: t)) o (rT b t0 p')) := by
  induction t with
  | nil => exact fun F p E0 h0 hF => ⟨p, fun n => all_cons h0 (step4 F t0 b p hF n) rfl⟩
  | cons z r ih =>
    intro F p E0 h0 hF
    have hF : F.length + (r.length + 1) ≤ 20 := hF
    have hl := len_put p.1 p.2 F
    obtain ⟨p', e⟩ := ih (putN F p.1 p.2) z _ (bind4 (shelfX TB TR) (putN F p.1 p.2) t0 b p z) (by omega)
    exact ⟨p', fun n => all_cons h0 (step4 F t0 b p (by omega) n) (e n)⟩
end
end Mine

set_option Elab.async false
set_option maxRecDepth 100000
namespace Mine
open PySem PySem.W PyProof.Rows PySem.Calls
noncomputable def tbD (c : Ct) (o : List (Nm × Goal)) (nm : Option D) : D := .dict (tableL c.n ++ [(.int 1, .tup [.int 0, rootN (oldD o) nm])])
noncomputable def trD : D := .dict [(.str w_Root, refD 1)]
section
variable (c : Ct) (o t F : List (Nm × Goal)) (nm : Option D) (q : Option Nm) (n : Nat)
theorem n0 : (ev g0 (n + 60)).B { names := f_named.names, vars := [(w_shelf, .dat (shelfX (tbD c o nm) trD))], pin := .none } [namS 0, namS 1] = some (.nxt, nEnv (shelfX (tbD c o nm) trD) [] o (keyR .none)) := by cases c <;> kernel_rfl
theorem n3 (h : NM t nm) : (ev g0 (n + 60)).S (nEnv (shelfX (tbD c o nm) trD) F o (keyR q)) (namS 3) = some (.nxt, nEnv (shelfX (tbD c o nm) trD) F o (keyR q ++ [(w_root, .dat (rootV t nm))])) := by
  rcases h with rfl | ⟨rfl, _⟩ <;> cases c <;> cases q <;> kernel_rfl
theorem n4_none (sh : D) : (ev g0 (n + 60)).S (nEnv sh F o (keyR q ++ [(w_root, .dat .none)])) (namS 4) = some (.nxt, nEnv sh F o (keyR q ++ [(w_root, .dat .none)])) := by cases q <;> kernel_rfl
theorem bind4a (sh : D) (p : Nm × Goal) : bindT (nEnv sh F o (keyR q ++ [(w_root, .dat (rootV t (some .none)))])) (ex1 for4) (.tup [kO p.1, gV p.2]) = some (nEnv sh F o (rT q.isSome t p)) := by cases q <;> kernel_rfl
theorem n4_iter (TB TR : D) (h : t.length ≤ 4) : iterE g0 (ev g0 (n + 66)) (nEnv (shelfX TB TR) F o (keyR q ++ [(w_root, .dat (rootV t (some .none)))])) (ex0 for4) = some (pairsL t, nEnv (shelfX TB TR) F o (keyR q ++ [(w_root, .dat (rootV t (some .none)))])) := by
  refine run_iter (d := .list (pairsL t)) (by cases q <;> kernel_rfl) ?_ rfl
  exact run_callN (n := n + 65) (x := w_tree_pairs) ⟨by kernel_rfl, by kernel_rfl⟩ (by kernel_rfl) (run_fn (r := f_tree_pairs) (ds := [shelfX TB TR, rootV t (some .none), .str w_Names]) (by kernel_rfl) (by kernel_rfl) (by cases q <;> kernel_rfl) (tp_at TB TR t h (n + 5)))
/-- the environments in which named returns -/
noncomputable def NE (sh : D) (F : List (Nm × Goal)) (E : MEnv) : Prop := ∀ n, ∃ E1, (ev g0 (n + 10)).S E (namS 5) = some (.ret (foundD F), E1) ∧ firstOf E1 = .dat .none
theorem ne_q (sh r : D) : NE sh F (nEnv sh F o (keyR q ++ [(w_root, .dat r)])) := fun n => ⟨(nEnv sh F o (keyR q ++ [(w_root, .dat r)])).put w_found (.dat (foundD F)), by cases q <;> kernel_rfl, by cases q <;> kernel_rfl⟩
theorem ne_b (sh : D) (b : Bool) (p : Nm × Goal) : NE sh F (nEnv sh F o (rT b t p)) := fun n => ⟨(nEnv sh F o (rT b t p)).put w_found (.dat (foundD F)), by cases b <;> kernel_rfl, by cases b <;> kernel_rfl⟩
theorem n4 (TB TR : D) (h : NM t nm) (ht : t.length ≤ 4) (hF : F.length ≤ 10) : ∃ E, NE (shelfX TB TR) (putT F t) E ∧ ∀ n, (ev g0 (n + 70)).S (nEnv (shelfX TB TR) F o (keyR q ++ [(w_root, .dat (rootV t nm))])) (namS 4) = some (.nxt, E) := by
  rcases h with rfl | ⟨rfl, rfl⟩
  · have hA : ∃ E, NE (shelfX TB TR) (putT F t) E ∧ ∀ n, forAll (ev g0 (n + 66)) (ex1 for4) (bl0 for4) (nEnv (shelfX TB TR) F o (keyR q ++ [(w_root, .dat (rootV t (some .none)))])) (pairsL t) = some (.nxt, E) := by
      match t, ht with
      | [], _ => exact ⟨_, ne_q o F q _ _, fun n => rfl⟩
      | p :: r, ht =>
        have ht : r.length + 1 ≤ 4 := ht
        obtain ⟨p', e⟩ := loop4 (p :: r) q.isSome r F p _ (bind4a o (p :: r) F q (shelfX TB TR) p) (by omega)
        exact ⟨_, ne_b o (p :: r) (putT F (p :: r)) _ _ p', e⟩
    obtain ⟨E, e1, e2⟩ := hA
    refine ⟨E, e1, fun n => ?_⟩
    refine run_ifS (n := n + 69) (c := true) (env1 := nEnv (shelfX TB TR) F o (keyR q ++ [(w_root, .dat (rootV t (some .none)))])) (by kernel_rfl) (by cases q <;> kernel_rfl) ?_
    exact run_B (n := n + 68) (s := for4) (r := []) (env1 := E) (run_for (n := n + 67) ⟨by kernel_rfl, by kernel_rfl⟩ (n4_iter o t F q (n + 1) TB TR ht) (e2 (n + 1))) (by kernel_rfl)
  · exact ⟨_, ne_q o F q _ _, fun n => n4_none o F q (n + 10) _⟩
theorem all4 (y : Nm) : y ∈ [Nm.z, .a, .ab, .b] := match y with
  | .z => .head _
  | .a => .tail _ (.head _)
  | .ab => .tail _ (.tail _ (.head _))
  | .b => .tail _ (.tail _ (.tail _ (.head _)))
theorem pick_iff {p : Nm → Bool} {y : Nm} (h : p y = true) : y ∈ pick p := List.mem_filter.mpr ⟨all4 y, h⟩
theorem nam_body : f_named.body = [namS 0, namS 1, namS 2, namS 3, namS 4, namS 5] := by kernel_rfl
/-- named: every name's target -/
theorem named_at (h : NM t nm) (ht : t.length ≤ 4) (ho : o.length ≤ 10) (hd : distN o) : ∃ F, distN F ∧ F.length ≤ 8 ∧ (∀ y, getN F y = getN (putT o t) y) ∧ ∀ n, (ev g0 (n + 80)).K f_named [.dat (shelfC c (oldD o) nm)] = some (foundD F, .dat .none) := by
  obtain ⟨F0, q, e1, e2, e3, e4⟩ := loop2 (TB := tbD c o nm) (TR := trD) (o := o) (pick (hasN o)) [] .none (fun x hx => pick_mem hx) (by have := pick_len (hasN o); show 0 + _ ≤ 20; omega)
  have hp := pick_len (hasN o)
  have e2 : F0.length ≤ 0 + (pick (hasN o)).length := e2
  have hg : ∀ y, getN F0 y = getN o y := fun y => by
    cases hy : hasN o y with
    | true => exact (e3 y).1 (pick_iff hy)
    | false =>
      refine ((e3 y).2 fun hm => ?_).trans ?_
      · exact absurd ((pick_mem hm).symm.trans hy) (by decide)
      · show Option.none = getN o y
        have hy : (getN o y).isSome = false := hy
        cases hz : getN o y with
        | none => rfl
        | some v => rw [hz] at hy; cases hy
  obtain ⟨E, f1, f2⟩ := n4 o t F0 nm q (tbD c o nm) trD h ht (by omega)
  have hl := len_putT t F0
  refine ⟨putT F0 t, dist_putT t F0 (e1 trivial), by omega, get_putT t F0 o hg, fun n => ?_⟩
  obtain ⟨E1, f3, f4⟩ := f1 (n + 63)
  have hB : (ev g0 (n + 79)).B { names := f_named.names, vars := [(w_shelf, .dat (shelfX (tbD c o nm) trD))], pin := .none } [namS 0, namS 1, namS 2, namS 3, namS 4, namS 5] = some (.ret (foundD (putT F0 t)), E1) := by
    refine run_B (n := n + 78) (env1 := { names := f_named.names, vars := [(w_shelf, .dat (shelfX (tbD c o nm) trD)), (w_found, .own (.dict []))], pin := .none }) (by kernel_rfl) ?_
    refine run_B (n := n + 77) (env1 := nEnv (shelfX (tbD c o nm) trD) [] o (keyR .none)) (by cases c <;> kernel_rfl) ?_
    refine run_B (n := n + 76) (env1 := nEnv (shelfX (tbD c o nm) trD) F0 o (keyR q)) ?_ ?_
    · refine run_for (n := n + 75) (ds := (pick (hasN o)).map kS) (env1 := nEnv (shelfX (tbD c o nm) trD) [] o (keyR .none)) ⟨by kernel_rfl, by kernel_rfl⟩ ?_ (e4 (n + 9))
      refine run_iter (d := .list ((pick (hasN o)).map kS)) (by kernel_rfl) ?_ rfl
      refine run_sorted (n := n + 74) (d := oldD o) ⟨by kernel_rfl, by kernel_rfl⟩ (by kernel_rfl) (by kernel_rfl) (by kernel_rfl) ?_
      refine o1_of (a := keysD (oldL o)) ?_ (sort_map okS o hd)
      exact if_pos (Nat.ble_eq_true_of_le (by show (oldL o).length + 1 ≤ 64; unfold oldL; rw [mapN_len]; omega))
    refine run_B (n := n + 75) (n3 c o t F0 nm q (n + 15) h) ?_
    refine run_B (n := n + 74) (f2 (n + 4)) ?_
    exact run_ret (n := n + 73) f3
  have := run_K (g := g0) (n := n + 79) (f := f_named) (ss := [.dat (shelfX (tbD c o nm) trD)]) (vs := [(w_shelf, .dat (shelfX (tbD c o nm) trD))]) (by kernel_rfl) (show (ev g0 (n + 79)).B _ f_named.body = some (.ret (foundD (putT F0 t)), E1) by rw [nam_body]; exact hB)
  exact this.trans (by rw [f4]; rfl)
end
end Mine

set_option Elab.async false
set_option maxRecDepth 100000
namespace Mine
open PySem PySem.W PyProof.Rows PySem.Calls
/-! the lines, and names_text -/
noncomputable def w_goals : Str := ⟨#[103, 111, 97, 108, 115]⟩
noncomputable def w_target_told : Str := ⟨#[116, 97, 114, 103, 101, 116, 95, 116, 111, 108, 100]⟩
noncomputable def w_rows_text : Str := ⟨#[114, 111, 119, 115, 95, 116, 101, 120, 116]⟩
noncomputable def w_named : Str := ⟨#[110, 97, 109, 101, 100]⟩
noncomputable def w_rows : Str := ⟨#[114, 111, 119, 115]⟩
noncomputable def w_none : Str := ⟨#[110, 111, 110, 101]⟩
noncomputable def w_nl : Str := ⟨#[10]⟩
noncomputable def w_colon : Str := ⟨#[58, 32]⟩
noncomputable def lineS (c : Ct) (x : Nm) (g : Goal) : Str := (x.s ++ w_colon) ++ gW c g
noncomputable def lnOf (c : Ct) (u : List (Nm × Goal)) (x : Nm) : Str := match getN u x with
  | some g => lineS c x g
  | .none => ⟨#[]⟩
noncomputable def linesU (c : Ct) (u : List (Nm × Goal)) : List Str := (pick (hasN u)).map (lnOf c u)
theorem linesU_eq {c : Ct} {F u : List (Nm × Goal)} (h : ∀ y, getN F y = getN u y) : linesU c F = linesU c u := by
  have h1 : hasN F = hasN u := funext fun y => congrArg Option.isSome (h y)
  have h2 : lnOf c F = lnOf c u := funext fun y => by unfold lnOf; rw [h y]
  unfold linesU
  rw [h1, h2]
theorem app_len (a b : Str) : (a ++ b).length = a.length + b.length := Array.size_append
theorem on_len (s : Sp) (v : Vw) : (onPage s v).length ≤ 20 := by cases s <;> cases v <;> decide
theorem gW_len (c : Ct) (g : Goal) : (gW c g).length ≤ 20 := by
  unfold gW
  split
  · decide
  · split
    · decide
    · split
      · exact on_len _ _
      · decide
theorem name_len (x : Nm) : (x.s ++ w_colon).length ≤ 4 := by cases x <;> decide
theorem line_add (c : Ct) (x : Nm) (g : Goal) : binD .Add (.str (x.s ++ w_colon)) (.str (gW c g)) = some (.str (lineS c x g)) :=
  if_pos (fitN_of (by have := name_len x; have := gW_len c g; omega))
set_option tactic.hygienic true in
theorem line_len (c : Ct) (u : List (Nm × Goal)) (x : Nm) : (lnOf c u x).length ≤ 30 := by
  unfold lnOf
  split
  · have := name_len x
    rename_i g _
    have := gW_len c g
    show ((x.s ++ w_colon) ++ gW c g).length ≤ 30
    rw [app_len]
    omega
  · decide
/-! '\n'.join -/
noncomputable def joinT : List Str → Str
  | [] => ⟨#[]⟩
  | [s] => s
  | s :: t :: r => s ++ w_nl ++ joinT (t :: r)
noncomputable def strsD (l : List Str) : List D := l.map .str
theorem join_at : ∀ l : List Str, joinL w_nl (strsD l) = some (joinT l)
  | [] => rfl
  | [s] => rfl
  | s :: t :: r => (o1_of (join_at (t :: r)) rfl : o1 (joinL w_nl (strsD (t :: r))) _ = _)
theorem lenSum_le (m : Nat) : ∀ l : List Str, (∀ s ∈ l, s.length ≤ m) → lenSum (strsD l) ≤ l.length * m
  | [], _ => Nat.zero_le _
  | s :: r, h => by
    have h1 := h s (.head _)
    have h2 := lenSum_le m r fun x hx => h x (.tail _ hx)
    show s.length + lenSum (strsD r) ≤ (r.length + 1) * m
    rw [Nat.add_mul]
    omega
theorem joinFits_at (l : List Str) (h : ∀ s ∈ l, s.length ≤ 30) (hl : l.length ≤ 10) : joinFits w_nl (strsD l) = true := by
  have h1 := lenSum_le 30 l h
  refine Nat.ble_eq_true_of_le ?_
  show lenSum (strsD l) + (l.map D.str).length * 1 ≤ _
  rw [List.length_map]
  omega
noncomputable def textT : List Str → Str
  | [] => w_none
  | l => joinT l
theorem lines_ok (c : Ct) (u : List (Nm × Goal)) : (∀ s ∈ linesU c u, s.length ≤ 30) ∧ (linesU c u).length ≤ 10 := by
  refine ⟨fun s h => ?_, ?_⟩
  · obtain ⟨x, _, rfl⟩ := List.mem_map.mp h
    exact line_len c u x
  · unfold linesU
    rw [List.length_map]
    exact Nat.le_trans (pick_len _) (by decide)
noncomputable def rtS : Stmt := f_rows_text.body.getD 0 noS
noncomputable def rtEnv (l : List Str) : MEnv := { names := f_rows_text.names, vars := [(w_rows, .dat (.list (strsD l)))], pin := .none }
theorem rt_test (l : List Str) (hl : l.length ≤ 10) (n : Nat) : (ev g0 (n + 20)).T (rtEnv l) (ch0 (ex0 rtS)) = some (decide ((l.length : Int) > 0), rtEnv l) := by
  refine run_cmpT (n := n + 19) (env1 := rtEnv l) (op := .Gt) (a := .int (l.length : Int)) (b := .int 0) ⟨by kernel_rfl, by kernel_rfl, by kernel_rfl⟩ (run_callN (n := n + 18) (x := w_len) ⟨by kernel_rfl, by kernel_rfl⟩ (by kernel_rfl) (run_len (d := .list (strsD l)) (by decide +kernel) (by decide +kernel) (by kernel_rfl) (by kernel_rfl) ?_)) (by kernel_rfl) rfl
  show (if fitN (l.map D.str).length = true then some (((l.map D.str).length : Nat) : Int) else .none) = _
  rw [List.length_map, if_pos (fitN_of (Nat.le_trans hl (by decide)))]
theorem rows_at (l : List Str) (h : (∀ s ∈ l, s.length ≤ 30) ∧ l.length ≤ 10) (n : Nat) : (ev g0 (n + 30)).K f_rows_text [.dat (.list (strsD l))] = some (.str (textT l), .dat .none) := by
  refine run_K (n := n + 29) (fl := .ret (.str (textT l))) (env1 := rtEnv l) (vs := [(w_rows, .dat (.list (strsD l)))]) (by kernel_rfl) (run_ret (n := n + 28) (s := rtS) (r := []) (run_retE (n := n + 27) (by kernel_rfl) (run_if (n := n + 26) (by kernel_rfl) (rt_test l h.2 (n + 6)) ?_)))
  cases l with
  | nil => kernel_rfl
  | cons a r =>
    refine (if_pos (decide_eq_true ?_)).trans ?_
    · show (0 : Int) < ((r.length + 1 : Nat) : Int)
      omega
    · exact run_call (n := n + 25) (m := n_join) (d := .str w_nl) (ds := [.list (strsD (a :: r))]) (env1 := rtEnv (a :: r)) (env2 := rtEnv (a :: r)) ⟨by kernel_rfl, by kernel_rfl, by kernel_rfl⟩ (by kernel_rfl) (by kernel_rfl) (by kernel_rfl) (val_join (by decide +kernel) (joinFits_at (a :: r) h.1 h.2) (join_at (a :: r)))
end Mine

set_option Elab.async false
set_option maxRecDepth 100000
namespace Mine
open PySem PySem.W PyProof.Rows PySem.Calls
noncomputable def ntS (i : Nat) : Stmt := f_names_text.body.getD i noS
noncomputable def ntL : Expr := (argsE (ex0 (ntS 1))).getD 0 noE
noncomputable def ntEnv (sh G : D) : MEnv := { names := f_names_text.names, vars := [(w_shelf, .dat sh), (w_goals, .dat G)], pin := .none }
noncomputable def keyO : Option Nm → List (Str × Slot)
  | .none => []
  | some x => [(w_key, .dat (kO x))]
noncomputable def ncEnv (sh G : D) (q : Option Nm) : MEnv := { names := (cscopeS ntL).names, vars := (w_goals, .dat G) :: (w_shelf, .dat sh) :: keyO q, pin := .none }
section
variable (c : Ct) (o F : List (Nm × Goal)) {o' : D} (nm : Option D)
theorem nt_elt (x : Nm) (g : Goal) (hg : getN F x = some g) (n : Nat) : (ev g0 (n + 95)).E (ncEnv (shelfC c o' nm) (foundD F) (some x)) (elt ntL) = some (.str (lineS c x g), ncEnv (shelfC c o' nm) (foundD F) (some x)) := by
  refine pure_bin (n := n + 94) (op := .Add) (a := .str (x.s ++ w_colon)) (b := .str (gW c g)) (by kernel_rfl) (by cases x <;> kernel_rfl) ?_ (line_add c x g)
  refine run_callN (n := n + 93) (x := w_target_told) ⟨by kernel_rfl, by kernel_rfl⟩ (by kernel_rfl) (run_fn (r := f_target_told) (ds := [shelfC c o' nm, gT g]) (by kernel_rfl) (by kernel_rfl) ?_ (told_target c o' nm g (n + 3)))
  refine L_cons (n := n + 92) (env1 := ncEnv (shelfC c o' nm) (foundD F) (some x)) (e := (argsE (ch1 (elt ntL))).getD 0 noE) (r := [(argsE (ch1 (elt ntL))).getD 1 noE]) (by kernel_rfl) (L_cons (n := n + 91) (env1 := ncEnv (shelfC c o' nm) (foundD F) (some x)) ?_ (by kernel_rfl))
  exact pure_sub (n := n + 90) (a := foundD F) (b := kO x) ⟨by kernel_rfl, by kernel_rfl⟩ (by kernel_rfl) (by kernel_rfl) (o1_of (dget_map okO x F) (by rw [hg]; rfl))
theorem nt_all (xs : List Nm) (n : Nat) : ∀ q : Option Nm, (∀ x ∈ xs, hasN F x = true) → compAll (ev g0 (n + 95)) w_key (elt ntL) (cmp1 ntL).ifs (ncEnv (shelfC c o' nm) (foundD F) q) (xs.map kO) = some (strsD (xs.map (lnOf c F))) := by
  induction xs with
  | nil => exact fun q zz=> rfl
  | cons x r ih =>
    intro q hx
    obtain ⟨g, hg⟩ := isSome_get (hx x (.head _))
    have e : lnOf c F x = lineS c x g := by unfold lnOf; rw [hg]
    refine comp_cons (env0 := ncEnv (shelfC c o' nm) (foundD F) (some x)) (env1 := ncEnv (shelfC c o' nm) (foundD F) (some x)) (y := .str (lnOf c F x)) (by cases q <;> kernel_rfl) (by kernel_rfl) (e ▸ nt_elt c F nm x g hg n) (ih (some x) fun y hy => hx y (.tail _ hy))
theorem sorted_mapN {em : Nm → D} (K : KeyOk em) {V : Goal → D} (l : List (Nm × Goal)) (h : distN l) (hl : l.length ≤ 20) : o1 (sortable (.dict (mapN em V l))) sortD = some ((pick (hasN l)).map em) := by
  refine o1_of (a := keysD (mapN em V l)) ?_ (sort_map K l h)
  exact if_pos (Nat.ble_eq_true_of_le (by rw [mapN_len]; omega))
theorem nt_list (hd : distN F) (hF : F.length ≤ 10) (n : Nat) : (ev g0 (n + 96)).E (ntEnv (shelfC c o' nm) (foundD F)) ntL = some (.list (strsD (linesU c F)), ntEnv (shelfC c o' nm) (foundD F)) := by
  refine run_comp (n := n + 95) (x := w_key) (ds := (pick (hasN F)).map kO) ⟨by kernel_rfl, by kernel_rfl⟩ (by kernel_rfl) (env1 := ntEnv (shelfC c o' nm) (foundD F)) ?_ (by rw [List.length_map]; exact fitN_of (Nat.le_trans (pick_len _) (by decide))) (by kernel_rfl) (nt_all c F nm _ n .none fun x hx => pick_mem hx)
  refine run_iter (d := .list ((pick (hasN F)).map kO)) (by kernel_rfl) ?_ rfl
  exact run_sorted (n := n + 94) (d := foundD F) ⟨by kernel_rfl, by kernel_rfl⟩ (by kernel_rfl) (by kernel_rfl) (by kernel_rfl) (sorted_mapN okO F hd (by omega))
theorem nt_body : f_names_text.body = [ntS 0, ntS 1] := by kernel_rfl
/-- names_text: the lines -/
theorem names_at (t : List (Nm × Goal)) (h : NM t nm) (ht : t.length ≤ 4) (ho : o.length ≤ 10) (hd : distN o) (n : Nat) : (ev g0 (n + 120)).K f_names_text [.dat (shelfC c (oldD o) nm)] = some (.str (textT (linesU c (putT o t))), .dat .none) := by
  obtain ⟨F, d1, d2, d3, d4⟩ := named_at c o t nm h ht ho hd
  rw [← linesU_eq d3]
  have hB : (ev g0 (n + 119)).B { names := f_names_text.names, vars := [(w_shelf, .dat (shelfC c (oldD o) nm))], pin := .none } [ntS 0, ntS 1] = some (.ret (.str (textT (linesU c F))), ntEnv (shelfC c (oldD o) nm) (foundD F)) := by
    refine run_B (n := n + 118) (env1 := ntEnv (shelfC c (oldD o) nm) (foundD F)) (run_asg (n := n + 117) (x := w_goals) (d := foundD F) (env1 := { names := f_names_text.names, vars := [(w_shelf, .dat (shelfC c (oldD o) nm))], pin := .none }) ⟨by kernel_rfl, by kernel_rfl, by kernel_rfl⟩ ?_ (by kernel_rfl)) ?_
    · exact run_callN (n := n + 116) (x := w_named) ⟨by kernel_rfl, by kernel_rfl⟩ (by kernel_rfl) (run_fn (r := f_named) (ds := [shelfC c (oldD o) nm]) (by kernel_rfl) (by kernel_rfl) (by kernel_rfl) (d4 (n + 36)))
    · refine run_ret (n := n + 117) (run_retE (n := n + 116) (by kernel_rfl) ?_)
      refine run_callN (n := n + 115) (x := w_rows_text) ⟨by kernel_rfl, by kernel_rfl⟩ (by kernel_rfl) (run_fn (r := f_rows_text) (ds := [.list (strsD (linesU c F))]) (by kernel_rfl) (by kernel_rfl) ?_ (rows_at _ (lines_ok c F) (n + 85)))
      exact L_cons (n := n + 114) (env1 := ntEnv (shelfC c (oldD o) nm) (foundD F)) (e := ntL) (r := []) (nt_list c F nm d1 (by omega) (n + 18)) (by kernel_rfl)
  exact run_K (n := n + 119) (f := f_names_text) (vs := [(w_shelf, .dat (shelfC c (oldD o) nm))]) (by kernel_rfl) (show (ev g0 (n + 119)).B _ f_names_text.body = _ by rw [nt_body]; exact hB)
end
end Mine

set_option Elab.async false
set_option maxRecDepth 100000
namespace Mine
open PySem PySem.W PyProof.Rows PySem.Calls
/-! told of lists and dicts -/
section
variable {g : Gt} {n : Nat} {env env1 env2 : MEnv}
noncomputable def tupK : Expr → Nat
  | .Tuple _ k _ => k
  | _ => 0
theorem run_tup {e : Expr} {l : List Expr} {ds : List D} (he : e = .Tuple l (tupK e) e.pos) (hL : (ev g n).L env l = some (ds, env1)) (hf : fitN ds.length = true) : (ev g (n + 1)).E env e = some (.tup ds, env1) :=
  E_of he (o2_of hL (if_pos hf))
theorem run_tuple {e : Expr} {l : List D} (he : e = .Call (ch0 e) (argsE e) [] e.pos ∧ nameT (ch0 e) = some n_tuple) (hg : env.isGlob n_tuple = true) (hl : lookS g.globals n_tuple = .none) (hL : (ev g n).L env (argsE e) = some ([.list l], env1)) (hf : fitN l.length = true) : (ev g (n + 1)).E env e = some (.tup l, env1) := by
  refine run_callN he hg ?_
  unfold callGlob
  rw [hl]
  have e1 : callBlt g (ev g n) env n_tuple (argsE e) = o2 ((ev g n).L env (argsE e)) (fun ds env1 => o1 (callB n_tuple ds) fun d => some (d, env1)) := by kernel_rfl
  refine e1.trans (o2_of hL ?_)
  have e2 : callB n_tuple [.list l] = if fitN l.length then some (.tup l) else .none := by kernel_rfl
  rw [e2, if_pos hf]
  rfl
theorem all_one {e : Expr} {b : Bool} (h : (ev g n).T env e = some (b, env1)) : allT (ev g n) .And env [e] = some (b, env1) :=
  o2_of h (by cases b <;> rfl)
end
noncomputable def w_told : Str := ⟨#[116, 111, 108, 100, 95, 111, 98, 106, 101, 99, 116, 115]⟩
noncomputable def w_kind : Str := ⟨#[107, 105, 110, 100]⟩
noncomputable def w_part : Str := ⟨#[112, 97, 114, 116]⟩
noncomputable def Rfl (j : Nat) (d : D) : Prop := eqD j d d = some true
noncomputable def Told (m j : Nat) (v r : D) : Prop := (∀ n, (ev g0 (n + m)).K f_told [.dat v] = some (r, .dat .none)) ∧ Rfl j r
theorem Told.mono {m m' j : Nat} {v r : D} (h : Told m j v r) (hm : m ≤ m') : Told m' j v r :=
  ⟨fun n => by rw [show n + m' = (n + (m' - m)) + m by omega]; exact h.1 _, h.2⟩
theorem rfl_str (j : Nat) (s : Str) : Rfl (j + 1) (.str s) := congrArg some (seq_iff.mpr rfl)
theorem rfl_int (j : Nat) (i : Int) : Rfl (j + 1) (.int i) := by
  show some (i == i) = _
  rw [beq_self_eq_true]
theorem rfl_Ls {j : Nat} : ∀ {l : List D}, (∀ d ∈ l, Rfl j d) → eqLs (eqD j) l l = some true
  | [], _ => rfl
  | d :: r, h => (o1_of (h d (.head _)) (o1_of (rfl_Ls fun x hx => h x (.tail _ hx)) rfl) : o1 (eqD j d d) _ = _)
theorem rfl_tup {j : Nat} {l : List D} (h : ∀ d ∈ l, Rfl j d) : Rfl (j + 1) (.tup l) := by
  refine (o1_of (rfl_Ls h) ?_ : o1 (eqLs (eqD j) l l) _ = _)
  rw [Nat.beq_refl]
  rfl
noncomputable def tdS (i : Nat) : Stmt := f_told.body.getD i noS
noncomputable def tdA : Stmt := (bl0 (tdS 1)).getD 0 noS
noncomputable def tdD : Stmt := (bl0 (tdS 2)).getD 0 noS
noncomputable def lcA : Expr := (argsE (ch1 (ex0 tdA))).getD 0 noE
noncomputable def lcD : Expr := (argsE (ch1 (ex0 tdD))).getD 0 noE
noncomputable def tEnv (v : D) (k : Str) : MEnv := { names := f_told.names, vars := [(w_value, .dat v), (w_kind, .dat (.str k))], pin := .none }
theorem td_body : f_told.body = [tdS 0, tdS 1, tdS 2, tdS 3, tdS 4] := by kernel_rfl
theorem told_K {v r : D} {n : Nat} {E1 : MEnv} (h : (ev g0 n).B { names := f_told.names, vars := [(w_value, .dat v)], pin := .none } [tdS 0, tdS 1, tdS 2, tdS 3, tdS 4] = some (.ret r, E1)) (hE : E1.pin = .none) : (ev g0 (n + 1)).K f_told [.dat v] = some (r, .dat .none) := by
  have := run_K (g := g0) (n := n) (f := f_told) (ss := [.dat v]) (vs := [(w_value, .dat v)]) (by kernel_rfl) (show (ev g0 n).B _ f_told.body = _ by rw [td_body]; exact h)
  exact this.trans (by unfold firstOf; rw [hE]; rfl)
/-! lists -/
inductive Parts (m j : Nat) : List D → List D → Prop
  | nil : Parts m j [] []
  | cons {v r : D} {l k : List D} : Told m j v r → Parts m j l k → Parts m j (v :: l) (r :: k)
theorem Parts.len {m j : Nat} {l k : List D} (h : Parts m j l k) : l.length = k.length := by
  induction h with
  | nil => rfl
  | cons _ _ ih => exact congrArg (· + 1) ih
theorem Parts.rfl {m j : Nat} {l k : List D} (h : Parts m j l k) : ∀ d ∈ k, Rfl j d := by
  induction h with
  | nil => exact fun d h => (nomatch h)
  | cons h _ ih => exact fun d hd => (List.mem_cons.mp hd).elim (fun e => e ▸ h.2) (ih d)
noncomputable def partV : Option D → List (Str × Slot)
  | .none => []
  | some d => [(w_part, .dat d)]
noncomputable def pEnv (q : Option D) : MEnv := { names := (cscopeS lcA).names, vars := partV q, pin := .none }
theorem parts_all {m j : Nat} {l k : List D} (h : Parts m j l k) (n : Nat) : ∀ q, compAll (ev g0 (n + m + 5)) w_part (elt lcA) (cmp1 lcA).ifs (pEnv q) l = some k := by
  induction h with
  | nil => exact fun zz=> _root_.rfl
  | @cons v r l k ht _ ih =>
    intro q
    refine comp_cons (env0 := pEnv (some v)) (env1 := pEnv (some v)) (env2 := pEnv (some v)) (by cases q <;> kernel_rfl) (by kernel_rfl) ?_ (ih (some v))
    exact run_callN (n := n + m + 4) (x := w_told) ⟨by kernel_rfl, by kernel_rfl⟩ (by kernel_rfl) (run_fn (r := f_told) (ds := [v]) (by kernel_rfl) (by kernel_rfl) (by kernel_rfl) (by rw [show n + m + 4 = (n + 4) + m by omega]; exact ht.1 _))
theorem told_list {m j : Nat} {l k : List D} (h : Parts m j l k) (hl : l.length ≤ 100) (hj : 1 ≤ j) : Told (m + 25) (j + 1) (.list l) (.tup (.str w_array :: k)) := by
  constructor
  · intro n
    refine told_K (E1 := tEnv (.list l) w_array) (n := n + m + 24) ?_ rfl
    refine run_B (n := n + m + 23) (env1 := tEnv (.list l) w_array) (by kernel_rfl) ?_
    refine run_ret (n := n + m + 22) (run_ifS (n := n + m + 21) (c := true) (env1 := tEnv (.list l) w_array) (by kernel_rfl) (by kernel_rfl) ?_)
    refine run_ret (n := n + m + 20) (s := tdA) (r := []) (run_retE (n := n + m + 19) (by kernel_rfl) ?_)
    refine run_bin (n := n + m + 18) (op := .Add) (a := .tup [.str w_array]) (b := .tup k) (env1 := tEnv (.list l) w_array) (by kernel_rfl) (by kernel_rfl) ?_ (if_pos (fitN_of (by show 1 + k.length ≤ _; have := h.len; omega)))
    refine run_tuple (n := n + m + 17) (l := k) ⟨by kernel_rfl, by kernel_rfl⟩ (by kernel_rfl) (by kernel_rfl) ?_ (fitN_of (by have := h.len; omega))
    refine L_cons (n := n + m + 16) (e := lcA) (r := []) (env1 := tEnv (.list l) w_array) ?_ (by kernel_rfl)
    exact run_comp (n := n + m + 15) (x := w_part) (ds := l) ⟨by kernel_rfl, by kernel_rfl⟩ (by kernel_rfl) (env1 := tEnv (.list l) w_array) (by kernel_rfl) (fitN_of (by omega)) (by kernel_rfl) (by have := parts_all h (n + 10) .none; rw [show n + 10 + m + 5 = n + m + 15 by omega] at this; exact this)
  · obtain ⟨j, rfl⟩ : ∃ i, j = i + 1 := ⟨j - 1, by omega⟩
    exact rfl_tup fun d hd => (List.mem_cons.mp hd).elim (fun e => e ▸ rfl_str j _) (h.rfl d)
/-! dicts -/
inductive Items (m j : Nat) (l : List (D × D)) : List D → List D → Prop
  | nil : Items m j l [] []
  | skip {k v : D} {ks r : List D} : dget l k = some (some v) → isNone v = true → Items m j l ks r → Items m j l (k :: ks) r
  | cons {k v t : D} {ks r : List D} : dget l k = some (some v) → isNone v = false → Rfl j k → Told m j v t → Items m j l ks r → Items m j l (k :: ks) (.tup [k, t] :: r)
theorem Items.len {m j : Nat} {l : List (D × D)} {ks r : List D} (h : Items m j l ks r) : r.length ≤ ks.length := by
  induction h with
  | nil => exact Nat.le_refl _
  | skip _ _ _ ih => exact Nat.le_succ_of_le ih
  | cons _ _ _ _ _ ih => exact Nat.succ_le_succ ih
theorem rfl_pair {j : Nat} {a b : D} (h1 : Rfl j a) (h2 : Rfl j b) : Rfl (j + 1) (.tup [a, b]) := rfl_tup fun d hd => (List.mem_cons.mp hd).elim (fun e => e ▸ h1) fun hd => (List.mem_cons.mp hd).elim (fun e => e ▸ h2) fun hd => (nomatch hd)
theorem Items.rfl {m j : Nat} {l : List (D × D)} {ks r : List D} (h : Items m j l ks r) : ∀ d ∈ r, Rfl (j + 1) d := by
  induction h with
  | nil => exact fun d h => (nomatch h)
  | skip _ _ _ ih => exact ih
  | cons _ _ hk ht _ ih => exact fun d hd => (List.mem_cons.mp hd).elim (fun e => e ▸ rfl_pair hk ht.2) (ih d)
noncomputable def keyV : Option D → List (Str × Slot)
  | .none => []
  | some d => [(w_key, .dat d)]
noncomputable def dEnv (l : List (D × D)) (q : Option D) : MEnv := { names := (cscopeS lcD).names, vars := (w_value, .dat (.dict l)) :: keyV q, pin := .none }
noncomputable def ifD : Expr := (cmp1 lcD).ifs.getD 0 noE
theorem ifD_is : (cmp1 lcD).ifs = [ifD] := by kernel_rfl
theorem items_if {l : List (D × D)} {k v : D} (hg : dget l k = some (some v)) (n : Nat) : allT (ev g0 (n + 10)) .And (dEnv l (some k)) (cmp1 lcD).ifs = some (!isNone v, dEnv l (some k)) := by
  rw [ifD_is]
  exact all_one (run_cmpT (n := n + 9) (op := .IsNot) (a := v) (b := .none) (env1 := dEnv l (some k)) ⟨by kernel_rfl, by kernel_rfl, by kernel_rfl⟩ (run_sub (n := n + 8) (env1 := dEnv l (some k)) (a := .dict l) (b := k) ⟨by kernel_rfl, by kernel_rfl⟩ (by kernel_rfl) (by kernel_rfl) (o1_of hg _root_.rfl)) (by kernel_rfl) _root_.rfl)
theorem items_all {m j : Nat} {l : List (D × D)} {ks r : List D} (h : Items m j l ks r) (n : Nat) : ∀ q, compAll (ev g0 (n + m + 15)) w_key (elt lcD) (cmp1 lcD).ifs (dEnv l q) ks = some r := by
  induction h with
  | nil => exact fun zz=> _root_.rfl
  | @skip k v ks r hg hv _ ih =>
    intro q
    have h1 : allT (ev g0 (n + m + 15)) .And (dEnv l (some k)) (cmp1 lcD).ifs = some (!isNone v, dEnv l (some k)) := items_if hg (n + m + 5)
    rw [hv] at h1
    exact comp_skip (env0 := dEnv l (some k)) (env1 := dEnv l (some k)) (by cases q <;> kernel_rfl) h1 (ih (some k))
  | @cons k v t ks r hg hv _ ht _ ih =>
    intro q
    have h1 : allT (ev g0 (n + m + 15)) .And (dEnv l (some k)) (cmp1 lcD).ifs = some (!isNone v, dEnv l (some k)) := items_if hg (n + m + 5)
    rw [hv] at h1
    refine comp_cons (env0 := dEnv l (some k)) (env1 := dEnv l (some k)) (env2 := dEnv l (some k)) (by cases q <;> kernel_rfl) h1 ?_ (ih (some k))
    refine run_tup (n := n + m + 14) (l := [(kids (elt lcD)).getD 0 noE, (kids (elt lcD)).getD 1 noE]) (by kernel_rfl) (L_cons (n := n + m + 13) (env1 := dEnv l (some k)) (by kernel_rfl) (L_cons (n := n + m + 12) (env1 := dEnv l (some k)) ?_ (by kernel_rfl))) (by kernel_rfl)
    refine run_callN (n := n + m + 11) (x := w_told) ⟨by kernel_rfl, by kernel_rfl⟩ (by kernel_rfl) (run_fn (r := f_told) (ds := [v]) (env1 := dEnv l (some k)) (by kernel_rfl) (by kernel_rfl) ?_ (by rw [show n + m + 11 = (n + 11) + m by omega]; exact ht.1 _))
    exact L_cons (n := n + m + 10) (env1 := dEnv l (some k)) (e := (argsE ((kids (elt lcD)).getD 1 noE)).getD 0 noE) (r := []) (run_sub (n := n + m + 9) (env1 := dEnv l (some k)) (a := .dict l) (b := k) ⟨by kernel_rfl, by kernel_rfl⟩ (by kernel_rfl) (by kernel_rfl) (o1_of hg _root_.rfl)) (by kernel_rfl)
theorem told_dict {m j : Nat} {l : List (D × D)} {ks r : List D} (h : Items m j l ks r) (hs : (o1 (sortable (.dict l)) sortD) = some ks) (hl : ks.length ≤ 100) : Told (m + 26) (j + 2) (.dict l) (.tup (.str w_dict :: r)) := by
  constructor
  · intro n
    refine told_K (E1 := tEnv (.dict l) w_dict) (n := n + m + 25) ?_ rfl
    refine run_B (n := n + m + 24) (env1 := tEnv (.dict l) w_dict) (by kernel_rfl) ?_
    refine run_B (n := n + m + 23) (env1 := tEnv (.dict l) w_dict) (by kernel_rfl) ?_
    refine run_ret (n := n + m + 22) (run_ifS (n := n + m + 21) (c := true) (env1 := tEnv (.dict l) w_dict) (by kernel_rfl) (by kernel_rfl) ?_)
    refine run_ret (n := n + m + 20) (s := tdD) (r := []) (run_retE (n := n + m + 19) (by kernel_rfl) ?_)
    have hr := h.len
    refine run_bin (n := n + m + 18) (op := .Add) (a := .tup [.str w_dict]) (b := .tup r) (env1 := tEnv (.dict l) w_dict) (by kernel_rfl) (by kernel_rfl) ?_ (if_pos (fitN_of (by show 1 + r.length ≤ _; omega)))
    refine run_tuple (n := n + m + 17) (l := r) ⟨by kernel_rfl, by kernel_rfl⟩ (by kernel_rfl) (by kernel_rfl) ?_ (fitN_of (by omega))
    refine L_cons (n := n + m + 16) (e := lcD) (r := []) (env1 := tEnv (.dict l) w_dict) ?_ (by kernel_rfl)
    refine run_comp (n := n + m + 15) (x := w_key) (ds := ks) ⟨by kernel_rfl, by kernel_rfl⟩ (by kernel_rfl) (env1 := tEnv (.dict l) w_dict) ?_ (fitN_of (by omega)) (by kernel_rfl) (by have := items_all h n .none; exact this)
    refine run_iter (d := .list ks) (by kernel_rfl) ?_ rfl
    exact run_sorted (n := n + m + 14) (d := .dict l) ⟨by kernel_rfl, by kernel_rfl⟩ (by kernel_rfl) (by kernel_rfl) (by kernel_rfl) hs
  · exact rfl_tup fun d hd => (List.mem_cons.mp hd).elim (fun e => e ▸ rfl_str j _) (h.rfl d)
end Mine

set_option Elab.async false
set_option maxRecDepth 100000
namespace Mine
open PySem PySem.W PyProof.Rows PySem.Calls
/-! told of the shelf -/
noncomputable def AllR (j : Nat) : List D → Prop
  | [] => True
  | d :: r => Rfl j d ∧ AllR j r
theorem allR_mem {j : Nat} : ∀ {l : List D}, AllR j l → ∀ d ∈ l, Rfl j d
  | [], _, _, h => (nomatch h)
  | _ :: _, h, d, hd => (List.mem_cons.mp hd).elim (fun e => e ▸ h.1) (allR_mem h.2 d)
theorem rfl_tupA {j : Nat} {l : List D} (h : AllR j l) : Rfl (j + 1) (.tup l) := rfl_tup (allR_mem h)
theorem rfl_bytes (j : Nat) (l : List UInt8) : Rfl (j + 1) (.bytes l) := congrArg some (bytesEq_iff.mpr rfl)
theorem row_rfl (j : Nat) (s : Sp) (v : Vw) : Rfl (j + 3) (tRow s v) := rfl_tupA ⟨rfl_str _ _, rfl_tupA ⟨rfl_str _ _, rfl_int _ _, rfl_int _ _, trivial⟩, rfl_tupA ⟨rfl_str _ _, rfl_str _ _, trivial⟩, trivial⟩
theorem tV_rfl (j : Nat) (g : Goal) : Rfl (j + 10) (tV g) := by
  unfold tV
  cases g.w with
  | row => exact row_rfl _ _ _
  | dict => exact rfl_tupA ⟨rfl_str _ _, rfl_tupA ⟨rfl_str _ _, row_rfl _ _ _, trivial⟩, trivial⟩
  | none => exact rfl_tupA ⟨rfl_str _ _, trivial⟩
theorem tg_ok (j : Nat) (g : Goal) : Told 60 (j + 10) (gV g) (tV g) := ⟨fun n => told_at n g, tV_rfl j g⟩
noncomputable def tStr (x : Nm) : D := .tup [.str ⟨#[115, 116, 114, 105, 110, 103]⟩, .bytes x.o]
theorem ts_ok (j : Nat) (x : Nm) : Told 60 (j + 10) (strD x.o) (tStr x) := ⟨fun n => by kernel_rfl, rfl_tupA ⟨rfl_str _ _, rfl_bytes _ _, trivial⟩⟩
noncomputable def tItems : List (Nm × Goal) → List D
  | [] => []
  | (x, g) :: r => tStr x :: tV g :: tItems r
theorem tree_parts (j : Nat) : ∀ t : List (Nm × Goal), Parts 60 (j + 10) (treeL t) (tItems t)
  | [] => .nil
  | (x, g) :: r => .cons (ts_ok j x) (.cons (tg_ok j g) (tree_parts j r))
theorem tree_told (j : Nat) (t : List (Nm × Goal)) (h : t.length ≤ 4) : ∃ r, Told 85 (j + 11) (.list (treeL t)) r :=
  ⟨_, told_list (tree_parts j t) (by rw [treeL_len]; omega) (Nat.le_add_left 1 _)⟩
theorem one_told {m j : Nat} {v r : D} {k : Str} (h : Told m (j + 1) v r) (hv : isNone v = false) : ∃ r, Told (m + 26) (j + 3) (.dict [(.str k, v)]) r := by
  have hk : keyEq (.str k) (.str k) = some true := congrArg some (seq_iff.mpr rfl)
  exact ⟨_, told_dict (ks := [.str k]) (.cons (o1_of hk rfl) hv (rfl_str j k) h .nil) rfl (show 1 ≤ 100 by decide)⟩
theorem names_told (j : Nat) (t : List (Nm × Goal)) (h : t.length ≤ 4) : ∃ r, Told 137 (j + 15) (namesD t) r := by
  obtain ⟨r, h1⟩ := tree_told j t h
  obtain ⟨r, h2⟩ := one_told (k := w_Names) h1 rfl
  exact one_told (k := w_Dests) h2 rfl
theorem old_items (j : Nat) (o : List (Nm × Goal)) : ∀ xs : List Nm, (∀ x ∈ xs, hasN o x = true) → ∃ r, Items 60 (j + 10) (oldL o) (xs.map kS) r
  | [], _ => ⟨_, .nil⟩
  | x :: xs, h => by
    obtain ⟨r, hr⟩ := old_items j o xs fun y hy => h y (.tail _ hy)
    obtain ⟨g, hg⟩ := isSome_get (h x (.head _))
    have hd : dget (oldL o) (kS x) = some (some (gV g)) := (dget_map okS x o).trans (by rw [hg]; rfl)
    cases hn : isNone (gV g) with
    | true => exact ⟨_, .skip hd hn hr⟩
    | false => exact ⟨_, .cons hd hn (rfl_str _ _) (tg_ok j g) hr⟩
theorem old_told (j : Nat) (o : List (Nm × Goal)) (h : distN o) (ho : o.length ≤ 10) : ∃ r, Told 86 (j + 12) (oldD o) r := by
  obtain ⟨r, hr⟩ := old_items j o (pick (hasN o)) fun x hx => pick_mem hx
  exact ⟨_, told_dict hr (sorted_mapN okS o h (by omega)) (by rw [List.length_map]; exact Nat.le_trans (pick_len _) (by decide))⟩
noncomputable def tName (s : Str) : D := .tup [.str w_name, .str s]
noncomputable def tRef (i : Int) : D := .tup [.str w_ref, .int i, .int 0]
theorem name_told (j : Nat) (s : Str) : Told 137 (j + 10) (nameD s) (tName s) := ⟨fun n => by kernel_rfl, rfl_tupA ⟨rfl_str _ _, rfl_str _ _, trivial⟩⟩
theorem ref_told (j : Nat) : Told 137 (j + 10) (refD 2) (tRef 2) := ⟨fun n => by kernel_rfl, rfl_tupA ⟨rfl_str _ _, rfl_int _ _, rfl_int _ _, trivial⟩⟩
theorem root_told (j : Nat) (o t : List (Nm × Goal)) (nm : Option D) (hm : NM t nm) (ht : t.length ≤ 4) (hd : distN o) (ho : o.length ≤ 10) : ∃ r, Told 163 (j + 17) (rootN (oldD o) nm) r := by
  obtain ⟨ro, h1⟩ := old_told (j + 3) o hd ho
  have h1 := h1.mono (m' := 137) (by decide)
  rcases hm with rfl | ⟨rfl, _⟩
  · obtain ⟨rn, h2⟩ := names_told j t ht
    exact ⟨_, told_dict (ks := [.str w_Dests, .str w_Names, .str w_Pages, .str w_Type]) (.cons (by kernel_rfl) (by kernel_rfl) (rfl_str _ _) h1 (.cons (by kernel_rfl) (by kernel_rfl) (rfl_str _ _) h2 (.cons (by kernel_rfl) (by kernel_rfl) (rfl_str _ _) (ref_told (j + 5)) (.cons (by kernel_rfl) (by kernel_rfl) (rfl_str _ _) (name_told (j + 5) w_Catalog) .nil)))) (by kernel_rfl) (by decide)⟩
  · exact ⟨_, told_dict (ks := [.str w_Dests, .str w_Pages, .str w_Type]) (.cons (by kernel_rfl) (by kernel_rfl) (rfl_str _ _) h1 (.cons (by kernel_rfl) (by kernel_rfl) (rfl_str _ _) (ref_told (j + 5)) (.cons (by kernel_rfl) (by kernel_rfl) (rfl_str _ _) (name_told (j + 5) w_Catalog) .nil))) (by kernel_rfl) (by decide)⟩
end Mine

set_option Elab.async false
set_option maxRecDepth 100000
namespace Mine
open PySem PySem.W PyProof.Rows PySem.Calls
noncomputable def w_self : Str := ⟨#[115, 101, 108, 102]⟩
noncomputable def shS (i : Nat) : Stmt := f_Shelf_told.body.getD i noS
noncomputable def lcS : Expr := (argsE (ex0 (shS 0))).getD 0 noE
noncomputable def shEnv (sh : D) (rest : List (Str × Slot)) : MEnv := { names := f_Shelf_told.names, vars := (w_self, .dat sh) :: rest, pin := .none }
noncomputable def numV : Option Int → List (Str × Slot)
  | .none => []
  | some k => [(w_number, .dat (.int k))]
noncomputable def rEnv (sh : D) (q : Option Int) : MEnv := { names := (cscopeS lcS).names, vars := (w_self, .dat sh) :: numV q, pin := .none }
inductive RowsI (m j : Nat) (TB : D) : List Int → List D → Prop
  | nil : RowsI m j TB [] []
  | cons {k : Int} {v t : D} {ks : List Int} {r : List D} : subD TB (.int k) = some (.tup [.int 0, v]) → Told m j v t → RowsI m j TB ks r → RowsI m j TB (k :: ks) (.tup [.int k, .int 0, t] :: r)
theorem RowsI.len {m j : Nat} {TB : D} {ks : List Int} {r : List D} (h : RowsI m j TB ks r) : r.length = ks.length := by
  induction h with
  | nil => rfl
  | cons _ _ _ ih => exact congrArg (· + 1) ih
theorem RowsI.rfl {m j : Nat} {TB : D} {ks : List Int} {r : List D} (h : RowsI m (j + 1) TB ks r) : AllR (j + 2) r := by
  induction h with
  | nil => exact trivial
  | cons _ ht _ ih => exact ⟨rfl_tupA ⟨rfl_int _ _, rfl_int _ _, ht.2, trivial⟩, ih⟩
noncomputable def rowX : Expr := (kids (elt lcS)).getD 1 noE
noncomputable def rowC2 : Expr := (kids (elt lcS)).getD 2 noE
theorem rows_all {m j : Nat} {TB TR : D} {ks : List Int} {r : List D} (h : RowsI m j TB ks r) (n : Nat) : ∀ q, compAll (ev g0 (n + m + 15)) w_number (elt lcS) (cmp1 lcS).ifs (rEnv (shelfX TB TR) q) (ks.map .int) = some r := by
  induction h with
  | nil => exact fun zz=> _root_.rfl
  | @cons k v t ks r hs ht _ ih =>
    intro q
    have hx : ∀ n, ∀ e : Expr, e = .Subscript (ch0 e) (ch1 e) e.pos ∧ isSlice (ch1 e) = false → (∀ n, (ev g0 (n + 5)).E (rEnv (shelfX TB TR) (some k)) (ch0 e) = some (TB, rEnv (shelfX TB TR) (some k))) → (∀ n, (ev g0 (n + 5)).E (rEnv (shelfX TB TR) (some k)) (ch1 e) = some (.int k, rEnv (shelfX TB TR) (some k))) → (ev g0 (n + 6)).E (rEnv (shelfX TB TR) (some k)) e = some (.tup [.int 0, v], rEnv (shelfX TB TR) (some k)) := fun n e he h1 h2 =>
      pure_sub (n := n + 5) he (h1 n) (h2 n) hs
    refine comp_cons (env0 := rEnv (shelfX TB TR) (some k)) (env1 := rEnv (shelfX TB TR) (some k)) (env2 := rEnv (shelfX TB TR) (some k)) (by cases q <;> kernel_rfl) (by kernel_rfl) ?_ (ih (some k))
    refine run_tup (n := n + m + 14) (l := [(kids (elt lcS)).getD 0 noE, rowX, rowC2]) (by kernel_rfl) (L_cons (n := n + m + 13) (env1 := rEnv (shelfX TB TR) (some k)) (by kernel_rfl) (L_cons (n := n + m + 12) (env1 := rEnv (shelfX TB TR) (some k)) ?_ (L_cons (n := n + m + 11) (env1 := rEnv (shelfX TB TR) (some k)) ?_ (by kernel_rfl)))) (by kernel_rfl)
    · exact pure_sub (n := n + m + 11) (a := .tup [.int 0, v]) (b := .int 0) ⟨by kernel_rfl, by kernel_rfl⟩ (hx (n + m + 5) (ch0 rowX) ⟨by kernel_rfl, by kernel_rfl⟩ (fun n => by kernel_rfl) (fun n => by kernel_rfl)) (by kernel_rfl) (by kernel_rfl)
    · refine run_callN (n := n + m + 10) (x := w_told) ⟨by kernel_rfl, by kernel_rfl⟩ (by kernel_rfl) (run_fn (r := f_told) (ds := [v]) (env1 := rEnv (shelfX TB TR) (some k)) (by kernel_rfl) (by kernel_rfl) ?_ (by rw [show n + m + 10 = (n + 10) + m by omega]; exact ht.1 _))
      exact L_cons (n := n + m + 9) (env1 := rEnv (shelfX TB TR) (some k)) (e := (argsE rowC2).getD 0 noE) (r := []) (pure_sub (n := n + m + 8) (a := .tup [.int 0, v]) (b := .int 1) ⟨by kernel_rfl, by kernel_rfl⟩ (hx (n + m + 2) (ch0 ((argsE rowC2).getD 0 noE)) ⟨by kernel_rfl, by kernel_rfl⟩ (fun n => by kernel_rfl) (fun n => by kernel_rfl)) (by kernel_rfl) (by kernel_rfl)) (by kernel_rfl)
/-- the value that told gives, by a run -/
noncomputable def toldV (v : D) : D := match (ev g0 60).K f_told [.dat v] with
  | some (r, _) => r
  | .none => .none
noncomputable def numsC : Ct → List Int
  | .one => [1, 2, 3]
  | .two => [1, 2, 3, 4]
  | .three => [1, 2, 3, 4, 5]
theorem page_told (j : Nat) : Told 163 (j + 10) pageNode (toldV pageNode) := ⟨fun n => by kernel_rfl, (by kernel_rfl : eqD (j + 10) (toldV pageNode) (toldV pageNode) = some true)⟩
theorem pages_told (j : Nat) (c : Ct) : Told 163 (j + 10) (pagesNode c.n) (toldV (pagesNode c.n)) := by
  cases c
  · exact ⟨fun n => by kernel_rfl, (by kernel_rfl : eqD (j + 10) (toldV (pagesNode 1)) (toldV (pagesNode 1)) = some true)⟩
  · exact ⟨fun n => by kernel_rfl, (by kernel_rfl : eqD (j + 10) (toldV (pagesNode 2)) (toldV (pagesNode 2)) = some true)⟩
  · exact ⟨fun n => by kernel_rfl, (by kernel_rfl : eqD (j + 10) (toldV (pagesNode 3)) (toldV (pagesNode 3)) = some true)⟩
theorem tr_told (j : Nat) : Told 163 (j + 10) trD (toldV trD) := ⟨fun n => by kernel_rfl, (by kernel_rfl : eqD (j + 10) (toldV trD) (toldV trD) = some true)⟩
theorem rows_of (j : Nat) (c : Ct) (o : List (Nm × Goal)) (nm : Option D) {rt : D} (h : Told 163 (j + 10) (rootN (oldD o) nm) rt) : ∃ r, RowsI 163 (j + 10) (tbD c o nm) (numsC c) r := by
  cases c
  · exact ⟨_, .cons (by kernel_rfl) h (.cons (by kernel_rfl) (pages_told j .one) (.cons (by kernel_rfl) (page_told j) .nil))⟩
  · exact ⟨_, .cons (by kernel_rfl) h (.cons (by kernel_rfl) (pages_told j .two) (.cons (by kernel_rfl) (page_told j) (.cons (by kernel_rfl) (page_told j) .nil)))⟩
  · exact ⟨_, .cons (by kernel_rfl) h (.cons (by kernel_rfl) (pages_told j .three) (.cons (by kernel_rfl) (page_told j) (.cons (by kernel_rfl) (page_told j) (.cons (by kernel_rfl) (page_told j) .nil))))⟩
theorem sh_body : f_Shelf_told.body = [shS 0, shS 1] := by kernel_rfl
theorem nums_at (c : Ct) (o : List (Nm × Goal)) (nm : Option D) (n : Nat) : iterE g0 (ev g0 (n + 30)) (shEnv (shelfX (tbD c o nm) trD) []) (cmp1 lcS).iter = some ((numsC c).map .int, shEnv (shelfX (tbD c o nm) trD) []) := by
  cases c <;> kernel_rfl
/-- the shelf's told: some value that is equal to itself -/
theorem shelf_told (c : Ct) (o t : List (Nm × Goal)) (nm : Option D) (hm : NM t nm) (ht : t.length ≤ 4) (hd : distN o) (ho : o.length ≤ 10) : ∃ r, Rfl 60 r ∧ ∀ n, (ev g0 (n + 185)).K f_Shelf_told [.dat (shelfC c (oldD o) nm)] = some (r, .dat .none) := by
  obtain ⟨rt, h1⟩ := root_told 40 o t nm hm ht hd ho
  obtain ⟨r, h2⟩ := rows_of 47 c o nm h1
  have hr := h2.len
  have hc : (numsC c).length ≤ 5 := by cases c <;> decide
  refine ⟨.tup [.tup r, toldV trD], rfl_tupA ⟨rfl_tupA (h2.rfl (j := 56)), (tr_told 49).2, trivial⟩, fun n => ?_⟩
  have hB : (ev g0 (n + 184)).B (shEnv (shelfX (tbD c o nm) trD) []) [shS 0, shS 1] = some (.ret (.tup [.tup r, toldV trD]), shEnv (shelfX (tbD c o nm) trD) [(w_rows, .dat (.tup r))]) := by
    refine run_B (n := n + 183) (env1 := shEnv (shelfX (tbD c o nm) trD) [(w_rows, .dat (.tup r))]) (run_asg (n := n + 182) (x := w_rows) (d := .tup r) (env1 := shEnv (shelfX (tbD c o nm) trD) []) ⟨by kernel_rfl, by kernel_rfl, by kernel_rfl⟩ ?_ (by kernel_rfl)) ?_
    · refine run_tuple (n := n + 181) (l := r) ⟨by kernel_rfl, by kernel_rfl⟩ (by kernel_rfl) (by kernel_rfl) ?_ (fitN_of (by omega))
      refine L_cons (n := n + 180) (e := lcS) (r := []) (env1 := shEnv (shelfX (tbD c o nm) trD) []) ?_ (by kernel_rfl)
      exact run_comp (n := n + 179) (x := w_number) (ds := (numsC c).map .int) ⟨by kernel_rfl, by kernel_rfl⟩ (by kernel_rfl) (env1 := shEnv (shelfX (tbD c o nm) trD) []) (nums_at c o nm (n + 149)) (by rw [List.length_map]; exact fitN_of (Nat.le_trans hc (by decide))) (by kernel_rfl) (rows_all (TR := trD) h2 (n + 1) .none)
    · refine run_ret (n := n + 182) (run_retE (n := n + 181) (by kernel_rfl) ?_)
      refine run_tup (n := n + 180) (l := [(kids (ex0 (shS 1))).getD 0 noE, (kids (ex0 (shS 1))).getD 1 noE]) (by kernel_rfl) (L_cons (n := n + 179) (env1 := shEnv (shelfX (tbD c o nm) trD) [(w_rows, .dat (.tup r))]) (by kernel_rfl) (L_cons (n := n + 178) (env1 := shEnv (shelfX (tbD c o nm) trD) [(w_rows, .dat (.tup r))]) ?_ (by kernel_rfl))) (by kernel_rfl)
      exact run_callN (n := n + 177) (x := w_told) ⟨by kernel_rfl, by kernel_rfl⟩ (by kernel_rfl) (run_fn (r := f_told) (ds := [trD]) (by kernel_rfl) (by kernel_rfl) (by kernel_rfl) ((tr_told 49).1 (n + 14)))
  have := run_K (g := g0) (n := n + 184) (f := f_Shelf_told) (ss := [.dat (shelfX (tbD c o nm) trD)]) (vs := [(w_self, .dat (shelfX (tbD c o nm) trD))]) (by kernel_rfl) (show (ev g0 (n + 184)).B _ f_Shelf_told.body = _ by rw [sh_body]; exact hB)
  exact this
end Mine

set_option Elab.async false
set_option maxRecDepth 100000
namespace Mine
open PySem PySem.W PyProof.Rows PySem.Calls
/-! the law's opening -/
section
variable {g : Gt} {n : Nat} {env env1 env2 : MEnv}
theorem run_asgL {s : Stmt} {x : Str} {es : List Expr} {ds : List D} (hs : s = .Assign [ex1 s] (ex0 s) (sPos s) ∧ nameT (ex1 s) = some x ∧ listT (ex0 s) = some es ∧ lcT (ex0 s) = .none ∧ isComp (ex0 s) = false) (hL : (ev g n).L env es = some (ds, env1)) (hf : fitN ds.length = true) (hb : bindName env1 x (.own (.list ds)) = some env2) : (ev g (n + 1)).S env s = some (.nxt, env2) := by
  refine S_asg hs.1 ?_
  unfold assignE
  rw [hs.2.1]
  show assignName g (ev g n) env x (ex0 s) = _
  unfold assignName
  rw [hs.2.2.2.1]
  show (if isComp (ex0 s) = true then _ else _) = _
  rw [if_neg (by rw [hs.2.2.2.2]; decide)]
  refine o2_of ?_ hb
  unfold rhsE
  rw [hs.2.2.1]
  exact o2_of hL (if_pos hf)
theorem run_boolE {e a b : Expr} {op : BoolOp} {d : D} {t : Bool} {out : Option (D × MEnv)} (he : e = .BoolOp op [a, b] e.pos) (hE : (ev g n).E env a = some (d, env1)) (ht : truthyD d = some t) (ho : (if (t == isAnd op) = true then (ev g n).E env1 b else some (d, env1)) = out) : (ev g (n + 1)).E env e = out :=
  E_of he (o2_of hE (o1_of ht ho))
theorem run_list {e : Expr} {l : List D} (he : e = .Call (ch0 e) (argsE e) [] e.pos ∧ nameT (ch0 e) = some n_list) (hg : env.isGlob n_list = true) (hl : lookS g.globals n_list = .none) (hL : (ev g n).L env (argsE e) = some ([.list l], env1)) (hf : fitN l.length = true) : (ev g (n + 1)).E env e = some (.list l, env1) := by
  refine run_callN he hg ?_
  unfold callGlob
  rw [hl]
  have e1 : callBlt g (ev g n) env n_list (argsE e) = o2 ((ev g n).L env (argsE e)) (fun ds env1 => o1 (callB n_list ds) fun d => some (d, env1)) := by kernel_rfl
  refine e1.trans (o2_of hL ?_)
  have e2 : callB n_list [.list l] = if fitN l.length then some (.list l) else .none := by kernel_rfl
  rw [e2, if_pos hf]
  rfl
theorem run_slice {e hi : Expr} {l : List D} {k : Nat} (he : e = .Subscript (ch0 e) (ch1 e) e.pos ∧ isSlice (ch1 e) = true ∧ sliceT (ch1 e) = some (.none, some hi) ∧ natC hi = some k) (hE : (ev g n).E env (ch0 e) = some (.list l, env1)) (hf : fitN l.length = true) : (ev g (n + 1)).E env e = some (.list (l.take k), env1) := by
  refine E_of he.1 ((if_pos he.2.1).trans (o2_of he.2.2.1 (o2_of hE (o1_of (a := D.list (l.take k)) ?_ rfl))))
  exact ((if_pos hf).trans (o1_of he.2.2.2 rfl) : (if fitN l.length = true then _ else _) = _)
end
noncomputable def lawE0 (S : D) : MEnv := { names := f_law.names, vars := [(w_script, .dat S)], pin := .none }
noncomputable def lawE1 (S C : D) (k : Nat) (rest : List (Str × Slot)) : MEnv := { names := f_law.names, vars := (w_script, .dat S) :: (w_tape, .own (tapeD C k)) :: rest, pin := .none }
noncomputable def intsD (ns : List Int) : D := .list (ns.map .int)
noncomputable def tp0 : Expr := (kids (ex0 (lawS 0))).getD 0 noE
noncomputable def tp1 : Expr := (kids tp0).getD 0 noE
noncomputable def tp2 : Expr := (argsE tp1).getD 0 noE
noncomputable def cellsOf (ns : List Int) : List Int := match ns with
  | [] => [1]
  | a :: r => (a :: r).take 50
theorem cells_len (ns : List Int) : 0 < (cellsOf ns).length ∧ (cellsOf ns).length ≤ 50 := by
  cases ns with
  | nil => decide
  | cons a r =>
    show 0 < ((a :: r).take 50).length ∧ ((a :: r).take 50).length ≤ 50
    rw [List.length_take]
    show 0 < min 50 (r.length + 1) ∧ _
    omega
theorem s0 (ns : List Int) (h : ns.length ≤ 63) (n : Nat) : (ev g0 (n + 30)).S (lawE0 (intsD ns)) (lawS 0) = some (.nxt, lawE1 (intsD ns) (cellsD (cellsOf ns)) 0 []) := by
  cases ns with
  | nil => kernel_rfl
  | cons a r =>
    have hl : (((a :: r).map D.int).take 50).length ≤ 50 := by rw [List.length_take]; omega
    have e : ((a :: r).map D.int).take 50 = (cellsOf (a :: r)).map .int := (List.map_take ..).symm
    refine run_asgL (n := n + 29) (x := w_tape) (es := [tp0, (kids (ex0 (lawS 0))).getD 1 noE]) (ds := [.list (((a :: r).map D.int).take 50), .int 0]) (env1 := lawE0 (intsD (a :: r))) ⟨by kernel_rfl, by kernel_rfl, by kernel_rfl, by kernel_rfl, by kernel_rfl⟩ ?_ rfl ?_
    · refine L_cons (n := n + 28) (env1 := lawE0 (intsD (a :: r))) ?_ (by kernel_rfl)
      refine run_boolE (n := n + 27) (op := .Or) (a := tp1) (b := (kids tp0).getD 1 noE) (d := .list (((a :: r).map D.int).take 50)) (t := true) (env1 := lawE0 (intsD (a :: r))) (by kernel_rfl) ?_ ?_ rfl
      · refine run_list (n := n + 26) ⟨by kernel_rfl, by kernel_rfl⟩ (by kernel_rfl) (by kernel_rfl) ?_ (fitN_of (Nat.le_trans hl (by decide)))
        refine L_cons (n := n + 25) (e := tp2) (r := []) (env1 := lawE0 (intsD (a :: r))) ?_ (by kernel_rfl)
        refine run_slice (n := n + 24) (hi := match sliceT (ch1 tp2) with
          | some (_, some e) => e
          | _ => noE) (k := 50) ⟨by kernel_rfl, by kernel_rfl, by kernel_rfl, by kernel_rfl⟩ (by kernel_rfl) ?_
        rw [List.length_map]
        exact fitN_of (Nat.le_trans h (by decide))
      · exact ((if_pos (fitN_of (Nat.le_trans hl (by decide)))).trans rfl : (if fitN (((a :: r).map D.int).take 50).length = true then _ else _) = _)
    · rw [e]
      kernel_rfl
section
variable (S C : D) (c : Ct) (n : Nat)
noncomputable def cntR (c : Ct) : List (Str × Slot) := [(w_count, .dat (.int ((c.n : Nat) : Int)))]
noncomputable def tab2 (c : Ct) : Slot := .own (.dict [(.int 2, .tup [.int 0, pagesNode c.n])])
noncomputable def lawE4 (S C : D) (c : Ct) : MEnv := lawE1 S C 1 [(w_count, .dat (.int ((c.n : Nat) : Int))), (w_table, .own (.dict (tableL c.n))), (w_spot, .dat (.int ((c.n.pred : Nat) : Int)))]
theorem s2 : (ev g0 (n + 60)).S (lawE1 S C 1 (cntR c)) (lawS 2) = some (.nxt, lawE1 S C 1 (cntR c ++ [(w_table, tab2 c)])) := by cases c <;> kernel_rfl
theorem s3 : (ev g0 (n + 60)).S (lawE1 S C 1 (cntR c ++ [(w_table, tab2 c)])) (lawS 3) = some (.nxt, lawE4 S C c) := by cases c <;> kernel_rfl
theorem s4 : (ev g0 (n + 60)).S (lawE4 S C c) (lawS 4) = some (.nxt, env5 S C c 1 [] .none) := by kernel_rfl
end
theorem ct_of {i : Nat} (h : i < 3) : ∃ c : Ct, binD .Add (.int 1) (.int (i : Int)) = some (.int ((c.n : Nat) : Int)) := by
  match i, h with
  | 0, _ => exact ⟨.one, rfl⟩
  | 1, _ => exact ⟨.two, rfl⟩
  | 2, _ => exact ⟨.three, rfl⟩
theorem s1_at {cs : List Int} (S : D) (h0 : 0 < cs.length) (h1 : cs.length ≤ 50) : ∃ c : Ct, ∀ n, (ev g0 (n + 60)).S (lawE1 S (cellsD cs) 0 []) (lawS 1) = some (.nxt, lawE1 S (cellsD cs) 1 (cntR c)) := by
  obtain ⟨i, hi, hd⟩ := draw_at (m := 3) h0 h1 (k := 0) (by omega) (by omega) (by omega)
  obtain ⟨c, hc⟩ := ct_of hi
  refine ⟨c, fun n => ?_⟩
  refine run_asg (n := n + 59) (x := w_count) (d := .int ((c.n : Nat) : Int)) (env1 := lawE1 S (cellsD cs) 1 []) ⟨by kernel_rfl, by kernel_rfl, by kernel_rfl⟩ ?_ (by kernel_rfl)
  exact run_bin (n := n + 58) (op := .Add) (env1 := lawE1 S (cellsD cs) 0 []) (by kernel_rfl) (by kernel_rfl) (draw_call (m := 3) (k := 0) (n := n + 17) ⟨⟨by kernel_rfl, by kernel_rfl⟩, by kernel_rfl⟩ (by kernel_rfl) (by kernel_rfl) (by kernel_rfl) (by kernel_rfl) (hd (n + 17)) (by kernel_rfl)) hc
end Mine

set_option Elab.async false
set_option maxRecDepth 100000
namespace Mine
open PySem PySem.W PyProof.Rows PySem.Calls
/-! the law's end: before, text, the answer -/
section
variable {g : Gt} {n : Nat} {env env1 env2 : MEnv}
theorem run_cmpE {e : Expr} {op : CmpOp} {a b : D} {c : Bool} (he : e = .Compare (ch0 e) [op] [ch1 e] e.pos ∧ isSetE (ch1 e) = false ∧ isEmptyList (ch1 e) = false) (hl : (ev g n).E env (ch0 e) = some (a, env1)) (hr : rightE (ev g n) env1 op (ch1 e) = some (b, env2)) (hc : cmpD op a b = some c) : (ev g (n + 1)).E env e = some (.bool c, env2) :=
  E_of he.1 (o2_of (run_cmpOne he.2.1 he.2.2 hl hr hc) rfl)
end
noncomputable def w_before : Str := ⟨#[98, 101, 102, 111, 114, 101]⟩
noncomputable def w_text' : Str := ⟨#[116, 101, 120, 116]⟩
noncomputable def w_names_text : Str := ⟨#[110, 97, 109, 101, 115, 95, 116, 101, 120, 116]⟩
noncomputable def w_toldm : Str := ⟨#[116, 111, 108, 100]⟩
noncomputable def dueD (c : Ct) (u : List (Nm × Goal)) : D := .dict (dueL c u)
noncomputable def tx : Expr := ex0 (lawS 12)
noncomputable def lcT' : Expr := (argsE (ch1 tx)).getD 0 noE
noncomputable def nameV : Option Nm → List (Str × Slot)
  | .none => []
  | some x => [(w_name, .dat (.str x.s))]
noncomputable def xEnv (c : Ct) (u : List (Nm × Goal)) (q : Option Nm) : MEnv := { names := (cscopeS lcT').names, vars := (w_due, .dat (dueD c u)) :: nameV q, pin := .none }
section
variable {S C : D} (c : Ct) (k : Nat) (o u : List (Nm × Goal)) (ts : Slot) (y : Nm) (v nm : Option D) (rest : List (Str × Slot)) (r : D)
theorem tx_elt (x : Nm) (g : Goal) (hg : getN u x = some g) (n : Nat) : (ev g0 (n + 20)).E (xEnv c u (some x)) (elt lcT') = some (.str (lineS c x g), xEnv c u (some x)) := by
  refine pure_bin (n := n + 19) (op := .Add) (a := .str (x.s ++ w_colon)) (b := .str (gW c g)) (by kernel_rfl) (by cases x <;> kernel_rfl) ?_ (line_add c x g)
  exact pure_sub (n := n + 18) (a := dueD c u) (b := kS x) ⟨by kernel_rfl, by kernel_rfl⟩ (by kernel_rfl) (by kernel_rfl) (o1_of (dget_map okS x u) (by rw [hg]; rfl))
theorem tx_all (xs : List Nm) (n : Nat) : ∀ q : Option Nm, (∀ x ∈ xs, hasN u x = true) → compAll (ev g0 (n + 20)) w_name (elt lcT') (cmp1 lcT').ifs (xEnv c u q) (xs.map kS) = some (strsD (xs.map (lnOf c u))) := by
  induction xs with
  | nil => exact fun q zz=> rfl
  | cons x r ih =>
    intro q hx
    obtain ⟨g, hg⟩ := isSome_get (hx x (.head _))
    have e : lnOf c u x = lineS c x g := by unfold lnOf; rw [hg]
    refine comp_cons (env0 := xEnv c u (some x)) (env1 := xEnv c u (some x)) (y := .str (lnOf c u x)) (by cases q <;> kernel_rfl) (by kernel_rfl) (e ▸ tx_elt c u x g hg n) (ih (some x) fun y hy => hx y (.tail _ hy))
noncomputable def env11 (S C : D) (c : Ct) (k : Nat) (o u : List (Nm × Goal)) (ts ds : Slot) (y : Nm) (v nm : Option D) (r : D) : MEnv := env10 S C c k o ts ds y v nm [(w_before, .dat r)]
theorem tx_test (p : Nm × Goal) (n : Nat) : (ev g0 (n + 20)).T (env11 S C c k o (p :: u) ts (.own (dueD c (p :: u))) y v nm r) (ch0 tx) = some (true, env11 S C c k o (p :: u) ts (.dat (dueD c (p :: u))) y v nm r) := by cases v <;> kernel_rfl
theorem tx_list (hd : distN u) (hu : u.length ≤ 20) (n : Nat) : (ev g0 (n + 21)).E (env11 S C c k o u ts (.dat (dueD c u)) y v nm r) lcT' = some (.list (strsD (linesU c u)), env11 S C c k o u ts (.dat (dueD c u)) y v nm r) := by
  refine run_comp (n := n + 20) (x := w_name) (ds := (pick (hasN u)).map kS) ⟨by kernel_rfl, by kernel_rfl⟩ (by kernel_rfl) (env1 := env11 S C c k o u ts (.dat (dueD c u)) y v nm r) ?_ (by rw [List.length_map]; exact fitN_of (Nat.le_trans (pick_len _) (by decide))) (by kernel_rfl) (tx_all c u _ n .none fun x hx => pick_mem hx)
  refine run_iter (d := .list ((pick (hasN u)).map kS)) (by kernel_rfl) ?_ rfl
  exact run_sorted (n := n + 19) (d := dueD c u) ⟨by kernel_rfl, by kernel_rfl⟩ (by kernel_rfl) (by kernel_rfl) (by kernel_rfl) (sorted_mapN okS u hd hu)
theorem text_join (p : Nm × Goal) : textT (linesU c (p :: u)) = joinT (linesU c (p :: u)) := by
  have h : p.1 ∈ pick (hasN (p :: u)) := pick_iff (by show (if eqN p.1 p.1 = true then some p.2 else getN u p.1).isSome = true; rw [eqN_rfl]; rfl)
  have h2 : lnOf c (p :: u) p.1 ∈ linesU c (p :: u) := List.mem_map_of_mem h
  cases he : linesU c (p :: u) with
  | nil => rw [he] at h2; exact nomatch h2
  | cons => rfl
theorem s12 (hd : distN u) (hu : u.length ≤ 20) (n : Nat) : (ev g0 (n + 40)).S (env11 S C c k o u ts (.own (dueD c u)) y v nm r) (lawS 12) = some (.nxt, env10 S C c k o ts (.dat (dueD c u)) y v nm [(w_before, .dat r), (w_text', .dat (.str (textT (linesU c u))))]) := by
  cases u with
  | nil => cases v <;> kernel_rfl
  | cons p u =>
    refine run_asg (n := n + 39) (x := w_text') (d := .str (textT (linesU c (p :: u)))) (env1 := env11 S C c k o (p :: u) ts (.dat (dueD c (p :: u))) y v nm r) ⟨by kernel_rfl, by kernel_rfl, by kernel_rfl⟩ ?_ (by cases v <;> kernel_rfl)
    refine run_if (n := n + 38) (c := true) (by kernel_rfl) (tx_test c k o u ts y v nm r p (n + 18)) ((if_pos rfl).trans ?_)
    rw [text_join]
    refine run_call (n := n + 37) (m := n_join) (d := .str w_nl) (ds := [.list (strsD (linesU c (p :: u)))]) (env1 := env11 S C c k o (p :: u) ts (.dat (dueD c (p :: u))) y v nm r) (env2 := env11 S C c k o (p :: u) ts (.dat (dueD c (p :: u))) y v nm r) ⟨by kernel_rfl, by kernel_rfl, by kernel_rfl⟩ (by kernel_rfl) (by kernel_rfl) ?_ (val_join (by decide +kernel) (joinFits_at _ (lines_ok c _).1 (lines_ok c _).2) (join_at _))
    exact L_cons (n := n + 36) (e := lcT') (r := []) (tx_list c k o (p :: u) ts y v nm r hd hu (n + 15)) (by kernel_rfl)
end
end Mine

set_option Elab.async false
set_option maxRecDepth 100000
namespace Mine
open PySem PySem.W PyProof.Rows PySem.Calls
noncomputable def env9 (S C : D) (c : Ct) (k : Nat) (o : List (Nm × Goal)) (ts ds : Slot) (y : Nm) (v : Option D) (nm : Option D) : MEnv := lawEnv S C k c (.own (.dict (tableL c.n ++ [(.int 1, .tup [.int 0, rootN (oldD o) nm])]))) (.dat (oldD o)) ts ds ((w_name, .dat (.str y.s)) :: (valR v ++ [(w_root, .dat (rootN (oldD o) nm))]))
section
variable {S C : D} (c : Ct) (k : Nat) (o u t : List (Nm × Goal)) (ts : Slot) (y : Nm) (v nm : Option D) (r : D) (n : Nat)
theorem s9a : (ev g0 (n + 40)).S (env7 S C c k o u ts y v nm) (lawS 9) = some (.nxt, env9 S C c k o ts (.own (dueD c u)) y v nm) := by cases v <;> cases c <;> kernel_rfl
theorem s10 : (ev g0 (n + 40)).S (env9 S C c k o ts (.own (dueD c u)) y v nm) (lawS 10) = some (.nxt, env10 S C c k o ts (.own (dueD c u)) y v nm []) := by cases v <;> cases c <;> kernel_rfl
theorem told_call {env : MEnv} {e : Expr} (he : e = .Call (ch0 e) (argsE e) [] e.pos ∧ ch0 e = .Attribute (ch0 (ch0 e)) w_toldm (ch0 e).pos ∧ (plainBase (ch0 (ch0 e)) && callOk (ch0 e).pos e.pos (argsE e)) = true) (ho : ownRecv env (ch0 (ch0 e)) = .none)
    (hE : (ev g0 n).E env (ch0 (ch0 e)) = some (shelfC c (oldD o) nm, env)) (hL : (ev g0 n).L env (argsE e) = some ([], env)) (hK : (ev g0 n).K f_Shelf_told [.dat (shelfC c (oldD o) nm)] = some (r, .dat .none)) : (ev g0 (n + 1)).E env e = some (r, env) :=
  run_call he ho hE hL (val_inst (by kernel_rfl) (by kernel_rfl) hK)
theorem s11 (hK : (ev g0 (n + 40)).K f_Shelf_told [.dat (shelfC c (oldD o) nm)] = some (r, .dat .none)) : (ev g0 (n + 42)).S (env10 S C c k o ts (.own (dueD c u)) y v nm []) (lawS 11) = some (.nxt, env11 S C c k o u ts (.own (dueD c u)) y v nm r) := by
  refine run_asg (n := n + 41) (x := w_before) (d := r) (env1 := env10 S C c k o ts (.own (dueD c u)) y v nm []) ⟨by kernel_rfl, by kernel_rfl, by kernel_rfl⟩ ?_ (by cases v <;> kernel_rfl)
  exact told_call c o nm r (n + 40) ⟨by kernel_rfl, by kernel_rfl, by kernel_rfl⟩ (by cases v <;> kernel_rfl) (by cases v <;> kernel_rfl) (by kernel_rfl) hK
noncomputable def ans : Expr := ex0 (lawS 13)
noncomputable def ans0 : Expr := (kids ans).getD 0 noE
noncomputable def ans1 : Expr := (kids ans).getD 1 noE
noncomputable def env12 (S C : D) (c : Ct) (k : Nat) (o : List (Nm × Goal)) (ts ds : Slot) (y : Nm) (v nm : Option D) (r T : D) : MEnv := env10 S C c k o ts ds y v nm [(w_before, .dat r), (w_text', .dat T)]
theorem s13 (ds : Slot) (T : Str) (hR : Rfl 60 r) (hN : (ev g0 (n + 39)).K f_names_text [.dat (shelfC c (oldD o) nm)] = some (.str T, .dat .none)) (hK : (ev g0 (n + 39)).K f_Shelf_told [.dat (shelfC c (oldD o) nm)] = some (r, .dat .none)) :
    (ev g0 (n + 43)).S (env12 S C c k o ts ds y v nm r (.str T)) (lawS 13) = some (.ret (.bool true), env12 S C c k o ts ds y v nm r (.str T)) := by
  refine run_retE (n := n + 42) (by kernel_rfl) ?_
  refine run_boolE (n := n + 41) (op := .And) (a := ans0) (b := ans1) (d := .bool true) (t := true) (env1 := env12 S C c k o ts ds y v nm r (.str T)) (by kernel_rfl) ?_ rfl ((if_pos rfl).trans ?_)
  · refine run_cmpE (n := n + 40) (op := .Eq) (a := .str T) (b := .str T) (env1 := env12 S C c k o ts ds y v nm r (.str T)) ⟨by kernel_rfl, by kernel_rfl, by kernel_rfl⟩ ?_ (by cases v <;> kernel_rfl) (congrArg some (seq_iff.mpr rfl))
    exact run_callN (n := n + 39) (x := w_names_text) ⟨by kernel_rfl, by kernel_rfl⟩ (by kernel_rfl) (run_fn (r := f_names_text) (ds := [shelfC c (oldD o) nm]) (by kernel_rfl) (by kernel_rfl) (by cases v <;> kernel_rfl) hN)
  · refine run_cmpE (n := n + 40) (op := .Eq) (a := r) (b := r) (env1 := env12 S C c k o ts ds y v nm r (.str T)) ⟨by kernel_rfl, by kernel_rfl, by kernel_rfl⟩ ?_ (by cases v <;> kernel_rfl) hR
    exact told_call c o nm r (n + 39) ⟨by kernel_rfl, by kernel_rfl, by kernel_rfl⟩ (by cases v <;> kernel_rfl) (by cases v <;> kernel_rfl) (by kernel_rfl) hK
end
theorem i5 (S C : D) (c : Ct) (n : Nat) : iterE g0 (ev g0 (n + 20)) (env5 S C c 1 [] .none) (ex0 (lawS 5)) = some (kS .a :: [Nm.ab, .b, .z].map kS, env5 S C c 1 [] .none) := by kernel_rfl
theorem i6 (S C : D) (c : Ct) (k : Nat) (o : List (Nm × Goal)) (y : Nm) (n : Nat) : iterE g0 (ev g0 (n + 20)) (env5 S C c k o (some y)) (ex0 (lawS 6)) = some ([Nm.z, .a, .ab, .b].map kS, env5 S C c k o (some y)) := by kernel_rfl
theorem law_body : f_law.body = [lawS 0, lawS 1, lawS 2, lawS 3, lawS 4, lawS 5, lawS 6, lawS 7, lawS 8, lawS 9, lawS 10, lawS 11, lawS 12, lawS 13] := by kernel_rfl
theorem law_at (ns : List Int) (h : ns.length ≤ 63) : ∃ E, ∀ n, (ev g0 (n + 205)).B (lawE0 (intsD ns)) f_law.body = some (.ret (.bool true), E) := by
  obtain ⟨h0, h1⟩ := cells_len ns
  obtain ⟨c, p1⟩ := s1_at (intsD ns) h0 h1
  obtain ⟨k, o, x, a1, a2, a3, a4⟩ := loop5 (S := intsD ns) c h0 h1 [.ab, .b, .z] .a 1 [] .none (by decide) (by decide)
  have a1 : k ≤ 17 := a1
  have a3 : o.length ≤ 4 := a3
  have hd : distN o := a2 trivial
  obtain ⟨k2, t, ts, y, v, b1, b2, b3, b4⟩ := loop6 (S := intsD ns) c o h0 h1 o (by omega) [.z, .a, .ab, .b] k [] own0 x .none (.inl ⟨rfl, rfl⟩) (by show k + 16 ≤ 48; omega) (by decide)
  have b1 : k2 ≤ k + 16 := b1
  have b2 : t.length ≤ 4 := b2
  obtain ⟨k3, ts3, nm, c1, c2⟩ := s8 (S := intsD ns) c o (putT o t) t ts y v k2 h0 h1 b3 (by omega)
  obtain ⟨r, d1, d2⟩ := shelf_told c o t nm c1 b2 hd (by omega)
  have hu := len_putT t o
  refine ⟨env12 (intsD ns) (cellsD (cellsOf ns)) c k3 o ts3 (.dat (dueD c (putT o t))) y v nm r (.str (textT (linesU c (putT o t)))), fun n => ?_⟩
  rw [law_body]
  refine run_B (n := n + 204) (s0 ns h (n + 174)) ?_
  refine run_B (n := n + 203) (p1 (n + 143)) ?_
  refine run_B (n := n + 202) (s2 _ _ c (n + 142)) ?_
  refine run_B (n := n + 201) (s3 _ _ c (n + 141)) ?_
  refine run_B (n := n + 200) (s4 _ _ c (n + 140)) ?_
  refine run_B (n := n + 199) (run_for (n := n + 198) ⟨by kernel_rfl, by kernel_rfl⟩ (i5 _ _ c (n + 178)) (a4 (n + 128))) ?_
  refine run_B (n := n + 198) (run_for (n := n + 197) ⟨by kernel_rfl, by kernel_rfl⟩ (i6 _ _ c k o x (n + 177)) (b4 (n + 127))) ?_
  refine run_B (n := n + 197) (s7 c o (putT o t) ts y v k2 (n + 157)) ?_
  refine run_B (n := n + 196) (c2 (n + 136)) ?_
  refine run_B (n := n + 195) (s9a c k3 o (putT o t) ts3 y v nm (n + 155)) ?_
  refine run_B (n := n + 194) (s10 c k3 o (putT o t) ts3 y v nm (n + 154)) ?_
  refine run_B (n := n + 193) (s11 c k3 o (putT o t) ts3 y v nm r (n + 151) (d2 (n + 6))) ?_
  refine run_B (n := n + 192) (s12 c k3 o (putT o t) ts3 y v nm r (dist_putT t o hd) (by omega) (n + 152)) ?_
  exact run_ret (n := n + 191) (s13 c k3 o ts3 y v nm r (n + 148) _ _ d1 (names_at c o nm t c1 b2 (by omega) hd (n + 67)) (d2 (n + 2)))
theorem run_K0 {g : Gt} {n : Nat} {f : FnRec} {ss : List Slot} {vs : List (Str × Slot)} {d : D} {E : MEnv} (h : bindAll f.params (padded f ss) = some vs) (hb : (ev g n).B { names := f.names, vars := vs, pin := pinOf vs } f.body = some (.ret d, E)) : stepK (ev g n) f ss = some (d, firstOf E) := o1_of h (o2_of hb rfl)
theorem lawTrue (ns : List Int) (h : ns.length ≤ 63) : ∃ fst, stepK (ev g0 205) f_law (dats [.list (ns.map .int)]) = some (.bool true, fst) := by
  obtain ⟨E, hE⟩ := law_at ns h
  have hB : (ev g0 205).B { names := f_law.names, vars := [(w_script, .dat (intsD ns))], pin := pinOf [(w_script, .dat (intsD ns))] } f_law.body = some (.ret (.bool true), E) := by
    have := hE 0
    rw [Nat.zero_add] at this
    exact this
  exact ⟨firstOf E, run_K0 (by kernel_rfl) hB⟩
end Mine

set_option Elab.async false
set_option maxRecDepth 100000
set_option maxHeartbeats 8000000
namespace Mine
open PySem PySem.W PyProof.Rows PySem.Calls
theorem kc_mk {P : Params} {K : Frag} (cf_kind_of : FnC K f_kind_of) (cf_told_plain : FnC K f_told_plain) (cf_told : FnC K f_told) (cf_home_of : FnC K f_home_of) (cf_is_node : FnC K f_is_node) (cf_kids_of : FnC K f_kids_of) (cf_met : FnC K f_met) (cf_spots : FnC K f_spots) (cf_fields_of : FnC K f_fields_of) (cf_page_spots : FnC K f_page_spots) (cf_pages : FnC K f_pages) (cf_key_of : FnC K f_key_of) (cf_node_of : FnC K f_node_of) (cf_row_of : FnC K f_row_of) (cf_node_pairs : FnC K f_node_pairs) (cf_longer_way : FnC K f_longer_way) (cf_tree_pairs : FnC K f_tree_pairs) (cf_target_of : FnC K f_target_of) (cf_names_root : FnC K f_names_root) (cf_old_names : FnC K f_old_names) (cf_destination_of : FnC K f_destination_of) (cf_page_index_of : FnC K f_page_index_of) (cf_named : FnC K f_named) (cf_octets_line : FnC K f_octets_line) (cf_rows_text : FnC K f_rows_text) (cf_target_told : FnC K f_target_told) (cf_names_text : FnC K f_names_text) (cf_law_draw : FnC K f_law_draw) (cf_law_goal : FnC K f_law_goal) (cf_law : FnC K f_law) (cf_Decimal_new : FnC K f_Decimal_new) (cf_Name_new : FnC K f_Name_new) (cf_String_new : FnC K f_String_new) (cf_Stream_new : FnC K f_Stream_new) (cf_Reference_new : FnC K f_Reference_new) (cf_Reference_pair : FnC K f_Reference_pair) (cf_Lookup_new : FnC K f_Lookup_new) (cf_Lookup_fetch : FnC K f_Lookup_fetch) (cf_Lookup_get : FnC K f_Lookup_get) (cf_Shelf_numbers : FnC K f_Shelf_numbers) (cf_Shelf_root : FnC K f_Shelf_root) (cf_Shelf_told : FnC K f_Shelf_told) (cf_Page_new : FnC K f_Page_new) (cf_Spot_new : FnC K f_Spot_new) (cf_Target_new : FnC K f_Target_new) (globs : globsB K g0.globals = true) (mths : mthsB K g0.methods = true) (flds : fldsB K g0.fields = true) (blts : bltsB K g0.globals bltNames = true) (isi : isiB K g0.classes = true) (tabs : tabG P K g0.globals) : KC P K g0 where
  globs := globs
  fns := ⟨cf_kind_of, ⟨cf_told_plain, ⟨cf_told, ⟨cf_home_of, ⟨cf_is_node, ⟨cf_kids_of, ⟨cf_met, ⟨cf_spots, ⟨cf_fields_of, ⟨cf_page_spots, ⟨cf_pages, ⟨cf_key_of, ⟨cf_node_of, ⟨cf_row_of, ⟨cf_node_pairs, ⟨cf_longer_way, ⟨cf_tree_pairs, ⟨cf_target_of, ⟨cf_names_root, ⟨cf_old_names, ⟨cf_destination_of, ⟨cf_page_index_of, ⟨cf_named, ⟨cf_octets_line, ⟨cf_rows_text, ⟨cf_target_told, ⟨cf_names_text, ⟨cf_law_draw, ⟨cf_law_goal, ⟨cf_law, ⟨cf_told, ⟨cf_Decimal_new, ⟨cf_Name_new, ⟨cf_String_new, ⟨cf_Stream_new, ⟨cf_Reference_new, ⟨cf_Lookup_new, ⟨cf_Page_new, ⟨cf_Spot_new, ⟨cf_Target_new, trivial⟩⟩⟩⟩⟩⟩⟩⟩⟩⟩⟩⟩⟩⟩⟩⟩⟩⟩⟩⟩⟩⟩⟩⟩⟩⟩⟩⟩⟩⟩⟩⟩⟩⟩⟩⟩⟩⟩⟩⟩
  mths := mths
  fnm := ⟨cf_Lookup_fetch, ⟨cf_Lookup_get, ⟨cf_Shelf_numbers, ⟨cf_Shelf_root, ⟨cf_Shelf_told, ⟨cf_Reference_pair, trivial⟩⟩⟩⟩⟩⟩
  flds := flds
  blts := blts
  isi := isi
  tabs := tabs
noncomputable def f_law_name : Str := ⟨#[108, 97, 119]⟩
theorem wellAll_ints {P : Params} {Φ : Facts} {prog : Program} {w : World} {h : Heap} : ∀ {vs : List Value} {ns : List Int}, IntsAre vs ns → Reps prog w Φ vs (ns.map .int)
  | _, _, .nil => .nil
  | _, _, .cons _ _ r => .cons (.int _ _) (wellAll_ints (P := P) (h := h) r)
theorem law_call {K : Frag} {w : World} {s₁ : Shared} {cl : Str → Option Addr} {mean : ExcName → Option Value} {l : Addr} {vs : List Value} {ns : List Int} (KX : K.In s₁.heap) (TR : ∃ p loose mg mb, TopRead p loose mg mb s₁.heap) (kc : KC w.params K g0) (hg : s₁.gens = #[])
    (W : Well w.params s₁.heap (.ref l) (ofPy (.list (ns.map .int)))) (hI : IntsAre vs ns) (hL : s₁.heap.IsList l vs.toArray) (hlen : ns.length ≤ 63) :
    wpAny (model PySem.Challenge.rw_pb0496_01.row.prog w) callerA (call (.ref 642) [.ref l]) (fun v s' => GoodWG PySem.Challenge.rw_pb0496_01.row.claim cl mean [ofPy (.list (ns.map .int))] s₁ (.ok (.ret v)) s') (fun e s' => GoodWG PySem.Challenge.rw_pb0496_01.row.claim cl mean [ofPy (.list (ns.map .int))] s₁ (.error e) s') s₁ := by
  have C : ∀ p, Cz PySem.Challenge.rw_pb0496_01.row.prog w ⟨s₁.heap, p⟩ K g0 := fun p => cz_of kc KX TR
  obtain ⟨fst, hlaw⟩ := lawTrue ns hlen
  obtain ⟨oc, od, osl, fd, dv, F⟩ := ((C none).fnAt f_law_name f_law rfl).2
  have gl : s₁.heap.get? l = some (lstObj vs 0) := by
    obtain ⟨o, ho, hc, n, hd⟩ := hL
    cases W with
    | list q _ =>
      rw [q] at ho
      cases ho
      injection hd with hd _
      rw [q, hd]
  obtain ⟨_, _, _, _, T⟩ := TR
  refine wpAny_call (call_fn F (fun p => (sound_ev C 205).B p) (ow := none) (ds := [.list (ns.map .int)]) (vs := [.ref l]) (h₀ := ⟨s₁.heap, none⟩) (Φ := fun a o => s₁.heap.get? a = some o) hlaw (fun zz zz h=> nomatch h) (.cons (.list gl (wellAll_ints (P := w.params) (h := s₁.heap) hI)) .nil) (fun zz zz h=> h) (fun zz zz h=> h) ?_ KX T.nolimit ⟨rfl, by decide +kernel, by decide +kernel⟩ fun v Φ' h' tk le old ph new own rv => ?_)
  · exact Nat.lt_trans (by decide +kernel) (Heap.lt_size (KX _ _ F.at_))
  · rw [rv.bool_inv]
    exact ⟨.inl ⟨.bool true, .bool true, [], rfl, fun zz=> rfl, .bool _, by kernel_rfl, fun zz=> ⟨List.nodup_nil, fun zz h=> nomatch h⟩⟩, .of_keep (fun b o e => old b o e no_lent), rfl, .of_eq hg⟩
end Mine
namespace Mine
open PySem PySem.W PyProof.Rows PySem.Calls
def all.tw9415086731664843615 : Unit := ()
def all.tw200202858802481044 : Unit := ()
def all.tw12856583768952052543 : Unit := ()
def all.tw10916552692953138252 : Unit := ()
def all.tw174643672710455865 : Unit := ()
def all.tw1790479274321110595 : Unit := ()
def all.tw4031193125303016004 : Unit := ()
def all.tw16860655207114009476 : Unit := ()
def all.tw8013882960148741844 : Unit := ()
def all.tw4213517389111249349 : Unit := ()
def all.tw11889664893073431171 : Unit := ()
def all.tw3262146214845492323 : Unit := ()
def all.tw3767518503533802614 : Unit := ()
def all.tw11803290260698925149 : Unit := ()
def all.tw9081986644780270648 : Unit := ()
def all.tw4663371325117147700 : Unit := ()
def all.tw11713999911226771186 : Unit := ()
def all.tw3530542369196619228 : Unit := ()
def all.tw10283962928375687353 : Unit := ()
def all.tw14064813617279317691 : Unit := ()
def all.tw17340580167907966974 : Unit := ()
def all.tw16968406226610035208 : Unit := ()
def all.tw2132033042166969879 : Unit := ()
def all.tw741329169588805604 : Unit := ()
def all.tw16700318575013349798 : Unit := ()
def all.tw9196661522157602471 : Unit := ()
def all.tw13874455239767017017 : Unit := ()
def all.tw5402541725696919537 : Unit := ()
def all.tw6712414411722127305 : Unit := ()
def all.tw7272270352196073673 : Unit := ()
def all.tw8007103614756019116 : Unit := ()
def all.tw6686757251022233349 : Unit := ()
def all.tw13723625003827874073 : Unit := ()
def all.tw8183209053709734173 : Unit := ()
def all.tw9952970006915852218 : Unit := ()
def all.tw10269940218743166957 : Unit := ()
def all.tw14274756557212989909 : Unit := ()
def all.tw4382491568596388571 : Unit := ()
def all.tw335442867052375821 : Unit := ()
def all.tw14421808642430287336 : Unit := ()
def all.tw12724949091593755947 : Unit := ()
def all.tw18094267598192979275 : Unit := ()
def all.tw44263415142174766 : Unit := ()
def all.tw14590377763556992278 : Unit := ()
def all.tw8026366407565007962 : Unit := ()
def all.tw5927061715728957476 : Unit := ()
def all.tw14229981574245695772 : Unit := ()
def all.tw17026743227940831712 : Unit := ()
def all.tw4198835854440487071 : Unit := ()
def all.tw14066901625076523032 : Unit := ()
def all.tw3788544764152331944 : Unit := ()
def all.tw1604050991321148793 : Unit := ()
def all.tw13282074430368766303 : Unit := ()
def all.tw8397605616207071183 : Unit := ()
def all.tw13215351417096909983 : Unit := ()
def all.tw17899929404969355535 : Unit := ()
def all.tw1832691508475867565 : Unit := ()
def all.tw12254430714555821875 : Unit := ()
def all.tw5657931515703916248 : Unit := ()
def all.tw16720883766928916882 : Unit := ()
def all.tw8146785798897364014 : Unit := ()
def all.tw14883968960377749705 : Unit := ()
def all.tw9351078540693612215 : Unit := ()
def all.tw12580110897883145167 : Unit := ()
def all.tw3339628229899013760 : Unit := ()
def all.tw1298631472846954095 : Unit := ()
def all.tw636524550079685631 : Unit := ()
def all.tw14478419276589960357 : Unit := ()
def all.tw2144533961223786307 : Unit := ()
def all.tw16400751074865733910 : Unit := ()
def all.tw2798396993581604531 : Unit := ()
def all.tw16183010546200382306 : Unit := ()
def all.tw16149317719023688252 : Unit := ()
def all.tw1142058581544160548 : Unit := ()
def all.tw5689438673786977140 : Unit := ()
def all.tw14661163797125724070 : Unit := ()
def all.tw16223638597430114740 : Unit := ()
def all.tw5007245332940595331 : Unit := ()
def all.tw15888951733556516598 : Unit := ()
def all.tw11441816438227186863 : Unit := ()
def all.tw4544264296663088324 : Unit := ()
def all.tw6717767316833874322 : Unit := ()
def all.tw10227051316576381974 : Unit := ()
def all.tw11784725038316003381 : Unit := ()
def all.tw8593244855664925795 : Unit := ()
def all.tw2366535826993118143 : Unit := ()
def all.tw17846619120630023766 : Unit := ()
def all.tw6271033356711949733 : Unit := ()
def all.tw15389465554420088467 : Unit := ()
def all.tw18118164260907729349 : Unit := ()
def all.tw11242623580682996947 : Unit := ()
def all.tw3702781205502781313 : Unit := ()
def all.tw8316665608867782698 : Unit := ()
def all.tw9301309066579124778 : Unit := ()
def all.tw7347661181068853997 : Unit := ()
def all.tw5931688323066260514 : Unit := ()
def all.tw17368901067910498557 : Unit := ()
def all.tw16857469709051444266 : Unit := ()
def all.tw8820459466428253018 : Unit := ()
def all.tw10634939071730365363 : Unit := ()
def all.tw8797624510096274230 : Unit := ()
def all.tw3578222212851893600 : Unit := ()
def all.tw14648097213134440425 : Unit := ()
def all.tw18343157571677020557 : Unit := ()
def all.tw10640348836240559591 : Unit := ()
def all.tw13320810954380615167 : Unit := ()
def all.tw4801688742562958406 : Unit := ()
def all.tw8312510263607220780 : Unit := ()
def all.tw9448091282758670523 : Unit := ()
def all.tw17485024515217194642 : Unit := ()
def all.tw5646740079091317433 : Unit := ()
def all.tw11990357761064164650 : Unit := ()
def all.tw18003279642469066050 : Unit := ()
def all.tw16232008947845578158 : Unit := ()
def all.tw15300001336698509272 : Unit := ()
def all.tw4430775014708722610 : Unit := ()
def all.tw14106571916235994328 : Unit := ()
def all.tw76700771618905059 : Unit := ()
def all.tw11500223595372185066 : Unit := ()
def all.tw7852760074147458260 : Unit := ()
def all.tw13098716769926991806 : Unit := ()
def all.tw5888963250497168203 : Unit := ()
def all.tw5061037604254504937 : Unit := ()
def all.tw10289937546816008636 : Unit := ()
def all.tw5884965284304258897 : Unit := ()
def all.tw17711473739705145481 : Unit := ()
def all.tw14242173848286271349 : Unit := ()
def all.tw9385597778382524922 : Unit := ()
def all.tw4983024317834737482 : Unit := ()
def all.tw9386671084012761886 : Unit := ()
def all.tw15158558636265767147 : Unit := ()
def all.tw17371863055441782679 : Unit := ()
def all.tw13220695134330190930 : Unit := ()
def all.tw8121427672614705931 : Unit := ()
def all.tw10130366669087276332 : Unit := ()
def all.tw7946034326556018432 : Unit := ()
def all.tw4498182102138418894 : Unit := ()
def all.tw13431290835526063760 : Unit := ()
def all.tw11757652711159077200 : Unit := ()
def all.tw12512054102949984058 : Unit := ()
def all.tw4613981591765525805 : Unit := ()
def all.tw11798761498685784450 : Unit := ()
def all.tw17053130121481772103 : Unit := ()
def all.tw7546461858588002845 : Unit := ()
def all.tw18120535436291149196 : Unit := ()
def all.tw15488987456674118901 : Unit := ()
def all.tw13423135486485445016 : Unit := ()
def all.tw15926794790568321017 : Unit := ()
def all.tw5815207240830897808 : Unit := ()
def all.tw5543487718492105064 : Unit := ()
def all.tw16773635481313006432 : Unit := ()
def all.tw12405882331826627501 : Unit := ()
def all.tw16567661231398824811 : Unit := ()
def all.tw15242674970999812785 : Unit := ()
def all.tw10677670038743541358 : Unit := ()
def all.tw17103938086974590038 : Unit := ()
def all.tw10773934983489079739 : Unit := ()
def all.tw16084742875079473383 : Unit := ()
def all.tw15076152544538823220 : Unit := ()
def all.tw15575253945988166476 : Unit := ()
def all.tw4156143147478942181 : Unit := ()
def all.tw7317653850160689691 : Unit := ()
def all.tw16592893570014863828 : Unit := ()
def all.tw4814944892674192296 : Unit := ()
def all.tw18074533905802821072 : Unit := ()
def all.tw10636018739910865072 : Unit := ()
def all.tw16934683153868514786 : Unit := ()
def all.tw2613816272192447989 : Unit := ()
def all.tw6189357195160471388 : Unit := ()
def all.tw11091474679367250208 : Unit := ()
def all.tw3527972740633252992 : Unit := ()
def all.tw1352723322627576488 : Unit := ()
def all.tw10389294372677164839 : Unit := ()
def all.tw10168888151487559394 : Unit := ()
def all.tw15054863418237798948 : Unit := ()
def all.tw9241353231930656577 : Unit := ()
def all.tw4515135292898193881 : Unit := ()
def all.tw6516363680345034613 : Unit := ()
def all.tw16339503202031470875 : Unit := ()
def all.tw10696458614491829572 : Unit := ()
def all.tw16747629065405408630 : Unit := ()
def all.tw3835962111665225711 : Unit := ()
def all.tw6393532188824929214 : Unit := ()
def all.tw11093295523969242068 : Unit := ()
def all.tw12304872625307995750 : Unit := ()
def all.tw13370487131934946175 : Unit := ()
def all.tw1172340538976468734 : Unit := ()
set_option tactic.hygienic true in
set_option Elab.async true in
set_option maxRecDepth 100000 in
set_option maxHeartbeats 8000000 in
theorem all : PySem.Challenge.rw_pb0496_01.Holds := by
  (w_on; o_law; k_head; (case hw => w_witness2))
  intro w s₀ s₁ mg mb G Y fa o pm cd doc dV kV ho hd hcd hD hmg hg args vals as hpre hlay hrd hwl hlo
  have KX := kIn_of Y
  refine Ground.open G ?_
  intro T B D TE TW
  clear hd hcd hD ho
  have TR := topRead_of T
  wrow_args hpre hlay hrd hwl hlo
  rename_i ns _ _ _ _ _ _ _ l vs _ hL _ W _ hI _ hlen _
  have hfa : mg f_law_name = some (.ref 642) := mg_of KX TR.g (by kernel_rfl)
  obtain rfl : fa = 642 := by
    have e : some (Value.ref fa) = some (Value.ref 642) := hmg.symm.trans hfa
    injection e with e
    injection e
  clear hmg
  exact law_call KX ⟨_, _, _, _, TR⟩ (kc_mk ⟨by kernel_rfl, by kernel_rfl, by kernel_rfl, by kernel_rfl, (fun _ _ _ _ _ _ _ => by kernel_rfl)⟩ ⟨by kernel_rfl, by kernel_rfl, by kernel_rfl, by kernel_rfl, (fun _ _ _ _ _ _ _ => by kernel_rfl)⟩ ⟨by kernel_rfl, by kernel_rfl, by kernel_rfl, by kernel_rfl, (fun _ _ _ _ _ _ _ => by kernel_rfl)⟩ ⟨by kernel_rfl, by kernel_rfl, by kernel_rfl, by kernel_rfl, (fun _ _ _ _ _ _ _ => by kernel_rfl)⟩ ⟨by kernel_rfl, by kernel_rfl, by kernel_rfl, by kernel_rfl, (fun _ _ _ _ _ _ _ => by kernel_rfl)⟩ ⟨by kernel_rfl, by kernel_rfl, by kernel_rfl, by kernel_rfl, (fun _ _ _ _ _ _ _ => by kernel_rfl)⟩ ⟨by kernel_rfl, by kernel_rfl, by kernel_rfl, by kernel_rfl, (fun _ _ _ _ _ _ _ => by kernel_rfl)⟩ ⟨by kernel_rfl, by kernel_rfl, by kernel_rfl, by kernel_rfl, (fun _ _ _ _ _ _ _ => by kernel_rfl)⟩ ⟨by kernel_rfl, by kernel_rfl, by kernel_rfl, by kernel_rfl, (fun _ _ _ _ _ _ _ => by kernel_rfl)⟩ ⟨by kernel_rfl, by kernel_rfl, by kernel_rfl, by kernel_rfl, (fun _ _ _ _ _ _ _ => by kernel_rfl)⟩ ⟨by kernel_rfl, by kernel_rfl, by kernel_rfl, by kernel_rfl, (fun _ _ _ _ _ _ _ => by kernel_rfl)⟩ ⟨by kernel_rfl, by kernel_rfl, by kernel_rfl, by kernel_rfl, (fun _ _ _ _ _ _ _ => by kernel_rfl)⟩ ⟨by kernel_rfl, by kernel_rfl, by kernel_rfl, by kernel_rfl, (fun _ _ _ _ _ _ _ => by kernel_rfl)⟩ ⟨by kernel_rfl, by kernel_rfl, by kernel_rfl, by kernel_rfl, (fun _ _ _ _ _ _ _ => by kernel_rfl)⟩ ⟨by kernel_rfl, by kernel_rfl, by kernel_rfl, by kernel_rfl, (fun _ _ _ _ _ _ _ => by kernel_rfl)⟩ ⟨by kernel_rfl, by kernel_rfl, by kernel_rfl, by kernel_rfl, (fun _ _ _ _ _ _ _ => by kernel_rfl)⟩ ⟨by kernel_rfl, by kernel_rfl, by kernel_rfl, by kernel_rfl, (fun _ _ _ _ _ _ _ => by kernel_rfl)⟩ ⟨by kernel_rfl, by kernel_rfl, by kernel_rfl, by kernel_rfl, (fun _ _ _ _ _ _ _ => by kernel_rfl)⟩ ⟨by kernel_rfl, by kernel_rfl, by kernel_rfl, by kernel_rfl, (fun _ _ _ _ _ _ _ => by kernel_rfl)⟩ ⟨by kernel_rfl, by kernel_rfl, by kernel_rfl, by kernel_rfl, (fun _ _ _ _ _ _ _ => by kernel_rfl)⟩ ⟨by kernel_rfl, by kernel_rfl, by kernel_rfl, by kernel_rfl, (fun _ _ _ _ _ _ _ => by kernel_rfl)⟩ ⟨by kernel_rfl, by kernel_rfl, by kernel_rfl, by kernel_rfl, (fun _ _ _ _ _ _ _ => by kernel_rfl)⟩ ⟨by kernel_rfl, by kernel_rfl, by kernel_rfl, by kernel_rfl, (fun _ _ _ _ _ _ _ => by kernel_rfl)⟩ ⟨by kernel_rfl, by kernel_rfl, by kernel_rfl, by kernel_rfl, (fun _ _ _ _ _ _ _ => by kernel_rfl)⟩ ⟨by kernel_rfl, by kernel_rfl, by kernel_rfl, by kernel_rfl, (fun _ _ _ _ _ _ _ => by kernel_rfl)⟩ ⟨by kernel_rfl, by kernel_rfl, by kernel_rfl, by kernel_rfl, (fun _ _ _ _ _ _ _ => by kernel_rfl)⟩ ⟨by kernel_rfl, by kernel_rfl, by kernel_rfl, by kernel_rfl, (fun _ _ _ _ _ _ _ => by kernel_rfl)⟩ ⟨by kernel_rfl, by kernel_rfl, by kernel_rfl, by kernel_rfl, (fun _ _ _ _ _ _ _ => by kernel_rfl)⟩ ⟨by kernel_rfl, by kernel_rfl, by kernel_rfl, by kernel_rfl, (fun _ _ _ _ _ _ _ => by kernel_rfl)⟩ ⟨by kernel_rfl, by kernel_rfl, by kernel_rfl, by kernel_rfl, (fun _ _ _ _ _ _ _ => by kernel_rfl)⟩ ⟨by kernel_rfl, by kernel_rfl, by kernel_rfl, by kernel_rfl, (fun _ _ _ _ _ _ _ => by kernel_rfl)⟩ ⟨by kernel_rfl, by kernel_rfl, by kernel_rfl, by kernel_rfl, (fun _ _ _ _ _ _ _ => by kernel_rfl)⟩ ⟨by kernel_rfl, by kernel_rfl, by kernel_rfl, by kernel_rfl, ⟨(fun _ _ _ _ _ _ _ => by kernel_rfl), (fun _ _ _ _ _ _ _ => by kernel_rfl)⟩⟩ ⟨by kernel_rfl, by kernel_rfl, by kernel_rfl, by kernel_rfl, (fun _ _ _ _ _ _ _ => by kernel_rfl)⟩ ⟨by kernel_rfl, by kernel_rfl, by kernel_rfl, by kernel_rfl, (fun _ _ _ _ _ _ _ => by kernel_rfl)⟩ ⟨by kernel_rfl, by kernel_rfl, by kernel_rfl, by kernel_rfl, (fun _ _ _ _ _ _ _ => by kernel_rfl)⟩ ⟨by kernel_rfl, by kernel_rfl, by kernel_rfl, by kernel_rfl, ⟨(fun _ _ _ _ _ _ _ => by kernel_rfl), ⟨(fun _ _ _ _ _ _ _ => by kernel_rfl), (fun _ _ _ _ _ _ _ => by kernel_rfl)⟩⟩⟩ ⟨by kernel_rfl, by kernel_rfl, by kernel_rfl, by kernel_rfl, (fun _ _ _ _ _ _ _ => by kernel_rfl)⟩ ⟨by kernel_rfl, by kernel_rfl, by kernel_rfl, by kernel_rfl, (fun _ _ _ _ _ _ _ => by kernel_rfl)⟩ ⟨by kernel_rfl, by kernel_rfl, by kernel_rfl, by kernel_rfl, (fun _ _ _ _ _ _ _ => by kernel_rfl)⟩ ⟨by kernel_rfl, by kernel_rfl, by kernel_rfl, by kernel_rfl, (fun _ _ _ _ _ _ _ => by kernel_rfl)⟩ ⟨by kernel_rfl, by kernel_rfl, by kernel_rfl, by kernel_rfl, (fun _ _ _ _ _ _ _ => by kernel_rfl)⟩ ⟨by kernel_rfl, by kernel_rfl, by kernel_rfl, by kernel_rfl, (fun _ _ _ _ _ _ _ => by kernel_rfl)⟩ ⟨by kernel_rfl, by kernel_rfl, by kernel_rfl, by kernel_rfl, (fun _ _ _ _ _ _ _ => by kernel_rfl)⟩ ⟨by kernel_rfl, by kernel_rfl, by kernel_rfl, by kernel_rfl, (fun _ _ _ _ _ _ _ => by kernel_rfl)⟩ (by kernel_rfl) (by kernel_rfl) (by kernel_rfl) (by kernel_rfl) (by kernel_rfl) ⟨⟨526, viewRows, 8, by kernel_rfl, by kernel_rfl, rfl, by decide +kernel, by decide⟩, trivial⟩) hg W hI hL (Nat.le_of_not_lt fun q => hlen (by exact_mod_cast q))
end Mine

theorem PySem.Challenge.cw_pb0496_01_holds : PySem.Challenge.rw_pb0496_01.Holds :=
  Mine.all
