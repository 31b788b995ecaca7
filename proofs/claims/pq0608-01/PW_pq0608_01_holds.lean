import PyProof.Rows.All
import Wide.All
import OpenK.AllK
import Wide.FinOn
import PyProof.AttrMissHeap
import PySem.Challenge.RW_pq0608_01
set_option Elab.async false
set_option maxRecDepth 100000
set_option linter.unusedVariables false
namespace Mine
open PySem

/-! values -/
inductive PV where
  | none
  | bool (b : Bool)
  | int (i : Int)
  | str (s : Str)
  | list (xs : List PV)
  | tuple (xs : List PV)
  | dict (es : List (Str × PV))
  | inst (C : Str) (fs : List (Str × PV))
  | bowl

theorem upN {a b N : Nat} (h : Nat.ble a b = true) : N + a ≤ N + b := Nat.add_le_add_left (Nat.le_of_ble_eq_true h) N
theorem up0 {a b N : Nat} (h : Nat.ble a b = true) : a ≤ N + b := Nat.le_trans (Nat.le_of_ble_eq_true h) (Nat.le_add_left b N)
theorem none_some {α : Type} {P : Prop} {z : α} (h : (none : Option α) = some z) : P := nomatch h
/-! keys -/
noncomputable def leq : List Nat → List Nat → Bool
  | [], y => (match y with | [] => true | _ :: _ => false)
  | a :: x, y => (match y with | [] => false | b :: y => (match Nat.beq a b with | true => leq x y | false => false))
noncomputable def seq (a b : Str) : Bool := leq a.cps.toList b.cps.toList
theorem leq_iff : ∀ {x y : List Nat}, leq x y = true ↔ x = y
  | [], [] => ⟨fun _ => rfl, fun _ => rfl⟩
  | [], _ :: _ => ⟨nofun, nofun⟩
  | _ :: _, [] => ⟨nofun, nofun⟩
  | a :: x, b :: y => by
    show (match Nat.beq a b with | true => leq x y | false => false) = true ↔ _
    cases h : Nat.beq a b with
    | true => rw [Nat.eq_of_beq_eq_true h, List.cons.injEq]; exact leq_iff.trans ⟨fun h => ⟨rfl, h⟩, fun h => h.2⟩
    | false => exact ⟨nofun, fun e => by cases e; rw [Nat.beq_refl] at h; cases h⟩
theorem seq_iff {a b : Str} : seq a b = true ↔ a = b := by
  unfold seq
  rw [leq_iff]
  constructor
  · intro h; cases a; cases b; exact congrArg Str.mk (Array.toList_inj.mp h)
  · rintro rfl; rfl
theorem seq_eq (a b : Str) : seq a b = (a == b) := by
  rw [Bool.eq_iff_iff, seq_iff, beq_iff_eq]
theorem seq_decide (a b : Str) : seq a b = decide (a = b) := by
  rw [Bool.eq_iff_iff, seq_iff, decide_eq_true_iff]
theorem seq_refl (a : Str) : seq a a = true := seq_iff.mpr rfl
theorem seq_ne {a b : Str} (h : a ≠ b) : seq a b = false := by
  cases e : seq a b with
  | false => rfl
  | true => exact absurd (seq_iff.mp e) h
theorem ne_seq {a b : Str} (h : seq a b = false) : a ≠ b := fun e => by rw [e, seq_refl] at h; cases h
noncomputable def lk {α : Type} (x : Str) : List (Str × α) → Option α
  | [] => .none
  | p :: r => match seq x p.1 with | true => some p.2 | false => lk x r
theorem lk_eq {α : Type} (x : Str) : ∀ l : List (Str × α), lk x l = l.lookup x
  | [] => rfl
  | (y, v) :: r => by
    show (match seq x y with | true => some v | false => lk x r) = _
    rw [List.lookup_cons, seq_eq, lk_eq x r]
    cases x == y <;> rfl
/-- in place, else at the end -/
noncomputable def put {α : Type} (x : Str) (v : α) : List (Str × α) → List (Str × α)
  | [] => [(x, v)]
  | p :: r => match seq x p.1 with | true => (p.1, v) :: r | false => p :: put x v r
noncomputable def hasK {α : Type} (x : Str) (l : List (Str × α)) : Bool := (lk x l).isSome
noncomputable def delK {α : Type} (x : Str) : List (Str × α) → List (Str × α)
  | [] => []
  | p :: r => match seq x p.1 with | true => delK x r | false => p :: delK x r
noncomputable def memS (x : Str) : List Str → Bool
  | [] => false
  | y :: r => match seq x y with | true => true | false => memS x r

structure Bowl where
  left : Int
  here : Int
  names : Int
structure St where
  vars : List (Str × PV)
  own : Option Str
  bowl : Bowl
noncomputable def St.isOwn (st : St) (x : Str) : Bool := match st.own with
  | some y => seq x y
  | none => false
noncomputable def St.seal (st : St) (x : Str) : St := match st.isOwn x with
  | true => { st with own := none }
  | false => st

inductive Fl where
  | next | ret (v : PV)

noncomputable def kindIs (sc : Scope) (x : Str) (k : NameKind) : Bool := match seq x "__debug__" with
  | true => false
  | false => (match lk x sc.names with
    | some k' => decide (k' = k)
    | none => false)
/-- a name of the frame's own -/
noncomputable def ownName (sc : Scope) (x : Str) : Bool := match kindIs sc x .local with
  | true => true
  | false => kindIs sc x .cell

noncomputable def notStar (e : Expr) : Bool := !Nat.beq e.ctorIdx 22
noncomputable def isName (e : Expr) : Bool := Nat.beq e.ctorIdx 23
noncomputable def isTup (e : Expr) : Bool := Nat.beq e.ctorIdx 25
noncomputable def notSlice (e : Expr) : Bool := !Nat.beq e.ctorIdx 26
noncomputable def notCall (e : Expr) : Bool := !Nat.beq e.ctorIdx 16
noncomputable def notSet (e : Expr) : Bool := !Nat.beq e.ctorIdx 7
/-- isTrue of it asks its value -/
noncomputable def plainTest (e : Expr) : Bool := match e.ctorIdx with
  | 23 => true
  | 16 => true
  | 20 => true
  | 21 => true
  | 19 => true
  | _ => false
noncomputable def isComp (e : Expr) : Bool := match e.ctorIdx with
  | 8 => true
  | 9 => true
  | 10 => true
  | _ => false
noncomputable def madeE (e : Expr) : Bool := match e.ctorIdx with
  | 6 => true
  | 16 => true
  | _ => false
noncomputable def isListV : PV → Bool
  | .list _ => true
  | _ => false
noncomputable def isFresh : Expr → Bool
  | .Dict .. => true
  | .List .. => true
  | .Call f args kws _ => (match kws with
    | [] => (match args with
      | [] => false
      | _ :: r => (match r with
        | [] => (match f with | .Name f _ => seq f "dict" | _ => false)
        | _ :: _ => false))
    | _ :: _ => false)
  | _ => false

noncomputable def ints2 {α : Type} (f : Int → Int → Option α) (x y : PV) : Option α := match x with
  | .int a => (match y with | .int b => f a b | _ => .none)
  | _ => .none
theorem ints2_inv {α : Type} {f : Int → Int → Option α} {x y : PV} {z : α} (h : ints2 f x y = some z) : ∃ a b, x = .int a ∧ y = .int b ∧ f a b = some z := by
  cases x with
  | int a =>
    cases y with
    | int b => exact ⟨a, b, rfl, rfl, h⟩
    | _ => exact none_some h
  | _ => exact none_some h
noncomputable def asStr : PV → Option Str
  | .str s => some s
  | _ => .none
theorem asStr_inv {x : PV} {s : Str} (h : asStr x = some s) : x = .str s := by
  cases x with
  | str t => cases h; rfl
  | _ => exact none_some h
noncomputable def asList : PV → Option (List PV)
  | .list s => some s
  | _ => .none
theorem asList_inv {x : PV} {s : List PV} (h : asList x = some s) : x = .list s := by
  cases x with
  | list t => cases h; rfl
  | _ => exact none_some h
noncomputable def asBool : PV → Option Bool
  | .bool s => some s
  | _ => .none
theorem asBool_inv {x : PV} {s : Bool} (h : asBool x = some s) : x = .bool s := by
  cases x with
  | bool t => cases h; rfl
  | _ => exact none_some h
noncomputable def one {α : Type} (l : List α) : Option α := match l with
  | [] => none
  | x :: r => (match r with | [] => some x | _ :: _ => none)
theorem one_inv {α : Type} {l : List α} {x : α} (h : one l = some x) : l = [x] := by
  cases l with
  | nil => exact none_some h
  | cons y r =>
    cases r with
    | nil => cases h; rfl
    | cons _ _ => exact none_some h
noncomputable def two {α : Type} (l : List α) : Option (α × α) := match l with
  | [] => none
  | x :: r => (one r).map fun y => (x, y)
theorem map_some {α β : Type} {o : Option α} {f : α → β} {z : β} (h : o.map f = some z) : ∃ y, o = some y ∧ z = f y := by
  cases o with
  | none => exact none_some h
  | some y => exact ⟨y, rfl, (Option.some.inj h).symm⟩
theorem two_inv {α : Type} {l : List α} {p : α × α} (h : two l = some p) : l = [p.1, p.2] := by
  cases l with
  | nil => exact none_some h
  | cons a r => obtain ⟨y, h1, rfl⟩ := map_some h; rw [one_inv h1]
theorem bind_some {α β : Type} {o : Option α} {f : α → Option β} {z : β} (h : o.bind f = some z) : ∃ y, o = some y ∧ f y = some z := by
  cases o with
  | none => exact none_some h
  | some y => exact ⟨y, rfl, h⟩
noncomputable def truthy : PV → Option Bool
  | .none => some false
  | .bool b => some b
  | _ => .none

noncomputable def strsOf : List PV → Option (List Str)
  | [] => some []
  | x :: r => (asStr x).bind fun s => (strsOf r).map (s :: ·)

noncomputable def guard {α : Type} (b : Bool) (x : α) : Option α := match b with
  | true => some x
  | false => none
/-- == of plain data of the same kinds; of lists and tuples: only told where they are equal -/
noncomputable def peqL (f : PV → PV → Option Bool) : List PV → List PV → Bool
  | [], y => (match y with | [] => true | _ :: _ => false)
  | a :: x, y => (match y with
    | [] => false
    | b :: y => (match f a b with | some c => (match c with | true => peqL f x y | false => false) | none => false))
noncomputable def peqD : Nat → PV → PV → Option Bool
  | 0, a, b => (match a with
    | .bool a => (match b with | .bool b => some (a == b) | _ => .none)
    | .int a => (match b with | .int b => some (decide (a = b)) | _ => .none)
    | .str a => (match b with | .str b => some (seq a b) | _ => .none)
    | _ => .none)
  | k + 1, a, b => (match a with
    | .list a => (match b with | .list b => (match peqL (peqD k) a b with | true => some true | false => guard (!Nat.beq a.length b.length) false) | _ => .none)
    | .tuple a => (match b with | .tuple b => (match peqL (peqD k) a b with | true => some true | false => .none) | _ => .none)
    | a => peqD k a b)
noncomputable def peq (x y : PV) : Option Bool := peqD 3 x y

noncomputable def big : Int := 9223372036854775808
noncomputable def sizeOk (n : Nat) : Bool := Nat.ble n 100000

noncomputable def binop (op : Operator) (x y : PV) : Option PV := match op with
  | .Add => (match x with
    | .str a => (asStr y).bind fun b => guard (sizeOk (a.length + b.length)) (.str (a ++ b))
    | .list a => (asList y).bind fun b => guard (sizeOk (a.length + b.length)) (.list (a ++ b))
    | .int i => ints2 (fun a b => some (.int (a + b))) (.int i) y
    | _ => .none)
  | .Sub => ints2 (fun a b => some (.int (a - b))) x y
  | .Mult => (match x with
    | .list l => (one l).bind fun c => (asBool c).bind fun c => (match y with | .int b => guard (decide (0 ≤ b ∧ b < 100)) (.list (List.replicate b.toNat (.bool c))) | _ => .none)
    | .int i => ints2 (fun a b => guard (decide (-big < a ∧ a < big ∧ -big < b ∧ b < big)) (.int (a * b))) (.int i) y
    | _ => .none)
  | .Mod => ints2 (fun a b => guard (decide (0 < b ∧ b < big)) (.int (a % b))) x y
  | .FloorDiv => ints2 (fun a b => guard (decide (0 < b ∧ b < 1000000000)) (.int (a / b))) x y
  | .Pow => ints2 (fun a b => guard (decide (a = 10 ∧ b = 18)) (.int 1000000000000000000)) x y
  | _ => none

noncomputable def isNone : PV → Bool
  | .none => true
  | _ => false
noncomputable def boolIn (b : Bool) : List PV → Option Bool
  | [] => some false
  | x :: r => (asBool x).bind fun c => (boolIn b r).map (c == b || ·)
noncomputable def contains (x : PV) (c : PV) : Option Bool := match x with
  | .str s => (match c with
    | .dict es => some (hasK s es)
    | .list xs => (strsOf xs).map (memS s)
    | .tuple xs => (strsOf xs).map (memS s)
    | .str t => (one s.cps.toList).map fun c => t.cps.toList.any (Nat.beq c)
    | _ => .none)
  | .bool b => (match c with
    | .list xs => boolIn b xs
    | _ => .none)
  | _ => .none

noncomputable def intsB (f : Int → Int → Bool) (x y : PV) : Option Bool := ints2 (fun a b => some (f a b)) x y
noncomputable def cmp (op : CmpOp) (x y : PV) : Option Bool := match op with
  | .Eq => peq x y
  | .NotEq => (peq x y).map not
  | .Lt => intsB (fun a b => decide (a < b)) x y
  | .LtE => intsB (fun a b => decide (a ≤ b)) x y
  | .Gt => intsB (fun a b => decide (b < a)) x y
  | .GtE => intsB (fun a b => decide (b ≤ a)) x y
  | .Is => guard (isNone y) (isNone x)
  | .IsNot => guard (isNone y) (!isNone x)
  | .In => contains x y
  | .NotIn => (contains x y).map not

noncomputable def listAt (xs : List PV) (k : PV) : Option PV := match k with
  | .int i => (match decide (0 ≤ i ∧ i < 100000) with | true => xs[i.toNat]? | false => .none)
  | _ => .none
noncomputable def bowlAt (b : Bowl) (s : Str) : Option Int := match seq s "left" with
  | true => some b.left
  | false => (match seq s "here" with
    | true => some b.here
    | false => (match seq s "names" with | true => some b.names | false => none))
noncomputable def putBowl (b : Bowl) (s : Str) (i : Int) : Option Bowl := match seq s "left" with
  | true => some { b with left := i }
  | false => (match seq s "here" with
    | true => some { b with here := i }
    | false => (match seq s "names" with | true => some { b with names := i } | false => none))
noncomputable def item (x k : PV) (b : Bowl) : Option PV := match x with
  | .list xs => listAt xs k
  | .tuple xs => listAt xs k
  | .dict es => (match k with | .str s => lk s es | _ => .none)
  | .bowl => (match k with | .str s => (bowlAt b s).map .int | _ => .none)
  | _ => .none

/-! classes of the text: the names of __init__'s parameters are the fields -/
noncomputable def classes : List (Str × List Str) := [("Var", ["name"]), ("Lit", ["kind", "value"]), ("App", ["fun", "args"]), ("Lam", ["params", "body"]), ("Let", ["binds", "body", "is_rec"]), ("Alt", ["key", "names", "body"]),
  ("Case", ["value", "name", "alts", "other"]), ("Con", ["name", "args"]), ("Prim", ["op", "args"]), ("Signature", ["flags", "free", "diverges"])]
noncomputable def classFields (C : Str) : Option (List Str) := lk C classes
noncomputable def clsName (sc : Scope) (C : Str) : Bool := match kindIs sc C .globalImplicit with
  | true => (classFields C).isSome
  | false => false
noncomputable def classNames (sc : Scope) : List Expr → Option (List Str)
  | [] => some []
  | e :: r => (match e with
    | .Name C _ => (match clsName sc C with | true => (classNames sc r).map (C :: ·) | false => none)
    | _ => none)
/-- the classes that isinstance asks for -/
noncomputable def kitOf (sc : Scope) (e : Expr) : Option (List Str) := match e with
  | .Name C _ => guard (clsName sc C) [C]
  | .Tuple es _ _ => (match Nat.blt es.length 100 with | true => classNames sc es | false => none)
  | _ => none
noncomputable def noDot (s : Str) : Bool := !s.cps.toList.any (Nat.beq 46)

noncomputable def charsOf (s : Str) : List PV := s.cps.toList.map fun c => .str ⟨#[c]⟩

noncomputable def pairV : PV → Option (PV × PV)
  | .tuple l => two l
  | _ => .none
theorem pairV_inv {x : PV} {p : PV × PV} (h : pairV x = some p) : x = .tuple [p.1, p.2] := by
  cases x with
  | tuple l => exact congrArg PV.tuple (two_inv h)
  | _ => exact none_some h
noncomputable def pairOf (x : PV) : Option (Str × PV) := (pairV x).bind fun p => (asStr p.1).map fun k => (k, p.2)
noncomputable def pairsOf : List PV → Option (List (Str × PV))
  | [] => some []
  | x :: r => (pairOf x).bind fun p => (pairsOf r).map (p :: ·)
noncomputable def storeAll (acc : List (Str × PV)) : List (Str × PV) → List (Str × PV)
  | [] => acc
  | p :: r => storeAll (put p.1 p.2 acc) r

/-- a stable order of texts: by insertion -/
noncomputable def ltN : List Nat → List Nat → Bool
  | [], y => (match y with | [] => false | _ :: _ => true)
  | a :: x, y => (match y with | [] => false | b :: y => (match Nat.beq a b with | true => ltN x y | false => Nat.blt a b))
noncomputable def insS (s : Str) : List Str → List Str
  | [] => [s]
  | t :: r => match ltN t.cps.toList s.cps.toList with | true => t :: insS s r | false => s :: t :: r
noncomputable def sortS : List Str → List Str
  | [] => []
  | s :: r => insS s (sortS r)

noncomputable def joinS (sep : Str) (xs : List Str) : Str := PySem.Builtin.Str.glued sep xs
noncomputable def lenAll : List Str → Nat
  | [] => 0
  | s :: r => s.length + 1 + lenAll r

noncomputable def decText (i : Int) : Str := Str.ofString (toString i)

noncomputable def allBools : List PV → Option Bool
  | [] => some true
  | x :: r => (asBool x).bind fun c => (allBools r).map (c && ·)

inductive Blt where
  | len | list | tuple | dict | sorted | max | str | ord | all
noncomputable def blts : List (Str × Blt) := [("len", .len), ("list", .list), ("tuple", .tuple), ("dict", .dict), ("sorted", .sorted), ("max", .max), ("str", .str), ("ord", .ord), ("all", .all)]
noncomputable def blt1 (k : Blt) (x : PV) : Option PV := match x with
  | .list xs => (match k with
    | .len => guard (sizeOk xs.length) (.int xs.length)
    | .list => guard (sizeOk xs.length) (.list xs)
    | .tuple => guard (sizeOk xs.length) (.tuple xs)
    | .dict => (match sizeOk xs.length with | true => (pairsOf xs).map fun es => .dict (storeAll [] es) | false => .none)
    | .all => (allBools xs).map .bool
    | _ => .none)
  | .dict es => (match k with
    | .dict => guard (sizeOk es.length) (.dict es)
    | .sorted => guard (Nat.blt es.length 64) (.list ((sortS (es.map (·.1))).map .str))
    | _ => .none)
  | .int a => (match k with
    | .str => guard (decide (0 ≤ a ∧ a < 1000000)) (.str (decText a))
    | _ => .none)
  | .str s => (match k with
    | .ord => (one s.cps.toList).map fun (c : Nat) => PV.int (Int.ofNat c)
    | _ => .none)
  | _ => .none
noncomputable def bltAt (k : Blt) (args : List PV) : Option PV := match k with
  | .max => (two args).bind fun p => ints2 (fun a b => some (.int (if a < b then b else a))) p.1 p.2
  | k => (one args).bind (blt1 k)
noncomputable def builtin (f : Str) (args : List PV) : Option PV := match lk f blts with
  | some k => bltAt k args
  | none => none

noncomputable def dictGet (es : List (Str × PV)) (args : List PV) : Option PV := match args with
  | [] => none
  | k :: r => (asStr k).bind fun k => (match r with
    | [] => some ((lk k es).getD .none)
    | r => (one r).map fun d => (lk k es).getD d)
noncomputable def strJoin (sep : Str) (x : PV) : Option PV := (asList x).bind fun xs => (strsOf xs).bind fun ss => guard (sizeOk (lenAll ss + sep.length * ss.length)) (.str (joinS sep ss))
/-- a method of a value that is no instance of the text's -/
noncomputable def builtinMeth (v : PV) (m : Str) (args : List PV) : Option PV := match v with
  | .dict es => (match seq m "get" with | true => dictGet es args | false => .none)
  | .str sep => (match seq m "join" with
    | true => (one args).bind (strJoin sep)
    | false => .none)
  | _ => .none

noncomputable def keyWords : List Str := ["int", "char", "app", "lam", "let", "letrec", "case", "of", "is", "else", "con", "prim", "program"]
noncomputable def neverBare : Str := "()| "
noncomputable def constAt (x : Str) : Option PV := match seq x "NEVER_BARE" with
  | true => some (.str neverBare)
  | false => (match seq x "KEY_WORDS" with | true => some (.tuple (keyWords.map .str)) | false => none)

/-- what a for or a comprehension goes over -/
noncomputable def itemsOf : PV → Option (List PV)
  | .list xs => some xs
  | .tuple xs => some xs
  | .dict es => some (es.map fun e => .str e.1)
  | .str s => some (charsOf s)
  | _ => none
noncomputable def rangeItems (n : Nat) : List PV := (List.range n).map fun (i : Nat) => PV.int (Int.ofNat i)
noncomputable def zipItems : List PV → List PV → List PV
  | [], _ => []
  | a :: x, y => (match y with | [] => [] | b :: y => .tuple [a, b] :: zipItems x y)

/-- a target's names -/
inductive Tgt where
  | one (x : Str) | two (x y : Str)
noncomputable def nameOf (e : Expr) : Option Str := match e with
  | .Name x _ => some x
  | _ => none
noncomputable def tgtOf (e : Expr) : Option Tgt := match e with
  | .Name x _ => some (.one x)
  | .Tuple ts _ _ => (two ts).bind fun p => (nameOf p.1).bind fun x => (nameOf p.2).map fun y => .two x y
  | _ => none
noncomputable def twoOwn (sc : Scope) (x y : Str) : Bool := match ownName sc x with
  | true => (match ownName sc y with | true => !seq x y | false => false)
  | false => false
noncomputable def bindV (sc : Scope) (t : Tgt) (v : PV) : Option (List (Str × PV)) := match t with
  | .one x => guard (ownName sc x) [(x, v)]
  | .two x y => (pairV v).bind fun p => guard (twoOwn sc x y) [(x, p.1), (y, p.2)]
noncomputable def bindT (sc : Scope) (e : Expr) (v : PV) : Option (List (Str × PV)) := (tgtOf e).bind fun t => bindV sc t v
noncomputable def St.put1 (st : St) (x : Str) (v : PV) : St := ⟨put x v st.vars, match st.isOwn x with | true => none | false => st.own, st.bowl⟩
noncomputable def St.putAll (st : St) : List (Str × PV) → St
  | [] => st
  | b :: bs => St.putAll (st.put1 b.1 b.2) bs

/-- the scope of a comprehension as the frame sees it -/
noncomputable def relabK (sc : Scope) (x : Str) (k : NameKind) : NameKind := match k with
  | .free => (match kindIs sc x .cell with | true => .cell | false => .free)
  | k => k
noncomputable def relab (scope sc : Scope) : Scope := { scope with names := scope.names.map fun p => (p.1, relabK sc p.1 p.2) }
noncomputable def localsOnly (sc : Scope) (bs : List (Str × PV)) : Bool := bs.all fun b => kindIs sc b.1 .local
/-- the names that a comprehension takes from the frame -/
noncomputable def capture (scope : Scope) : List (Str × PV) → List (Str × PV)
  | [] => []
  | b :: r => (match kindIs scope b.1 .free with | true => b :: capture scope r | false => capture scope r)
noncomputable def sealFor (scope : Scope) (st : St) : St := match st.own with
  | some x => (match kindIs scope x .free with | true => { st with own := none } | false => st)
  | none => st
noncomputable def nameOk (scope sc : Scope) (x : Str) (k : NameKind) : Bool := match seq x "__debug__" with
  | true => false
  | false => (match k with
    | .cell => false
    | .local => kindIs scope x .local
    | .free => kindIs sc x .cell
    | _ => true)
noncomputable def scopeOk (scope sc : Scope) : Bool := match decide (scope.kind = .function) with
  | true => scope.names.all fun p => nameOk scope sc p.1 p.2
  | false => false

noncomputable def slicePart (s : Str) (lo hi : Option Int) : Str :=
  if (slicePicked s (lo.map fun i => (i, 0)) (hi.map fun i => (i, 0)) none).length == s.length then s
  else ⟨((slicePicked s (lo.map fun i => (i, 0)) (hi.map fun i => (i, 0)) none).filterMap (s.cps[·]?)).toArray⟩

noncomputable def constPV : Const → Option PV
  | .none => some .none
  | .bool b => some (.bool b)
  | .int i => some (.int i)
  | .str s => some (.str s)
  | _ => none
noncomputable def intConst (e : Expr) : Option Int := match e with
  | .Constant k _ _ => (match k with | .int i => some i | _ => none)
  | _ => none
/-- s[a:], s[:b] -/
noncomputable def sliceOf (lo hi : Option Expr) : Option (Option Int × Option Int) := match lo with
  | some lo => (match hi with
    | none => (intConst lo).map fun i => (some i, none)
    | some _ => none)
  | none => hi.bind fun hi => (intConst hi).map fun i => (none, some i)

structure FnInfo where
  params : Arguments
  body : List Stmt
  scope : Scope
noncomputable def paramNames (a : Arguments) : List Str := a.args.map (·.arg)
noncomputable def retOf : Fl → PV
  | .next => .none
  | .ret v => v

/-! the text's own functions, out of the row's program -/
noncomputable def plainA (a : Arguments) : Bool := a.posonlyargs.isEmpty && (a.vararg.isNone && (a.kwonlyargs.isEmpty && (a.kwarg.isNone && a.defaults.isEmpty)))
noncomputable def findDef (f : Str) : List Stmt → Option FnInfo
  | [] => none
  | s :: r => (match s with
    | .FunctionDef n a b _ _ _ s _ _ _ => (match seq f n with | true => guard (plainA a) ⟨a, b, s⟩ | false => findDef f r)
    | _ => findDef f r)
noncomputable def findCls (C : Str) : List Stmt → Option (List Stmt)
  | [] => none
  | s :: r => (match s with
    | .ClassDef n _ _ b _ _ _ _ _ _ _ => (match seq C n with | true => some b | false => findCls C r)
    | _ => findCls C r)
noncomputable def prog : Program := PySem.Challenge.pw_pq0608_01
noncomputable def splitDot : List Nat → Option (List Nat × List Nat)
  | [] => none
  | c :: r => (match Nat.beq c 46 with | true => some ([], r) | false => (splitDot r).map fun p => (c :: p.1, p.2))
noncomputable def tab (f : Str) : Option FnInfo := match splitDot f.cps.toList with
  | some p => (match findCls ⟨p.1.toArray⟩ prog.main.body with
    | some b => findDef ⟨p.2.toArray⟩ b
    | none => none)
  | none => findDef f prog.main.body
end Mine

set_option maxRecDepth 100000
set_option linter.unusedVariables false
namespace Mine
open PySem PySem.W PySem.Calls PyProof.Rows

/-! what stands fast in a run of the law -/
structure Cx where
  w : World
  K : Frag
  B : Addr
  cls : Str → Addr
  h0 : Heap
  kw : Addr
  fn : Str → Addr
  pre : Bool
noncomputable abbrev Cx.kd (c : Cx) : KeyKind prog c.w Str := strKind prog c.w
noncomputable abbrev Cx.M (c : Cx) : Model := model prog c.w
abbrev Fz := Addr → Prop

/-- the entries of an instance's dict -/
inductive Fit : List DictEntry → List (Str × Value) → Prop
  | nil : Fit [] []
  | cons {hs : Int} {k : Str} {t : Tok} {v : Value} {es : List DictEntry} {kvs : List (Str × Value)} : Fit es kvs → Fit (⟨hs, .str k t, v⟩ :: es) ((k, v) :: kvs)
def FitD (h : Heap) (d : Addr) (kvs : List (Str × Value)) : Prop := ∃ es n, h.get? d = some (dictOf es n) ∧ Fit es kvs
theorem FitD.at {h h' : Heap} {d : Addr} {kvs : List (Str × Value)} (x : FitD h d kvs) (k : ∀ o, h.get? d = some o → h'.get? d = some o) : FitD h' d kvs := by
  obtain ⟨es, n, e, f⟩ := x; exact ⟨es, n, k _ e, f⟩
theorem Fit.noRef {es : List DictEntry} {kvs : List (Str × Value)} (f : Fit es kvs) : es.any (·.refKey) = false := by
  induction f with
  | nil => rfl
  | cons r ih => rw [List.any_cons, ih]; rfl
theorem valueAt_cons (x : Str) (k : Str) (v : Value) (r : List (Str × Value)) : valueAt ((k, v) :: r) x = if k = x then some v else valueAt r x := by
  unfold valueAt
  rw [List.find?_cons]
  by_cases h : k = x
  · rw [if_pos h, decide_eq_true h]; rfl
  · rw [if_neg h, decide_eq_false h]
theorem Fit.find (x : Str) {es : List DictEntry} {kvs : List (Str × Value)} (f : Fit es kvs) : (es.find? (·.key.isStr x)).map (·.val) = valueAt kvs x := by
  induction f with
  | nil => rfl
  | @cons hs k t v es kvs r ih =>
    rw [List.find?_cons, valueAt_cons]
    show Option.map _ (match (k == x) with | true => _ | false => _) = _
    by_cases hk : k = x
    · rw [if_pos hk, beq_iff_eq.mpr hk]; rfl
    · rw [if_neg hk, beq_eq_false_iff_ne.mpr hk]; exact ih
theorem Fit.get (x : Str) {es : List DictEntry} {kvs : List (Str × Value)} (f : Fit es kvs) : getL x es = some (valueAt kvs x) := by
  have h1 := f.find x
  unfold getL
  cases h : es.find? (·.key.isStr x) with
  | none => rw [h] at h1; rw [← h1]; exact if_neg (by rw [f.noRef]; exact Bool.false_ne_true)
  | some e => rw [h] at h1; rw [← h1]; rfl
theorem Fit.put {x : Str} {hs : Int} {t : Tok} {v : Value} {es : List DictEntry} {kvs : List (Str × Value)} (f : Fit es kvs) : x ∉ kvs.map (·.1) → Fit (putL x hs (.str x t) v es) (kvs ++ [(x, v)]) := by
  induction f with
  | nil => exact fun _ => .cons .nil
  | @cons hs' k t' v' es kvs r ih =>
    intro h
    rw [List.map_cons, List.mem_cons, not_or] at h
    have : (Value.str k t').isStr x = false := beq_eq_false_iff_ne.mpr fun e => h.1 e.symm
    show Fit (if (Value.str k t').isStr x then _ else _) _
    rw [this]
    exact .cons (ih h.2)
theorem Fit.length {es : List DictEntry} {kvs : List (Str × Value)} (f : Fit es kvs) : es.length = kvs.length := by
  induction f with
  | nil => rfl
  | cons r ih => exact congrArg (· + 1) ih

mutual
inductive Rep (c : Cx) (F : Fz) (h : Heap) : Value → PV → Prop
  | none : Rep c F h .none .none
  | bool (b : Bool) : Rep c F h (.bool b) (.bool b)
  | int (i : Int) (t : Tok) : Rep c F h (.int i t) (.int i)
  | str (s : Str) (t : Tok) : Rep c F h (.str s t) (.str s)
  | list {a : Addr} {items : Array Value} {vs : List Value} {xs : List PV} : F a → h.PlainList a items → items.toList = vs → Reps c F h vs xs → Rep c F h (.ref a) (.list xs)
  | tuple {a : Addr} {items : Array Value} {vs : List Value} {xs : List PV} : F a → IsTup h a items → items.toList = vs → Reps c F h vs xs → Rep c F h (.ref a) (.tuple xs)
  | dict {a : Addr} {kvs : List (Str × Value)} {es : List (Str × PV)} : F a → (a == sysModules) = false → h.DictOf c.kd a kvs → RepE c F h kvs es → Rep c F h (.ref a) (.dict es)
  | inst {a d : Addr} {C : Str} {kvs : List (Str × Value)} {fs : List (Str × PV)} : F a → F d → (classFields C).isSome = true → h.get? a = some (instObj (c.cls C) d) → FitD h d kvs → RepE c F h kvs fs → classFields C = some (fs.map (·.1)) → Rep c F h (.ref a) (.inst C fs)
  | bowl : c.pre = false → Rep c F h (.ref c.B) .bowl
inductive Reps (c : Cx) (F : Fz) (h : Heap) : List Value → List PV → Prop
  | nil : Reps c F h [] []
  | cons {v : Value} {x : PV} {vs : List Value} {xs : List PV} : Rep c F h v x → Reps c F h vs xs → Reps c F h (v :: vs) (x :: xs)
inductive RepE (c : Cx) (F : Fz) (h : Heap) : List (Str × Value) → List (Str × PV) → Prop
  | nil : RepE c F h [] []
  | cons {k : Str} {v : Value} {x : PV} {vs : List (Str × Value)} {xs : List (Str × PV)} : Rep c F h v x → RepE c F h vs xs → RepE c F h ((k, v) :: vs) ((k, x) :: xs)
end

def RepInv (c : Cx) (F : Fz) (h : Heap) (v : Value) : PV → Prop
  | .none => v = .none
  | .bool b => v = .bool b
  | .int i => ∃ t, v = .int i t
  | .str s => ∃ t, v = .str s t
  | .list xs => ∃ a its, v = .ref a ∧ F a ∧ h.PlainList a its ∧ Reps c F h its.toList xs
  | .tuple xs => ∃ a its, v = .ref a ∧ F a ∧ IsTup h a its ∧ Reps c F h its.toList xs
  | .dict es => ∃ a kvs, v = .ref a ∧ F a ∧ (a == sysModules) = false ∧ h.DictOf c.kd a kvs ∧ RepE c F h kvs es
  | .inst C fs => ∃ a d kvs, v = .ref a ∧ F a ∧ F d ∧ h.get? a = some (instObj (c.cls C) d) ∧ FitD h d kvs ∧ RepE c F h kvs fs ∧ classFields C = some (fs.map (·.1))
  | .bowl => v = .ref c.B ∧ c.pre = false
theorem Rep.inv {c : Cx} {F : Fz} {h : Heap} {v : Value} {x : PV} (r : Rep c F h v x) : RepInv c F h v x := by
  cases r with
  | none => rfl
  | bool b => rfl
  | int i t => exact ⟨t, rfl⟩
  | str s t => exact ⟨t, rfl⟩
  | list f p e r => subst e; exact ⟨_, _, rfl, f, p, r⟩
  | tuple f p e r => subst e; exact ⟨_, _, rfl, f, p, r⟩
  | dict f s d r => exact ⟨_, _, rfl, f, s, d, r⟩
  | inst f g ci p d r e => exact ⟨_, _, _, rfl, f, g, p, d, r, e⟩
  | bowl e => exact ⟨rfl, e⟩
def RepsInv (c : Cx) (F : Fz) (h : Heap) (vs : List Value) : List PV → Prop
  | [] => vs = []
  | x :: xs => ∃ v us, vs = v :: us ∧ Rep c F h v x ∧ Reps c F h us xs
theorem Reps.inv {c : Cx} {F : Fz} {h : Heap} {vs : List Value} {xs : List PV} (r : Reps c F h vs xs) : RepsInv c F h vs xs := by
  cases r with
  | nil => rfl
  | cons a r => exact ⟨_, _, rfl, a, r⟩
section
variable {c : Cx} {F : Fz} {h : Heap}
theorem Rep.list' {a : Addr} {its : Array Value} {xs : List PV} (f : F a) (p : h.PlainList a its) (r : Reps c F h its.toList xs) : Rep c F h (.ref a) (.list xs) := .list f p rfl r
theorem Rep.tuple' {a : Addr} {its : Array Value} {xs : List PV} (f : F a) (p : IsTup h a its) (r : Reps c F h its.toList xs) : Rep c F h (.ref a) (.tuple xs) := .tuple f p rfl r
theorem Reps.ind {P : List Value → List PV → Prop} (h0 : P [] []) (h1 : ∀ v x vs xs, Rep c F h v x → Reps c F h vs xs → P vs xs → P (v :: vs) (x :: xs)) {vs : List Value} {xs : List PV} (r : Reps c F h vs xs) : P vs xs :=
  Reps.rec (motive_1 := fun _ _ _ => True) (motive_2 := fun vs xs _ => P vs xs) (motive_3 := fun _ _ _ => True) trivial (fun _ => trivial) (fun _ _ => trivial) (fun _ _ => trivial) (fun _ _ _ _ _ => trivial) (fun _ _ _ _ _ => trivial) (fun _ _ _ _ _ => trivial) (fun _ _ _ _ _ _ _ _ => trivial) (fun _ => trivial)
    h0 (fun a r _ ih => h1 _ _ _ _ a r ih) trivial (fun _ _ _ _ => trivial) r
theorem RepE.ind {P : List (Str × Value) → List (Str × PV) → Prop} (h0 : P [] []) (h1 : ∀ k v x vs xs, Rep c F h v x → RepE c F h vs xs → P vs xs → P ((k, v) :: vs) ((k, x) :: xs)) {vs : List (Str × Value)} {xs : List (Str × PV)} (r : RepE c F h vs xs) : P vs xs :=
  RepE.rec (motive_1 := fun _ _ _ => True) (motive_2 := fun _ _ _ => True) (motive_3 := fun vs xs _ => P vs xs) trivial (fun _ => trivial) (fun _ _ => trivial) (fun _ _ => trivial) (fun _ _ _ _ _ => trivial) (fun _ _ _ _ _ => trivial) (fun _ _ _ _ _ => trivial) (fun _ _ _ _ _ _ _ _ => trivial) (fun _ => trivial)
    trivial (fun _ _ _ _ => trivial) h0 (fun a r _ ih => h1 _ _ _ _ _ a r ih) r
end

/-- what is frozen stays -/
def Kept (F F' : Fz) (h h' : Heap) : Prop := (∀ a, F a → F' a) ∧ ∀ a o, F a → h.get? a = some o → h'.get? a = some o
theorem Kept.refl (F : Fz) (h : Heap) : Kept F F h h := ⟨fun _ x => x, fun _ _ _ x => x⟩
theorem Kept.all {F F' : Fz} {h h' : Heap} (hle : ∀ a, F a → F' a) (hk : ∀ a o, h.get? a = some o → h'.get? a = some o) : Kept F F' h h' := ⟨hle, fun a o _ => hk a o⟩

theorem DictOf_at {c : Cx} {h h' : Heap} {a : Addr} {kvs : List (Str × Value)} (x : h.DictOf c.kd a kvs) (k : ∀ o, h.get? a = some o → h'.get? a = some o) : h'.DictOf c.kd a kvs := by
  obtain ⟨o, es, ep, ho, r⟩ := x; exact ⟨o, es, ep, k o ho, r⟩
theorem IsTup_at {h h' : Heap} {a : Addr} {its : Array Value} (x : IsTup h a its) (k : ∀ o, h.get? a = some o → h'.get? a = some o) : IsTup h' a its := by
  obtain ⟨o, ho, r⟩ := x; exact ⟨o, k o ho, r⟩
theorem get_some {h : Heap} {a : Addr} {o : Obj} (e : h.get? a = some o) : (h.get? a).isSome = true := e ▸ rfl
theorem some_keep {h h' : Heap} {a : Addr} (k : ∀ o, h.get? a = some o → h'.get? a = some o) (e : (h.get? a).isSome = true) : (h'.get? a).isSome = true := by
  obtain ⟨o, ho⟩ := Option.isSome_iff_exists.mp e; exact get_some (k o ho)
theorem some_none {h : Heap} {a : Addr} {P : Prop} (e : (h.get? a).isSome = true) (n : h.get? a = none) : P := by rw [n] at e; cases e
theorem none_of {h h' : Heap} {a : Addr} (k : ∀ o, h.get? a = some o → h'.get? a = some o) (n : h'.get? a = none) : h.get? a = none := by
  cases e : h.get? a with
  | none => rfl
  | some o => rw [k o e] at n; cases n
theorem none_dom {h h' : Heap} {a : Addr} (k : (h.get? a).isSome = true → (h'.get? a).isSome = true) (n : h'.get? a = none) : h.get? a = none := by
  cases e : h.get? a with
  | none => rfl
  | some o => exact some_none (k (get_some e)) n
theorem DictOf_some {c : Cx} {h : Heap} {a : Addr} {kvs : List (Str × Value)} (x : h.DictOf c.kd a kvs) : (h.get? a).isSome = true := by
  obtain ⟨o, es, ep, ho, r⟩ := x; exact get_some ho

section
variable {c : Cx} {F F' : Fz} {h h' : Heap}
theorem Rep.keep (k : Kept F F' h h') {v : Value} {x : PV} (r : Rep c F h v x) : Rep c F' h' v x :=
  Rep.rec (motive_1 := fun v x _ => Rep c F' h' v x) (motive_2 := fun v x _ => Reps c F' h' v x) (motive_3 := fun v x _ => RepE c F' h' v x) .none .bool .int .str (fun f p e _ r => .list (k.1 _ f) (p.at fun o => k.2 _ o f) e r) (fun f p e _ r => .tuple (k.1 _ f) (IsTup_at p fun o => k.2 _ o f) e r)
    (fun f s p _ r => .dict (k.1 _ f) s (DictOf_at p fun o => k.2 _ o f) r) (fun f g ci p d _ e r => .inst (k.1 _ f) (k.1 _ g) ci (k.2 _ _ f p) (d.at fun o => k.2 _ o g) r e) .bowl .nil (fun _ _ a r => .cons a r) .nil (fun _ _ a r => .cons a r) r
theorem Reps.keep (k : Kept F F' h h') {v : List Value} {x : List PV} (r : Reps c F h v x) : Reps c F' h' v x := r.ind .nil fun _ _ _ _ a _ ih => .cons (a.keep k) ih
theorem RepE.keep (k : Kept F F' h h') {v : List (Str × Value)} {x : List (Str × PV)} (r : RepE c F h v x) : RepE c F' h' v x := r.ind .nil fun _ _ _ _ _ a _ ih => .cons (a.keep k) ih

theorem Reps.length {v : List Value} {x : List PV} (r : Reps c F h v x) : v.length = x.length := r.ind (P := fun v x => v.length = x.length) rfl fun _ _ _ _ _ _ ih => congrArg (· + 1) ih
theorem Reps.size {its : Array Value} {x : List PV} (r : Reps c F h its.toList x) : its.size = x.length := r.length
theorem RepE.length {v : List (Str × Value)} {x : List (Str × PV)} (r : RepE c F h v x) : v.length = x.length := r.ind (P := fun v x => v.length = x.length) rfl fun _ _ _ _ _ _ _ ih => congrArg (· + 1) ih
theorem RepE.keys {v : List (Str × Value)} {x : List (Str × PV)} (r : RepE c F h v x) : v.map (·.1) = x.map (·.1) := r.ind (P := fun v x => v.map (·.1) = x.map (·.1)) rfl fun k _ _ _ _ _ _ ih => congrArg (k :: ·) ih
theorem Reps.at {v : List Value} {x : List PV} (r : Reps c F h v x) : ∀ {i : Nat} {y : PV}, x[i]? = some y → ∃ u, v[i]? = some u ∧ Rep c F h u y :=
  r.ind (P := fun v x => ∀ {i : Nat} {y : PV}, x[i]? = some y → ∃ u, v[i]? = some u ∧ Rep c F h u y) (fun e => nomatch e) fun v x vs xs a r ih {i y} e => by
    cases i with
    | zero => cases e; exact ⟨v, rfl, a⟩
    | succ i => exact ih e
theorem Reps.append {v : List Value} {x : List PV} {v' : List Value} {x' : List PV} (r : Reps c F h v x) (r' : Reps c F h v' x') : Reps c F h (v ++ v') (x ++ x') := r.ind (P := fun v x => Reps c F h (v ++ v') (x ++ x')) r' fun _ _ _ _ a _ ih => .cons a ih
theorem RepE.append {v : List (Str × Value)} {x : List (Str × PV)} {v' : List (Str × Value)} {x' : List (Str × PV)} (r : RepE c F h v x) (r' : RepE c F h v' x') : RepE c F h (v ++ v') (x ++ x') := r.ind (P := fun v x => RepE c F h (v ++ v') (x ++ x')) r' fun _ _ _ _ _ a _ ih => .cons a ih

/-- reading by name: as far, or not at all -/
def AtIs (c : Cx) (F : Fz) (h : Heap) : Option Value → Option PV → Prop
  | some u, some y => Rep c F h u y
  | none, none => True
  | _, _ => False
theorem RepE.at' (k : Str) {v : List (Str × Value)} {x : List (Str × PV)} (r : RepE c F h v x) : AtIs c F h (valueAt v k) (Mine.lk k x) := by
  refine r.ind (P := fun v x => AtIs c F h (valueAt v k) (Mine.lk k x)) trivial fun k' u y vs xs a r ih => ?_
  rw [valueAt_cons]
  show AtIs c F h _ (match seq k k' with | true => some y | false => Mine.lk k xs)
  by_cases hk : k' = k
  · rw [if_pos hk, hk, seq_refl]; exact a
  · rw [if_neg hk, seq_ne (fun e => hk e.symm)]; exact ih
theorem RepE.lk {k : Str} {v : List (Str × Value)} {x : List (Str × PV)} (r : RepE c F h v x) {y : PV} (e : Mine.lk k x = some y) : ∃ u, valueAt v k = some u ∧ Rep c F h u y := by
  have := r.at' k
  rw [e] at this
  cases hv : valueAt v k with
  | none => rw [hv] at this; exact this.elim
  | some u => rw [hv] at this; exact ⟨u, rfl, this⟩
theorem RepE.lk_none {k : Str} {v : List (Str × Value)} {x : List (Str × PV)} (r : RepE c F h v x) (e : Mine.lk k x = none) : valueAt v k = none := by
  have := r.at' k
  rw [e] at this
  cases hv : valueAt v k with
  | none => rfl
  | some u => rw [hv] at this; exact this.elim

theorem stored_cons {k k' : Str} {v u : Value} {r : List (Str × Value)} (hn : (((k', u) :: r).map (·.1)).Nodup) : stored ((k', u) :: r) k v = if k = k' then (k', v) :: r else (k', u) :: stored r k v := by
  unfold stored
  by_cases hk : k = k'
  · subst hk
    simp only [List.map_cons, List.nodup_cons] at hn
    simp only [List.any_cons, decide_true, Bool.true_or, if_true, List.map_cons, List.cons.injEq, true_and]
    exact map_store_of_not_mem r k v hn.1
  · have hk' : ¬ k' = k := fun e => hk e.symm
    simp only [List.any_cons, hk', decide_false, Bool.false_or, hk, if_false, List.map_cons]
    split <;> rfl
theorem RepE.put {k : Str} {u : Value} {y : PV} (hy : Rep c F h u y) {v : List (Str × Value)} {x : List (Str × PV)} (r : RepE c F h v x) : (v.map (·.1)).Nodup → RepE c F h (stored v k u) (Mine.put k y x) := by
  refine r.ind (P := fun v x => (v.map (·.1)).Nodup → RepE c F h (stored v k u) (Mine.put k y x)) (fun _ => .cons hy .nil) fun k' u' y' vs xs a r ih hn => ?_
  rw [stored_cons hn]
  show RepE c F h _ (match seq k k' with | true => (k', y) :: xs | false => (k', y') :: Mine.put k y xs)
  by_cases hk : k = k'
  · rw [if_pos hk, hk, seq_refl]; exact .cons hy r
  · rw [if_neg hk, seq_ne hk]; exact .cons a (ih (List.nodup_cons.mp hn).2)
end

/-! the bowl -/
def bowlPairs (b : Bowl) (t1 t2 t3 : Tok) : List (Str × Value) := [("left", .int b.left t1), ("here", .int b.here t2), ("names", .int b.names t3)]
/-- ahead of the bowl's making some object stands in its place -/
def BowlIs (c : Cx) (h : Heap) (b : Bowl) : Prop := (c.pre = true ∧ (h.get? c.B).isSome = true) ∨ ∃ t1 t2 t3, h.DictOf c.kd c.B (bowlPairs b t1 t2 t3)
theorem BowlIs.at {c : Cx} {h h' : Heap} {b : Bowl} (x : BowlIs c h b) (k : ∀ o, h.get? c.B = some o → h'.get? c.B = some o) : BowlIs c h' b := by
  rcases x with ⟨p, q⟩ | ⟨t1, t2, t3, d⟩
  · exact .inl ⟨p, some_keep k q⟩
  · exact .inr ⟨t1, t2, t3, DictOf_at d k⟩
theorem BowlIs.some {c : Cx} {h : Heap} {b : Bowl} (x : BowlIs c h b) : (h.get? c.B).isSome = true := by
  rcases x with ⟨p, q⟩ | ⟨t1, t2, t3, d⟩
  · exact q
  · exact DictOf_some d
theorem BowlIs.live {c : Cx} {h : Heap} {b : Bowl} (x : BowlIs c h b) (hp : c.pre = false) : ∃ t1 t2 t3, h.DictOf c.kd c.B (bowlPairs b t1 t2 t3) := x.elim (fun x => by rw [hp] at x; cases x.1) id

/-! a frame -/
def VarAt (env : Env) (h : Heap) (m : Str → Option Value) (x : Str) (v : Value) : Prop :=
  (env.kindOf x = some .local ∧ m x = some v) ∨ (env.kindOf x = some .cell ∧ ∃ cl, env.cells.lookup x = some cl ∧ h.IsCell cl (some v))
theorem VarAt.at {env : Env} {h h' : Heap} {m m' : Str → Option Value} {x : Str} {v : Value} (a : VarAt env h m x v) (hm : m x = some v → m' x = some v) (hk : ∀ cl o, env.cells.lookup x = some cl → h.get? cl = some o → h'.get? cl = some o) : VarAt env h' m' x v := by
  rcases a with ⟨p, q⟩ | ⟨p, cl, q, o, d, r⟩
  · exact .inl ⟨p, hm q⟩
  · exact .inr ⟨p, cl, q, o, hk _ _ q d, r⟩
def ObjIs (c : Cx) (F : Fz) (h : Heap) (a : Addr) : PV → Prop
  | .list xs => ∃ items : Array Value, h.PlainList a items ∧ Reps c F h items.toList xs
  | .dict es => (a == sysModules) = false ∧ ∃ kvs, h.DictOf c.kd a kvs ∧ RepE c F h kvs es
  | _ => False
theorem ObjIs.rec' {c : Cx} {F : Fz} {h : Heap} {a : Addr} {P : PV → Prop} (hl : ∀ xs items, h.PlainList a items → Reps c F h items.toList xs → P (.list xs)) (hd : ∀ es kvs, (a == sysModules) = false → h.DictOf c.kd a kvs → RepE c F h kvs es → P (.dict es)) {x : PV} (o : ObjIs c F h a x) : P x := by
  cases x with
  | list xs => obtain ⟨i, p, r⟩ := o; exact hl xs i p r
  | dict es => obtain ⟨s, kvs, p, r⟩ := o; exact hd es kvs s p r
  | _ => exact o.elim
theorem ObjIs.keep {c : Cx} {F F' : Fz} {h h' : Heap} {a : Addr} (k : Kept F F' h h') (ha : ∀ o, h.get? a = some o → h'.get? a = some o) {x : PV} (o : ObjIs c F h a x) : ObjIs c F' h' a x :=
  o.rec' (P := ObjIs c F' h' a) (fun _ i p r => ⟨i, p.at ha, r.keep k⟩) fun _ kvs s p r => ⟨s, kvs, DictOf_at p ha, r.keep k⟩
theorem ObjIs.rep {c : Cx} {F : Fz} {h : Heap} {a : Addr} (f : F a) {x : PV} (o : ObjIs c F h a x) : Rep c F h (.ref a) x :=
  o.rec' (P := Rep c F h (.ref a)) (fun _ i p r => .list' f p r) fun _ kvs s p r => .dict f s p r
theorem ObjIs.alive {c : Cx} {F : Fz} {h : Heap} {a : Addr} {x : PV} (o : ObjIs c F h a x) : (h.get? a).isSome = true :=
  o.rec' (P := fun _ => (h.get? a).isSome = true) (fun _ i p r => by obtain ⟨_, p⟩ := p; exact get_some p) fun _ kvs s p r => DictOf_some p

structure Inv (c : Cx) (env : Env) (F : Fz) (oa : Option Addr) (st : St) (h : Heap) (m : Str → Option Value) : Prop where
  base : ∀ b o, c.h0.get? b = some o → h.get? b = some o
  ns : h.Ns env.locals m
  bowl : BowlIs c h st.bowl
  kwF : F c.kw
  dom : ∀ a, F a → (h.get? a).isSome = true
  nB : ¬ F c.B
  nL : ¬ F env.locals
  LB : env.locals ≠ c.B
  L0 : c.h0.get? env.locals = none
  C0 : ∀ x cl, env.cells.lookup x = some cl → c.h0.get? cl = none
  cell : ∀ x cl, env.cells.lookup x = some cl → (∃ v, h.IsCell cl v) ∧ ¬ F cl ∧ cl ≠ env.locals ∧ cl ≠ c.B
  apart : ∀ x y cl, env.cells.lookup x = some cl → env.cells.lookup y = some cl → x = y
  own : ∀ a, oa = some a → ¬ F a ∧ a ≠ env.locals ∧ a ≠ c.B ∧ (∀ x cl, env.cells.lookup x = some cl → cl ≠ a) ∧ (h.get? a).isSome = true
  own0 : ∀ a, oa = some a → c.h0.get? a = none
  var : ∀ x pv, lk x st.vars = some pv → st.isOwn x = false → ∃ v, VarAt env h m x v ∧ Rep c F h v pv
  ovar : ∀ x pv, lk x st.vars = some pv → st.isOwn x = true → ∃ a, oa = some a ∧ VarAt env h m x (.ref a) ∧ ObjIs c F h a pv

/-- what stands outside every frame -/
structure Base (c : Cx) (F : Fz) (b : Bowl) (h : Heap) : Prop where
  base : ∀ b o, c.h0.get? b = some o → h.get? b = some o
  bowl : BowlIs c h b
  kwF : F c.kw
  dom : ∀ a, F a → (h.get? a).isSome = true
  nB : ¬ F c.B
theorem Inv.toBase {c : Cx} {env : Env} {F : Fz} {oa : Option Addr} {st : St} {h : Heap} {m : Str → Option Value} (I : Inv c env F oa st h m) : Base c F st.bowl h := ⟨I.base, I.bowl, I.kwF, I.dom, I.nB⟩
theorem Inv.nsS {c : Cx} {env : Env} {F : Fz} {oa : Option Addr} {st : St} {h : Heap} {m : Str → Option Value} (I : Inv c env F oa st h m) : (h.get? env.locals).isSome = true := by
  obtain ⟨o, _, _, ho, _⟩ := I.ns; exact get_some ho
theorem Inv.cellS {c : Cx} {env : Env} {F : Fz} {oa : Option Addr} {st : St} {h : Heap} {m : Str → Option Value} (I : Inv c env F oa st h m) {x : Str} {cl : Addr} (e : env.cells.lookup x = some cl) : (h.get? cl).isSome = true := by
  obtain ⟨⟨_, o, ho, _⟩, _⟩ := I.cell x cl e; exact get_some ho

/-- what an evaluation does to the heap; W: what it may write -/
structure Step (W : Addr → Prop) (F : Fz) (oa : Option Addr) (h : Heap) (F' : Fz) (oa' : Option Addr) (h' : Heap) : Prop where
  le : ∀ a, F a → F' a
  new : ∀ a, F' a → F a ∨ h.get? a = none ∨ oa = some a
  keep : ∀ b o, ¬ W b → oa ≠ some b → h.get? b = some o → h'.get? b = some o
  own : ∀ a, oa' = some a → oa = some a ∨ h.get? a = none
  dom : ∀ b, (h.get? b).isSome = true → (h'.get? b).isSome = true
theorem Step.refl (W : Addr → Prop) (F : Fz) (oa : Option Addr) (h : Heap) : Step W F oa h F oa h := ⟨fun _ x => x, fun _ x => .inl x, fun _ _ _ _ x => x, fun _ x => .inl x, fun _ x => x⟩
theorem Step.trans {W : Addr → Prop} {F F' F'' : Fz} {oa oa' oa'' : Option Addr} {h h' h'' : Heap} (a : Step W F oa h F' oa' h') (b : Step W F' oa' h' F'' oa'' h'') : Step W F oa h F'' oa'' h'' where
  le := fun x y => b.le x (a.le x y)
  new := fun x y => (b.new x y).elim (a.new x) fun y => y.elim (fun y => .inr (.inl (none_dom (a.dom x) y))) fun y => (a.own x y).elim (fun z => .inr (.inr z)) fun z => .inr (.inl z)
  keep := fun x o hw ho e => b.keep x o hw (fun z => (a.own x z).elim ho fun z => some_none (get_some e) z) (a.keep x o hw ho e)
  own := fun x y => (b.own x y).elim (a.own x) fun z => .inr (none_dom (a.dom x) z)
  dom := fun x y => b.dom x (a.dom x y)
theorem Step.mono {W W' : Addr → Prop} {F F' : Fz} {oa oa' : Option Addr} {h h' : Heap} (a : Step W F oa h F' oa' h') (hw : ∀ b, W b → W' b) : Step W' F oa h F' oa' h' :=
  ⟨a.le, a.new, fun b o n => a.keep b o (fun x => n (hw b x)), a.own, a.dom⟩

abbrev onlyB (c : Cx) : Addr → Prop := fun b => b = c.B
abbrev stW (c : Cx) (env : Env) : Addr → Prop := fun b => b = c.B ∨ b = env.locals ∨ ∃ x, env.cells.lookup x = some b

theorem Step.kept {c : Cx} {env : Env} {F F' : Fz} {oa oa' : Option Addr} {st : St} {h h' : Heap} {m : Str → Option Value} (I : Inv c env F oa st h m) (s : Step (stW c env) F oa h F' oa' h') : Kept F F' h h' :=
  ⟨s.le, fun a o f e => s.keep a o (fun w => w.elim (fun w => I.nB (w ▸ f)) fun w => w.elim (fun w => I.nL (w ▸ f)) fun ⟨x, hx⟩ => (I.cell x a hx).2.1 f) (fun w => (I.own a w).1 f) e⟩
theorem Step.st {c : Cx} {F F' : Fz} {oa oa' : Option Addr} {h h' : Heap} (env : Env) (s : Step (onlyB c) F oa h F' oa' h') : Step (stW c env) F oa h F' oa' h' := s.mono fun _ x => .inl x
theorem Step.keptB {c : Cx} {env : Env} {F F' : Fz} {oa oa' : Option Addr} {st : St} {h h' : Heap} {m : Str → Option Value} (I : Inv c env F oa st h m) (s : Step (onlyB c) F oa h F' oa' h') : Kept F F' h h' :=
  Step.kept I (s.st env)

theorem isOwn_iff {st : St} {x : Str} : st.isOwn x = true ↔ st.own = some x := by
  unfold St.isOwn
  cases h : st.own with
  | none => exact ⟨nofun, nofun⟩
  | some y => exact seq_iff.trans ⟨fun e => congrArg some e.symm, fun e => (Option.some.inj e).symm⟩
theorem seal_not {st : St} {x : Str} (h : st.isOwn x = false) : st.seal x = st := by unfold St.seal; rw [h]
theorem seal_own {st : St} {x : Str} (h : st.isOwn x = true) : st.seal x = { st with own := none } := by unfold St.seal; rw [h]

/-- the frozen part with an address more -/
def Fz.add (F : Fz) (oa : Option Addr) : Fz := fun a => F a ∨ oa = some a

/-- fresh addresses stand apart from the frame -/
structure Apart (c : Cx) (env : Env) (F : Fz) (oa : Option Addr) (wr : Fz) : Prop where
  F : ∀ a, wr a → ¬ F a
  L : ∀ a, wr a → env.locals ≠ a
  B : ∀ a, wr a → c.B ≠ a
  O : ∀ a, wr a → oa ≠ some a
  C : ∀ a, wr a → ∀ x cl, env.cells.lookup x = some cl → cl ≠ a
  Z : ∀ a, wr a → c.h0.get? a = none

section
variable {c : Cx} {env : Env} {F F' wr : Fz} {oa oa' : Option Addr} {st : St} {h h' : Heap} {m : Str → Option Value}
/-- an owned object is handed on: from now on it is frozen -/
theorem Inv.unown (I : Inv c env F oa st h m) : Inv c env (F.add oa) none { st with own := none } h m := by
  have k : Kept F (F.add oa) h h := ⟨fun _ x => .inl x, fun _ _ _ x => x⟩
  refine ⟨I.base, I.ns, I.bowl, .inl I.kwF, fun a x => x.elim (I.dom a) fun e => (I.own a e).2.2.2.2, fun f => f.elim I.nB fun e => (I.own _ e).2.2.1 rfl, fun f => f.elim I.nL fun e => (I.own _ e).2.1 rfl, I.LB, I.L0, I.C0, fun x cl e => ⟨(I.cell x cl e).1, fun f => f.elim (I.cell x cl e).2.1 fun e' => (I.own _ e').2.2.2.1 x cl e rfl, (I.cell x cl e).2.2⟩, I.apart, nofun, nofun, fun x pv e _ => ?_, fun x pv e h => nomatch h⟩
  cases ho : st.isOwn x with
  | false => obtain ⟨v, h1, h2⟩ := I.var x pv e ho; exact ⟨v, h1, h2.keep k⟩
  | true => obtain ⟨a, h1, h2, h3⟩ := I.ovar x pv e ho; exact ⟨_, h2, (h3.keep k fun _ x => x).rep (.inr h1)⟩
theorem Step.unown (W : Addr → Prop) (F : Fz) (oa : Option Addr) (h : Heap) : Step W F oa h (F.add oa) none h :=
  ⟨fun _ x => .inl x, fun _ x => x.elim .inl fun e => .inr (.inr e), fun _ _ _ _ x => x, nofun, fun _ x => x⟩

/-- what is no part of the frame may turn, and the bowl -/
theorem Inv.gen {b' : Bowl} (I : Inv c env F oa st h m) (ap : Apart c env F oa wr) (hle : ∀ a, F a → F' a) (hnew : ∀ a, F' a → F a ∨ h.get? a = none ∨ wr a) (hk : ∀ b o, b ≠ c.B → ¬ wr b → h.get? b = some o → h'.get? b = some o)
    (hb : BowlIs c h' b') (hbase : ∀ b o, c.h0.get? b = some o → h'.get? b = some o) (hdm : ∀ a, F' a → (h'.get? a).isSome = true) : Inv c env F' oa { st with bowl := b' } h' m := by
  have k : Kept F F' h h' := ⟨hle, fun a o f e => hk a o (fun z => I.nB (z ▸ f)) (fun w => ap.F a w f) e⟩
  have old : ∀ a, (h.get? a).isSome = true → ¬ wr a → ¬ F a → ¬ F' a := fun a hs hw hf hf' => (hnew a hf').elim hf fun x => x.elim (fun x => some_none hs x) hw
  have kc : ∀ x cl o, env.cells.lookup x = some cl → h.get? cl = some o → h'.get? cl = some o := fun x cl o e => hk cl o (I.cell x cl e).2.2.2 fun w => ap.C cl w x cl e rfl
  have ko : ∀ a o, oa = some a → h.get? a = some o → h'.get? a = some o := fun a o e => hk a o (I.own a e).2.2.1 fun w => ap.O a w e
  refine ⟨hbase, I.ns.at fun o => hk _ o I.LB (fun w => ap.L _ w rfl), hb, hle _ I.kwF, hdm, old _ I.bowl.some (fun w => ap.B _ w rfl) I.nB, old _ I.nsS (fun w => ap.L _ w rfl) I.nL, I.LB, I.L0, I.C0, fun x cl e => ?_, I.apart, fun a e => ?_, I.own0, fun x pv e ho => ?_, fun x pv e ho => ?_⟩
  · have hs := I.cellS e
    obtain ⟨⟨v, o, ho, hr⟩, h2, h3, h4⟩ := I.cell x cl e
    exact ⟨⟨v, o, kc x cl o e ho, hr⟩, old _ hs (fun w => ap.C cl w x cl e rfl) h2, h3, h4⟩
  · obtain ⟨h1, h2, h3, h4, h5⟩ := I.own a e
    exact ⟨old _ h5 (fun w => ap.O a w e) h1, h2, h3, h4, some_keep (fun o => ko a o e) h5⟩
  · obtain ⟨v, h1, h2⟩ := I.var x pv e ho
    exact ⟨v, h1.at id (kc x), h2.keep k⟩
  · obtain ⟨a, h1, h2, h3⟩ := I.ovar x pv e ho
    exact ⟨a, h1, h2.at id (kc x), h3.keep k fun o => ko a o h1⟩
/-- the bowl stays as it is -/
theorem Inv.turn (I : Inv c env F oa st h m) (ap : Apart c env F oa wr) (hle : ∀ a, F a → F' a) (hnew : ∀ a, F' a → F a ∨ h.get? a = none ∨ wr a) (hk : ∀ b o, ¬ wr b → h.get? b = some o → h'.get? b = some o) (hdm : ∀ a, F' a → F a ∨ (h'.get? a).isSome = true) : Inv c env F' oa st h' m :=
  I.gen ap hle hnew (fun b o _ => hk b o) (I.bowl.at fun o => hk _ o fun w => ap.B _ w rfl) (fun b o e => hk b o (fun w => by rw [ap.Z b w] at e; cases e) (I.base b o e)) fun a f => (hdm a f).elim (fun g => some_keep (fun o => hk a o fun w => ap.F a w g) (I.dom a g)) id
theorem Apart.no : Apart c env F oa (fun _ => False) := ⟨nofun, nofun, nofun, nofun, nofun, nofun⟩
/-- the heap grows -/
theorem Inv.keep (I : Inv c env F oa st h m) (hle : ∀ a, F a → F' a) (hnew : ∀ a, F' a → F a ∨ h.get? a = none) (hk : ∀ b o, h.get? b = some o → h'.get? b = some o) (hdm : ∀ a, F' a → F a ∨ (h'.get? a).isSome = true) : Inv c env F' oa st h' m :=
  I.turn Apart.no hle (fun a f => (hnew a f).imp id .inl) (fun b o _ => hk b o) hdm
theorem Inv.grown (I : Inv c env F oa st h m) (hk : ∀ b o, h.get? b = some o → h'.get? b = some o) : Inv c env F oa st h' m := I.keep (fun _ x => x) (fun _ x => .inl x) hk fun _ x => .inl x
/-- behind a call: what was the frame's is as before, but the bowl -/
theorem Inv.call {b' : Bowl} (I : Inv c env F oa st h m) (s : Step (onlyB c) F none h F' oa' h') (hb : BowlIs c h' b') (hbase : ∀ b o, c.h0.get? b = some o → h'.get? b = some o) (hdm : ∀ a, F' a → (h'.get? a).isSome = true) : Inv c env F' oa { st with bowl := b' } h' m :=
  I.gen Apart.no s.le (fun a f => (s.new a f).imp id fun x => x.elim .inl nofun) (fun b o hb _ e => s.keep b o hb nofun e) hb hbase hdm
theorem Step.call (oa : Option Addr) (s : Step (onlyB c) F none h F' oa' h') : Step (onlyB c) F oa h F' oa h' :=
  ⟨s.le, fun a x => (s.new a x).imp id fun y => y.elim .inl nofun, fun b o hb _ e => s.keep b o hb nofun e, fun _ x => .inl x, s.dom⟩
/-- new frozen objects -/
theorem Step.grow (W : Addr → Prop) (oa : Option Addr) (hle : ∀ a, F a → F' a) (hnew : ∀ a, F' a → F a ∨ h.get? a = none) (hk : ∀ b o, h.get? b = some o → h'.get? b = some o) : Step W F oa h F' oa h' :=
  ⟨hle, fun a x => (hnew a x).imp id .inl, fun b o _ _ e => hk b o e, fun _ x => .inl x, fun b => some_keep (hk b)⟩
theorem Step.grown (W : Addr → Prop) (F : Fz) (oa : Option Addr) (hk : ∀ b o, h.get? b = some o → h'.get? b = some o) : Step W F oa h F oa h' := .grow W oa (fun _ x => x) (fun _ x => .inl x) hk

theorem ne_new {h : Heap} {a b : Addr} (hb : (h.get? b).isSome = true) (ha : h.get? a = none) : b ≠ a := by
  rintro rfl; exact some_none hb ha
theorem Inv.old0 (I : Inv c env F oa st h m) {a : Addr} (ha : h.get? a = none) : c.h0.get? a = none := none_of (I.base a) ha
theorem Apart.new (I : Inv c env F oa st h m) (hn : ∀ a, wr a → h.get? a = none) : Apart c env F oa wr where
  F := fun a w f => some_none (I.dom a f) (hn a w)
  L := fun a w => ne_new I.nsS (hn a w)
  B := fun a w => ne_new I.bowl.some (hn a w)
  O := fun a w e => some_none (I.own a e).2.2.2.2 (hn a w)
  C := fun a w x cl e => ne_new (I.cellS e) (hn a w)
  Z := fun a w => I.old0 (hn a w)
/-- the frame's own steps leave them -/
theorem Apart.step {W : Addr → Prop} (a : Apart c env F oa wr) (hal : ∀ x, wr x → (h.get? x).isSome = true) (s : Step W F oa h F' oa' h') : Apart c env F' oa' wr where
  F := fun x w f => (s.new x f).elim (a.F x w) fun z => z.elim (fun z => some_none (hal x w) z) (a.O x w)
  L := a.L
  B := a.B
  O := fun x w e => (s.own x e).elim (a.O x w) fun z => some_none (hal x w) z
  C := a.C
  Z := a.Z
theorem Apart.sub {w2 : Fz} (a : Apart c env F oa wr) (hs : ∀ x, w2 x → wr x) : Apart c env F oa w2 :=
  ⟨fun x w => a.F x (hs x w), fun x w => a.L x (hs x w), fun x w => a.B x (hs x w), fun x w => a.O x (hs x w), fun x w => a.C x (hs x w), fun x w => a.Z x (hs x w)⟩
theorem Apart.offW {a : Addr} (ap : Apart c env F oa wr) (w : wr a) : ¬ stW c env a := fun z => z.elim (fun z => ap.B a w z.symm) fun z => z.elim (fun z => ap.L a w z.symm) fun ⟨x, z⟩ => ap.C a w x a z rfl

abbrev Fz.one (F : Fz) (a : Addr) : Fz := fun b => F b ∨ b = a
theorem get_none_of_le {h : Heap} {a : Addr} (hs : h.objs.size ≤ a) : h.get? a = none := by
  cases e : h.get? a with
  | none => rfl
  | some o => exact absurd (Heap.lt_size e) (Nat.not_lt.mpr hs)
theorem none_size {h : Heap} : h.get? h.objs.size = none := get_none_of_le (Nat.le_refl _)
theorem push_keep {h : Heap} (o : Obj) : ∀ b o', h.get? b = some o' → (h.push o).get? b = some o' := fun _ _ e => Heap.get?_push_of_some o e
end
end Mine

set_option maxRecDepth 100000
set_option linter.unusedVariables false
namespace Mine
open PySem PySem.W PySem.Calls PyProof.Rows PySem.SeqAt

structure AOK (A : Around) (n : Nat) : Prop where
  hd : A.handled = none
  dp : A.depth + n < recursionLimit
  un : A.units + 8 * n + 100 < cLine
theorem AOK.le {A : Around} {n m : Nat} (h : AOK A n) (hm : m ≤ n) : AOK A m := ⟨h.hd, Nat.lt_of_le_of_lt (Nat.add_le_add_left hm _) h.dp, Nat.lt_of_le_of_lt (Nat.add_le_add_right (Nat.add_le_add_left (Nat.mul_le_mul_left 8 hm) _) _) h.un⟩
theorem AOK.deeper {A : Around} {n : Nat} (h : AOK A (n + 1)) (env : Env) : AOK (A.deeper env) n := ⟨h.hd, by have := h.dp; show A.depth + 1 + n < _; omega, by have := h.un; show A.units + 3 + 8 * n + 100 < _; omega⟩

structure EnvOK (env : Env) (sc : Scope) : Prop where
  se : env.scope = sc
  kind : sc.kind = .function
  glob : env.globals = mainGlobals
  blt : env.builtins = builtinsNs
  cells : ∀ x, env.kindOf x = some .cell → ∃ cl, env.cells.lookup x = some cl
theorem EnvOK.fn {env : Env} {sc : Scope} (h : EnvOK env sc) : env.scope.kind = .function := h.se ▸ h.kind
theorem EnvOK.kindOf {env : Env} {sc : Scope} (h : EnvOK env sc) (x : Str) : env.kindOf x = sc.names.lookup x := by show env.scope.names.lookup x = _; rw [h.se]

section
variable (c : Cx) (A : Around)

/-- what is wanted behind an evaluation -/
def EvPost (env : Env) (F : Fz) (oa : Option Addr) (m : Str → Option Value) (s : Shared) (st' : St) (x : PV) (Q : Value → Shared → Prop) : Prop :=
  ∀ v h' tk F' oa', Step (onlyB c) F oa s.heap F' oa' h' → Inv c env F' oa' st' h' m → Rep c F' h' v x → Q v { s with heap := h', toks := tk }
def EvOK (sc : Scope) (st : St) (e : Expr) (x : PV) (st' : St) : Prop :=
  ∀ (env : Env) (s : Shared) (F : Fz) (oa : Option Addr) (m : Str → Option Value) (E : Value → Shared → Prop) (Q : Value → Shared → Prop), EnvOK env sc → Inv c env F oa st s.heap m → EvPost c env F oa m s st' x Q → wpAny c.M A (eval e env) Q E s
def TrPost (env : Env) (F : Fz) (oa : Option Addr) (m : Str → Option Value) (s : Shared) (st' : St) (b : Bool) (Q : Bool → Shared → Prop) : Prop :=
  ∀ h' tk F' oa', Step (onlyB c) F oa s.heap F' oa' h' → Inv c env F' oa' st' h' m → Q b { s with heap := h', toks := tk }
def TrOK (sc : Scope) (st : St) (e : Expr) (b : Bool) (st' : St) : Prop :=
  ∀ (env : Env) (s : Shared) (F : Fz) (oa : Option Addr) (m : Str → Option Value) (E : Value → Shared → Prop) (Q : Bool → Shared → Prop), EnvOK env sc → Inv c env F oa st s.heap m → TrPost c env F oa m s st' b Q → wpAny c.M A (PySem.isTrue e env (eval e env)) Q E s
/-- behind something builtin: the heap has grown -/
def GrowPost (F : Fz) (s : Shared) (x : PV) (Q : Value → Shared → Prop) : Prop :=
  ∀ v h' tk F', (∀ a, F a → F' a) → (∀ a, F' a → F a ∨ s.heap.get? a = none) → (∀ b o, s.heap.get? b = some o → h'.get? b = some o) → (∀ a, F' a → F a ∨ (h'.get? a).isSome = true) → Rep c F' h' v x → Q v { s with heap := h', toks := tk }
end

section
variable {c : Cx} {A : Around} {env : Env} {sc : Scope} {F : Fz} {oa : Option Addr} {st st' : St} {m : Str → Option Value} {E : Value → Shared → Prop}
theorem EvPost.here {s : Shared} {x : PV} {Q : Value → Shared → Prop} (P : EvPost c env F oa m s st x Q) (I : Inv c env F oa st s.heap m) {v : Value} (r : Rep c F s.heap v x) (tk : Nat) : Q v { s with toks := tk } :=
  P v s.heap tk F oa (.refl _ _ _ _) I r
theorem EvPost.then {s : Shared} {h' : Heap} {tk : Nat} {F' : Fz} {oa' : Option Addr} {x : PV} {Q : Value → Shared → Prop} (P : EvPost c env F oa m s st' x Q) (hs : Step (onlyB c) F oa s.heap F' oa' h') : EvPost c env F' oa' m { s with heap := h', toks := tk } st' x Q :=
  fun v h2 tk2 F2 oa2 hs2 I2 r2 => P v h2 tk2 F2 oa2 (hs.trans hs2) I2 r2
theorem TrPost.then {s : Shared} {h' : Heap} {tk : Nat} {F' : Fz} {oa' : Option Addr} {x : Bool} {Q : Bool → Shared → Prop} (P : TrPost c env F oa m s st' x Q) (hs : Step (onlyB c) F oa s.heap F' oa' h') : TrPost c env F' oa' m { s with heap := h', toks := tk } st' x Q :=
  fun h2 tk2 F2 oa2 hs2 I2 => P h2 tk2 F2 oa2 (hs.trans hs2) I2
theorem GrowPost.same {s : Shared} {x : PV} {Q : Value → Shared → Prop} (P : GrowPost c F s x Q) {v : Value} (rv : Rep c F s.heap v x) (tk : Nat) : Q v { s with toks := tk } :=
  P v s.heap tk F (fun _ x => x) (fun _ x => .inl x) (fun _ _ x => x) (fun _ x => .inl x) rv
theorem GrowPost.keep {s : Shared} {x : PV} {Q : Value → Shared → Prop} (P : GrowPost c F s x Q) {v : Value} {h' : Heap} (hk : ∀ b o, s.heap.get? b = some o → h'.get? b = some o) (rv : Rep c F h' v x) (tk : Nat) : Q v { s with heap := h', toks := tk } :=
  P v h' tk F (fun _ x => x) (fun _ x => .inl x) hk (fun _ x => .inl x) rv
/-- one new object -/
theorem GrowPost.add {s : Shared} {x : PV} {Q : Value → Shared → Prop} (P : GrowPost c F s x Q) {v : Value} {h' : Heap} {a : Addr} (hk : ∀ b o, s.heap.get? b = some o → h'.get? b = some o) (hn : s.heap.get? a = none) (hs : (h'.get? a).isSome = true) (rv : Rep c (F.one a) h' v x) (tk : Nat) : Q v { s with heap := h', toks := tk } :=
  P v h' tk (F.one a) (fun _ x => .inl x) (fun b x => x.imp id fun (e : b = a) => e ▸ hn) hk (fun b x => x.imp id fun (e : b = a) => e ▸ hs) rv
/-- a fresh list of what stands -/
theorem GrowPost.list {s : Shared} {xs : List PV} {Q : Value → Shared → Prop} (P : GrowPost c F s (.list xs) Q) {its : Array Value} (r : Reps c F s.heap its.toList xs) (tk : Nat) : Q (.ref s.heap.objs.size) { s with heap := s.heap.push { cls := .type "list", data := .seq its }, toks := tk } := by
  have hg : (s.heap.push { cls := .type "list", data := .seq its }).get? s.heap.objs.size = some { cls := .type "list", data := .seq its } := Heap.get?_push_size _ rfl
  exact P.add (push_keep _) none_size (get_some hg) (.list' (.inr rfl) ⟨0, hg⟩ (r.keep (.all (fun _ => .inl) (push_keep _)))) tk
theorem GrowPost.tuple {s : Shared} {xs : List PV} {Q : Value → Shared → Prop} (P : GrowPost c F s (.tuple xs) Q) {its : Array Value} (r : Reps c F s.heap its.toList xs) (tk : Nat) : Q (.ref s.heap.objs.size) { s with heap := s.heap.push { cls := .type "tuple", data := .seq its }, toks := tk } := by
  have hg : (s.heap.push { cls := .type "tuple", data := .seq its }).get? s.heap.objs.size = some { cls := .type "tuple", data := .seq its } := Heap.get?_push_size _ rfl
  exact P.add (push_keep _) none_size (get_some hg) (.tuple' (.inr rfl) ⟨_, hg, rfl, 0, rfl⟩ (r.keep (.all (fun _ => .inl) (push_keep _)))) tk
theorem EvPost.grow {s : Shared} {x : PV} {Q : Value → Shared → Prop} (P : EvPost c env F oa m s st x Q) (I : Inv c env F oa st s.heap m) : GrowPost c F s x Q :=
  fun v h' tk F' hle hnew hk hd rv => P v h' tk F' oa (.grow _ _ hle hnew hk) (I.keep hle hnew hk hd) rv

theorem sizeOk_le {n : Nat} (h : sizeOk n = true) : n ≤ sizeLine := Nat.le_trans (Nat.le_of_ble_eq_true h) (by decide)
theorem guard_some {α : Type} {b : Bool} {x z : α} (h : guard b x = some z) : b = true ∧ z = x := by
  cases b with
  | true => exact ⟨rfl, (Option.some.inj h).symm⟩
  | false => cases h
/-! binary operations -/
theorem intBits_small {b : Int} (h1 : -big < b) (h2 : b < big) : Builtin.Int.intBits b ≤ 64 := by
  unfold big at h1 h2
  exact intBits_le_64 (by (clear h2; omega)) (by (clear h1; omega))
theorem mult_list {s : Shared} {Q : Value → Shared → Prop} {a b : Value} {cb : Bool} {j : Int} (hb : 0 ≤ j ∧ j < 100) (ra : Rep c F s.heap a (.list [.bool cb])) (rb : Rep c F s.heap b (.int j)) (P : GrowPost c F s (.list (List.replicate j.toNat (.bool cb))) Q) : wpAny c.M A (binaryOp .Mult a b) Q E s := by
  obtain ⟨ad, its, rfl, f1, ⟨n1, o1⟩, r1⟩ := ra.inv
  obtain ⟨tk, rfl⟩ := rb.inv
  obtain ⟨v0, us, hit, rv, r2⟩ := r1.inv
  obtain rfl := r2.inv
  obtain rfl := rv.inv
  obtain rfl : its = #[.bool cb] := Array.toList_inj.mp hit
  refine wpAny_binaryOp_repeat_ref (T := "list") (U := "int") (by decide) ⟨_, o1, rfl⟩ (fun s' => typeIs_int s' _ _) noFill_list_mul PySem.F.fills_int_mul PySem.F.slot_int_rmul repeat_list PySem.F.slot_int_index.lookup
    (call_meets PySem.F.slot_int_rmul (typeIs_int s _ _) PySem.F.entry_int_rmul (PySem.F.args_int_rmul_2 _ _) (int___rmul___int_list _ _ _ _ n1)
      ⟨o1, rfl, ⟨_, o1, rfl⟩, call_meets PySem.F.slot_list_mul ⟨_, o1, rfl⟩ PySem.F.entry_list_mul (PySem.F.args_list_mul_2 _ _)
        (AutoListH.list___mul___list_int_3 _ _ n1 _ _ (by simp [Builtin.List.listFitsIndex]; omega) (by simp; omega) (by simp [Builtin.List.listTooLong, sizeLine]; omega)) ⟨o1, ?_⟩⟩)
  have rr : ∀ n : Nat, Reps c F s.heap (List.replicate n (Value.bool cb)) (List.replicate n (PV.bool cb)) := by
    intro n
    induction n with
    | zero => exact .nil
    | succ n ih => exact .cons (.bool _) ih
  have fe : ∀ (n : Nat) (acc : Array Value), List.foldl (fun x1 x2 => x1 ++ x2) acc (List.replicate n #[Value.bool cb]) = acc ++ (List.replicate n (Value.bool cb)).toArray := by
    intro n
    induction n with
    | zero => intro acc; simp
    | succ n ih => intro acc; rw [List.replicate_succ, List.foldl_cons, ih]; apply Array.toList_inj.mp; simp [List.replicate_succ]
  show Q _ { s with heap := s.heap.push { cls := .type "list", data := .seq (List.foldl (fun x1 x2 => x1 ++ x2) (#[] : Array Value) (List.replicate j.toNat #[Value.bool cb])) } }
  rw [fe]
  exact P.list (by rw [Array.toList_append, List.toList_toArray]; exact rr _) s.toks
theorem add_list {s : Shared} {Q : Value → Shared → Prop} {a b : Value} {xs ys : List PV} (hz : sizeOk (xs.length + ys.length) = true) (ra : Rep c F s.heap a (.list xs)) (rb : Rep c F s.heap b (.list ys)) (P : GrowPost c F s (.list (xs ++ ys)) Q) : wpAny c.M A (binaryOp .Add a b) Q E s := by
  obtain ⟨ad, its, rfl, f1, ⟨n1, o1⟩, r1⟩ := ra.inv
  obtain ⟨bd, ity, rfl, f2, ⟨n2, o2⟩, r2⟩ := rb.inv
  have hz := sizeOk_le hz
  rw [← r1.size, ← r2.size] at hz
  refine concat_meets ⟨_, o1, rfl⟩ ⟨_, o2, rfl⟩ noFill_list_add seq_list_add PySem.F.slot_list_add PySem.F.entry_list_add (PySem.F.args_list_add_2 _ _) (list_addW _ _ _ _ n1 n2 _ _ _ _ hz) ⟨o1, o2, ?_⟩
  exact P.list (its := its ++ ity) (by rw [Array.toList_append]; exact r1.append r2) s.toks
theorem add_num {s : Shared} {Q : Value → Shared → Prop} {a b : Value} {x y z : PV} (e : ints2 (fun a b => some (PV.int (a + b))) x y = some z) (ra : Rep c F s.heap a x) (rb : Rep c F s.heap b y) (P : GrowPost c F s z Q) : wpAny c.M A (binaryOp .Add a b) Q E s := by
  obtain ⟨i, j, rfl, rfl, h⟩ := ints2_inv e
  obtain ⟨t, rfl⟩ := ra.inv; obtain ⟨u, rfl⟩ := rb.inv; cases h; exact add_int (P.same (.int _ _) _)
theorem mul_num {s : Shared} {Q : Value → Shared → Prop} {a b : Value} {x y z : PV} (e : ints2 (fun a b => guard (decide (-big < a ∧ a < big ∧ -big < b ∧ b < big)) (PV.int (a * b))) x y = some z) (ra : Rep c F s.heap a x) (rb : Rep c F s.heap b y) (P : GrowPost c F s z Q) : wpAny c.M A (binaryOp .Mult a b) Q E s := by
  obtain ⟨i, j, rfl, rfl, h⟩ := ints2_inv e
  obtain ⟨t, rfl⟩ := ra.inv; obtain ⟨u, rfl⟩ := rb.inv; obtain ⟨hb, rfl⟩ := guard_some h
  have hb := of_decide_eq_true hb
  exact mul_int (P.same (.int _ _) _) (IntMulOk.of_left (intBits_small hb.1 hb.2.1))
theorem binop_sound {op : Operator} {x y z : PV} (e : binop op x y = some z) {s : Shared} {Q : Value → Shared → Prop} {a b : Value} (ra : Rep c F s.heap a x) (rb : Rep c F s.heap b y) (P : GrowPost c F s z Q) : wpAny c.M A (binaryOp op a b) Q E s := by
  cases op with
  | Add =>
    cases x with
    | str i => obtain ⟨j, hj, h⟩ := bind_some e; obtain rfl := asStr_inv hj; obtain ⟨t, rfl⟩ := ra.inv; obtain ⟨u, rfl⟩ := rb.inv; obtain ⟨hz, rfl⟩ := guard_some h; exact add_str (fun t' tk => P.same (.str _ _) _) (sizeOk_le hz)
    | list xs => obtain ⟨j, hj, h⟩ := bind_some e; obtain rfl := asList_inv hj; obtain ⟨hz, rfl⟩ := guard_some h; exact add_list hz ra rb P
    | int i => exact add_num (x := .int i) (y := y) e ra rb P
    | _ => exact none_some e
  | Sub =>
    obtain ⟨i, j, rfl, rfl, h⟩ := ints2_inv e
    obtain ⟨t, rfl⟩ := ra.inv; obtain ⟨u, rfl⟩ := rb.inv; cases h; exact sub_int (P.same (.int _ _) _)
  | Mult =>
    cases x with
    | list l =>
      obtain ⟨k, hk, h⟩ := bind_some e; obtain rfl := one_inv hk
      obtain ⟨k, hk, h⟩ := bind_some h; obtain rfl := asBool_inv hk
      cases y with
      | int j => obtain ⟨hb, rfl⟩ := guard_some h; exact mult_list (of_decide_eq_true hb) ra rb P
      | _ => exact none_some h
    | int i => exact mul_num (x := .int i) (y := y) e ra rb P
    | _ => exact none_some e
  | Mod =>
    obtain ⟨i, j, rfl, rfl, h⟩ := ints2_inv e
    obtain ⟨t, rfl⟩ := ra.inv; obtain ⟨u, rfl⟩ := rb.inv; obtain ⟨hb, rfl⟩ := guard_some h
    have hb := of_decide_eq_true hb
    exact mod_int' (Int.ne_of_gt hb.1) (by rw [Int.fmod_eq_emod_of_nonneg _ (Int.le_of_lt hb.1)]; exact P.same (.int _ _) _)
  | FloorDiv =>
    obtain ⟨i, j, rfl, rfl, h⟩ := ints2_inv e
    obtain ⟨t, rfl⟩ := ra.inv; obtain ⟨u, rfl⟩ := rb.inv; obtain ⟨hb, rfl⟩ := guard_some h
    have hb := of_decide_eq_true hb
    exact floordiv_int (Int.ne_of_gt hb.1) (by rw [Int.fdiv_eq_ediv_of_nonneg _ (Int.le_of_lt hb.1)]; exact P.same (.int _ _) _) (.inl (PyProof.noPylong_small (by omega)))
  | Pow =>
    obtain ⟨i, j, rfl, rfl, h⟩ := ints2_inv e
    obtain ⟨t, rfl⟩ := ra.inv; obtain ⟨u, rfl⟩ := rb.inv; obtain ⟨hb, rfl⟩ := guard_some h
    obtain ⟨rfl, rfl⟩ := of_decide_eq_true hb
    exact PySem.AutoIntOps.pow_4 (by decide) (by decide) (by decide) (by decide) (by decide +kernel) (P.same (.int _ _) _)
  | _ => exact none_some e
end
end Mine

set_option maxRecDepth 100000
set_option linter.unusedVariables false
namespace Mine
open PySem PySem.W PySem.Calls PyProof.Rows PySem.SeqAt

section
variable {c : Cx} {A : Around} {F : Fz} {E : Value → Shared → Prop}

theorem peqL_at {f : PV → PV → Option Bool} : ∀ {x y : List PV}, peqL f x y = true → x.length = y.length ∧ ∀ (j : Nat) (a b : PV), x[j]? = some a → y[j]? = some b → f a b = some true := by
  intro x
  induction x with
  | nil => intro y h; cases y with
    | nil => exact ⟨rfl, nofun⟩
    | cons _ _ => cases h
  | cons a x ih => intro y h; cases y with
    | nil => cases h
    | cons b y =>
      have h' : (match f a b with | some c => (match c with | true => peqL f x y | false => false) | none => false) = true := h
      cases hf : f a b with
      | none => rw [hf] at h'; cases h'
      | some q =>
        rw [hf] at h'
        cases q with
        | false => cases h'
        | true =>
          obtain ⟨l, k⟩ := ih h'
          refine ⟨congrArg (· + 1) l, fun j a' b' e1 e2 => ?_⟩
          cases j with
          | zero => cases e1; cases e2; exact hf
          | succ j => exact k j a' b' e1 e2

theorem all_true (n : Nat) : (List.range n).all (fun _ => true) = true := List.all_eq_true.mpr fun _ _ => rfl
/-- what the model's comparisons answer -/
structure Told (A : Around) (s : Shared) (v u : Value) (b : Bool) : Prop where
  eq : EqAt A s v u b
  rc : RcAt A s v u b
  ne : RcNeAt A s v u (!b)
def EqTells (c : Cx) (F : Fz) (k : Nat) : Prop :=
  ∀ (x y : PV) (b : Bool) (A : Around) (s : Shared) (v u : Value), peqD k x y = some b → Rep c F s.heap v x → Rep c F s.heap u y → A.units + k + 1 < cLine → Told A s v u b
theorem elems {k : Nat} (IH : EqTells c F k) {xs ys : List PV} {A : Around} {s : Shared} {its1 its2 : Array Value} (h : peqL (peqD k) xs ys = true) (r1 : Reps c F s.heap its1.toList xs) (r2 : Reps c F s.heap its2.toList ys) (hu : A.units + k + 1 < cLine) :
    its1.size = its2.size ∧ ∀ (j : Nat) (j1 : j < its1.size) (j2 : j < its2.size), EqAt A s its1[j] its2[j] true := by
  obtain ⟨hl, hj⟩ := peqL_at h
  refine ⟨r1.size.trans (hl.trans r2.size.symm), fun j j1 j2 => ?_⟩
  have h1 := List.getElem?_eq_getElem (l := xs) (i := j) (r1.size ▸ j1)
  have h2 := List.getElem?_eq_getElem (l := ys) (i := j) (r2.size ▸ j2)
  obtain ⟨v, hv, rv⟩ := r1.at h1
  obtain ⟨u, hu', ru⟩ := r2.at h2
  rw [Array.getElem?_toList, Array.getElem?_eq_getElem j1] at hv
  rw [Array.getElem?_toList, Array.getElem?_eq_getElem j2] at hu'
  cases hv; cases hu'
  exact (IH _ _ _ _ _ _ _ (hj j _ _ h1 h2) rv ru hu).eq
theorem told_refs {a1 a2 : Addr} {A : Around} {s : Shared} (r : RcAt A s (.ref a1) (.ref a2) true) (n : RcNeAt A s (.ref a1) (.ref a2) false) : Told A s (.ref a1) (.ref a2) true := by
  refine ⟨?_, r, n⟩
  by_cases hl : a1 = a2
  · subst hl; exact EqAt.same _
  · exact EqAt.of_refs hl r
theorem two_of_three {a b d : Nat} (h : a + (b + 1) + 1 < d) : a + 1 + b + 1 < d ∧ a < d := ⟨by omega, by omega⟩
theorem told_lists {k : Nat} (IH : EqTells c F k) {xs ys : List PV} {A : Around} {s : Shared} {v u : Value} (h : peqL (peqD k) xs ys = true) (rv : Rep c F s.heap v (.list xs)) (ru : Rep c F s.heap u (.list ys)) (hu : A.units + (k + 1) + 1 < cLine) : Told A s v u true := by
  obtain ⟨a1, its1, rfl, f1, p1, r1⟩ := rv.inv
  obtain ⟨a2, its2, rfl, f2, p2, r2⟩ := ru.inv
  obtain ⟨h1, h2⟩ := two_of_three hu
  obtain ⟨hs, he⟩ := elems (A := A.in1) IH h r1 r2 h1
  have r := RcAt.lists (e := fun _ => true) p1.isList p2.isList hs h2 he
  have n := RcNeAt.lists (e := fun _ => true) p1.isList p2.isList hs h2 he
  rw [all_true] at r n
  exact told_refs r n
theorem told_lengths {xs ys : List PV} {A : Around} {s : Shared} {v u : Value} (h : (!Nat.beq xs.length ys.length) = true) (rv : Rep c F s.heap v (.list xs)) (ru : Rep c F s.heap u (.list ys)) (hu : A.units < cLine) : Told A s v u false := by
  obtain ⟨a1, its1, rfl, f1, p1, r1⟩ := rv.inv
  obtain ⟨a2, its2, rfl, f2, p2, r2⟩ := ru.inv
  have hne : its1.size ≠ its2.size := fun e => by
    rw [r1.size, r2.size] at e
    rw [e, Nat.beq_refl] at h; cases h
  have hs : (its1.size != its2.size) = true := bne_iff_ne.mpr hne
  have r := RcAt.lists_lengths p1.isList p2.isList hs hu
  have hl : a1 ≠ a2 := fun e => by
    subst e
    obtain ⟨n1, q1⟩ := p1
    obtain ⟨n2, q2⟩ := p2
    rw [q1] at q2; cases q2; exact hne rfl
  exact ⟨EqAt.of_refs hl r, r, RcNeAt.lists_lengths p1.isList p2.isList hs hu⟩
theorem when_guard {b q d : Bool} (h : (match b with | true => some true | false => guard q false) = some d) : (b = true ∧ d = true) ∨ (q = true ∧ d = false) := by
  cases b with
  | true => exact .inl ⟨rfl, (Option.some.inj h).symm⟩
  | false => exact .inr (guard_some h)
theorem told_tuples {k : Nat} (IH : EqTells c F k) {xs ys : List PV} {A : Around} {s : Shared} {v u : Value} (h : peqL (peqD k) xs ys = true) (rv : Rep c F s.heap v (.tuple xs)) (ru : Rep c F s.heap u (.tuple ys)) (hu : A.units + (k + 1) + 1 < cLine) : Told A s v u true := by
  obtain ⟨a1, its1, rfl, f1, p1, r1⟩ := rv.inv
  obtain ⟨a2, its2, rfl, f2, p2, r2⟩ := ru.inv
  obtain ⟨h1, h2⟩ := two_of_three hu
  obtain ⟨hs, he⟩ := elems (A := A.in1) IH h r1 r2 h1
  have r := RcAt.tuples (e := fun _ => true) p1 p2 h2 he
  have n := RcNeAt.tuples (e := fun _ => true) p1 p2 h2 he
  rw [all_true, hs, beq_self_eq_true] at r
  rw [all_true, hs, beq_self_eq_true] at n
  exact told_refs r n
theorem when_some {b d : Bool} (h : (match b with | true => some true | false => none) = some d) : b = true ∧ d = true := by
  cases b with
  | true => exact ⟨rfl, (Option.some.inj h).symm⟩
  | false => exact none_some h
theorem eqTells (k : Nat) : EqTells c F k := by
  induction k with
  | zero =>
    intro x y b A s v u h rv ru hu
    cases x with
    | bool p =>
      cases y with
      | bool q => obtain rfl := rv.inv; obtain rfl := ru.inv; cases h; exact ⟨EqAt.bool_bool _ _, RcAt.bool_bool _ _, RcNeAt.bool_bool _ _⟩
      | _ => exact none_some h
    | int p =>
      cases y with
      | int q => obtain ⟨t, rfl⟩ := rv.inv; obtain ⟨w, rfl⟩ := ru.inv; cases h; exact ⟨EqAt.int_int _ _ _ _, RcAt.int_int _ _ _ _, RcNeAt.int_int _ _ _ _⟩
      | _ => exact none_some h
    | str p =>
      cases y with
      | str q => obtain ⟨t, rfl⟩ := rv.inv; obtain ⟨w, rfl⟩ := ru.inv; cases h; rw [seq_eq]; exact ⟨EqAt.str_str _ _ _ _, RcAt.str_str _ _ _ _, RcNeAt.str_str _ _ _ _⟩
      | _ => exact none_some h
    | _ => exact none_some h
  | succ k IH =>
    intro x y b A s v u h rv ru hu
    have rest : peqD k x y = some b → Told A s v u b := fun h => IH _ _ _ _ _ _ _ h rv ru (Nat.lt_of_succ_lt hu)
    cases x with
    | list xs =>
      cases y with
      | list ys =>
        rcases when_guard h with ⟨h1, rfl⟩ | ⟨h1, rfl⟩
        · exact told_lists IH h1 rv ru hu
        · exact told_lengths h1 rv ru (two_of_three hu).2
      | _ => exact none_some h
    | tuple xs =>
      cases y with
      | tuple ys => obtain ⟨h1, rfl⟩ := when_some h; exact told_tuples IH h1 rv ru hu
      | _ => exact none_some h
    | _ => exact rest h

/-- a list of texts -/
theorem strs_rep {h : Heap} : ∀ {xs : List PV} {ss : List Str} {vs : List Value}, strsOf xs = some ss → Reps c F h vs xs → ∃ ts : List Tok, vs = (ss.zip ts).map (fun p => Value.str p.1 p.2) ∧ ts.length = ss.length := by
  intro xs
  induction xs with
  | nil => intro ss vs e r; obtain rfl := r.inv; cases e; exact ⟨[], rfl, rfl⟩
  | cons x xs ih =>
    intro ss vs e r
    obtain ⟨v, us, rfl, r1, r2⟩ := r.inv
    obtain ⟨q, hq, e⟩ := bind_some e
    obtain rfl := asStr_inv hq
    obtain ⟨ss', h1, rfl⟩ := map_some e
    obtain ⟨t, rfl⟩ := r1.inv
    obtain ⟨ts, rfl, h4⟩ := ih h1 r2
    exact ⟨t :: ts, rfl, congrArg (· + 1) h4⟩
def isS (x : Str) : Value → Bool
  | .str y _ => y == x
  | _ => false
theorem any_isS (x : Str) : ∀ {ss : List Str} {ts : List Tok}, ts.length = ss.length → (((ss.zip ts).map fun p => Value.str p.1 p.2).any (isS x)) = memS x ss := by
  intro ss
  induction ss with
  | nil => intro ts _; rfl
  | cons s ss ih =>
    intro ts h
    cases ts with
    | nil => cases h
    | cons t ts =>
      show (s == x || ((ss.zip ts).map fun p => Value.str p.1 p.2).any (isS x)) = (match seq x s with | true => true | false => memS x ss)
      rw [ih (Nat.succ.inj h), seq_eq, show (s == x) = (x == s) from by rw [Bool.eq_iff_iff, beq_iff_eq, beq_iff_eq]; exact eq_comm]
      cases x == s <;> rfl
theorem eqAt_isS {A : Around} {s : Shared} {x : Str} {t : Tok} {vs : List Value} {ss : List Str} {ts : List Tok} (e : vs = (ss.zip ts).map fun p => Value.str p.1 p.2) : ∀ y ∈ vs, EqAt A s y (.str x t) (isS x y) := by
  intro y hy
  rw [e] at hy
  obtain ⟨p, _, rfl⟩ := List.mem_map.mp hy
  exact EqAt.str_str _ _ _ _
def isBl (x : Bool) : Value → Bool
  | .bool y => y == x
  | _ => false
theorem bools_rep {h : Heap} {q : Bool} : ∀ {xs : List PV} {b : Bool} {vs : List Value}, boolIn q xs = some b → Reps c F h vs xs → vs.any (isBl q) = b ∧ ∀ y ∈ vs, ∃ d, y = .bool d := by
  intro xs
  induction xs with
  | nil => intro b vs e r; obtain rfl := r.inv; cases e; exact ⟨rfl, fun _ h => absurd h List.not_mem_nil⟩
  | cons x xs ih =>
    intro b vs e r
    obtain ⟨v, us, rfl, r1, r2⟩ := r.inv
    obtain ⟨d, hd, e⟩ := bind_some e
    obtain rfl := asBool_inv hd
    obtain ⟨z, hz, rfl⟩ := map_some e
    obtain rfl := r1.inv
    obtain ⟨h1, h2⟩ := ih hz r2
    refine ⟨by rw [List.any_cons, h1]; rfl, fun y hy => (List.mem_cons.mp hy).elim (fun e => ⟨_, e⟩) (h2 y)⟩

theorem is_none {x : PV} {v : Value} {s : Shared} (r : Rep c F s.heap v x) : plainIs v .none = true ∧ (v == Value.none) = isNone x := by
  cases r <;> exact ⟨rfl, rfl⟩
theorem isNone_inv {x : PV} (h : isNone x = true) : x = .none := by
  cases x <;> first | rfl | cases h

theorem RepE.has {h : Heap} {k : Str} {kvs : List (Str × Value)} {es : List (Str × PV)} (r : RepE c F h kvs es) : (valueAt kvs k).isSome = hasK k es := by
  unfold hasK
  cases hl : Mine.lk k es with
  | none => rw [r.lk_none hl]; rfl
  | some z => obtain ⟨u, h1, _⟩ := r.lk hl; rw [h1]; rfl
/-- 'in' and 'not in' -/
def InTells (c : Cx) (A : Around) (E : Value → Shared → Prop) (v u : Value) (s : Shared) (b : Bool) : Prop :=
  ∀ Q : Value → Shared → Prop, ((∀ tk, Q (.bool b) { s with toks := tk }) → wpAny c.M A (compareOp .In v u) Q E s) ∧ ((∀ tk, Q (.bool (!b)) { s with toks := tk }) → wpAny c.M A (compareOp .NotIn v u) Q E s)
theorem in_strs {s : Shared} {k : Str} {t : Tok} {u : Value} {its : Array Value} {xs : List PV} {ss : List Str} (e : strsOf xs = some ss) (r : Reps c F s.heap its.toList xs) : (∀ A : Around, ∀ y ∈ its, EqAt A s y (.str k t) (isS k y)) ∧ its.any (isS k) = memS k ss := by
  obtain ⟨ts, h3, h4⟩ := strs_rep e r
  exact ⟨fun A y hy => eqAt_isS h3 y (Array.mem_toList_iff.mpr hy), by rw [← Array.any_toList, h3, any_isS k h4]⟩
theorem in_str_list {s : Shared} {k : Str} {t : Tok} {u : Value} {xs : List PV} {ss : List Str} (e : strsOf xs = some ss) (ru : Rep c F s.heap u (.list xs)) : InTells c A E (.str k t) u s (memS k ss) := by
  obtain ⟨a, its, rfl, f, p, r⟩ := ru.inv
  obtain ⟨h1, h2⟩ := in_strs (t := t) (u := .none) (k := k) e r
  exact fun Q => ⟨fun h => in_listAt (isS k) p.isList (h1 _) (h2 ▸ h s.toks), fun h => notIn_listAt (isS k) p.isList (h1 _) (h2 ▸ h s.toks)⟩
theorem in_str_tuple {s : Shared} {k : Str} {t : Tok} {u : Value} {xs : List PV} {ss : List Str} (e : strsOf xs = some ss) (ru : Rep c F s.heap u (.tuple xs)) : InTells c A E (.str k t) u s (memS k ss) := by
  obtain ⟨a, its, rfl, f, p, r⟩ := ru.inv
  obtain ⟨h1, h2⟩ := in_strs (t := t) (u := .none) (k := k) e r
  exact fun Q => ⟨fun h => in_tupleAt (isS k) p (h1 _) (h2 ▸ h s.toks), fun h => notIn_tupleAt (isS k) p (h1 _) (h2 ▸ h s.toks)⟩
theorem in_bool_list {s : Shared} {k b : Bool} {u : Value} {xs : List PV} (e : boolIn k xs = some b) (ru : Rep c F s.heap u (.list xs)) : InTells c A E (.bool k) u s b := by
  obtain ⟨a, its, rfl, f, p, r⟩ := ru.inv
  obtain ⟨h1, h2⟩ := bools_rep e r
  have he : ∀ y ∈ its, EqAt A.in1 s y (.bool k) (isBl k y) := fun y hy => by
    obtain ⟨d, rfl⟩ := h2 y (Array.mem_toList_iff.mpr hy)
    exact EqAt.bool_bool _ _
  rw [Array.any_toList] at h1
  exact fun Q => ⟨fun h => in_listAt (isBl k) p.isList he (h1 ▸ h s.toks), fun h => notIn_listAt (isBl k) p.isList he (h1 ▸ h s.toks)⟩
theorem in_dict {s : Shared} {k : Str} {t : Tok} {u : Value} {es : List (Str × PV)} (ru : Rep c F s.heap u (.dict es)) : InTells c A E (.str k t) u s (hasK k es) := by
  obtain ⟨a, kvs, rfl, f, hs, d, r⟩ := ru.inv
  exact fun Q => ⟨fun h => wpAny_in_of (knd := c.kd) (strKind_is _ _ _ _) hs d.mapOf (r.has ▸ h _), fun h => wpAny_notIn_of (knd := c.kd) (strKind_is _ _ _ _) hs d.mapOf (r.has ▸ h _)⟩
theorem in_str_str {s : Shared} {x y : Str} {t u : Tok} {ct : Nat} (hc : x.cps.toList = [ct]) : InTells c A E (.str x t) (.str y u) s (y.cps.toList.any (Nat.beq ct)) := by
  have hx : x = ⟨#[ct]⟩ := by cases x; exact congrArg Str.mk (Array.toList_inj.mp hc)
  have he : (!(Builtin.Str.occurrences y x 0 y.length 1).isEmpty) = y.cps.toList.any (Nat.beq ct) := by
    rw [hx, StrLaws.found_one, Bool.eq_iff_iff, List.any_eq_true, decide_eq_true_iff]
    exact ⟨fun hz => ⟨ct, hz, Nat.beq_refl ct⟩, fun ⟨z, hz, he⟩ => Nat.eq_of_beq_eq_true he ▸ hz⟩
  exact fun Q => ⟨fun h => in_str (he ▸ h _), fun h => notIn_str (he ▸ h _)⟩

theorem in_sound {x y : PV} {b : Bool} (e : contains x y = some b) {s : Shared} {v u : Value} (rv : Rep c F s.heap v x) (ru : Rep c F s.heap u y) : InTells c A E v u s b := by
  cases x with
  | str k =>
    obtain ⟨t, rfl⟩ := rv.inv
    cases y with
    | dict es => cases e; exact in_dict ru
    | list xs => obtain ⟨ss, h1, rfl⟩ := map_some e; exact in_str_list h1 ru
    | tuple xs => obtain ⟨ss, h1, rfl⟩ := map_some e; exact in_str_tuple h1 ru
    | str q => obtain ⟨w, rfl⟩ := ru.inv; obtain ⟨ct, h1, rfl⟩ := map_some e; exact in_str_str (one_inv h1)
    | _ => exact none_some e
  | bool k =>
    obtain rfl := rv.inv
    cases y with
    | list xs => exact in_bool_list e ru
    | _ => exact none_some e
  | _ => exact none_some e

theorem intsB_inv {f : Int → Int → Bool} {x y : PV} {b : Bool} (e : intsB f x y = some b) {h : Heap} {v u : Value} (rv : Rep c F h v x) (ru : Rep c F h u y) : ∃ i t j w, v = .int i t ∧ u = .int j w ∧ b = f i j := by
  obtain ⟨i, j, rfl, rfl, h⟩ := ints2_inv e
  obtain ⟨t, rfl⟩ := rv.inv; obtain ⟨w, rfl⟩ := ru.inv
  exact ⟨i, t, j, w, rfl, rfl, (Option.some.inj h).symm⟩
theorem cmp_sound {op : CmpOp} {x y : PV} {b : Bool} (e : cmp op x y = some b) {s : Shared} {Q : Value → Shared → Prop} {v u : Value} (rv : Rep c F s.heap v x) (ru : Rep c F s.heap u y) {n : Nat} (hA : AOK A n)
    (P : ∀ tk, Q (.bool b) { s with toks := tk }) : wpAny c.M A (compareOp op v u) Q E s := by
  have hu : A.units + 3 + 1 < cLine := by have := hA.un; omega
  cases op with
  | Eq => exact cmp_ofEq ((eqTells 3 _ _ _ _ _ _ _ e rv ru hu).rc _ _ _ _ (P s.toks))
  | NotEq => obtain ⟨b', h1, rfl⟩ := map_some e; exact cmp_ofNotEq ((eqTells 3 _ _ _ _ _ _ _ h1 rv ru hu).ne _ _ _ _ (P s.toks))
  | Lt => obtain ⟨i, t, j, w, rfl, rfl, rfl⟩ := intsB_inv e rv ru; exact lt_int (P s.toks)
  | LtE => obtain ⟨i, t, j, w, rfl, rfl, rfl⟩ := intsB_inv e rv ru; exact le_int (P s.toks)
  | Gt => obtain ⟨i, t, j, w, rfl, rfl, rfl⟩ := intsB_inv e rv ru; exact gt_int (P s.toks)
  | GtE => obtain ⟨i, t, j, w, rfl, rfl, rfl⟩ := intsB_inv e rv ru; exact ge_int (P s.toks)
  | Is =>
    obtain ⟨h0, rfl⟩ := guard_some e; obtain rfl := isNone_inv h0; obtain rfl := ru.inv; obtain ⟨h1, h2⟩ := is_none rv
    exact wpAny_is_plain h1 (h2 ▸ P s.toks)
  | IsNot =>
    obtain ⟨h0, rfl⟩ := guard_some e; obtain rfl := isNone_inv h0; obtain rfl := ru.inv; obtain ⟨h1, h2⟩ := is_none rv
    exact wpAny_isNot_plain h1 (h2 ▸ P s.toks)
  | In => exact (in_sound e rv ru Q).1 P
  | NotIn => obtain ⟨b', h1, rfl⟩ := map_some e; exact (in_sound h1 rv ru Q).2 P
end
end Mine

set_option maxRecDepth 100000
set_option linter.unusedVariables false
namespace Mine
open PySem PySem.W PySem.Calls PyProof.Rows PySem.SeqAt

/-! what stands at the top -/
structure ClsOK (c : Cx) (C : Str) (fs : List Str) : Prop where
  glob : nsIn c.K mainGlobals C = some (some (.ref (c.cls C)))
  gga : findIn c.K (.ref (c.cls C)) "__getattribute__" = some (some (.builtin "object.__getattribute__"))
  gge : findIn c.K (.ref (c.cls C)) "__getattr__" = some none
  dict : hasDictIn c.K (c.cls C) = true
  fld : ∀ x ∈ fs, findIn c.K (.ref (c.cls C)) x = some none
  gcl : plainGet c.K (c.cls C) "__class__" = true
  cl : findIn c.K (.ref (c.cls C)) "__class__" = some (some (.builtin "object.__class__"))
  cs : specialIn c.K (.builtin "object.__class__") "__get__" = some (some (.builtin "getset_descriptor.__get__"))
  ct : takesIn c.K (.builtin "object.__class__") = some true
  mro : mroIn c.K (c.cls C) (.type "object") = some true
  sub : ∀ D gs, classFields D = some gs → kitOne c.K (.ref (c.cls C)) (.ref (c.cls D)) = some (seq C D)
structure Stat (c : Cx) : Prop where
  inK : c.K.In c.h0
  ns : ∃ mg mb, c.h0.Ns mainGlobals mg ∧ c.h0.Ns builtinsNs mb ∧ ∀ x : Str, x ≠ "__name__" → mb x = bootBuiltins x
  nolimit : c.h0.NoLimit
  cls : ∀ C fs, classFields C = some fs → ClsOK c C fs
  nb : ∃ t, nsIn c.K mainGlobals "NEVER_BARE" = some (some (.str neverBare t))
  kw : nsIn c.K mainGlobals "KEY_WORDS" = some (some (.ref c.kw))
  kwT : ∃ its : Array Value, IsTup c.h0 c.kw its ∧ ∀ F h, Reps c F h its.toList (keyWords.map .str)

theorem kind_of {sc : Scope} {x : Str} {k : NameKind} (h : kindIs sc x k = true) : (x == ("__debug__" : Str)) = false ∧ sc.names.lookup x = some k := by
  unfold kindIs at h
  rw [← lk_eq, ← seq_eq]
  cases hs : seq x "__debug__" with
  | true => rw [hs] at h; cases h
  | false =>
    rw [hs] at h
    cases hl : lk x sc.names with
    | none => rw [hl] at h; cases h
    | some k' => rw [hl] at h; exact ⟨rfl, congrArg some (of_decide_eq_true h)⟩
theorem ownName_of {sc : Scope} {x : Str} (h : ownName sc x = true) : (x == ("__debug__" : Str)) = false ∧ (sc.names.lookup x = some .local ∨ sc.names.lookup x = some .cell) := by
  unfold ownName at h
  cases hl : kindIs sc x .local with
  | true => exact ⟨(kind_of hl).1, .inl (kind_of hl).2⟩
  | false => rw [hl] at h; exact ⟨(kind_of h).1, .inr (kind_of h).2⟩

section
variable {c : Cx} {A : Around} {env : Env} {sc : Scope} {F : Fz} {oa : Option Addr} {st st1 st2 : St} {m : Str → Option Value} {E : Value → Shared → Prop}

theorem load_var {s : Shared} (hE : EnvOK env sc) (I : Inv c env F oa st s.heap m) {x : Str} {pos : Pos} {v : Value} {Q : Value → Shared → Prop} (ho : ownName sc x = true) (hv : VarAt env s.heap m x v) (h : Q v s) : wpAny c.M A (eval (.Name x pos) env) Q E s := by
  refine wpAny_Name ?_ (ownName_of ho).1
  rcases hv with ⟨hl, hm⟩ | ⟨hl, cl, hc, hv⟩
  · exact wpAny_loadName_local hE.fn hl I.ns hm h
  · exact wpAny_loadName_cell hE.fn hl hc hv h
theorem inK (T : Stat c) {h : Heap} (I : Inv c env F oa st h m) : c.K.In h := T.inK.keeps I.base
theorem load_glob (T : Stat c) {s : Shared} (hE : EnvOK env sc) (I : Inv c env F oa st s.heap m) {x : Str} {pos : Pos} {v : Value} {Q : Value → Shared → Prop} (hx : kindIs sc x .globalImplicit = true) (e : nsIn c.K mainGlobals x = some (some v)) (h : Q v s) : wpAny c.M A (eval (.Name x pos) env) Q E s := by
  obtain ⟨mg, mb, hg, hb, _⟩ := T.ns
  obtain ⟨hd, hl⟩ := kind_of hx
  exact Name_function_global hE.fn ((hE.kindOf x).trans hl) (loadGlobal_global (mg := mg) (by rw [hE.glob]; exact hg.keeps I.base) (mg_of T.inK hg e) h) hd
theorem load_blt (T : Stat c) {s : Shared} (hE : EnvOK env sc) (I : Inv c env F oa st s.heap m) {x : Str} {pos : Pos} {v : Value} {Q : Value → Shared → Prop} (hx : kindIs sc x .globalImplicit = true) (e : nsIn c.K mainGlobals x = some none) (hv : bootBuiltins x = some v) (hn : seq x "__name__" = false) (h : Q v s) : wpAny c.M A (eval (.Name x pos) env) Q E s := by
  obtain ⟨mg, mb, hg, hb, hbb⟩ := T.ns
  obtain ⟨hd, hl⟩ := kind_of hx
  exact Name_function_global hE.fn ((hE.kindOf x).trans hl)
    (loadGlobal_builtin (mg := mg) (mb := mb) (by rw [hE.glob]; exact hg.keeps I.base) (mg_none_of T.inK hg e) (by rw [hE.blt]; exact hb.keeps I.base) ((hbb x (ne_seq hn)).trans hv) h) hd

theorem ev_const {k : Const} {n : Nat} {pos : Pos} {x : PV} (e : constPV k = some x) : EvOK c A sc st (.Constant k n pos) x st := by
  intro env s F oa m E Q hE I P
  cases k with
  | none => cases e; exact wpAny_Constant_none (P.here I .none s.toks)
  | bool b => cases e; exact wpAny_Constant_bool (P.here I (.bool _) s.toks)
  | int i => cases e; exact wpAny_Constant_int (P.here I (.int _ _) _)
  | str q => cases e; exact wpAny_Constant_str (P.here I (.str _ _) _)
  | _ => exact none_some e

theorem ev_var {x : Str} {pos : Pos} {pv : PV} (hv : lk x st.vars = some pv) (ho : ownName sc x = true) : EvOK c A sc st (.Name x pos) pv (st.seal x) := by
  intro env s F oa m E Q hE I P
  cases hw : st.isOwn x with
  | false =>
    obtain ⟨v, h1, h2⟩ := I.var x pv hv hw
    rw [seal_not hw] at P
    exact load_var hE I ho h1 (P.here I h2 s.toks)
  | true =>
    obtain ⟨a, h1, h2, h3⟩ := I.ovar x pv hv hw
    rw [seal_own hw] at P
    exact load_var hE I ho h2 (P _ s.heap s.toks _ _ (Step.unown _ F oa s.heap) I.unown ((h3.keep (.all (fun _ => .inl) fun _ _ => id) fun _ => id).rep (.inr h1)))
theorem ev_glob (T : Stat c) {x : Str} {pos : Pos} {z : PV} (hk : kindIs sc x .globalImplicit = true) (hc : constAt x = some z) : EvOK c A sc st (.Name x pos) z st := by
  intro env s F oa m E Q hE I P
  unfold constAt at hc
  cases h1 : seq x "NEVER_BARE" with
  | true =>
    rw [h1] at hc; cases hc; obtain rfl := seq_iff.mp h1
    obtain ⟨t, hn⟩ := T.nb
    exact load_glob T hE I hk hn (P.here I (.str _ _) s.toks)
  | false =>
    rw [h1] at hc
    cases h2 : seq x "KEY_WORDS" with
    | true =>
      rw [h2] at hc; cases hc; obtain rfl := seq_iff.mp h2
      obtain ⟨its, ht, hr⟩ := T.kwT
      exact load_glob T hE I hk T.kw (P.here I (.tuple' I.kwF (IsTup_at ht fun o => I.base _ o) (hr _ _)) s.toks)
    | false => rw [h2] at hc; cases hc

def FlowIs (c : Cx) (F : Fz) (h : Heap) (fl : Flow) : Fl → Prop
  | .next => fl = .next
  | .ret x => ∃ v, fl = .ret v ∧ Rep c F h v x
def ExPost (c : Cx) (env : Env) (F : Fz) (oa : Option Addr) (s : Shared) (fl : Fl) (st' : St) (Q : Flow → Shared → Prop) : Prop :=
  ∀ w h' tk F' oa' m', Step (stW c env) F oa s.heap F' oa' h' → Inv c env F' oa' st' h' m' → FlowIs c F' h' w fl → Q w { s with heap := h', toks := tk }
def ExOK (c : Cx) (A : Around) (sc : Scope) (st : St) (body : List Stmt) (fl : Fl) (st' : St) : Prop :=
  ∀ (env : Env) (s : Shared) (F : Fz) (oa : Option Addr) (m : Str → Option Value) (E : Value → Shared → Prop) (Q : Flow → Shared → Prop), EnvOK env sc → Inv c env F oa st s.heap m → ExPost c env F oa s fl st' Q → wpAny c.M A (execs body env) Q E s
def StOK (c : Cx) (A : Around) (sc : Scope) (st : St) (stm : Stmt) (fl : Fl) (st' : St) : Prop :=
  ∀ (env : Env) (s : Shared) (F : Fz) (oa : Option Addr) (m : Str → Option Value) (E : Value → Shared → Prop) (Q : Flow → Shared → Prop), EnvOK env sc → Inv c env F oa st s.heap m → ExPost c env F oa s fl st' Q → wpAny c.M A (exec stm env) Q E s
def CallPost (c : Cx) (F : Fz) (s : Shared) (x : PV) (b' : Bowl) (Q : Value → Shared → Prop) : Prop :=
  ∀ v h' tk F' oa', Step (onlyB c) F none s.heap F' oa' h' → Base c F' b' h' → Rep c F' h' v x → Q v { s with heap := h', toks := tk }
def CallOK (c : Cx) (A : Around) (f : Str) (xs : List PV) (b : Bowl) (x : PV) (b' : Bowl) : Prop :=
  ∀ (s : Shared) (F : Fz) (E : Value → Shared → Prop) (Q : Value → Shared → Prop) (us : List Value), Base c F b s.heap → Reps c F s.heap us xs → CallPost c F s x b' Q → wpAny c.M A (call (.ref (c.fn f)) us) Q E s
def FreshPost (c : Cx) (env : Env) (F : Fz) (oa : Option Addr) (m : Str → Option Value) (s : Shared) (st' : St) (x : PV) (Q : Value → Shared → Prop) : Prop :=
  ∀ a h' tk F' oa', Step (onlyB c) F oa s.heap F' oa' h' → Inv c env F' oa' st' h' m → ObjIs c F' h' a x → Apart c env F' oa' (fun b => b = a) → s.heap.get? a = none → Q (.ref a) { s with heap := h', toks := tk }
def FreshOK (c : Cx) (A : Around) (sc : Scope) (st : St) (e : Expr) (x : PV) (st' : St) : Prop :=
  ∀ (env : Env) (s : Shared) (F : Fz) (oa : Option Addr) (m : Str → Option Value) (E : Value → Shared → Prop) (Q : Value → Shared → Prop), EnvOK env sc → Inv c env F oa st s.heap m → FreshPost c env F oa m s st' x Q → wpAny c.M A (eval e env) Q E s
def UsePost (c : Cx) (A : Around) (env : Env) (F : Fz) (oa : Option Addr) (m : Str → Option Value) (s : Shared) (st' : St) (x : PV) (E : Value → Shared → Prop) (Q : Unit → Shared → Prop) (u : Value → Sem Unit) : Prop :=
  ∀ v h' tk F' oa' C mC, Step (onlyB c) F oa s.heap F' oa' h' → Inv c env F' oa' st' h' m → Rep c F' h' v x → Apart c env F' oa' (fun b => b = C) → s.heap.get? C = none → h'.Ns C mC →
    wpAny c.M A (u v) (fun _ s'' => ∃ mC', s''.heap.Ns C mC' ∧ ∀ h'', Heap.SameBut C s''.heap h'' → Q () { s'' with heap := h'' }) E { s with heap := h', toks := tk }
def UseOK (c : Cx) (A : Around) (sc : Scope) (st : St) (e : Expr) (x : PV) (st' : St) : Prop :=
  ∀ (env : Env) (s : Shared) (F : Fz) (oa : Option Addr) (m : Str → Option Value) (E : Value → Shared → Prop) (Q : Unit → Shared → Prop) (u : Value → Sem Unit), EnvOK env sc → Inv c env F oa st s.heap m → UsePost c A env F oa m s st' x E Q u → wpAny c.M A (evalThenUse e env u) Q E s
/-- a new object is as good as any value -/
theorem FreshOK.ev {e : Expr} {x : PV} (h : FreshOK c A sc st e x st1) : EvOK c A sc st e x st1 := by
  intro env s F oa m E Q hE I P
  refine h env s F oa m E Q hE I fun a h' tk F' oa' hs I' hO ap hn => P (.ref a) h' tk (F'.one a) oa' ⟨fun b f => .inl (hs.le b f), fun b f => f.elim (hs.new b) fun (e : b = a) => .inr (.inl (e ▸ hn)), hs.keep, hs.own, hs.dom⟩ (I'.turn ap (fun _ => .inl) (fun b f => f.imp id .inr) (fun b o _ => id) fun b f => f.imp id fun (e : b = a) => e ▸ hO.alive) ((hO.keep (.all (fun _ => .inl) fun _ _ => id) fun _ => id).rep (.inr rfl))

theorem mem_of_lk {α : Type} {a : Str} : ∀ {fs : List (Str × α)} {z : α}, lk a fs = some z → a ∈ fs.map (·.1) := by
  intro fs
  induction fs with
  | nil => intro z h; exact none_some h
  | cons p r ih =>
    intro z h
    have h' : (match seq a p.1 with | true => some p.2 | false => lk a r) = some z := h
    cases hs : seq a p.1 with
    | true => rw [seq_iff.mp hs]; exact .head _
    | false => rw [hs] at h'; exact .tail _ (ih h')
theorem attributeBase_of {o : Expr} {a : Str} {env : Env} {w : Sem Value} (h : notCall o = true) : attributeBase o a env w = w := by
  cases o <;> first | rfl | cases h

theorem ev_attr (T : Stat c) {o : Expr} {a C : Str} {fs : List (Str × PV)} {pos : Pos} {z : PV} (hnc : notCall o = true) (h1 : EvOK c A sc st o (.inst C fs) st1) (hz : lk a fs = some z) : EvOK c A sc st (.Attribute o a pos) z st1 := by
  intro env s F oa m E Q hE I P
  refine Attribute_any_ (h1 env s F oa m E _ hE I fun v h' tk F' oa' hs I' rv => ?_) ?_
  · obtain ⟨ad, d, kvs, rfl, fa, fd, ho, ⟨es, nn, hdo, hfit⟩, re, hcf⟩ := rv.inv
    obtain ⟨u, hu, ru⟩ := re.lk hz
    have CO := T.cls C _ hcf
    refine get_value (s := { s with heap := h', toks := tk }) (od := some (dictOf es nn)) (ox := instObj (c.cls C) _) (inK T I') ⟨ho, rfl, rfl, hdo⟩ CO.gga
      (findObj_own CO.dict (CO.fld a (mem_of_lk hz)) rfl (by rw [lookIn_dict, hfit.get, hu])) ?_ (P u h' (tk + 1) F' oa' hs I' ru)
    cases ru <;> rfl
  · rw [arm_eval_Attribute, attributeBase_of hnc]

theorem ev_bin {l r : Expr} {op : Operator} {pos : Pos} {x y z : PV} (h1 : EvOK c A sc st l x st1) (h2 : EvOK c A sc st1 r y st2) (h3 : binop op x y = some z) : EvOK c A sc st (.BinOp l op r pos) z st2 := by
  intro env s F oa m E Q hE I P
  refine wpAny_BinOp (h1 env s F oa m E _ hE I fun v h' tk F' oa' hs I' rv => ?_)
  refine h2 env _ F' oa' m E _ hE I' fun u h'' tk' F'' oa'' hs' I'' ru => ?_
  exact binop_sound h3 (rv.keep (hs'.keptB I')) ru ((P.then (hs.trans hs')).grow I'')

theorem truthy_sound {x : PV} {b : Bool} (e : truthy x = some b) {F : Fz} {s : Shared} {v : Value} {Q : Bool → Shared → Prop} {E : Value → Shared → Prop} (rv : Rep c F s.heap v x) (h : Q b s) : wpAny c.M A (PySem.truthy v) Q E s := by
  cases x with
  | none => cases e; obtain rfl := rv.inv; exact truthy_none h
  | bool q => cases e; obtain rfl := rv.inv; exact wpAny_truthy_bool h
  | _ => exact none_some e

theorem ev_not {e : Expr} {pos : Pos} {x : PV} {b : Bool} (h1 : EvOK c A sc st e x st1) (h2 : truthy x = some b) : EvOK c A sc st (.UnaryOp .Not e pos) (.bool !b) st1 := by
  intro env s F oa m E Q hE I P
  exact wpAny_UnaryOp (h1 env s F oa m E _ hE I fun v h' tk F' oa' hs I' rv => not_of (truthy_sound h2 rv (P _ h' tk F' oa' hs I' (.bool _))))
theorem ev_neg {e : Expr} {pos : Pos} {i : Int} (h1 : EvOK c A sc st e (.int i) st1) : EvOK c A sc st (.UnaryOp .USub e pos) (.int (-i)) st1 := by
  intro env s F oa m E Q hE I P
  refine wpAny_UnaryOp (h1 env s F oa m E _ hE I fun v h' tk F' oa' hs I' rv => ?_)
  obtain ⟨t, rfl⟩ := rv.inv
  exact neg_int (P _ h' (tk + 1) F' oa' hs I' (.int _ _))

theorem ev_if {t b o : Expr} {pos : Pos} {q : Bool} {x : PV} (h1 : TrOK c A sc st t q st1) (h2 : EvOK c A sc st1 (bif q then b else o) x st2) : EvOK c A sc st (.IfExp t b o pos) x st2 := by
  intro env s F oa m E Q hE I P
  refine wpAny_IfExp (h1 env s F oa m E _ hE I fun h' tk F' oa' hs I' => ?_)
  have := h2 env _ F' oa' m E Q hE I' (P.then (tk := tk) hs)
  cases q <;> exact this

theorem ev_bool1 {op : BoolOp} {e : Expr} {pos : Pos} {x : PV} (h1 : EvOK c A sc st e x st1) : EvOK c A sc st (.BoolOp op [e] pos) x st1 := h1
def isOr : BoolOp → Bool
  | .Or => true
  | .And => false
theorem bool_head {op : BoolOp} {e1 e2 : Expr} {r : List Expr} {pos : Pos} {x : PV} {b : Bool} (h1 : EvOK c A sc st e1 x st1) (hb : truthy x = some b) {env : Env} {s : Shared} {F : Fz} {oa : Option Addr} {m : Str → Option Value} {E : Value → Shared → Prop} {Q : Value → Shared → Prop} (hE : EnvOK env sc) (I : Inv c env F oa st s.heap m)
    (h : ∀ v h' tk F' oa', Step (onlyB c) F oa s.heap F' oa' h' → Inv c env F' oa' st1 h' m → Rep c F' h' v x → wpAny c.M A (match op, b with | .And, false | .Or, true => pure v | _, _ => boolOp pos op (eval e2 env :: evalEach r env)) Q E { s with heap := h', toks := tk }) : wpAny c.M A (eval (.BoolOp op (e1 :: e2 :: r) pos) env) Q E s := by
  show wpAny c.M A (eval e1 env >>= fun v => standAt pos >>= fun _ => holding [v] (PySem.truthy v) >>= fun t => match op, t with | .And, false | .Or, true => pure v | _, _ => boolOp pos op (eval e2 env :: evalEach r env)) Q E s
  exact wpAny_bind (h1 env s F oa m E _ hE I fun v h' tk F' oa' hs I' rv => wpAny_bind (wpAny_standAt (wpAny_bind (wpAny_holding (truthy_sound hb rv (h v h' tk F' oa' hs I' rv))))))
theorem ev_bool_stop {op : BoolOp} {e1 e2 : Expr} {r : List Expr} {pos : Pos} {x : PV} (h1 : EvOK c A sc st e1 x st1) (hb : truthy x = some (isOr op)) : EvOK c A sc st (.BoolOp op (e1 :: e2 :: r) pos) x st1 := by
  intro env s F oa m E Q hE I P
  refine bool_head h1 hb hE I fun v h' tk F' oa' hs I' rv => ?_
  cases op <;> exact wpAny_pure (P _ _ _ _ _ hs I' rv)
theorem ev_bool_go {op : BoolOp} {e1 e2 : Expr} {r : List Expr} {pos : Pos} {x y : PV} (h1 : EvOK c A sc st e1 x st1) (hb : truthy x = some (!isOr op)) (h2 : EvOK c A sc st1 (.BoolOp op (e2 :: r) pos) y st2) : EvOK c A sc st (.BoolOp op (e1 :: e2 :: r) pos) y st2 := by
  intro env s F oa m E Q hE I P
  refine bool_head h1 hb hE I fun v h' tk F' oa' hs I' rv => ?_
  have := h2 env _ F' oa' m E Q hE I' (P.then (tk := tk) hs)
  cases op <;> exact this

/-! tests -/
theorem tr_not {e : Expr} {pos : Pos} {b : Bool} (h1 : TrOK c A sc st e b st1) : TrOK c A sc st (.UnaryOp .Not e pos) (!b) st1 := by
  intro env s F oa m E Q hE I P
  exact wpAny_isTrue_Not (h1 env s F oa m E _ hE I P)
theorem tr_if {t b o : Expr} {pos : Pos} {q p : Bool} (h1 : TrOK c A sc st t q st1) (h2 : TrOK c A sc st1 (bif q then b else o) p st2) : TrOK c A sc st (.IfExp t b o pos) p st2 := by
  intro env s F oa m E Q hE I P
  refine isTrue_IfExp (h1 env s F oa m E _ hE I fun h' tk F' oa' hs I' => ?_)
  have := h2 env _ F' oa' m E Q hE I' (P.then (tk := tk) hs)
  cases q <;> exact this
theorem tr_plain {e : Expr} {x : PV} {b : Bool} (hp : plainTest e = true) (h1 : EvOK c A sc st e x st1) (hb : truthy x = some b) : TrOK c A sc st e b st1 := by
  intro env s F oa m E Q hE I P
  refine wpAny_isTrue_value (h1 env s F oa m E _ hE I fun u h' tk F' oa' hs I' ru => truthy_sound hb ru (P h' tk F' oa' hs I')) ?_
  cases e <;> first | rfl | cases hp
/-- all of a list, or one of it -/
def AllOK (c : Cx) (A : Around) (sc : Scope) (op : BoolOp) (st : St) (es : List Expr) (b : Bool) (st' : St) : Prop :=
  ∀ (env : Env) (s : Shared) (F : Fz) (oa : Option Addr) (m : Str → Option Value) (E : Value → Shared → Prop) (Q : Bool → Shared → Prop), EnvOK env sc → Inv c env F oa st s.heap m → TrPost c env F oa m s st' b Q → wpAny c.M A (allTrue op es env) Q E s
theorem AllOK.nil {op : BoolOp} : AllOK c A sc op st [] (!isOr op) st := by
  intro env s F oa m E Q hE I P
  have q := P s.heap s.toks F oa (.refl _ _ _ _) I
  cases op
  · exact wpAny_allTrue_And_nil q
  · exact wpAny_allTrue_Or_nil q
theorem AllOK.stop {op : BoolOp} {e : Expr} {es : List Expr} (h1 : TrOK c A sc st e (isOr op) st1) : AllOK c A sc op st (e :: es) (isOr op) st1 := by
  intro env s F oa m E Q hE I P
  cases op
  · exact wpAny_allTrue_And_cons (h1 env s F oa m E _ hE I P)
  · exact wpAny_allTrue_Or_cons (h1 env s F oa m E _ hE I P)
theorem AllOK.go {op : BoolOp} {e : Expr} {es : List Expr} {b : Bool} (h1 : TrOK c A sc st e (!isOr op) st1) (h2 : AllOK c A sc op st1 es b st2) : AllOK c A sc op st (e :: es) b st2 := by
  intro env s F oa m E Q hE I P
  have rest := fun h' tk F' oa' (hs : Step (onlyB c) F oa s.heap F' oa' h') (I' : Inv c env F' oa' st1 h' m) => h2 env _ F' oa' m E Q hE I' (P.then (tk := tk) hs)
  cases op
  · exact wpAny_allTrue_And_cons (h1 env s F oa m E _ hE I rest)
  · exact wpAny_allTrue_Or_cons (h1 env s F oa m E _ hE I rest)
theorem tr_bool {op : BoolOp} {es : List Expr} {pos : Pos} {b : Bool} (h : AllOK c A sc op st es b st1) : TrOK c A sc st (.BoolOp op es pos) b st1 := by
  intro env s F oa m E Q hE I P
  exact wpAny_isTrue_BoolOp (h env s F oa m E Q hE I P)
end
end Mine

set_option maxRecDepth 100000
set_option linter.unusedVariables false
namespace Mine
open PySem PySem.W PySem.Calls PyProof.Rows PySem.SeqAt

def plainTrees (es : List Expr) (env : Env) : List (Bool × Sem Value) := es.map fun e => (false, eval e env)
def EvsPost (c : Cx) (env : Env) (F : Fz) (oa : Option Addr) (m : Str → Option Value) (s : Shared) (st' : St) (xs : List PV) (Q : List Value → Shared → Prop) : Prop :=
  ∀ vs h' tk F' oa', Step (onlyB c) F oa s.heap F' oa' h' → Inv c env F' oa' st' h' m → Reps c F' h' vs xs → Q vs { s with heap := h', toks := tk }
structure EvsOK (c : Cx) (A : Around) (sc : Scope) (st : St) (es : List Expr) (xs : List PV) (st' : St) : Prop where
  star : ∀ env pos, backTo pos (starEach es env) = plainTrees es env
  len : xs.length = es.length
  run : ∀ (env : Env) (s : Shared) (F : Fz) (oa : Option Addr) (m : Str → Option Value) (E : Value → Shared → Prop) (Q : List Value → Shared → Prop), EnvOK env sc → Inv c env F oa st s.heap m → EvsPost c env F oa m s st' xs Q → wpAny c.M A (spliced (plainTrees es env)) Q E s

section
variable {c : Cx} {A : Around} {env : Env} {sc : Scope} {F : Fz} {oa : Option Addr} {st st1 st2 : St} {m : Str → Option Value} {E : Value → Shared → Prop}
theorem star_cons {e : Expr} {es : List Expr} {pos : Pos} (h : notStar e = true) (ih : backTo pos (starEach es env) = plainTrees es env) : backTo pos (starEach (e :: es) env) = plainTrees (e :: es) env := by
  have hs : starEach (e :: es) env = (false, eval e env) :: starEach es env := by
    cases e <;> first | rfl | cases h
  rw [hs]
  exact congrArg ((false, eval e env) :: ·) ih
theorem EvsOK.nil : EvsOK c A sc st [] [] st :=
  ⟨fun _ _ => rfl, rfl, fun env s F oa m E Q hE I P => spliced_nil (P [] s.heap s.toks F oa (.refl _ _ _ _) I .nil)⟩
theorem EvsOK.cons {e : Expr} {es : List Expr} {x : PV} {xs : List PV} (hn : notStar e = true) (h1 : EvOK c A sc st e x st1) (h2 : EvsOK c A sc st1 es xs st2) : EvsOK c A sc st (e :: es) (x :: xs) st2 := by
  refine ⟨fun env pos => star_cons hn (h2.star env pos), congrArg (· + 1) h2.len, fun env s F oa m E Q hE I P => spliced_cons (h1 env s F oa m E _ hE I fun u h' tk F' oa' hs I' ru => ?_)⟩
  exact h2.run env _ F' oa' m E _ hE I' fun us h'' tk' F'' oa'' hs' I'' rus => P _ h'' tk' F'' oa'' (hs.trans hs') I'' (.cons (ru.keep (hs'.keptB I')) rus)
theorem len_line {n : Nat} (h : Nat.blt n 1000 = true) : n ≤ sizeLine := by
  have h := Nat.le_of_ble_eq_true h
  exact Nat.le_trans (Nat.le_of_succ_le h) (by decide)
theorem fresh_list {es : List Expr} {pos : Pos} {xs : List PV} (hl : Nat.blt es.length 1000 = true) (h : EvsOK c A sc st es xs st1) : FreshOK c A sc st (.List es pos) (.list xs) st1 := by
  intro env s F oa m E Q hE I P
  refine wpAny_List_spliced ?_
  rw [h.star]
  refine h.run env s F oa m E _ hE I fun vs h' tk F' oa' hs I' rv => ⟨by rw [rv.length, h.len]; exact len_line hl, ?_⟩
  have hk := push_keep (h := h') { cls := .type "list", data := .seq vs.toArray }
  exact P h'.objs.size _ tk F' oa' (hs.trans (.grown _ _ _ hk)) (I'.grown hk) ⟨vs.toArray, ⟨0, Heap.get?_push_size _ rfl⟩, rv.keep (.all (fun _ => id) hk)⟩ (.new I' fun a z => z ▸ none_size) (none_dom (hs.dom _) none_size)
theorem ev_tuple {es : List Expr} {k : Nat} {pos : Pos} {xs : List PV} (hl : Nat.blt es.length 1000 = true) (h : EvsOK c A sc st es xs st1) : EvOK c A sc st (.Tuple es k pos) (.tuple xs) st1 := by
  intro env s F oa m E Q hE I P
  refine wpAny_Tuple_spliced ?_
  rw [h.star]
  exact h.run env s F oa m E _ hE I fun vs h' tk F' oa' hs I' rv => ⟨by rw [rv.length, h.len]; exact len_line hl, ((P.then (tk := tk) hs).grow I').tuple rv tk⟩

/-! comparisons -/
/-- 'in' looks at an owned name without handing it on -/
def RightOK (c : Cx) (A : Around) (sc : Scope) (st : St) (e : Expr) (x : PV) (st' : St) : Prop :=
  ∀ (env : Env) (s : Shared) (F : Fz) (oa : Option Addr) (m : Str → Option Value) (E : Value → Shared → Prop) (Q : Value → Shared → Prop), EnvOK env sc → Inv c env F oa st s.heap m →
    (∀ v h' tk F' oa' G, Step (onlyB c) F oa s.heap F' oa' h' → Inv c env F' oa' st' h' m → (∀ a, F' a → G a) → Rep c G h' v x → Q v { s with heap := h', toks := tk }) → wpAny c.M A (eval e env) Q E s
theorem EvOK.right {e : Expr} {x : PV} (h : EvOK c A sc st e x st1) : RightOK c A sc st e x st1 := fun env s F oa m E Q hE I P => h env s F oa m E Q hE I fun v h' tk F' oa' hs I' rv => P v h' tk F' oa' F' hs I' (fun _ => id) rv
theorem peek_right {y : Str} {pos : Pos} {x : PV} (ho : ownName sc y = true) (hw : st.isOwn y = true) (hx : lk y st.vars = some x) : RightOK c A sc st (.Name y pos) x st := by
  intro env s F oa m E Q hE I P
  obtain ⟨a, h1, h2, h3⟩ := I.ovar y x hx hw
  exact load_var hE I ho h2 (P _ s.heap s.toks F oa (F.add oa) (.refl _ _ _ _) I (fun _ => .inl) ((h3.keep (.all (fun _ => .inl) fun _ _ => id) fun _ => id).rep (.inr h1)))
theorem marked1 {env : Env} {op : CmpOp} {e : Expr} (h : notSet e = true) : markedEach [op] [e] (evalEach [e] env) = evalEach [e] env := by
  show [markedBehindIn op e (eval e env)] = [eval e env]
  unfold markedBehindIn
  rw [show behindInMarks op e = false by cases e <;> first | rfl | cases h]
/-- both sides, then the comparison -/
theorem cmp_pair {op : CmpOp} {l e : Expr} {x y : PV} {b : Bool} {n : Nat} (hA : AOK A n) (h1 : EvOK c A sc st l x st1) (h2 : RightOK c A sc st1 e y st2) (hc : cmp op x y = some b) {s : Shared} {α : Type} {Q : α → Shared → Prop} (k : Value → Value → Sem α)
    (hE : EnvOK env sc) (I : Inv c env F oa st s.heap m) (hk : ∀ lv rv s₁, (∀ Q' : Value → Shared → Prop, (∀ tk, Q' (.bool b) { s₁ with toks := tk }) → wpAny c.M A (compareOp op lv rv) Q' E s₁) → (∃ G, Rep c G s₁.heap rv y) → (∀ (R : Shared → Prop), (∀ h' tk F' oa', Step (onlyB c) F oa s.heap F' oa' h' → Inv c env F' oa' st2 h' m → R { s with heap := h', toks := tk }) → ∀ tk, R { s₁ with toks := tk }) → wpAny c.M A (k lv rv) Q E s₁) :
    wpAny c.M A (eval l env >>= fun lv => holding [lv] (eval e env) >>= fun rv => k lv rv) Q E s := by
  refine wpAny_bind (h1 env s F oa m E _ hE I fun lv h' tk F' oa' hs I' rl => ?_)
  refine wpAny_bind (wpAny_holding (h2 env _ F' oa' m E _ hE I' fun rv h'' tk' F'' oa'' G hs' I'' hG rr => ?_))
  exact hk lv rv _ (fun Q' P => cmp_sound (F := G) hc ((rl.keep (hs'.keptB I')).keep (.all hG fun _ _ => id)) rr hA P) ⟨G, rr⟩ fun R hR tk => hR h'' tk F'' oa'' (hs.trans hs') I''
theorem ev_cmp1 {op : CmpOp} {l e : Expr} {x y : PV} {b : Bool} {pos : Pos} {n : Nat} (hA : AOK A n) (hn : notSet e = true) (h1 : EvOK c A sc st l x st1) (h2 : RightOK c A sc st1 e y st2) (hc : cmp op x y = some b) : EvOK c A sc st (.Compare l [op] [e] pos) (.bool b) st2 := by
  intro env s F oa m E Q hE I P
  show wpAny c.M A (eval l env >>= fun lv => compareChain pos lv [op] (markedEach [op] [e] (evalEach [e] env))) Q E s
  rw [marked1 hn]
  exact cmp_pair hA h1 h2 hc (fun lv rv => standAt pos >>= fun _ => operate [lv, rv] (compareOp op lv rv)) hE I fun lv rv s₁ hq _ hR => wpAny_bind (wpAny_standAt (wpAny_operating (hq _ fun tk => hR (fun s => Q (.bool b) s) (fun h' tk F' oa' hs I' => P _ h' tk F' oa' hs I' (.bool _)) tk)))
theorem tr_cmp1 {op : CmpOp} {l e : Expr} {x y : PV} {b : Bool} {pos : Pos} {n : Nat} (hA : AOK A n) (hn : notSet e = true) (h1 : EvOK c A sc st l x st1) (h2 : RightOK c A sc st1 e y st2) (hc : cmp op x y = some b) : TrOK c A sc st (.Compare l [op] [e] pos) b st2 := by
  intro env s F oa m E Q hE I P
  show wpAny c.M A (eval l env >>= fun lv => testChain pos lv [op] (markedEach [op] [e] (evalEach [e] env))) Q E s
  rw [marked1 hn]
  exact cmp_pair hA h1 h2 hc (fun lv rv => standAt pos >>= fun _ => operate [lv, rv] (compareOp op lv rv) >>= fun cv => holding [cv] (PySem.truthy cv)) hE I fun lv rv s₁ hq _ hR => wpAny_bind (wpAny_standAt (wpAny_bind (wpAny_operating (hq _ fun tk => wpAny_holding (wpAny_truthy_bool (hR (fun s => Q b s) P tk))))))

/-! items -/
theorem subscripted_of {i : Expr} {o k : Value} (h : notSlice i = true) : subscripted i false o k = operate [o, k] (getItem o k) := by
  cases i <;> first | rfl | cases h
theorem strDict_item {s : Shared} {a : Addr} {kvs : List (Str × Value)} {k : Str} {t : Tok} {v : Value} {Q : Value → Shared → Prop} (d : s.heap.DictOf c.kd a kvs) (hv : valueAt kvs k = some v) (h : Q v { s with toks := s.toks + 1 }) :
    wpAny c.M A (getItem (.ref a) (.str k t)) Q E s := wpAny_getItem_of (knd := c.kd) (strKind_is _ _ _ _) d.mapOf hv h
theorem listAt_inv {xs : List PV} {k z : PV} (h : listAt xs k = some z) : ∃ i : Int, k = .int i ∧ 0 ≤ i ∧ i < 100000 ∧ xs[i.toNat]? = some z := by
  cases k with
  | int i =>
    have h' : (match decide (0 ≤ i ∧ i < 100000) with | true => xs[i.toNat]? | false => none) = some z := h
    cases hd : decide (0 ≤ i ∧ i < 100000) with
    | true => rw [hd] at h'; have := of_decide_eq_true hd; exact ⟨i, rfl, this.1, this.2, h'⟩
    | false => rw [hd] at h'; exact none_some h'
  | _ => exact none_some h
theorem item_bowl {v i : Expr} {q : Str} {b : Bowl} {y : Int} {s : Shared} {t : Tok} {Q : Value → Shared → Prop} (hns : notSlice i = true) (hp : c.pre = false) (e : bowlAt b q = some y) (hb : BowlIs c s.heap b) (h : ∀ u, Q (.int y u) { s with toks := s.toks + 1 }) : wpAny c.M A (PyProof.Rows.subscriptTail v i (.ref c.B) (.str q t)) Q E s := by
  obtain ⟨t1, t2, t3, d⟩ := hb.live hp
  have key : ∀ w, valueAt (bowlPairs b t1 t2 t3) q = some w → Q w { s with toks := s.toks + 1 } → wpAny c.M A (PyProof.Rows.subscriptTail v i (.ref c.B) (.str q t)) Q E s := fun w hv hq => tail_any d.typeIs slot_dict_getitem.lookup (strDict_item d hv hq) (subscripted_of hns)
  have e' : (match seq q "left" with | true => some b.left | false => (match seq q "here" with | true => some b.here | false => (match seq q "names" with | true => some b.names | false => none))) = some y := e
  cases h1 : seq q "left" with
  | true => rw [h1] at e'; cases e'; obtain rfl := seq_iff.mp h1; exact key _ rfl (h t1)
  | false =>
    rw [h1] at e'
    cases h2 : seq q "here" with
    | true => rw [h2] at e'; cases e'; obtain rfl := seq_iff.mp h2; exact key _ (by kernel_rfl) (h t2)
    | false =>
      rw [h2] at e'
      cases h3 : seq q "names" with
      | true => rw [h3] at e'; cases e'; obtain rfl := seq_iff.mp h3; exact key _ (by kernel_rfl) (h t3)
      | false => rw [h3] at e'; exact none_some e'
theorem item_sound {v i : Expr} {x k z : PV} {b : Bowl} {s : Shared} {a w : Value} {Q : Value → Shared → Prop} (hns : notSlice i = true) (h : item x k b = some z) (ra : Rep c F s.heap a x) (rw' : Rep c F s.heap w k) (hb : BowlIs c s.heap b) (P : GrowPost c F s z Q) : wpAny c.M A (PyProof.Rows.subscriptTail v i a w) Q E s := by
  cases x with
  | list xs =>
    obtain ⟨j, rfl, h0, h1, h3⟩ := listAt_inv h
    obtain ⟨t, rfl⟩ := rw'.inv
    obtain ⟨ad, its, rfl, f, p, r⟩ := ra.inv
    obtain ⟨y, hy, ry⟩ := r.at h3
    rw [Array.getElem?_toList] at hy
    exact tail_any p.isList.typeIs slot_list_getitem.lookup (wpAny_getItem_list p.isList h0 (by (clear ry hy r p f ra rw' h3 h0; omega)) hy (P.same ry _)) (subscripted_of hns)
  | tuple xs =>
    obtain ⟨j, rfl, h0, h1, h3⟩ := listAt_inv h
    obtain ⟨t, rfl⟩ := rw'.inv
    obtain ⟨ad, its, rfl, f, p, r⟩ := ra.inv
    obtain ⟨y, hy, ry⟩ := r.at h3
    rw [Array.getElem?_toList] at hy
    have hlt : j.toNat < its.size := (Array.getElem?_eq_some_iff.mp hy).1
    obtain ⟨o, ho, hc, _⟩ := id p
    exact tail_any (T := "tuple") ⟨o, ho, hc⟩ PySem.F.slot_tuple_getitem.lookup (PyProof.Rows.getItem_tuple p (by (clear hc ho hlt ry hy r p f ra rw' h3 h1; omega)) (by (clear hc ho hlt; omega)) (seqIndex_of h0 (by (clear hc ho ry hy r p f ra rw' h3 h1 h0; omega))) hy (P.same ry _)) (subscripted_of hns)
  | dict es =>
    cases k with
    | str q =>
      obtain ⟨t, rfl⟩ := rw'.inv
      obtain ⟨ad, kvs, rfl, f, hsys, d, r⟩ := ra.inv
      obtain ⟨y, hy, ry⟩ := r.lk h
      exact tail_any d.typeIs slot_dict_getitem.lookup (strDict_item d hy (P.same ry _)) (subscripted_of hns)
    | _ => exact none_some h
  | bowl =>
    cases k with
    | str q =>
      obtain ⟨t, rfl⟩ := rw'.inv
      obtain ⟨rfl, hp⟩ := ra.inv
      obtain ⟨y, hy, rfl⟩ := map_some h
      exact item_bowl hns hp hy hb fun u => P.same (.int _ _) _
    | _ => exact none_some h
  | _ => exact none_some h
theorem ev_sub {v i : Expr} {pos : Pos} {x k z : PV} (hns : notSlice i = true) (h1 : EvOK c A sc st v x st1) (h2 : EvOK c A sc st1 i k st2) (h3 : item x k st2.bowl = some z) : EvOK c A sc st (.Subscript v i pos) z st2 := by
  intro env s F oa m E Q hE I P
  refine PyProof.Rows.Subscript_ (h1 env s F oa m E _ hE I fun u h' tk F' oa' hs I' ru => ?_)
  refine h2 env _ F' oa' m E _ hE I' fun w h'' tk' F'' oa'' hs' I'' rw' => ?_
  exact item_sound hns h3 (ru.keep (hs'.keptB I')) rw' I''.bowl ((P.then (hs.trans hs')).grow I'')
theorem slice_made {y : Str} {t : Tok} {l w : Option (Int × Tok)} {s : Shared} {Q : Value → Shared → Prop} (hz : (slicePart y (l.map (·.1)) (w.map (·.1))).length ≤ sizeLine) (h : ∀ t tk, Q (.str (slicePart y (l.map (·.1)) (w.map (·.1))) t) { s with toks := tk }) : Made.post (sliceMade y t l w none) Q s := by
  have hp : slicePicked y ((l.map (·.1)).map fun i => (i, 0)) ((w.map (·.1)).map fun i => (i, 0)) none = slicePicked y l w none := by
    unfold slicePicked
    cases l <;> cases w <;> rfl
  unfold slicePart at h hz
  rw [hp] at h hz
  show Made.post (if (true && (slicePicked y l w none).length == y.length) = true then _ else _) Q _
  rw [Bool.true_and]
  split
  · rename_i hlen; rw [if_pos hlen] at h; exact h t s.toks
  · rename_i hlen; rw [if_neg hlen] at h hz; exact ⟨hz, h _ _⟩
theorem intConst_inv {e : Expr} {i : Int} (h : intConst e = some i) : ∃ n p, e = .Constant (.int i) n p := by
  cases e with
  | Constant k n p =>
    cases k with
    | int j => cases h; exact ⟨n, p, rfl⟩
    | _ => exact none_some h
  | _ => exact none_some h
theorem ev_slice {v : Expr} {lo hi : Option Expr} {sp pos : Pos} {y : Str} {a b : Option Int} (hn : isName v = true) (h1 : EvOK c A sc st v (.str y) st1) (h2 : sliceOf lo hi = some (a, b)) (hz : sizeOk (slicePart y a b).length = true) : EvOK c A sc st (.Subscript v (.Slice lo hi none sp) pos) (.str (slicePart y a b)) st1 := by
  intro env s F oa m E Q hE I P
  have hz := sizeOk_le hz
  refine wpAny_Subscript_str_slice (h1 env s F oa m E _ hE I fun u h' tk F' oa' hs I' ru => ?_) ?_
  · obtain ⟨t, rfl⟩ := ru.inv
    have fin : ∀ (l w : Option (Int × Tok)) (tk' : Nat), l.map (·.1) = a → w.map (·.1) = b → Made.post (sliceMade y t l w none) Q { s with heap := h'.push { cls := .type "slice", data := .fields #[partValue l, partValue w, .none] }, toks := tk' } := by
      intro l w tk' hl hw
      subst hl hw
      exact slice_made hz fun t tk => P (.str _ t) _ tk F' oa' (hs.trans (.grown _ _ _ (push_keep _))) (I'.grown (push_keep _)) (.str _ _)
    cases lo with
    | some lo =>
      cases hi with
      | some hi => exact none_some h2
      | none =>
        obtain ⟨i, hi, he⟩ := map_some h2
        cases he
        obtain ⟨n, p, rfl⟩ := intConst_inv hi
        exact wpAny_evalPart_some (wpAny_Constant_int (wpAny_evalPart_none ⟨y, t, some (i, tk), none, rfl, rfl, rfl, fin (some (i, tk)) none _ rfl rfl⟩))
    | none =>
      obtain ⟨hi, rfl, h3⟩ := bind_some h2
      obtain ⟨i, hi, he⟩ := map_some h3
      cases he
      obtain ⟨n, p, rfl⟩ := intConst_inv hi
      exact wpAny_evalPart_none (wpAny_evalPart_some (wpAny_Constant_int ⟨y, t, none, some (i, tk), rfl, rfl, rfl, fin none (some (i, tk)) _ rfl rfl⟩))
  · intro o r; cases v <;> first | rfl | cases hn
end
end Mine

set_option maxRecDepth 100000
set_option linter.unusedVariables false
namespace Mine
open PySem PySem.W PySem.Calls PyProof.Rows PySem.SeqAt

section
variable {c : Cx} {A : Around} {env : Env} {sc : Scope} {F : Fz} {oa : Option Addr} {st st1 st2 : St} {m : Str → Option Value} {E : Value → Shared → Prop}
theorem ev_cmp2 {o1 o2 : CmpOp} {l e1 e2 : Expr} {x y z : PV} {b1 b2 : Bool} {st3 : St} {pos : Pos} {n : Nat} (hA : AOK A n) (hn : notSet e1 = true) (hn2 : notSet e2 = true) (h1 : EvOK c A sc st l x st1) (h2 : EvOK c A sc st1 e1 y st2) (hc : cmp o1 x y = some b1)
    (h3 : bif b1 then (EvOK c A sc st2 e2 z st3 ∧ cmp o2 y z = some b2) else (b2 = false ∧ st3 = st2)) : EvOK c A sc st (.Compare l [o1, o2] [e1, e2] pos) (.bool b2) st3 := by
  intro env s F oa m E Q hE I P
  show wpAny c.M A (eval l env >>= fun lv => compareChain pos lv [o1, o2] (markedEach [o1, o2] [e1, e2] (evalEach [e1, e2] env))) Q E s
  have hm : markedEach [o1, o2] [e1, e2] (evalEach [e1, e2] env) = evalEach [e1, e2] env := by
    show eval e1 env :: markedEach [o2] [e2] (evalEach [e2] env) = _
    rw [marked1 hn2]; rfl
  rw [hm]
  show wpAny c.M A (eval l env >>= fun lv => holding [lv] (eval e1 env) >>= fun rv => standAt pos >>= fun _ => holding [lv, rv] (compareOp o1 lv rv) >>= fun cv => release [lv, rv] [cv] >>= fun _ => holding [cv, rv] (PySem.truthy cv) >>= fun t => if t then compareChain pos rv [o2] (evalEach [e2] env) else pure cv) Q E s
  refine wpAny_bind (h1 env s F oa m E _ hE I fun lv h' tk F' oa' hs I' rl => ?_)
  refine wpAny_bind (wpAny_holding (h2 env _ F' oa' m E _ hE I' fun rv h'' tk' F'' oa'' hs' I'' rr => ?_))
  refine wpAny_bind (wpAny_standAt (wpAny_bind (wpAny_holding (cmp_sound hc (rl.keep (hs'.keptB I')) rr hA fun tk2 => ?_))))
  refine wpAny_bind (wpAny_release (wpAny_bind (wpAny_holding (wpAny_truthy_bool ?_))))
  cases b1 with
  | false => obtain ⟨rfl, rfl⟩ := h3; exact wpAny_pure (P _ h'' tk2 F'' oa'' (hs.trans hs') I'' (.bool _))
  | true =>
    obtain ⟨h3, hc2⟩ := h3
    show wpAny c.M A (holding [rv] (eval e2 env) >>= fun zv => standAt pos >>= fun _ => operate [rv, zv] (compareOp o2 rv zv)) Q E _
    refine wpAny_bind (wpAny_holding (h3 env { s with heap := h'', toks := tk2 } F'' oa'' m E _ hE I'' fun zv h3 tk3 F3 oa3 hs3 I3 rz => ?_))
    exact wpAny_bind (wpAny_standAt (wpAny_operating (cmp_sound hc2 (rr.keep (hs3.keptB I'')) rz hA fun tk4 => P _ h3 tk4 F3 oa3 ((hs.trans hs').trans hs3) I3 (.bool _))))
end

/-! functions of the text's own -/
structure FnOK (c : Cx) (f : Str) (fi : FnInfo) : Prop where
  keep : keepIn c.K (.ref (c.fn f)) = true
  obj : ∃ oc od osl name qual dV kV doc pm an cdv ct, c.K.lookup (c.fn f) = some ⟨oc, od, .func (fnOf name qual fi.params fi.body fi.scope dV kV doc pm an cdv ct), osl⟩ ∧ codeIn c.K cdv qual = true ∧
    ∀ vals : List Value, vals.length = (paramNames fi.params).length → bindArgs (fnOf name qual fi.params fi.body fi.scope dV kV doc pm an cdv ct) ⟨vals, []⟩ = pure ((paramNames fi.params).zip vals)
  own : ∀ x ∈ paramNames fi.params, ownName fi.scope x = true
  nodup : (paramNames fi.params).Nodup
  co : fi.scope.isCoroutine = false
  gen : fi.scope.isGenerator = false
  kind : fi.scope.kind = .function

theorem cellsFrom_has {x : Str} (names : List (Str × NameKind)) : ∀ (n : Nat) (acc : List (Str × Addr)), ((x, NameKind.cell) ∈ names ∨ (acc.lookup x).isSome = true) → ((cellsFrom n names acc).lookup x).isSome = true := by
  induction names with
  | nil => intro n acc h; exact h.elim (fun h => absurd h List.not_mem_nil) id
  | cons p r ih =>
    intro n acc h
    obtain ⟨y, k⟩ := p
    unfold cellsFrom
    split
    · apply ih
      rcases h with h | h
      · rcases List.mem_cons.mp h with e | h
        · cases e; exact .inr (by rw [List.lookup_cons, beq_self_eq_true]; rfl)
        · exact .inl h
      · refine .inr ?_
        rw [List.lookup_cons]; cases x == y
        · exact h
        · rfl
    · rename_i hk
      apply ih
      rcases h with h | h
      · rcases List.mem_cons.mp h with e | h
        · cases e; exact absurd rfl hk
        · exact .inl h
      · exact .inr h
theorem bindL_out {kind : Str → Option NameKind} {x : Str} (bs : List (Str × Value)) : ∀ (m : Str → Option Value), x ∉ bs.map (·.1) → bindL kind bs m x = m x := by
  induction bs with
  | nil => intro m _; rfl
  | cons p r ih =>
    intro m h
    rw [List.map_cons, List.mem_cons, not_or] at h
    show bindL kind r (if kind p.1 = some .local then _ else m) x = _
    rw [ih _ h.2]
    split
    · exact if_neg h.1
    · rfl
theorem bindC_out {kind : Str → Option NameKind} {x : Str} (bs : List (Str × Value)) : ∀ (m : Str → Option Value), x ∉ bs.map (·.1) → bindC kind bs m x = m x := by
  induction bs with
  | nil => intro m _; rfl
  | cons p r ih =>
    intro m h
    rw [List.map_cons, List.mem_cons, not_or] at h
    show bindC kind r (if kind p.1 = some .local then m else _) x = _
    rw [ih _ h.2]
    split
    · rfl
    · exact if_neg h.1
theorem bindL_at {kind : Str → Option NameKind} {x : Str} {v : Value} (hk : kind x = some .local) (bs : List (Str × Value)) : ∀ (m : Str → Option Value), (bs.map (·.1)).Nodup → (x, v) ∈ bs → bindL kind bs m x = some v := by
  induction bs with
  | nil => intro m _ h; exact absurd h List.not_mem_nil
  | cons p r ih =>
    intro m hn h
    have hn := List.nodup_cons.mp hn
    rcases List.mem_cons.mp h with e | h
    · subst e
      show bindL kind r (if kind x = some .local then _ else m) x = _
      rw [bindL_out r _ hn.1, if_pos hk]; exact if_pos rfl
    · exact ih _ hn.2 h
theorem bindC_at {kind : Str → Option NameKind} {x : Str} {v : Value} (hk : kind x = some .cell) (bs : List (Str × Value)) : ∀ (m : Str → Option Value), (bs.map (·.1)).Nodup → (x, v) ∈ bs → bindC kind bs m x = some v := by
  induction bs with
  | nil => intro m _ h; exact absurd h List.not_mem_nil
  | cons p r ih =>
    intro m hn h
    have hn := List.nodup_cons.mp hn
    rcases List.mem_cons.mp h with e | h
    · subst e
      show bindC kind r (if kind x = some .local then m else _) x = _
      rw [bindC_out r _ hn.1, if_neg (by rw [hk]; exact nofun)]; exact if_pos rfl
    · exact ih _ hn.2 h

section
variable {c : Cx}
theorem zip_lk {F : Fz} {h : Heap} {x : Str} {pv : PV} (ns : List Str) : ∀ {us : List Value} {xs : List PV}, Reps c F h us xs → lk x (ns.zip xs) = some pv → ∃ u, (x, u) ∈ ns.zip us ∧ Rep c F h u pv := by
  induction ns with
  | nil => intro us xs _ e; exact none_some e
  | cons n ns ih =>
    intro us xs r e
    cases xs with
    | nil => exact none_some e
    | cons y xs =>
      obtain ⟨v, us, rfl, r1, r2⟩ := r.inv
      have e' : (match seq x n with | true => some y | false => lk x (ns.zip xs)) = some pv := e
      cases hs : seq x n with
      | true => rw [hs] at e'; cases e'; exact ⟨v, seq_iff.mp hs ▸ .head _, r1⟩
      | false => rw [hs] at e'; obtain ⟨u, h1, h2⟩ := ih r2 e'; exact ⟨u, .tail _ h1, h2⟩

def ExAt (c : Cx) (A : Around) (F : Fz) (sc : Scope) (st : St) (body : List Stmt) (fl : Fl) (st' : St) : Prop :=
  ∀ (env : Env) (s : Shared) (m : Str → Option Value) (E : Value → Shared → Prop) (Q : Flow → Shared → Prop), EnvOK env sc → Inv c env F none st s.heap m → ExPost c env F none s fl st' Q → wpAny c.M A (execs body env) Q E s
theorem call_at {n : Nat} (T : Stat c) {f : Str} {fi : FnInfo} (FN : FnOK c f fi) {A : Around} (hA : AOK A (n + 1)) {xs : List PV} {b b' : Bowl} {x : PV} (hlen : (paramNames fi.params).length = xs.length) {F : Fz}
    (hex : ∀ A', AOK A' n → ∃ fl st', x = retOf fl ∧ b' = st'.bowl ∧ ExAt c A' F fi.scope ⟨(paramNames fi.params).zip xs, none, b⟩ fi.body fl st') {s : Shared} {E : Value → Shared → Prop} {Q : Value → Shared → Prop} {us : List Value} (B : Base c F b s.heap) (ru : Reps c F s.heap us xs) (P : CallPost c F s x b' Q) : wpAny c.M A (call (.ref (c.fn f)) us) Q E s := by
  obtain ⟨oc, od, osl, name, qual, dV, kV, doc, pm, an, cdv, ct, hobj, hcode, hbind⟩ := FN.obj
  have hul : us.length = (paramNames fi.params).length := ru.length.trans hlen.symm
  have X : c.K.In s.heap := T.inK.keeps B.base
  have hsz : ∀ {a : Addr}, (s.heap.get? a).isSome = true → a < s.heap.objs.size := fun h => by
    obtain ⟨o, ho⟩ := Option.isSome_iff_exists.mp h; exact Heap.lt_size ho
  refine wpAny_call (codeAny_call_cells (fd := fnOf name qual fi.params fi.body fi.scope dV kV doc pm an cdv ct) (by have := hA.dp; (clear hsz X hul hbind hcode hobj P ru B hex hlen; omega)) (X _ _ hobj) rfl (T.nolimit.keeps B.base) (codeRec_of X hcode) rfl (hbind us hul) rfl (fun p hp => ?_) (fun s₁ C => ?_) FN.co FN.gen FN.kind)
  · have hm : p.1 ∈ paramNames fi.params := (List.of_mem_zip hp).1
    rcases (ownName_of (FN.own _ hm)).2 with h | h
    · exact .inl h
    · exact .inr ⟨h, cellsFrom_has _ _ _ (.inl (mem_of_lookup h))⟩
  · obtain ⟨h₁, tk, rfl, hk1⟩ := C.done
    have hE : EnvOK (callEnvC (fnOf name qual fi.params fi.body fi.scope dV kV doc pm an cdv ct) s.heap.objs.size (c.fn f)) fi.scope := ⟨rfl, FN.kind, rfl, rfl, fun x hx => Option.isSome_iff_exists.mp (cellsFrom_has _ _ _ (.inl (mem_of_lookup hx)))⟩
    generalize henv : callEnvC (fnOf name qual fi.params fi.body fi.scope dV kV doc pm an cdv ct) s.heap.objs.size (c.fn f) = env at *
    have hL : env.locals = s.heap.objs.size := by rw [← henv]; rfl
    have hns : ∀ y, env.kindOf y = fi.scope.names.lookup y := fun y => by rw [← henv]; rfl
    have hcs : env.cells = cellsFrom (s.heap.objs.size + 1) fi.scope.names [] := by rw [← henv]; rfl
    have hcell : ∀ x cl, env.cells.lookup x = some cl → s.heap.objs.size < cl := fun x cl h => Nat.lt_of_le_of_lt (Nat.le_of_eq hL.symm) (C.above x cl (mem_of_lookup h))
    have hkeys : ((paramNames fi.params).zip us).map (·.1) = paramNames fi.params := by
      rw [List.map_fst_zip]; (clear hcell hcs hns hL hE C henv hk1 hsz X hbind hcode hobj P ru B hex hlen; omega)
    have k1 : Kept F F s.heap h₁ := ⟨fun _ x => x, fun a o _ e => hk1 a o e⟩
    have I0 : Inv c env F none ⟨(paramNames fi.params).zip xs, none, b⟩ h₁ (bindL env.kindOf ((paramNames fi.params).zip us) fun _ => none) := by
      refine ⟨fun b o e => hk1 _ _ (B.base b o e), C.toInCall.ns, B.bowl.at fun o => hk1 _ o, B.kwF, fun a f => ?_, B.nB, fun f => ?_, fun z => ?_, ?_, fun x cl e => ?_, fun x cl e => ⟨⟨_, C.cell x cl e⟩, fun f => ?_, fun z => ?_, fun z => ?_⟩, fun x y cl h1 h2 => name_of_addr C.apart (mem_of_lookup h1) (mem_of_lookup h2), nofun, nofun, fun x pv e _ => ?_, fun x pv e h => nomatch h⟩
      · exact some_keep (hk1 a) (B.dom a f)
      · exact Nat.lt_irrefl _ (hL ▸ hsz (B.dom _ f))
      · exact Nat.lt_irrefl _ (hL ▸ z ▸ hsz (a := c.B) B.bowl.some)
      · exact none_of (B.base _) (hL ▸ none_size)
      · exact none_of (B.base _) (get_none_of_le (Nat.le_of_lt (hcell x cl e)))
      · exact Nat.lt_asymm (hsz (B.dom _ f)) (hcell x cl e)
      · exact Nat.lt_irrefl _ (hL ▸ z ▸ hcell x cl e)
      · exact Nat.lt_asymm (hsz (a := c.B) B.bowl.some) (z ▸ hcell x cl e)
      · obtain ⟨u, hu, rr⟩ := zip_lk _ ru e
        refine ⟨u, ?_, rr.keep k1⟩
        have hm : x ∈ paramNames fi.params := (List.of_mem_zip hu).1
        rcases (ownName_of (FN.own _ hm)).2 with h | h
        · exact .inl ⟨(hns x).trans h, bindL_at ((hns x).trans h) _ _ (by rw [hkeys]; exact FN.nodup) hu⟩
        · have hc := cellsFrom_has (x := x) fi.scope.names (s.heap.objs.size + 1) [] (.inl (mem_of_lookup h))
          rw [← hcs] at hc
          obtain ⟨cl, hcl⟩ := Option.isSome_iff_exists.mp hc
          refine .inr ⟨(hns x).trans h, cl, hcl, ?_⟩
          have := C.cell x cl hcl
          rwa [bindC_at ((hns x).trans h) _ _ (by rw [hkeys]; exact FN.nodup) hu] at this
    obtain ⟨fl, st', rfl, rfl, hx⟩ := hex (A.deeper env) (hA.deeper env)
    refine hx env { s with heap := h₁, toks := tk } _ _ _ hE I0 fun fw h' tk' F' oa' m' hs I' hf => ?_
    have st : Step (onlyB c) F none s.heap F' oa' h' := by
      refine ⟨hs.le, fun a f => (hs.new a f).imp id fun z => z.imp (none_of (hk1 a)) id, fun b o hb _ e => hs.keep b o (fun w => ?_) nofun (hk1 _ _ e), fun a e => (hs.own a e).imp id (none_of (hk1 a)), fun a e => hs.dom a (some_keep (hk1 a) e)⟩
      have := Heap.lt_size e
      rcases w with w | w | ⟨x, w⟩
      · exact hb w
      · exact Nat.lt_irrefl _ (hL ▸ w ▸ this)
      · exact Nat.lt_asymm this (hcell x b w)
    cases fl with
    | next => obtain rfl : fw = .next := hf; exact P _ _ _ _ _ st I'.toBase .none
    | ret y => obtain ⟨v, rfl, rv⟩ : ∃ v, fw = .ret v ∧ _ := hf; exact P _ _ _ _ _ st I'.toBase rv
theorem call_sound {n : Nat} (T : Stat c) {f : Str} {fi : FnInfo} (FN : FnOK c f fi) {A : Around} (hA : AOK A (n + 1)) {xs : List PV} {b b' : Bowl} {x : PV} (hlen : (paramNames fi.params).length = xs.length)
    (hex : ∀ A', AOK A' n → ∃ fl st', x = retOf fl ∧ b' = st'.bowl ∧ ExOK c A' fi.scope ⟨(paramNames fi.params).zip xs, none, b⟩ fi.body fl st') : CallOK c A f xs b x b' :=
  fun s F E Q us B ru P => call_at T FN hA hlen (fun A' hA' => by
    obtain ⟨fl, st', h1, h2, h3⟩ := hex A' hA'
    exact ⟨fl, st', h1, h2, fun env s m E Q hE I P => h3 env s F none m E Q hE I P⟩) B ru P
end
inductive InitBody : List Str → List Stmt → Prop
  | nil : InitBody [] []
  | cons {f : Str} {fs : List Str} {b : List Stmt} {p1 p2 p3 p4 : Pos} : InitBody fs b → InitBody (f :: fs) (.Assign [.Attribute (.Name "self" p1) f p2] (.Name f p3) p4 :: b)
abbrev initName (C : Str) : Str := C ++ "." ++ "__init__"
structure InitOK (c : Cx) (C : Str) (fs : List Str) (fi : FnInfo) : Prop where
  makes : makesIn c.K (c.cls C) = true
  keepC : keepIn c.K (.ref (c.cls C)) = true
  find : findIn c.K (.ref (c.cls C)) "__init__" = some (some (.ref (c.fn (initName C))))
  typ : typeIn c.K (.ref (c.fn (initName C))) = some (.type "function")
  sa : findIn c.K (.ref (c.cls C)) "__setattr__" = some (some (.builtin "object.__setattr__"))
  po : plainOver c.K (c.cls C) = true
  tk : ∀ x ∈ fs, takerIn c.K (c.cls C) x = some none
  body : InitBody fs fi.body
  params : paramNames fi.params = ("self" : Str) :: fs
  loc : ∀ x ∈ ("self" : Str) :: fs, fi.scope.names.lookup x = some .local ∧ (x == ("__debug__" : Str)) = false

section
variable {c : Cx}

theorem zip_rep {F : Fz} {h : Heap} (fs : List Str) : ∀ {us : List Value} {xs : List PV}, Reps c F h us xs → RepE c F h (fs.zip us) (fs.zip xs) := by
  induction fs with
  | nil => intro us xs _; exact .nil
  | cons f fs ih =>
    intro us xs r
    cases xs with
    | nil => obtain rfl := r.inv; exact .nil
    | cons x xs => obtain ⟨v, us, rfl, r1, r2⟩ := r.inv; exact .cons r1 (ih r2)
theorem init_run {A : Around} {E : Value → Shared → Prop} {C x d : Addr} {h : Heap} {env : Env} {m : Str → Option Value} (hk : env.scope.kind = .function)
    (hs : findIn c.K (.ref C) "__setattr__" = some (some (.builtin "object.__setattr__"))) (hp : plainOver c.K C = true) (hh : hasDictIn c.K C = true) (hX : c.K.In h) (hself : m "self" = some (.ref x)) (hsl : env.kindOf "self" = some .local) (hxd : x ≠ d) :
    ∀ (fs : List Str) (us : List Value) (body : List Stmt), InitBody fs body → fs.length = us.length → fs.Nodup → (∀ f ∈ fs, takerIn c.K C f = some none ∧ env.kindOf f = some .local ∧ (f == ("__debug__" : Str)) = false) → (∀ f u, (f, u) ∈ fs.zip us → m f = some u) →
    ∀ (s : Shared) (es : List DictEntry) (n : Nat) (kvs : List (Str × Value)) (Q : Flow → Shared → Prop), Fr h env.locals s.heap m → News h env.locals s.heap [(d, dictOf es n), (x, instObj C d)] → Fit es kvs → (∀ f ∈ fs, f ∉ kvs.map (·.1)) → kvs.length + fs.length < 100 →
      (∀ h' tk es' n', Fr h env.locals h' m → News h env.locals h' [(d, dictOf es' n'), (x, instObj C d)] → Fit es' (kvs ++ fs.zip us) → Q .next { s with heap := h', toks := tk }) → wpAny c.M A (execs body env) Q E s := by
  intro fs
  induction fs with
  | nil =>
    intro us body hb hl hn hf hm s es n kvs Q Fr' N ft hd hz P
    cases hb
    exact wpAny_execs_nil (by have := P s.heap s.toks es n Fr' N (by simpa using ft); exact this)
  | cons f fs ih =>
    intro us body hb hl hn hf hm s es n kvs Q Fr' N ft hd hz P
    cases hb with
    | cons hb =>
    cases us with
    | nil => cases hl
    | cons u us =>
    have hn' := List.nodup_cons.mp hn
    obtain ⟨htk, hfl, hfd⟩ := hf f (.head _)
    have hmf := hm f u (.head _)
    refine wpAny_execs_cons (plainObj_wpAny_Assign_Attribute ?_)
    refine wpAny_Name (wpAny_loadName_local hk hfl Fr'.ns hmf ?_) hfd
    refine wpAny_Name (wpAny_loadName_local hk hsl Fr'.ns hself ?_) (by decide)
    have I : InstAt s.heap x (instObj C d) C (some (dictOf es n)) := InstAt.of_news N (by simp) (by simp)
    refine set_dict (es' := putL f (PyData.keyHash c.w.params f) (.str f (s.toks + 1)) u es) (n' := putN f es n) (news' := [(d, dictOf (putL f (PyData.keyHash c.w.params f) (.str f (s.toks + 1)) u es) (putN f es n)), (x, instObj C d)]) Fr' hX N I rfl hs hp htk hh (by rw [ft.get]; rfl) rfl (.head fun p hp => ?_) ?_ fun h' F' N' => ?_
    · simp only [List.mem_singleton] at hp; subst hp; exact hxd
    · have := (ft.put (hs := PyData.keyHash c.w.params f) (t := s.toks + 1) (v := u) (hd f (.head _))).length
      simp only [List.length_append, List.length_cons, List.length_nil] at this hz; (clear I hmf hfd hfl htk hn' P hm hl; omega)
    · refine ih us _ hb (by simpa using hl) hn'.2 (fun g hg => hf g (.tail _ hg)) (fun g v hg => hm g v (.tail _ hg)) { s with heap := h', toks := s.toks + 2 } _ _ _ Q F' N' (ft.put (hd f (.head _))) (fun g hg => ?_) (by simp only [List.length_append, List.length_cons, List.length_nil] at hz ⊢; (clear N' F' I hmf hfd hfl htk hn' P hm hl; omega)) fun h'' tk es' n' F'' N'' ft'' => P h'' tk es' n' F'' N'' ?_
      · simp only [List.map_append, List.map_cons, List.map_nil, List.mem_append, List.mem_singleton, not_or]
        exact ⟨hd g (.tail _ hg), fun e => hn'.1 (e ▸ hg)⟩
      · simpa using ft''

theorem lk_mem {α : Type} {x : Str} {z : α} : ∀ {l : List (Str × α)}, lk x l = some z → (x, z) ∈ l := by
  intro l
  induction l with
  | nil => intro h; exact none_some h
  | cons p r ih =>
    intro h
    have h' : (match seq x p.1 with | true => some p.2 | false => lk x r) = some z := h
    cases hs : seq x p.1 with
    | true => rw [hs] at h'; cases h'; rw [seq_iff.mp hs]; exact .head _
    | false => rw [hs] at h'; exact .tail _ (ih h')
theorem fields_short {D : Str} {gs : List Str} (hg : classFields D = some gs) : gs.length < 50 :=
  (by decide : ∀ p ∈ classes, p.2.length < 50) _ (lk_mem hg)
theorem make_sound {A : Around} {C : Str} {fs : List Str} {fi : FnInfo} {n : Nat} (T : Stat c) (hcf : classFields C = some fs) (O : InitOK c C fs fi) (FN : FnOK c (initName C) fi) (hA : AOK A (n + 1)) {xs : List PV} (hlen : fs.length = xs.length)
    {s : Shared} {F : Fz} {b : Bowl} {E : Value → Shared → Prop} {Q : Value → Shared → Prop} {us : List Value} (B : Base c F b s.heap) (ru : Reps c F s.heap us xs) (P : GrowPost c F s (.inst C (fs.zip xs)) Q) : wpAny c.M A (call (.ref (c.cls C)) us) Q E s := by
  obtain ⟨oc, od, osl, name, qual, dV, kV, doc, pm, an, cdv, ct, hobj, hcode, hbind⟩ := FN.obj
  obtain ⟨h, g, dr, tk0, os⟩ := s
  have X : c.K.In h := T.inK.keeps B.base
  have CO := T.cls C fs hcf
  have hul : us.length = xs.length := ru.length
  have k2 : ∀ b o, h.get? b = some o → ((h.push emptyDict).push (instObj (c.cls C) h.objs.size)).get? b = some o := fun b o e => Heap.get?_push_of_some _ (Heap.get?_push_of_some _ e)
  have X2 := X.keeps k2
  have hsz2 : ((h.push emptyDict).push (instObj (c.cls C) h.objs.size)).objs.size = h.objs.size + 1 + 1 := by rw [Heap.size_push, Heap.size_push]
  have hgd : ((h.push emptyDict).push (instObj (c.cls C) h.objs.size)).get? h.objs.size = some emptyDict := Heap.get?_push_of_some _ (Heap.get?_push_size _ rfl)
  have hgx : ((h.push emptyDict).push (instObj (c.cls C) h.objs.size)).get? (h.objs.size + 1) = some (instObj (c.cls C) h.objs.size) := by
    have := Heap.get?_push_size (h.push emptyDict) (o := instObj (c.cls C) h.objs.size) rfl
    rwa [Heap.size_push] at this
  refine wpAny_call (make_core (makes_of X O.makes) (looks_findIn X O.find) (fun self => bind_fn X self O.typ) (.inl (by simp)) ?_)
  refine codeAny_call_cells (fd := fnOf name qual fi.params fi.body fi.scope dV kV doc pm an cdv ct) ?_ (X2 _ _ hobj) rfl ((T.nolimit.keeps B.base).keeps k2) (codeRec_of X2 hcode) rfl (hbind _ (by rw [O.params, List.length_cons, List.length_cons]; (clear hgx hgd hsz2; omega))) rfl (fun p hp => ?_) (fun s₁ CC => ?_) FN.co FN.gen FN.kind
  · have := hA.dp
    rw [depth_under_make]
    (clear hgx hgd hsz2 X2 k2 hul CO X P ru B hbind hcode hobj hlen; omega)
  · have hm : p.1 ∈ paramNames fi.params := (List.of_mem_zip hp).1
    rw [O.params] at hm
    exact .inl (O.loc _ hm).1
  · obtain ⟨h₁, tk, rfl, hk1⟩ := CC.done
    have hloc : ∀ y, (callEnvC (fnOf name qual fi.params fi.body fi.scope dV kV doc pm an cdv ct) ((h.push emptyDict).push (instObj (c.cls C) h.objs.size)).objs.size (c.fn (initName C))).kindOf y = fi.scope.names.lookup y := fun y => rfl
    have hLl : (callEnvC (fnOf name qual fi.params fi.body fi.scope dV kV doc pm an cdv ct) ((h.push emptyDict).push (instObj (c.cls C) h.objs.size)).objs.size (c.fn (initName C))).locals = ((h.push emptyDict).push (instObj (c.cls C) h.objs.size)).objs.size := rfl
    have hEk : (callEnvC (fnOf name qual fi.params fi.body fi.scope dV kV doc pm an cdv ct) ((h.push emptyDict).push (instObj (c.cls C) h.objs.size)).objs.size (c.fn (initName C))).scope.kind = .function := FN.kind
    generalize callEnvC (fnOf name qual fi.params fi.body fi.scope dV kV doc pm an cdv ct) ((h.push emptyDict).push (instObj (c.cls C) h.objs.size)).objs.size (c.fn (initName C)) = env at *
    have hkeys : ((paramNames fi.params).zip (.ref (h.objs.size + 1) :: us)).map (·.1) = paramNames fi.params := by
      rw [List.map_fst_zip]; rw [O.params, List.length_cons, List.length_cons]; (clear hEk hLl hloc CC hk1 hgx hgd hsz2; omega)
    have hat : ∀ f u, (f, u) ∈ (("self" : Str) :: fs).zip (.ref (h.objs.size + 1) :: us) → bindL env.kindOf ((paramNames fi.params).zip (.ref (h.objs.size + 1) :: us)) (fun _ => none) f = some u := fun f u hu =>
      bindL_at (by rw [hloc]; exact (O.loc f (List.of_mem_zip hu).1).1) _ _ (by rw [hkeys]; exact FN.nodup) (by rw [O.params]; exact hu)
    have hnd : (("self" : Str) :: fs).Nodup := by rw [← O.params]; exact FN.nodup
    have none0 : ∀ {a : Addr}, h.objs.size ≤ a → h.get? a = none := fun q => get_none_of_le q
    have hL2 : h.objs.size + 1 < env.locals := by rw [hLl, hsz2]; exact Nat.lt_succ_self _
    refine init_run (x := h.objs.size + 1) (d := h.objs.size) (h := h) hEk O.sa O.po CO.dict X (hat _ _ (.head _)) ((hloc _).trans (O.loc _ (.head _)).1) (Nat.succ_ne_self _) fs us fi.body O.body (by (clear hL2 none0 hnd hat hkeys hEk hLl hloc CC hk1 hgx hgd hsz2; omega)) (List.nodup_cons.mp hnd).2
      (fun f hf => ⟨O.tk f hf, (hloc _).trans (O.loc f (.tail _ hf)).1, (O.loc f (.tail _ hf)).2⟩) (fun f u hu => hat f u (.tail _ hu)) _ [] 0 [] _ ⟨CC.toInCall.ns, fun b o e => hk1 _ _ (k2 _ _ e), Nat.le_of_lt (Nat.lt_trans (Nat.lt_succ_self _) hL2)⟩ (fun p hp => ?_) .nil (by simp) ?_ fun h' tk' es' n' F' N' ft => ?_
    · rcases List.mem_cons.mp hp with rfl | hp
      · exact ⟨hk1 _ _ hgd, Nat.ne_of_lt (Nat.lt_trans (Nat.lt_succ_self _) hL2), none0 (Nat.le_refl _)⟩
      · rcases List.mem_cons.mp hp with rfl | hp
        case inr => cases hp
        exact ⟨hk1 _ _ hgx, Nat.ne_of_lt hL2, none0 (Nat.le_succ _)⟩
    · have := fields_short hcf
      show 0 + fs.length < 100
      (clear hL2 none0 hnd hat hkeys hEk hLl hloc CC hk1 hgx hgd hsz2 X2 k2 hul CO X P ru B hbind hcode hobj hlen; omega)
    · refine ⟨rfl, ?_⟩
      have Nd := N' _ (.head _)
      have Nx := N' _ (.tail _ (.head _))
      have hkk : ∀ b o, h.get? b = some o → h'.get? b = some o := F'.keep
      have k : Kept F (fun a => F a ∨ a = h.objs.size ∨ a = h.objs.size + 1) h h' := ⟨fun _ x => .inl x, fun a o _ e => hkk a o e⟩
      have hmap : (fs.zip xs).map (·.1) = fs := by rw [List.map_fst_zip]; (clear k hkk Nx Nd ft N' F' hL2 none0 hnd hat hkeys hEk hLl hloc CC hk1 hgx hgd hsz2 X2 k2 hul; omega)
      exact P (.ref (h.objs.size + 1)) h' tk' _ k.1 (fun a f => f.imp id fun z => none0 (z.elim (fun e => Nat.le_of_eq e.symm) fun e => by rw [e]; exact Nat.le_succ _)) hkk (fun a f => f.imp id fun z => z.elim (fun e => e ▸ get_some Nd.1) fun e => e ▸ get_some Nx.1)
        (.inst (kvs := fs.zip us) (.inr (.inr rfl)) (.inr (.inl rfl)) (by rw [hcf]; rfl) Nx.1 ⟨es', n', Nd.1, ft⟩ ((zip_rep _ ru).keep k) (by rw [hcf, hmap]))
end
end Mine

set_option maxRecDepth 100000
set_option linter.unusedVariables false
namespace Mine
open PySem PySem.W PySem.Calls PyProof.Rows PySem.SeqAt

section
variable {c : Cx} {A : Around} {F : Fz} {E : Value → Shared → Prop}
theorem CallPost.grow {b : Bowl} {s : Shared} {r : PV} {Q : Value → Shared → Prop} (B : Base c F b s.heap) (P : CallPost c F s r b Q) : GrowPost c F s r Q := fun v h' tk F' hle hnew hk hd rv =>
  P v h' tk F' none (.grow _ _ hle hnew hk) ⟨fun b o e => hk _ _ (B.base b o e), B.bowl.at (hk _), hle _ B.kwF, fun a f => (hd a f).elim (fun g => some_keep (hk a) (B.dom a g)) id, fun f => (hnew _ f).elim B.nB fun g => some_none B.bowl.some g⟩ rv
theorem Reps.one {h : Heap} {us : List Value} {x : PV} (r : Reps c F h us [x]) : ∃ v, us = [v] ∧ Rep c F h v x := by
  obtain ⟨v, us, rfl, r1, r2⟩ := r.inv
  obtain rfl := r2.inv
  exact ⟨v, rfl, r1⟩
theorem Reps.two {h : Heap} {us : List Value} {x y : PV} (r : Reps c F h us [x, y]) : ∃ v u, us = [v, u] ∧ Rep c F h v x ∧ Rep c F h u y := by
  obtain ⟨v, us, rfl, r1, r2⟩ := r.inv
  obtain ⟨u, rfl, r3⟩ := r2.one
  exact ⟨v, u, rfl, r1, r3⟩
def AllP {α : Type} (P : α → Prop) : List α → Prop
  | [] => True
  | x :: r => P x ∧ AllP P r
theorem AllP.mem {α : Type} {P : α → Prop} : ∀ {l : List α}, AllP P l → ∀ {x : α}, x ∈ l → P x := by
  intro l
  induction l with
  | nil => intro _ x hx; exact absurd hx List.not_mem_nil
  | cons y r ih => intro h x hx; exact (List.mem_cons.mp hx).elim (fun e => e ▸ h.1) fun hx => ih h.2 hx

/-! builtins -/
def bltV : Blt → Value
  | .len => .builtin "len"
  | .list => .type "list"
  | .tuple => .type "tuple"
  | .dict => .type "dict"
  | .sorted => .builtin "sorted"
  | .max => .builtin "max"
  | .str => .type "str"
  | .ord => .builtin "ord"
  | .all => .builtin "all"
def bltNames : List Str := ["len", "list", "tuple", "dict", "sorted", "max", "str", "ord", "all", "isinstance", "range", "zip"]
theorem blts_ok : AllP (fun p : Str × Blt => bootBuiltins p.1 = some (bltV p.2) ∧ memS p.1 bltNames = true ∧ seq p.1 "__name__" = false) blts :=
  ⟨⟨by kernel_rfl, by decide, by decide⟩, ⟨by kernel_rfl, by decide, by decide⟩, ⟨by kernel_rfl, by decide, by decide⟩, ⟨by kernel_rfl, by decide, by decide⟩, ⟨by kernel_rfl, by decide, by decide⟩, ⟨by kernel_rfl, by decide, by decide⟩, ⟨by kernel_rfl, by decide, by decide⟩, ⟨by kernel_rfl, by decide, by decide⟩, ⟨by kernel_rfl, by decide, by decide⟩, trivial⟩
def BltOK (c : Cx) (A : Around) (k : Blt) (xs : List PV) (r : PV) : Prop :=
  ∀ (b : Bowl) (s : Shared) (F : Fz) (E : Value → Shared → Prop) (Q : Value → Shared → Prop) (us : List Value), Base c F b s.heap → Reps c F s.heap us xs → GrowPost c F s r Q → wpAny c.M A (call (bltV k) us) Q E s

theorem size_le {its : Array Value} {h : Heap} {xs : List PV} (r : Reps c F h its.toList xs) (hz : sizeOk xs.length = true) : its.size ≤ sizeLine := r.size ▸ sizeOk_le hz
theorem blt_len {xs : List PV} (hz : sizeOk xs.length = true) : BltOK c A .len [.list xs] (.int xs.length) := by
  intro b s F E Q us B ru P
  obtain ⟨v, rfl, r1⟩ := ru.one
  obtain ⟨a, its, rfl, f, p, r⟩ := r1.inv
  have hz := size_le r hz
  have e : sizeLine = 16777216 := rfl
  refine len_list p.isList (by omega) ?_
  rw [r.size]
  exact P.same (.int _ _) _
theorem blt_list {xs : List PV} (hz : sizeOk xs.length = true) : BltOK c A .list [.list xs] (.list xs) := by
  intro b s F E Q us B ru P
  obtain ⟨v, rfl, r1⟩ := ru.one
  obtain ⟨a, its, rfl, f, ⟨k, ho⟩, r⟩ := r1.inv
  refine call_list_seq (T := "list") a (.inl rfl) ho rfl rfl (fun h' c' hk hn => ?_) (size_le r hz)
  exact P.add hk none_size (get_some hn) (.list' (.inr rfl) ⟨_, hn⟩ (r.keep (.all (fun _ => .inl) hk))) _
theorem blt_tuple {xs : List PV} (hz : sizeOk xs.length = true) : BltOK c A .tuple [.list xs] (.tuple xs) := by
  intro b s F E Q us B ru P
  obtain ⟨v, rfl, r1⟩ := ru.one
  obtain ⟨a, its, rfl, f, p, r⟩ := r1.inv
  refine call_tuple_list p.isList (fun h' hk => ?_) (size_le r hz)
  have hk' : ∀ b o, s.heap.get? b = some o → (h'.push { cls := .type "tuple", data := .seq its }).get? b = some o := fun b o e => push_keep _ _ _ (hk b o e)
  have hn : (h'.push { cls := .type "tuple", data := .seq its }).get? h'.objs.size = some { cls := .type "tuple", data := .seq its } := Heap.get?_push_size _ rfl
  exact P.add hk' (none_of (hk _) none_size) (get_some hn) (.tuple' (.inr rfl) ⟨_, hn, rfl, _, rfl⟩ (r.keep (.all (fun _ => .inl) hk'))) _
theorem blt_max (hh : A.handled = none) {x y : Int} : BltOK c A .max [.int x, .int y] (.int (if x < y then y else x)) := by
  intro b s F E Q us B ru P
  obtain ⟨v, u, rfl, r1, r2⟩ := ru.two
  obtain ⟨t, rfl⟩ := r1.inv
  obtain ⟨w, rfl⟩ := r2.inv
  refine max_two_ints hh fun h' tk hk => ?_
  by_cases hxy : y > x
  · rw [if_pos hxy] at P ⊢; exact P.keep hk (.int _ _) _
  · rw [if_neg hxy] at P ⊢; exact P.keep hk (.int _ _) _
theorem blt_str {x : Int} (h : 0 ≤ x ∧ x < 1000000) : BltOK c A .str [.int x] (.str (decText x)) := by
  intro b s F E Q us B ru P
  obtain ⟨v, rfl, r1⟩ := ru.one
  obtain ⟨t, rfl⟩ := r1.inv
  refine PySem.P.str_of_int ?_ (P.same (.str _ _) _)
  have : x.natAbs < 2 ^ 20 := by omega
  by_cases h0 : x.natAbs = 0
  · rw [h0]; decide
  · have := (Nat.log2_lt h0).mpr this; exact Nat.le_trans this (by decide)
theorem blt_ord {x : Str} {ch : Nat} (h : x.cps.toList = [ch]) : BltOK c A .ord [.str x] (.int ch) := by
  intro b s F E Q us B ru P
  obtain ⟨v, rfl, r1⟩ := ru.one
  obtain ⟨t, rfl⟩ := r1.inv
  obtain rfl : x = ⟨#[ch]⟩ := by cases x; exact congrArg Str.mk (Array.toList_inj.mp h)
  exact PySem.P.ord_of_char (P.same (.int _ _) _)

/-! sorted -/
theorem ltN_iff : ∀ {a b : List Nat}, ltN a b = true ↔ a < b := by
  intro a
  induction a with
  | nil => intro b; cases b with
    | nil => exact ⟨nofun, nofun⟩
    | cons y b => exact ⟨fun _ => .nil, fun _ => rfl⟩
  | cons x a ih => intro b; cases b with
    | nil => exact ⟨nofun, nofun⟩
    | cons y b =>
      show (match Nat.beq x y with | true => ltN a b | false => Nat.blt x y) = true ↔ _
      rw [List.cons_lt_cons_iff]
      cases h : Nat.beq x y with
      | true =>
        obtain rfl := Nat.eq_of_beq_eq_true h
        exact ih.trans ⟨fun h => .inr ⟨rfl, h⟩, fun h => h.elim (fun h => absurd h (Nat.lt_irrefl _)) (·.2)⟩
      | false =>
        have hne : x ≠ y := fun e => by subst e; rw [Nat.beq_refl] at h; cases h
        show Nat.blt x y = true ↔ _
        rw [Nat.blt_eq]
        exact ⟨.inl, fun h => h.elim id fun h => absurd h.1 hne⟩
abbrev leS (a b : Str) : Prop := a.cps.toList ≤ b.cps.toList
theorem insS_eq (s t : Str) (r : List Str) : insS s (t :: r) = match ltN t.cps.toList s.cps.toList with | true => t :: insS s r | false => s :: t :: r := rfl
theorem insS_perm (s : Str) (l : List Str) : (insS s l).Perm (s :: l) := by
  induction l with
  | nil => exact .refl _
  | cons t r ih =>
    rw [insS_eq]
    cases ltN t.cps.toList s.cps.toList with
    | true => exact (ih.cons t).trans (.swap ..)
    | false => exact .refl _
theorem sortS_perm (l : List Str) : (sortS l).Perm l := by
  induction l with
  | nil => exact .refl _
  | cons s r ih => exact (insS_perm s _).trans (ih.cons s)
theorem insS_sorted (s : Str) (l : List Str) : l.Pairwise leS → (insS s l).Pairwise leS := by
  induction l with
  | nil => intro _; exact List.pairwise_singleton _ _
  | cons t r ih =>
    intro h
    have h' := List.pairwise_cons.mp h
    rw [insS_eq]
    cases hlt : ltN t.cps.toList s.cps.toList with
    | true => exact List.pairwise_cons.mpr ⟨fun b hb => (List.mem_cons.mp ((insS_perm s r).mem_iff.mp hb)).elim (fun e => e ▸ List.le_of_lt (ltN_iff.mp hlt)) (h'.1 b), ih h'.2⟩
    | false =>
      have hle : leS s t := List.not_lt.mp fun q => by rw [ltN_iff.mpr q] at hlt; cases hlt
      exact List.pairwise_cons.mpr ⟨fun b hb => (List.mem_cons.mp hb).elim (fun e => e ▸ hle) fun hb => List.le_trans hle (h'.1 b hb), h⟩
theorem sortS_sorted (l : List Str) : (sortS l).Pairwise leS := by
  induction l with
  | nil => exact .nil
  | cons s r ih => exact insS_sorted s _ ih
theorem rising_pairs (l : List Str) : ∀ (p : Str), risingS p l = true → (p :: l).Pairwise leS := by
  induction l with
  | nil => intro p _; exact List.pairwise_singleton _ _
  | cons x r ih =>
    intro p h
    have h2 : (!PySem.Spec.ltCps x.cps.toList p.cps.toList && risingS x r) = true := h
    rw [Bool.and_eq_true, ltCps_eq, Bool.not_eq_true', decide_eq_false_iff_not] at h2
    have hx := ih x h2.2
    have hpx : leS p x := List.not_lt.mp h2.1
    exact List.pairwise_cons.mpr ⟨fun b hb => (List.mem_cons.mp hb).elim (fun e => e ▸ hpx) fun hb => List.le_trans hpx ((List.pairwise_cons.mp hx).1 b hb), hx⟩
theorem sorted_unique {ss ss' : List Str} (h : sortedS ss' = true) (p : ss'.Perm ss) : ss' = sortS ss := by
  have hs : ss'.Pairwise leS := by
    cases ss' with
    | nil => exact .nil
    | cons x r => exact rising_pairs r x h
  refine List.Perm.eq_of_pairwise (le := leS) (fun a b _ _ h1 h2 => ?_) hs (sortS_sorted ss) (p.trans (sortS_perm ss).symm)
  have := List.le_antisymm h1 h2
  cases a; cases b; exact congrArg Str.mk (Array.toList_inj.mp this)
theorem strs_reps {h : Heap} {vs : List Value} {ss : List Str} (x : StrsAre vs ss) : Reps c F h vs (ss.map .str) := by
  induction x with
  | nil => exact .nil
  | cons y t r ih => exact .cons (.str y t) ih
theorem keys_strs (vs : List Value) : ∀ (ks : List Str), vs.length = ks.length → (∀ (j : Nat) (v : Value), vs[j]? = some v → ∃ k, ks[j]? = some k ∧ c.kd.is k v = true) → StrsAre vs ks := by
  induction vs with
  | nil => intro ks hl _; cases ks with
    | nil => exact .nil
    | cons _ _ => cases hl
  | cons v vs ih => intro ks hl h; cases ks with
    | nil => cases hl
    | cons k ks =>
      obtain ⟨k', h1, h2⟩ := h 0 v rfl
      cases h1
      obtain ⟨t, rfl⟩ := Value.isStrOf_shape h2
      exact .cons k t (ih ks (Nat.succ.inj hl) fun j => h (j + 1))
theorem blt_sorted (hh : A.handled = none) {es : List (Str × PV)} (hz : es.length < 64) : BltOK c A .sorted [.dict es] (.list ((sortS (es.map (·.1))).map .str)) := by
  intro b s F E Q us B ru P
  obtain ⟨v, rfl, r1⟩ := ru.one
  obtain ⟨a, kvs, rfl, f, hs, d, r⟩ := r1.inv
  have hl := r.length
  obtain ⟨ep, hat⟩ := d.dictAt
  have esz : sizeLine = 16777216 := rfl
  refine Calls.call_function_entry kind_sorted plain_sorted entry_sorted (args_sorted1 _) ?_
  unfold Builtin.«sorted»
  refine wpAny_bind (m := checkCount "sorted" 1 1 _) (wpAny_pure ?_)
  refine wpAny_bind (kdu_collect (A := A.in1) (kdl_dict (knd := c.kd) (kvs := kvs) (ep := ep) hs) hh hat (by omega) fun h' tk acc hk hacc => ?_)
  have hal : acc.toList.length = kvs.length := by rw [Array.length_toList]; exact hacc.1
  have hS : StrsAre acc.toList (es.map (·.1)) := by
    rw [← r.keys]
    refine keys_strs (c := c) acc.toList _ (by rw [hal, List.length_map]) fun j v hv => ?_
    obtain ⟨k, x, h1, h2⟩ := hacc.2 j v (by rw [← Array.getElem?_toList]; exact hv)
    exact ⟨k, by rw [List.getElem?_map, h1]; rfl, h2⟩
  refine wpAny_bind (wpAny_newList ?_ (by omega))
  have hoL : (h'.push { cls := .type "list", data := .seq acc.toList.toArray }).get? h'.objs.size = some (seqObj "list" acc.toList.toArray 0) := Heap.get?_push_size _ rfl
  refine wpAny_bind (wpAny_holding (wpAny_call_entry slot_list_sort ⟨_, hoL, rfl⟩ entry_list_sort (list_sort_treeK strKind_oneLt hoL hS.keysOf (fun v₁ v₂ rest e => keyKind_strs (by rw [← e]; exact hS)) (by (clear hoL hS hacc hk esz; omega)) fun st' hp hso => ⟨_, rfl, ?_⟩) (args_list_sort _)))
  refine wpAny_pure ⟨_, rfl, ?_⟩
  obtain ⟨ss', h1, h2, h3⟩ := sorted_out_str hS hp hso
  rw [sorted_unique h3 h2] at h1
  obtain ⟨e', he'⟩ := sortedHeap_at (out := (arrOf st').map (·.2)) hoL
  have hk' : ∀ b o, s.heap.get? b = some o → (sortedHeap (h'.push { cls := .type "list", data := .seq acc.toList.toArray }) h'.objs.size acc.toList ((arrOf st').map (·.2))).get? b = some o := fun b o e => by
    have hlt := Heap.lt_size (hk _ _ e)
    rw [sortedHeap_old (Nat.ne_of_lt hlt) (by rw [Heap.size_push]; exact Nat.lt_succ_of_lt hlt)]
    exact push_keep _ _ _ (hk _ _ e)
  exact P.add (a := h'.objs.size) hk' (none_of (hk _) none_size) (get_some he') (.list' (.inr rfl) ⟨_, he'⟩ (strs_reps h1)) _

def isB : Value → Bool
  | .bool b => b
  | _ => true
theorem bools_all {h : Heap} : ∀ {xs : List PV} {vs : List Value} {b : Bool}, Reps c F h vs xs → allBools xs = some b → vs.all isB = b ∧ ∀ v ∈ vs, ∃ d, v = .bool d := by
  intro xs
  induction xs with
  | nil => intro vs b r e; obtain rfl := r.inv; cases e; exact ⟨rfl, fun _ h => absurd h List.not_mem_nil⟩
  | cons x xs ih =>
    intro vs b r e
    obtain ⟨v, us, rfl, r1, r2⟩ := r.inv
    obtain ⟨d, hd, e⟩ := bind_some e
    obtain rfl := asBool_inv hd
    obtain ⟨z, hz, rfl⟩ := map_some e
    obtain rfl := r1.inv
    obtain ⟨h2, h3⟩ := ih r2 hz
    exact ⟨by rw [List.all_cons, h2]; rfl, fun v hv => (List.mem_cons.mp hv).elim (fun e => ⟨_, e⟩) (h3 v)⟩
theorem range_all (l : List Value) : (List.range l.length).all (fun i => match l[i]? with | some v => isB v | none => true) = l.all isB := by
  rw [Bool.eq_iff_iff, List.all_eq_true, List.all_eq_true]
  constructor
  · intro h v hv
    obtain ⟨i, hi, rfl⟩ := List.mem_iff_getElem.mp hv
    have := h i (List.mem_range.mpr hi)
    rwa [List.getElem?_eq_getElem hi] at this
  · intro h i hi
    rw [List.getElem?_eq_getElem (List.mem_range.mp hi)]
    exact h _ (List.getElem_mem _)
theorem blt_all (hh : A.handled = none) {xs : List PV} {r : Bool} (hb : allBools xs = some r) : BltOK c A .all [.list xs] (.bool r) := by
  intro b s F E Q us B ru P
  obtain ⟨v, rfl, r1⟩ := ru.one
  obtain ⟨a, its, rfl, f, p, rr⟩ := r1.inv
  obtain ⟨h1, h2⟩ := bools_all rr hb
  have hlt : a < s.heap.objs.size := let ⟨_, ho⟩ := p; Heap.lt_size ho
  refine call_all_walk (wpAny_pyIter_list p.isList ?_)
  refine ⟨s.heap.objs.size, [s.heap.objs.size, a], [s.heap.objs.size], its.size, _, _, fun i => match its.toList[i]? with | some v => isB v | none => true, rfl, Walks.list (A := A.in1) hh _ a (Nat.ne_of_lt hlt) its, ⟨⟨_, Heap.get?_push_size _ rfl, rfl, rfl⟩, p.isList.at (push_keep _ a)⟩, ?_, fun h' tk hk => ?_⟩
  · intro i v s' Q' E' hP hQ
    rw [← Array.getElem?_toList] at hP
    obtain ⟨d, rfl⟩ := h2 v (List.mem_of_getElem? hP)
    refine wpAny_truthy_bool ?_
    have hQ' : Q' (match its.toList[i]? with | some v => isB v | none => true) s' := hQ
    rw [hP] at hQ'
    exact hQ'
  · have := range_all its.toList
    rw [Array.length_toList] at this
    rw [this, h1]
    exact P.keep (fun b o e => hk b o (fun m => Nat.ne_of_lt (Heap.lt_size e) (List.mem_singleton.mp m)) (push_keep _ _ _ e)) (.bool _) tk

/-! dict(x), the object at hand -/
def NewPost (c : Cx) (F : Fz) (s : Shared) (x : PV) (Q : Value → Shared → Prop) : Prop :=
  ∀ a h' tk, (∀ b o, s.heap.get? b = some o → h'.get? b = some o) → s.heap.get? a = none → ObjIs c F h' a x → Q (.ref a) { s with heap := h', toks := tk }
def NewOK (c : Cx) (A : Around) (x : PV) (r : PV) : Prop :=
  ∀ (b : Bowl) (s : Shared) (F : Fz) (E : Value → Shared → Prop) (Q : Value → Shared → Prop) (u : Value), Base c F b s.heap → Rep c F s.heap u x → NewPost c F s r Q → wpAny c.M A (call (.type "dict") [u]) Q E s
theorem sys_ne (T : Stat c) {h : Heap} (hb : ∀ b o, c.h0.get? b = some o → h.get? b = some o) (ha : h.get? h.objs.size = none) : (h.objs.size == sysModules) = false := by
  obtain ⟨mg, _, ⟨o, _, _, ho, _⟩, _⟩ := T.ns
  have : mainGlobals < h.objs.size := Heap.lt_size (hb _ _ ho)
  rw [beq_eq_false_iff_ne]
  exact Nat.ne_of_gt (Nat.lt_trans (by decide) this)
theorem new_dict (T : Stat c) {es : List (Str × PV)} (hz : sizeOk es.length = true) : NewOK c A (.dict es) (.dict es) := by
  intro b s F E Q u B ru P
  obtain ⟨a, kvs, rfl, f, hs, d, r⟩ := ru.inv
  refine kt_call_dict (knd := c.kd) hs d (by rw [r.length]; exact sizeOk_le hz) fun h' hd hsame => ?_
  have hk : ∀ b o, s.heap.get? b = some o → h'.get? b = some o := fun b o e => (hsame.2 b (Nat.ne_of_lt (Heap.lt_size e))).trans (push_keep _ _ _ e)
  exact P _ _ _ hk none_size ⟨sys_ne T B.base none_size, _, hd, r.keep (.all (fun _ => id) hk)⟩
/-- dict of a list of pairs -/
def PairsOK (c : Cx) : Prop := ∀ A es xs, A.handled = none → pairsOf xs = some es → sizeOk xs.length = true → NewOK c A (.list xs) (.dict (storeAll [] es))
theorem NewOK.blt {x : PV} {r : PV} (h : NewOK c A x r) : BltOK c A .dict [x] r := by
  intro b s F E Q us B ru P
  obtain ⟨v, rfl, r1⟩ := ru.one
  exact h b s F E Q v B r1 fun a h' tk hk hn ho => P.add hk hn ho.alive ((ho.keep (.all (fun _ => .inl) fun _ _ => id) fun _ => id).rep (.inr rfl)) tk
theorem new_sound (T : Stat c) (hdp : PairsOK c) (hh : A.handled = none) {x r : PV} (e : blt1 .dict x = some r) : NewOK c A x r := by
  cases x with
  | dict es => obtain ⟨hz, rfl⟩ := guard_some e; exact new_dict T hz
  | list xs =>
    have e' : (match sizeOk xs.length with | true => (pairsOf xs).map fun es => PV.dict (storeAll [] es) | false => none) = some r := e
    cases hz : sizeOk xs.length with
    | true => rw [hz] at e'; obtain ⟨es, h1, rfl⟩ := map_some e'; exact hdp A es xs hh h1 hz
    | false => rw [hz] at e'; exact none_some e'
  | _ => exact none_some e
theorem blt_sound (T : Stat c) (hdp : PairsOK c) (hh : A.handled = none) {k : Blt} {xs : List PV} {r : PV} (e : bltAt k xs = some r) : BltOK c A k xs r := by
  cases k with
  | max =>
    obtain ⟨p, h1, h2⟩ := bind_some e
    obtain ⟨i, j, e1, e2, h⟩ := ints2_inv h2
    rw [two_inv h1, e1, e2]
    cases h
    exact blt_max hh
  | dict => obtain ⟨x, h1, h2⟩ := bind_some e; rw [one_inv h1]; exact (new_sound T hdp hh h2).blt
  | len =>
    obtain ⟨x, h1, h2⟩ := bind_some e; rw [one_inv h1]
    cases x with
    | list xs => obtain ⟨hz, rfl⟩ := guard_some h2; exact blt_len hz
    | _ => exact none_some h2
  | list =>
    obtain ⟨x, h1, h2⟩ := bind_some e; rw [one_inv h1]
    cases x with
    | list xs => obtain ⟨hz, rfl⟩ := guard_some h2; exact blt_list hz
    | _ => exact none_some h2
  | tuple =>
    obtain ⟨x, h1, h2⟩ := bind_some e; rw [one_inv h1]
    cases x with
    | list xs => obtain ⟨hz, rfl⟩ := guard_some h2; exact blt_tuple hz
    | _ => exact none_some h2
  | sorted =>
    obtain ⟨x, h1, h2⟩ := bind_some e; rw [one_inv h1]
    cases x with
    | dict es => obtain ⟨hz, rfl⟩ := guard_some h2; exact blt_sorted hh (Nat.le_of_ble_eq_true hz)
    | _ => exact none_some h2
  | str =>
    obtain ⟨x, h1, h2⟩ := bind_some e; rw [one_inv h1]
    cases x with
    | int i => obtain ⟨hz, rfl⟩ := guard_some h2; exact blt_str (of_decide_eq_true hz)
    | _ => exact none_some h2
  | ord =>
    obtain ⟨x, h1, h2⟩ := bind_some e; rw [one_inv h1]
    cases x with
    | str i => obtain ⟨ch, hc, rfl⟩ := map_some h2; exact blt_ord (one_inv hc)
    | _ => exact none_some h2
  | all =>
    obtain ⟨x, h1, h2⟩ := bind_some e; rw [one_inv h1]
    cases x with
    | list i => obtain ⟨ch, hc, rfl⟩ := map_some h2; exact blt_all hh hc
    | _ => exact none_some h2
end
end Mine

set_option maxRecDepth 100000
set_option linter.unusedVariables false
namespace Mine
open PySem PySem.W PySem.Calls PyProof.Rows PySem.SeqAt

structure TabOK (c : Cx) : Prop where
  fn : ∀ f fi, tab f = some fi → FnOK c f fi
  glob : ∀ f fi, tab f = some fi → noDot f = true → nsIn c.K mainGlobals f = some (some (.ref (c.fn f)))
  init : ∀ C fs, classFields C = some fs → ∃ fi, tab (initName C) = some fi ∧ InitOK c C fs fi
  blt : ∀ f, memS f bltNames = true → nsIn c.K mainGlobals f = some none
  meth : ∀ C fs m fi, classFields C = some fs → tab (C ++ "." ++ m) = some fi → findIn c.K (.ref (c.cls C)) m = some (some (.ref (c.fn (C ++ "." ++ m)))) ∧ m ∉ fs ∧ typeIn c.K (.ref (c.fn (C ++ "." ++ m))) = some (.type "function")

section
variable {c : Cx} {A : Around} {env : Env} {sc : Scope} {F : Fz} {oa : Option Addr} {st st1 st2 : St} {m : Str → Option Value} {E : Value → Shared → Prop}

theorem plain_any (env : Env) (es : List Expr) : (plainTrees es env).any (·.1) = false := by
  induction es with
  | nil => rfl
  | cons e r ih => exact ih
theorem plain_all (env : Env) (es : List Expr) : ((plainTrees es env).all fun x => !x.1) = true := by
  induction es with
  | nil => rfl
  | cons e r ih => exact ih
/-- the arguments, then the call -/
theorem args_then {K' : Frag} {first : List Value} {Q : Value → Shared → Prop} {s : Shared} {pos : Pos} {fv : Value} {args : List Expr} (hne : args.isEmpty = false) (hf : ((∃ id, fv = .builtin id) ∨ ∃ t, fv = .type t) ∨ keepIn K' fv = true)
    (h : wpAny c.M A (spliced (plainTrees args env)) (fun vs s₁ => K'.In s₁.heap ∧ wpAny c.M A (call fv (first ++ vs)) Q E s₁) E s) : wpAny c.M A (callWith pos fv first (plainTrees args env) []) Q E s := by
  cases args with
  | nil => cases hne
  | cons e r =>
    rcases hf with (⟨id, rfl⟩ | ⟨t, rfl⟩) | hk
    · exact callWith_builtin (plain_any _ _) (evalArgs_plain (wpAny_mono h (fun _ _ x => x.2) fun _ _ x => x))
    · exact PyProof.Rows.callWith_type (plain_any _ _) (evalArgs_plain (wpAny_mono h (fun _ _ x => x.2) fun _ _ x => x))
    · exact callWith_of (P := K'.In) (by rw [plain_any]; rfl) (keeps_K hk) (evalArgs_plain h)

theorem EvPost.call {s : Shared} {r : PV} {b' : Bowl} {Q : Value → Shared → Prop} (P : EvPost c env F oa m s { st1 with bowl := b' } r Q) (I : Inv c env F oa st1 s.heap m) : CallPost c F s r b' Q :=
  fun v h' tk F' oa' hs B rv => P v h' tk F' oa (hs.call oa) (I.call hs B.bowl B.base B.dom) rv

/-- what a name stands for -/
def Loads (c : Cx) (A : Around) (sc : Scope) (f : Str) (fv : Value) : Prop :=
  ∀ (env : Env) (st : St) (s : Shared) (F : Fz) (oa : Option Addr) (m : Str → Option Value) (E : Value → Shared → Prop) (Q : Value → Shared → Prop) (p : Pos), EnvOK env sc → Inv c env F oa st s.heap m → Q fv s → wpAny c.M A (eval (.Name f p) env) Q E s
theorem ev_callee (T : Stat c) {f : Str} {np pos : Pos} {fv : Value} {args : List Expr} {vs : List PV} {x : PV} {b' : Bowl} (hl : Loads c A sc f fv) (hf : ((∃ id, fv = .builtin id) ∨ ∃ t, fv = .type t) ∨ keepIn c.K fv = true) (hne : args.isEmpty = false) (h1 : EvsOK c A sc st args vs st1)
    (hc : ∀ (s : Shared) (F : Fz) (E : Value → Shared → Prop) (Q : Value → Shared → Prop) (us : List Value), Base c F st1.bowl s.heap → Reps c F s.heap us vs → CallPost c F s x b' Q → wpAny c.M A (call fv us) Q E s) : EvOK c A sc st (.Call (.Name f np) args [] pos) x { st1 with bowl := b' } := by
  intro env s F oa m E Q hE I P
  refine wpAny_Call_NameR ?_
  rw [h1.star]
  refine hl env st s F oa m E _ np hE I (args_then (K' := c.K) hne hf ?_)
  exact h1.run env s F oa m E _ hE I fun us h' tk F' oa' hs I' ru => ⟨inK T I', hc _ F' E Q us I'.toBase ru ((P.then (tk := tk) hs).call I')⟩
theorem ev_blt (T : Stat c) (TB : TabOK c) (hdp : PairsOK c) (hh : A.handled = none) {f : Str} {np pos : Pos} {args : List Expr} {vs : List PV} {k : Blt} {r : PV} (hk : kindIs sc f .globalImplicit = true) (hne : args.isEmpty = false) (h1 : EvsOK c A sc st args vs st1) (hb : lk f blts = some k) (e : bltAt k vs = some r) : EvOK c A sc st (.Call (.Name f np) args [] pos) r st1 := by
  obtain ⟨hv, hm, hn⟩ := blts_ok.mem (lk_mem hb)
  refine ev_callee (b' := st1.bowl) T (fun env st s F oa m E Q p hE I h => load_blt T hE I hk (TB.blt f hm) hv hn h) (.inl ?_) hne h1 fun s F E Q us B ru P => blt_sound T hdp hh e _ s F E Q us B ru (P.grow B)
  cases k <;> first | exact .inl ⟨_, rfl⟩ | exact .inr ⟨_, rfl⟩
theorem ev_make (T : Stat c) (TB : TabOK c) {n : Nat} (hA : AOK A (n + 1)) {f : Str} {np pos : Pos} {args : List Expr} {vs : List PV} {fs : List Str} (hk : kindIs sc f .globalImplicit = true) (hne : args.isEmpty = false) (h1 : EvsOK c A sc st args vs st1) (hcf : classFields f = some fs) (hl : fs.length = vs.length) : EvOK c A sc st (.Call (.Name f np) args [] pos) (.inst f (fs.zip vs)) st1 := by
  obtain ⟨fi, ht, O⟩ := TB.init f fs hcf
  exact ev_callee (b' := st1.bowl) T (fun env st s F oa m E Q p hE I h => load_glob T hE I hk (T.cls f fs hcf).glob h) (.inr O.keepC) hne h1 fun s F E Q us B ru P => make_sound T hcf O (TB.fn _ _ ht) hA hl B ru (P.grow B)
theorem ev_fn (T : Stat c) (TB : TabOK c) {f : Str} {np pos : Pos} {args : List Expr} {vs : List PV} {x : PV} {b' : Bowl} {fi : FnInfo} (hk : kindIs sc f .globalImplicit = true) (hne : args.isEmpty = false) (h1 : EvsOK c A sc st args vs st1) (ht : tab f = some fi) (hnd : noDot f = true) (hc : CallOK c A f vs st1.bowl x b') : EvOK c A sc st (.Call (.Name f np) args [] pos) x { st1 with bowl := b' } :=
  ev_callee T (fun env st s F oa m E Q p hE I h => load_glob T hE I hk (TB.glob f fi ht hnd) h) (.inr (TB.fn f fi ht).keep) hne h1 fun s F E Q us B ru P => hc s F E Q us B ru P

/-! dict(x) as an object of the frame's own -/
theorem fresh_call (T : Stat c) (TB : TabOK c) (hdp : PairsOK c) (hh : A.handled = none) {e1 : Expr} {np pos : Pos} {v x : PV} (hk : kindIs sc "dict" .globalImplicit = true) (h1 : EvsOK c A sc st [e1] [v] st1) (e : blt1 .dict v = some x) : FreshOK c A sc st (.Call (.Name "dict" np) [e1] [] pos) x st1 := by
  intro env s F oa m E Q hE I P
  refine wpAny_Call_NameR ?_
  rw [h1.star]
  refine load_blt T hE I hk (TB.blt _ (by decide)) (by kernel_rfl : bootBuiltins "dict" = some (.type "dict")) (by decide) ?_
  refine args_then (K' := c.K) (args := [e1]) rfl (.inl (.inr ⟨_, rfl⟩)) ?_
  refine h1.run env s F oa m E _ hE I fun us h' tk F' oa' hs I' ru => ⟨inK T I', ?_⟩
  obtain ⟨u, rfl, r1⟩ := ru.one
  refine new_sound T hdp hh e _ { s with heap := h', toks := tk } F' E Q u I'.toBase r1 fun a h3 tk3 hk3 hn3 ho3 => ?_
  exact P a h3 tk3 F' oa' (hs.trans (.grown _ _ _ hk3)) (I'.grown hk3) ho3 (.new I' fun b z => z ▸ hn3) (none_dom (hs.dom _) hn3)

/-! isinstance -/
theorem kit_any (T : Stat c) {D : Str} {gs : List Str} (hD : classFields D = some gs) (cs : List Str) : (∀ C ∈ cs, (classFields C).isSome = true) → kitAny c.K (.ref (c.cls D)) (cs.map fun C => .ref (c.cls C)) = some (memS D cs) := by
  induction cs with
  | nil => intro _; rfl
  | cons C cs ih =>
    intro h
    obtain ⟨fs, hC⟩ := Option.isSome_iff_exists.mp (h C (.head _))
    rw [List.map_cons, kitAny, (T.cls D gs hD).sub C fs hC]
    show _ = some (match seq D C with | true => true | false => memS D cs)
    cases seq D C with
    | true => rfl
    | false => exact ih fun C hC => h C (.tail _ hC)
theorem clsName_of {C : Str} (h : clsName sc C = true) : kindIs sc C .globalImplicit = true ∧ (classFields C).isSome = true := by
  unfold clsName at h
  cases hk : kindIs sc C .globalImplicit with
  | true => rw [hk] at h; exact ⟨rfl, h⟩
  | false => rw [hk] at h; cases h
/-- the names of classes -/
structure NamesOK (c : Cx) (A : Around) (sc : Scope) (es : List Expr) (cs : List Str) : Prop where
  cls : ∀ C ∈ cs, (classFields C).isSome = true
  len : cs.length = es.length
  star : ∀ env pos, backTo pos (starEach es env) = plainTrees es env
  run : ∀ (env : Env) (st : St) (s : Shared) (F : Fz) (oa : Option Addr) (m : Str → Option Value) (E : Value → Shared → Prop) (Q : List Value → Shared → Prop), EnvOK env sc → Inv c env F oa st s.heap m → Q (cs.map fun C => .ref (c.cls C)) s → wpAny c.M A (spliced (plainTrees es env)) Q E s
theorem classNames_ok (T : Stat c) (es : List Expr) : ∀ {cs : List Str}, classNames sc es = some cs → NamesOK c A sc es cs := by
  induction es with
  | nil => intro cs h; cases h; exact ⟨fun _ h => absurd h List.not_mem_nil, rfl, fun _ _ => rfl, fun env st s F oa m E Q hE I q => spliced_nil q⟩
  | cons e es ih =>
    intro cs h
    cases e with
    | Name C p =>
      have h' : (match clsName sc C with | true => (classNames sc es).map (C :: ·) | false => none) = some cs := h
      cases hk : clsName sc C with
      | false => rw [hk] at h'; exact none_some h'
      | true =>
        rw [hk] at h'
        obtain ⟨cs', h1, rfl⟩ := map_some h'
        have N := ih h1
        obtain ⟨h2, h3⟩ := clsName_of hk
        obtain ⟨fs, hC⟩ := Option.isSome_iff_exists.mp h3
        exact ⟨fun D hD => (List.mem_cons.mp hD).elim (fun e => e ▸ h3) (N.cls D), congrArg (· + 1) N.len, fun env pos => star_cons rfl (N.star env pos), fun env st s F oa m E Q hE I q =>
          spliced_cons (load_glob T hE I h2 (T.cls C fs hC).glob (N.run env st s F oa m E (fun r s₃ => Q (.ref (c.cls C) :: r) s₃) hE I q))⟩
    | _ => exact none_some h
theorem ev_isi (T : Stat c) (TB : TabOK c) {e1 ce : Expr} {np pos : Pos} {D : Str} {fs : List (Str × PV)} {cs : List Str} (hk : kindIs sc "isinstance" .globalImplicit = true) (hn : notStar e1 = true) (h1 : EvOK c A sc st e1 (.inst D fs) st1) (h2 : kitOf sc ce = some cs) : EvOK c A sc st (.Call (.Name "isinstance" np) [e1, ce] [] pos) (.bool (memS D cs)) st1 := by
  intro env s F oa m E Q hE I P
  refine wpAny_Call_NameR ?_
  refine load_blt T hE I hk (TB.blt _ (by decide)) (by kernel_rfl : bootBuiltins "isinstance" = some (.builtin "isinstance")) (by decide) ?_
  have hce : notStar ce = true := by cases ce <;> first | rfl | exact none_some h2
  rw [star_cons hn (star_cons hce rfl)]
  refine args_then (K' := c.K) (args := [e1, ce]) rfl (.inl (.inl ⟨_, rfl⟩)) ?_
  refine spliced_cons (h1 env s F oa m E _ hE I fun u h' tk F' oa' hs I' ru => ?_)
  obtain ⟨a, d, kvs, rfl, fa, fd, ho, ⟨es, nn, hdo, hfit⟩, re, hcf⟩ := ru.inv
  have CO := T.cls D _ hcf
  have X := inK T I'
  have IA : W.InstAt h' a (instObj (c.cls D) d) (c.cls D) (some (dictOf es nn)) := ⟨ho, rfl, rfl, hdo⟩
  have Z : KitX c.K (.ref a) (.ref (c.cls D)) (fun h => W.InstAt h a (instObj (c.cls D) d) (c.cls D) (some (dictOf es nn))) := kitx_own CO.gcl CO.dict CO.cl CO.cs CO.ct CO.mro
  cases ce with
  | Name C p =>
    obtain ⟨hkc, rfl⟩ := guard_some h2
    obtain ⟨hg, hC⟩ := clsName_of hkc
    obtain ⟨gs, hC⟩ := Option.isSome_iff_exists.mp hC
    refine spliced_cons (load_glob (s := { s with heap := h', toks := tk }) T hE I' hg (T.cls C gs hC).glob (spliced_nil ⟨X, ?_⟩))
    refine kia_one (s := { s with heap := h', toks := tk }) Z X IA (CO.sub C gs hC) nofun fun tk' => ?_
    have : memS D [C] = seq D C := by
      show (match seq D C with | true => true | false => false) = _
      cases seq D C <;> rfl
    rw [← this]
    exact P _ h' tk' F' oa' hs I' (.bool _)
  | Tuple es' ctx p =>
    have h2' : (match Nat.blt es'.length 100 with | true => classNames sc es' | false => none) = some cs := h2
    cases hlt : Nat.blt es'.length 100 with
    | false => rw [hlt] at h2'; exact none_some h2'
    | true =>
      rw [hlt] at h2'
      have N := classNames_ok (c := c) (A := A) T es' h2'
      refine spliced_cons (wpAny_Tuple_spliced ?_)
      rw [N.star]
      refine N.run env st1 { s with heap := h', toks := tk } F' oa' m E _ hE I' ⟨?_, ?_⟩
      · rw [List.length_map, N.len]; have := Nat.le_of_ble_eq_true hlt; exact Nat.le_trans (Nat.le_of_succ_le this) (by decide)
      · have k := push_keep (h := h') { cls := .type "tuple", data := .seq (cs.map fun C => Value.ref (c.cls C)).toArray }
        refine spliced_nil ⟨X.keeps k, ?_⟩
        refine kia_tup (s := { s with heap := h'.push { cls := .type "tuple", data := .seq (cs.map fun C => Value.ref (c.cls C)).toArray }, toks := tk }) (dd := none) (n := 0) (sl := #[]) (its := cs.map fun C => Value.ref (c.cls C)) Z (X.keeps k) ⟨k _ _ ho, rfl, rfl, k _ _ hdo⟩ (Heap.get?_push_size _ rfl) (kit_any T hcf cs N.cls) nofun fun tk' => ?_
        exact P _ _ tk' _ _ (hs.trans (.grown _ _ _ k)) (I'.grown k) (.bool _)
  | _ => exact none_some h2

/-! methods -/
theorem few_of {args : List Expr} {pos : Pos} (h : Nat.blt args.length 5 = true) : methodCallForm (args.length + ([] : List Keyword).length) (plainTrees args env) (backToKw pos (keywordEach [] env)) = true := by
  have h := Nat.le_of_ble_eq_true h
  show ((plainTrees args env).all (fun x => !x.1) && true && decide (args.length + 0 + 0 < 30)) = true
  rw [plain_all, decide_eq_true (by exact Nat.le_trans h (by decide))]; rfl
theorem call_method {o : Expr} {m : Str} {ap pos : Pos} {args : List Expr} {s : Shared} {Q : Value → Shared → Prop} (hnc : notCall o = true) (hline : Nat.beq ap.endLine pos.line = true) (hst : ∀ env pos, backTo pos (starEach args env) = plainTrees args env) (hfew : Nat.blt args.length 5 = true)
    (h : wpAny c.M A (eval o env) (fun ov s₁ => ∀ pl, wpAny c.M A (getMethod ov m pl) (fun r s₂ => wpAny c.M A (callWith pos r.1 r.2 (plainTrees args env) []) Q E s₂) E s₁) E s) : wpAny c.M A (eval (.Call (.Attribute o m ap) args [] pos) env) Q E s := by
  rw [arm_eval_Call, attributeBase_of hnc, hst]
  refine wpAny_bind (wpAny_mono h (fun ov s₁ h₁ => ?_) fun _ _ e => e)
  refine wpAny_bind (wpAny_standAt ?_)
  have hpos : methodCallPos true o env ap pos = pure pos := by
    unfold methodCallPos
    rw [Nat.eq_of_beq_eq_true hline]
    simp
  unfold methodCall
  rw [few_of hfew]
  unfold calleeOf
  rw [if_pos rfl]
  exact wpAny_bind (wpAny_holding (wpAny_mono (h₁ _) (fun r s₂ h₂ => wpAny_bind (wpAny_of_eq hpos h₂)) fun _ _ e => e))

theorem ev_meth (T : Stat c) (TB : TabOK c) {o : Expr} {m C : Str} {ap pos : Pos} {fs : List (Str × PV)} {x : PV} {b' : Bowl} {fi : FnInfo} (hnc : notCall o = true) (hline : Nat.beq ap.endLine pos.line = true) (h1 : EvOK c A sc st o (.inst C fs) st1) (ht : tab (C ++ "." ++ m) = some fi) (hc : CallOK c A (C ++ "." ++ m) [.inst C fs] st1.bowl x b') :
    EvOK c A sc st (.Call (.Attribute o m ap) [] [] pos) x { st1 with bowl := b' } := by
  intro env s F oa ms E Q hE I P
  refine call_method hnc hline (fun _ _ => rfl) rfl ?_
  refine h1 env s F oa ms E _ hE I fun u h' tk F' oa' hs I' ru pl => ?_
  have ru' := ru
  obtain ⟨a, d, kvs, rfl, fa, fd, ho, ⟨es, nn, hdo, hfit⟩, re, hcf⟩ := ru.inv
  have CO := T.cls C _ hcf
  have X := inK T I'
  obtain ⟨hfind, hm, hty⟩ := TB.meth C _ m fi hcf ht
  have hnone : valueAt kvs m = none := by
    cases hq : lk m fs with
    | none => exact re.lk_none hq
    | some z => exact absurd (mem_of_lk hq) hm
  refine method_fn (s := { s with heap := h', toks := tk }) (od := some (dictOf es nn)) (ox := instObj (c.cls C) d) X ⟨ho, rfl, rfl, hdo⟩ CO.gga CO.gge hfind hty (by
    show (lookIn m (dictOf es nn)).map (·.isSome) = some false
    rw [lookIn_dict, hfit.get, hnone]; rfl) ?_
  refine callWith_of (P := c.K.In) rfl (keeps_K (TB.fn _ _ ht).keep) (evalArgs_nil3 ⟨X, ?_⟩)
  exact hc { s with heap := h', toks := tk } F' E Q [.ref a] I'.toBase (.cons ru' .nil) ((P.then (tk := tk) hs).call I')

theorem dict_obj {h : Heap} {a : Addr} {kvs : List (Str × Value)} (d : h.DictOf c.kd a kvs) : ∃ o, h.get? a = some o ∧ o.dict = none := by
  obtain ⟨o, _, _, ho, hx, _⟩ := d; exact ⟨o, ho, hx.2.1⟩
theorem getD_rep {h : Heap} {kvs : List (Str × Value)} {es : List (Str × PV)} (k : Str) {d : Value} {x : PV} (r : RepE c F h kvs es) (rd : Rep c F h d x) : Rep c F h ((valueAt kvs k).getD d) ((lk k es).getD x) := by
  have := r.at' k
  cases hl : lk k es with
  | none => rw [r.lk_none hl]; exact rd
  | some z => obtain ⟨u, h1, h2⟩ := r.lk hl; rw [h1]; exact h2
theorem dictGet_inv {es : List (Str × PV)} {args : List PV} {z : PV} (h : dictGet es args = some z) : ∃ k, (args = [.str k] ∧ z = (lk k es).getD .none) ∨ ∃ d, args = [.str k, d] ∧ z = (lk k es).getD d := by
  cases args with
  | nil => exact none_some h
  | cons k r =>
    obtain ⟨k', hk, h⟩ := bind_some h
    rw [asStr_inv hk]
    refine ⟨k', ?_⟩
    cases r with
    | nil => exact .inl ⟨rfl, (Option.some.inj h).symm⟩
    | cons d r => obtain ⟨d', hd, rfl⟩ := map_some h; rw [one_inv hd]; exact .inr ⟨d', rfl, rfl⟩
theorem ev_get (T : Stat c) {o : Expr} {ap pos : Pos} {args : List Expr} {es : List (Str × PV)} {vs : List PV} {z : PV} (hnc : notCall o = true) (hline : Nat.beq ap.endLine pos.line = true) (hfew : Nat.blt args.length 5 = true) (h1 : EvOK c A sc st o (.dict es) st1) (h2 : EvsOK c A sc st1 args vs st2) (h3 : dictGet es vs = some z) :
    EvOK c A sc st (.Call (.Attribute o "get" ap) args [] pos) z st2 := by
  intro env s F oa ms E Q hE I P
  refine call_method hnc hline h2.star hfew ?_
  refine h1 env s F oa ms E _ hE I fun u h' tk F' oa' hs I' ru pl => ?_
  obtain ⟨a, kvs, rfl, f, hsy, d, re⟩ := ru.inv
  refine getMethod_builtin (M := c.M) (T := "dict") (id := "dict.get") (s := { s with heap := h', toks := tk }) d.typeIs PySem.F.plainAttrs_dict PySem.F.slot_dict_get PySem.F.type_dict_get (fun b hb => by cases hb; exact dict_obj d) ?_
  have hne : args.isEmpty = false := by
    cases args with
    | nil => obtain rfl := List.eq_nil_of_length_eq_zero h2.len; exact none_some h3
    | cons => rfl
  refine args_then (K' := c.K) hne (.inl (.inl ⟨_, rfl⟩)) ?_
  refine h2.run env _ F' oa' ms E _ hE I' fun us h'' tk' F'' oa'' hs' I'' rus => ⟨inK T I'', ?_⟩
  have k := hs'.keptB I'
  have d' := DictOf_at d fun o ho => k.2 _ o f ho
  have re' := re.keep k
  have G := (P.then (tk := tk') (hs.trans hs')).grow I''
  obtain ⟨q, ⟨rfl, rfl⟩ | ⟨dv, rfl, rfl⟩⟩ := dictGet_inv h3
  · obtain ⟨v, rfl, r1⟩ := rus.one
    obtain ⟨t, rfl⟩ := r1.inv
    exact call_meetsIn (s := { s with heap := h'', toks := tk' }) PySem.F.slot_dict_get d'.typeIs PySem.F.entry_dict_get (PySem.F.args_dict_get_2 _ _) (meets_dict_get c.kd a (strKind_is _ _ _ _) hsy) ⟨_, d'.mapOf, G.same (getD_rep q re' .none) _⟩
  · obtain ⟨v, w, rfl, r1, r2⟩ := rus.two
    obtain ⟨t, rfl⟩ := r1.inv
    exact call_meetsIn (s := { s with heap := h'', toks := tk' }) PySem.F.slot_dict_get d'.typeIs PySem.F.entry_dict_get (PySem.F.args_dict_get_3 _ _ _) (meets_dict_get_default c.kd a (strKind_is _ _ _ _) hsy _) ⟨_, d'.mapOf, G.same (getD_rep q re' r2) _⟩

theorem lenAll_fold (k : Nat) (l : List Str) : ∀ (a : Nat), l.foldl (fun n s => n + s.length + k) a ≤ a + (lenAll l + k * l.length) := by
  induction l with
  | nil => intro a; exact Nat.le_add_right _ _
  | cons s r ih =>
    intro a
    have := ih (a + s.length + k)
    rw [List.foldl_cons]
    show _ ≤ a + (s.length + 1 + lenAll r + k * (r.length + 1))
    rw [Nat.mul_succ]
    omega
theorem joinMade_post {sep : Str} {l : List (Str × Tok)} {s : Shared} {Q : Value → Shared → Prop} (hz : (joinS sep (l.map (·.1))).length ≤ sizeLine) (h : ∀ t tk, Q (.str (joinS sep (l.map (·.1))) t) { s with toks := tk }) : (joinMade sep l).post Q s := by
  unfold joinMade
  split
  · exact h _ s.toks
  · exact ⟨hz, h _ _⟩
theorem glued_size (sep : Str) (r : List Str) : ∀ (a : Array Nat), (r.foldl (fun acc p => acc ++ sep.cps ++ p.cps) a).size ≤ a.size + (lenAll r + sep.length * r.length) := by
  induction r with
  | nil => intro a; exact Nat.le_add_right _ _
  | cons p r ih =>
    intro a
    have := ih (a ++ sep.cps ++ p.cps)
    rw [Array.size_append, Array.size_append] at this
    rw [List.foldl_cons]
    show _ ≤ a.size + (p.cps.size + 1 + lenAll r + sep.cps.size * (r.length + 1))
    rw [Nat.mul_succ]
    have e1 : sep.length = sep.cps.size := rfl
    rw [e1] at this
    (clear e1; omega)
theorem glued_length (sep : Str) (l : List Str) : (joinS sep l).length ≤ lenAll l + sep.length * l.length := by
  cases l with
  | nil => exact Nat.zero_le _
  | cons p r =>
    have := glued_size sep r p.cps
    show (r.foldl (fun acc p => acc ++ sep.cps ++ p.cps) p.cps).size ≤ p.cps.size + 1 + lenAll r + sep.length * (r.length + 1)
    rw [Nat.mul_succ]
    omega
theorem sound_join {s : Shared} {Q : Value → Shared → Prop} {u v : Value} {sep : Str} {x z : PV} (h : strJoin sep x = some z) (ru : Rep c F s.heap u (.str sep)) (rv : Rep c F s.heap v x) (P : GrowPost c F s z Q) : wpAny c.M A (call (.builtin "str.join") [u, v]) Q E s := by
  obtain ⟨xs, hx, h2⟩ := bind_some h
  obtain ⟨ss, hss, h3⟩ := bind_some h2
  obtain ⟨hz, rfl⟩ := guard_some h3
  obtain rfl := asList_inv hx
  obtain ⟨t, rfl⟩ := ru.inv
  obtain ⟨a, its, rfl, f, p, r⟩ := rv.inv
  obtain ⟨ts, h5, h4⟩ := strs_rep hss r
  have hz := sizeOk_le hz
  have e1 : (ss.zip ts).map (·.1) = ss := by rw [List.map_fst_zip]; (clear h5 r p f rv ru h hx h3 h2 P hz; omega)
  have hg := glued_length sep ss
  obtain rfl : its = (strValues (ss.zip ts)).toArray := Array.toList_inj.mp (h5.trans (by simp [strValues]))
  have hl : Builtin.Str.tooLong (((ss.zip ts).map (·.1)).toArray.foldl (· + ·.length + sep.length) 0) = false := by
    rw [e1, List.foldl_toArray]
    have := lenAll_fold sep.length ss 0
    rw [Nat.zero_add] at this
    have e : sizeLine = 16777216 := rfl
    unfold Builtin.Str.tooLong
    exact decide_eq_false (by (clear e h5 r p hg e1 h4; omega))
  refine call_meets PySem.F.slot_str_join (typeIs_str _ _ _) PySem.F.entry_str_join (PySem.F.args_str_join_2 _ _) (meets_str_join_list sep t a (ss.zip ts) hl) ⟨p.isList, joinMade_post (by rw [e1]; exact Nat.le_trans hg hz) fun t' tk => ?_⟩
  rw [e1]
  exact P.same (.str _ _) tk
theorem ev_join (T : Stat c) {o e1 : Expr} {ap pos : Pos} {sep : Str} {x z : PV} (hnc : notCall o = true) (hline : Nat.beq ap.endLine pos.line = true) (h1 : EvOK c A sc st o (.str sep) st1) (h2 : EvsOK c A sc st1 [e1] [x] st2) (h3 : strJoin sep x = some z) :
    EvOK c A sc st (.Call (.Attribute o "join" ap) [e1] [] pos) z st2 := by
  intro env s F oa ms E Q hE I P
  refine call_method hnc hline h2.star rfl ?_
  refine h1 env s F oa ms E _ hE I fun u h' tk F' oa' hs I' ru pl => ?_
  have ru' := ru
  obtain ⟨t, rfl⟩ := ru.inv
  refine getMethod_builtin (M := c.M) (T := "str") (id := "str.join") (s := { s with heap := h', toks := tk }) (typeIs_str _ _ _) PySem.F.plainAttrs_str PySem.F.slot_str_join PySem.F.type_str_join (fun b hb => by cases hb) ?_
  refine args_then (K' := c.K) (args := [e1]) rfl (.inl (.inl ⟨_, rfl⟩)) ?_
  refine h2.run env _ F' oa' ms E _ hE I' fun us h'' tk' F'' oa'' hs' I'' rus => ⟨inK T I'', ?_⟩
  obtain ⟨v, rfl, r1⟩ := rus.one
  exact sound_join (s := { s with heap := h'', toks := tk' }) h3 (ru'.keep (hs'.keptB I')) r1 ((P.then (tk := tk') (hs.trans hs')).grow I'')
end
end Mine

set_option maxRecDepth 100000
set_option linter.unusedVariables false
namespace Mine
open PySem PySem.W PySem.Calls PyProof.Rows PySem.SeqAt

section
variable {c : Cx} {A : Around} {env : Env} {sc : Scope} {F : Fz} {oa : Option Addr} {st st1 st2 : St} {m : Str → Option Value} {E : Value → Shared → Prop}

/-! values of two readings of a name -/
theorem VarAt.fn {h : Heap} {x : Str} {v u : Value} (a : VarAt env h m x v) (b : VarAt env h m x u) : v = u := by
  rcases a with ⟨a1, a2⟩ | ⟨a1, cl, a2, o, a3, a4⟩ <;> rcases b with ⟨b1, b2⟩ | ⟨b1, cl', b2, o', b3, b4⟩
  · exact Option.some.inj (a2.symm.trans b2)
  · rw [a1] at b1; cases b1
  · rw [a1] at b1; cases b1
  · cases a2.symm.trans b2
    cases a3.symm.trans b3
    cases a4.symm.trans b4; rfl
theorem VarAt.step {F' : Fz} {oa' : Option Addr} {h h' : Heap} {x : Str} {v : Value} (I : Inv c env F oa st h m) (s : Step (onlyB c) F oa h F' oa' h') (a : VarAt env h m x v) : VarAt env h' m x v :=
  a.at id fun cl o e => s.keep _ _ (I.cell x cl e).2.2.2 (fun z => (I.own _ z).2.2.2.1 x cl e rfl)
/-- the owned object behind an evaluation -/
theorem own_again {F' : Fz} {oa' : Option Addr} {h h' : Heap} {x : Str} {a : Addr} {pv : PV} (I : Inv c env F oa st h m) (s : Step (onlyB c) F oa h F' oa' h') (I' : Inv c env F' oa' st1 h' m) (hva : VarAt env h m x (.ref a)) (hv : lk x st1.vars = some pv) (ho : st1.isOwn x = true) : oa' = some a ∧ ObjIs c F' h' a pv := by
  obtain ⟨b, hb, hvb, hO⟩ := I'.ovar x _ hv ho
  cases hvb.fn (hva.step I s)
  exact ⟨hb, hO⟩

theorem lk_cons {α : Type} (x : Str) (p : Str × α) (r : List (Str × α)) : lk x (p :: r) = if x = p.1 then some p.2 else lk x r := by
  show (match seq x p.1 with | true => some p.2 | false => lk x r) = _
  by_cases h : x = p.1
  · rw [if_pos h, h, seq_refl]
  · rw [if_neg h, seq_ne h]
theorem put_cons {α : Type} (x : Str) (v : α) (p : Str × α) (r : List (Str × α)) : put x v (p :: r) = if x = p.1 then (p.1, v) :: r else p :: put x v r := by
  show (match seq x p.1 with | true => (p.1, v) :: r | false => p :: put x v r) = _
  by_cases h : x = p.1
  · rw [if_pos h, h, seq_refl]
  · rw [if_neg h, seq_ne h]
theorem delK_cons {α : Type} (x : Str) (p : Str × α) (r : List (Str × α)) : delK x (p :: r) = if x = p.1 then delK x r else p :: delK x r := by
  show (match seq x p.1 with | true => delK x r | false => p :: delK x r) = _
  by_cases h : x = p.1
  · rw [if_pos h, h, seq_refl]
  · rw [if_neg h, seq_ne h]
theorem lk_put {α : Type} (x y : Str) (v : α) (l : List (Str × α)) : lk y (put x v l) = if y = x then some v else lk y l := by
  induction l with
  | nil => exact lk_cons y (x, v) []
  | cons p r ih =>
    rw [put_cons]
    by_cases hx : x = p.1
    · rw [if_pos hx, lk_cons, lk_cons, hx]
      by_cases hy : y = p.1
      · rw [if_pos hy, if_pos hy]
      · rw [if_neg hy, if_neg hy, if_neg hy]
    · rw [if_neg hx, lk_cons, lk_cons, ih]
      by_cases hy : y = p.1
      · rw [if_pos hy, if_pos hy, if_neg (fun e => hx (e.symm.trans hy))]
      · rw [if_neg hy, if_neg hy]
theorem put_len {α : Type} (x : Str) (v : α) (l : List (Str × α)) : (put x v l).length ≤ l.length + 1 := by
  induction l with
  | nil => exact Nat.le_refl _
  | cons p r ih =>
    rw [put_cons]
    split
    · exact Nat.le_succ _
    · exact Nat.succ_le_succ ih

/-- the owned object turns -/
theorem Inv.write {a : Addr} {x : Str} {pv : PV} {h h' : Heap} (I : Inv c env F (some a) st h m) (hx : st.isOwn x = true) (hv : (lk x st.vars).isSome = true) (hk : ∀ b o, b ≠ a → h.get? b = some o → h'.get? b = some o) (ho : ObjIs c F h' a pv) :
    Inv c env F (some a) { st with vars := put x pv st.vars } h' m := by
  have hO := I.own a rfl
  have hkF : ∀ b o, F b → h.get? b = some o → h'.get? b = some o := fun b o f e => hk b o (fun z => hO.1 (z ▸ f)) e
  have k : Kept F F h h' := ⟨fun _ x => x, hkF⟩
  have hkc : ∀ y cl o, env.cells.lookup y = some cl → h.get? cl = some o → h'.get? cl = some o := fun y cl o e => hk cl o (hO.2.2.2.1 y cl e)
  refine ⟨fun b o e => hk b o (fun z => by have := I.own0 a rfl; rw [← z, e] at this; cases this) (I.base b o e), I.ns.at fun o => hk _ o hO.2.1.symm, I.bowl.at fun o => hk _ o hO.2.2.1.symm, I.kwF, fun b f => some_keep (fun o => hkF b o f) (I.dom b f), I.nB, I.nL, I.LB, I.L0, I.C0, fun y cl e => ?_, I.apart, fun b e => ?_, I.own0, fun y qv e hy => ?_, fun y qv e hy => ?_⟩
  · obtain ⟨⟨v, o, ho, hr⟩, h2⟩ := I.cell y cl e
    exact ⟨⟨v, o, hkc y cl o e ho, hr⟩, h2⟩
  · cases e; exact ⟨hO.1, hO.2.1, hO.2.2.1, hO.2.2.2.1, ho.alive⟩
  · have hne : y ≠ x := fun z => by subst z; cases hx.symm.trans hy
    have e' : lk y (put x pv st.vars) = some qv := e
    rw [lk_put, if_neg hne] at e'
    obtain ⟨v, h1, h2⟩ := I.var y qv e' hy
    exact ⟨v, h1.at id (hkc y), h2.keep k⟩
  · have hye : y = x := Option.some.inj ((isOwn_iff.mp hy).symm.trans (isOwn_iff.mp hx))
    subst hye
    have e' : lk y (put y pv st.vars) = some qv := e
    rw [lk_put, if_pos rfl] at e'
    cases e'
    obtain ⟨pv0, hpv⟩ := Option.isSome_iff_exists.mp hv
    obtain ⟨b, h1, h2, _⟩ := I.ovar y pv0 hpv hx
    cases h1
    exact ⟨a, rfl, h2.at id (hkc y), ho⟩
theorem Step.write (W : Addr → Prop) {a : Addr} {h h' : Heap} (hk : ∀ b o, b ≠ a → h.get? b = some o → h'.get? b = some o) (hs : (h'.get? a).isSome = true) : Step W F (some a) h F (some a) h' :=
  ⟨fun _ x => x, fun _ x => .inl x, fun b o _ ho e => hk b o (fun z => ho (z ▸ rfl)) e, fun _ x => .inl x, fun b e => by
    by_cases hb : b = a
    · exact hb ▸ hs
    · exact some_keep (fun o => hk b o hb) e⟩
theorem without_cons {k k' : Str} {v : Value} {r : List (Str × Value)} : PySem.without ((k', v) :: r) k = if k = k' then PySem.without r k else (k', v) :: PySem.without r k := by
  unfold PySem.without
  rw [List.filter_cons]
  by_cases h : k = k'
  · subst h; simp
  · have h' : ¬ k' = k := fun e => h e.symm
    simp [h, h']
theorem RepE.del {h : Heap} (k : Str) {v : List (Str × Value)} {x : List (Str × PV)} (r : RepE c F h v x) : RepE c F h (PySem.without v k) (delK k x) := by
  refine r.ind (P := fun v x => RepE c F h (PySem.without v k) (delK k x)) .nil fun k' u y vs xs a r ih => ?_
  rw [without_cons, delK_cons]
  by_cases hk : k = k'
  · rw [if_pos hk, if_pos hk]; exact ih
  · rw [if_neg hk, if_neg hk]; exact .cons a ih

theorem ev_pop {x : Str} {p ap pos : Pos} {k : Expr} {es0 es : List (Str × PV)} {ks : Str} {z : PV} (hline : Nat.beq ap.endLine pos.line = true) (hx : st.isOwn x = true) (hown : ownName sc x = true) (hv0 : lk x st.vars = some (.dict es0)) (hns : notStar k = true) (hk : EvOK c A sc st k (.str ks) st1)
    (hx1 : st1.isOwn x = true) (hv1 : lk x st1.vars = some (.dict es)) (hsz : sizeOk es.length = true) (hlk : lk ks es = some z) : EvOK c A sc st (.Call (.Attribute (.Name x p) "pop" ap) [k] [] pos) z { st1 with vars := put x (.dict (delK ks es)) st1.vars } := by
  intro env s F oa m E Q hE I P
  obtain ⟨a, ha, hva, hs0, kvs0, hd0, hr0⟩ := I.ovar x _ hv0 hx
  refine call_method rfl hline (fun env pos => star_cons hns rfl) rfl ?_
  refine load_var hE I hown hva fun pl => ?_
  refine getMethod_builtin (M := c.M) (T := "dict") (id := "dict.pop") hd0.typeIs PySem.F.plainAttrs_dict PySem.F.slot_dict_pop PySem.F.type_dict_pop (fun b hb => by cases hb; exact dict_obj hd0) ?_
  refine method1_meetsIn (x := eval k env) PySem.F.slot_dict_pop PySem.F.entry_dict_pop (hk env s F oa m E _ hE I fun kv h' tk F' oa' hs I' rk => ?_)
  obtain ⟨rfl, hs1, kvs, hd, hr⟩ := own_again I hs I' hva hv1 hx1
  obtain ⟨t, rfl⟩ := rk.inv
  obtain ⟨u, hu, ru⟩ := hr.lk hlk
  refine ⟨hd.typeIs, PySem.F.args_dict_pop_2 _ _, _, meets_dict_pop_there c.kd (k := ks) a (strKind_is _ _ _ _) [] (.inl rfl) rfl, kvs, u, hd, by rw [hr.length]; exact sizeOk_le hsz, hu, fun h3 hd3 hsame => ?_⟩
  have hkk : ∀ b o, b ≠ a → h'.get? b = some o → h3.get? b = some o := fun b o hb e => (hsame.2 b hb).trans e
  have hO := I'.own a rfl
  have k3 : Kept F' F' h' h3 := ⟨fun _ x => x, fun b o f e => hkk b o (fun z => hO.1 (z ▸ f)) e⟩
  exact P u h3 _ F' (some a) (hs.trans (Step.write _ hkk (DictOf_some hd3))) (I'.write hx1 (by rw [hv1]; rfl) hkk ⟨hs1, _, hd3, (hr.del ks).keep k3⟩) (ru.keep k3)
end

/-! what an iteration hands on -/
structure ItOK (c : Cx) (A : Around) (tgt : Expr) (it : Value) (F wr : Fz) (xs : List PV) (St : Nat → Heap → Prop) : Prop where
  frame : ∀ i h h', St i h → (∀ a o, F a ∨ wr a → h.get? a = some o → h'.get? a = some o) → St i h'
  alive : ∀ i h, St i h → ∀ a, wr a → (h.get? a).isSome = true
  item : ∀ i x (s : Shared) (Q : Value → Shared → Prop) (E : Value → Shared → Prop), xs[i]? = some x → St i s.heap →
    (∀ v h' tk (N : Fz), (∀ a, N a → s.heap.get? a = none ∧ (h'.get? a).isSome = true) → (∀ b o, ¬ wr b → s.heap.get? b = some o → h'.get? b = some o) → St (i + 1) h' → Rep c (fun a => F a ∨ N a) h' v x → Q v { s with heap := h', toks := tk }) →
    wpAny c.M A (pyNext it) (fun r s₁ => ∃ v, r = some v ∧ wpAny c.M A (letOwnedTupleGo tgt it v) (fun _ s₂ => Q v s₂) E s₁) E s
  done : ∀ (s : Shared) (Q : Option Value → Shared → Prop) (E : Value → Shared → Prop), St xs.length s.heap → (∀ h' tk, (∀ b o, ¬ wr b → s.heap.get? b = some o → h'.get? b = some o) → Q none { s with heap := h', toks := tk }) → wpAny c.M A (pyNext it) Q E s
  self : ∀ i (s : Shared) (Q : Value → Shared → Prop) (E : Value → Shared → Prop), St i s.heap → Q it s → wpAny c.M A (pyIter it) Q E s

noncomputable def isTarget (e : Expr) : Bool := isName e || isTup e

section
variable {c : Cx} {A : Around} {env : Env} {sc : Scope} {F : Fz} {oa : Option Addr} {st st1 st2 : St} {m : Str → Option Value}

theorem ItOK.ofWalks {tgt : Expr} {I : Addr} {hc : Heap} {fp : List Addr} {n : Nat} {P : Nat → Value → Prop} {St : Nat → Heap → Prop} {xs : List PV} (W : Walks prog c.w A I fp [I] n P St) (hfp : ∀ b ∈ fp, F b ∨ b = I) (hI : ¬ F I) (hn : n = xs.length)
    (hal : ∀ i h, St i h → (h.get? I).isSome = true)
    (hP : ∀ i v x, P i v → xs[i]? = some x → Rep c F hc v x) (hgo : ∀ i v (s : Shared) (Q : Unit → Shared → Prop) (E : Value → Shared → Prop), St (i + 1) s.heap → Q () s → wpAny c.M A (letOwnedTupleGo tgt (.ref I) v) Q E s) :
    ItOK c A tgt (.ref I) F (fun a => a = I) xs (fun i h => St i h ∧ ∀ a o, F a → hc.get? a = some o → h.get? a = some o) where
  frame := fun i h h' ⟨a, b⟩ k => ⟨W.frame i h h' a fun x hx o e => k x o (hfp x hx) e, fun x o f e => k x o (.inl f) (b x o f e)⟩
  alive := fun i h ⟨a, b⟩ x hx => (show x = I from hx) ▸ hal i h a
  item := fun i x s Q E hx ⟨a, b⟩ hQ => by
    have hi : i < n := by rw [hn]; exact (List.getElem?_eq_some_iff.mp hx).1
    refine W.item i s _ E hi a fun v h' tk hPv hst hk => ⟨v, rfl, hgo i v { s with heap := h', toks := tk } _ E hst ?_⟩
    have kk : ∀ b o, ¬ b = I → s.heap.get? b = some o → h'.get? b = some o := fun b o hb e => hk b o (fun m => hb (List.mem_singleton.mp m)) e
    have kF : ∀ a o, F a → hc.get? a = some o → h'.get? a = some o := fun y o f e => kk y o (fun z => hI (z ▸ f)) (b y o f e)
    exact hQ v h' tk (fun _ => False) (fun a f => f.elim) kk ⟨hst, kF⟩ ((hP i v x hPv hx).keep ⟨fun _ f => .inl f, kF⟩)
  done := fun s Q E ⟨a, b⟩ hQ => by
    rw [← hn] at a
    exact W.done s Q E a fun h' tk hk => hQ h' tk fun b o hb e => hk b o (fun m => hb (List.mem_singleton.mp m)) e
  self := fun i s Q E ⟨a, b⟩ hQ => W.self i s Q E a hQ

theorem letGo_name {tgt : Expr} {it v : Value} {s : Shared} {Q : Unit → Shared → Prop} {E : Value → Shared → Prop} (h : isName tgt = true) (hQ : Q () s) : wpAny c.M A (letOwnedTupleGo tgt it v) Q E s := by
  cases tgt <;> first | exact wpAny_pure hQ | cases h
theorem letGo_list {tgt : Expr} {I l : Addr} {i : Nat} {v : Value} {s : Shared} {Q : Unit → Shared → Prop} {E : Value → Shared → Prop} (h : isTarget tgt = true) (hit : s.heap.IsListIter I l i) (hQ : Q () s) : wpAny c.M A (letOwnedTupleGo tgt (.ref I) v) Q E s := by
  cases tgt <;> first | cases h | skip
  · exact wpAny_pure hQ
  · cases v <;> first | exact wpAny_letOwnedTupleGo_listiter hit hQ | exact wpAny_pure hQ

/-- what is wanted behind the making of an iterator -/
def ItPost (c : Cx) (A : Around) (tgt : Expr) (env : Env) (F : Fz) (oa : Option Addr) (m : Str → Option Value) (s : Shared) (st' : St) (xs : List PV) (Q : Value → Shared → Prop) : Prop :=
  ∀ it h' tk F' oa' wr St, Step (onlyB c) F oa s.heap F' oa' h' → Inv c env F' oa' st' h' m → ItOK c A tgt it F' wr xs St → St 0 h' → Apart c env F' oa' wr → (∀ a, wr a → s.heap.get? a = none) → Q it { s with heap := h', toks := tk }
theorem ItPost.then {tgt : Expr} {s : Shared} {h' : Heap} {tk : Nat} {F' : Fz} {oa' : Option Addr} {xs : List PV} {Q : Value → Shared → Prop} (P : ItPost c A tgt env F oa m s st1 xs Q) (hs : Step (onlyB c) F oa s.heap F' oa' h') : ItPost c A tgt env F' oa' m { s with heap := h', toks := tk } st1 xs Q :=
  fun it h2 tk2 F2 oa2 wr St hs2 I2 hit hst ap hnew => P it h2 tk2 F2 oa2 wr St (hs.trans hs2) I2 hit hst ap fun a w => none_dom (hs.dom a) (hnew a w)
/-- one iterator, just made -/
theorem ItPost.one {tgt : Expr} {s : Shared} {xs : List PV} {Q : Value → Shared → Prop} (P : ItPost c A tgt env F oa m s st xs Q) (I : Inv c env F oa st s.heap m) {o : Obj} {fp : List Addr} {n : Nat} {PP : Nat → Value → Prop} {St : Nat → Heap → Prop} (W : Walks prog c.w A s.heap.objs.size fp [s.heap.objs.size] n PP St)
    (hfp : ∀ b ∈ fp, F b ∨ b = s.heap.objs.size) (hn : n = xs.length) (hal : ∀ i h, St i h → (h.get? s.heap.objs.size).isSome = true) (hP : ∀ i v x, PP i v → xs[i]? = some x → Rep c F s.heap v x)
    (hgo : ∀ i v (s' : Shared) (Q : Unit → Shared → Prop) (E : Value → Shared → Prop), St (i + 1) s'.heap → Q () s' → wpAny c.M A (letOwnedTupleGo tgt (.ref s.heap.objs.size) v) Q E s') (h0 : St 0 (s.heap.push o)) : Q (.ref s.heap.objs.size) { s with heap := s.heap.push o } := by
  have hnew : ∀ a, a = s.heap.objs.size → s.heap.get? a = none := fun a e => e ▸ none_size
  exact P (.ref s.heap.objs.size) _ s.toks F oa _ _ (.grown _ _ _ (push_keep _)) (I.grown (push_keep _)) (ItOK.ofWalks (hc := s.heap) W hfp (fun f => some_none (I.dom _ f) none_size) hn hal hP hgo) ⟨h0, fun a o _ e => push_keep _ a o e⟩ (Apart.new I hnew) hnew
theorem two_fp {a b : Addr} (f : F b) : ∀ x ∈ [a, b], F x ∨ x = a := fun x hx => (List.mem_cons.mp hx).elim .inr fun hx => .inl (List.mem_singleton.mp hx ▸ f)
theorem one_fp {a : Addr} : ∀ x ∈ [a], F x ∨ x = a := fun x hx => .inr (List.mem_singleton.mp hx)
theorem at_rep {h : Heap} {its : Array Value} {xs : List PV} (r : Reps c F h its.toList xs) (i : Nat) (w : Value) (x : PV) (hw : its[i]? = some w) (hx : xs[i]? = some x) : Rep c F h w x := by
  obtain ⟨z, hz, rz⟩ := r.at hx
  rw [Array.getElem?_toList, hw] at hz
  cases hz; exact rz

/-- a value's iterator -/
theorem iter_sound (hh : A.handled = none) {tgt : Expr} (ht : isTarget tgt = true) {v : PV} {xs : List PV} (hx : itemsOf v = some xs) (hn : isName tgt = true ∨ isListV v = true) {s : Shared} {E : Value → Shared → Prop} {Q : Value → Shared → Prop} {u : Value}
    (I : Inv c env F oa st s.heap m) (ru : Rep c F s.heap u v) (P : ItPost c A tgt env F oa m s st xs Q) : wpAny c.M A (pyIter u) Q E s := by
  cases v with
  | list ys =>
    cases hx
    obtain ⟨a, its, rfl, f, p, r⟩ := ru.inv
    have hlt : a < s.heap.objs.size := let ⟨_, ho⟩ := p; Heap.lt_size ho
    exact wpAny_pyIter_list p.isList (P.one I (Walks.list hh s.heap.objs.size a (Nat.ne_of_lt hlt) its) (two_fp f) r.size (fun i h st => let ⟨⟨o, ho, _⟩, _⟩ := st; get_some ho) (at_rep r) (fun i w s' Q' E' st hQ => letGo_list ht st.1 hQ) ⟨⟨_, Heap.get?_push_size _ rfl, rfl, rfl⟩, p.isList.at (push_keep _ a)⟩)
  | tuple ys =>
    cases hx
    have hnm : isName tgt = true := hn.elim id (fun e => nomatch e)
    obtain ⟨a, its, rfl, f, p, r⟩ := ru.inv
    have p' : s.heap.IsTuple a its := p
    have hlt : a < s.heap.objs.size := let ⟨_, ho, _⟩ := p; Heap.lt_size ho
    exact wpAny_pyIter_tuple p' (P.one I (Walks.tuple hh s.heap.objs.size a (Nat.ne_of_lt hlt) its) (two_fp f) r.size (fun i h st => let ⟨⟨o, ho, _⟩, _⟩ := st; get_some ho) (at_rep r) (fun i w s' Q' E' st hQ => letGo_name hnm hQ) ⟨⟨_, Heap.get?_push_size _ rfl, rfl, rfl⟩, p'.at (push_keep _ a)⟩)
  | dict es =>
    cases hx
    have hnm : isName tgt = true := hn.elim id (fun e => nomatch e)
    obtain ⟨a, kvs, rfl, f, hs, d, r⟩ := ru.inv
    obtain ⟨ep, hat⟩ := d.dictAt
    have hlt : a < s.heap.objs.size := let ⟨_, _, _, ho, _⟩ := d; Heap.lt_size ho
    refine wpAny_pyIter_dict hs hat (P.one I (Walks.dictKeys hh s.heap.objs.size a (Nat.ne_of_lt hlt) kvs ep) (two_fp f) (by rw [List.length_map, r.length]) (fun i h st => let ⟨⟨o, ho, _⟩, _⟩ := st; get_some ho) (fun i w x hw hx => ?_) (fun i w s' Q' E' st hQ => letGo_name hnm hQ) ⟨⟨_, Heap.get?_push_size _ rfl, rfl, rfl⟩, hat.at' (push_keep _ a)⟩)
    obtain ⟨k, z, hk, his⟩ := hw
    obtain ⟨t, rfl⟩ := Value.isStrOf_shape his
    have h1 : (kvs.map (·.1))[i]? = some k := by rw [List.getElem?_map, hk]; rfl
    rw [r.keys, List.getElem?_map] at h1
    obtain ⟨e, he, rfl⟩ := map_some h1
    rw [List.getElem?_map, he] at hx
    cases hx; exact .str _ _
  | str y =>
    cases hx
    have hnm : isName tgt = true := hn.elim id (fun e => nomatch e)
    obtain ⟨t, rfl⟩ := ru.inv
    have fin : ∀ (i : Nat) (w : Value) (x : PV), SignAt y i w → (charsOf y)[i]? = some x → Rep c F s.heap w x := fun i w x hw hx => by
      obtain ⟨ch, u', hc, rfl⟩ := hw
      unfold charsOf at hx
      rw [List.getElem?_map, Array.getElem?_toList, hc] at hx
      cases hx; exact .str _ _
    have hl : y.length = (charsOf y).length := by unfold charsOf; rw [List.length_map]; rfl
    cases ha : y.cps.all (· < 128)
    · exact wpAny_pyIter_wide ha (P.one I (Walks.strWide hh s.heap.objs.size y t) one_fp hl (fun i h st => let ⟨o, ho, _⟩ := st; get_some ho) fin (fun i w s' Q' E' st hQ => letGo_name hnm hQ) ⟨_, Heap.get?_push_size _ rfl, rfl, rfl⟩)
    · exact wpAny_pyIter_ascii ha (P.one I (Walks.strAscii hh s.heap.objs.size y t) one_fp hl (fun i h st => let ⟨o, ho, _⟩ := st; get_some ho) fin (fun i w s' Q' E' st hQ => letGo_name hnm hQ) ⟨_, Heap.get?_push_size _ rfl, rfl, rfl⟩)
  | _ => exact none_some hx

/-- the source of a loop -/
structure SrcOK (c : Cx) (A : Around) (sc : Scope) (st : St) (tgt e : Expr) (xs : List PV) (st' : St) : Prop where
  notSet : ∀ env x, foldedSetIterable e env x = pure x
  run : ∀ (env : Env) (s : Shared) (F : Fz) (oa : Option Addr) (m : Str → Option Value) (E : Value → Shared → Prop) (Q : Value → Shared → Prop), EnvOK env sc → Inv c env F oa st s.heap m → ItPost c A tgt env F oa m s st' xs Q → wpAny c.M A (eval e env) (fun xv s₁ => wpAny c.M A (pyIter xv) Q E s₁) E s
theorem src_plain (hh : A.handled = none) {tgt e : Expr} {v : PV} {xs : List PV} (hns : notSet e = true) (h1 : EvOK c A sc st e v st1) (ht : (isName tgt || (isTup tgt && isListV v)) = true) (hx : itemsOf v = some xs) : SrcOK c A sc st tgt e xs st1 := by
  refine ⟨fun env x => (by cases e <;> first | rfl | cases hns), fun env s F oa m E Q hE I P => h1 env s F oa m E _ hE I fun u h' tk F' oa' hs I' ru => ?_⟩
  have htt : isTarget tgt = true ∧ (isName tgt = true ∨ isListV v = true) := by
    unfold isTarget
    rw [Bool.or_eq_true] at ht ⊢
    rcases ht with ht | ht
    · exact ⟨.inl ht, .inl ht⟩
    · rw [Bool.and_eq_true] at ht
      exact ⟨.inr ht.1, .inr ht.2⟩
  exact iter_sound (s := { s with heap := h', toks := tk }) hh htt.1 hx htt.2 I' ru (P.then hs)
theorem src_range (T : Stat c) (TB : TabOK c) (hh : A.handled = none) {tgt : Expr} {p q : Pos} {args : List Expr} {N : Int} (hk : kindIs sc "range" .globalImplicit = true) (hn : isName tgt = true) (hne : args.isEmpty = false) (h1 : EvsOK c A sc st args [.int N] st1) (hb : 0 ≤ N ∧ N < 100000) : SrcOK c A sc st tgt (.Call (.Name "range" p) args [] q) (rangeItems N.toNat) st1 := by
  refine ⟨fun env x => rfl, fun env s F oa m E Q hE I P => ?_⟩
  refine wpAny_Call_NameR ?_
  rw [h1.star]
  refine load_blt T hE I hk (TB.blt _ (by decide)) (by kernel_rfl : bootBuiltins "range" = some (.type "range")) (by decide) ?_
  refine args_then (K' := c.K) hne (.inl (.inr ⟨_, rfl⟩)) ?_
  refine h1.run env s F oa m E _ hE I fun us h' tk F' oa' hs I' rus => ⟨inK T I', ?_⟩
  obtain ⟨v, rfl, r1⟩ := rus.one
  obtain ⟨t, rfl⟩ := r1.inv
  refine call_range_1 (s := { s with heap := h', toks := tk }) ?_
  refine wpAny_pyIter_range (IsRange.new ..) (small_one (by decide) (by decide) (by omega) (by omega)) ?_
  have hsz : Builtin.Range.rangeSize 0 N 1 = (N.toNat : Int) := by rw [rangeSize_one]; split <;> (clear rus r1 I' hs P I hE hb; omega)
  rw [hsz]
  have kk := push_keep (h := h') { cls := .type "range", data := .fields #[.int 0 tk, .int N t, .int 1 (tk + 1)] }
  refine ItPost.one (s := { s with heap := h'.push { cls := .type "range", data := .fields #[.int 0 tk, .int N t, .int 1 (tk + 1)] }, toks := tk + 2 }) (P.then (hs.trans (.grown _ _ _ kk))) (I'.grown kk) (Walks.range hh _ 0 1 N.toNat) one_fp (by unfold rangeItems; rw [List.length_map, List.length_range]) (fun i h st => get_some (show h.get? _ = some _ from st)) (fun i w x hw hx => ?_) (fun i w s' Q' E' st hQ => letGo_name hn hQ) ?_
  · obtain ⟨t', rfl⟩ := hw
    unfold rangeItems at hx
    rw [List.getElem?_map] at hx
    obtain ⟨k, hr, rfl⟩ := map_some hx
    obtain ⟨hl, rfl⟩ := List.getElem?_eq_some_iff.mp hr
    rw [List.getElem_range, Int.mul_one, Int.zero_add]
    exact .int _ _
  · show Heap.get? _ _ = _
    rw [Heap.get?_push_size _ rfl]
    simp
end
end Mine

set_option maxRecDepth 100000
set_option linter.unusedVariables false
namespace Mine
open PySem PySem.W PySem.Calls PyProof.Rows PySem.SeqAt

section
variable {c : Cx} {A : Around} {env : Env} {sc : Scope} {F : Fz} {oa : Option Addr} {st st1 st2 : St} {m : Str → Option Value} {E : Value → Shared → Prop}

theorem zipItems_at {xs : List PV} : ∀ {ys : List PV} {i : Nat} {z : PV}, (zipItems xs ys)[i]? = some z → ∃ x y, z = .tuple [x, y] ∧ xs[i]? = some x ∧ ys[i]? = some y := by
  induction xs with
  | nil => intro ys i z h; exact none_some h
  | cons a xs ih =>
    intro ys i z h
    cases ys with
    | nil => exact none_some h
    | cons b ys =>
      cases i with
      | zero => cases h; exact ⟨a, b, rfl, rfl, rfl⟩
      | succ i => exact ih (ys := ys) h
theorem zipItems_length (xs : List PV) : ∀ (ys : List PV), (zipItems xs ys).length = min xs.length ys.length := by
  induction xs with
  | nil => intro ys; exact (Nat.zero_min _).symm
  | cons a xs ih =>
    intro ys
    cases ys with
    | nil => rfl
    | cons b ys =>
      show (zipItems xs ys).length + 1 = min (xs.length + 1) (ys.length + 1)
      rw [ih, Nat.add_min_add_right]

theorem zip_it {tgt : Expr} (ht : isTup tgt = true) (hh : A.handled = none) {z TI TO i1 i2 l1 l2 : Addr} (D : ZipApart z TI TO i1 i2 l1 l2) {hc : Heap} {as bs : Array Value} {xs ys : List PV} (f1 : F l1) (f2 : F l2) (hF : ∀ a, F a → a ∉ [z, TI, TO, i1, i2]) (ra : Reps c F hc as.toList xs) (rb : Reps c F hc bs.toList ys) :
    ItOK c A tgt (.ref z) F (fun a => a ∈ [z, TI, TO, i1, i2]) (zipItems xs ys)
      (fun i h => (IsZip h z TI TO .none ∧ IsPair h TI (.ref i1) (.ref i2) ∧ (∃ a b, IsPair h TO a b) ∧ h.IsListIter i1 l1 i ∧ h.IsListIter i2 l2 i ∧ h.IsList l1 as ∧ h.IsList l2 bs) ∧ ∀ a o, F a → hc.get? a = some o → h.get? a = some o) := by
  have W := WalksT.zip2 (prog := prog) (w := c.w) hh z TI TO i1 i2 l1 l2 D as bs
  have hla := ra.size
  have hlb := rb.size
  have wr : ∀ {b : Addr}, b ∉ [z, TI, TO, i1, i2] → b ∉ [z, TO, i1, i2] := fun h m => h (List.cons_subset_cons z (List.subset_cons_self TI _) m)
  refine ⟨fun i h h' ⟨a, b⟩ k => ⟨W.frame i h h' a fun x hx o e => k x o ?_ e, fun x o f e => k x o (.inl f) (b x o f e)⟩, fun i h ⟨⟨q1, q2, ⟨_, _, q3⟩, ⟨o4, q4, _⟩, ⟨o5, q5, _⟩, _⟩, _⟩ a w => ?_, fun i x s Q E hx ⟨a, b⟩ hQ => ?_, fun s Q E ⟨a, b⟩ hQ => ?_, fun i s Q E ⟨a, b⟩ hQ => W.self i s Q E a hQ⟩
  · exact ((List.mem_append (s := [z, TI, TO, i1, i2]) (t := [l1, l2])).mp hx).symm.imp (fun hx => AllP.mem (P := F) (l := [l1, l2]) ⟨f1, f2, trivial⟩ hx) id
  · exact AllP.mem (P := fun a => (h.get? a).isSome = true) (l := [z, TI, TO, i1, i2]) ⟨get_some q1, get_some q2, get_some q3, get_some q4, get_some q5, trivial⟩ w
  · obtain ⟨x', y', rfl, hx', hy'⟩ := zipItems_at hx
    obtain ⟨v1, hv1, r1⟩ := ra.at hx'
    obtain ⟨v2, hv2, r2⟩ := rb.at hy'
    have hi : i < min as.size bs.size := by
      have := (List.getElem?_eq_some_iff.mp hx).1
      rwa [zipItems_length, ← hla, ← hlb] at this
    refine W.item i s _ E hi a fun T vals h' tk hPt hT hTup hMid hk => ⟨_, rfl, ?_⟩
    cases tgt <;> try cases ht
    rename_i elts k pos
    refine W.go elts k pos i T { s with heap := h', toks := tk } _ E hMid fun h'' hst hk' => ?_
    obtain ⟨w1, w2, hw1, hw2, rfl⟩ := hPt
    rw [Array.getElem?_toList, hw1] at hv1
    rw [Array.getElem?_toList, hw2] at hv2
    cases hv1; cases hv2
    have kF : ∀ a o, F a → hc.get? a = some o → h''.get? a = some o := fun y o f e => hk' y o (wr (hF y f)) (hk y o (wr (hF y f)) (b y o f e))
    have kk : Kept F (fun a => F a ∨ a = T) hc h'' := ⟨fun _ x => .inl x, kF⟩
    have hT' : IsTup h'' T #[v1, v2] := IsTup_at hTup fun o => hk' T o (W.apart i T _ hMid)
    refine hQ (.ref T) h'' tk (fun a => a = T) (fun a e => ⟨e ▸ get_none_of_le hT, ?_⟩) (fun b o hb e => hk' b o (wr hb) (hk b o (wr hb) e)) ⟨hst, kF⟩ (.tuple' (.inr rfl) hT' (.cons (r1.keep kk) (.cons (r2.keep kk) .nil)))
    obtain ⟨o, ho, _⟩ := hT'
    rw [e]; exact get_some ho
  · rw [zipItems_length, ← hla, ← hlb] at a
    exact W.done s Q E a fun h' tk hk => hQ h' tk fun b o hb e => hk b o (wr hb) e
theorem src_zip (T : Stat c) (TB : TabOK c) (hh : A.handled = none) {tgt : Expr} {p q : Pos} {args : List Expr} {xs ys : List PV} (hk : kindIs sc "zip" .globalImplicit = true) (hn : isTup tgt = true) (hne : args.isEmpty = false) (h1 : EvsOK c A sc st args [.list xs, .list ys] st1) : SrcOK c A sc st tgt (.Call (.Name "zip" p) args [] q) (zipItems xs ys) st1 := by
  refine ⟨fun env x => rfl, fun env s F oa m E Q hE I P => ?_⟩
  refine wpAny_Call_NameR ?_
  rw [h1.star]
  refine load_blt T hE I hk (TB.blt _ (by decide)) (by kernel_rfl : bootBuiltins "zip" = some (.type "zip")) (by decide) ?_
  refine args_then (K' := c.K) hne (.inl (.inr ⟨_, rfl⟩)) ?_
  refine h1.run env s F oa m E _ hE I fun us h' tk F' oa' hs I' rus => ⟨inK T I', ?_⟩
  obtain ⟨v1, v2, rfl, r1, r2⟩ := rus.two
  obtain ⟨l1, it1, rfl, f1, p1, rr1⟩ := r1.inv
  obtain ⟨l2, it2, rfl, f2, p2, rr2⟩ := r2.inv
  have hF' : ∀ a, F' a → a < h'.objs.size := fun a f => by
    obtain ⟨o, ho⟩ := Option.isSome_iff_exists.mp (I'.dom a f); exact Heap.lt_size ho
  refine call_zip_2 (s := { s with heap := h', toks := tk }) p1.isList p2.isList fun h2 q1 q2 q3 q4 q5 q6 q7 => ?_
  refine wpAny_pyIter_zip (s := { s with heap := h2, toks := tk }) q1 ?_
  have add : ∀ k j : Nat, Nat.beq k j = false → h'.objs.size + k ≠ h'.objs.size + j := fun k j hkj e => by rw [Nat.add_left_cancel e, Nat.beq_refl] at hkj; cases hkj
  have low : ∀ {a : Addr} (k : Nat), F' a → a ≠ h'.objs.size + k := fun k f => Nat.ne_of_lt (Nat.lt_of_lt_of_le (hF' _ f) (Nat.le_add_right _ _))
  have D : ZipApart (h'.objs.size + 4) (h'.objs.size + 2) (h'.objs.size + 3) (h'.objs.size + 0) (h'.objs.size + 1) l1 l2 :=
    ⟨add _ _ rfl, add _ _ rfl, add _ _ rfl, add _ _ rfl, add _ _ rfl, add _ _ rfl, add _ _ rfl, add _ _ rfl, add _ _ rfl, add _ _ rfl, low 4 f1, low 3 f1, low 0 f1, low 1 f1, low 4 f2, low 3 f2, low 0 f2, low 1 f2⟩
  have le : ∀ k, h'.objs.size ≤ h'.objs.size + k := fun k => Nat.le_add_right _ _
  have hge : ∀ a, a ∈ [h'.objs.size + 4, h'.objs.size + 2, h'.objs.size + 3, h'.objs.size + 0, h'.objs.size + 1] → h'.objs.size ≤ a := fun a e => AllP.mem (P := fun a => h'.objs.size ≤ a) (l := [h'.objs.size + 4, h'.objs.size + 2, h'.objs.size + 3, h'.objs.size + 0, h'.objs.size + 1]) ⟨le _, le _, le _, le _, le _, trivial⟩ e
  have hnew : ∀ a, a ∈ [h'.objs.size + 4, h'.objs.size + 2, h'.objs.size + 3, h'.objs.size + 0, h'.objs.size + 1] → h'.get? a = none := fun a e => get_none_of_le (hge a e)
  exact P _ h2 tk F' oa' _ _ (hs.trans (.grown _ _ _ q7)) (I'.grown q7) (zip_it hn hh D f1 f2 (fun a f e => Nat.not_lt.mpr (hge a e) (hF' a f)) rr1 rr2) ⟨⟨q1, q2, ⟨_, _, q3⟩, q4, q5, p1.isList.at (q7 l1), p2.isList.at (q7 l2)⟩, fun a o _ e => q7 a o e⟩ (Apart.new I' hnew) fun a e => none_dom (hs.dom _) (hnew a e)

/-! names get values -/
theorem put1_lk {x y : Str} {v : PV} : lk y (st.put1 x v).vars = if y = x then some v else lk y st.vars := lk_put x y v st.vars
theorem isOwn_put1 {x y : Str} {v : PV} : (st.put1 x v).isOwn y = true ↔ st.isOwn y = true ∧ y ≠ x := by
  rw [isOwn_iff, isOwn_iff]
  unfold St.put1
  cases h : st.isOwn x with
  | true =>
    have hx := isOwn_iff.mp h
    exact ⟨nofun, fun e => absurd (Option.some.inj (e.1.symm.trans hx)) e.2⟩
  | false =>
    refine ⟨fun (e : st.own = some y) => ⟨e, fun z => ?_⟩, fun e => e.1⟩
    rw [z] at e
    cases (isOwn_iff.mpr e).symm.trans h
theorem notOwn_put1 {x y : Str} {v : PV} (h : (st.put1 x v).isOwn y = false) (hy : y ≠ x) : st.isOwn y = false := by
  cases e : st.isOwn y with
  | false => rfl
  | true => rw [isOwn_put1.mpr ⟨e, hy⟩] at h; cases h

/-- a name's place turns: what stands of the others -/
structure Stored (c : Cx) (env : Env) (F : Fz) (oa : Option Addr) (st : St) (W : Addr → Prop) (h h' : Heap) (m' : Str → Option Value) (x : Str) (v : Value) : Prop where
  step : Step W F oa h F oa h'
  base : ∀ b o, c.h0.get? b = some o → h'.get? b = some o
  ns : h'.Ns env.locals m'
  bowl : BowlIs c h' st.bowl
  dom : ∀ a, F a → (h'.get? a).isSome = true
  cell : ∀ x cl, env.cells.lookup x = some cl → (∃ v, h'.IsCell cl v) ∧ ¬ F cl ∧ cl ≠ env.locals ∧ cl ≠ c.B
  own : ∀ a, oa = some a → (h'.get? a).isSome = true
  var : ∀ y pv, y ≠ x → lk y st.vars = some pv → st.isOwn y = false → ∃ v, VarAt env h' m' y v ∧ Rep c F h' v pv
  ovar : ∀ y pv, y ≠ x → lk y st.vars = some pv → st.isOwn y = true → ∃ a, oa = some a ∧ VarAt env h' m' y (.ref a) ∧ ObjIs c F h' a pv
  at_ : VarAt env h' m' x v
/-- one address turns, that is a name's place -/
theorem stored_gen {W : Addr → Prop} {h h' : Heap} {m' : Str → Option Value} {x : Str} {v : Value} {a : Addr} (I : Inv c env F oa st h m) (hk : ∀ b o, b ≠ a → h.get? b = some o → h'.get? b = some o) (hw : W a) (hF : ¬ F a) (h0 : c.h0.get? a = none) (hB : c.B ≠ a) (hO : oa ≠ some a) (hs : (h'.get? a).isSome = true)
    (ns : h'.Ns env.locals m') (cell : ∀ x cl, env.cells.lookup x = some cl → ∃ v, h'.IsCell cl v) (hv : ∀ y u, y ≠ x → VarAt env h m y u → VarAt env h' m' y u) (at_ : VarAt env h' m' x v) : Stored c env F oa st W h h' m' x v := by
  have hkF : ∀ b o, F b → h.get? b = some o → h'.get? b = some o := fun b o f e => hk b o (fun z => hF (z ▸ f)) e
  have k : Kept F F h h' := ⟨fun _ x => x, hkF⟩
  have hkO : ∀ b o, oa = some b → h.get? b = some o → h'.get? b = some o := fun b o e => hk b o (fun z => hO (z ▸ e))
  refine ⟨⟨fun _ x => x, fun _ x => .inl x, fun b o nb _ e => hk b o (fun z => nb (z ▸ hw)) e, fun _ x => .inl x, fun b e => ?_⟩, fun b o e => hk b o (fun z => by rw [z, h0] at e; cases e) (I.base b o e), ns, I.bowl.at fun o => hk _ o hB, fun b f => some_keep (fun o => hkF b o f) (I.dom b f), fun y cl e => ⟨cell y cl e, (I.cell y cl e).2⟩, fun b e => some_keep (fun o => hkO b o e) (I.own b e).2.2.2.2, fun y pv hy e ho => ?_, fun y pv hy e ho => ?_, at_⟩
  · by_cases hb : b = a
    · exact hb ▸ hs
    · exact some_keep (fun o => hk b o hb) e
  · obtain ⟨w, h1, h2⟩ := I.var y pv e ho
    exact ⟨w, hv y w hy h1, h2.keep k⟩
  · obtain ⟨b, h1, h2, h3⟩ := I.ovar y pv e ho
    exact ⟨b, h1, hv y _ hy h2, h3.keep k fun o => hkO b o h1⟩
theorem store_raw (hE : EnvOK env sc) {W : Addr → Prop} (hWL : W env.locals) {x : Str} (hWC : env.kindOf x = some .cell → ∀ cl, env.cells.lookup x = some cl → W cl) (hx : ownName sc x = true) {s : Shared} {Q : Unit → Shared → Prop} {v : Value}
    (I : Inv c env F oa st s.heap m)
    (P : ∀ h' tk m', Stored c env F oa st W s.heap h' m' x v → Q () { s with heap := h', toks := tk }) : wpAny c.M A (storeName env x v) Q E s := by
  rcases (ownName_of hx).2 with hl | hl
  · have hl' : env.kindOf x = some .local := (hE.kindOf x).trans hl
    refine wpAny_storeName_local hl' I.ns (fun h' hn' hs' => ?_) (by rw [hE.fn]; rfl)
    have hkk : ∀ b o, b ≠ env.locals → s.heap.get? b = some o → h'.get? b = some o := fun b o hb e => (hs'.2 b hb).trans e
    have hkc : ∀ y cl o, env.cells.lookup y = some cl → s.heap.get? cl = some o → h'.get? cl = some o := fun y cl o e => hkk cl o (I.cell y cl e).2.2.1
    obtain ⟨oL, _, _, hoL, _⟩ := id hn'
    refine P h' _ (fun z => if z = x then some v else m z) (stored_gen I hkk hWL I.nL I.L0 I.LB.symm (fun e => (I.own _ e).2.1 rfl) (get_some hoL) hn' (fun y cl e => ?_) (fun y u hy h => h.at (fun e => (if_neg hy).trans e) (hkc y)) (.inl ⟨hl', if_pos rfl⟩))
    obtain ⟨⟨w, o, ho, hr⟩, _⟩ := I.cell y cl e
    exact ⟨w, o, hkc y cl o e ho, hr⟩
  · have hl' : env.kindOf x = some .cell := (hE.kindOf x).trans hl
    obtain ⟨cl0, hc0⟩ : ∃ cl, env.cells.lookup x = some cl := hE.cells x hl'
    obtain ⟨⟨v0, hv0⟩, hF0, hL0, hB0⟩ := I.cell x cl0 hc0
    refine wpAny_storeName_cell hE.fn hl' hc0 hv0 fun h' hv' hs' => ?_
    have hkk : ∀ b o, b ≠ cl0 → s.heap.get? b = some o → h'.get? b = some o := fun b o hb e => (hs'.2 b hb).trans e
    obtain ⟨o0, ho0, hd0⟩ := id hv'
    refine P h' _ m (stored_gen I hkk (hWC hl' cl0 hc0) hF0 (I.C0 x cl0 hc0) hB0.symm (fun e => (I.own _ e).2.2.2.1 x cl0 hc0 rfl) (get_some ho0) (I.ns.at fun o => hkk _ o hL0.symm) (fun y cl e => ?_) (fun y u hy h => h.at id fun cl o e => hkk cl o fun z => hy (I.apart y x cl0 (z ▸ e) hc0)) (.inr ⟨hl', cl0, hc0, hv'⟩))
    by_cases hy : cl = cl0
    · exact hy ▸ ⟨_, hv'⟩
    · obtain ⟨⟨w, o, ho, hr⟩, _⟩ := I.cell y cl e
      exact ⟨w, o, hkk _ _ hy ho, hr⟩

theorem store_sound (hE : EnvOK env sc) {W : Addr → Prop} (hWL : W env.locals) (hWs : ∀ b, W b → stW c env b) {x : Str} (hWC : env.kindOf x = some .cell → ∀ cl, env.cells.lookup x = some cl → W cl) (hx : ownName sc x = true) {s : Shared} {Q : Unit → Shared → Prop} {v : Value} {pv : PV}
    (I : Inv c env F oa st s.heap m) (rv : Rep c F s.heap v pv)
    (P : ∀ h' tk m', Step W F oa s.heap F oa h' → Inv c env F oa (st.put1 x pv) h' m' → Q () { s with heap := h', toks := tk }) : wpAny c.M A (storeName env x v) Q E s := by
  refine store_raw hE hWL hWC hx I fun h' tk m' S => P h' tk m' S.step ?_
  refine ⟨S.base, S.ns, S.bowl, I.kwF, S.dom, I.nB, I.nL, I.LB, I.L0, I.C0, S.cell, I.apart, fun a e => ⟨(I.own a e).1, (I.own a e).2.1, (I.own a e).2.2.1, (I.own a e).2.2.2.1, S.own a e⟩, I.own0, fun y qv e ho => ?_, fun y qv e ho => ?_⟩
  · rw [put1_lk] at e
    by_cases hy : y = x
    · rw [if_pos hy] at e; cases e; exact ⟨v, hy ▸ S.at_, rv.keep ((S.step.mono hWs).kept I)⟩
    · rw [if_neg hy] at e
      exact S.var y qv hy e (notOwn_put1 ho hy)
  · obtain ⟨ho, hy⟩ := isOwn_put1.mp ho
    rw [put1_lk, if_neg hy] at e
    exact S.ovar y qv hy e ho

/-- a target -/
theorem nameOf_inv {e : Expr} {x : Str} (h : nameOf e = some x) : ∃ p, e = .Name x p := by
  cases e with
  | Name y p => cases h; exact ⟨p, rfl⟩
  | _ => exact none_some h
theorem assign_sound (hh : A.handled = none) (hE : EnvOK env sc) {W : Addr → Prop} (hWL : W env.locals) (hWs : ∀ b, W b → stW c env b) {tgt : Expr} {pv : PV} {bs : List (Str × PV)} (hb : bindT sc tgt pv = some bs) (hWC : ∀ b ∈ bs, env.kindOf b.1 = some .cell → ∀ cl, env.cells.lookup b.1 = some cl → W cl) {s : Shared} {Q : Unit → Shared → Prop} {v : Value}
    (I : Inv c env F oa st s.heap m) (rv : Rep c F s.heap v pv)
    (P : ∀ h' tk m', Step W F oa s.heap F oa h' → Inv c env F oa (st.putAll bs) h' m' → Q () { s with heap := h', toks := tk }) : wpAny c.M A (assign tgt env v) Q E s := by
  obtain ⟨t, ht, hb⟩ := bind_some hb
  cases tgt with
  | Name x p =>
    cases ht
    obtain ⟨hx, rfl⟩ := guard_some hb
    exact wpAny_assign_Name (store_sound hE hWL hWs (hWC _ (.head _)) hx I rv P)
  | Tuple ts k p =>
    obtain ⟨q, hq, ht⟩ := bind_some ht
    obtain ⟨x, hnx, ht⟩ := bind_some ht
    obtain ⟨y, hny, rfl⟩ := map_some ht
    obtain ⟨p1, e1⟩ := nameOf_inv hnx
    obtain ⟨p2, e2⟩ := nameOf_inv hny
    obtain ⟨u, hu, hb⟩ := bind_some hb
    obtain ⟨hx, rfl⟩ := guard_some hb
    rw [pairV_inv hu] at rv
    rw [two_inv hq, e1, e2]
    have hxy : ownName sc x = true ∧ ownName sc y = true := by
      unfold twoOwn at hx
      cases h1 : ownName sc x with
      | true =>
        rw [h1] at hx
        cases h2 : ownName sc y with
        | true => exact ⟨rfl, rfl⟩
        | false => rw [h2] at hx; cases hx
      | false => rw [h1] at hx; cases hx
    obtain ⟨a, its, rfl, f, pt, r⟩ := rv.inv
    refine PyProof.Rows.assign_Tuple_tuple hh pt (by rw [r.size]; rfl) rfl fun h1 hx1 => ?_
    have hk1 : ∀ b o, s.heap.get? b = some o → h1.get? b = some o := fun b o e => hx1 b o (Nat.ne_of_lt (Heap.lt_size e)) e
    have k1 : Kept F F s.heap h1 := .all (fun _ => id) hk1
    have I1 : Inv c env F oa st h1 m := I.grown hk1
    have S1 : Step W F oa s.heap F oa h1 := .grown _ _ _ hk1
    generalize its.toList = l at *
    obtain ⟨v1, v2, rfl, r1, r2⟩ := r.two
    show wpAny c.M A (assignInOrder [assign (.Name x p1) env, assign (.Name y p2) env] _) Q E { s with heap := h1 }
    refine assignInOrder_cons (wpAny_assign_Name (store_sound (s := { s with heap := h1 }) hE hWL hWs (hWC _ (.head _)) hxy.1 I1 (r1.keep k1) fun h2 tk m2 S2 I2 => ?_))
    refine assignInOrder_cons (wpAny_assign_Name (store_sound (s := { s with heap := h2, toks := tk }) hE hWL hWs (hWC _ (.tail _ (.head _))) hxy.2 I2 ((r2.keep k1).keep ((S2.mono hWs).kept I1)) fun h3 tk3 m3 S3 I3 => ?_))
    exact assignInOrder_nil (P h3 tk3 m3 ((S1.trans S2).trans S3) I3)
  | _ => exact none_some ht
end
end Mine

set_option maxRecDepth 100000
set_option linter.unusedVariables false
namespace Mine
open PySem PySem.W PySem.Calls PyProof.Rows PySem.SeqAt

abbrev locW (c : Cx) (env : Env) : Addr → Prop := fun b => b = c.B ∨ b = env.locals
section
variable {c : Cx} {A : Around} {env : Env} {sc : Scope} {F : Fz} {oa : Option Addr} {st st1 st2 : St} {m : Str → Option Value} {E : Value → Shared → Prop}

/-- what a step leaves -/
theorem Step.keptW {W wr : Fz} {F' : Fz} {oa' : Option Addr} {h h' : Heap} (I : Inv c env F oa st h m) (ap : Apart c env F oa wr) (hW : ∀ b, W b → stW c env b ∨ wr b) (s : Step W F oa h F' oa' h') : Kept F F' h h' :=
  ⟨s.le, fun a o f e => s.keep a o (fun w => (hW a w).elim (fun w => w.elim (fun w => I.nB (w ▸ f)) fun w => w.elim (fun w => I.nL (w ▸ f)) fun ⟨x, hx⟩ => (I.cell x a hx).2.1 f) fun w => ap.F a w f) (fun w => (I.own a w).1 f) e⟩

/-- a turn of a loop: the next item gets its names -/
theorem turn_next (hh : A.handled = none) (hE : EnvOK env sc) {W : Addr → Prop} (hWL : W env.locals) (hWs : ∀ b, W b → stW c env b) {tgt : Expr} {it : Value} {F0 wr : Fz} {xs : List PV} {SI : Nat → Heap → Prop} (IT : ItOK c A tgt it F0 wr xs SI) {i : Nat} {x : PV} (hx : xs[i]? = some x) {bs : List (Str × PV)} (hb : bindT sc tgt x = some bs) (hWC : ∀ b ∈ bs, env.kindOf b.1 = some .cell → ∀ cl, env.cells.lookup b.1 = some cl → W cl)
    {s : Shared} (I : Inv c env F oa st s.heap m) (hF0 : ∀ a, F0 a → F a) (hSI : SI i s.heap) (ap : Apart c env F oa wr) {Q : Unit → Shared → Prop} {E1 E2 : Value → Shared → Prop}
    (P : ∀ h' tk F' m', Step (fun b => W b ∨ wr b) F oa s.heap F' oa h' → Inv c env F' oa (st.putAll bs) h' m' → SI (i + 1) h' → Q () { s with heap := h', toks := tk }) :
    wpAny c.M A (pyNext it) (fun r s₁ => ∃ v, r = some v ∧ wpAny c.M A (letOwnedTupleGo tgt it v) (fun _ s₁' => wpAny c.M A (assign tgt env v) Q E1 s₁') E2 s₁) E2 s := by
  refine IT.item i x s (fun v s₁ => wpAny c.M A (assign tgt env v) Q E1 s₁) E2 hx hSI fun v h1 tk1 N hN hk1 hS1 rv => ?_
  have I1 : Inv c env (fun a => F a ∨ N a) oa st h1 m := I.turn ap (fun _ => .inl) (fun a f => f.imp id fun n => .inl (hN a n).1) hk1 fun a f => f.imp id fun n => (hN a n).2
  have S1 : Step (fun b => W b ∨ wr b) F oa s.heap (fun a => F a ∨ N a) oa h1 := ⟨fun _ => .inl, fun a f => f.imp id fun n => .inl (hN a n).1, fun b o nb _ => hk1 b o (fun z => nb (.inr z)), fun _ => .inl, fun b e => by
    by_cases hb : wr b
    · exact IT.alive _ _ hS1 b hb
    · exact some_keep (fun o => hk1 b o hb) e⟩
  have ap1 := ap.step (IT.alive _ _ hSI) S1
  refine assign_sound (c := c) (s := { s with heap := h1, toks := tk1 }) hh hE hWL hWs hb hWC I1 (rv.keep ⟨fun a f => f.imp (hF0 a) id, fun _ _ _ e => e⟩) fun h2 tk2 m2 S2 I2 => ?_
  refine P h2 tk2 _ m2 (S1.trans (S2.mono fun _ => .inl)) I2 (IT.frame _ _ _ hS1 fun a o w e => w.elim (fun f => ((S2.mono hWs).kept I1).2 a o (.inl (hF0 a f)) e) fun w => S2.keep a o (fun z => ap1.offW w (hWs a z)) (ap1.O a w) e)

abbrev testsOf (ifs : List Expr) (env : Env) : Sem Bool := forIn ifs true fun c r => if r = true then do let ok ← PySem.isTrue c env (eval c env); pure (ForInStep.yield ok) else pure (ForInStep.yield r)
def TestsOK (c : Cx) (A : Around) (sc : Scope) (st : St) (ifs : List Expr) (b : Bool) (st' : St) : Prop :=
  ∀ (env : Env) (s : Shared) (F : Fz) (oa : Option Addr) (m : Str → Option Value) (E : Value → Shared → Prop) (Q : Bool → Shared → Prop), EnvOK env sc → Inv c env F oa st s.heap m → TrPost c env F oa m s st' b Q → wpAny c.M A (testsOf ifs env) Q E s
theorem TestsOK.nil : TestsOK c A sc st [] true st := fun env s F oa m E Q hE I P => wpAny_tests_nil (P s.heap s.toks F oa (.refl _ _ _ _) I)
theorem TestsOK.one {e : Expr} {b : Bool} (h : TrOK c A sc st e b st1) : TestsOK c A sc st [e] b st1 := fun env s F oa m E Q hE I P => wpAny_tests_one (h env s F oa m E Q hE I P)

/-- one turn of a comprehension, whatever is put -/
def turnOf (e : Expr) (p0 : Pos) (tgt : Expr) (ifs : List Expr) (body : Sem Unit) (it acc : Value) (env : Env) : Sem Fin := do
  standAt p0
  match ← pyNext it with
  | none => pure (.done .next)
  | some v =>
    letOwnedTupleGo tgt it v
    assign tgt env v
    let mut ok := true
    for c in ifs do
      if ok then ok ← PySem.isTrue c env (eval c env)
    if ok then body
    again (.compLoop e 0 it acc env)
theorem turn_list (elt target iter : Expr) (ifs : List Expr) (scope : Scope) (pos : Pos) (it acc : Value) (env : Env) :
    compTurn (.ListComp elt [⟨target, iter, ifs, 0⟩] scope pos) 0 it acc env = turnOf (.ListComp elt [⟨target, iter, ifs, 0⟩] scope pos) iter.pos target ifs (do let _ ← call (.builtin "list.append") [acc, ← eval elt env]) it acc env := by rfl
theorem turn_dict (kx vx target iter : Expr) (ifs : List Expr) (scope : Scope) (pos : Pos) (it : Value) (D : Addr) (env : Env) :
    compTurn (.DictComp kx vx [⟨target, iter, ifs, 0⟩] scope pos) 0 it (.ref D) env = turnOf (.DictComp kx vx [⟨target, iter, ifs, 0⟩] scope pos) iter.pos target ifs (do
            let kv ← eval kx env
            let vv ← holding [kv] (eval vx env)
            standAt { kx.pos with endLine := vx.pos.endLine, endCol := vx.pos.endCol }
            holding [kv, vv] (dictSet D kv vv)) it (.ref D) env := by rfl

structure LoopCode (c : Cx) (A : Around) (e : Expr) (it acc : Value) (env : Env) : Prop where
  under : A.under (.compLoop e 0 it acc env) = A
  quiet : (Code.compLoop e 0 it acc env).quiet = true
  den : c.M.den (.compLoop e 0 it acc env) = (compTurn e 0 it acc env).onRaise (fun x => do noteFrame x env; theTreesLotGoes x)
theorem comp_loop {e : Expr} {p0 : Pos} {tgt : Expr} {ifs : List Expr} {body : Sem Unit} {it acc : Value} {R : Result → Shared → Prop} {s : Shared} (heq : compTurn e 0 it acc env = turnOf e p0 tgt ifs body it acc env) (I : Nat → Shared → Prop)
    (turn : ∀ n s, I n s → wpAny c.M A (pyNext it) (fun r s₁ => match r with
      | none => R (.ok .next) s₁
      | some v => wpAny c.M A (letOwnedTupleGo tgt it v) (fun _ s₁' => wpAny c.M A (assign tgt env v) (fun _ s₂ =>
          wpAny c.M A (testsOf ifs env) (fun ok s₃ => if ok = true then wpAny c.M A body (fun _ s₅ => ∃ m, m < n ∧ I m s₅) (notedBy c.M A env fun e s' => R (.error e) s') s₃
            else ∃ m, m < n ∧ I m s₃) (notedBy c.M A env fun e s' => R (.error e) s') s₂) (notedBy c.M A env fun e s' => R (.error e) s') s₁') (notedBy c.M A env fun e s' => R (.error e) s') s₁) (notedBy c.M A env fun e s' => R (.error e) s') s)
    (n : Nat) (h : I n s) (LC : LoopCode c A e it acc env) : codeAny c.M A (.compLoop e 0 it acc env) R s := by
  refine codeAny_loop LC.quiet I (fun n s hI => ?_) n h
  rw [LC.under, LC.den]
  show wpAny _ A ((compTurn e 0 it acc env).onRaise (fun x => do noteFrame x env; theTreesLotGoes x)) _ _ s
  refine wpAny_noted ?_
  rw [heq]
  unfold turnOf
  refine wpAny_bind (wpAny_standAt (wpAny_bind (wpAny_mono (turn n s hI) (fun r s₁ h₁ => ?_) fun _ _ h' => h')))
  cases r with
  | none => exact wpAny_pure h₁
  | some v =>
    refine wpAny_bind (wpAny_mono h₁ (fun _ s₁' h₁' => ?_) fun _ _ h' => h')
    refine wpAny_bind (wpAny_mono h₁' (fun _ s₂ h₂ => wpAny_bind (wpAny_mono h₂ (fun ok s₃ h₃ => ?_) fun _ _ h' => h')) fun _ _ h' => h')
    cases ok with
    | false => exact wpAny_pure ⟨rfl, h₃⟩
    | true => exact wpAny_bind (wpAny_mono h₃ (fun _ s₅ h₅ => wpAny_pure ⟨rfl, h₅⟩) fun _ _ h' => h')

/-- what is gathered -/
structure AccOK (c : Cx) (A : Around) (env : Env) (body : Sem Unit) (D : Addr) {α : Type} (B : St → α → α → St → Prop) (Is : Fz → Heap → α → Prop) (len : α → Nat) : Prop where
  keep : ∀ F F' h h' a, Is F h a → Kept F F' h h' → (∀ o, h.get? D = some o → h'.get? D = some o) → Is F' h' a
  grow : ∀ st acc acc' st', B st acc acc' st' → len acc' ≤ len acc + 1
  alive : ∀ F h a, Is F h a → (h.get? D).isSome = true
  put : ∀ st acc acc' st', B st acc acc' st' → len acc ≤ sizeLine → ∀ (s : Shared) (F : Fz) (oa : Option Addr) (m : Str → Option Value) (E : Value → Shared → Prop) (Q : Unit → Shared → Prop), Inv c env F oa st s.heap m → Apart c env F oa (fun a => a = D) → Is F s.heap acc →
    (∀ h' tk F' oa', Step (fun b => b = c.B ∨ b = D) F oa s.heap F' oa' h' → Inv c env F' oa' st' h' m → Is F' h' acc' → Q () { s with heap := h', toks := tk }) → wpAny c.M A body Q E s

def CompS (c : Cx) (A : Around) (sc : Scope) (tgt : Expr) (ifs : List Expr) {α : Type} (B : St → α → α → St → Prop) (accF : α) (stF : St) : List PV → α → St → Prop
  | [], acc, st => acc = accF ∧ st = stF
  | v :: r, acc, st => ∃ bs b st1, bindT sc tgt v = some bs ∧ localsOnly sc bs = true ∧ TestsOK c A sc (st.putAll bs) ifs b st1 ∧ ∃ acc1 st2, (bif b then B st1 acc acc1 st2 else (acc1 = acc ∧ st2 = st1)) ∧ CompS c A sc tgt ifs B accF stF r acc1 st2

theorem localsOnly_kind (hE : EnvOK env sc) {bs : List (Str × PV)} (h : localsOnly sc bs = true) : ∀ b ∈ bs, env.kindOf b.1 = some .local := fun b hb => (hE.kindOf _).trans (kind_of (List.all_eq_true.mp h b hb)).2

/-- between two turns -/
structure CompAt (c : Cx) (A : Around) (env : Env) (sc : Scope) (tgt : Expr) (ifs : List Expr) {α : Type} (B : St → α → α → St → Prop) (Is : Fz → Heap → α → Prop) (len : α → Nat) (D : Addr) (xs : List PV) (wr : Fz) (SI : Nat → Heap → Prop) (accF : α) (stF : St) (s0 : Shared) (F : Fz) (oa : Option Addr)
    (k : Nat) (s' : Shared) (i : Nat) (h : Heap) (tk : Nat) (F' : Fz) (oa' : Option Addr) (m' : Str → Option Value) (st' : St) (acc' : α) : Prop where
  eq : s' = { s0 with heap := h, toks := tk }
  k : k = xs.length + 1 - i
  le : i ≤ xs.length
  run : CompS c A sc tgt ifs B accF stF (xs.drop i) acc' st'
  len : len acc' ≤ i
  step : Step (fun b => locW c env b ∨ wr b ∨ b = D) F oa s0.heap F' oa' h
  inv : Inv c env F' oa' st' h m'
  si : SI i h
  ap : Apart c env F' oa' wr
  apD : Apart c env F' oa' (fun a => a = D)
  is : Is F' h acc'
theorem comp_run {α : Type} {n : Nat} (hh : A.handled = none) (hE : EnvOK env sc) {e : Expr} {p0 : Pos} {tgt : Expr} {ifs : List Expr} {body : Sem Unit} {it : Value} {D : Addr} {B : St → α → α → St → Prop} {Is : Fz → Heap → α → Prop} {len : α → Nat} {R : Result → Shared → Prop}
    (heq : compTurn e 0 it (.ref D) env = turnOf e p0 tgt ifs body it (.ref D) env) (AC : AccOK c A env body D B Is len) {xs : List PV} (hsz : xs.length ≤ sizeLine) {F0 wr : Fz} {SI : Nat → Heap → Prop} (IT : ItOK c A tgt it F0 wr xs SI) (hwD : ¬ wr D)
    {acc0 : α} {stF : St} {accF : α} (hrun : CompS c A sc tgt ifs B accF stF xs acc0 st) (hl0 : len acc0 = 0)
    {s : Shared} (I : Inv c env F oa st s.heap m) (hF0 : ∀ a, F0 a → F a) (hSI : SI 0 s.heap) (ap : Apart c env F oa wr) (apD : Apart c env F oa (fun a => a = D)) (hIs : Is F s.heap acc0)
    (P : ∀ h tk h1 F' oa' m', Step (fun b => locW c env b ∨ wr b ∨ b = D) F oa s.heap F' oa' h → Inv c env F' oa' stF h m' → Is F' h accF → Apart c env F' oa' wr → Apart c env F' oa' (fun a => a = D) → (∀ b o, ¬ wr b → h.get? b = some o → h1.get? b = some o) → R (.ok .next) { s with heap := h1, toks := tk })
    (LC : LoopCode c A e it (.ref D) env) :
    codeAny c.M A (.compLoop e 0 it (.ref D) env) R s := by
  refine comp_loop heq (fun k s' => ∃ i h tk F' oa' m' st' acc', CompAt c A env sc tgt ifs B Is len D xs wr SI accF stF s F oa k s' i h tk F' oa' m' st' acc') ?_ (xs.length + 1)
    ⟨0, s.heap, s.toks, F, oa, m, st, acc0, rfl, rfl, Nat.zero_le _, hrun, Nat.le_of_eq hl0, .refl _ _ _ _, I, hSI, ap, apD, hIs⟩ LC
  rintro k s' ⟨i, h, tk, F', oa', m', st', acc', rfl, rfl, hi, hr, hlen, hst, I', hS, ap', apD', hIs'⟩
  by_cases hlt : i < xs.length
  · have hxi : xs[i]? = some xs[i] := List.getElem?_eq_getElem hlt
    rw [List.drop_eq_getElem_cons hlt] at hr
    obtain ⟨bs, b, st1, hbs, hloc, hts, acc1, st2, hB, hr⟩ := hr
    have hsub : ∀ a, F0 a → F' a := fun a f => hst.le a (hF0 a f)
    refine wpAny_mono (turn_next (s := { s with heap := h, toks := tk }) hh hE (W := locW c env) (.inr rfl) (fun b w => w.elim .inl fun z => .inr (.inl z)) IT hxi hbs (fun b hb hc => by rw [localsOnly_kind hE hloc b hb] at hc; cases hc) I' hsub hS ap' fun h2 tk2 F2 m2 S2 I2 SI2 => ?_) (fun r s₁ hr => by obtain ⟨v, rfl, hv⟩ := hr; exact hv) fun _ _ x => x
    have hD2 : ∀ o, h.get? D = some o → h2.get? D = some o := fun o => S2.keep D o (fun w => w.elim (fun w => w.elim (fun z => apD'.B D rfl z.symm) fun z => apD'.L D rfl z.symm) hwD) (apD'.O D rfl)
    have Is2 := AC.keep _ _ _ _ _ hIs' (S2.keptW I' ap' fun b w => w.imp (fun w => w.imp id .inl) id) hD2
    have ap2 := ap'.step (IT.alive _ _ hS) S2
    have apD2 := apD'.step (fun x e => e ▸ AC.alive _ _ _ hIs') S2
    refine hts env { s with heap := h2, toks := tk2 } F2 oa' m2 _ _ hE I2 fun h3 tk3 F3 oa3 S3 I3 => ?_
    have hk3 : ∀ a o, (wr a ∨ a = D) → h2.get? a = some o → h3.get? a = some o := fun a o w e => S3.keep a o (fun z => w.elim (fun w => ap2.B a w z.symm) fun w => apD2.B a w z.symm) (w.elim (ap2.O a) (apD2.O a)) e
    have SI3 : SI (i + 1) h3 := IT.frame _ _ _ SI2 fun a o w e => w.elim (fun f => (S3.keptB I2).2 a o (S2.le a (hsub a f)) e) fun w => hk3 a o (.inl w) e
    have Is3 := AC.keep _ _ _ _ _ Is2 (S3.keptB I2) fun o => hk3 D o (.inr rfl)
    have ap3 := ap2.step (IT.alive _ _ SI2) S3
    have apD3 := apD2.step (fun x e => e ▸ AC.alive _ _ _ Is2) S3
    have st3 := (hst.trans (S2.mono (W' := fun b => locW c env b ∨ wr b ∨ b = D) fun _ w => w.imp id .inl)).trans (S3.mono fun b z => .inl (.inl z))
    have less : xs.length + 1 - (i + 1) < xs.length + 1 - i := by (clear st3 apD3 ap3 Is3 SI3 hk3 I3 S3 apD2 ap2 Is2 hD2 SI2 I2 S2 hsub hr hB hts hloc hbs hxi hlt hIs' apD' ap' hS I' hst hlen LC P hIs apD ap hSI hF0 I hl0 hrun hwD IT hsz; omega)
    cases b with
    | false =>
      obtain ⟨rfl, rfl⟩ := hB
      rw [if_neg Bool.false_ne_true]
      exact ⟨_, less, i + 1, h3, tk3, F3, oa3, m2, _, _, rfl, rfl, hlt, hr, Nat.le_succ_of_le hlen, st3, I3, SI3, ap3, apD3, Is3⟩
    | true =>
      rw [if_pos rfl]
      refine AC.put _ _ _ _ hB (Nat.le_trans hlen (Nat.le_trans hi hsz)) { s with heap := h3, toks := tk3 } F3 oa3 m2 _ _ I3 apD3 Is3 fun h4 tk4 F4 oa4 S4 I4 Is4 => ?_
      have hk4 : ∀ a o, wr a → h3.get? a = some o → h4.get? a = some o := fun a o w e => S4.keep a o (fun z => z.elim (fun z => ap3.B a w z.symm) fun z => hwD (z ▸ w)) (ap3.O a w) e
      have kF4 : ∀ a o, F3 a → h3.get? a = some o → h4.get? a = some o := fun a o f e => S4.keep a o (fun z => z.elim (fun z => I3.nB (z ▸ f)) fun z => apD3.F D rfl (z ▸ f)) (fun z => (I3.own a z).1 f) e
      have SI4 : SI (i + 1) h4 := IT.frame _ _ _ SI3 fun a o w e => w.elim (fun f => kF4 a o (S3.le a (S2.le a (hsub a f))) e) fun w => hk4 a o w e
      exact ⟨_, less, i + 1, h4, tk4, F4, oa4, m2, _, _, rfl, rfl, hlt, hr, Nat.le_trans (AC.grow _ _ _ _ hB) (Nat.succ_le_succ hlen), st3.trans (S4.mono fun b z => z.elim (fun z => .inl (.inl z)) fun z => .inr (.inr z)), I4, SI4, ap3.step (IT.alive _ _ SI3) S4, apD3.step (fun x e => e ▸ AC.alive _ _ _ Is3) S4, Is4⟩
  · obtain rfl : i = xs.length := Nat.le_antisymm hi (Nat.not_lt.mp hlt)
    rw [List.drop_length] at hr
    obtain ⟨rfl, rfl⟩ := hr
    exact IT.done { s with heap := h, toks := tk } _ _ hS fun h1 tk1 hk1 => P h tk1 h1 F' oa' m' hst I' hIs' ap' apD' hk1

/-! loops -/
def ForS (c : Cx) (A : Around) (sc : Scope) (tgt : Expr) (body : List Stmt) (flF : Fl) (stF : St) : List PV → St → Prop
  | [], st => flF = .next ∧ stF = st
  | v :: r, st => ∃ bs fl st1, bindT sc tgt v = some bs ∧ ExOK c A sc (st.putAll bs) body fl st1 ∧ match fl with
    | .next => ForS c A sc tgt body flF stF r st1
    | .ret _ => flF = fl ∧ stF = st1
theorem FlowIs.keep {F' : Fz} {h h' : Heap} (k : Kept F F' h h') {a : Flow} {b : Fl} (x : FlowIs c F h a b) : FlowIs c F' h' a b := by
  cases b with
  | next => exact x
  | ret y => obtain ⟨v, e, r⟩ := x; exact ⟨v, e, r.keep k⟩
structure ForAt (c : Cx) (A : Around) (env : Env) (sc : Scope) (tgt : Expr) (body : List Stmt) (xs : List PV) (wr : Fz) (SI : Nat → Heap → Prop) (flF : Fl) (stF : St) (s0 : Shared) (F : Fz) (oa : Option Addr)
    (k : Nat) (s' : Shared) (i : Nat) (h : Heap) (tk : Nat) (F' : Fz) (oa' : Option Addr) (m' : Str → Option Value) (st' : St) : Prop where
  eq : s' = { s0 with heap := h, toks := tk }
  k : k = xs.length + 1 - i
  le : i ≤ xs.length
  run : ForS c A sc tgt body flF stF (xs.drop i) st'
  step : Step (fun b => stW c env b ∨ wr b) F oa s0.heap F' oa' h
  inv : Inv c env F' oa' st' h m'
  si : SI i h
  ap : Apart c env F' oa' wr
theorem for_run (hh : A.handled = none) (hE : EnvOK env sc) {tgt : Expr} {it : Value} {body : List Stmt} {xs : List PV} {F0 wr : Fz} {SI : Nat → Heap → Prop} (IT : ItOK c A tgt it F0 wr xs SI) {flF : Fl} {stF : St} (hrun : ForS c A sc tgt body flF stF xs st)
    {s : Shared} {R : Result → Shared → Prop} (I : Inv c env F oa st s.heap m) (hF0 : ∀ a, F0 a → F a) (hSI : SI 0 s.heap) (ap : Apart c env F oa wr)
    (P : ∀ fl h tk h1 F' oa' m', Step (fun b => stW c env b ∨ wr b) F oa s.heap F' oa' h → Inv c env F' oa' stF h m' → FlowIs c F' h fl flF → Apart c env F' oa' wr → (∀ b o, ¬ wr b → h.get? b = some o → h1.get? b = some o) → R (.ok fl) { s with heap := h1, toks := tk }) :
    codeAny c.M A (.forLoop tgt it body [] env) R s := by
  refine codeAny_forLoop_any (fun k s' => ∃ i h tk F' oa' m' st', ForAt c A env sc tgt body xs wr SI flF stF s F oa k s' i h tk F' oa' m' st') ?_ (xs.length + 1)
    ⟨0, s.heap, s.toks, F, oa, m, st, rfl, rfl, Nat.zero_le _, hrun, .refl _ _ _ _, I, hSI, ap⟩
  rintro k s' ⟨i, h, tk, F', oa', m', st', rfl, rfl, hi, hr, hst, I', hS, ap'⟩
  by_cases hlt : i < xs.length
  · have hxi : xs[i]? = some xs[i] := List.getElem?_eq_getElem hlt
    rw [List.drop_eq_getElem_cons hlt] at hr
    obtain ⟨bs, fl, st1, hbs, hex, hr⟩ := hr
    have hsub : ∀ a, F0 a → F' a := fun a f => hst.le a (hF0 a f)
    refine wpAny_mono (turn_next (s := { s with heap := h, toks := tk }) hh hE (W := stW c env) (.inr (.inl rfl)) (fun b w => w) IT hxi hbs (fun b hb hc cl hcl => .inr (.inr ⟨_, hcl⟩)) I' hsub hS ap' fun h2 tk2 F2 m2 S2 I2 SI2 => ?_) (fun r s₁ hr => by obtain ⟨v, rfl, hv⟩ := hr; exact hv) fun _ _ x => x
    have ap2 := ap'.step (IT.alive _ _ hS) S2
    refine hex env { s with heap := h2, toks := tk2 } F2 oa' m2 _ _ hE I2 fun w h3 tk3 F3 oa3 m3 S3 I3 hf => ?_
    have st3 := (hst.trans S2).trans (S3.mono fun _ => .inl)
    have ap3 := ap2.step (IT.alive _ _ SI2) S3
    cases fl with
    | next =>
      obtain rfl : w = .next := hf
      exact ⟨xs.length + 1 - (i + 1), by (clear hr hex ap3 st3 I3 S3 ap2 SI2 I2 S2 hsub hbs hxi hlt; omega), i + 1, h3, tk3, F3, oa3, m3, st1, rfl, rfl, hlt, hr, st3, I3, IT.frame _ _ _ SI2 fun a o w e => w.elim (fun f => (S3.kept I2).2 a o (S2.le a (hsub a f)) e) fun w => S3.keep a o (ap2.offW w) (ap2.O a w) e, ap3⟩
    | ret v =>
      obtain ⟨rfl, rfl⟩ := hr
      obtain ⟨u, rfl, ru⟩ := id hf
      exact P _ h3 tk3 h3 F3 oa3 m3 st3 I3 hf ap3 fun _ _ _ e => e
  · obtain rfl : i = xs.length := Nat.le_antisymm hi (Nat.not_lt.mp hlt)
    rw [List.drop_length] at hr
    obtain ⟨rfl, rfl⟩ := hr
    exact IT.done { s with heap := h, toks := tk } _ _ hS fun h1 tk1 hk1 => wpAny_execs_nil (P .next h tk1 h1 F' oa' m' hst I' rfl ap' hk1)
end
end Mine

set_option maxRecDepth 100000
set_option linter.unusedVariables false
namespace Mine
open PySem PySem.W PySem.Calls PyProof.Rows PySem.SeqAt

/-! the cells that a comprehension takes -/
def cloOf (env : Env) : List (Str × NameKind) → List (Str × Addr) → List (Str × Addr)
  | [], acc => acc
  | p :: r, acc => match decide (p.2 = .free) with
    | true => cloOf env r ((p.1, (env.cells.lookup p.1).getD 0) :: acc)
    | false => cloOf env r acc
theorem cloOf_free {env : Env} {x : Str} {k : NameKind} {r : List (Str × NameKind)} {acc : List (Str × Addr)} (h : k = .free) : cloOf env ((x, k) :: r) acc = cloOf env r ((x, (env.cells.lookup x).getD 0) :: acc) := by subst h; rfl
theorem cloOf_not {env : Env} {x : Str} {k : NameKind} {r : List (Str × NameKind)} {acc : List (Str × Addr)} (h : k ≠ .free) : cloOf env ((x, k) :: r) acc = cloOf env r acc := by
  show (match decide (k = .free) with | true => _ | false => _) = _
  rw [decide_eq_false h]
theorem closure_at {env : Env} {scope : Scope} (h : ∀ x, (x, NameKind.free) ∈ scope.names → ∃ cl, env.cells.lookup x = some cl) : closureFor scope env = pure (cloOf env scope.names []) := by
  have key : ∀ (l : List (Str × NameKind)) (acc : List (Str × Addr)), (∀ x, (x, NameKind.free) ∈ l → ∃ cl, env.cells.lookup x = some cl) →
      (forIn l acc fun (p : Str × NameKind) (cs : List (Str × Addr)) => (if p.2 == .free then (do let a ← cellOf env p.1; pure (ForInStep.yield ((p.1, a) :: cs))) else pure (ForInStep.yield cs) : Sem _)) = pure (cloOf env l acc) := by
    intro l
    induction l with
    | nil => intro acc _; rfl
    | cons p r ih =>
      intro acc hl
      obtain ⟨x, k⟩ := p
      rw [List.forIn_cons]
      have ih := fun acc => ih acc fun y hy => hl y (.tail _ hy)
      by_cases hk : k = .free
      · subst hk
        obtain ⟨cl, hcl⟩ := hl x (.head _)
        have hc : cellOf env x = pure cl := by unfold cellOf; rw [hcl]
        rw [cloOf_free rfl, hcl, if_pos (beq_self_eq_true _), hc]
        exact ih _
      · rw [cloOf_not hk, if_neg (by rw [beq_iff_eq]; exact hk)]
        exact ih _
  exact (bind_pure _).trans (key scope.names [] h)
theorem cloOf_in {env : Env} {x : Str} {cl : Addr} (l : List (Str × NameKind)) : ∀ {acc : List (Str × Addr)}, (∀ y, (y, NameKind.free) ∈ l → ∃ cl, env.cells.lookup y = some cl) → (cloOf env l acc).lookup x = some cl → acc.lookup x = some cl ∨ env.cells.lookup x = some cl := by
  induction l with
  | nil => intro acc _ h; exact .inl h
  | cons p r ih =>
    intro acc hl h
    obtain ⟨y, k⟩ := p
    by_cases hk : k = .free
    · rw [cloOf_free hk] at h
      refine (ih (fun z hz => hl z (.tail _ hz)) h).elim (fun h => ?_) .inr
      rw [List.lookup_cons] at h
      cases hx : x == y with
      | true =>
        rw [hx] at h
        obtain ⟨cl', hcl⟩ := hl y (hk ▸ .head _)
        rw [hcl] at h
        cases h
        rw [beq_iff_eq.mp hx]; exact .inr hcl
      | false => rw [hx] at h; exact .inl h
    · rw [cloOf_not hk] at h; exact ih (fun z hz => hl z (.tail _ hz)) h
theorem cloOf_has {env : Env} {x : Str} (l : List (Str × NameKind)) : ∀ {acc : List (Str × Addr)}, ((x, NameKind.free) ∈ l ∨ (acc.lookup x).isSome = true) → ((cloOf env l acc).lookup x).isSome = true := by
  induction l with
  | nil => intro acc h; exact h.elim (fun h => absurd h List.not_mem_nil) id
  | cons p r ih =>
    intro acc h
    obtain ⟨y, k⟩ := p
    by_cases hk : k = .free
    · rw [cloOf_free hk]
      refine ih (h.elim (fun h => (List.mem_cons.mp h).elim (fun e => .inr ?_) .inl) fun h => .inr ?_)
      · cases e; rw [List.lookup_cons, beq_self_eq_true]; rfl
      · rw [List.lookup_cons]; cases x == y
        · exact h
        · rfl
    · rw [cloOf_not hk]
      exact ih (h.imp (fun h => (List.mem_cons.mp h).elim (fun e => absurd (congrArg Prod.snd e).symm hk) id) id)

structure NameOk (scope sc : Scope) (x : Str) (k : NameKind) : Prop where
  cell : k ≠ .cell
  loc : k = .local → scope.names.lookup x = some .local
  free : k = .free → kindIs sc x .cell = true
theorem scopeOk_at {scope sc : Scope} (h : scopeOk scope sc = true) : scope.kind = .function ∧ ∀ p ∈ scope.names, NameOk scope sc p.1 p.2 := by
  unfold scopeOk at h
  cases hk : decide (scope.kind = .function) with
  | false => rw [hk] at h; cases h
  | true =>
    rw [hk] at h
    refine ⟨of_decide_eq_true hk, fun p hp => ?_⟩
    have h1 : nameOk scope sc p.1 p.2 = true := List.all_eq_true.mp h p hp
    obtain ⟨x, k⟩ := p
    dsimp only at h1 ⊢
    unfold nameOk at h1
    cases hs : seq x "__debug__" with
    | true => rw [hs] at h1; cases h1
    | false =>
      rw [hs] at h1
      cases k with
      | «local» => exact ⟨nofun, fun _ => (kind_of h1).2, nofun⟩
      | free => exact ⟨nofun, nofun, fun _ => h1⟩
      | cell => cases h1
      | _ => exact ⟨nofun, nofun, nofun⟩
theorem relab_eq {scope sc : Scope} {env : Env} (hE : EnvOK env sc) (h : scopeOk scope sc = true) : relabel scope env = relab scope sc := by
  unfold relabel relab
  congr 1
  apply List.map_congr_left
  rintro ⟨x, k⟩ hp
  have N := (scopeOk_at h).2 _ hp
  cases k with
  | free =>
    have hk := N.free rfl
    have hl : env.kindOf x = some .cell := (hE.kindOf x).trans (kind_of hk).2
    show _ = (x, match kindIs sc x .cell with | true => NameKind.cell | false => NameKind.free)
    dsimp only at hk
    rw [hk]
    simp [hE.fn, hl]
  | _ => rfl
theorem relab_lookup {scope sc : Scope} {x : Str} : (relab scope sc).names.lookup x = (scope.names.lookup x).map (relabK sc x) := by
  unfold relab
  dsimp only
  induction scope.names with
  | nil => rfl
  | cons p r ih =>
    rw [List.map_cons, List.lookup_cons]
    obtain ⟨y, k⟩ := p
    rw [List.lookup_cons]
    dsimp only
    cases hx : x == y with
    | true => rw [beq_iff_eq.mp hx]; rfl
    | false => exact ih
theorem lk_capture {scope : Scope} {x : Str} (l : List (Str × PV)) : ∀ {v : PV}, lk x (capture scope l) = some v → kindIs scope x .free = true ∧ lk x l = some v := by
  induction l with
  | nil => intro v h; exact none_some h
  | cons p r ih =>
    intro v h
    have h' : lk x (match kindIs scope p.1 .free with | true => p :: capture scope r | false => capture scope r) = some v := h
    rw [lk_cons]
    cases hk : kindIs scope p.1 .free with
    | true =>
      rw [hk] at h'
      dsimp only at h'
      rw [lk_cons] at h'
      by_cases hx : x = p.1
      · rw [if_pos hx] at h' ⊢; exact ⟨hx ▸ hk, h'⟩
      · rw [if_neg hx] at h' ⊢; exact ih h'
    | false =>
      rw [hk] at h'
      have q := ih h'
      have hx : ¬ x = p.1 := fun e => by rw [← e, q.1] at hk; cases hk
      rw [if_neg hx]
      exact q

section
variable {c : Cx} {A : Around} {env : Env} {sc : Scope} {F : Fz} {oa : Option Addr} {st st1 st2 : St} {m : Str → Option Value} {E : Value → Shared → Prop}

/-- sealing what a comprehension takes -/
theorem seal_sound {h : Heap} (I : Inv c env F oa st h m) (scope : Scope) :
    ∃ F2 oa2, Inv c env F2 oa2 (sealFor scope st) h m ∧ (∀ a, F a → F2 a) ∧ (∀ W, Step W F oa h F2 oa2 h) ∧ ∀ wr, Apart c env F oa wr → Apart c env F2 oa2 wr := by
  have same : ∃ F2 oa2, Inv c env F2 oa2 st h m ∧ (∀ a, F a → F2 a) ∧ (∀ W, Step W F oa h F2 oa2 h) ∧ ∀ wr, Apart c env F oa wr → Apart c env F2 oa2 wr := ⟨F, oa, I, fun _ x => x, fun W => .refl _ _ _ _, fun wr a => a⟩
  unfold sealFor
  cases st.own with
  | none => exact same
  | some x =>
    dsimp only
    cases kindIs scope x .free with
    | false => exact same
    | true => exact ⟨F.add oa, none, I.unown, fun _ x => .inl x, fun W => Step.unown W F oa h, fun wr a => ⟨fun x w f => f.elim (a.F x w) (a.O x w), a.L, a.B, fun x w e => (by cases e), a.C, a.Z⟩⟩
theorem seal_free {scope : Scope} {x : Str} (h : kindIs scope x .free = true) : (sealFor scope st).isOwn x = false := by
  unfold sealFor
  cases hy : st.own with
  | none => unfold St.isOwn; rw [hy]
  | some y =>
    dsimp only
    cases hk : kindIs scope y .free with
    | true => rfl
    | false =>
      unfold St.isOwn
      rw [hy]
      exact seq_ne fun e => by rw [← e, h] at hk; cases hk

/-- a comprehension's outcome -/
structure CompKit (c : Cx) (A : Around) (sc' : Scope) {α : Type} (e : Expr) (tgt : Expr) (ifs : List Expr) (accObj : Obj) (B : St → α → α → St → Prop) (acc0 : α) (mk : α → PV) (newAcc : Sem Value) : Prop where
  freed : accObj.isFreed = false
  new : ∀ (s : Shared) (Q : Value → Shared → Prop) (E : Value → Shared → Prop), Q (.ref s.heap.objs.size) { s with heap := s.heap.push accObj } → wpAny c.M A newAcc Q E s
  start : ∀ it D cenv R s, codeAny c.M A (.compLoop e 0 it (.ref D) cenv) R s → wpAny c.M A (pyIter it) (fun it' s' => codeAny c.M A (.compLoop e 0 it' (.ref D) cenv) R s') (notedBy c.M A cenv fun x s' => R (.error x) s') s → codeAny c.M A (.compStart e 0 it (.ref D) cenv) R s
  loop : ∀ D it cenv, EnvOK cenv sc' → ∃ (p0 : Pos) (body : Sem Unit) (Is : Fz → Heap → α → Prop) (len : α → Nat), compTurn e 0 it (.ref D) cenv = turnOf e p0 tgt ifs body it (.ref D) cenv ∧ LoopCode c A e it (.ref D) cenv ∧ AccOK c A cenv body D B Is len ∧ len acc0 = 0 ∧
    (∀ F h, h.get? D = some accObj → (D == sysModules) = false → Is F h acc0) ∧ ∀ F h a, Is F h a → Rep c (F.one D) h (.ref D) (mk a)
theorem comp_core {α : Type} (T : Stat c) (hh : A.handled = none) (hE : EnvOK env sc) {e iter tgt : Expr} {ifs : List Expr} {scope : Scope} {accObj : Obj} {B : St → α → α → St → Prop} {acc0 : α} {mk : α → PV} {newAcc : Sem Value} (CK : CompKit c A (relab scope sc) e tgt ifs accObj B acc0 mk newAcc)
    {xs : List PV} {st1 st3 : St} {accF : α} (hsrc : SrcOK c A sc st tgt iter xs st1) (hok : scopeOk scope sc = true) (hsz : sizeOk xs.length = true)
    (hrun : CompS c A (relab scope sc) tgt ifs B accF st3 xs acc0 ⟨capture scope (sealFor scope st1).vars, none, (sealFor scope st1).bowl⟩)
    {s : Shared} (I : Inv c env F oa st s.heap m) {RR : Value → Addr → Result → Shared → Prop}
    (hRR : ∀ D C h' tk F' oa' mC, Step (onlyB c) F oa s.heap F' oa' h' → Inv c env F' oa' { sealFor scope st1 with bowl := st3.bowl } h' m → Rep c F' h' (.ref D) (mk accF) → h'.Ns C mC → Apart c env F' oa' (fun a => a = C) → s.heap.get? C = none → RR (.ref D) C (.ok .next) { s with heap := h', toks := tk }) :
    wpAny c.M A (eval iter env) (fun xv s₁ => wpAny c.M A (pyIter xv) (fun it s₂ => wpAny c.M A newAcc (fun acc s₃ => wpAny c.M A (newFunctionEnv scope env.globals (cloOf env scope.names []) [] env.qual none .none (some env)) (fun cenv s₄ =>
      codeAny c.M A (.compStart e 0 it acc { cenv with scope := relabel scope env }) (RR acc cenv.locals) s₄) E s₃) E s₂) E s₁) E s := by
  obtain ⟨hkf, hnm⟩ := scopeOk_at hok
  have hfree : ∀ y, (y, NameKind.free) ∈ scope.names → ∃ cl, env.cells.lookup y = some cl := fun y hy => hE.cells y ((hE.kindOf y).trans (kind_of ((hnm _ hy).free rfl)).2)
  have hz := sizeOk_le hsz
  refine hsrc.run env s F oa m E _ hE I fun it h1 tk1 F1 oa1 wr SI hs1 I1 IT hSI ap hnew => ?_
  obtain ⟨F2, oa2, I2, hF12, hs2, hap2⟩ := seal_sound I1 scope
  have ap2 := hap2 wr ap
  refine CK.new { s with heap := h1, toks := tk1 } _ _ ?_
  have hcell : ∀ x ∈ scope.names, x.2 ≠ .cell := fun p hp => (hnm p hp).cell
  refine wpAny_newFunctionEnv hcell (by intro y hy; cases hy) (fun h3 hns3 hsb3 => ?_) hkf
  -- names for the new heap
  dsimp only at hns3 hsb3 ⊢
  have hsz2 : (h1.push accObj).objs.size = h1.objs.size + 1 := Heap.size_push ..
  have hDC : h1.objs.size ≠ (h1.push accObj).objs.size := by rw [hsz2]; exact Nat.ne_of_lt (Nat.lt_succ_self _)
  have up : ∀ b o, h1.get? b = some o → h3.get? b = some o := fun b o e => by
    have hlt := Heap.lt_size e
    exact hsb3.extBut b o (by rw [hsz2]; exact Nat.ne_of_lt (Nat.lt_succ_of_lt hlt)) (push_keep _ _ _ (push_keep _ _ _ e))
  have hD3 : h3.get? h1.objs.size = some accObj := hsb3.extBut _ _ hDC (push_keep _ _ _ (Heap.get?_push_size _ CK.freed))
  obtain ⟨C, hCdef⟩ : ∃ C, C = (h1.push accObj).objs.size := ⟨_, rfl⟩
  rw [← hCdef] at hns3 hDC ⊢
  have hCn1 : h1.get? C = none := get_none_of_le (by rw [hCdef, hsz2]; exact Nat.le_succ _)
  have hDn1 : h1.get? h1.objs.size = none := none_size
  obtain ⟨oC, _, _, hoC, _⟩ := id hns3
  have I3 : Inv c env F2 oa2 (sealFor scope st1) h3 m := I2.grown up
  have S3 : Step (onlyB c) F2 oa2 h1 F2 oa2 h3 := .grown _ _ _ up
  have apD : Apart c env F2 oa2 (fun a => a = h1.objs.size) := Apart.new I2 fun a e => e ▸ hDn1
  have apC : Apart c env F2 oa2 (fun a => a = C) := Apart.new I2 fun a e => e ▸ hCn1
  have hsys : (h1.objs.size == sysModules) = false := sys_ne T I2.base hDn1
  -- the comprehension's own frame
  -- the comprehension's own frame
  show codeAny c.M A (.compStart e 0 it (.ref h1.objs.size) (compEnvC scope (cloOf env scope.names []) C env)) (RR (.ref h1.objs.size) C) { s with heap := h3, toks := tk1 + 0 }
  have hrl : relabel scope env = relab scope sc := relab_eq hE hok
  have fromFree : ∀ x, (relab scope sc).names.lookup x = some .cell → (x, NameKind.free) ∈ scope.names := fun x hx => by
    rw [relab_lookup] at hx
    obtain ⟨k, hk, hk2⟩ := map_some hx
    have hmem := mem_of_lookup hk
    have hc := (hnm _ hmem).cell
    cases k with
    | free => exact hmem
    | cell => exact absurd rfl hc
    | _ => cases hk2
  have hEc : EnvOK (compEnvC scope (cloOf env scope.names []) C env) (relab scope sc) := ⟨hrl, hkf, hE.glob, hE.blt, fun x hx => by
    have h1 : (relabel scope env).names.lookup x = some .cell := hx
    rw [hrl] at h1
    exact Option.isSome_iff_exists.mp (cloOf_has _ (.inl (fromFree x h1)))⟩
  have hcells : ∀ x cl, (compEnvC scope (cloOf env scope.names []) C env).cells.lookup x = some cl → env.cells.lookup x = some cl := fun x cl h => (cloOf_in _ hfree h).elim (fun z => nomatch z) id
  obtain ⟨p0, body, Is, len, heq, LC, AC, hl0, hIs0, hend⟩ := CK.loop h1.objs.size it (compEnvC scope (cloOf env scope.names []) C env) hEc
  generalize hcenv : compEnvC scope (cloOf env scope.names []) C env = cenv at *
  have hcl : cenv.locals = C := by rw [← hcenv]; rfl
  have hck : ∀ x, cenv.kindOf x = (relab scope sc).names.lookup x := fun x => by rw [← hrl, ← hcenv]; rfl
  have Ic : Inv c cenv F2 none ⟨capture scope (sealFor scope st1).vars, none, (sealFor scope st1).bowl⟩ h3 (fun x => ([] : List (Str × Value)).reverse.lookup x) := by
    refine ⟨I3.base, hcl ▸ hns3, I3.bowl, I3.kwF, I3.dom, I3.nB, hcl ▸ apC.F C rfl, hcl ▸ (apC.B C rfl).symm, hcl ▸ apC.Z C rfl, fun x cl h => I3.C0 x cl (hcells x cl h), fun x cl h => ?_, fun x y cl h k => I3.apart x y cl (hcells x cl h) (hcells y cl k), nofun, nofun, fun x pv hx _ => ?_, fun x pv hx ho => nomatch ho⟩
    · obtain ⟨q1, q2, q3, q4⟩ := I3.cell x cl (hcells x cl h)
      exact ⟨q1, q2, hcl ▸ apC.C C rfl x cl (hcells x cl h), q4⟩
    · obtain ⟨hkx, hlx⟩ := lk_capture _ hx
      obtain ⟨v, hva, hrv⟩ := I3.var x pv hlx (seal_free hkx)
      refine ⟨v, ?_, hrv⟩
      have hfx := (kind_of hkx).2
      have hsc := (hnm _ (mem_of_lookup hfx)).free rfl
      have hcx : (relab scope sc).names.lookup x = some .cell := by
        rw [relab_lookup, hfx]
        show some (match kindIs sc x .cell with | true => NameKind.cell | false => NameKind.free) = _
        dsimp only at hsc
        rw [hsc]
      have hec : env.kindOf x = some .cell := (hE.kindOf x).trans (kind_of hsc).2
      rcases hva with ⟨p, q⟩ | ⟨p, cl, q, r⟩
      · rw [hec] at p; cases p
      · obtain ⟨cl', hcl'⟩ := hEc.cells x ((hck x).trans hcx)
        have := hcells x cl' hcl'
        rw [q] at this; cases this
        exact .inr ⟨(hck x).trans hcx, cl, hcl', r⟩
  have hwrC : ∀ a, wr a → a ≠ C := fun a w => ne_new (IT.alive _ _ hSI a w) hCn1
  have hwrD : ¬ wr h1.objs.size := fun w => some_none (IT.alive _ _ hSI _ w) hDn1
  have apw : Apart c cenv F2 none wr := ⟨ap2.F, fun a w => hcl ▸ (hwrC a w).symm, ap2.B, fun a w e => (by cases e), fun a w x cl h => ap2.C a w x cl (hcells x cl h), ap2.Z⟩
  have apd : Apart c cenv F2 none (fun a => a = h1.objs.size) := ⟨apD.F, fun a w => hcl ▸ (w ▸ hDC.symm), apD.B, fun a w e => (by cases e), fun a w x cl h => apD.C a w x cl (hcells x cl h), apD.Z⟩
  have hSI3 : SI 0 h3 := IT.frame _ _ _ hSI fun a o _ e => up a o e
  have loop : ∀ s₃ : Shared, s₃ = { s with heap := h3, toks := tk1 + 0 } → codeAny c.M A (.compLoop e 0 it (.ref h1.objs.size) cenv) (RR (.ref h1.objs.size) C) s₃ := by
    rintro s₃ rfl
    refine comp_run (n := 0) (s := { s with heap := h3, toks := tk1 + 0 }) hh hEc heq AC hz IT hwrD hrun hl0 Ic hF12 hSI3 apw apd (hIs0 _ _ hD3 hsys) (fun h tk h' F' oa' m' hst Ie hIse apwe apde hke => ?_) LC
    -- the outer frame behind the loop
    have hD' : (h'.get? h1.objs.size).isSome = true := some_keep (fun o => hke _ o hwrD) (AC.alive _ _ _ hIse)
    have kF' : Kept F' F' h h' := ⟨fun _ x => x, fun a o f e => hke a o (fun w => apwe.F a w f) e⟩
    have Is' := AC.keep _ _ _ _ _ hIse kF' fun o e => hke _ o hwrD e
    have hold : ∀ b o, b ≠ c.B → ¬ wr b → h1.get? b = some o → h'.get? b = some o := fun b o hb hw e => by
      refine hke b o hw (hst.keep b o (fun w => ?_) (by intro z; cases z) (up b o e))
      rcases w with (w | w) | w | w
      · exact hb w
      · rw [hcl] at w; rw [w, hCn1] at e; cases e
      · exact hw w
      · rw [w, hDn1] at e; cases e
    have hnewF : ∀ a, F'.one h1.objs.size a → F2 a ∨ h1.get? a = none := fun a f => f.elim (fun f => (hst.new a f).imp id fun z => z.elim (none_of (up a)) nofun) fun (f : a = _) => .inr (f ▸ hDn1)
    have hbowl : BowlIs c h' st3.bowl := Ie.bowl.at fun o => hke _ o fun w => apwe.B _ w rfl
    have hdm : ∀ a, F'.one h1.objs.size a → (h'.get? a).isSome = true := fun a f => f.elim (fun f => some_keep (fun o => hke _ _ fun w => apwe.F a w f) (Ie.dom a f)) fun (f : a = _) => f ▸ hD'
    have Iout : Inv c env (F'.one h1.objs.size) oa2 { sealFor scope st1 with bowl := st3.bowl } h' m := I2.gen ap2 (fun a f => .inl (hst.le a f)) (fun a f => (hnewF a f).imp id .inl) hold hbowl (fun b o e => hke b o (fun w => by rw [ap2.Z b w] at e; cases e) (Ie.base b o e)) hdm
    have S12 : Step (onlyB c) F oa s.heap F2 oa2 h1 := hs1.trans (hs2 _)
    have nwr : ∀ b, (s.heap.get? b).isSome = true → ¬ wr b := fun b hb w => some_none hb (hnew b w)
    have Sout : Step (onlyB c) F oa s.heap (F'.one h1.objs.size) oa2 h' := by
      refine ⟨fun a f => .inl (hst.le a (S12.le a f)), fun a f => (hnewF a f).elim (S12.new a) fun z => .inr (.inl (none_dom (S12.dom a) z)), fun b o hb ho e => hold b o hb (nwr b (get_some e)) (S12.keep b o hb ho e), S12.own, fun b e => ?_⟩
      by_cases hb : b = c.B
      · exact hb ▸ hbowl.some
      · exact some_keep (fun o => hold b o hb (nwr b e)) (S12.dom b e)
    have apCo : Apart c env (F'.one h1.objs.size) oa2 (fun a => a = C) := ⟨fun a w f => ?_, apC.L, apC.B, apC.O, apC.C, apC.Z⟩
    · refine hRR h1.objs.size C h' tk _ oa2 m' Sout Iout (hend _ _ _ Is') ?_ apCo (none_dom (S12.dom _) hCn1)
      exact hcl ▸ Ie.ns.at fun o => hke _ o fun w => hwrC _ w hcl
    · have w' : a = C := w
      rw [w'] at f
      rcases f with f | f
      · exact Ie.nL (hcl ▸ f)
      · exact hDC f.symm
  exact CK.start it h1.objs.size cenv _ _ (loop _ rfl) (IT.self 0 _ _ _ hSI3 (loop _ rfl))
end
end Mine

set_option maxRecDepth 100000
set_option linter.unusedVariables false
namespace Mine
open PySem PySem.W PySem.Calls PyProof.Rows PySem.SeqAt

section
variable {c : Cx} {A : Around} {env : Env} {sc : Scope} {F : Fz} {oa : Option Addr} {st st1 st2 : St} {m : Str → Option Value} {E : Value → Shared → Prop}

/-- one address apart from the frame turns -/
structure Off (c : Cx) (F' : Fz) (D : Addr) (h' h2 : Heap) : Prop where
  k : ∀ b o, b ≠ D → h'.get? b = some o → h2.get? b = some o
theorem Off.of {F' : Fz} {D : Addr} {h' h2 : Heap} (hsame : Heap.SameBut D h' h2) : Off c F' D h' h2 := ⟨fun b o hb e => (hsame.2 b hb).trans e⟩
theorem Off.inv {D : Addr} {h' h2 : Heap} (o : Off c F D h' h2) (I : Inv c env F oa st h' m) (ap : Apart c env F oa (fun a => a = D)) : Inv c env F oa st h2 m := I.turn ap (fun _ => id) (fun _ => .inl) o.k fun _ => .inl
theorem Off.kept {D : Addr} {h' h2 : Heap} (o : Off c F D h' h2) (ap : Apart c env F oa (fun a => a = D)) : Kept F F h' h2 := ⟨fun _ => id, fun a ob f e => o.k a ob (fun z => ap.F a z f) e⟩
theorem Off.step {W : Addr → Prop} {F' : Fz} {oa' : Option Addr} {D : Addr} {h h' h2 : Heap} (o : Off c F' D h' h2) (s : Step W F oa h F' oa' h') (hD : (h2.get? D).isSome = true) : Step (fun b => W b ∨ b = D) F oa h F' oa' h2 :=
  ⟨s.le, s.new, fun b ob nb ho e => o.k b ob (fun z => nb (.inr z)) (s.keep b ob (fun z => nb (.inl z)) ho e), s.own, fun b e => by
    by_cases hb : b = D
    · exact hb ▸ hD
    · exact some_keep (fun ob => o.k b ob hb) (s.dom b e)⟩
/-- what was not there before may turn -/
theorem Off.step0 {W : Addr → Prop} {F' : Fz} {oa' : Option Addr} {D : Addr} {h h' h2 : Heap} (o : Off c F' D h' h2) (s : Step W F oa h F' oa' h') (hn : h.get? D = none) : Step W F oa h F' oa' h2 :=
  ⟨s.le, s.new, fun b ob nb ho e => o.k b ob (ne_new (get_some e) hn) (s.keep b ob nb ho e), s.own, fun b e => some_keep (fun ob => o.k b ob (ne_new e hn)) (s.dom b e)⟩

/-! comprehensions -/
abbrev emptyList : Obj := { cls := .type "list", data := .seq ([] : List Value).toArray }
def ListB (c : Cx) (A : Around) (sc : Scope) (elt : Expr) (st : St) (acc acc' : List PV) (st' : St) : Prop := ∃ v, EvOK c A sc st elt v st' ∧ acc' = acc ++ [v]
def DictB (c : Cx) (A : Around) (sc : Scope) (kx vx : Expr) (st : St) (acc acc' : List (Str × PV)) (st' : St) : Prop := ∃ k st1 v, EvOK c A sc st kx (.str k) st1 ∧ EvOK c A sc st1 vx v st' ∧ acc' = put k v acc
theorem kit_list {elt tgt iter : Expr} {ifs : List Expr} {scope : Scope} {pos : Pos} : CompKit c A sc (.ListComp elt [⟨tgt, iter, ifs, 0⟩] scope pos) tgt ifs emptyList (ListB c A sc elt) [] PV.list (newList []) where
  freed := rfl
  new := fun s Q E h => wpAny_newObj_type h
  start := fun it D cenv R s h0 h => codeAny_compStart_list h0 h
  loop := fun D it cenv hEc => by
    refine ⟨iter.pos, _, fun F h acc => ObjIs c F h D (.list acc), List.length, turn_list elt tgt iter ifs scope pos it (.ref D) cenv, ⟨rfl, rfl, rfl⟩, ⟨fun F F' h h' a o k hD => o.keep k hD, fun st acc acc' st' ⟨v, _, e⟩ => by rw [e, List.length_append]; exact Nat.le_refl _, fun F h a o => o.alive, fun st acc acc' st' ⟨v, hv, e⟩ hz s F oa m E Q I ap o P => ?_⟩, rfl, fun F h hD _ => ⟨#[], ⟨0, hD⟩, .nil⟩, fun F h a o => (o.keep (.all (fun _ => .inl) fun _ _ => id) fun _ => id).rep (.inr rfl)⟩
    subst e
    refine wpAny_bind (hv cenv s F oa m E _ hEc I fun u h' tk F' oa' hs I' ru => ?_)
    obtain ⟨items, p, r⟩ := o.keep (hs.keptB I) fun o => hs.keep D o (fun w => ap.B D rfl w.symm) (ap.O D rfl)
    refine wpAny_bind (wpAny_list_append_plain p (fun h2 p2 hsame => wpAny_pure ?_) (by rw [r.size]; exact hz))
    have ap' := ap.step (fun x e => e ▸ o.alive) hs
    have O : Off c F' D h' h2 := .of hsame
    have o2 : ObjIs c F' h2 D (.list (acc ++ [v])) := ⟨_, p2, by rw [Array.toList_push]; exact (r.append (.cons ru .nil)).keep (O.kept ap')⟩
    exact P h2 _ F' oa' (O.step hs o2.alive) (O.inv I' ap') o2
theorem kit_dict {kx vx tgt iter : Expr} {ifs : List Expr} {scope : Scope} {pos : Pos} : CompKit c A sc (.DictComp kx vx [⟨tgt, iter, ifs, 0⟩] scope pos) tgt ifs emptyDict (DictB c A sc kx vx) [] PV.dict newDict where
  freed := rfl
  new := fun s Q E h => wpAny_newObj_type h
  start := fun it D cenv R s h0 h => codeAny_compStart_dict h0 h
  loop := fun D it cenv hEc => by
    refine ⟨iter.pos, _, fun F h acc => ObjIs c F h D (.dict acc), List.length, turn_dict kx vx tgt iter ifs scope pos it D cenv, ⟨rfl, rfl, rfl⟩, ⟨fun F F' h h' a o k hD => o.keep k hD, fun st acc acc' st' ⟨k, st1, v, _, _, e⟩ => by rw [e]; exact put_len _ _ _, fun F h a o => o.alive, fun st acc acc' st' ⟨k, s1, v, hkx, hvx, e⟩ hz s F oa m E Q I ap o P => ?_⟩, rfl, fun F h hD hsy => ⟨hsy, [], ⟨_, _, _, hD, ⟨rfl, rfl, rfl⟩, rfl, fun _ he => by simp at he, .nil, List.nodup_nil⟩, .nil⟩, fun F h a o => (o.keep (.all (fun _ => .inl) fun _ _ => id) fun _ => id).rep (.inr rfl)⟩
    subst e
    refine wpAny_bind (hkx cenv s F oa m E _ hEc I fun u h1 tk F1 oa1 hs1 I1 rk => ?_)
    refine wpAny_bind (wpAny_holding (hvx cenv _ F1 oa1 m E _ hEc I1 fun w h' tk F' oa' hs2 I' ru => ?_))
    have hs := hs1.trans hs2
    obtain ⟨t, rfl⟩ := rk.inv
    obtain ⟨hsy, kvs, p, r⟩ := o.keep (hs.keptB I) fun o => hs.keep D o (fun w => ap.B D rfl w.symm) (ap.O D rfl)
    have hnd : (kvs.map (·.1)).Nodup := by obtain ⟨_, _, _, _, _, _, _, _, h⟩ := p; exact h
    refine wpAny_bind (wpAny_standAt (wpAny_holding (wpAny_dictSet_pairs (knd := c.kd) (k := k) (strKind_is _ _ _ _) p (fun h2 p2 hsame => ?_) (by rw [r.length]; exact hz))))
    have ap' := ap.step (fun x e => e ▸ o.alive) hs
    have O : Off c F' D h' h2 := .of hsame
    have o2 : ObjIs c F' h2 D (.dict (put k v acc)) := ⟨hsy, _, p2, (RepE.put ru r hnd).keep (O.kept ap')⟩
    exact P h2 _ F' oa' (O.step hs o2.alive) (O.inv I' ap') o2

theorem clo_at (hE : EnvOK env sc) {scope : Scope} (hok : scopeOk scope sc = true) : closureFor scope env = pure (cloOf env scope.names []) :=
  closure_at fun y hy => hE.cells y ((hE.kindOf y).trans (kind_of (((scopeOk_at hok).2 _ hy).free rfl)).2)
/-- what a comprehension leaves -/
structure CompOut (c : Cx) (A : Around) (sc : Scope) (st : St) (iter tgt : Expr) (ifs : List Expr) (scope : Scope) {α : Type} (B : St → α → α → St → Prop) (acc0 accF : α) (st1 : St) (b' : Bowl) (xs : List PV) (st3 : St) : Prop where
  src : SrcOK c A sc st tgt iter xs st1
  ok : scopeOk scope sc = true
  size : sizeOk xs.length = true
  run : CompS c A (relab scope sc) tgt ifs B accF st3 xs acc0 ⟨capture scope (sealFor scope st1).vars, none, (sealFor scope st1).bowl⟩
  bowl : st3.bowl = b'
section
variable {α : Type} {e iter tgt : Expr} {ifs : List Expr} {scope : Scope} {accObj : Obj} {B : St → α → α → St → Prop} {acc0 accF : α} {mk : α → PV} {newAcc : Sem Value} {b' : Bowl} {xs : List PV} {st3 : St}
theorem comp_ev (T : Stat c) (hh : A.handled = none) (CK : CompKit c A (relab scope sc) e tgt ifs accObj B acc0 mk newAcc) (CO : CompOut c A sc st iter tgt ifs scope B acc0 accF st1 b' xs st3)
    (he : ∀ (env : Env) (s : Shared) (E Q : Value → Shared → Prop), EnvOK env sc → wpAny c.M A (eval iter env) (fun xv s₁ => wpAny c.M A (pyIter xv) (fun it s₂ => wpAny c.M A newAcc (fun acc s₃ => wpAny c.M A (newFunctionEnv scope env.globals (cloOf env scope.names []) [] env.qual none .none (some env)) (fun cenv s₄ =>
      codeAny c.M A (.compStart e 0 it acc { cenv with scope := relabel scope env }) (compPost c.M A E none Q acc cenv.locals) s₄) E s₃) E s₂) E s₁) E s → wpAny c.M A (eval e env) Q E s) :
    EvOK c A sc st e (mk accF) { sealFor scope st1 with bowl := b' } := by
  intro env s F oa m E Q hE I P
  obtain ⟨src, ok, size, run, rfl⟩ := CO
  refine he env s E Q hE (comp_core T hh hE CK src ok size run I (RR := fun acc C => compPost c.M A E none Q acc C) fun D C h' tk F' oa' mC hs I' rv hn ap hC => ⟨mC, hn, fun h2 hsame => ?_⟩)
  have O : Off c F' C h' h2 := .of hsame
  exact P _ h2 tk F' oa' (O.step0 hs hC) (O.inv I' ap) (rv.keep (O.kept ap))
theorem comp_use (T : Stat c) (hh : A.handled = none) (CK : CompKit c A (relab scope sc) e tgt ifs accObj B acc0 mk newAcc) (CO : CompOut c A sc st iter tgt ifs scope B acc0 accF st1 b' xs st3)
    (he : ∀ (env : Env) (s : Shared) (E : Value → Shared → Prop) (Q : Unit → Shared → Prop) (u : Value → Sem Unit), EnvOK env sc → wpAny c.M A (eval iter env) (fun xv s₁ => wpAny c.M A (pyIter xv) (fun it s₂ => wpAny c.M A newAcc (fun acc s₃ => wpAny c.M A (newFunctionEnv scope env.globals (cloOf env scope.names []) [] env.qual none .none (some env)) (fun cenv s₄ =>
      codeAny c.M A (.compStart e 0 it acc { cenv with scope := relabel scope env }) (compPost c.M A E (some u) (fun _ s' => Q () s') acc cenv.locals) s₄) E s₃) E s₂) E s₁) E s → wpAny c.M A (evalThenUse e env u) Q E s) :
    UseOK c A sc st e (mk accF) { sealFor scope st1 with bowl := b' } := by
  intro env s F oa m E Q u hE I P
  obtain ⟨src, ok, size, run, rfl⟩ := CO
  exact he env s E Q u hE (comp_core T hh hE CK src ok size run I (RR := fun acc C => compPost c.M A E (some u) (fun _ s' => Q () s') acc C) fun D C h' tk F' oa' mC hs I' rv hn ap hC => P _ h' tk F' oa' C mC hs I' rv ap hC hn)
end
section
variable {elt kx vx iter tgt : Expr} {ifs : List Expr} {scope : Scope} {pos : Pos} {b' : Bowl} {xs : List PV} {st3 : St} {vs : List PV} {es : List (Str × PV)}
theorem ev_lc (T : Stat c) (hh : A.handled = none) (CO : CompOut c A sc st iter tgt ifs scope (ListB c A (relab scope sc) elt) [] vs st1 b' xs st3) : EvOK c A sc st (.ListComp elt [⟨tgt, iter, ifs, 0⟩] scope pos) (.list vs) { sealFor scope st1 with bowl := b' } :=
  comp_ev T hh kit_list CO fun env s E Q hE h => by
    rw [eval_ListComp]
    exact wpAny_comprehension_free (use := none) rfl (CO.src.notSet env) (clo_at hE CO.ok) (scopeOk_at CO.ok).1 (fun x hx hl => ((scopeOk_at CO.ok).2 x hx).loc hl) h
theorem ev_dc (T : Stat c) (hh : A.handled = none) (CO : CompOut c A sc st iter tgt ifs scope (DictB c A (relab scope sc) kx vx) [] es st1 b' xs st3) : EvOK c A sc st (.DictComp kx vx [⟨tgt, iter, ifs, 0⟩] scope pos) (.dict es) { sealFor scope st1 with bowl := b' } :=
  comp_ev T hh kit_dict CO fun env s E Q hE h => by
    rw [arm_eval_DictComp]
    exact wpAny_comprehension_free (use := none) rfl (CO.src.notSet env) (clo_at hE CO.ok) (scopeOk_at CO.ok).1 (fun x hx hl => ((scopeOk_at CO.ok).2 x hx).loc hl) h
theorem use_lc (T : Stat c) (hh : A.handled = none) (CO : CompOut c A sc st iter tgt ifs scope (ListB c A (relab scope sc) elt) [] vs st1 b' xs st3) : UseOK c A sc st (.ListComp elt [⟨tgt, iter, ifs, 0⟩] scope pos) (.list vs) { sealFor scope st1 with bowl := b' } :=
  comp_use T hh kit_list CO fun env s E Q u hE h => by
    show wpAny c.M A (do let _ ← comprehension (.ListComp elt [⟨tgt, iter, ifs, 0⟩] scope pos) scope env _ (newList []) false (eval iter env) (some u)) _ _ s
    exact wpAny_bind (wpAny_mono (wpAny_comprehension_free (use := some u) (Q := fun _ s' => Q () s') rfl (CO.src.notSet env) (clo_at hE CO.ok) (scopeOk_at CO.ok).1 (fun x hx hl => ((scopeOk_at CO.ok).2 x hx).loc hl) h) (fun _ s' hq => wpAny_pure hq) fun _ _ e => e)
theorem use_dc (T : Stat c) (hh : A.handled = none) (CO : CompOut c A sc st iter tgt ifs scope (DictB c A (relab scope sc) kx vx) [] es st1 b' xs st3) : UseOK c A sc st (.DictComp kx vx [⟨tgt, iter, ifs, 0⟩] scope pos) (.dict es) { sealFor scope st1 with bowl := b' } :=
  comp_use T hh kit_dict CO fun env s E Q u hE h => by
    show wpAny c.M A (do let _ ← comprehension (.DictComp kx vx [⟨tgt, iter, ifs, 0⟩] scope pos) scope env _ newDict false (eval iter env) (some u)) _ _ s
    exact wpAny_bind (wpAny_mono (wpAny_comprehension_free (use := some u) (Q := fun _ s' => Q () s') rfl (CO.src.notSet env) (clo_at hE CO.ok) (scopeOk_at CO.ok).1 (fun x hx hl => ((scopeOk_at CO.ok).2 x hx).loc hl) h) (fun _ s' hq => wpAny_pure hq) fun _ _ e => e)
end

/-! fresh dicts -/
theorem fresh_dict0 (T : Stat c) {pos : Pos} : FreshOK c A sc st (.Dict [] [] pos) (.dict []) st := by
  intro env s F oa m E Q hE I P
  exact wpAny_Dict_empty (P _ _ s.toks _ _ (.grown _ F oa (push_keep _)) (I.grown (push_keep _)) ⟨sys_ne T I.base none_size, [], Heap.DictOf.new _, .nil⟩ (.new I fun a z => z ▸ none_size) none_size)
end
end Mine

set_option maxRecDepth 100000
set_option linter.unusedVariables false
namespace Mine
open PySem PySem.W PySem.Calls PyProof.Rows PySem.SeqAt

section
variable {c : Cx} {A : Around} {env : Env} {sc : Scope} {F : Fz} {oa : Option Addr} {st st1 st2 : St} {m : Str → Option Value} {E : Value → Shared → Prop}

theorem ExPost.then {s : Shared} {h' : Heap} {tk : Nat} {F' : Fz} {oa' : Option Addr} {fl : Fl} {Q : Flow → Shared → Prop} (P : ExPost c env F oa s fl st1 Q) (hs : Step (stW c env) F oa s.heap F' oa' h') : ExPost c env F' oa' { s with heap := h', toks := tk } fl st1 Q :=
  fun w h2 tk2 F2 oa2 m2 hs2 I2 hf => P w h2 tk2 F2 oa2 m2 (hs.trans hs2) I2 hf
theorem stW_cell (c : Cx) {env : Env} {x : Str} : env.kindOf x = some .cell → ∀ cl, env.cells.lookup x = some cl → stW c env cl := fun _ cl hcl => .inr (.inr ⟨_, hcl⟩)

/-- x = value -/
theorem st_assign {x : Str} {p pos : Pos} {e : Expr} {v : PV} (h1 : EvOK c A sc st e v st1) (hu : isComp e = true → UseOK c A sc st e v st1) (hx : ownName sc x = true) : StOK c A sc st (.Assign [.Name x p] e pos) .next (st1.put1 x v) := by
  intro env s F oa m E Q hE I P
  have hsw : ∃ b, swapsWith e (some (.Name x p)) pos.line env = pure b ∧ (b = true → isComp e = true) := by
    have hek : env.scope.kind = .function := hE.fn
    cases e <;> first
      | exact ⟨_, rfl, fun _ => rfl⟩
      | exact ⟨false, rfl, nofun⟩
  obtain ⟨b, hb, hc⟩ := hsw
  cases b with
  | false =>
    refine wpAny_Assign_Name (h1 env s F oa m E _ hE I fun u h' tk F' oa' hs I' ru => ?_) hb
    exact store_sound (s := { s with heap := h', toks := tk }) hE (W := stW c env) (.inr (.inl rfl)) (fun b w => w) (stW_cell c) hx I' ru fun h2 tk2 m2 S2 I2 => P .next h2 tk2 F' oa' m2 ((hs.st env).trans S2) I2 rfl
  | true =>
    rw [exec_Assign_Name_used _ _ _ _ hb]
    refine wpAny_bind (wpAny_standAt (wpAny_bind ?_))
    refine hu (hc rfl) env s F oa m E _ _ hE I fun u h' tk F' oa' C mC hs I' ru ap hC hn => ?_
    refine wpAny_assign_Name (store_sound (s := { s with heap := h', toks := tk }) hE (W := stW c env) (.inr (.inl rfl)) (fun b w => w) (stW_cell c) hx I' ru fun h2 tk2 m2 S2 I2 => ?_)
    refine ⟨mC, hn.at fun o e => S2.keep C o (ap.offW rfl) (ap.O C rfl) e, fun h3 hsame => wpAny_pure ?_⟩
    have hCs : (h'.get? C).isSome = true := by obtain ⟨o, _, _, ho, _⟩ := hn; exact get_some ho
    have O : Off c F' C h2 h3 := .of hsame
    exact P .next h3 tk2 F' oa' m2 (O.step0 ((hs.st env).trans S2) hC) (O.inv I2 (ap.step (fun a z => z ▸ hCs) S2)) rfl

theorem Step.reown {W : Addr → Prop} {F F' : Fz} {oa oa' : Option Addr} {h h' : Heap} {a : Addr} (s : Step W F oa h F' oa' h') (hn : h.get? a = none) : Step W F oa h F' (some a) h' :=
  ⟨s.le, s.new, s.keep, fun b e => by cases e; exact .inr hn, s.dom⟩
noncomputable def St.putOwn (st : St) (x : Str) (v : PV) : St := ⟨put x v st.vars, some x, st.bowl⟩
/-- a new object gets a name -/
theorem own_store (hE : EnvOK env sc) {x : Str} (hx : ownName sc x = true) {a : Addr} {v : PV} {s0 : Heap} {F0 : Fz} {oa0 : Option Addr} {s : Shared} {Q : Unit → Shared → Prop}
    (hs : Step (stW c env) F0 oa0 s0 F oa s.heap) (hn : s0.get? a = none) (I : Inv c env F oa st s.heap m) (hO : ObjIs c F s.heap a v) (ap : Apart c env F oa (fun b => b = a))
    (P : ∀ h' tk m' F', Kept F F' s.heap h' → Step (stW c env) F0 oa0 s0 F' (some a) h' → Inv c env F' (some a) (st.putOwn x v) h' m' → Q () { s with heap := h', toks := tk }) : wpAny c.M A (storeName env x (.ref a)) Q E s := by
  have I1 := I.unown
  have ap1 : Apart c env (F.add oa) none (fun b => b = a) := ⟨fun b w f => f.elim (ap.F b w) (ap.O b w), ap.L, ap.B, nofun, ap.C, ap.Z⟩
  refine store_raw hE (W := stW c env) (.inr (.inl rfl)) (stW_cell c) hx I1 fun h' tk m' S => ?_
  have hO2 : ObjIs c (F.add oa) h' a v := (hO.keep (.all (fun _ => .inl) fun _ _ => id) fun _ => id).keep (S.step.kept I1) fun o e => S.step.keep a o (ap.offW rfl) nofun e
  refine P h' tk m' (F.add oa) ⟨fun _ f => .inl f, fun b o f e => (S.step.kept I1).2 b o (.inl f) e⟩ (((hs.trans (Step.unown _ F oa s.heap)).trans S.step).reown hn) ?_
  refine ⟨S.base, S.ns, S.bowl, I1.kwF, S.dom, I1.nB, I1.nL, I1.LB, I1.L0, I1.C0, S.cell, I1.apart, fun b e => ?_, fun b e => ?_, fun y qv e hy => ?_, fun y qv e hy => ?_⟩
  · cases e; exact ⟨ap1.F a rfl, (ap1.L a rfl).symm, (ap1.B a rfl).symm, fun y cl h => ap1.C a rfl y cl h, hO2.alive⟩
  · cases e; exact ap1.Z a rfl
  · have hy : seq y x = false := hy
    have e' : lk y (put x v st.vars) = some qv := e
    rw [lk_put, if_neg (ne_seq hy)] at e'
    exact S.var y qv (ne_seq hy) e' rfl
  · have hy : seq y x = true := hy
    obtain rfl := seq_iff.mp hy
    have e' : lk y (put y v st.vars) = some qv := e
    rw [lk_put, if_pos rfl] at e'
    cases e'
    exact ⟨a, rfl, S.at_, hO2⟩
theorem st_assign_fresh {x : Str} {p pos : Pos} {e : Expr} {v : PV} (hf : isFresh e = true) (h1 : FreshOK c A sc st e v st1) (hx : ownName sc x = true) : StOK c A sc st (.Assign [.Name x p] e pos) .next (st1.putOwn x v) := by
  intro env s F oa m E Q hE I P
  have hb : swapsWith e (some (.Name x p)) pos.line env = pure false := by cases e <;> first | rfl | cases hf
  refine wpAny_Assign_Name ?_ hb
  refine h1 env s F oa m E _ hE I fun a h' tk F' oa' hs I' hO ap hn => ?_
  exact own_store (s := { s with heap := h', toks := tk }) hE hx (hs.st env) hn I' hO ap fun h2 tk2 m2 F2 _ S2 I2 => P .next h2 tk2 F2 (some a) m2 S2 I2 rfl
/-- x, y = value -/
theorem st_tup {tgt e : Expr} {pos : Pos} {v : PV} {bs : List (Str × PV)} (hh : A.handled = none) (ht : isTup tgt = true) (hn : isTup e = false) (h1 : EvOK c A sc st e v st1) (hb : bindT sc tgt v = some bs) : StOK c A sc st (.Assign [tgt] e pos) .next (st1.putAll bs) := by
  intro env s F oa m E Q hE I P
  cases tgt with
  | Tuple ts k p =>
    refine Assign_Tuple (h1 env s F oa m E _ hE I fun u h' tk F' oa' hs I' ru => ?_) (by cases e <;> first | rfl | cases hn) (by cases e <;> first | rfl | cases hn)
    exact assign_sound (s := { s with heap := h', toks := tk }) hh hE (W := stW c env) (.inr (.inl rfl)) (fun b w => w) hb (fun b _ => stW_cell c) I' ru fun h2 tk2 m2 S2 I2 => P .next h2 tk2 F' oa' m2 ((hs.st env).trans S2) I2 rfl
  | _ => cases ht

theorem stored_nodup {k : Str} {v : Value} (kvs : List (Str × Value)) : (kvs.map (·.1)).Nodup → ((stored kvs k v).map (·.1)).Nodup ∧ ∀ y, y ∈ (stored kvs k v).map (·.1) → y = k ∨ y ∈ kvs.map (·.1) := by
  induction kvs with
  | nil => intro _; exact ⟨List.nodup_cons.mpr ⟨List.not_mem_nil, .nil⟩, fun y hy => .inl (List.mem_singleton.mp hy)⟩
  | cons p r ih =>
    obtain ⟨k', u⟩ := p
    intro hn
    rw [stored_cons hn]
    have hn' := List.nodup_cons.mp hn
    obtain ⟨h1, h2⟩ := ih hn'.2
    by_cases hk : k = k'
    · rw [if_pos hk]
      exact ⟨hn, fun y hy => .inr hy⟩
    · rw [if_neg hk]
      exact ⟨List.nodup_cons.mpr ⟨fun hm => (h2 _ hm).elim (fun e => hk e.symm) hn'.1, h1⟩, fun y hy => (List.mem_cons.mp hy).elim (fun e => .inr (e ▸ .head _)) fun hy => (h2 y hy).imp id (.tail _)⟩
theorem rep_merged {h : Heap} {more : List (Str × Value)} {y : List (Str × PV)} (r' : RepE c F h more y) : ∀ {kvs : List (Str × Value)} {x : List (Str × PV)}, RepE c F h kvs x → (kvs.map (·.1)).Nodup → RepE c F h (PySem.merged kvs more) (storeAll x y) := by
  refine r'.ind (P := fun more y => ∀ {kvs : List (Str × Value)} {x : List (Str × PV)}, RepE c F h kvs x → (kvs.map (·.1)).Nodup → RepE c F h (PySem.merged kvs more) (storeAll x y)) (fun r _ => r) fun k u z vs zs a r' ih kvs x r hn => ?_
  exact ih (r.put a hn) (stored_nodup kvs hn).1
theorem dict_nodup {h : Heap} {a : Addr} {kvs : List (Str × Value)} (d : h.DictOf c.kd a kvs) : (kvs.map (·.1)).Nodup := by
  obtain ⟨_, _, _, _, _, _, _, _, hn⟩ := d; exact hn

/-- the bowl turns -/
theorem Step.bowl {h h' : Heap} (hs : Heap.SameBut c.B h h') (hb : (h'.get? c.B).isSome = true) : Step (onlyB c) F none h F none h' :=
  ⟨fun _ x => x, fun _ x => .inl x, fun b o nb _ e => (hs.2 b nb).trans e, fun _ x => .inl x, fun b e => by
    by_cases hbB : b = c.B
    · exact hbB ▸ hb
    · exact some_keep (fun o e => (hs.2 b hbB).trans e) e⟩
theorem putBowl_sound {b b' : Bowl} {q : Str} {i : Int} (e : putBowl b q i = some b') (t1 t2 t3 t : Tok) : ∃ u1 u2 u3, stored (bowlPairs b t1 t2 t3) q (.int i t) = bowlPairs b' u1 u2 u3 := by
  unfold putBowl at e
  cases h1 : seq q "left" with
  | true => rw [h1] at e; cases e; obtain rfl := seq_iff.mp h1; exact ⟨t, t2, t3, by kernel_rfl⟩
  | false =>
    rw [h1] at e
    cases h2 : seq q "here" with
    | true => rw [h2] at e; cases e; obtain rfl := seq_iff.mp h2; exact ⟨t1, t, t3, by kernel_rfl⟩
    | false =>
      rw [h2] at e
      cases h3 : seq q "names" with
      | true => rw [h3] at e; cases e; obtain rfl := seq_iff.mp h3; exact ⟨t1, t2, t, by kernel_rfl⟩
      | false => rw [h3] at e; exact none_some e
/-- x[k] = e of an owned dict -/
theorem st_setItem {x q : Str} {p sp pos : Pos} {k e : Expr} {v : PV} {es0 es : List (Str × PV)} (hx : ownName sc x = true) (h1 : EvOK c A sc st e v st1) (ho : st1.isOwn x = true) (hv0 : lk x st1.vars = some (.dict es0)) (h2 : EvOK c A sc st1 k (.str q) st2) (ho1 : st2.isOwn x = true) (hv1 : lk x st2.vars = some (.dict es)) (hsz : sizeOk es.length = true) :
    StOK c A sc st (.Assign [.Subscript (.Name x p) k sp] e pos) .next { st2 with vars := put x (.dict (put q v es)) st2.vars } := by
  intro env s F oa m E Q hE I P
  refine wpAny_Assign_Subscript ?_ (by cases e <;> rfl)
  refine h1 env s F oa m E _ hE I fun u ha tka Fa oaa hsa Ia ru => ?_
  obtain ⟨a, hoa, hva, hs0, kvs0, hd0, hr0⟩ := Ia.ovar x _ hv0 ho
  refine load_var (s := { s with heap := ha, toks := tka }) hE Ia hx hva ?_
  refine h2 env { s with heap := ha, toks := tka } Fa oaa m E _ hE Ia fun kv hb tkb Fb oab hsb Ib rk => ?_
  obtain ⟨rfl, hs1, kvs, hd, hr⟩ := own_again Ia hsb Ib hva hv1 ho1
  obtain ⟨t, rfl⟩ := rk.inv
  refine wpAny_setItem_pairs (s := { s with heap := hb, toks := tkb }) (knd := c.kd) (k := q) (strKind_is _ _ _ _) hd (fun h3 hd3 hsame => ?_) (by rw [hr.length]; exact sizeOk_le hsz)
  have hkk : ∀ b o, b ≠ a → hb.get? b = some o → h3.get? b = some o := fun b o hbb e => (hsame.2 b hbb).trans e
  have hO := Ib.own a rfl
  have k3 : Kept Fb Fb hb h3 := ⟨fun _ x => x, fun b o f e => hkk b o (fun z => hO.1 (z ▸ f)) e⟩
  exact P .next h3 _ Fb (some a) m (((hsa.trans hsb).trans (Step.write _ hkk (DictOf_some hd3))).st env) (Ib.write (pv := .dict (put q v es)) ho1 (by rw [hv1]; rfl) hkk ⟨hs1, _, hd3, (hr.put (ru.keep (hsb.keptB Ia)) (dict_nodup hd)).keep k3⟩) rfl
/-- the bowl's -/
theorem st_setBowl (hB0 : c.pre = false → c.h0.get? c.B = none) {x q : Str} {p sp pos : Pos} {k e : Expr} {i : Int} {b' : Bowl} (hx : ownName sc x = true) (h1 : EvOK c A sc st e (.int i) st1) (ho : st1.isOwn x = false) (hv0 : lk x st1.vars = some .bowl) (h2 : EvOK c A sc st1 k (.str q) st2) (hpb : putBowl st2.bowl q i = some b') :
    StOK c A sc st (.Assign [.Subscript (.Name x p) k sp] e pos) .next { st2 with bowl := b' } := by
  intro env s F oa m E Q hE I P
  refine wpAny_Assign_Subscript ?_ (by cases e <;> rfl)
  refine h1 env s F oa m E _ hE I fun u ha tka Fa oaa hsa Ia ru => ?_
  obtain ⟨w, hva, rw0⟩ := Ia.var x _ hv0 ho
  refine load_var (s := { s with heap := ha, toks := tka }) hE Ia hx hva ?_
  refine h2 env { s with heap := ha, toks := tka } Fa oaa m E _ hE Ia fun kv hb tkb Fb oab hsb Ib rk => ?_
  obtain ⟨rfl, hp⟩ := rw0.inv
  obtain ⟨t, rfl⟩ := rk.inv
  obtain ⟨ti, rfl⟩ := ru.inv
  obtain ⟨t1, t2, t3, hd⟩ := Ib.bowl.live hp
  refine wpAny_setItem_pairs (s := { s with heap := hb, toks := tkb }) (knd := c.kd) (k := q) (strKind_is _ _ _ _) hd (fun h3 hd3 hsame => ?_) (by decide : 3 ≤ sizeLine)
  obtain ⟨u1, u2, u3, hst⟩ := putBowl_sound hpb t1 t2 t3 ti
  rw [hst] at hd3
  have S3 : Step (onlyB c) Fb none hb Fb none h3 := Step.bowl hsame (DictOf_some hd3)
  exact P .next h3 _ Fb oab m (((hsa.trans hsb).trans (S3.call oab)).st env) (Ib.call S3 (.inr ⟨u1, u2, u3, hd3⟩) (fun b o e => (hsame.2 b fun z => by rw [z, hB0 hp] at e; cases e).trans (Ib.base b o e)) fun a f => S3.dom a (Ib.dom a f)) rfl

/-- x.append(e) of an owned list -/
theorem st_append (T : Stat c) {x : Str} {p ap cp pos : Pos} {e : Expr} {v : PV} {xs0 xs : List PV} (hline : Nat.beq ap.endLine cp.line = true) (hns : notStar e = true) (ho : st.isOwn x = true) (hx : ownName sc x = true) (hv0 : lk x st.vars = some (.list xs0)) (h1 : EvOK c A sc st e v st1) (ho1 : st1.isOwn x = true) (hv1 : lk x st1.vars = some (.list xs)) (hsz : sizeOk xs.length = true) :
    StOK c A sc st (.Expr (.Call (.Attribute (.Name x p) "append" ap) [e] [] cp) pos) .next { st1 with vars := put x (.list (xs ++ [v])) st1.vars } := by
  intro env s F oa ms E Q hE I P
  obtain ⟨a, ha, hva, its0, ⟨n0, hp0⟩, _⟩ := I.ovar x _ hv0 ho
  refine wpAny_Expr_any ?_ (by unfold interactive; rw [hE.fn]; rfl)
  refine call_method rfl hline (fun env pos => star_cons hns rfl) rfl ?_
  refine load_var hE I hx hva fun pl => ?_
  refine getMethod_builtin (M := c.M) (T := "list") (id := "list.append") ⟨_, hp0, rfl⟩ PySem.F.plainAttrs_list PySem.F.slot_list_append PySem.F.type_list_append (fun b hb => by cases hb; exact ⟨_, hp0, rfl⟩) ?_
  refine args_then (K' := c.K) (first := [.ref a]) (args := [e]) rfl (.inl (.inl ⟨_, rfl⟩)) ?_
  refine spliced_cons (h1 env s F oa ms E _ hE I fun u h' tk F' oa' hs I' ru => spliced_nil ⟨inK T I', ?_⟩)
  obtain ⟨rfl, its, hp, hr⟩ := own_again I hs I' hva hv1 ho1
  refine wpAny_list_append_plain (s := { s with heap := h', toks := tk }) hp (fun h3 hp3 hsame => ?_) (by rw [hr.size]; exact sizeOk_le hsz)
  have hkk : ∀ b o, b ≠ a → h'.get? b = some o → h3.get? b = some o := fun b o hbb e => (hsame.2 b hbb).trans e
  have hO := I'.own a rfl
  have k3 : Kept F' F' h' h3 := ⟨fun _ x => x, fun b o f e => hkk b o (fun z => hO.1 (z ▸ f)) e⟩
  have o3 : ObjIs c F' h3 a (.list (xs ++ [v])) := ⟨_, hp3, by rw [Array.toList_push]; exact (hr.append (.cons ru .nil)).keep k3⟩
  exact P .next h3 _ F' (some a) ms ((hs.trans (Step.write _ hkk o3.alive)).st env) (I'.write ho1 (by rw [hv1]; rfl) hkk o3) rfl
/-- x.update(e) of an owned dict -/
theorem st_update (T : Stat c) {x : Str} {p ap cp pos : Pos} {e : Expr} {es0 es more : List (Str × PV)} (hline : Nat.beq ap.endLine cp.line = true) (hns : notStar e = true) (ho : st.isOwn x = true) (hx : ownName sc x = true) (hv0 : lk x st.vars = some (.dict es0)) (h1 : EvOK c A sc st e (.dict more) st1) (ho1 : st1.isOwn x = true) (hv1 : lk x st1.vars = some (.dict es)) (hsz : sizeOk (es.length + more.length) = true) :
    StOK c A sc st (.Expr (.Call (.Attribute (.Name x p) "update" ap) [e] [] cp) pos) .next { st1 with vars := put x (.dict (storeAll es more)) st1.vars } := by
  intro env s F oa ms E Q hE I P
  obtain ⟨a, ha, hva, _, kvs0, hd0, _⟩ := I.ovar x _ hv0 ho
  refine wpAny_Expr_any ?_ (by unfold interactive; rw [hE.fn]; rfl)
  refine call_method rfl hline (fun env pos => star_cons hns rfl) rfl ?_
  refine load_var hE I hx hva fun pl => ?_
  refine getMethod_builtin (M := c.M) (T := "dict") (id := "dict.update") hd0.typeIs PySem.F.plainAttrs_dict PySem.F.slot_dict_update PySem.F.type_dict_update (fun b hb => by cases hb; exact dict_obj hd0) ?_
  refine args_then (K' := c.K) (first := [.ref a]) (args := [e]) rfl (.inl (.inl ⟨_, rfl⟩)) ?_
  refine spliced_cons (h1 env s F oa ms E _ hE I fun u h' tk F' oa' hs I' ru => spliced_nil ⟨inK T I', ?_⟩)
  obtain ⟨rfl, hs1, kvs, hd, hr⟩ := own_again I hs I' hva hv1 ho1
  have hO := I'.own a rfl
  obtain ⟨a2, kvs2, rfl, f2, hs2, d2, r2⟩ := ru.inv
  refine call_meetsIn (s := { s with heap := h', toks := tk }) PySem.F.slot_dict_update hd.typeIs PySem.F.entry_dict_update (PySem.F.args_dict_update_2 _ _) (meets_dict_update c.kd a a2 (fun z => hO.1 (z ▸ f2)) hs2)
    ⟨kvs, kvs2, hd, d2, by rw [hr.length, r2.length]; exact sizeOk_le hsz, fun h3 hd3 _ hsame => ?_⟩
  have hkk : ∀ b o, b ≠ a → h'.get? b = some o → h3.get? b = some o := fun b o hbb e => (hsame.2 b hbb).trans e
  have k3 : Kept F' F' h' h3 := ⟨fun _ x => x, fun b o f e => hkk b o (fun z => hO.1 (z ▸ f)) e⟩
  exact P .next h3 _ F' (some a) ms ((hs.trans (Step.write _ hkk (DictOf_some hd3))).st env) (I'.write (pv := .dict (storeAll es more)) ho1 (by rw [hv1]; rfl) hkk ⟨hs1, _, hd3, (rep_merged r2 hr (dict_nodup hd)).keep k3⟩) rfl

/-! loops and the rest -/
theorem st_for (hh : A.handled = none) {tgt iter : Expr} {body : List Stmt} {pos : Pos} {xs : List PV} {fl : Fl} (hsrc : SrcOK c A sc st tgt iter xs st1) (hrun : ForS c A sc tgt body fl st2 xs st1) : StOK c A sc st (.For tgt iter body [] pos) fl st2 := by
  intro env s F oa m E Q hE I P
  refine wpAny_For ?_ (hsrc.notSet env)
  refine hsrc.run env s F oa m E _ hE I fun it h1 tk1 F1 oa1 wr SI hs1 I1 IT hSI ap hnew => ?_
  refine for_run (s := { s with heap := h1, toks := tk1 }) hh hE IT hrun I1 (fun _ x => x) hSI ap fun w h tk h' F' oa' m' hst Ie hf ape hk => ?_
  have nwr : ∀ b, (s.heap.get? b).isSome = true → ¬ wr b := fun b hb w => some_none hb (hnew b w)
  refine P w h' tk F' oa' m' ⟨fun a f => hst.le a (hs1.le a f), fun a f => (hst.new a f).elim (hs1.new a) fun z => z.elim (fun z => .inr (.inl (none_dom (hs1.dom a) z))) fun z => (hs1.own a z).elim (fun z => .inr (.inr z)) fun z => .inr (.inl z), fun b o nb ho e => ?_, fun a e => (hst.own a e).elim (hs1.own a) fun z => .inr (none_dom (hs1.dom a) z), fun b e => some_keep (fun o => hk b o (nwr b e)) (hst.dom b (hs1.dom b e))⟩
    (Ie.turn ape (fun _ => id) (fun _ => .inl) hk fun _ => .inl) (hf.keep ⟨fun _ => id, fun a o f e => hk a o (fun z => ape.F a z f) e⟩)
  have hw := nwr b (get_some e)
  exact hk b o hw (hst.keep b o (fun z => z.elim nb hw) (fun z => (hs1.own b z).elim ho fun z => some_none (get_some e) z) (hs1.keep b o (fun z => nb (.inl z)) ho e))

def WhileS (c : Cx) (A : Around) (sc : Scope) (t : Expr) (body : List Stmt) (flF : Fl) (stF : St) : Nat → St → Prop
  | 0, _ => False
  | n + 1, st => ∃ b st1, TrOK c A sc st t b st1 ∧ match b with
    | false => flF = .next ∧ stF = st1
    | true => ∃ fl st2, ExOK c A sc st1 body fl st2 ∧ match fl with
      | .next => WhileS c A sc t body flF stF n st2
      | .ret _ => flF = fl ∧ stF = st2
theorem st_while {t : Expr} {body : List Stmt} {pos : Pos} {k0 : Nat} {flF : Fl} {stF : St} (hrun : WhileS c A sc t body flF stF k0 st) : StOK c A sc st (.While t body [] pos) flF stF := by
  intro env s F oa m E Q hE I P
  refine wpAny_While (codeAny_whileLoop (fun k s' => ∃ h tk F' oa' m' st', s' = { s with heap := h, toks := tk } ∧ WhileS c A sc t body flF stF k st' ∧ Step (stW c env) F oa s.heap F' oa' h ∧ Inv c env F' oa' st' h m') ?_ k0
    ⟨s.heap, s.toks, F, oa, m, st, rfl, hrun, .refl _ _ _ _, I⟩)
  rintro k s' ⟨h, tk, F', oa', m', st', rfl, hr, hst, I'⟩
  cases k with
  | zero => exact hr.elim
  | succ k =>
    obtain ⟨b, st1, ht, hr⟩ := hr
    refine ht env { s with heap := h, toks := tk } F' oa' m' _ _ hE I' fun h1 tk1 F1 oa1 S1 I1 => ?_
    have hs1 := hst.trans (S1.st env)
    cases b with
    | false =>
      obtain ⟨rfl, rfl⟩ := hr
      rw [if_neg Bool.false_ne_true]
      exact wpAny_execs_nil (P .next h1 tk1 F1 oa1 m' hs1 I1 rfl)
    | true =>
      obtain ⟨fl, st2, hb, hr⟩ := hr
      rw [if_pos rfl]
      refine hb env { s with heap := h1, toks := tk1 } F1 oa1 m' _ _ hE I1 fun w h3 tk3 F3 oa3 m3 S3 I3 hf => ?_
      cases fl with
      | next =>
        obtain rfl : w = .next := hf
        exact ⟨k, Nat.lt_succ_self k, h3, tk3, F3, oa3, m3, st2, rfl, hr, hs1.trans S3, I3⟩
      | ret v =>
        obtain ⟨rfl, rfl⟩ := hr
        obtain ⟨u, rfl, ru⟩ := id hf
        exact P _ h3 tk3 F3 oa3 m3 (hs1.trans S3) I3 hf

theorem st_return {e : Expr} {pos : Pos} {x : PV} (h : EvOK c A sc st e x st1) : StOK c A sc st (.Return (some e) pos) (.ret x) st1 := by
  intro env s F oa m E Q hE I P
  exact wpAny_Return_some (h env s F oa m E _ hE I fun u h' tk F' oa' hs I' ru => P (.ret u) h' tk F' oa' m (hs.st env) I' ⟨u, rfl, ru⟩)
theorem st_if {t : Expr} {b o : List Stmt} {pos : Pos} {q : Bool} {fl : Fl} (h1 : TrOK c A sc st t q st1) (h2 : ExOK c A sc st1 (bif q then b else o) fl st2) : StOK c A sc st (.If t b o pos) fl st2 := by
  intro env s F oa m E Q hE I P
  refine wpAny_If (h1 env s F oa m E _ hE I fun h' tk F' oa' hs I' => ?_)
  have := h2 env _ F' oa' m E Q hE I' (P.then (tk := tk) (hs.st env))
  cases q <;> exact this
theorem ExOK.nil : ExOK c A sc st [] .next st := fun env s F oa m E Q hE I P => wpAny_execs_nil (P .next s.heap s.toks F oa m (.refl _ _ _ _) I rfl)
theorem ExOK.next {s0 : Stmt} {r : List Stmt} {fl : Fl} (h1 : StOK c A sc st s0 .next st1) (h2 : ExOK c A sc st1 r fl st2) : ExOK c A sc st (s0 :: r) fl st2 := by
  intro env s F oa m E Q hE I P
  refine wpAny_execs_cons (h1 env s F oa m _ _ hE I fun w h' tk F' oa' m' hs I' hf => ?_)
  obtain rfl : w = .next := hf
  exact h2 env _ F' oa' m' E Q hE I' (P.then (tk := tk) hs)
theorem ExOK.ret {s0 : Stmt} {r : List Stmt} {v : PV} (h1 : StOK c A sc st s0 (.ret v) st1) : ExOK c A sc st (s0 :: r) (.ret v) st1 := by
  intro env s F oa m E Q hE I P
  refine wpAny_execs_cons (h1 env s F oa m _ _ hE I fun w h' tk F' oa' m' hs I' hf => ?_)
  obtain ⟨u, rfl, ru⟩ := id hf
  exact P _ h' tk F' oa' m' hs I' hf
/-- a dict's display -/
inductive DispOK (c : Cx) (A : Around) (sc : Scope) : St → List (Option Expr) → List Expr → List (Str × PV) → St → Prop
  | nil {st : St} : DispOK c A sc st [] [] [] st
  | cons {st st1 st2 st3 : St} {k v : Expr} {q : Str} {x : PV} {ks : List (Option Expr)} {vs : List Expr} {es : List (Str × PV)} : EvOK c A sc st k (.str q) st1 → EvOK c A sc st1 v x st2 → DispOK c A sc st2 ks vs es st3 → DispOK c A sc st (some k :: ks) (v :: vs) ((q, x) :: es) st3
theorem DispOK.len {ks : List (Option Expr)} {vs : List Expr} {es : List (Str × PV)} (h : DispOK c A sc st ks vs es st2) : ks.all (·.isSome) = true ∧ ks.length = vs.length := by
  induction h with
  | nil => exact ⟨rfl, rfl⟩
  | cons _ _ _ ih => exact ⟨ih.1, congrArg (· + 1) ih.2⟩
theorem DispOK.run {pos : Pos} {env : Env} {m : Str → Option Value} {E : Value → Shared → Prop} (hE : EnvOK env sc) {ks : List (Option Expr)} {vs : List Expr} {es : List (Str × PV)} (h : DispOK c A sc st ks vs es st2) : ∀ (s : Shared) (F : Fz) (oa : Option Addr) (Q : List (Value × Value) → Shared → Prop), Inv c env F oa st s.heap m →
    (∀ us kvs h' tk F' oa', Step (onlyB c) F oa s.heap F' oa' h' → Inv c env F' oa' st2 h' m → Carries c.kd us kvs → RepE c F' h' kvs es → Q us { s with heap := h', toks := tk }) → wpAny c.M A (evalPairs (pairTrees ks vs env pos)) Q E s := by
  induction h with
  | nil => exact fun s F oa Q I P => pairTrees_nil_walk (P [] [] s.heap s.toks F oa (.refl _ _ _ _) I trivial .nil)
  | cons h1 h2 _ ih =>
    intro s F oa Q I P
    refine pairTrees_cons_walk (h1 env s F oa m E _ hE I fun kv h' tk F' oa' hs I' rk => ?_)
    refine h2 env _ F' oa' m E _ hE I' fun vv h'' tk' F'' oa'' hs' I'' rv => ?_
    refine ih _ F'' oa'' _ I'' fun us kvs h3 tk3 F3 oa3 hs3 I3 hc hr => ?_
    obtain ⟨t, rfl⟩ := rk.inv
    exact P _ ((_, vv) :: kvs) h3 tk3 F3 oa3 ((hs.trans hs').trans hs3) I3 ⟨beq_self_eq_true _, rfl, hc⟩ (.cons (rv.keep (hs3.keptB I'')) hr)
theorem fresh_dictN (T : Stat c) {pos : Pos} {ks : List (Option Expr)} {vs : List Expr} {es : List (Str × PV)} (hl : ks.length ≤ 15) (h : DispOK c A sc st ks vs es st2) : FreshOK c A sc st (.Dict ks vs pos) (.dict (storeAll [] es)) st2 := by
  cases h with
  | nil => exact fresh_dict0 T
  | @cons _ _ _ _ k v q x ks vs es h1 h2 h3 =>
  have hP := DispOK.cons h1 h2 h3
  intro env s F oa m E Q hE I P
  refine wpAny_Dict_walk (knd := c.kd) hP.len.1 hP.len.2 nofun hl ?_
  have hk0 := push_keep (h := s.heap) { cls := .type "dict", data := .dict #[] }
  refine hP.run hE _ F oa _ (I.grown hk0) fun us kvs h'' tk' F'' oa'' hst I'' hc hr => ?_
  have hd0 : ((s.heap.push { cls := .type "dict", data := .dict #[] }).get? s.heap.objs.size).isSome = true := DictOf_some (Heap.DictOf.new (knd := c.kd) s.heap)
  have ap0 : Apart c env F oa (fun b => b = s.heap.objs.size) := .new I fun a z => z ▸ none_size
  have ap2 := ap0.step (fun a z => z ▸ hd0) hst
  refine ⟨kvs, hc, DictOf_at (Heap.DictOf.new s.heap) fun o ho => hst.keep _ o (fun z => ap0.B _ rfl z.symm) (ap0.O _ rfl) ho, fun h3 hd3 hsame => ?_⟩
  have O : Off c F'' s.heap.objs.size h'' h3 := .of hsame
  exact P _ h3 _ F'' oa'' (O.step0 ((Step.grown _ F oa hk0).trans hst) none_size) (O.inv I'' ap2) ⟨sys_ne T I.base none_size, _, hd3, (rep_merged hr .nil .nil).keep (O.kept ap2)⟩ ap2 none_size
end
end Mine

set_option maxRecDepth 100000
set_option linter.unusedVariables false
namespace Mine
open PySem PySem.W PySem.Calls PyProof.Rows PySem.SeqAt

section
variable {c : Cx} {A : Around} {env : Env} {sc : Scope} {F : Fz} {oa : Option Addr} {st st1 st2 : St} {m : Str → Option Value} {E : Value → Shared → Prop}

theorem Inv.congr {st' : St} {h : Heap} (I : Inv c env F oa st h m) (hb : st'.bowl = st.bowl) (hl : ∀ y, lk y st'.vars = lk y st.vars) (ho : ∀ y, st'.isOwn y = true ↔ st.isOwn y = true) : Inv c env F oa st' h m := by
  have ho : ∀ y, st'.isOwn y = st.isOwn y := fun y => Bool.eq_iff_iff.mpr (ho y)
  exact ⟨I.base, I.ns, hb ▸ I.bowl, I.kwF, I.dom, I.nB, I.nL, I.LB, I.L0, I.C0, I.cell, I.apart, I.own, I.own0, fun x pv e hx => I.var x pv ((hl x).symm.trans e) ((ho x).symm.trans hx), fun x pv e hx => I.ovar x pv ((hl x).symm.trans e) ((ho x).symm.trans hx)⟩

theorem fm_two {f : Expr → Option Str} {e1 e2 : Expr} {x y : Str} (h1 : f e1 = some x ∨ f e1 = none) (h2 : f e2 = some y ∨ f e2 = none) (hl : ((List.filterMap f [e1, e2]).length != 2) = false) : List.filterMap f [e1, e2] = [x, y] := by
  rw [List.filterMap_cons, List.filterMap_cons, List.filterMap_nil] at hl ⊢
  rcases h1 with h1 | h1 <;> rcases h2 with h2 | h2 <;> rw [h1, h2] at hl ⊢ <;> first | rfl | cases hl
theorem sw_gen {x y : Str} {c1 c2 c3 c4 c5 : Bool} {u : Sem (Option (List Str))} {l : List Str} (h5 : c5 = false) (hn : c3 = false → l = [x, y]) :
    ∃ r, (if c1 = true then pure none else if c2 = true then pure none else if c3 = true then pure none else if c4 = true then pure none else if c5 = true then u else pure (some l) : Sem (Option (List Str))) = pure r ∧ (r = none ∨ r = some [x, y]) := by
  cases c1 with
  | true => exact ⟨none, rfl, .inl rfl⟩
  | false =>
    cases c2 with
    | true => exact ⟨none, rfl, .inl rfl⟩
    | false =>
      cases c3 with
      | true => exact ⟨none, rfl, .inl rfl⟩
      | false =>
        cases c4 with
        | true => exact ⟨none, rfl, .inl rfl⟩
        | false => subst h5; exact ⟨some l, rfl, .inr (congrArg some (hn rfl))⟩
theorem or_ite {c : Prop} [Decidable c] (x : Str) : (if c then some x else none) = some x ∨ (if c then some x else none) = none := (Decidable.em c).elim (fun h => .inl (if_pos h)) fun h => .inr (if_neg h)
theorem two_swapped {x y : Str} {k1 k2 : Nat} {p1 p2 tp p3 : Pos} {a b : Expr} (hm : madeE a = true) :
    ∃ r, swappedStores [.Tuple [.Name x p1, .Name y p2] k1 tp] (.Tuple [a, b] k2 p3) env = pure r ∧ (r = none ∨ r = some [x, y]) := by
  have h3 : [a, b].all (constantsAlone 8) = false := by
    cases a <;> first | (cases hm; done) | rfl
  refine sw_gen (u := unsupported "assign.tuple-of-constant-expressions:order-of-the-stores" >>= fun _ => pure _) h3 ?_
  intro h
  exact fm_two (or_ite _) (or_ite _) (Bool.or_eq_false_iff.mp h).1

/-- x, y = tuple: the two orders -/
theorem two_assign (hh : A.handled = none) {x y : Str} {k1 k2 : Nat} {p1 p2 tp p3 pos : Pos} {a b : Expr} (hm : madeE a = true) (hb : notStar b = true) {s : Shared} {Q : Flow → Shared → Prop}
    (h : wpAny c.M A (spliced (plainTrees [a, b] env)) (fun vs s₁ => ∃ u v, vs = [u, v] ∧ ∀ h', (∀ b o, s₁.heap.get? b = some o → h'.get? b = some o) →
      wpAny c.M A (storeName env x u) (fun _ s₂ => wpAny c.M A (storeName env y v) (fun _ => Q .next) E s₂) E { s₁ with heap := h' } ∧
      wpAny c.M A (storeName env y v) (fun _ s₂ => wpAny c.M A (storeName env x u) (fun _ => Q .next) E s₂) E { s₁ with heap := h' }) E s) :
    wpAny c.M A (exec (.Assign [.Tuple [.Name x p1, .Name y p2] k1 tp] (.Tuple [a, b] k2 p3) pos) env) Q E s := by
  have hns : backTo p3 (starEach [a, b] env) = plainTrees [a, b] env := star_cons (by cases a <;> first | rfl | (cases hm; done)) (star_cons hb rfl)
  obtain ⟨r, hr, hcase⟩ := two_swapped (env := env) (x := x) (y := y) (k1 := k1) (k2 := k2) (p1 := p1) (p2 := p2) (tp := tp) (p3 := p3) (a := a) (b := b) hm
  have tup : ∀ (s₁ : Shared) (u v : Value), IsTup (s₁.heap.push { cls := .type "tuple", data := .seq [u, v].toArray }) s₁.heap.objs.size #[u, v] := fun s₁ u v => ⟨_, Heap.get?_push_size _ rfl, rfl, 0, rfl⟩
  have keep : ∀ (s₁ : Shared) (o : Obj) (h' : Heap), Heap.ExtBut (s₁.heap.push o).objs.size (s₁.heap.push o) h' → ∀ b o', s₁.heap.get? b = some o' → h'.get? b = some o' := fun s₁ o h' he b o' e => he b o' (Nat.ne_of_lt (Heap.lt_size (push_keep o _ _ e))) (push_keep o _ _ e)
  rcases hcase with rfl | rfl
  · refine Assign_Tuple (wpAny_Tuple_spliced ?_) rfl hr
    rw [hns]
    refine wpAny_mono h (fun vs s₁ hv => ?_) fun _ _ x => x
    obtain ⟨u, v, rfl, hq⟩ := hv
    refine ⟨(by decide : 2 ≤ sizeLine), ?_⟩
    refine PyProof.Rows.assign_Tuple_tuple hh (tup s₁ u v) rfl rfl fun h1 hx1 => ?_
    exact assignInOrder_cons (wpAny_assign_Name (wpAny_mono (hq h1 (keep s₁ _ h1 hx1)).1 (fun _ s₂ h₂ => assignInOrder_cons (wpAny_assign_Name (wpAny_mono h₂ (fun _ s₃ h₃ => assignInOrder_nil h₃) fun _ _ x => x))) fun _ _ x => x))
  · refine Assign_Tuple_swapped (wpAny_Tuple_spliced ?_) rfl hr
    rw [hns]
    refine wpAny_mono h (fun vs s₁ hv => ?_) fun _ _ x => x
    obtain ⟨u, v, rfl, hq⟩ := hv
    refine ⟨(by decide : 2 ≤ sizeLine), ?_⟩
    refine unpackItems_tuple (items := #[u, v]) hh (tup s₁ u v) fun h1 hx1 => ?_
    exact assignInOrder_cons (wpAny_bindName (wpAny_mono (hq h1 (keep s₁ _ h1 hx1)).2 (fun _ s₂ h₂ => assignInOrder_cons (wpAny_bindName (wpAny_mono h₂ (fun _ s₃ h₃ => assignInOrder_nil h₃) fun _ _ x => x))) fun _ _ x => x))

theorem twoOwn_inv {x y : Str} (h : twoOwn sc x y = true) : ownName sc x = true ∧ ownName sc y = true ∧ x ≠ y := by
  unfold twoOwn at h
  cases h1 : ownName sc x with
  | true =>
    rw [h1] at h
    cases h2 : ownName sc y with
    | true =>
      rw [h2] at h
      exact ⟨rfl, rfl, ne_seq (by cases hs : seq x y with
        | false => rfl
        | true => rw [hs] at h; cases h)⟩
    | false => rw [h2] at h; cases h
  | false => rw [h1] at h; cases h
theorem lk_swap {α : Type} {x y : Str} {v u : α} {l : List (Str × α)} (hxy : x ≠ y) (z : Str) : lk z (put y u (put x v l)) = lk z (put x v (put y u l)) := by
  rw [lk_put, lk_put, lk_put, lk_put]
  by_cases h1 : z = y
  · rw [if_pos h1, if_neg (fun e => hxy (e.symm.trans h1)), if_pos h1]
  · rw [if_neg h1, if_neg h1]
theorem st_two (hh : A.handled = none) {x y : Str} {k1 k2 : Nat} {p1 p2 tp p3 pos : Pos} {a b : Expr} {v u : PV} (hm : madeE a = true) (hb : notStar b = true) (hxy : twoOwn sc x y = true) (h1 : EvOK c A sc st a v st1) (h2 : EvOK c A sc st1 b u st2) :
    StOK c A sc st (.Assign [.Tuple [.Name x p1, .Name y p2] k1 tp] (.Tuple [a, b] k2 p3) pos) .next ((st2.put1 x v).put1 y u) := by
  intro env s F oa m E Q hE I P
  obtain ⟨hx, hy, hxy⟩ := twoOwn_inv hxy
  have W1 : stW c env env.locals := .inr (.inl rfl)
  refine two_assign hh hm hb ?_
  refine spliced_cons (h1 env s F oa m E _ hE I fun v1 ha tka Fa oaa hsa Ia ra => ?_)
  refine spliced_cons (h2 env { s with heap := ha, toks := tka } Fa oaa m E _ hE Ia fun u1 hb tkb Fb oab hsb Ib rb => spliced_nil ⟨v1, u1, rfl, fun h' hk => ?_⟩)
  have k1 : Kept Fb Fb hb h' := .all (fun _ => id) hk
  have ra := (ra.keep (hsb.keptB Ia)).keep k1
  have rb := rb.keep k1
  have S1 : Step (stW c env) F oa s.heap Fb oab h' := ((hsa.trans hsb).st env).trans (.grown _ _ _ hk)
  constructor
  · refine store_sound (s := { s with heap := h', toks := tkb }) hE W1 (fun b w => w) (stW_cell c) hx (Ib.grown hk) ra fun h2 tk2 m2 S2 I2 => ?_
    exact store_sound (s := { s with heap := h2, toks := tk2 }) hE W1 (fun b w => w) (stW_cell c) hy I2 (rb.keep (S2.kept (Ib.grown hk))) fun h3 tk3 m3 S3 I3 => P .next h3 tk3 Fb oab m3 ((S1.trans S2).trans S3) I3 rfl
  · refine store_sound (s := { s with heap := h', toks := tkb }) hE W1 (fun b w => w) (stW_cell c) hy (Ib.grown hk) rb fun h2 tk2 m2 S2 I2 => ?_
    exact store_sound (s := { s with heap := h2, toks := tk2 }) hE W1 (fun b w => w) (stW_cell c) hx I2 (ra.keep (S2.kept (Ib.grown hk))) fun h3 tk3 m3 S3 I3 => P .next h3 tk3 Fb oab m3 ((S1.trans S2).trans S3) (I3.congr rfl (lk_swap hxy) fun z => by rw [isOwn_put1, isOwn_put1, isOwn_put1, isOwn_put1, and_assoc, and_assoc, and_comm (a := z ≠ x)]) rfl
theorem st_two_fresh (hh : A.handled = none) {x y : Str} {k1 k2 : Nat} {p1 p2 tp p3 pos : Pos} {a b : Expr} {v u : PV} (hm : madeE a = true) (hb : notStar b = true) (hxy : twoOwn sc x y = true) (h1 : FreshOK c A sc st a v st1) (h2 : EvOK c A sc st1 b u st2) :
    StOK c A sc st (.Assign [.Tuple [.Name x p1, .Name y p2] k1 tp] (.Tuple [a, b] k2 p3) pos) .next ((st2.putOwn x v).put1 y u) := by
  intro env s F oa m E Q hE I P
  obtain ⟨hx, hy, hxy⟩ := twoOwn_inv hxy
  have W1 : stW c env env.locals := .inr (.inl rfl)
  refine two_assign hh hm hb ?_
  refine spliced_cons (h1 env s F oa m E _ hE I fun ad ha tka Fa oaa hsa Ia hO ap hn => ?_)
  refine spliced_cons (h2 env { s with heap := ha, toks := tka } Fa oaa m E _ hE Ia fun u1 hb tkb Fb oab hsb Ib rb => spliced_nil ⟨.ref ad, u1, rfl, fun h' hk => ?_⟩)
  have k1 : Kept Fb Fb hb h' := .all (fun _ => id) hk
  have hO2 := hO.keep (hsb.keptB Ia) fun o e => hsb.keep ad o (fun z => ap.B ad rfl z.symm) (ap.O ad rfl) e
  have ap1 := ap.step (fun q z => z ▸ hO.alive) hsb
  have rb := rb.keep k1
  have S1 : Step (stW c env) F oa s.heap Fb oab h' := ((hsa.trans hsb).st env).trans (.grown _ _ _ hk)
  have hO1 : ObjIs c Fb h' ad v := hO2.keep k1 (hk _)
  constructor
  · refine own_store (s := { s with heap := h', toks := tkb }) hE hx S1 hn (Ib.grown hk) hO1 ap1 fun h2 tk2 m2 F2 K2 S2 I2 => ?_
    exact store_sound (s := { s with heap := h2, toks := tk2 }) hE W1 (fun b w => w) (stW_cell c) hy I2 (rb.keep K2) fun h3 tk3 m3 S3 I3 => P .next h3 tk3 F2 (some ad) m3 (S2.trans S3) I3 rfl
  · refine store_sound (s := { s with heap := h', toks := tkb }) hE W1 (fun b w => w) (stW_cell c) hy (Ib.grown hk) rb fun h2 tk2 m2 S2 I2 => ?_
    refine own_store (s := { s with heap := h2, toks := tk2 }) hE hx (S1.trans S2) hn I2 (hO1.keep (S2.kept (Ib.grown hk)) fun o e => S2.keep ad o (ap1.offW rfl) (ap1.O ad rfl) e) (ap1.step (fun q z => z ▸ hO1.alive) S2) fun h3 tk3 m3 F3 K3 S3 I3 => ?_
    refine P .next h3 tk3 F3 (some ad) m3 S3 (I3.congr rfl (lk_swap hxy) fun z => ?_) rfl
    rw [isOwn_put1]
    exact ⟨fun e => e.1, fun (e : seq z x = true) => ⟨e, fun h => hxy ((seq_iff.mp e).symm.trans h)⟩⟩
end

/-! a list has no method 'keys' -/
theorem ga_keys {prog : Program} {w : World} {A : Around} {E : Value → Shared → Prop} {s : Shared} {a : Addr} {xs : Array Value} {k : Nat} {Q : Option Value → Shared → Prop}
    (hx : s.heap.get? a = some { cls := .type "list", data := .seq xs k }) (hA : A.handled = none)
    (h : ∀ h' tk, (∀ b o, s.heap.get? b = some o → h'.get? b = some o) → Q none { s with heap := h', toks := tk }) :
    wpAny (model prog w) A (getAttr? (.ref a) "keys") Q E s := by
  obtain ⟨hp, g, d, tk, os⟩ := s
  have hT : ∀ tk', (⟨hp, g, d, tk', os⟩ : Shared).TypeIs (.ref a) "list" := fun _ => ⟨_, hx, rfl⟩
  have f1 := sub_AttributeError
  have f3 := PySem.F.slot_list_getattribute.lookup
  have f4 := PySem.F.slot_list_getattribute.bind (.ref a)
  have f5 := am_list_getattr_none
  have hmiss : typeLookup (.type "list") "keys" = pure none := am_miss_of_fast (by decide +kernel)
  unfold getAttr? getAttrBy? getAttrBy
  repeat (any_goals (first | assumption | exact hT _ | ((with_reducible show wpAny _ _ (call (Value.builtin "list.__getattribute__") _ _) _ _ _); refine call_meets PySem.F.slot_list_getattribute (hT _) am_entry_list_getattribute (PySem.F.args_list_getattribute_2 _ _) (meets_getattribute_miss_list a xs k #[] "keys" _ hmiss (by decide) (by decide)) ⟨hx, hA, fun h' tk' e hx' => ?_⟩) | wp_step))
  obtain ⟨t', u', he⟩ := hx'.there
  show wpAny _ _ (getattributeRaised _ _ _ _ _ _ _) _ _ _
  unfold getattributeRaised
  repeat (any_goals (first | assumption | wp_step))
  exact h h' tk' hx'.keeps

theorem upl_entry : entryFor table "dict.update.loop" = some Builtin.«dict.update.loop» := entryFor_of_tree (by kernel_rfl)
theorem upl_plain : plainId "dict.update.loop" = true := by decide +kernel

section
variable {c : Cx}
theorem pairOf_inv {x : PV} {p : Str × PV} (h : pairOf x = some p) : x = .tuple [.str p.1, p.2] := by
  obtain ⟨q, h1, h2⟩ := bind_some h
  obtain ⟨k, h3, rfl⟩ := map_some h2
  rw [pairV_inv h1, asStr_inv h3]
/-- between two turns of dict's own loop -/
structure UplAt (c : Cx) (h0 : Heap) (F : Fz) (d it l : Addr) (its : Array Value) (ys : List PV) (i : Nat) (acc rest : List (Str × PV)) (h : Heap) (kvs : List (Str × Value)) : Prop where
  n : i + ys.length = its.size
  p : pairsOf ys = some rest
  z : acc.length + ys.length ≤ 100000
  I : h.IsListIter it l i
  k : ∀ b o, h0.get? b = some o → h.get? b = some o
  D : h.DictOf c.kd d kvs
  R : RepE c F h kvs acc
  Y : Reps c F h0 (its.toList.drop i) ys
theorem upl_run {A : Around} (hh : A.handled = none) {h0 : Heap} {F : Fz} (hF : ∀ a, F a → (h0.get? a).isSome = true) {d it l : Addr} (hd : h0.get? d = none) (hit : h0.get? it = none) (hdi : d ≠ it) {its : Array Value} (hl : h0.IsList l its) {s0 : Shared} {R : Result → Shared → Prop} (ys : List PV) :
    ∀ (i : Nat) (acc rest : List (Str × PV)) (h : Heap) (tk : Nat) (kvs : List (Str × Value)), UplAt c h0 F d it l its ys i acc rest h kvs →
      (∀ h' tk kvs', (∀ b o, h0.get? b = some o → h'.get? b = some o) → h'.DictOf c.kd d kvs' → RepE c F h' kvs' (storeAll acc rest) → R (.ok (.ret .none)) { s0 with heap := h', toks := tk }) →
      codeAny c.M A (.builtin "dict.update.loop" ⟨[.ref d, .ref it, rawInt i, .none], []⟩) R { s0 with heap := h, toks := tk } := by
  induction ys with
  | nil =>
    intro i acc rest h tk kvs ⟨hn, hp, hz, hI, hk, hD, hR, hY⟩ P
    cases hp
    refine codeAny_builtin upl_entry ?_
    rw [Around.under_plainId upl_plain _]
    unfold Builtin.«dict.update.loop»
    show wpAny _ A.in1 (pyNext (.ref it) >>= _) _ _ _
    have hls : h.IsList l its := hl.at fun o => hk l o
    refine wpAny_bind (wpAny_pyNext_list_end (s := { s0 with heap := h, toks := tk }) (A := A.in1) hh hI hls (Array.getElem?_eq_none (Nat.le_of_eq hn.symm)) fun h' he' => ?_)
    show wpAny _ A.in1 (Builtin.Dict.addKeywords d [] >>= _) _ _ _
    refine wpAny_bind (wpAny_pure (wpAny_pure ?_))
    have hk0 : ∀ b o, h0.get? b = some o → h'.get? b = some o := fun b o e => he' b o (ne_new (get_some e) hit) (hk b o e)
    exact P h' tk kvs hk0 (DictOf_at hD fun o e => he' d o hdi e) (hR.keep ⟨fun _ x => x, fun b o f e => he' b o (ne_new (hF b f) hit) e⟩)
  | cons y ys ih =>
    intro i acc rest h tk kvs ⟨hn, hp, hz, hI, hk, hD, hR, hY⟩ P
    have hi : i < its.size := by rw [← hn]; exact Nat.lt_add_of_pos_right (Nat.succ_pos _)
    rw [List.drop_eq_getElem_cons (by rw [Array.length_toList]; exact hi), Array.getElem_toList] at hY
    obtain ⟨v, us, e0, r1, r2⟩ := hY.inv
    obtain ⟨hiv, rfl⟩ := List.cons.inj e0
    obtain ⟨q, hq, hp⟩ := bind_some hp
    obtain ⟨rest', hp', rfl⟩ := map_some hp
    rw [pairOf_inv hq] at r1
    obtain ⟨a, pits, rfl, f, pt, rr⟩ := r1.inv
    generalize hpi : pits.toList = pl at *
    obtain ⟨kv, u, rfl, rk, rv⟩ := rr.two
    obtain ⟨t, rfl⟩ := rk.inv
    refine codeAny_builtin upl_entry ?_
    rw [Around.under_plainId upl_plain _]
    unfold Builtin.«dict.update.loop»
    show wpAny _ A.in1 (pyNext (.ref it) >>= _) _ _ _
    have hls : h.IsList l its := hl.at fun o => hk l o
    refine wpAny_bind (wpAny_pyNext_list_item (s := { s0 with heap := h, toks := tk }) hI hls (x := .ref a) (by rw [Array.getElem?_eq_getElem hi, hiv]) fun h1 hI1 hs1 => ?_)
    show wpAny _ A.in1 (holding [.ref a] _ >>= _) _ _ _
    have hk1 : ∀ b o, b ≠ it → h.get? b = some o → h1.get? b = some o := fun b o hb e => hs1.extBut b o hb e
    have hk01 : ∀ b o, h0.get? b = some o → h1.get? b = some o := fun b o e => hk1 b o (ne_new (get_some e) hit) (hk b o e)
    obtain ⟨po, hpo, hpc, pn, hpd⟩ := IsTup_at pt fun o => hk01 a o
    refine wpAny_bind (wpAny_holding (wpAny_bind (wpAny_tryCatch ?_)))
    unfold Builtin.Dict.pairItems
    refine wpAny_bind (wpAny_typeOf ⟨_, hpo, hpc⟩ ?_)
    rw [if_pos (by decide)]
    refine wpAny_bind (wpAny_seqItems hpo hpd (wpAny_pure ?_))
    rw [Option.getD_some, hpi]
    show wpAny _ A.in1 (holding [.str q.1 t, u] (dictSet d (.str q.1 t) u)) _ _ _
    refine wpAny_holding ?_
    have hD1 : h1.DictOf c.kd d kvs := DictOf_at hD fun o e => hk1 d o hdi e
    have k1 : Kept F F h h1 := ⟨fun _ x => x, fun b o f e => hk1 b o (ne_new (hF b f) hit) e⟩
    have hz' : acc.length + (ys.length + 1) ≤ 100000 := hz
    refine wpAny_dictSet_pairs (s := { s0 with heap := h1, toks := tk }) (knd := c.kd) (k := q.1) (strKind_is _ _ _ _) hD1 (fun h2 hD2 hs2 => ?_) (by rw [hR.length]; exact Nat.le_trans (Nat.le_trans (Nat.le_add_right _ _) hz) (by decide))
    have hk2 : ∀ b o, b ≠ d → h1.get? b = some o → h2.get? b = some o := fun b o hb e => (hs2.2 b hb).trans e
    have hk02 : ∀ b o, h0.get? b = some o → h2.get? b = some o := fun b o e => hk2 b o (ne_new (get_some e) hd) (hk01 b o e)
    have k2 : Kept F F h1 h2 := ⟨fun _ x => x, fun b o f e => hk2 b o (ne_new (hF b f) hd) e⟩
    refine wpAny_pure ⟨plainId_quiet upl_plain _, ?_⟩
    have hput := put_len q.1 q.2 acc
    have hn' : i + (ys.length + 1) = its.size := hn
    exact ih (i + 1) (put q.1 q.2 acc) rest' h2 (tk + 1) (stored kvs q.1 u) ⟨by (clear hput k2 hk02 hk2 hs2 hD2 hz' k1 hD1 hpd hpc hpo hk01 hk1 hs1 hI1 hls rk rr hpi rv pt f r1 e0 hiv P hp hp' hq r2 hY hi hR hD hk hI hz hn; omega), hp', by (clear hn' k2 hk02 hk2 hs2 hD2 k1 hD1 hpd hpc hpo hk01 hk1 hs1 hI1 hls rk rr hpi rv pt f r1 e0 hiv P hp hp' hq r2 hY hi hR hD hk hI hz hn; omega), hI1.at fun o e => hk2 it o hdi.symm e, hk02, hD2, ((hR.keep k1).keep k2).put (rv.keep (.all (fun _ => id) hk02)) (dict_nodup hD), r2⟩ P

theorem pairs_ok (T : Stat c) : PairsOK c := by
  intro A es xs hh hes hsz b s F E Q u B ru P
  obtain ⟨a, its, rfl, f, ⟨cnt, ho⟩, r⟩ := ru.inv
  have hz := Nat.le_of_ble_eq_true hsz
  refine callType_codes (Q₁ := fun obj s₁ => obj = .ref s.heap.objs.size ∧ s₁ = { s with heap := s.heap.push { cls := .type "dict", data := .dict #[] } }) PySem.F.kt_called_dict (PySem.F.kt_typeCall_dict_1 _) PySem.F.entry_dict_init (kt_code_dict_new _ ⟨rfl, rfl⟩) ?_
  rintro obj s₁ ⟨rfl, rfl⟩
  have hnew : (s.heap.push { cls := .type "dict", data := .dict #[] }).DictOf c.kd s.heap.objs.size [] := Heap.DictOf.new s.heap
  have ho' := push_keep (h := s.heap) { cls := .type "dict", data := .dict #[] } _ _ ho
  refine ⟨hnew.typeIs, PySem.F.args_dict_init_2 _ _, ?_⟩
  unfold Builtin.«dict.__init__»
  refine wpAny_bind ?_
  unfold Builtin.Dict.selfAndRest
  refine wpAny_bind (wpAny_notOrdered_dict hnew.typeIs ?_)
  show wpAny _ _ (pure (s.heap.objs.size, [Value.ref a])) _ _ _
  refine wpAny_pure ?_
  show wpAny _ _ (Builtin.Dict.updateFrom "dict.__init__" s.heap.objs.size (.ref a) [] .none) _ _ _
  unfold Builtin.Dict.updateFrom
  refine wpAny_bind (wpAny_typeOf ⟨_, ho', rfl⟩ ?_)
  rw [if_pos (by decide)]
  refine wpAny_bind (ga_keys (A := A.in1.in1) (s := { s with heap := s.heap.push { cls := .type "dict", data := .dict #[] } }) ho' hh fun h1 tk1 hk1 => ?_)
  have hkd := hk1 _ _ (Heap.get?_push_size s.heap (o := { cls := .type "dict", data := .dict #[] }) rfl)
  have hk01 : ∀ b o, s.heap.get? b = some o → h1.get? b = some o := fun b o e => hk1 b o (push_keep _ b o e)
  show wpAny _ _ (rule _ >>= fun _ => pyIter (.ref a) >>= fun it => again (.builtin "dict.update.loop" ⟨[.ref s.heap.objs.size, it, rawInt 0, .none], []⟩)) _ _ _
  refine wpAny_bind (wpAny_rule ?_)
  refine wpAny_bind (wpAny_pyIter_list (s := { s with heap := h1, toks := tk1 }) (items := its) ⟨_, hk01 _ _ ho, rfl, _, rfl⟩ ?_)
  refine wpAny_pure ⟨plainId_quiet upl_plain _, ?_⟩
  refine upl_run (c := c) (A := A.in1) (s0 := s) (its := its) (l := a) hh B.dom none_size (none_of (hk01 _) none_size) (Nat.ne_of_lt (Heap.lt_size hkd)) ⟨_, ho, rfl, _, rfl⟩ xs 0 [] es (h1.push { cls := .type "list_iterator", data := .fields #[.ref a, .int 0 0] }) tk1 [] ⟨by rw [r.size]; exact Nat.zero_add _, hes, by rw [List.length_nil, Nat.zero_add]; exact hz, ⟨_, Heap.get?_push_size _ rfl, rfl, rfl⟩, fun b o e => push_keep _ _ _ (hk01 b o e),
    DictOf_at hnew fun o e => push_keep _ _ _ (hk1 _ _ e), .nil, r⟩ fun h' tk kvs' hk hD hR => ?_
  exact ⟨rfl, P _ h' tk hk none_size ⟨sys_ne T B.base none_size, kvs', hD, hR⟩⟩
end
end Mine

set_option maxRecDepth 100000
set_option linter.unusedVariables false
namespace Mine
open PySem

/-! the interpreter, fed with answers: what is to be shown behind them -/
structure Good (c : Cx) : Prop where
  T : Stat c
  TB : TabOK c
  B0 : c.pre = false → c.h0.get? c.B = none
def Ret (N : Nat) (f : Str) (vs : List PV) (b : Bowl) (r : PV × Bowl) : Prop := (tab f).isSome = true ∧ ∀ c A, Good c → AOK A N → CallOK c A f vs b r.1 r.2
theorem Ret.mono {N N' : Nat} {f : Str} {vs : List PV} {b : Bowl} {r : PV × Bowl} (h : Ret N f vs b r) (hn : N ≤ N') : Ret N' f vs b r := ⟨h.1, fun c A G hA => h.2 c A G (hA.le hn)⟩

inductive Ans where
  | g
  | v (x : PV)
  | b (x : Bool)
  | r (x : PV) (b : Bowl)
  | loop (I : List PV → St → Prop) (st' : St)
  | lcomp (I : List PV → List PV → St → Prop) (acc : List PV) (b : Bowl)
  | dcomp (I : List PV → List (Str × PV) → St → Prop) (acc : List (Str × PV)) (b : Bowl)
abbrev TP := List Ans → List Prop
def AllC : List Prop → Prop
  | [] => True
  | p :: r => p ∧ AllC r
def Ok (P : TP) : Prop := ∃ t, AllC (P t)

noncomputable def bad : TP := fun _ => [False]
noncomputable def fin (p : Prop) : TP := fun _ => [p]
noncomputable def need {α : Type} (o : Option α) (K : α → TP) : TP := match o with
  | some x => K x
  | none => bad
noncomputable def must (b : Bool) (K : TP) : TP := match b with
  | true => K
  | false => bad
noncomputable def ask (o : Option PV) (K : PV → TP) : TP
  | [] => need o K []
  | a :: t => (match a with
    | .g => need o K t
    | .v x => (o = some x) :: K x t
    | _ => [False])
noncomputable def askB (o : Option Bool) (K : Bool → TP) : TP
  | [] => need o K []
  | a :: t => (match a with
    | .g => need o K t
    | .b x => (o = some x) :: K x t
    | _ => [False])
noncomputable def sure (b : Bool) (K : TP) : TP
  | [] => must b K []
  | a :: t => (match a with
    | .g => must b K t
    | .b _ => (b = true) :: K t
    | _ => [False])
noncomputable def callT (N : Nat) (f : Str) (vs : List PV) (b : Bowl) (K : PV → Bowl → TP) : TP
  | [] => [False]
  | a :: t => (match a with
    | .r x b' => Ret N f vs b (x, b') :: K x b' t
    | _ => [False])

abbrev EvT := St → Expr → (PV → St → TP) → TP
abbrev TrT := St → Expr → (Bool → St → TP) → TP
abbrev ExT := St → List Stmt → (Fl → St → TP) → TP
structure Wi where
  ev : Scope → EvT
  tr : Scope → TrT
  exs : Scope → ExT

noncomputable def wEvs (ev : EvT) : List Expr → St → (List PV → St → TP) → TP
  | [], st, K => K [] st
  | e :: r, st, K => must (notStar e) (ev st e fun v st1 => wEvs ev r st1 fun vs st2 => K (v :: vs) st2)
noncomputable def peekOf (op : CmpOp) (e : Expr) : Option Str := match op with
  | .In => nameOf e
  | .NotIn => nameOf e
  | _ => none
noncomputable def wRight (ev : EvT) (sc : Scope) (st : St) (op : CmpOp) (e : Expr) (K : PV → St → TP) : TP := match peekOf op e with
  | some x => (match st.isOwn x with
    | true => must (ownName sc x) (need (lk x st.vars) fun v => K v st)
    | false => ev st e K)
  | none => ev st e K
noncomputable def wCmp1 (ev : EvT) (sc : Scope) (st : St) (l : Expr) (o : CmpOp) (e : Expr) (K : Bool → St → TP) : TP :=
  must (notSet e) (ev st l fun x st1 => wRight ev sc st1 o e fun y st2 => askB (cmp o x y) fun b => K b st2)
noncomputable def wCmp2 (ev : EvT) (st : St) (l : Expr) (o1 o2 : CmpOp) (e1 e2 : Expr) (K : Bool → St → TP) : TP :=
  must (notSet e1) (must (notSet e2) (ev st l fun x st1 => ev st1 e1 fun y st2 => askB (cmp o1 x y) fun b => match b with
    | true => ev st2 e2 fun z st3 => askB (cmp o2 y z) fun b => K b st3
    | false => K false st2))
noncomputable def sameB (a b : Bool) : Bool := match a with
  | true => b
  | false => !b
noncomputable def wBool (ev : EvT) (op : BoolOp) : List Expr → St → (PV → St → TP) → TP
  | [], _, _ => bad
  | e :: r, st, K => (match r with
    | [] => ev st e K
    | _ :: _ => ev st e fun v st1 => need (truthy v) fun b => (match sameB b (isOr op) with
      | true => K v st1
      | false => wBool ev op r st1 K))
noncomputable def wAll (tr : TrT) (op : BoolOp) : List Expr → St → (Bool → St → TP) → TP
  | [], st, K => K (!isOr op) st
  | e :: r, st, K => tr st e fun b st1 => (match sameB b (isOr op) with
    | true => K (isOr op) st1
    | false => wAll tr op r st1 K)

/-! sources, comprehensions, loops -/
noncomputable def srcKind (sc : Scope) (e : Expr) : Option (Bool × List Expr) := match e with
  | .Call f args kws _ => (match kws with
    | [] => (nameOf f).bind fun x => (match kindIs sc x .globalImplicit with
      | true => (match seq x "range" with
        | true => some (true, args)
        | false => (match seq x "zip" with | true => some (false, args) | false => none))
      | false => none)
    | _ :: _ => none)
  | _ => none
noncomputable def asInt : PV → Option Int
  | .int i => some i
  | _ => .none
noncomputable def asDict : PV → Option (List (Str × PV))
  | .dict es => some es
  | _ => .none
noncomputable def asInst : PV → Option (Str × List (Str × PV))
  | .inst C fs => some (C, fs)
  | _ => .none
noncomputable def wSource (ev : EvT) (sc : Scope) (st : St) (tgt e : Expr) (K : List PV → St → TP) : TP := match srcKind sc e with
  | some p => must (!p.2.isEmpty) (match p.1 with
    | true => must (isName tgt) (wEvs ev p.2 st fun vs st1 => need ((one vs).bind asInt) fun n => sure (decide (0 ≤ n ∧ n < 100000)) (K (rangeItems n.toNat) st1))
    | false => must (isTup tgt) (wEvs ev p.2 st fun vs st1 => need (two vs) fun q => need (asList q.1) fun xs => need (asList q.2) fun ys => K (zipItems xs ys) st1))
  | none => must (notSet e) (ev st e fun v st1 => must (isName tgt || (isTup tgt && isListV v)) (need (itemsOf v) fun xs => K xs st1))
noncomputable def wTests (tr : TrT) (ifs : List Expr) (st : St) (K : Bool → St → TP) : TP := match ifs with
  | [] => K true st
  | c :: r => (match r with | [] => tr st c K | _ :: _ => bad)

section
variable {α : Type} (sc : Scope) (tgt : Expr) (ifs : List Expr) (tr : TrT) (turn : St → α → (α → St → TP) → TP)
/-- one turn -/
noncomputable def wTurn (bs : List (Str × PV)) (st : St) (acc : α) (K : α → St → TP) : TP :=
  must (localsOnly sc bs) (wTests tr ifs (st.putAll bs) fun b st1 => match b with
    | true => turn st1 acc K
    | false => K acc st1)
noncomputable def compRun : List PV → α → St → (α → Bowl → TP) → TP
  | [], acc, st, K => K acc st.bowl
  | v :: r, acc, st, K => need (bindT sc tgt v) fun bs => wTurn sc ifs tr turn bs st acc fun acc1 st1 => compRun r acc1 st1 K
def CompC (I : List PV → α → St → Prop) (accF : α) (b : Bowl) (xs : List PV) (acc : α) (st : St) : Prop :=
  I xs acc st ∧ (∀ a s, I [] a s → a = accF ∧ s.bowl = b) ∧ ∀ v r a s, I (v :: r) a s → ∃ bs, bindT sc tgt v = some bs ∧ Ok (wTurn sc ifs tr turn bs s a fun a1 s1 => fin (I r a1 s1))
noncomputable def compT (sel : Ans → Option ((List PV → α → St → Prop) × α × Bowl)) (xs : List PV) (acc : α) (st : St) (K : α → Bowl → TP) : TP
  | [] => compRun sc tgt ifs tr turn xs acc st K []
  | a :: t => (match sel a with
    | some p => CompC sc tgt ifs tr turn p.1 p.2.1 p.2.2 xs acc st :: K p.2.1 p.2.2 t
    | none => compRun sc tgt ifs tr turn xs acc st K t)
end
noncomputable def selL : Ans → Option ((List PV → List PV → St → Prop) × List PV × Bowl)
  | .lcomp I acc b => some (I, acc, b)
  | _ => none
noncomputable def selD : Ans → Option ((List PV → List (Str × PV) → St → Prop) × List (Str × PV) × Bowl)
  | .dcomp I acc b => some (I, acc, b)
  | _ => none
noncomputable def lcTurn (ev : EvT) (elt : Expr) (st : St) (acc : List PV) (K : List PV → St → TP) : TP := ev st elt fun v st1 => K (acc ++ [v]) st1
noncomputable def dcTurn (ev : EvT) (kx vx : Expr) (st : St) (acc : List (Str × PV)) (K : List (Str × PV) → St → TP) : TP := ev st kx fun k st1 => need (asStr k) fun k => ev st1 vx fun v st2 => K (put k v acc) st2
noncomputable def noAsync (g : Comprehension) : Bool := decide (g.is_async = 0)
noncomputable def wCompr {α : Type} (W : Wi) (sc : Scope) (sel : Ans → Option ((List PV → α → St → Prop) × α × Bowl)) (turn : EvT → St → α → (α → St → TP) → TP) (acc0 : α) (mk : α → PV) (st : St) (gens : List Comprehension) (scope : Scope) (K : PV → St → TP) : TP :=
  need (one gens) fun g => must (noAsync g) (wSource (W.ev sc) sc st g.target g.iter fun xs st1 => must (scopeOk scope sc) (sure (sizeOk xs.length)
    (compT (relab scope sc) g.target g.ifs (W.tr (relab scope sc)) (turn (W.ev (relab scope sc))) sel xs acc0 ⟨capture scope (sealFor scope st1).vars, none, (sealFor scope st1).bowl⟩ fun acc b => K (mk acc) { sealFor scope st1 with bowl := b })))

noncomputable def flNext (K : St → TP) (L : PV → St → TP) (fl : Fl) (st : St) : TP := match fl with
  | .next => K st
  | .ret v => L v st
noncomputable def forRun (sc : Scope) (tgt : Expr) (body : St → (Fl → St → TP) → TP) : List PV → St → (Fl → St → TP) → TP
  | [], st, K => K .next st
  | v :: r, st, K => need (bindT sc tgt v) fun bs => body (st.putAll bs) (flNext (fun st1 => forRun sc tgt body r st1 K) fun v st1 => K (.ret v) st1)
def LoopC (sc : Scope) (tgt : Expr) (body : St → (Fl → St → TP) → TP) (I : List PV → St → Prop) (st' : St) (xs : List PV) (st : St) : Prop :=
  I xs st ∧ (∀ s, I [] s → s = st') ∧ ∀ v r s, I (v :: r) s → ∃ bs, bindT sc tgt v = some bs ∧ Ok (body (s.putAll bs) (flNext (fun s1 => fin (I r s1)) fun _ _ => bad))
noncomputable def forT (sc : Scope) (tgt : Expr) (body : St → (Fl → St → TP) → TP) (xs : List PV) (st : St) (K : Fl → St → TP) : TP
  | [] => forRun sc tgt body xs st K []
  | a :: t => (match a with
    | .loop I st' => LoopC sc tgt body I st' xs st :: K .next st' t
    | _ => forRun sc tgt body xs st K t)
noncomputable def wWhile (tr : St → (Bool → St → TP) → TP) (body : St → (Fl → St → TP) → TP) : Nat → St → (Fl → St → TP) → TP
  | 0, _, _ => bad
  | n + 1, st, K => tr st fun b st1 => (match b with
    | true => body st1 (flNext (fun st2 => wWhile tr body n st2 K) fun v st2 => K (.ret v) st2)
    | false => K .next st1)

/-! expressions -/
noncomputable def wName (sc : Scope) (st : St) (x : Str) (K : PV → St → TP) : TP := match lk x st.vars with
  | some v => must (ownName sc x) (K v (st.seal x))
  | none => must (kindIs sc x .globalImplicit) (need (constAt x) fun v => K v st)
noncomputable def wPairs (ev : EvT) : List (Option Expr) → List Expr → St → (List (Str × PV) → St → TP) → TP
  | [], vs, st, K => (match vs with | [] => K [] st | _ :: _ => bad)
  | k :: ks, vs, st, K => (match k with
    | some k => (match vs with
      | v :: vs => ev st k fun s st1 => need (asStr s) fun q => ev st1 v fun x st2 => wPairs ev ks vs st2 fun r st3 => K ((q, x) :: r) st3
      | [] => bad)
    | none => bad)
noncomputable def wDict (ev : EvT) (ks : List (Option Expr)) (vs : List Expr) (st : St) (K : PV → St → TP) : TP := must (Nat.ble ks.length 15) (wPairs ev ks vs st fun es st1 => K (.dict (storeAll [] es)) st1)
noncomputable def wSub (ev : EvT) (st : St) (v i : Expr) (K : PV → St → TP) : TP := match notSlice i with
  | true => ev st v fun a st1 => ev st1 i fun k st2 => ask (item a k st2.bowl) fun z => K z st2
  | false => (match i with
    | .Slice lo hi step _ => (match step with
      | none => must (isName v) (ev st v fun a st1 => need (asStr a) fun s => need (sliceOf lo hi) fun p => sure (sizeOk (slicePart s p.1 p.2).length) (K (.str (slicePart s p.1 p.2)) st1))
      | some _ => bad)
    | _ => bad)
noncomputable def wMade (N : Nat) (f : Str) (vs : List PV) (st : St) (K : PV → St → TP) : TP := match lk f blts with
  | some k => ask (bltAt k vs) fun r => K r st
  | none => (match classFields f with
    | some fs => must (Nat.beq fs.length vs.length) (K (.inst f (fs.zip vs)) st)
    | none => must (noDot f) (callT N f vs st.bowl fun x b' => K x { st with bowl := b' }))
noncomputable def wCallName (N : Nat) (ev : EvT) (sc : Scope) (st : St) (f : Str) (args : List Expr) (K : PV → St → TP) : TP := must (kindIs sc f .globalImplicit) (match seq f "isinstance" with
  | true => need (two args) fun p => must (notStar p.1) (ev st p.1 fun v st1 => need (asInst v) fun D => need (kitOf sc p.2) fun cs => askB (some (memS D.1 cs)) fun b => K (.bool b) st1)
  | false => must (!args.isEmpty) (wEvs ev args st fun vs st1 => wMade N f vs st1 K))
noncomputable def wPop (ev : EvT) (sc : Scope) (st : St) (x : Str) (args : List Expr) (K : PV → St → TP) : TP := must (ownName sc x) (need ((lk x st.vars).bind asDict) fun _ => need (one args) fun k => must (notStar k) (ev st k fun s st1 => need (asStr s) fun q =>
  must (st1.isOwn x) (need ((lk x st1.vars).bind asDict) fun es => sure (sizeOk es.length) (ask (lk q es) fun z => K z { st1 with vars := put x (.dict (delK q es)) st1.vars }))))
noncomputable def wMeth (N : Nat) (ev : EvT) (v : PV) (st : St) (m : Str) (args : List Expr) (K : PV → St → TP) : TP := match v with
  | .inst C fs => (match args with
    | [] => callT N (C ++ "." ++ m) [.inst C fs] st.bowl fun x b' => K x { st with bowl := b' }
    | _ :: _ => bad)
  | .dict es => must (seq m "get") (wEvs ev args st fun vs st1 => ask (dictGet es vs) fun z => K z st1)
  | .str sep => must (seq m "join") (need (one args) fun e => must (notStar e) (ev st e fun x st1 => ask (strJoin sep x) fun z => K z st1))
  | _ => bad
noncomputable def popOf (st : St) (o : Expr) (m : Str) : Option Str := (nameOf o).bind fun x => (match st.isOwn x with | true => guard (seq m "pop") x | false => none)
noncomputable def wCallMeth (N : Nat) (ev : EvT) (sc : Scope) (st : St) (o : Expr) (m : Str) (args : List Expr) (K : PV → St → TP) : TP := match popOf st o m with
  | some x => wPop ev sc st x args K
  | none => must (notCall o) (ev st o fun v st1 => wMeth N ev v st1 m args K)
noncomputable def wCall (N : Nat) (ev : EvT) (sc : Scope) (st : St) (f : Expr) (args : List Expr) (kws : List Keyword) (p : Pos) (K : PV → St → TP) : TP := match kws with
  | [] => (match f with
    | .Name f _ => wCallName N ev sc st f args K
    | .Attribute o m ap => must (Nat.beq ap.endLine p.line) (must (Nat.blt args.length 5) (wCallMeth N ev sc st o m args K))
    | _ => bad)
  | _ :: _ => bad
noncomputable def wEval (N : Nat) (W : Wi) (sc : Scope) (st : St) (e : Expr) (K : PV → St → TP) : TP := match e with
  | .Constant k _ _ => need (constPV k) fun v => K v st
  | .Name x _ => wName sc st x K
  | .Attribute o a _ => must (notCall o) (W.ev sc st o fun v st1 => need (asInst v) fun p => need (lk a p.2) fun z => K z st1)
  | .BinOp l op r _ => W.ev sc st l fun a st1 => W.ev sc st1 r fun b st2 => ask (binop op a b) fun z => K z st2
  | .UnaryOp op e _ => (match op with
    | .Not => W.ev sc st e fun v st1 => need (truthy v) fun b => K (.bool !b) st1
    | .USub => W.ev sc st e fun v st1 => need (asInt v) fun i => K (.int (-i)) st1
    | _ => bad)
  | .BoolOp op es _ => wBool (W.ev sc) op es st K
  | .IfExp t b o _ => W.tr sc st t fun q st1 => W.ev sc st1 (bif q then b else o) K
  | .Compare l ops es _ => (match one ops with
    | some o => need (one es) fun e => wCmp1 (W.ev sc) sc st l o e fun b st1 => K (.bool b) st1
    | none => need (two ops) fun o => need (two es) fun e => wCmp2 (W.ev sc) st l o.1 o.2 e.1 e.2 fun b st1 => K (.bool b) st1)
  | .List es _ => must (Nat.blt es.length 1000) (wEvs (W.ev sc) es st fun vs st1 => K (.list vs) st1)
  | .Tuple es _ _ => must (Nat.blt es.length 1000) (wEvs (W.ev sc) es st fun vs st1 => K (.tuple vs) st1)
  | .Dict ks vs _ => wDict (W.ev sc) ks vs st K
  | .Subscript v i _ => wSub (W.ev sc) st v i K
  | .Call f args kws p => wCall N (W.ev sc) sc st f args kws p K
  | .ListComp elt gens scope _ => wCompr W sc selL (fun ev => lcTurn ev elt) [] PV.list st gens scope K
  | .DictComp kx vx gens scope _ => wCompr W sc selD (fun ev => dcTurn ev kx vx) [] PV.dict st gens scope K
  | _ => bad
noncomputable def wPlainT (ev : EvT) (st : St) (e : Expr) (K : Bool → St → TP) : TP := must (plainTest e) (ev st e fun v st1 => need (truthy v) fun b => K b st1)
noncomputable def wTest (W : Wi) (sc : Scope) (st : St) (e : Expr) (K : Bool → St → TP) : TP := match e with
  | .UnaryOp op e _ => (match op with
    | .Not => W.tr sc st e fun b st1 => K (!b) st1
    | _ => bad)
  | .BoolOp op es _ => wAll (W.tr sc) op es st K
  | .IfExp t b o _ => W.tr sc st t fun q st1 => W.tr sc st1 (bif q then b else o) K
  | .Compare l ops es _ => need (one ops) fun o => need (one es) fun e => wCmp1 (W.ev sc) sc st l o e K
  | e => wPlainT (W.ev sc) st e K

/-! statements -/
noncomputable def isBowl : Option PV → Bool
  | some v => (match v with | .bowl => true | _ => false)
  | none => false
noncomputable def wSetItem (ev : EvT) (sc : Scope) (st : St) (x : Str) (k : Expr) (v : PV) (K : Fl → St → TP) : TP := must (ownName sc x) (match st.isOwn x with
  | true => need ((lk x st.vars).bind asDict) fun _ => ev st k fun s st1 => need (asStr s) fun q => must (st1.isOwn x) (need ((lk x st1.vars).bind asDict) fun es => sure (sizeOk es.length) (K .next { st1 with vars := put x (.dict (put q v es)) st1.vars }))
  | false => must (isBowl (lk x st.vars)) (need (asInt v) fun i => ev st k fun s st1 => need (asStr s) fun q => need (putBowl st1.bowl q i) fun b => K .next { st1 with bowl := b }))
noncomputable def wMut (ev : EvT) (sc : Scope) (st : St) (x m : Str) (e : Expr) (K : Fl → St → TP) : TP := must (st.isOwn x) (must (ownName sc x) (must (notStar e) (match seq m "append" with
  | true => need ((lk x st.vars).bind asList) fun _ => ev st e fun v st1 => must (st1.isOwn x) (need ((lk x st1.vars).bind asList) fun xs => sure (sizeOk xs.length) (K .next { st1 with vars := put x (.list (xs ++ [v])) st1.vars }))
  | false => must (seq m "update") (need ((lk x st.vars).bind asDict) fun _ => ev st e fun v st1 => need (asDict v) fun more => must (st1.isOwn x) (need ((lk x st1.vars).bind asDict) fun es => sure (sizeOk (es.length + more.length)) (K .next { st1 with vars := put x (.dict (storeAll es more)) st1.vars }))))))
noncomputable def wAsgName (ev : EvT) (sc : Scope) (st : St) (x : Str) (e : Expr) (K : Fl → St → TP) : TP := ev st e fun v st1 => must (ownName sc x) (K .next (match isFresh e with | true => st1.putOwn x v | false => st1.put1 x v))
noncomputable def wAsgTwo (ev : EvT) (sc : Scope) (st : St) (x y : Str) (a b : Expr) (K : Fl → St → TP) : TP := must (twoOwn sc x y) (must (madeE a) (must (notStar b) (ev st a fun v st1 => ev st1 b fun u st2 => K .next (match isFresh a with | true => (st2.putOwn x v).put1 y u | false => (st2.put1 x v).put1 y u))))
noncomputable def wTwoT (ev : EvT) (sc : Scope) (st : St) (ts : List Expr) (e : Expr) (K : Fl → St → TP) : TP := match e with
  | .Tuple es _ _ => need (two ts) fun p => need (nameOf p.1) fun x => need (nameOf p.2) fun y => need (two es) fun q => wAsgTwo ev sc st x y q.1 q.2 K
  | _ => bad
noncomputable def wAsg (ev : EvT) (sc : Scope) (st : St) (t e : Expr) (K : Fl → St → TP) : TP := match t with
  | .Name x _ => wAsgName ev sc st x e K
  | .Subscript o k _ => need (nameOf o) fun x => ev st e fun v st1 => wSetItem ev sc st1 x k v K
  | .Tuple ts _ _ => (match isTup e with
    | true => wTwoT ev sc st ts e K
    | false => ev st e fun v st1 => need (bindT sc t v) fun bs => K .next (st1.putAll bs))
  | _ => bad
noncomputable def wExpr (ev : EvT) (sc : Scope) (st : St) (e : Expr) (K : Fl → St → TP) : TP := match e with
  | .Call f args kws cp => (match kws with
    | [] => (match f with
      | .Attribute o m ap => need (nameOf o) fun x => need (one args) fun e => must (Nat.beq ap.endLine cp.line) (wMut ev sc st x m e K)
      | _ => bad)
    | _ :: _ => bad)
  | _ => bad
noncomputable def wStmt (W : Wi) (sc : Scope) (st : St) (s : Stmt) (K : Fl → St → TP) : TP := match s with
  | .Return e _ => need e fun e => W.ev sc st e fun v st1 => K (.ret v) st1
  | .If t b o _ => W.tr sc st t fun q st1 => W.exs sc st1 (bif q then b else o) K
  | .Assign ts e _ => need (one ts) fun t => wAsg (W.ev sc) sc st t e K
  | .Expr e _ => wExpr (W.ev sc) sc st e K
  | .For target iter body orelse _ => (match orelse with
    | [] => wSource (W.ev sc) sc st target iter fun xs st1 => sure (sizeOk xs.length) (forT sc target (fun s => W.exs sc s body) xs st1 K)
    | _ :: _ => bad)
  | .While t body orelse _ => (match orelse with
    | [] => wWhile (fun s => W.tr sc s t) (fun s => W.exs sc s body) 50 st K
    | _ :: _ => bad)
  | _ => bad
noncomputable def wExs (W : Wi) (sc : Scope) : List Stmt → St → (Fl → St → TP) → TP
  | [], st, K => K .next st
  | s :: r, st, K => wStmt W sc st s (flNext (fun st1 => wExs W sc r st1 K) fun v st1 => K (.ret v) st1)
noncomputable def wRun (N : Nat) : Nat → Wi
  | 0 => ⟨fun _ _ _ _ => bad, fun _ _ _ _ => bad, fun _ _ _ _ => bad⟩
  | k + 1 => ⟨wEval N (wRun N k), wTest (wRun N k), fun sc st b K => wExs (wRun N k) sc b st K⟩

noncomputable def getFn (f : Str) : FnInfo := (tab f).getD ⟨⟨[], [], none, [], [], none, []⟩, [], ⟨.module, [], false, false, []⟩⟩

/-! places in a function's text -/
noncomputable def stm (l : List Stmt) : List Nat → Stmt
  | [] => .Pass ⟨0, 0, 0, 0⟩
  | i :: p => match l[i]? with
    | none => .Pass ⟨0, 0, 0, 0⟩
    | some s => (match p with
      | [] => s
      | _ :: _ => (match s with
        | .If _ b _ _ => stm b p
        | .For _ _ b _ _ => stm b p
        | .While _ b _ _ => stm b p
        | _ => s))
noncomputable def forTgt : Stmt → Expr
  | .For t _ _ _ _ => t
  | _ => .Tuple [] 0 ⟨0, 0, 0, 0⟩
noncomputable def forBody : Stmt → List Stmt
  | .For _ _ b _ _ => b
  | _ => []
noncomputable def nthE (l : List Expr) (k : Nat) : Expr := (l[k]?).getD (.Tuple [] 0 ⟨0, 0, 0, 0⟩)
noncomputable def sub (e : Expr) (k : Nat) : Expr := match e with
  | .Call f args _ _ => (match k with | 9 => f | k => nthE args k)
  | .BinOp l _ r _ => (match k with | 0 => l | _ => r)
  | .IfExp t b o _ => (match k with | 0 => t | 1 => b | _ => o)
  | .Tuple es _ _ => nthE es k
  | .List es _ => nthE es k
  | .BoolOp _ es _ => nthE es k
  | .Compare l _ es _ => (match k with | 0 => l | k + 1 => nthE es k)
  | .UnaryOp _ e _ => e
  | .Attribute e _ _ => e
  | _ => e
noncomputable def valOf : Stmt → Expr
  | .Assign _ e _ => e
  | .Return e _ => e.getD (.Tuple [] 0 ⟨0, 0, 0, 0⟩)
  | .Expr e _ => e
  | .If e _ _ _ => e
  | .For _ e _ _ _ => e
  | _ => .Tuple [] 0 ⟨0, 0, 0, 0⟩
structure CompAst where
  elt : Expr
  vx : Expr
  tgt : Expr
  ifs : List Expr
  scope : Scope
noncomputable def compAst (e : Expr) : CompAst := match e with
  | .ListComp elt gens scope _ => (match gens with | g :: _ => ⟨elt, elt, g.target, g.ifs, scope⟩ | [] => ⟨e, e, e, [], scope⟩)
  | .DictComp kx vx gens scope _ => (match gens with | g :: _ => ⟨kx, vx, g.target, g.ifs, scope⟩ | [] => ⟨e, e, e, [], scope⟩)
  | _ => ⟨e, e, e, [], ⟨.module, [], false, false, []⟩⟩
/-- the comprehension at a place: a statement's path, then the way down in its expression -/
noncomputable def compIn (f : Str) (p q : List Nat) : CompAst := compAst (q.foldl sub (valOf (stm (getFn f).body p)))
noncomputable def compSc (f : Str) (p q : List Nat) : Scope := relab (compIn f p q).scope (getFn f).scope
noncomputable def loopB (N k : Nat) (f : Str) (p : List Nat) (s : St) (K : Fl → St → TP) : TP := (wRun N k).exs (getFn f).scope s (forBody (stm (getFn f).body p)) K
noncomputable def lcT (N k : Nat) (f : Str) (p q : List Nat) (bs : List (Str × PV)) (s : St) (acc : List PV) (K : List PV → St → TP) : TP := wTurn (compSc f p q) (compIn f p q).ifs ((wRun N k).tr (compSc f p q)) (lcTurn ((wRun N k).ev (compSc f p q)) (compIn f p q).elt) bs s acc K
noncomputable def dcT (N k : Nat) (f : Str) (p q : List Nat) (bs : List (Str × PV)) (s : St) (acc : List (Str × PV)) (K : List (Str × PV) → St → TP) : TP := wTurn (compSc f p q) (compIn f p q).ifs ((wRun N k).tr (compSc f p q)) (dcTurn ((wRun N k).ev (compSc f p q)) (compIn f p q).elt (compIn f p q).vx) bs s acc K
end Mine

set_option maxRecDepth 100000
set_option linter.unusedVariables false
namespace Mine
open PySem

/-! what the answers show -/
theorem bad_ok {P : Prop} (h : Ok bad) : P := by obtain ⟨t, h⟩ := h; exact h.1.elim
theorem fin_ok {p : Prop} (h : Ok (fin p)) : p := by obtain ⟨t, h⟩ := h; exact h.1
theorem need_ok {α : Type} {o : Option α} {K : α → TP} (h : Ok (need o K)) : ∃ x, o = some x ∧ Ok (K x) := by
  cases o with
  | none => exact bad_ok h
  | some x => exact ⟨x, rfl, h⟩
theorem must_ok {b : Bool} {K : TP} (h : Ok (must b K)) : b = true ∧ Ok K := by
  cases b with
  | false => exact bad_ok h
  | true => exact ⟨rfl, h⟩
theorem false_ok {P : Prop} (h : AllC [False]) : P := h.1.elim
theorem ask_ok {o : Option PV} {K : PV → TP} (h : Ok (ask o K)) : ∃ x, o = some x ∧ Ok (K x) := by
  obtain ⟨t, h⟩ := h
  cases t with
  | nil => exact need_ok ⟨[], h⟩
  | cons a t =>
    cases a with
    | g => exact need_ok ⟨t, h⟩
    | v x => exact ⟨x, h.1, t, h.2⟩
    | _ => exact false_ok h
theorem askB_ok {o : Option Bool} {K : Bool → TP} (h : Ok (askB o K)) : ∃ x, o = some x ∧ Ok (K x) := by
  obtain ⟨t, h⟩ := h
  cases t with
  | nil => exact need_ok ⟨[], h⟩
  | cons a t =>
    cases a with
    | g => exact need_ok ⟨t, h⟩
    | b x => exact ⟨x, h.1, t, h.2⟩
    | _ => exact false_ok h
theorem sure_ok {b : Bool} {K : TP} (h : Ok (sure b K)) : b = true ∧ Ok K := by
  obtain ⟨t, h⟩ := h
  cases t with
  | nil => exact must_ok ⟨[], h⟩
  | cons a t =>
    cases a with
    | g => exact must_ok ⟨t, h⟩
    | b x => exact ⟨h.1, t, h.2⟩
    | _ => exact false_ok h
theorem callT_ok {N : Nat} {f : Str} {vs : List PV} {b : Bowl} {K : PV → Bowl → TP} (h : Ok (callT N f vs b K)) : ∃ x b', Ret N f vs b (x, b') ∧ Ok (K x b') := by
  obtain ⟨t, h⟩ := h
  cases t with
  | nil => exact false_ok h
  | cons a t =>
    cases a with
    | r x b' => exact ⟨x, b', h.1, t, h.2⟩
    | _ => exact false_ok h

structure EvAll (c : Cx) (A : Around) (sc : Scope) (st : St) (e : Expr) (x : PV) (st' : St) : Prop where
  ev : EvOK c A sc st e x st'
  fr : isFresh e = true → FreshOK c A sc st e x st'
  us : isComp e = true → UseOK c A sc st e x st'
def EvG (c : Cx) (A : Around) (sc : Scope) (ev : EvT) : Prop := ∀ ⦃st : St⦄ ⦃e : Expr⦄ ⦃K : PV → St → TP⦄, Ok (ev st e K) → ∃ x st', Ok (K x st') ∧ EvAll c A sc st e x st'
def TrG (c : Cx) (A : Around) (sc : Scope) (tr : TrT) : Prop := ∀ ⦃st : St⦄ ⦃e : Expr⦄ ⦃K : Bool → St → TP⦄, Ok (tr st e K) → ∃ x st', Ok (K x st') ∧ TrOK c A sc st e x st'
def ExG (c : Cx) (A : Around) (sc : Scope) (b : List Stmt) (ex : St → (Fl → St → TP) → TP) : Prop := ∀ ⦃st : St⦄ ⦃K : Fl → St → TP⦄, Ok (ex st K) → ∃ fl st', Ok (K fl st') ∧ ExOK c A sc st b fl st'

section
variable {c : Cx} {A : Around} {sc : Scope} {ev : EvT} {tr : TrT}

theorem wEvs_ok (H : EvG c A sc ev) (es : List Expr) : ∀ {st : St} {K : List PV → St → TP}, Ok (wEvs ev es st K) → ∃ vs st', Ok (K vs st') ∧ EvsOK c A sc st es vs st' := by
  induction es with
  | nil => intro st K h; exact ⟨[], st, h, .nil⟩
  | cons e r ih =>
    intro st K h
    obtain ⟨h0, h⟩ := must_ok h
    obtain ⟨x, st1, h, h1⟩ := H h
    obtain ⟨vs, st2, h, h2⟩ := ih h
    exact ⟨x :: vs, st2, h, .cons h0 h1.ev h2⟩
theorem wRight_ok (H : EvG c A sc ev) {st : St} {op : CmpOp} {e : Expr} {K : PV → St → TP} (h : Ok (wRight ev sc st op e K)) : ∃ x st', Ok (K x st') ∧ RightOK c A sc st e x st' := by
  unfold wRight at h
  have plain : Ok (ev st e K) → ∃ x st', Ok (K x st') ∧ RightOK c A sc st e x st' := fun h => let ⟨x, st', h, h1⟩ := H h; ⟨x, st', h, h1.ev.right⟩
  cases hp : peekOf op e with
  | none => rw [hp] at h; exact plain h
  | some y =>
    rw [hp] at h
    cases ho : st.isOwn y with
    | false => dsimp only at h; rw [ho] at h; exact plain h
    | true =>
      dsimp only at h
      rw [ho] at h
      obtain ⟨h0, h⟩ := must_ok h
      obtain ⟨v, hv, h7⟩ := need_ok h
      have hn : nameOf e = some y := by cases op <;> first | exact hp | exact none_some hp
      obtain ⟨p, rfl⟩ := nameOf_inv hn
      exact ⟨v, st, h7, peek_right h0 ho hv⟩
theorem wCmp1_ok {n : Nat} (hA : AOK A n) (H : EvG c A sc ev) {st : St} {l e : Expr} {o : CmpOp} {K : Bool → St → TP} (h : Ok (wCmp1 ev sc st l o e K)) : ∃ b st', Ok (K b st') ∧ ∀ pos, EvOK c A sc st (.Compare l [o] [e] pos) (.bool b) st' ∧ TrOK c A sc st (.Compare l [o] [e] pos) b st' := by
  obtain ⟨h0, h⟩ := must_ok h
  obtain ⟨x, st1, h, h1⟩ := H h
  obtain ⟨y, st2, h, h2⟩ := wRight_ok H h
  obtain ⟨b, h3, h⟩ := askB_ok h
  exact ⟨b, st2, h, fun pos => ⟨ev_cmp1 hA h0 h1.ev h2 h3, tr_cmp1 hA h0 h1.ev h2 h3⟩⟩
theorem wCmp2_ok {n : Nat} (hA : AOK A n) (H : EvG c A sc ev) {st : St} {l e1 e2 : Expr} {o1 o2 : CmpOp} {K : Bool → St → TP} (h : Ok (wCmp2 ev st l o1 o2 e1 e2 K)) : ∃ b st', Ok (K b st') ∧ ∀ pos, EvOK c A sc st (.Compare l [o1, o2] [e1, e2] pos) (.bool b) st' := by
  obtain ⟨h0, h⟩ := must_ok h
  obtain ⟨h0', h⟩ := must_ok h
  obtain ⟨x, st1, h, h1⟩ := H h
  obtain ⟨y, st2, h, h2⟩ := H h
  obtain ⟨b, h3, h⟩ := askB_ok h
  cases b with
  | false => exact ⟨false, st2, h, fun pos => ev_cmp2 (z := y) (b1 := false) hA h0 h0' h1.ev h2.ev h3 ⟨rfl, rfl⟩⟩
  | true =>
    obtain ⟨z, st3, h, h4⟩ := H h
    obtain ⟨b, h5, h⟩ := askB_ok h
    exact ⟨b, st3, h, fun pos => ev_cmp2 (b1 := true) hA h0 h0' h1.ev h2.ev h3 ⟨h4.ev, h5⟩⟩
theorem sameB_true {a b : Bool} (h : sameB a b = true) : a = b := by
  cases a <;> cases b <;> first | rfl | cases h
theorem sameB_false {a b : Bool} (h : sameB a b = false) : a = !b := by
  cases a <;> cases b <;> first | rfl | cases h
theorem wBool_ok (H : EvG c A sc ev) {op : BoolOp} {pos : Pos} (es : List Expr) : ∀ {st : St} {K : PV → St → TP}, Ok (wBool ev op es st K) → ∃ x st', Ok (K x st') ∧ EvOK c A sc st (.BoolOp op es pos) x st' := by
  induction es with
  | nil => intro st K h; exact bad_ok h
  | cons e r ih =>
    intro st K h
    cases r with
    | nil => obtain ⟨x, st1, h, h1⟩ := H h; exact ⟨x, st1, h, ev_bool1 h1.ev⟩
    | cons e2 r =>
      obtain ⟨x, st1, h, h1⟩ := H (K := fun v st1 => need (truthy v) fun b => (match sameB b (isOr op) with | true => K v st1 | false => wBool ev op (e2 :: r) st1 K)) h
      obtain ⟨b, hb, h⟩ := need_ok h
      cases hs : sameB b (isOr op) with
      | true => rw [hs] at h; exact ⟨x, st1, h, ev_bool_stop h1.ev (sameB_true hs ▸ hb)⟩
      | false =>
        rw [hs] at h
        obtain ⟨y, st2, h, h2⟩ := ih h
        exact ⟨y, st2, h, ev_bool_go h1.ev (sameB_false hs ▸ hb) h2⟩
theorem wAll_ok (H : TrG c A sc tr) {op : BoolOp} (es : List Expr) : ∀ {st : St} {K : Bool → St → TP}, Ok (wAll tr op es st K) → ∃ b st', Ok (K b st') ∧ AllOK c A sc op st es b st' := by
  induction es with
  | nil => intro st K h; exact ⟨_, st, h, .nil⟩
  | cons e r ih =>
    intro st K h
    obtain ⟨b, st1, h, h1⟩ := H (K := fun b st1 => (match sameB b (isOr op) with | true => K (isOr op) st1 | false => wAll tr op r st1 K)) h
    cases hs : sameB b (isOr op) with
    | true => rw [hs] at h; exact ⟨_, st1, h, .stop (sameB_true hs ▸ h1)⟩
    | false =>
      rw [hs] at h
      obtain ⟨b2, st2, h, h2⟩ := ih h
      exact ⟨b2, st2, h, .go (sameB_false hs ▸ h1) h2⟩

theorem srcKind_inv {e : Expr} {b : Bool} {args : List Expr} (h : srcKind sc e = some (b, args)) : ∃ p q, e = .Call (.Name (bif b then "range" else "zip") p) args [] q ∧ kindIs sc (bif b then "range" else "zip") .globalImplicit = true := by
  cases e with
  | Call f as kws q =>
    cases kws with
    | cons _ _ => exact none_some h
    | nil =>
      obtain ⟨x, hx, h⟩ := bind_some h
      obtain ⟨p, e0⟩ := nameOf_inv hx
      rw [e0]
      cases hk : kindIs sc x .globalImplicit with
      | false => rw [hk] at h; exact none_some h
      | true =>
        rw [hk] at h
        dsimp only at h
        cases h1 : seq x "range" with
        | true => rw [h1] at h; cases h; obtain rfl := seq_iff.mp h1; exact ⟨p, q, rfl, hk⟩
        | false =>
          rw [h1] at h
          dsimp only at h
          cases h2 : seq x "zip" with
          | true => rw [h2] at h; cases h; obtain rfl := seq_iff.mp h2; exact ⟨p, q, rfl, hk⟩
          | false => rw [h2] at h; exact none_some h
  | _ => exact none_some h
theorem asInt_inv {x : PV} {i : Int} (h : asInt x = some i) : x = .int i := by
  cases x with
  | int t => cases h; rfl
  | _ => exact none_some h
theorem asDict_inv {x : PV} {i : List (Str × PV)} (h : asDict x = some i) : x = .dict i := by
  cases x with
  | dict t => cases h; rfl
  | _ => exact none_some h
theorem asInst_inv {x : PV} {i : Str × List (Str × PV)} (h : asInst x = some i) : x = .inst i.1 i.2 := by
  cases x with
  | inst C t => cases h; rfl
  | _ => exact none_some h
theorem not_empty {α : Type} {l : List α} (h : (!l.isEmpty) = true) : l.isEmpty = false := by
  cases l with
  | nil => cases h
  | cons _ _ => rfl
theorem wSource_ok (G : Good c) {n : Nat} (hA : AOK A n) (H : EvG c A sc ev) {st : St} {tgt e : Expr} {K : List PV → St → TP} (h : Ok (wSource ev sc st tgt e K)) : ∃ xs st', Ok (K xs st') ∧ SrcOK c A sc st tgt e xs st' := by
  unfold wSource at h
  cases hk : srcKind sc e with
  | none =>
    rw [hk] at h
    obtain ⟨h0, h⟩ := must_ok h
    obtain ⟨v, st1, h, h1⟩ := H h
    obtain ⟨h2, h⟩ := must_ok h
    obtain ⟨xs, h3, h⟩ := need_ok h
    exact ⟨xs, st1, h, src_plain hA.hd h0 h1.ev h2 h3⟩
  | some p =>
    rw [hk] at h
    obtain ⟨b, args⟩ := p
    obtain ⟨p, q, rfl, hk2⟩ := srcKind_inv hk
    obtain ⟨h0, h⟩ := must_ok h
    cases b with
    | true =>
      obtain ⟨h1, h⟩ := must_ok h
      obtain ⟨vs, st1, h, h2⟩ := wEvs_ok H _ h
      obtain ⟨n, h3, h⟩ := need_ok h
      obtain ⟨v, h3, h4⟩ := bind_some h3
      rw [one_inv h3, asInt_inv h4] at h2
      obtain ⟨h5, h⟩ := sure_ok h
      exact ⟨_, st1, h, src_range G.T G.TB hA.hd hk2 h1 (not_empty h0) h2 (of_decide_eq_true h5)⟩
    | false =>
      obtain ⟨h1, h⟩ := must_ok h
      obtain ⟨vs, st1, h, h2⟩ := wEvs_ok H _ h
      obtain ⟨q, h3, h⟩ := need_ok h
      obtain ⟨xs, h4, h⟩ := need_ok h
      obtain ⟨ys, h5, h⟩ := need_ok h
      rw [two_inv h3, asList_inv h4, asList_inv h5] at h2
      exact ⟨_, st1, h, src_zip G.T G.TB hA.hd hk2 h1 (not_empty h0) h2⟩
theorem wTests_ok (H : TrG c A sc tr) {ifs : List Expr} {st : St} {K : Bool → St → TP} (h : Ok (wTests tr ifs st K)) : ∃ b st', Ok (K b st') ∧ TestsOK c A sc st ifs b st' := by
  cases ifs with
  | nil => exact ⟨true, st, h, .nil⟩
  | cons e r =>
    cases r with
    | nil => obtain ⟨b, st1, h, h1⟩ := H h; exact ⟨b, st1, h, .one h1⟩
    | cons _ _ => exact bad_ok h
section
variable {α : Type} {tgt : Expr} {ifs : List Expr} {turn : St → α → (α → St → TP) → TP} {B : St → α → α → St → Prop}
def TurnG (turn : St → α → (α → St → TP) → TP) (B : St → α → α → St → Prop) : Prop := ∀ ⦃st : St⦄ ⦃acc : α⦄ ⦃K : α → St → TP⦄, Ok (turn st acc K) → ∃ acc' st', Ok (K acc' st') ∧ B st acc acc' st'
theorem wTurn_ok (H : TrG c A sc tr) (HT : TurnG turn B) {bs : List (Str × PV)} {st : St} {acc : α} {K : α → St → TP} (h : Ok (wTurn sc ifs tr turn bs st acc K)) :
    localsOnly sc bs = true ∧ ∃ b st1 acc1 st2, Ok (K acc1 st2) ∧ TestsOK c A sc (st.putAll bs) ifs b st1 ∧ bif b then B st1 acc acc1 st2 else (acc1 = acc ∧ st2 = st1) := by
  obtain ⟨h0, h⟩ := must_ok h
  obtain ⟨b, st1, h, h1⟩ := wTests_ok H h
  cases b with
  | true => obtain ⟨acc1, st2, h, h2⟩ := HT h; exact ⟨h0, true, st1, acc1, st2, h, h1, h2⟩
  | false => exact ⟨h0, false, st1, acc, st1, h, h1, rfl, rfl⟩
theorem compRun_ok (H : TrG c A sc tr) (HT : TurnG turn B) (xs : List PV) : ∀ {acc : α} {st : St} {K : α → Bowl → TP}, Ok (compRun sc tgt ifs tr turn xs acc st K) → ∃ accF stF, Ok (K accF stF.bowl) ∧ CompS c A sc tgt ifs B accF stF xs acc st := by
  induction xs with
  | nil => intro acc st K h; exact ⟨acc, st, h, rfl, rfl⟩
  | cons v r ih =>
    intro acc st K h
    obtain ⟨bs, hb, h⟩ := need_ok h
    obtain ⟨h0, b, st1, acc1, st2, h, h1, h2⟩ := wTurn_ok H HT h
    obtain ⟨accF, stF, h, h3⟩ := ih h
    exact ⟨accF, stF, h, bs, b, st1, hb, h0, h1, acc1, st2, h2, h3⟩
theorem compC_ok (H : TrG c A sc tr) (HT : TurnG turn B) {I : List PV → α → St → Prop} {accF : α} {b : Bowl} (h0 : ∀ a s, I [] a s → a = accF ∧ s.bowl = b) (hs : ∀ v r a s, I (v :: r) a s → ∃ bs, bindT sc tgt v = some bs ∧ Ok (wTurn sc ifs tr turn bs s a fun a1 s1 => fin (I r a1 s1))) (xs : List PV) :
    ∀ {acc : α} {st : St}, I xs acc st → ∃ stF, stF.bowl = b ∧ CompS c A sc tgt ifs B accF stF xs acc st := by
  induction xs with
  | nil => intro acc st h; obtain ⟨h1, h2⟩ := h0 _ _ h; exact ⟨st, h2, h1, rfl⟩
  | cons v r ih =>
    intro acc st h
    obtain ⟨bs, hb, h⟩ := hs _ _ _ _ h
    obtain ⟨h0, b, st1, acc1, st2, h, h1, h2⟩ := wTurn_ok H HT h
    obtain ⟨stF, h, h3⟩ := ih (fin_ok h)
    exact ⟨stF, h, bs, b, st1, hb, h0, h1, acc1, st2, h2, h3⟩
theorem compT_ok (H : TrG c A sc tr) (HT : TurnG turn B) {sel : Ans → Option ((List PV → α → St → Prop) × α × Bowl)} {xs : List PV} {acc : α} {st : St} {K : α → Bowl → TP} (h : Ok (compT sc tgt ifs tr turn sel xs acc st K)) : ∃ accF stF, Ok (K accF stF.bowl) ∧ CompS c A sc tgt ifs B accF stF xs acc st := by
  obtain ⟨t, h⟩ := h
  cases t with
  | nil => exact compRun_ok H HT xs ⟨[], h⟩
  | cons a t =>
    have h' : AllC (match sel a with | some p => CompC sc tgt ifs tr turn p.1 p.2.1 p.2.2 xs acc st :: K p.2.1 p.2.2 t | none => compRun sc tgt ifs tr turn xs acc st K t) := h
    cases hs : sel a with
    | none => rw [hs] at h'; exact compRun_ok H HT xs ⟨t, h'⟩
    | some p =>
      rw [hs] at h'
      obtain ⟨⟨h1, h2, h3⟩, h⟩ := h'
      obtain ⟨stF, h5, h4⟩ := compC_ok H HT h2 h3 xs h1
      exact ⟨_, stF, h5 ▸ ⟨t, h⟩, h4⟩
end
theorem lc_turn (H : EvG c A sc ev) {elt : Expr} : TurnG (lcTurn ev elt) (ListB c A sc elt) := fun st acc K h => let ⟨v, st1, h, h1⟩ := H (K := fun v st1 => K (acc ++ [v]) st1) h; ⟨_, st1, h, v, h1.ev, rfl⟩
theorem dc_turn (H : EvG c A sc ev) {kx vx : Expr} : TurnG (dcTurn ev kx vx) (DictB c A sc kx vx) := fun st acc K h => by
  obtain ⟨k, st1, h, h1⟩ := H h
  obtain ⟨q, h2, h⟩ := need_ok h
  rw [asStr_inv h2] at h1
  obtain ⟨v, st2, h, h3⟩ := H h
  exact ⟨_, st2, h, q, st1, v, h1.ev, h3.ev, rfl⟩

/-! loops -/
theorem forRun_ok {tgt : Expr} {b : List Stmt} {body : St → (Fl → St → TP) → TP} (HB : ExG c A sc b body) (xs : List PV) : ∀ {st : St} {K : Fl → St → TP}, Ok (forRun sc tgt body xs st K) → ∃ fl stF, Ok (K fl stF) ∧ ForS c A sc tgt b fl stF xs st := by
  induction xs with
  | nil => intro st K h; exact ⟨.next, st, h, rfl, rfl⟩
  | cons v r ih =>
    intro st K h
    obtain ⟨bs, hb, h⟩ := need_ok h
    obtain ⟨fl, st1, h, h1⟩ := HB h
    cases fl with
    | next => obtain ⟨fl, stF, h, h2⟩ := ih h; exact ⟨fl, stF, h, bs, .next, st1, hb, h1, h2⟩
    | ret x => exact ⟨.ret x, st1, h, bs, .ret x, st1, hb, h1, rfl, rfl⟩
theorem loopC_ok {tgt : Expr} {b : List Stmt} {body : St → (Fl → St → TP) → TP} (HB : ExG c A sc b body) {I : List PV → St → Prop} {st' : St} (h0 : ∀ s, I [] s → s = st') (hs : ∀ v r s, I (v :: r) s → ∃ bs, bindT sc tgt v = some bs ∧ Ok (body (s.putAll bs) (flNext (fun s1 => fin (I r s1)) fun _ _ => bad))) (xs : List PV) :
    ∀ {st : St}, I xs st → ForS c A sc tgt b .next st' xs st := by
  induction xs with
  | nil => intro st h; exact ⟨rfl, (h0 _ h).symm⟩
  | cons v r ih =>
    intro st h
    obtain ⟨bs, hb, h⟩ := hs _ _ _ h
    obtain ⟨fl, st1, h, h1⟩ := HB h
    cases fl with
    | next => exact ⟨bs, .next, st1, hb, h1, ih (fin_ok h)⟩
    | ret x => exact bad_ok h
theorem forT_ok {tgt : Expr} {b : List Stmt} {body : St → (Fl → St → TP) → TP} (HB : ExG c A sc b body) {xs : List PV} {st : St} {K : Fl → St → TP} (h : Ok (forT sc tgt body xs st K)) : ∃ fl stF, Ok (K fl stF) ∧ ForS c A sc tgt b fl stF xs st := by
  obtain ⟨t, h⟩ := h
  cases t with
  | nil => exact forRun_ok HB xs ⟨[], h⟩
  | cons a t =>
    cases a with
    | loop I st' =>
      obtain ⟨⟨h1, h2, h3⟩, h⟩ := h
      exact ⟨.next, st', ⟨t, h⟩, loopC_ok HB h2 h3 xs h1⟩
    | _ => exact forRun_ok HB xs ⟨t, h⟩
theorem wWhile_ok {e : Expr} {b : List Stmt} {t : St → (Bool → St → TP) → TP} {body : St → (Fl → St → TP) → TP} (HT : ∀ ⦃st : St⦄ ⦃K : Bool → St → TP⦄, Ok (t st K) → ∃ q st', Ok (K q st') ∧ TrOK c A sc st e q st') (HB : ExG c A sc b body) (n : Nat) : ∀ {st : St} {K : Fl → St → TP}, Ok (wWhile t body n st K) → ∃ fl stF, Ok (K fl stF) ∧ WhileS c A sc e b fl stF n st := by
  induction n with
  | zero => intro st K h; exact bad_ok h
  | succ n ih =>
    intro st K h
    obtain ⟨q, st1, h, h1⟩ := HT h
    cases q with
    | false => exact ⟨.next, st1, h, false, st1, h1, rfl, rfl⟩
    | true =>
      obtain ⟨fl, st2, h, h2⟩ := HB h
      cases fl with
      | next => obtain ⟨fl, stF, h, h3⟩ := ih h; exact ⟨fl, stF, h, true, st1, h1, .next, st2, h2, h3⟩
      | ret x => exact ⟨.ret x, st2, h, true, st1, h1, .ret x, st2, h2, rfl, rfl⟩
end
end Mine

set_option maxRecDepth 100000
set_option linter.unusedVariables false
namespace Mine
open PySem

structure WOK (c : Cx) (A : Around) (W : Wi) : Prop where
  ev : ∀ sc, EvG c A sc (W.ev sc)
  tr : ∀ sc, TrG c A sc (W.tr sc)
  exs : ∀ sc b, ExG c A sc b fun st => W.exs sc st b

section
variable {c : Cx} {A : Around} {sc : Scope} {ev : EvT} {N n : Nat} {W : Wi}

theorem wName_ok (G : Good c) {st : St} {x : Str} {pos : Pos} {K : PV → St → TP} (h : Ok (wName sc st x K)) : ∃ v st', Ok (K v st') ∧ EvOK c A sc st (.Name x pos) v st' := by
  unfold wName at h
  cases hl : lk x st.vars with
  | some v => rw [hl] at h; obtain ⟨h0, h⟩ := must_ok h; exact ⟨v, _, h, ev_var hl h0⟩
  | none =>
    rw [hl] at h
    obtain ⟨h0, h⟩ := must_ok h
    obtain ⟨v, h1, h⟩ := need_ok h
    exact ⟨v, st, h, ev_glob G.T h0 h1⟩
theorem wPairs_ok (H : EvG c A sc ev) {ks : List (Option Expr)} : ∀ {vs : List Expr} {st : St} {K : List (Str × PV) → St → TP}, Ok (wPairs ev ks vs st K) → ∃ es st', Ok (K es st') ∧ DispOK c A sc st ks vs es st' := by
  induction ks with
  | nil =>
    intro vs st K h
    cases vs with
    | nil => exact ⟨_, st, h, .nil⟩
    | cons _ _ => exact bad_ok h
  | cons k ks ih =>
    intro vs st K h
    cases k with
    | none => exact bad_ok h
    | some k =>
      cases vs with
      | nil => exact bad_ok h
      | cons v vs =>
        obtain ⟨s, st1, h, h1⟩ := H (K := fun s st1 => need (asStr s) fun q => ev st1 v fun x st2 => wPairs ev ks vs st2 fun r st3 => K ((q, x) :: r) st3) h
        obtain ⟨q, h2, h⟩ := need_ok h
        rw [asStr_inv h2] at h1
        obtain ⟨x, st2, h, h3⟩ := H h
        obtain ⟨es, st3, h, h4⟩ := ih h
        exact ⟨_, st3, h, .cons h1.ev h3.ev h4⟩
theorem wDict_ok (G : Good c) (H : EvG c A sc ev) {ks : List (Option Expr)} {vs : List Expr} {st : St} {pos : Pos} {K : PV → St → TP} (h : Ok (wDict ev ks vs st K)) : ∃ v st', Ok (K v st') ∧ FreshOK c A sc st (.Dict ks vs pos) v st' := by
  obtain ⟨h0, h⟩ := must_ok (K := wPairs ev ks vs st fun es st1 => K (.dict (storeAll [] es)) st1) h
  obtain ⟨es, st1, h, h1⟩ := wPairs_ok H h
  exact ⟨_, st1, h, fresh_dictN G.T (Nat.le_of_ble_eq_true h0) h1⟩
theorem wSub_ok (H : EvG c A sc ev) {v i : Expr} {st : St} {pos : Pos} {K : PV → St → TP} (h : Ok (wSub ev st v i K)) : ∃ x st', Ok (K x st') ∧ EvOK c A sc st (.Subscript v i pos) x st' := by
  unfold wSub at h
  cases hs : notSlice i with
  | true =>
    rw [hs] at h
    obtain ⟨a, st1, h, h1⟩ := H h
    obtain ⟨k, st2, h, h2⟩ := H h
    obtain ⟨z, h3, h⟩ := ask_ok h
    exact ⟨z, st2, h, ev_sub hs h1.ev h2.ev h3⟩
  | false =>
    rw [hs] at h
    cases i with
    | Slice lo hi step sp =>
      cases step with
      | some _ => exact bad_ok h
      | none =>
        obtain ⟨h0, h⟩ := must_ok h
        obtain ⟨a, st1, h, h1⟩ := H h
        obtain ⟨s, h2, h⟩ := need_ok h
        rw [asStr_inv h2] at h1
        obtain ⟨p, h3, h⟩ := need_ok h
        obtain ⟨h4, h⟩ := sure_ok h
        exact ⟨_, st1, h, ev_slice h0 h1.ev h3 h4⟩
    | _ => exact bad_ok h
theorem tab_some {f : Str} (h : (tab f).isSome = true) : ∃ fi, tab f = some fi := Option.isSome_iff_exists.mp h
theorem fresh_args {f : Str} {np pos : Pos} {args : List Expr} (h : isFresh (.Call (.Name f np) args [] pos) = true) : ∃ e, args = [e] ∧ seq f "dict" = true := by
  cases args with
  | nil => cases h
  | cons e r =>
    cases r with
    | nil => exact ⟨e, rfl, h⟩
    | cons _ _ => cases h
theorem fresh_meth {o : Expr} {m : Str} {ap pos : Pos} {args : List Expr} : isFresh (.Call (.Attribute o m ap) args [] pos) = false := by
  cases args with
  | nil => rfl
  | cons e r => cases r <;> rfl
/-- an expression that is neither fresh nor a comprehension -/
theorem EvOK.all {st st' : St} {e : Expr} {x : PV} (h : EvOK c A sc st e x st') (hf : isFresh e = false) (hc : isComp e = false) : EvAll c A sc st e x st' := ⟨h, fun e => absurd (hf.symm.trans e) nofun, fun e => absurd (hc.symm.trans e) nofun⟩
theorem FreshOK.all {st st' : St} {e : Expr} {x : PV} (h : FreshOK c A sc st e x st') (hc : isComp e = false) : EvAll c A sc st e x st' := ⟨h.ev, fun _ => h, fun e => absurd (hc.symm.trans e) nofun⟩
theorem wMade_ok (G : Good c) (hA : AOK A (n + 1)) (hN : N ≤ n + 1) {f : Str} {np pos : Pos} {args : List Expr} {vs : List PV} {st st1 : St} {K : PV → St → TP} (hk : kindIs sc f .globalImplicit = true) (hne : args.isEmpty = false) (h1 : EvsOK c A sc st args vs st1) (h : Ok (wMade N f vs st1 K)) : ∃ x st', Ok (K x st') ∧ EvAll c A sc st (.Call (.Name f np) args [] pos) x st' := by
  unfold wMade at h
  cases hb : lk f blts with
  | some k =>
    rw [hb] at h
    obtain ⟨r, h2, h⟩ := ask_ok h
    refine ⟨r, st1, h, ev_blt G.T G.TB (pairs_ok G.T) hA.hd hk hne h1 hb h2, fun hf => ?_, nofun⟩
    obtain ⟨e1, he, hd⟩ := fresh_args hf
    obtain rfl := seq_iff.mp hd
    obtain rfl : k = .dict := (Option.some.inj (hb.symm.trans (show lk "dict" blts = some Blt.dict by kernel_rfl)))
    obtain ⟨v, h3, h4⟩ := bind_some h2
    rw [he, one_inv h3] at h1
    rw [he]
    exact fresh_call G.T G.TB (pairs_ok G.T) hA.hd hk h1 h4
  | none =>
    rw [hb] at h
    dsimp only at h
    have no : ∀ {P : Prop}, isFresh (.Call (.Name f np) args [] pos) = true → P := fun hf => by
      obtain ⟨e1, he, hd⟩ := fresh_args hf
      rw [seq_iff.mp hd, show lk "dict" blts = some Blt.dict by kernel_rfl] at hb
      cases hb
    cases hc : classFields f with
    | some fs =>
      rw [hc] at h
      obtain ⟨h2, h⟩ := must_ok h
      exact ⟨_, st1, h, ev_make G.T G.TB hA hk hne h1 hc (Nat.eq_of_beq_eq_true h2), fun hf => no hf, nofun⟩
    | none =>
      rw [hc] at h
      obtain ⟨h2, h⟩ := must_ok h
      obtain ⟨x, b', R, h⟩ := callT_ok h
      obtain ⟨fi, hf⟩ := tab_some R.1
      exact ⟨x, _, h, ev_fn G.T G.TB hk hne h1 hf h2 (R.2 c A G (hA.le hN)), fun hf => no hf, nofun⟩
theorem wCallName_ok (G : Good c) (hA : AOK A (n + 1)) (hN : N ≤ n + 1) (H : EvG c A sc ev) {f : Str} {np pos : Pos} {args : List Expr} {st : St} {K : PV → St → TP} (h : Ok (wCallName N ev sc st f args K)) : ∃ x st', Ok (K x st') ∧ EvAll c A sc st (.Call (.Name f np) args [] pos) x st' := by
  obtain ⟨h0, h⟩ := must_ok h
  cases hs : seq f "isinstance" with
  | true =>
    rw [hs] at h
    obtain rfl := seq_iff.mp hs
    obtain ⟨p, h1, h⟩ := need_ok h
    rw [two_inv h1]
    obtain ⟨h2, h⟩ := must_ok h
    obtain ⟨v, st1, h, h3⟩ := H h
    obtain ⟨D, h4, h⟩ := need_ok h
    obtain ⟨cs, h5, h⟩ := need_ok h
    obtain ⟨b, h6, h⟩ := askB_ok h
    cases h6
    have h3 := h3.ev
    rw [asInst_inv h4] at h3
    exact ⟨_, st1, h, (ev_isi G.T G.TB h0 h2 h3 h5).all rfl rfl⟩
  | false =>
    rw [hs] at h
    obtain ⟨h1, h⟩ := must_ok h
    obtain ⟨vs, st1, h, h2⟩ := wEvs_ok H _ h
    exact wMade_ok G hA hN h0 (not_empty h1) h2 h
theorem wPop_ok (H : EvG c A sc ev) {x : Str} {p ap pos : Pos} {args : List Expr} {st : St} {K : PV → St → TP} (hx : st.isOwn x = true) (hl : Nat.beq ap.endLine pos.line = true) (h : Ok (wPop ev sc st x args K)) : ∃ z st', Ok (K z st') ∧ EvOK c A sc st (.Call (.Attribute (.Name x p) "pop" ap) args [] pos) z st' := by
  obtain ⟨h0, h⟩ := must_ok h
  obtain ⟨es0, h1, h⟩ := need_ok h
  obtain ⟨k, h2, h⟩ := need_ok h
  obtain ⟨h3, h⟩ := must_ok h
  obtain ⟨s, st1, h, h4⟩ := H h
  obtain ⟨q, h5, h⟩ := need_ok h
  obtain ⟨h6, h⟩ := must_ok h
  obtain ⟨es, h7, h⟩ := need_ok h
  obtain ⟨h8, h⟩ := sure_ok h
  obtain ⟨z, h9, h⟩ := ask_ok h
  obtain ⟨y, h1, e1⟩ := bind_some h1
  obtain ⟨w, h7, e7⟩ := bind_some h7
  rw [asDict_inv e1] at h1
  rw [asDict_inv e7] at h7
  rw [asStr_inv h5] at h4
  rw [one_inv h2]
  exact ⟨z, _, h, ev_pop hl hx h0 h1 h3 h4.ev h6 h7 h8 h9⟩
theorem wMeth_ok (G : Good c) (hA : AOK A N) (H : EvG c A sc ev) {o : Expr} {m : Str} {v : PV} {ap pos : Pos} {args : List Expr} {st st1 : St} {K : PV → St → TP} (hnc : notCall o = true) (hl : Nat.beq ap.endLine pos.line = true) (hf : Nat.blt args.length 5 = true) (h1 : EvOK c A sc st o v st1) (h : Ok (wMeth N ev v st1 m args K)) : ∃ z st', Ok (K z st') ∧ EvOK c A sc st (.Call (.Attribute o m ap) args [] pos) z st' := by
  cases v with
  | inst C fs =>
    cases args with
    | cons _ _ => exact bad_ok h
    | nil =>
      obtain ⟨x, b', R, h⟩ := callT_ok h
      obtain ⟨fi, hf⟩ := tab_some R.1
      exact ⟨x, _, h, ev_meth G.T G.TB hnc hl h1 hf (R.2 c A G hA)⟩
  | dict es =>
    obtain ⟨h2, h⟩ := must_ok h
    obtain rfl := seq_iff.mp h2
    obtain ⟨vs, st2, h, h3⟩ := wEvs_ok H _ h
    obtain ⟨z, h4, h⟩ := ask_ok h
    exact ⟨z, st2, h, ev_get G.T hnc hl hf h1 h3 h4⟩
  | str sep =>
    obtain ⟨h2, h⟩ := must_ok h
    obtain rfl := seq_iff.mp h2
    obtain ⟨e, h3, h⟩ := need_ok h
    rw [one_inv h3]
    obtain ⟨h4, h⟩ := must_ok h
    obtain ⟨x, st2, h, h5⟩ := H h
    obtain ⟨z, h6, h⟩ := ask_ok h
    exact ⟨z, st2, h, ev_join G.T hnc hl h1 (.cons h4 h5.ev .nil) h6⟩
  | _ => exact bad_ok h
theorem wCallMeth_ok (G : Good c) (hA : AOK A N) (H : EvG c A sc ev) {o : Expr} {m : Str} {ap pos : Pos} {args : List Expr} {st : St} {K : PV → St → TP} (hl : Nat.beq ap.endLine pos.line = true) (hf : Nat.blt args.length 5 = true) (h : Ok (wCallMeth N ev sc st o m args K)) : ∃ z st', Ok (K z st') ∧ EvOK c A sc st (.Call (.Attribute o m ap) args [] pos) z st' := by
  unfold wCallMeth at h
  cases hp : popOf st o m with
  | none =>
    rw [hp] at h
    obtain ⟨h0, h⟩ := must_ok h
    obtain ⟨v, st1, h, h1⟩ := H h
    exact wMeth_ok G hA H h0 hl hf h1.ev h
  | some x =>
    rw [hp] at h
    obtain ⟨y, h1, h2⟩ := bind_some hp
    cases ho : st.isOwn y with
    | false => rw [ho] at h2; exact none_some h2
    | true =>
      rw [ho] at h2
      obtain ⟨h3, rfl⟩ := guard_some h2
      obtain ⟨p, rfl⟩ := nameOf_inv h1
      obtain rfl := seq_iff.mp h3
      exact wPop_ok H ho hl h
theorem wCall_ok (G : Good c) (hA : AOK A (n + 1)) (hN : N ≤ n + 1) (H : EvG c A sc ev) {f : Expr} {args : List Expr} {kws : List Keyword} {pos : Pos} {st : St} {K : PV → St → TP} (h : Ok (wCall N ev sc st f args kws pos K)) : ∃ z st', Ok (K z st') ∧ EvAll c A sc st (.Call f args kws pos) z st' := by
  cases kws with
  | cons _ _ => exact bad_ok h
  | nil =>
    cases f with
    | Name f p => exact wCallName_ok G hA hN H h
    | Attribute o m ap =>
      obtain ⟨h0, h⟩ := must_ok h
      obtain ⟨h1, h⟩ := must_ok h
      obtain ⟨z, st', h, h2⟩ := wCallMeth_ok G (hA.le hN) H h0 h1 h
      exact ⟨z, st', h, h2.all fresh_meth rfl⟩
    | _ => exact bad_ok h
theorem wCompr_ok (G : Good c) (hA : AOK A n) (H : WOK c A W) {α : Type} {sel : Ans → Option ((List PV → α → St → Prop) × α × Bowl)} {turn : EvT → St → α → (α → St → TP) → TP} {B : Scope → St → α → α → St → Prop} (HT : ∀ {sc : Scope} {ev : EvT}, EvG c A sc ev → TurnG (turn ev) (B sc)) {acc0 : α} {mk : α → PV} {st : St} {gens : List Comprehension} {scope : Scope} {K : PV → St → TP} (h : Ok (wCompr W sc sel turn acc0 mk st gens scope K)) :
    ∃ tgt iter ifs st1 b' xs st3 accF, gens = [⟨tgt, iter, ifs, 0⟩] ∧ Ok (K (mk accF) { sealFor scope st1 with bowl := b' }) ∧ CompOut c A sc st iter tgt ifs scope (B (relab scope sc)) acc0 accF st1 b' xs st3 := by
  obtain ⟨g, h0, h⟩ := need_ok h
  obtain ⟨tgt, iter, ifs, as⟩ := g
  obtain ⟨h1, h⟩ := must_ok h
  obtain ⟨xs, st1, h, h2⟩ := wSource_ok G hA (H.ev sc) h
  obtain ⟨h3, h⟩ := must_ok h
  obtain ⟨h4, h⟩ := sure_ok h
  obtain ⟨accF, stF, h, h5⟩ := compT_ok (H.tr _) (HT (H.ev _)) h
  have e : as = 0 := of_decide_eq_true h1
  exact ⟨tgt, iter, ifs, st1, _, xs, stF, accF, e ▸ one_inv h0, h, h2, h3, h4, h5, rfl⟩

theorem wEval_ok (G : Good c) (hA : AOK A (n + 1)) (hN : N ≤ n + 1) (H : WOK c A W) : EvG c A sc (wEval N W sc) := by
  intro st e K h
  cases e with
  | Constant k q pos => obtain ⟨x, h0, h⟩ := need_ok h; exact ⟨x, st, h, (ev_const h0).all rfl rfl⟩
  | Name x pos => obtain ⟨v, st1, h, h1⟩ := wName_ok G h; exact ⟨v, st1, h, h1.all rfl rfl⟩
  | Attribute o a pos =>
    obtain ⟨h0, h⟩ := must_ok h
    obtain ⟨v, st1, h, h1⟩ := H.ev sc h
    obtain ⟨p, h2, h⟩ := need_ok h
    obtain ⟨z, h3, h⟩ := need_ok h
    have h1 := h1.ev
    rw [asInst_inv h2] at h1
    exact ⟨z, st1, h, (ev_attr G.T h0 h1 h3).all rfl rfl⟩
  | BinOp l op r pos =>
    obtain ⟨a, st1, h, h1⟩ := H.ev sc h
    obtain ⟨b, st2, h, h2⟩ := H.ev sc h
    obtain ⟨z, h3, h⟩ := ask_ok h
    exact ⟨z, st2, h, (ev_bin h1.ev h2.ev h3).all rfl rfl⟩
  | UnaryOp op e pos =>
    cases op with
    | Not => obtain ⟨v, st1, h, h1⟩ := H.ev sc h; obtain ⟨b, h2, h⟩ := need_ok h; exact ⟨_, st1, h, (ev_not h1.ev h2).all rfl rfl⟩
    | USub =>
      obtain ⟨v, st1, h, h1⟩ := H.ev sc h
      obtain ⟨i, h2, h⟩ := need_ok h
      have h1 := h1.ev
      rw [asInt_inv h2] at h1
      exact ⟨_, st1, h, (ev_neg h1).all rfl rfl⟩
    | _ => exact bad_ok h
  | BoolOp op es pos => obtain ⟨v, st1, h, h1⟩ := wBool_ok (H.ev sc) es h; exact ⟨v, st1, h, h1.all rfl rfl⟩
  | IfExp t b o pos =>
    obtain ⟨q, st1, h, h1⟩ := H.tr sc h
    obtain ⟨x, st2, h, h2⟩ := H.ev sc h
    exact ⟨x, st2, h, (ev_if h1 h2.ev).all rfl rfl⟩
  | Compare l ops es pos =>
    have h' : Ok (match one ops with | some o => need (one es) fun e => wCmp1 (W.ev sc) sc st l o e fun b st1 => K (.bool b) st1 | none => need (two ops) fun o => need (two es) fun e => wCmp2 (W.ev sc) st l o.1 o.2 e.1 e.2 fun b st1 => K (.bool b) st1) := h
    cases ho : one ops with
    | some o =>
      rw [ho] at h'
      obtain ⟨e, h0, h⟩ := need_ok h'
      obtain ⟨b, st1, h, h1⟩ := wCmp1_ok hA (H.ev sc) h
      rw [one_inv ho, one_inv h0]
      exact ⟨_, st1, h, (h1 pos).1.all rfl rfl⟩
    | none =>
      rw [ho] at h'
      obtain ⟨o, h0, h⟩ := need_ok h'
      obtain ⟨e, h1, h⟩ := need_ok h
      obtain ⟨b, st1, h, h2⟩ := wCmp2_ok hA (H.ev sc) h
      rw [two_inv h0, two_inv h1]
      exact ⟨_, st1, h, (h2 pos).all rfl rfl⟩
  | List es pos => obtain ⟨h0, h⟩ := must_ok h; obtain ⟨vs, st1, h, h1⟩ := wEvs_ok (H.ev sc) _ h; exact ⟨_, st1, h, (fresh_list h0 h1).all rfl⟩
  | Tuple es k pos => obtain ⟨h0, h⟩ := must_ok h; obtain ⟨vs, st1, h, h1⟩ := wEvs_ok (H.ev sc) _ h; exact ⟨_, st1, h, (ev_tuple h0 h1).all rfl rfl⟩
  | Dict ks vs pos => obtain ⟨v, st1, h, h1⟩ := wDict_ok G (H.ev sc) h; exact ⟨v, st1, h, h1.all rfl⟩
  | Subscript v i pos => obtain ⟨v, st1, h, h1⟩ := wSub_ok (H.ev sc) h; exact ⟨v, st1, h, h1.all rfl rfl⟩
  | Call f args kws pos => exact wCall_ok G hA hN (H.ev sc) h
  | ListComp elt gens scope pos =>
    obtain ⟨tgt, iter, ifs, st1, b', xs, st3, accF, rfl, h, h1⟩ := wCompr_ok G hA H (B := fun sc => ListB c A sc elt) (fun H => lc_turn H) h
    exact ⟨_, _, h, ev_lc G.T hA.hd h1, nofun, fun _ => use_lc G.T hA.hd h1⟩
  | DictComp kx vx gens scope pos =>
    obtain ⟨tgt, iter, ifs, st1, b', xs, st3, accF, rfl, h, h1⟩ := wCompr_ok G hA H (B := fun sc => DictB c A sc kx vx) (fun H => dc_turn H) h
    exact ⟨_, _, h, ev_dc G.T hA.hd h1, nofun, fun _ => use_dc G.T hA.hd h1⟩
  | _ => exact bad_ok h
end
end Mine

set_option maxRecDepth 100000
set_option linter.unusedVariables false
namespace Mine
open PySem

section
variable {c : Cx} {A : Around} {sc : Scope} {ev : EvT} {N n : Nat} {W : Wi}

theorem wTest_ok (hA : AOK A n) (H : WOK c A W) : TrG c A sc (wTest W sc) := by
  intro st e K h
  have plain : Ok (wPlainT (W.ev sc) st e K) → ∃ b st', Ok (K b st') ∧ TrOK c A sc st e b st' := fun h => by
    obtain ⟨h0, h⟩ := must_ok h
    obtain ⟨v, st1, h, h1⟩ := H.ev sc h
    obtain ⟨b, h2, h⟩ := need_ok h
    exact ⟨b, st1, h, tr_plain h0 h1.ev h2⟩
  cases e with
  | UnaryOp op e pos =>
    cases op with
    | Not => obtain ⟨b, st1, h, h1⟩ := H.tr sc (K := fun b st1 => K (!b) st1) h; exact ⟨_, st1, h, tr_not h1⟩
    | _ => exact bad_ok h
  | BoolOp op es pos => obtain ⟨b, st1, h, h1⟩ := wAll_ok (H.tr sc) es h; exact ⟨b, st1, h, tr_bool h1⟩
  | IfExp t b o pos =>
    obtain ⟨q, st1, h, h1⟩ := H.tr sc (K := fun q st1 => W.tr sc st1 (bif q then b else o) K) h
    obtain ⟨p, st2, h, h2⟩ := H.tr sc h
    exact ⟨p, st2, h, tr_if h1 h2⟩
  | Compare l ops es pos =>
    obtain ⟨o, h0, h⟩ := need_ok (K := fun o => need (one es) fun e => wCmp1 (W.ev sc) sc st l o e K) h
    obtain ⟨e, h1, h⟩ := need_ok h
    obtain ⟨b, st1, h, h2⟩ := wCmp1_ok hA (H.ev sc) h
    rw [one_inv h0, one_inv h1]
    exact ⟨b, st1, h, (h2 pos).2⟩
  | _ => exact plain h

theorem isBowl_inv {o : Option PV} (h : isBowl o = true) : o = some .bowl := by
  cases o with
  | none => cases h
  | some v => cases v <;> first | rfl | cases h
theorem dict_inv {o : Option PV} {es : List (Str × PV)} (h : o.bind asDict = some es) : o = some (.dict es) := by
  obtain ⟨y, h1, e⟩ := bind_some h
  rw [h1, asDict_inv e]
theorem list_inv {o : Option PV} {es : List PV} (h : o.bind asList = some es) : o = some (.list es) := by
  obtain ⟨y, h1, e⟩ := bind_some h
  rw [h1, asList_inv e]
theorem wAsg_ok (G : Good c) (hA : AOK A n) (H : EvG c A sc ev) {t e : Expr} {pos : Pos} {st : St} {K : Fl → St → TP} (h : Ok (wAsg ev sc st t e K)) : ∃ fl st', Ok (K fl st') ∧ StOK c A sc st (.Assign [t] e pos) fl st' := by
  cases t with
  | Name x p =>
    obtain ⟨v, st1, h, h1⟩ := H (K := fun v st1 => must (ownName sc x) (K .next (match isFresh e with | true => st1.putOwn x v | false => st1.put1 x v))) h
    obtain ⟨h0, h⟩ := must_ok h
    cases hf : isFresh e with
    | true => rw [hf] at h; exact ⟨_, _, h, st_assign_fresh hf (h1.fr hf) h0⟩
    | false => rw [hf] at h; exact ⟨_, _, h, st_assign h1.ev h1.us h0⟩
  | Subscript o k sp =>
    obtain ⟨x, hx, h⟩ := need_ok (K := fun x => ev st e fun v st1 => wSetItem ev sc st1 x k v K) h
    obtain ⟨p, rfl⟩ := nameOf_inv hx
    obtain ⟨v, st1, h2, h1⟩ := H (by assumption)
    obtain ⟨h0, h2⟩ := must_ok h2
    cases ho : st1.isOwn x with
    | true =>
      rw [ho] at h2
      obtain ⟨es0, e0, h2⟩ := need_ok h2
      obtain ⟨s, st2, h2, h3⟩ := H h2
      obtain ⟨q, e2, h2⟩ := need_ok h2
      obtain ⟨h4, h2⟩ := must_ok h2
      obtain ⟨es, e3, h2⟩ := need_ok h2
      obtain ⟨h5, h2⟩ := sure_ok h2
      have h3 := h3.ev
      rw [asStr_inv e2] at h3
      exact ⟨_, _, h2, st_setItem h0 h1.ev ho (dict_inv e0) h3 h4 (dict_inv e3) h5⟩
    | false =>
      rw [ho] at h2
      obtain ⟨hb, h2⟩ := must_ok h2
      obtain ⟨i, ei, h2⟩ := need_ok h2
      obtain ⟨s, st2, h2, h3⟩ := H h2
      obtain ⟨q, e2, h2⟩ := need_ok h2
      obtain ⟨b', e3, h2⟩ := need_ok h2
      have h3 := h3.ev
      have h1 := h1.ev
      rw [asStr_inv e2] at h3
      rw [asInt_inv ei] at h1
      exact ⟨_, _, h2, st_setBowl G.B0 h0 h1 ho (isBowl_inv hb) h3 e3⟩
  | Tuple ts k1 tp =>
    have h' : Ok (match isTup e with
      | true => wTwoT ev sc st ts e K
      | false => ev st e fun v st1 => need (bindT sc (.Tuple ts k1 tp) v) fun bs => K .next (st1.putAll bs)) := h
    cases ht : isTup e with
    | false =>
      rw [ht] at h'
      obtain ⟨v, st1, h, h1⟩ := H h'
      obtain ⟨bs, h2, h⟩ := need_ok h
      exact ⟨_, _, h, st_tup hA.hd rfl ht h1.ev h2⟩
    | true =>
      rw [ht] at h'
      cases e with
      | Tuple es k2 p3 =>
        obtain ⟨p, hp, h⟩ := need_ok h'
        obtain ⟨x, hx, h⟩ := need_ok h
        obtain ⟨y, hy, h⟩ := need_ok h
        obtain ⟨q, hq, h⟩ := need_ok h
        obtain ⟨p1, e1⟩ := nameOf_inv hx
        obtain ⟨p2, e2⟩ := nameOf_inv hy
        obtain ⟨h0, h⟩ := must_ok h
        obtain ⟨h1, h⟩ := must_ok h
        obtain ⟨h2, h⟩ := must_ok h
        obtain ⟨v, st1, h, h3⟩ := H h
        obtain ⟨u, st2, h, h4⟩ := H h
        rw [two_inv hp, two_inv hq, e1, e2]
        cases hf : isFresh q.1 with
        | true => rw [hf] at h; exact ⟨_, _, h, st_two_fresh hA.hd h1 h2 h0 (h3.fr hf) h4.ev⟩
        | false => rw [hf] at h; exact ⟨_, _, h, st_two hA.hd h1 h2 h0 h3.ev h4.ev⟩
      | _ => exact bad_ok h'
  | _ => exact bad_ok h
theorem wExpr_ok (G : Good c) (H : EvG c A sc ev) {e : Expr} {pos : Pos} {st : St} {K : Fl → St → TP} (h : Ok (wExpr ev sc st e K)) : ∃ fl st', Ok (K fl st') ∧ StOK c A sc st (.Expr e pos) fl st' := by
  cases e with
  | Call f args kws cp =>
    cases kws with
    | cons _ _ => exact bad_ok h
    | nil =>
      cases f with
      | Attribute o m ap =>
        obtain ⟨x, hx, h⟩ := need_ok (K := fun x => need (one args) fun e => must (Nat.beq ap.endLine cp.line) (wMut ev sc st x m e K)) h
        obtain ⟨e, he, h⟩ := need_ok h
        obtain ⟨h0, h⟩ := must_ok h
        obtain ⟨h1, h⟩ := must_ok h
        obtain ⟨h2, h⟩ := must_ok h
        obtain ⟨h3, h⟩ := must_ok h
        obtain ⟨p, ex⟩ := nameOf_inv hx
        rw [one_inv he, ex]
        cases hm : seq m "append" with
        | true =>
          rw [hm] at h
          obtain rfl := seq_iff.mp hm
          obtain ⟨xs0, e0, h⟩ := need_ok h
          obtain ⟨v, st1, h, h4⟩ := H h
          obtain ⟨h5, h⟩ := must_ok h
          obtain ⟨xs, e1, h⟩ := need_ok h
          obtain ⟨h6, h⟩ := sure_ok h
          exact ⟨_, _, h, st_append G.T h0 h3 h1 h2 (list_inv e0) h4.ev h5 (list_inv e1) h6⟩
        | false =>
          rw [hm] at h
          obtain ⟨hm, h⟩ := must_ok h
          obtain rfl := seq_iff.mp hm
          obtain ⟨es0, e0, h⟩ := need_ok h
          obtain ⟨v, st1, h, h4⟩ := H h
          obtain ⟨more, e2, h⟩ := need_ok h
          obtain ⟨h5, h⟩ := must_ok h
          obtain ⟨es, e1, h⟩ := need_ok h
          obtain ⟨h6, h⟩ := sure_ok h
          have h4 := h4.ev
          rw [asDict_inv e2] at h4
          exact ⟨_, _, h, st_update G.T h0 h3 h1 h2 (dict_inv e0) h4 h5 (dict_inv e1) h6⟩
      | _ => exact bad_ok h
  | _ => exact bad_ok h
theorem wStmt_ok (G : Good c) (hA : AOK A n) (H : WOK c A W) {s : Stmt} {st : St} {K : Fl → St → TP} (h : Ok (wStmt W sc st s K)) : ∃ fl st', Ok (K fl st') ∧ StOK c A sc st s fl st' := by
  cases s with
  | Return e pos =>
    obtain ⟨e, rfl, h⟩ := need_ok (K := fun e => W.ev sc st e fun v st1 => K (.ret v) st1) h
    obtain ⟨v, st1, h, h1⟩ := H.ev sc h
    exact ⟨_, st1, h, st_return h1.ev⟩
  | If t b o pos =>
    obtain ⟨q, st1, h, h1⟩ := H.tr sc (K := fun q st1 => W.exs sc st1 (bif q then b else o) K) h
    obtain ⟨fl, st2, h, h2⟩ := H.exs sc _ h
    exact ⟨fl, st2, h, st_if h1 h2⟩
  | Assign ts e pos =>
    obtain ⟨t, h0, h⟩ := need_ok (K := fun t => wAsg (W.ev sc) sc st t e K) h
    rw [one_inv h0]
    exact wAsg_ok G hA (H.ev sc) h
  | Expr e pos => exact wExpr_ok G (H.ev sc) h
  | For tgt iter body orelse pos =>
    cases orelse with
    | cons _ _ => exact bad_ok h
    | nil =>
      obtain ⟨xs, st1, h, h1⟩ := wSource_ok G hA (H.ev sc) (K := fun xs st1 => sure (sizeOk xs.length) (forT sc tgt (fun s => W.exs sc s body) xs st1 K)) h
      obtain ⟨h2, h⟩ := sure_ok h
      obtain ⟨fl, stF, h, h3⟩ := forT_ok (H.exs sc body) h
      exact ⟨fl, stF, h, st_for hA.hd h1 h3⟩
  | While t body orelse pos =>
    cases orelse with
    | cons _ _ => exact bad_ok h
    | nil =>
      obtain ⟨fl, stF, h, h1⟩ := wWhile_ok (e := t) (fun st K h => H.tr sc h) (H.exs sc body) 50 h
      exact ⟨fl, stF, h, st_while h1⟩
  | _ => exact bad_ok h
theorem wExs_ok (G : Good c) (hA : AOK A n) (H : WOK c A W) (b : List Stmt) : ExG c A sc b (wExs W sc b) := by
  induction b with
  | nil => intro st K h; exact ⟨.next, st, h, .nil⟩
  | cons s r ih =>
    intro st K h
    obtain ⟨fl, st1, h, h1⟩ := wStmt_ok G hA H h
    cases fl with
    | next => obtain ⟨fl, st2, h, h2⟩ := ih h; exact ⟨fl, st2, h, .next h1 h2⟩
    | ret v => exact ⟨.ret v, st1, h, .ret h1⟩
theorem wRun_ok (G : Good c) (N : Nat) (k : Nat) : AOK A (N + k) → WOK c A (wRun N k) := by
  induction k with
  | zero => intro _; exact ⟨fun sc st e K h => bad_ok h, fun sc st e K h => bad_ok h, fun sc b st K h => bad_ok h⟩
  | succ k ih =>
    intro hA
    have H := ih (hA.le (Nat.le_succ _))
    exact ⟨fun sc => wEval_ok G hA (Nat.le_trans (Nat.le_add_right _ _) (Nat.le_succ _)) H, fun sc => wTest_ok hA H, fun sc b => wExs_ok G hA H b⟩

/-- a function's answer -/
theorem Ret.ofOk {f : Str} {vs : List PV} {b : Bowl} {r : PV × Bowl} {N : Nat} (k : Nat) (hf : (tab f).isSome = true) (hl : Nat.beq (paramNames (getFn f).params).length vs.length = true)
    (h : Ok ((wRun N k).exs (getFn f).scope ⟨(paramNames (getFn f).params).zip vs, none, b⟩ (getFn f).body fun fl st => fin ((retOf fl, st.bowl) = r))) : Ret (N + k + 1) f vs b r := by
  refine ⟨hf, fun c A G hA => ?_⟩
  obtain ⟨fi, hfi⟩ := Option.isSome_iff_exists.mp hf
  have e : getFn f = fi := by unfold getFn; rw [hfi]; rfl
  rw [e] at hl h
  refine call_sound G.T (G.TB.fn f fi hfi) hA (Nat.eq_of_beq_eq_true hl) fun A' hA' => ?_
  obtain ⟨fl, st', h, h1⟩ := (wRun_ok G N k hA').exs _ _ h
  exact ⟨fl, st', (congrArg Prod.fst (fin_ok h)).symm, (congrArg Prod.snd (fin_ok h)).symm, h1⟩
theorem Ok.of {P : TP} {C : Prop} (t : List Ans) (h : C) (e : AllC (P t) = C) : Ok P := ⟨t, e ▸ h⟩
theorem ac {p q : Prop} (h : p) (k : q) : p ∧ q := ⟨h, k⟩
/-- by the tape: all but the answer itself is to be shown -/
theorem Ret.ofT {f : Str} {vs : List PV} {b : Bowl} {r : PV × Bowl} {N : Nat} {C : Prop} (k : Nat) (hf : (tab f).isSome = true) (hl : Nat.beq (paramNames (getFn f).params).length vs.length = true) (t : List Ans) (h : (r = r ∧ True) → C)
    (e : AllC ((wRun N k).exs (getFn f).scope ⟨(paramNames (getFn f).params).zip vs, none, b⟩ (getFn f).body (fun fl st => fin ((retOf fl, st.bowl) = r)) t) = C) : Ret (N + k + 1) f vs b r := Ret.ofOk k hf hl ⟨t, e ▸ h ⟨rfl, trivial⟩⟩
/-- the answer, too -/
theorem Ret.ofE {f : Str} {vs : List PV} {b : Bowl} {r : PV × Bowl} {N : Nat} {C : Prop} (k : Nat) (hf : (tab f).isSome = true) (hl : Nat.beq (paramNames (getFn f).params).length vs.length = true) (t : List Ans) (h : C)
    (e : AllC ((wRun N k).exs (getFn f).scope ⟨(paramNames (getFn f).params).zip vs, none, b⟩ (getFn f).body (fun fl st => fin ((retOf fl, st.bowl) = r)) t) = C) : Ret (N + k + 1) f vs b r := Ret.ofOk k hf hl ⟨t, e ▸ h⟩
end
/-! loops by an invariant -/
def Loop (N k : Nat) (f : Str) (p : List Nat) (I : List PV → St → Prop) (st' : St) (xs : List PV) (st : St) : Prop := LoopC (getFn f).scope (forTgt (stm (getFn f).body p)) (loopB N k f p) I st' xs st
def LComp (N k : Nat) (f : Str) (p q : List Nat) (I : List PV → List PV → St → Prop) (accF : List PV) (b : Bowl) (xs : List PV) (acc : List PV) (st : St) : Prop :=
  CompC (compSc f p q) (compIn f p q).tgt (compIn f p q).ifs ((wRun N k).tr (compSc f p q)) (lcTurn ((wRun N k).ev (compSc f p q)) (compIn f p q).elt) I accF b xs acc st
def DComp (N k : Nat) (f : Str) (p q : List Nat) (I : List PV → List (Str × PV) → St → Prop) (accF : List (Str × PV)) (b : Bowl) (xs : List PV) (acc : List (Str × PV)) (st : St) : Prop :=
  CompC (compSc f p q) (compIn f p q).tgt (compIn f p q).ifs ((wRun N k).tr (compSc f p q)) (dcTurn ((wRun N k).ev (compSc f p q)) (compIn f p q).elt (compIn f p q).vx) I accF b xs acc st
theorem Loop.mk {N k : Nat} {f : Str} {p : List Nat} {I : List PV → St → Prop} {st' : St} {xs : List PV} {st : St} (h : I xs st) (h0 : ∀ s, I [] s → s = st') (h1 : ∀ v r s, I (v :: r) s → ∃ bs, bindT (getFn f).scope (forTgt (stm (getFn f).body p)) v = some bs ∧ Ok (loopB N k f p (s.putAll bs) (flNext (fun s1 => fin (I r s1)) fun _ _ => bad))) : Loop N k f p I st' xs st := ⟨h, h0, h1⟩
theorem LComp.mk {N k : Nat} {f : Str} {p q : List Nat} {I : List PV → List PV → St → Prop} {accF : List PV} {b : Bowl} {xs : List PV} {acc : List PV} {st : St} (h : I xs acc st) (h0 : ∀ a s, I [] a s → a = accF ∧ s.bowl = b) (h1 : ∀ v r a s, I (v :: r) a s → ∃ bs, bindT (compSc f p q) (compIn f p q).tgt v = some bs ∧ Ok (lcT N k f p q bs s a fun a1 s1 => fin (I r a1 s1))) : LComp N k f p q I accF b xs acc st := ⟨h, h0, h1⟩
theorem DComp.mk {N k : Nat} {f : Str} {p q : List Nat} {I : List PV → List (Str × PV) → St → Prop} {accF : List (Str × PV)} {b : Bowl} {xs : List PV} {acc : List (Str × PV)} {st : St} (h : I xs acc st) (h0 : ∀ a s, I [] a s → a = accF ∧ s.bowl = b) (h1 : ∀ v r a s, I (v :: r) a s → ∃ bs, bindT (compSc f p q) (compIn f p q).tgt v = some bs ∧ Ok (dcT N k f p q bs s a fun a1 s1 => fin (I r a1 s1))) : DComp N k f p q I accF b xs acc st := ⟨h, h0, h1⟩
/-! the tape's entries, out of facts -/
noncomputable def tv {o : Option PV} {x : PV} (h : o = some x) : Ans := .v x
noncomputable def tb {o : Option Bool} {x : Bool} (h : o = some x) : Ans := .b x
noncomputable def tr {N : Nat} {f : Str} {vs : List PV} {b : Bowl} {r : PV × Bowl} (h : Ret N f vs b r) : Ans := .r r.1 r.2
noncomputable def tl {N k : Nat} {f : Str} {p : List Nat} {I : List PV → St → Prop} {st' : St} {xs : List PV} {st : St} (h : Loop N k f p I st' xs st) : Ans := .loop I st'
noncomputable def tcl {N k : Nat} {f : Str} {p q : List Nat} {I : List PV → List PV → St → Prop} {accF : List PV} {b : Bowl} {xs : List PV} {acc : List PV} {st : St} (h : LComp N k f p q I accF b xs acc st) : Ans := .lcomp I accF b
noncomputable def tcd {N k : Nat} {f : Str} {p q : List Nat} {I : List PV → List (Str × PV) → St → Prop} {accF : List (Str × PV)} {b : Bowl} {xs : List PV} {acc : List (Str × PV)} {st : St} (h : DComp N k f p q I accF b xs acc st) : Ans := .dcomp I accF b
end Mine

set_option maxRecDepth 100000
set_option linter.unusedVariables false
set_option linter.unusedSimpArgs false
namespace Mine
open PySem

noncomputable def putS (x : Str) (l : List Str) : List Str := if memS x l then l else l ++ [x]
noncomputable def unionS (a b : List Str) : List Str := b.foldl (fun l x => putS x l) a
noncomputable abbrev tt : PV := .bool true
noncomputable def kv (l : List Str) : List (Str × PV) := l.map fun x => (x, tt)
noncomputable abbrev kd (l : List Str) : PV := .dict (kv l)
noncomputable def optPV : Option (List Str) → PV
  | none => .none
  | some l => kd l
noncomputable def bothS : Option (List Str) → Option (List Str) → Option (List Str)
  | some a, some b => some (unionS a b)
  | _, _ => none

theorem memS_iff {x : Str} : ∀ {l : List Str}, memS x l = true ↔ x ∈ l
  | [] => by simp [memS]
  | y :: l => by
    rw [memS, List.mem_cons]
    cases h : seq x y with
    | true => simp [seq_iff.mp h]
    | false =>
      have : x ≠ y := fun e => by rw [seq_iff.mpr e] at h; cases h
      simp only [this, false_or]
      exact memS_iff
theorem mem_putS {x y : Str} {l : List Str} : y ∈ putS x l ↔ y ∈ l ∨ y = x := by
  unfold putS
  split
  · rename_i h
    exact ⟨.inl, fun e => e.elim id fun e => e ▸ memS_iff.mp h⟩
  · simp
theorem mem_unionS {y : Str} : ∀ {b a : List Str}, y ∈ unionS a b ↔ y ∈ a ∨ y ∈ b
  | [], a => by simp [unionS]
  | x :: b, a => by
    have := mem_unionS (y := y) (b := b) (a := putS x a)
    unfold unionS at this ⊢
    rw [List.foldl_cons, this, mem_putS, List.mem_cons, or_assoc]
theorem len_putS (x : Str) (l : List Str) : (putS x l).length ≤ l.length + 1 := by
  unfold putS; split <;> simp
theorem len_unionS : ∀ (b a : List Str), (unionS a b).length ≤ a.length + b.length
  | [], a => by simp [unionS]
  | x :: b, a => by
    have := len_unionS b (putS x a)
    have h2 := len_putS x a
    unfold unionS at this ⊢
    rw [List.foldl_cons, List.length_cons]; omega
theorem memS_cons (x y : Str) (l : List Str) : memS x (y :: l) = match seq x y with | true => true | false => memS x l := rfl
theorem kv_cons (x : Str) (l : List Str) : kv (x :: l) = (x, tt) :: kv l := rfl
theorem lk_kv (x : Str) (l : List Str) : lk x (kv l) = if memS x l then some tt else none := by
  induction l with
  | nil => rfl
  | cons y l ih =>
    show (match seq x y with | true => some tt | false => lk x (kv l)) = if (match seq x y with | true => true | false => memS x l) = true then _ else _
    rw [ih]
    cases seq x y <;> rfl
theorem putS_cons (x y : Str) (l : List Str) : putS x (y :: l) = match seq x y with | true => y :: l | false => y :: putS x l := by
  unfold putS
  rw [memS_cons]
  cases seq x y with
  | true => rfl
  | false => dsimp only; split <;> rfl
theorem put_kv (x : Str) (l : List Str) : put x tt (kv l) = kv (putS x l) := by
  induction l with
  | nil => rfl
  | cons y l ih =>
    rw [putS_cons]
    show (match seq x y with | true => (y, tt) :: kv l | false => (y, tt) :: put x tt (kv l)) = _
    rw [ih]
    cases seq x y <;> rfl
theorem storeAll_kv (b : List Str) : ∀ (a : List Str), storeAll (kv a) (kv b) = kv (unionS a b) := by
  induction b with
  | nil => intro a; rfl
  | cons x b ih =>
    intro a
    show storeAll (put x tt (kv a)) (kv b) = kv (unionS (putS x a) b)
    rw [put_kv, ih]
theorem kv_len (l : List Str) : (kv l).length = l.length := by simp [kv]
theorem sizeOk_of {n : Nat} (h : n ≤ 100000) : sizeOk n = true := by unfold sizeOk; exact Nat.ble_eq_true_of_le h
theorem hasK_kv (x : Str) (l : List Str) : hasK x (kv l) = memS x l := by
  unfold hasK; rw [lk_kv]; split <;> simp_all


theorem both_ret (o p : Option (List Str)) (b : Bowl) (h : ∀ x y, o = some x → p = some y → x.length + y.length ≤ 100000) : Ret 20 "both" [optPV o, optPV p] b (optPV (bothS o p), b) := by
  cases o with
  | none => exact Ret.ofT (N := 0) 19 (by kernel_rfl) (by kernel_rfl) [] id (by kernel_rfl)
  | some x =>
    cases p with
    | none => exact Ret.ofT (N := 0) 19 (by kernel_rfl) (by kernel_rfl) [] id (by kernel_rfl)
    | some y =>
      have h1 := h x y rfl rfl
      have e1 : bltAt .dict [kd x] = some (kd x) := by
        show guard (sizeOk (kv x).length) (PV.dict (kv x)) = _
        rw [sizeOk_of (by rw [kv_len]; exact Nat.le_trans (Nat.le_add_right _ _) h1)]; rfl
      have e2 : sizeOk ((kv x).length + (kv y).length) = true := sizeOk_of (by rw [kv_len, kv_len]; exact h1)
      exact Ret.ofE (N := 0) 19 (by kernel_rfl) (by kernel_rfl) [.g, .g, .v (kd x), .b true] (ac e1 (ac e2 (ac (congrArg (fun l => (PV.dict l, b)) (storeAll_kv y x)) trivial))) (by kernel_rfl)

/-! loops over lists of any length -/
theorem put_put {α : Type} (x : Str) (u v : α) (l : List (Str × α)) : put x v (put x u l) = put x v l := by
  induction l with
  | nil => show put x v [(x, u)] = [(x, v)]; rw [put_cons, if_pos rfl]
  | cons p r ih =>
    rw [put_cons, put_cons]
    by_cases h : x = p.1
    · rw [if_pos h, if_pos h, put_cons, if_pos h]
    · rw [if_neg h, if_neg h, put_cons, if_neg h, ih]
theorem put1_two {st : St} {x : Str} {u v : PV} (h : st.own = none) : (st.put1 x u).put1 x v = st.put1 x v := by
  obtain ⟨vs, o, b⟩ := st
  cases h
  exact congrArg (fun l => St.mk l none b) (put_put x u v vs)
theorem put1_own {st : St} {x : Str} {u : PV} (h : st.own = none) : (st.put1 x u).own = none := by
  obtain ⟨vs, o, b⟩ := st
  cases h; rfl
/-- st0, but for one name -/
def Near (st0 : St) (x : Str) (s : St) : Prop := s = st0 ∨ ∃ u, s = st0.put1 x u
theorem Near.put {st0 s : St} {x : Str} {v : PV} (h : Near st0 x s) (h0 : st0.own = none) : s.putAll [(x, v)] = st0.putAll [(x, v)] := by
  rcases h with rfl | ⟨u, rfl⟩
  · rfl
  · exact put1_two h0
def NearC {α : Type} (st0 : St) (x : Str) (g : PV → α → α) (xs : List PV) (R : α) (r : List PV) (a : α) (s : St) : Prop := (∀ v ∈ r, v ∈ xs) ∧ Near st0 x s ∧ r.foldl (fun a v => g v a) a = R
section
variable {α : Type} {st0 : St} {x : Str} {g : PV → α → α} {xs : List PV} {acc : α}
theorem NearC.start : NearC st0 x g xs (xs.foldl (fun a v => g v a) acc) xs acc st0 := ⟨fun _ h => h, .inl rfl, rfl⟩
theorem NearC.next {R : α} {v : PV} {r : List PV} {a a1 : α} {s s1 : St} (h : NearC st0 x g xs R (v :: r) a s) (h1 : a1 = g v a ∧ s1 = st0.put1 x v) : NearC st0 x g xs R r a1 s1 := by
  obtain ⟨rfl, rfl⟩ := h1
  exact ⟨fun w hw => h.1 w (.tail _ hw), .inr ⟨v, rfl⟩, h.2.2⟩
theorem NearC.done {R : α} {a : α} {s : St} (h : NearC st0 x g xs R [] a s) : a = R ∧ s.bowl = st0.bowl := by
  obtain ⟨_, h1, h2⟩ := h
  refine ⟨h2, ?_⟩
  rcases h1 with rfl | ⟨u, rfl⟩ <;> rfl
end
section
variable {N k : Nat} {f : Str} {p q : List Nat} {st0 : St} {x : Str} {xs : List PV}
theorem LComp.name (g : PV → List PV → List PV) {acc : List PV} (h0 : st0.own = none) (hb : ∀ v, bindT (compSc f p q) (compIn f p q).tgt v = some [(x, v)]) (h1 : ∀ v ∈ xs, ∀ acc, ∀ C : List PV → St → Prop, C (g v acc) (st0.put1 x v) → Ok (lcT N k f p q [(x, v)] st0 acc fun a1 s1 => fin (C a1 s1))) :
    LComp N k f p q (NearC st0 x g xs (xs.foldl (fun a v => g v a) acc)) (xs.foldl (fun a v => g v a) acc) st0.bowl xs acc st0 := by
  refine .mk .start (fun a s h => h.done) fun v r a s h => ⟨[(x, v)], hb v, ?_⟩
  have e : ∀ K, lcT N k f p q [(x, v)] s a K = lcT N k f p q [(x, v)] st0 a K := fun K => by unfold lcT wTurn; rw [h.2.1.put h0]
  rw [e]
  exact h1 v (h.1 v (.head _)) a _ (h.next ⟨rfl, rfl⟩)
theorem DComp.name (g : PV → List (Str × PV) → List (Str × PV)) {acc : List (Str × PV)} (h0 : st0.own = none) (hb : ∀ v, bindT (compSc f p q) (compIn f p q).tgt v = some [(x, v)]) (h1 : ∀ v ∈ xs, ∀ acc, ∀ C : List (Str × PV) → St → Prop, C (g v acc) (st0.put1 x v) → Ok (dcT N k f p q [(x, v)] st0 acc fun a1 s1 => fin (C a1 s1))) :
    DComp N k f p q (NearC st0 x g xs (xs.foldl (fun a v => g v a) acc)) (xs.foldl (fun a v => g v a) acc) st0.bowl xs acc st0 := by
  refine .mk .start (fun a s h => h.done) fun v r a s h => ⟨[(x, v)], hb v, ?_⟩
  have e : ∀ K, dcT N k f p q [(x, v)] s a K = dcT N k f p q [(x, v)] st0 a K := fun K => by unfold dcT wTurn; rw [h.2.1.put h0]
  rw [e]
  exact h1 v (h.1 v (.head _)) a _ (h.next ⟨rfl, rfl⟩)
end

/-- {name: True for name in needs if name not in names} -/
noncomputable def withoutS (o : Option (List Str)) (names : List Str) : Option (List Str) := o.map fun l => unionS [] (l.filter fun x => !memS x names)
theorem strsOf_map (names : List Str) : strsOf (names.map .str) = some names := by
  induction names with
  | nil => rfl
  | cons a r ih =>
    show (strsOf (r.map .str)).map (a :: ·) = _
    rw [ih]; rfl
noncomputable def keyStep (p : Str → Bool) (v : PV) (a : List (Str × PV)) : List (Str × PV) := match v with
  | .str s => (match p s with | true => put s tt a | false => a)
  | _ => a
theorem fold_filter (p : Str → Bool) (l : List Str) : ∀ (acc : List Str), (((kv l).map fun e => PV.str e.1).foldl (fun a v => keyStep p v a) (kv acc)) = kv (unionS acc (l.filter p)) := by
  induction l with
  | nil => intro acc; rfl
  | cons x l ih =>
    intro acc
    show List.foldl (fun a v => keyStep p v a) (match p x with | true => put x tt (kv acc) | false => kv acc) ((kv l).map fun e => PV.str e.1) = _
    cases h : p x with
    | true => rw [List.filter_cons_of_pos h, put_kv, ih]; rfl
    | false => rw [List.filter_cons_of_neg (by rw [h]; exact Bool.false_ne_true), ih]
theorem without_ret (o : Option (List Str)) (names : List Str) (b : Bowl) (h : ∀ x, o = some x → x.length ≤ 100000) : Ret 20 "without" [optPV o, .list (names.map .str)] b (optPV (withoutS o names), b) := by
  cases o with
  | none => exact Ret.ofT (N := 0) 19 (by kernel_rfl) (by kernel_rfl) [] (fun z => z) (by kernel_rfl)
  | some l =>
    have e1 : sizeOk (((kv l).map fun e => PV.str e.1)).length = true := sizeOk_of (by rw [List.length_map, kv_len]; exact h l rfl)
    have l1 := DComp.name (N := 0) (k := 17) (f := "without") (p := [1]) (q := []) (x := "name") (st0 := ⟨[("names", .list (names.map .str))], none, b⟩) (xs := (kv l).map fun e => PV.str e.1) (keyStep fun s => !memS s names) (acc := []) rfl (fun v => by kernel_rfl) (fun v hv acc C hC => by
      obtain ⟨e, he, rfl⟩ := List.mem_map.mp hv
      have hc : cmp .NotIn (.str e.1) (.list (names.map .str)) = some (!memS e.1 names) := by
        show ((strsOf (names.map .str)).map (memS e.1)).map not = _
        rw [strsOf_map]; rfl
      have hC' : C (match !memS e.1 names with | true => put e.1 tt acc | false => acc) (St.put1 ⟨[("names", .list (names.map .str))], none, b⟩ "name" (.str e.1)) := hC
      cases hm : !memS e.1 names with
      | true => rw [hm] at hc hC'; exact Ok.of [tb hc] (ac hc (ac hC' (trivial))) (by kernel_rfl)
      | false => rw [hm] at hc hC'; exact Ok.of [tb hc] (ac hc (ac hC' (trivial))) (by kernel_rfl))
    have e2 : (PV.dict (((kv l).map fun e => PV.str e.1).foldl (fun a v => keyStep (fun s => !memS s names) v a) []), b) = (optPV (withoutS (some l) names), b) := congrArg (fun l => (PV.dict l, b)) (fold_filter (fun s => !memS s names) l [])
    exact Ret.ofE (N := 0) 19 (by kernel_rfl) (by kernel_rfl) [.g, .b true, tcd l1] (ac e1 (ac l1 (ac e2 (trivial)))) (by kernel_rfl)
end Mine

set_option maxRecDepth 100000
set_option linter.unusedVariables false
set_option linter.unusedSimpArgs false
namespace Mine
open PySem

/-! the data -/
structure Sg where
  flags : List Bool
  free : List Str
  div : Bool
noncomputable abbrev boolsPV (l : List Bool) : PV := .list (l.map .bool)
noncomputable abbrev strsPV (l : List Str) : PV := .list (l.map .str)
noncomputable def sgPV (s : Sg) : PV := .inst "Signature" [("flags", boolsPV s.flags), ("free", kd s.free), ("diverges", .bool s.div)]
noncomputable abbrev Env' := List (Str × Sg)
noncomputable def envKV (e : Env') : List (Str × PV) := e.map fun p => (p.1, sgPV p.2)
noncomputable abbrev envPV (e : Env') : PV := .dict (envKV e)

inductive Leaf where
  | var (x : Str)
  | lit
inductive Node (α : Type) where
  | leaf (l : Leaf)
  | prim (op : Str) (args : List α)
  | case (v : α) (own : Str) (a : α) (o : Option α)
  | lett (own : Str) (v b : α)
  | letf (own : Str) (ps : List Str) (fb : α) (args : List α)
  | app (f : Str) (args : List α)
noncomputable abbrev varPV (x : Str) : PV := .inst "Var" [("name", .str x)]
noncomputable def leafPV : Leaf → PV
  | .var x => varPV x
  | .lit => .inst "Lit" [("kind", .str "int"), ("value", .int 4)]
noncomputable abbrev appPV (f : Str) (args : List PV) : PV := .inst "App" [("fun", varPV f), ("args", .list args)]
noncomputable abbrev lamPV (ps : List Str) (fb : PV) : PV := .inst "Lam" [("params", strsPV ps), ("body", fb)]
noncomputable abbrev letPV (own : Str) (v b : PV) : PV := .inst "Let" [("binds", .list [.tuple [.str own, v]]), ("body", b), ("is_rec", .bool false)]
noncomputable abbrev altPV (a : PV) : PV := .inst "Alt" [("key", .tuple [.str "lit", .str "int", .int 1]), ("names", .list []), ("body", a)]
noncomputable abbrev casePV (v : PV) (own : Str) (a o : PV) : PV := .inst "Case" [("value", v), ("name", .str own), ("alts", .list [altPV a]), ("other", o)]
noncomputable abbrev primPV (op : Str) (args : List PV) : PV := .inst "Prim" [("op", .str op), ("args", .list args)]
noncomputable def nodePV {α : Type} (pv : α → PV) : Node α → PV
  | .leaf l => leafPV l
  | .prim op args => primPV op (args.map pv)
  | .case v own a o => casePV (pv v) own (pv a) (match o with | none => .none | some o => pv o)
  | .lett own v b => letPV own (pv v) (pv b)
  | .letf own ps fb args => letPV own (lamPV ps (pv fb)) (appPV own (args.map pv))
  | .app f args => appPV f (args.map pv)


theorem lk_env (x : Str) (e : Env') : lk x (envKV e) = (lk x e).map sgPV := by
  induction e with
  | nil => rfl
  | cons p e ih =>
    show (match seq x p.1 with | true => some (sgPV p.2) | false => lk x (envKV e)) = Option.map sgPV (match seq x p.1 with | true => some p.2 | false => lk x e)
    rw [ih]
    cases seq x p.1 <;> rfl
theorem put_env (x : Str) (s : Sg) (e : Env') : put x (sgPV s) (envKV e) = envKV (put x s e) := by
  induction e with
  | nil => rfl
  | cons p e ih =>
    show (match seq x p.1 with | true => (p.1, sgPV s) :: envKV e | false => (p.1, sgPV p.2) :: put x (sgPV s) (envKV e)) = envKV (match seq x p.1 with | true => (p.1, s) :: e | false => p :: put x s e)
    rw [ih]
    cases seq x p.1 <;> rfl

noncomputable def eitherS : List (Option (List Str)) → Option (List Str)
  | [some l, some m] => some (unionS [] (l.filter fun x => memS x m))
  | [some l, none] => some l
  | [none, o] => o
  | [o] => o
  | _ => none
theorem dict_copy {es : List (Str × PV)} (h : es.length ≤ 100000) : bltAt .dict [.dict es] = some (.dict es) := by
  show guard (sizeOk es.length) (PV.dict es) = _
  rw [sizeOk_of h]; rfl
theorem either_one (o : Option (List Str)) (b : Bowl) (h : ∀ x, o = some x → x.length ≤ 100000) : Ret 20 "either" [.list [optPV o]] b (optPV (eitherS [o]), b) := by
  cases o with
  | none => exact Ret.ofT (N := 0) 19 (by kernel_rfl) (by kernel_rfl) [] (fun z => z) (by kernel_rfl)
  | some l =>
    have e1 := dict_copy (es := kv l) (by rw [kv_len]; exact h l rfl)
    exact Ret.ofT (N := 0) 19 (by kernel_rfl) (by kernel_rfl) [.g, .g, .g, .g, tv e1] (fun z => ac e1 (z)) (by kernel_rfl)
theorem either_two (o p : Option (List Str)) (b : Bowl) (h : ∀ x, o = some x → x.length ≤ 100000) (h2 : ∀ x, p = some x → x.length ≤ 100000) : Ret 20 "either" [.list [optPV o, optPV p]] b (optPV (eitherS [o, p]), b) := by
  cases o with
  | none =>
    cases p with
    | none => exact Ret.ofT (N := 0) 19 (by kernel_rfl) (by kernel_rfl) [] (fun z => z) (by kernel_rfl)
    | some m =>
      have e1 := dict_copy (es := kv m) (by rw [kv_len]; exact h2 m rfl)
      exact Ret.ofT (N := 0) 19 (by kernel_rfl) (by kernel_rfl) [.g, .g, .g, .g, .g, tv e1] (fun z => ac e1 (z)) (by kernel_rfl)
  | some l =>
    have e1 := dict_copy (es := kv l) (by rw [kv_len]; exact h l rfl)
    cases p with
    | none => exact Ret.ofT (N := 0) 19 (by kernel_rfl) (by kernel_rfl) [.g, .g, .g, .g, tv e1] (fun z => ac e1 (z)) (by kernel_rfl)
    | some m =>
      have e2 : sizeOk (((kv l).map fun e => PV.str e.1)).length = true := sizeOk_of (by rw [List.length_map, kv_len]; exact h l rfl)
      have l1 := DComp.name (N := 0) (k := 14) (f := "either") (p := [1, 0, 0]) (q := [2]) (x := "name") (st0 := ⟨[("needs", kd m)], none, b⟩) (xs := (kv l).map fun e => PV.str e.1) (keyStep fun s => memS s m) (acc := []) rfl (fun v => by kernel_rfl) (fun v hv acc C hC => by
        obtain ⟨e, he, rfl⟩ := List.mem_map.mp hv
        have hc : cmp .In (.str e.1) (kd m) = some (memS e.1 m) := congrArg some (hasK_kv e.1 m)
        have hC' : C (match memS e.1 m with | true => put e.1 tt acc | false => acc) (St.put1 ⟨[("needs", kd m)], none, b⟩ "name" (.str e.1)) := hC
        cases hm : memS e.1 m with
        | true => rw [hm] at hc hC'; exact Ok.of [tb hc] (ac hc (ac hC' (trivial))) (by kernel_rfl)
        | false => rw [hm] at hc hC'; exact Ok.of [tb hc] (ac hc (ac hC' (trivial))) (by kernel_rfl))
      have e3 : (PV.dict (((kv l).map fun e => PV.str e.1).foldl (fun a v => keyStep (fun s => memS s m) v a) []), b) = (optPV (eitherS [some l, some m]), b) := congrArg (fun l => (PV.dict l, b)) (fold_filter (fun s => memS s m) l [])
      exact Ret.ofE (N := 0) 19 (by kernel_rfl) (by kernel_rfl) [.g, .g, .g, .g, tv e1, .g, .g, .b true, tcd l1] (ac e1 (ac e2 (ac l1 (ac e3 (trivial))))) (by kernel_rfl)
theorem extended_ret (x y : List (Str × PV)) (b : Bowl) (h : x.length + y.length ≤ 100000) : Ret 20 "extended" [.dict x, .dict y] b (.dict (storeAll x y), b) := by
  have e1 := dict_copy (es := x) (by exact Nat.le_trans (Nat.le_add_right _ _) h)
  have e2 : sizeOk (x.length + y.length) = true := sizeOk_of h
  exact Ret.ofT (N := 0) 19 (by kernel_rfl) (by kernel_rfl) [tv e1, .b true] (fun z => ac e1 (ac e2 (z))) (by kernel_rfl)
theorem hopeful_ret (n : Nat) (b : Bowl) (h : n = 1 ∨ n = 2) : Ret 20 "hopeful" [.int n] b (sgPV ⟨List.replicate n true, [], true⟩, b) := by
  rcases h with rfl | rfl
  · exact Ret.ofT (N := 0) 19 (by kernel_rfl) (by kernel_rfl) [] (fun z => z) (by kernel_rfl)
  · exact Ret.ofT (N := 0) 19 (by kernel_rfl) (by kernel_rfl) [] (fun z => z) (by kernel_rfl)

/-! needed -/
noncomputable def primS {α : Type} (nd : α → Env' → Option (List Str)) (env : Env') (args : List α) (o : Option (List Str)) : Option (List Str) := args.foldl (fun o a => bothS o (nd a env)) o
noncomputable def olen : Option (List Str) → Nat
  | none => 0
  | some l => l.length
theorem olen_both (o p : Option (List Str)) : olen (bothS o p) ≤ olen o + olen p := by
  cases o <;> cases p <;> first | exact Nat.zero_le _ | exact len_unionS _ _
theorem both_ret' (o p : Option (List Str)) (b : Bowl) (h : olen o + olen p ≤ 100000) : Ret 20 "both" [optPV o, optPV p] b (optPV (bothS o p), b) :=
  both_ret o p b (by rintro x y rfl rfl; exact h)
/-- the last value of a loop's name -/
def lastO (a : PV) : List PV → PV
  | [] => a
  | x :: r => lastO x r

section
variable {α : Type} {pv : α → PV} {nd : α → Env' → Option (List Str)} {N g : Nat} {env : Env'} {b : Bowl}

noncomputable abbrev primSt (op : Str) (L : List PV) (env : Env') (b : Bowl) (o : Option (List Str)) (a : PV) : St := ⟨[("expr", primPV op L), ("env", envPV env), ("found", optPV o), ("arg", a)], none, b⟩
def PrimI (pv : α → PV) (nd : α → Env' → Option (List Str)) (env : Env') (b : Bowl) (g : Nat) (op : Str) (y : α) (ys : List α) (xs : List PV) (st : St) : Prop :=
  (xs = (y :: ys).map pv ∧ st = ⟨[("expr", primPV op ((y :: ys).map pv)), ("env", envPV env), ("found", .dict [])], some "found", b⟩) ∨
  ∃ o a r, xs = r.map pv ∧ st = primSt op ((y :: ys).map pv) env b o a ∧ primS nd env r o = primS nd env (y :: ys) (some []) ∧ olen o + r.length * g ≤ 50000 ∧ lastO a xs = lastO (pv y) (ys.map pv)
theorem prim_ret (hN : 20 ≤ N) (H : ∀ a : α, Ret N "needed" [pv a, envPV env] b (optPV (nd a env), b)) (G : ∀ a, olen (nd a env) ≤ g) (op : Str) (args : List α) (hz : args.length * g ≤ 50000) (hg : g ≤ 50000) (hn : args.length ≤ 1000) :
    Ret (N + 20) "prim_needs" [primPV op (args.map pv), envPV env] b (optPV (if seq op "error" then none else primS nd env args (some [])), b) := by
  cases he : seq op "error" with
  | true =>
    have e1 : cmp .Eq (.str op) (.str "error") = some true := congrArg some he
    exact Ret.ofT (N := N) 19 (by kernel_rfl) (by kernel_rfl) [tb e1] (fun z => ac e1 (z)) (by kernel_rfl)
  | false =>
    have e1 : cmp .Eq (.str op) (.str "error") = some false := congrArg some he
    cases args with
    | nil => exact Ret.ofT (N := N) 19 (by kernel_rfl) (by kernel_rfl) [tb e1] (fun z => ac e1 (z)) (by kernel_rfl)
    | cons y ys =>
      have e2 : sizeOk ((y :: ys).map pv).length = true := sizeOk_of (by rw [List.length_map]; exact Nat.le_trans hn (by decide))
      have step : ∀ (o : Option (List Str)) (z : α) (r : List α), olen o + (z :: r).length * g ≤ 50000 → Ret N "both" [optPV o, optPV (nd z env)] b (optPV (bothS o (nd z env)), b) ∧ olen (bothS o (nd z env)) + r.length * g ≤ 50000 := fun o z r h => by
        have := olen_both o (nd z env)
        have := G z
        rw [List.length_cons, Nat.add_mul, Nat.one_mul] at h
        exact ⟨(both_ret' o (nd z env) b (by (clear e2 hn hz e1 he hg G H hN; omega))).mono hN, by (clear e2 hn hz e1 he hg G H hN; omega)⟩
      have l1 : Loop N 18 "prim_needs" [2] (PrimI pv nd env b g op y ys) (primSt op ((y :: ys).map pv) env b (primS nd env (y :: ys) (some [])) (lastO (pv y) (ys.map pv))) ((y :: ys).map pv) ⟨[("expr", primPV op ((y :: ys).map pv)), ("env", envPV env), ("found", .dict [])], some "found", b⟩ := by
        refine .mk (.inl ⟨rfl, rfl⟩) (fun s hI => ?_) fun v r st hI => ⟨[("arg", v)], by kernel_rfl, ?_⟩
        · rcases hI with ⟨hx, _⟩ | ⟨o, a, r, hx, rfl, h1, _, h3⟩
          · cases hx
          · cases r with
            | nil =>
              have h1 : o = primS nd env (y :: ys) (some []) := h1
              have h3 : a = lastO (pv y) (ys.map pv) := h3
              rw [h1, h3]
            | cons _ _ => cases hx
        · rcases hI with ⟨hx, rfl⟩ | ⟨o, a, r', hx, rfl, h1, h2, h3⟩
          · cases hx
            have hn := H y
            obtain ⟨hb, h4⟩ := step (some []) y ys (by show 0 + _ ≤ _; (clear step e2 hn e1 he hg G H hN; omega))
            have hc : PrimI pv nd env b g op y ys (ys.map pv) (primSt op ((y :: ys).map pv) env b (bothS (some []) (nd y env)) (pv y)) := .inr ⟨_, _, ys, rfl, rfl, rfl, h4, rfl⟩
            exact Ok.of [tr hn, tr hb] (ac hn (ac hb (ac hc (trivial)))) (by kernel_rfl)
          · cases r' with
            | nil => cases hx
            | cons z zs =>
              cases hx
              have hn := H z
              obtain ⟨hb, h4⟩ := step o z zs h2
              have hc : PrimI pv nd env b g op y ys (zs.map pv) (primSt op ((y :: ys).map pv) env b (bothS o (nd z env)) (pv z)) := .inr ⟨_, _, zs, rfl, rfl, h1, h4, h3⟩
              exact Ok.of [tr hn, tr hb] (ac hn (ac hb (ac hc (trivial)))) (by kernel_rfl)
      exact Ret.ofT (N := N) 19 (by kernel_rfl) (by kernel_rfl) [tb e1, .b true, tl l1] (fun z => ac e1 (ac e2 (ac l1 (z)))) (by kernel_rfl)
end
end Mine

set_option maxRecDepth 100000
set_option linter.unusedVariables false
set_option linter.unusedSimpArgs false
namespace Mine
open PySem

theorem len_ok {l : List PV} (h : l.length ≤ 100000) : bltAt .len [.list l] = some (.int l.length) := by
  show guard (sizeOk l.length) (PV.int l.length) = _
  rw [sizeOk_of h]; rfl
theorem zip_items {α : Type} (pv : α → PV) (fl : List Bool) : ∀ (args : List α), zipItems (fl.map .bool) (args.map pv) = (fl.zip args).map fun p => .tuple [.bool p.1, pv p.2] := by
  induction fl with
  | nil => intro args; rfl
  | cons a fl ih =>
    intro args
    cases args with
    | nil => rfl
    | cons b args => exact congrArg (PV.tuple [.bool a, pv b] :: ·) (ih args)

noncomputable def callL {α : Type} (nd : α → Env' → Option (List Str)) (env : Env') (l : List (Bool × α)) (o : Option (List Str)) : Option (List Str) := l.foldl (fun o p => if p.1 then bothS o (nd p.2 env) else o) o
noncomputable def callS {α : Type} (nd : α → Env' → Option (List Str)) (env : Env') (f : Str) (args : List α) : Option (List Str) := match lk f env with
  | none => some [f]
  | some k => if args.length < k.flags.length then some [f] else if k.div then none else callL nd env (k.flags.zip args) (bothS (some [f]) (some k.free))

section
variable {α : Type} {pv : α → PV} {nd : α → Env' → Option (List Str)} {N g : Nat} {env : Env'} {b : Bowl}
noncomputable abbrev callSt0 (f : Str) (L : List PV) (env : Env') (b : Bowl) (k : Sg) (o : Option (List Str)) : St := ⟨[("expr", appPV f L), ("env", envPV env), ("found", optPV o), ("known", sgPV k)], none, b⟩
noncomputable abbrev callSt (f : Str) (L : List PV) (env : Env') (b : Bowl) (k : Sg) (o : Option (List Str)) (p : PV × PV) : St := ⟨[("expr", appPV f L), ("env", envPV env), ("found", optPV o), ("known", sgPV k), ("flag", p.1), ("arg", p.2)], none, b⟩
def lastP {α : Type} (a : α) : List α → α
  | [] => a
  | x :: r => lastP x r
noncomputable def flPV (pv : α → PV) (p : Bool × α) : PV × PV := (.bool p.1, pv p.2)
def CallI (pv : α → PV) (nd : α → Env' → Option (List Str)) (env : Env') (b : Bowl) (g : Nat) (f : Str) (L : List PV) (k : Sg) (o0 : Option (List Str)) (q : Bool × α) (qs : List (Bool × α)) (xs : List PV) (st : St) : Prop :=
  (xs = (q :: qs).map (fun p : Bool × α => .tuple [.bool p.1, pv p.2]) ∧ st = callSt0 f L env b k o0) ∨
  ∃ o p r, xs = r.map (fun p : Bool × α => .tuple [.bool p.1, pv p.2]) ∧ st = callSt f L env b k o (flPV pv p) ∧ callL nd env r o = callL nd env (q :: qs) o0 ∧ olen o + r.length * g ≤ 60000 ∧ lastP p r = lastP q qs
theorem call_loop (hN : 20 ≤ N) (H : ∀ a : α, Ret N "needed" [pv a, envPV env] b (optPV (nd a env), b)) (G : ∀ a, olen (nd a env) ≤ g) (f : Str) (L : List PV) (k : Sg) (o0 : Option (List Str)) (q : Bool × α) (qs : List (Bool × α)) (hz : olen o0 + (q :: qs).length * g ≤ 60000) (hg : g ≤ 50000) :
    Loop N 18 "call_needs" [4] (CallI pv nd env b g f L k o0 q qs) (callSt f L env b k (callL nd env (q :: qs) o0) (flPV pv (lastP q qs))) ((q :: qs).map (fun p : Bool × α => .tuple [.bool p.1, pv p.2])) (callSt0 f L env b k o0) := by
  have hp : ∀ (o : Option (List Str)) (p : Bool × α) (r' : List (Bool × α)), olen o + (p :: r').length * g ≤ 60000 →
      Ret N "both" [optPV o, optPV (nd p.2 env)] b (optPV (bothS o (nd p.2 env)), b) ∧ olen (bothS o (nd p.2 env)) + r'.length * g ≤ 60000 ∧ olen o + r'.length * g ≤ 60000 := by
    intro o p r' h2
    rw [List.length_cons, Nat.add_mul, Nat.one_mul] at h2
    have := olen_both o (nd p.2 env)
    have := G p.2
    exact ⟨(both_ret' o (nd p.2 env) b (by (clear hg hz G H hN; omega))).mono hN, by (clear hg hz G H hN; omega), by (clear this hg hz G H hN; omega)⟩
  refine .mk (.inl ⟨rfl, rfl⟩) (fun s hI => ?_) fun v r st hI => ?_
  · rcases hI with ⟨hx, _⟩ | ⟨o, a, r, hx, rfl, h1, _, h3⟩
    · cases hx
    · cases r with
      | nil =>
        have h1 : o = callL nd env (q :: qs) o0 := h1
        have h3 : a = lastP q qs := h3
        rw [h1, h3]
      | cons _ _ => cases hx
  · rcases hI with ⟨hx, rfl⟩ | ⟨o, p, r', hx, rfl, h1, h2, h3⟩
    · cases hx
      obtain ⟨u, y⟩ := q
      refine ⟨[("flag", .bool u), ("arg", pv y)], by kernel_rfl, ?_⟩
      obtain ⟨hbo, h4, h5⟩ := hp o0 (u, y) qs hz
      have hn := H y
      cases u with
      | true =>
        have hc : CallI pv nd env b g f L k o0 (true, y) qs (qs.map (fun p : Bool × α => .tuple [.bool p.1, pv p.2])) (callSt f L env b k (bothS o0 (nd y env)) (flPV pv (true, y))) := .inr ⟨_, _, qs, rfl, rfl, rfl, h4, rfl⟩
        exact Ok.of [tr hn, tr hbo] (ac hn (ac hbo (ac hc (trivial)))) (by kernel_rfl)
      | false =>
        have hc : CallI pv nd env b g f L k o0 (false, y) qs (qs.map (fun p : Bool × α => .tuple [.bool p.1, pv p.2])) (callSt f L env b k o0 (flPV pv (false, y))) := .inr ⟨_, _, qs, rfl, rfl, rfl, h5, rfl⟩
        exact Ok.of [] (ac hc (trivial)) (by kernel_rfl)
    · cases r' with
      | nil => cases hx
      | cons w ws =>
        cases hx
        obtain ⟨u, y⟩ := w
        refine ⟨[("flag", .bool u), ("arg", pv y)], by kernel_rfl, ?_⟩
        obtain ⟨hbo, h4, h5⟩ := hp o (u, y) ws h2
        have hn := H y
        cases u with
        | true =>
          have hc : CallI pv nd env b g f L k o0 q qs (ws.map (fun p : Bool × α => .tuple [.bool p.1, pv p.2])) (callSt f L env b k (bothS o (nd y env)) (flPV pv (true, y))) := .inr ⟨_, _, ws, rfl, rfl, h1, h4, h3⟩
          exact Ok.of [tr hn, tr hbo] (ac hn (ac hbo (ac hc (trivial)))) (by kernel_rfl)
        | false =>
          have hc : CallI pv nd env b g f L k o0 q qs (ws.map (fun p : Bool × α => .tuple [.bool p.1, pv p.2])) (callSt f L env b k o (flPV pv (false, y))) := .inr ⟨_, _, ws, rfl, rfl, h1, h5, h3⟩
          exact Ok.of [] (ac hc (trivial)) (by kernel_rfl)

theorem call_ret (hN : 20 ≤ N) (H : ∀ a : α, Ret N "needed" [pv a, envPV env] b (optPV (nd a env), b)) (G : ∀ a, olen (nd a env) ≤ g) (f : Str) (args : List α) (hz : args.length * g ≤ 50000) (hg : g ≤ 50000) (hn : args.length ≤ 1000)
    (hk : ∀ k, lk f env = some k → k.flags.length ≤ 1000 ∧ k.free.length ≤ 1000) :
    Ret (N + 20) "call_needs" [appPV f (args.map pv), envPV env] b (optPV (callS nd env f args), b) := by
  have hl1 := len_ok (l := args.map pv) (by rw [List.length_map]; exact Nat.le_trans hn (by decide))
  have hfb : ∀ fr : List Str, fr.length ≤ 1000 → Ret N "both" [.dict [(f, tt)], kd fr] b (optPV (bothS (some [f]) (some fr)), b) := fun fr h => (both_ret' (some [f]) (some fr) b (by show 1 + fr.length ≤ _; (clear hl1 hk hn hg hz G H hN; omega))).mono hN
  unfold callS
  cases hlk : lk f env with
  | none =>
    have hget : dictGet (envKV env) [.str f] = some .none := by
      show some ((lk f (envKV env)).getD .none) = _
      rw [lk_env, hlk]; rfl
    exact Ret.ofT (N := N) 19 (by kernel_rfl) (by kernel_rfl) [.g, tv hget] (fun z => ac hget (z)) (by kernel_rfl)
  | some k =>
    obtain ⟨fl, fr, dv⟩ := k
    have hb := hk _ hlk
    dsimp only at hb ⊢
    have hget : dictGet (envKV env) [.str f] = some (sgPV ⟨fl, fr, dv⟩) := by
      show some ((lk f (envKV env)).getD .none) = _
      rw [lk_env, hlk]; rfl
    have hl2 := len_ok (l := fl.map .bool) (by rw [List.length_map]; (clear hget hlk hfb hl1 hk hn hg hz G H hN; omega))
    by_cases hlt : args.length < fl.length
    · have hc : cmp .Lt (.int (args.map pv).length) (.int (fl.map PV.bool).length) = some true := by
        show some (decide _) = _
        rw [List.length_map, List.length_map, decide_eq_true (by (clear hl2 hget hb hlk hfb hl1 hk hn hg hz G H hN; omega))]
      rw [if_pos hlt]
      exact Ret.ofT (N := N) 19 (by kernel_rfl) (by kernel_rfl) [.g, tv hget, .g, tv hl1, tv hl2, tb hc] (fun z => ac hget (ac hl1 (ac hl2 (ac hc (z))))) (by kernel_rfl)
    · have hc : cmp .Lt (.int (args.map pv).length) (.int (fl.map PV.bool).length) = some false := by
        show some (decide _) = _
        rw [List.length_map, List.length_map, decide_eq_false (by (clear hl2 hget hb hlk hfb hl1 hk hn hg hz G H hN; omega))]
      rw [if_neg hlt]
      cases dv with
      | true => exact Ret.ofT (N := N) 19 (by kernel_rfl) (by kernel_rfl) [.g, tv hget, .g, tv hl1, tv hl2, tb hc] (fun z => ac hget (ac hl1 (ac hl2 (ac hc (z))))) (by kernel_rfl)
      | false =>
        have hf := hfb fr hb.2
        have hzi := zip_items pv fl args
        have hz2 : sizeOk (zipItems (fl.map .bool) (args.map pv)).length = true := sizeOk_of (by rw [hzi, List.length_map, List.length_zip]; (clear hzi hf hget hlk hc hlt hl2 hb hfb hl1 hk hg hz G H hN; omega))
        cases hq : fl.zip args with
        | nil =>
          rw [hq] at hzi
          have l1 : Loop N 18 "call_needs" [4] (fun xs st => xs = [] ∧ st = callSt0 f (args.map pv) env b ⟨fl, fr, false⟩ (bothS (some [f]) (some fr))) (callSt0 f (args.map pv) env b ⟨fl, fr, false⟩ (bothS (some [f]) (some fr))) (zipItems (fl.map .bool) (args.map pv)) (callSt0 f (args.map pv) env b ⟨fl, fr, false⟩ (bothS (some [f]) (some fr))) :=
            .mk ⟨hzi, rfl⟩ (fun s h => h.2) fun v r s h => nomatch h.1
          exact Ret.ofT (N := N) 19 (by kernel_rfl) (by kernel_rfl) [.g, tv hget, .g, tv hl1, tv hl2, tb hc, tr hf, .b true, tl l1] (fun z => ac hget (ac hl1 (ac hl2 (ac hc (ac hf (ac hz2 (ac l1 (z)))))))) (by kernel_rfl)
        | cons q qs =>
          have hlen : (fl.zip args).length ≤ args.length := by rw [List.length_zip]; (clear hq hz2 hzi hf hget hlk hc hlt hl2 hb hfb hl1 hk hn hg hz G H hN; omega)
          have hq2 : (fl.zip args).length * g ≤ args.length * g := Nat.mul_le_mul_right g hlen
          have h0 := olen_both (some [f]) (some fr)
          have h01 : olen (some [f]) = 1 := rfl
          have h02 : olen (some fr) = fr.length := rfl
          have l0 := call_loop (b := b) hN H G f (args.map pv) ⟨fl, fr, false⟩ (bothS (some [f]) (some fr)) q qs (by rw [← hq]; (clear hlen hq hz2 hzi hf hget hlk hc hlt hl2 hfb hl1 hk hn hg G H hN; omega)) hg
          have l1 : Loop N 18 "call_needs" [4] (CallI pv nd env b g f (args.map pv) ⟨fl, fr, false⟩ (bothS (some [f]) (some fr)) q qs) (callSt f (args.map pv) env b ⟨fl, fr, false⟩ (callL nd env (q :: qs) (bothS (some [f]) (some fr))) (flPV pv (lastP q qs))) (zipItems (fl.map .bool) (args.map pv)) (callSt0 f (args.map pv) env b ⟨fl, fr, false⟩ (bothS (some [f]) (some fr))) := by
            rw [hzi, hq]; exact l0
          exact Ret.ofT (N := N) 19 (by kernel_rfl) (by kernel_rfl) [.g, tv hget, .g, tv hl1, tv hl2, tb hc, tr hf, .b true, tl l1] (fun z => ac hget (ac hl1 (ac hl2 (ac hc (ac hf (ac hz2 (ac l1 (z)))))))) (by kernel_rfl)

noncomputable def caseS (v a : Option (List Str)) (o : Option (Option (List Str))) (own : Str) : Option (List Str) := bothS v (eitherS (match o with | none => [withoutS a [own]] | some o => [withoutS a [own], withoutS o [own]]))
theorem olen_without (o : Option (List Str)) (l : List Str) : olen (withoutS o l) ≤ olen o := by
  cases o with
  | none => exact Nat.le_refl 0
  | some m =>
    show (unionS [] (m.filter _)).length ≤ m.length
    have h1 := len_unionS (m.filter fun x => !memS x l) []
    have h2 := List.length_filter_le (fun x => !memS x l) m
    simp only [List.length_nil] at h1
    omega
theorem olen_either : ∀ (o p : Option (List Str)), olen (eitherS [o, p]) ≤ olen o + olen p
  | none, none => (by simp [eitherS, olen])
  | none, some m => (by simp [eitherS, olen])
  | some l, none => (by simp [eitherS, olen])
  | some l, some m => by
    show (unionS [] (l.filter _)).length ≤ l.length + m.length
    have h1 := len_unionS (l.filter fun x => memS x m) []
    have h2 := List.length_filter_le (fun x => memS x m) l
    simp only [List.length_nil] at h1
    omega
theorem case_ret (hN : 20 ≤ N) (hcls : ∀ a : α, ∃ C fs, pv a = .inst C fs ∧ seq C "Lam" = false) (H : ∀ a : α, Ret N "needed" [pv a, envPV env] b (optPV (nd a env), b)) (G : ∀ a, olen (nd a env) ≤ g) (hg : g ≤ 30000) (v : α) (own : Str) (a : α) (o : Option α) :
    Ret (N + 20) "case_needs" [casePV (pv v) own (pv a) (match o with | none => .none | some o => pv o), envPV env] b (optPV (caseS (nd v env) (nd a env) (o.map fun o => nd o env) own), b) := by
  have hv := H v
  have ha := H a
  have Gv := G v
  have Ga := G a
  have lim : ∀ {o : Option (List Str)}, olen o ≤ 100000 → ∀ x, o = some x → x.length ≤ 100000 := by rintro o h x rfl; exact h
  have hwa := (without_ret (nd a env) [own] b (lim (by (clear lim Gv ha hv G H hcls hN; omega)))).mono hN
  have la := olen_without (nd a env) [own]
  cases o with
  | none =>
    have he := (either_one (withoutS (nd a env) [own]) b (lim (by (clear hwa lim Gv ha hv G H hcls hN; omega)))).mono hN
    have hb := (both_ret' (nd v env) (eitherS [withoutS (nd a env) [own]]) b (by
      have : olen (eitherS [withoutS (nd a env) [own]]) ≤ olen (withoutS (nd a env) [own]) := by cases withoutS (nd a env) [own] <;> exact Nat.le_refl _
      (clear he hwa lim ha hv G H hcls hN; omega))).mono hN
    exact Ret.ofT (N := N) 19 (by kernel_rfl) (by kernel_rfl) [.g, .g, tr ha, .g, .g, tr hwa, .g, .g, tr hv, tr he, tr hb] (fun z => ac ha (ac hwa (ac hv (ac he (ac hb (z)))))) (by kernel_rfl)
  | some o =>
    have ho := H o
    have Go := G o
    have lo := olen_without (nd o env) [own]
    have hwo := (without_ret (nd o env) [own] b (lim (by (clear lo ho la hwa lim Ga; omega)))).mono hN
    have he := (either_two (withoutS (nd a env) [own]) (withoutS (nd o env) [own]) b (lim (by (clear hwo lo Go; omega))) (lim (by (clear hwo ho la hwa lim Ga; omega)))).mono hN
    have hb := (both_ret' (nd v env) (eitherS [withoutS (nd a env) [own], withoutS (nd o env) [own]]) b (by
      have := olen_either (withoutS (nd a env) [own]) (withoutS (nd o env) [own])
      (clear he hwo ho hwa lim ha hv G H hcls hN; omega))).mono hN
    obtain ⟨C, fs, hpo, _⟩ := hcls o
    rw [hpo] at ho
    show Ret _ _ [casePV (pv v) own (pv a) (pv o), _] _ _
    rw [hpo]
    exact Ret.ofT (N := N) 19 (by kernel_rfl) (by kernel_rfl) [.g, .g, tr ha, .g, .g, tr hwa, .g, .g, tr ho, tr hwo, .g, tr hv, tr he, tr hb] (fun z => ac ha (ac hwa (ac ho (ac hwo (ac hv (ac he (ac hb (z)))))))) (by kernel_rfl)

/-! let -/
noncomputable def sigS (nd : α → Env' → Option (List Str)) (env : Env') (ps : List Str) (fb : α) : Sg := match nd fb env with
  | none => ⟨List.replicate ps.length true, [], true⟩
  | some l => ⟨ps.map fun p => memS p l, unionS [] (l.filter fun x => !memS x ps), false⟩
theorem sig_ret (hN : 20 ≤ N) (H : ∀ a : α, Ret N "needed" [pv a, envPV env] b (optPV (nd a env), b)) (G : ∀ a, olen (nd a env) ≤ g) (hg : g ≤ 30000) (ps : List Str) (hps : ps.length = 1 ∨ ps.length = 2) (fb : α) :
    Ret (N + 20) "signature_of" [lamPV ps (pv fb), envPV env] b (sgPV (sigS nd env ps fb), b) := by
  have hn := H fb
  have Gn := G fb
  have hh := (hopeful_ret ps.length b hps).mono hN
  have hl := len_ok (l := ps.map .str) (by rw [List.length_map]; (clear hh Gn hn hg G H hN; omega))
  rw [List.length_map] at hl
  unfold sigS
  cases hq : nd fb env with
  | none =>
    rw [hq] at hn
    exact Ret.ofT (N := N) 19 (by kernel_rfl) (by kernel_rfl) [tr hn, .g, tv hl, tr hh] (fun z => ac hn (ac hl (ac hh (z)))) (by kernel_rfl)
  | some l =>
    rw [hq] at hn Gn
    have hw := (without_ret (some l) ps b (by rintro x e; cases e; exact Nat.le_trans Gn (by exact Nat.le_trans hg (by decide)))).mono hN
    have hm : ∀ p, cmp .In (.str p) (kd l) = some (memS p l) := fun p => congrArg some (hasK_kv p l)
    have hps' : (∃ p, ps = [p]) ∨ ∃ p q, ps = [p, q] := by
      match ps, hps with
      | [p], _ => exact .inl ⟨p, rfl⟩
      | [p, q], _ => exact .inr ⟨p, q, rfl⟩
    rcases hps' with ⟨p, rfl⟩ | ⟨p, q, rfl⟩
    · have hp := hm p
      exact Ret.ofT (N := N) 19 (by kernel_rfl) (by kernel_rfl) [tr hn, .g, .g, .g, tb hp, tr hw] (fun z => ac hn (ac hp (ac hw (z)))) (by kernel_rfl)
    · have hp := hm p
      have hp2 := hm q
      exact Ret.ofT (N := N) 19 (by kernel_rfl) (by kernel_rfl) [tr hn, .g, .g, .g, tb hp, tb hp2, tr hw] (fun z => ac hn (ac hp (ac hp2 (ac hw (z))))) (by kernel_rfl)
theorem funs_lam (own : Str) (ps : List Str) (fb : PV) (b : Bowl) : Ret 20 "functions_in" [.list [.tuple [.str own, lamPV ps fb]]] b (.dict [(own, lamPV ps fb)], b) := by
  exact Ret.ofT (N := 0) 19 (by kernel_rfl) (by kernel_rfl) [] (fun z => z) (by kernel_rfl)
theorem funs_other (own : Str) {v : PV} (hv : ∃ C fs, v = .inst C fs ∧ seq C "Lam" = false) (b : Bowl) : Ret 20 "functions_in" [.list [.tuple [.str own, v]]] b (.dict [], b) := by
  obtain ⟨C, fs, rfl, hC⟩ := hv
  have hm : some (memS C ["Lam"]) = some false := by
    show some (match seq C "Lam" with | true => true | false => false) = _
    rw [hC]
  exact Ret.ofT (N := 0) 19 (by kernel_rfl) (by kernel_rfl) [.g, .g, tb hm] (fun z => ac hm (z)) (by kernel_rfl)
end
end Mine

set_option maxRecDepth 100000
set_option linter.unusedVariables false
set_option linter.unusedSimpArgs false
namespace Mine
open PySem

noncomputable def withS (o : Option (List Str)) (own : Str) (w : Option (List Str)) : Option (List Str) := withoutS (match o with | none => none | some l => if memS own l then bothS (some l) w else some l) [own]
theorem lim_of {n : Nat} {o : Option (List Str)} (h : olen o ≤ n) : ∀ x, o = some x → x.length ≤ n := by rintro x rfl; exact h

section
variable {α : Type} {pv : α → PV} {nd : α → Env' → Option (List Str)} {N g : Nat} {env : Env'} {b : Bowl}

theorem bound_lam (hN : 20 ≤ N) (H : ∀ a : α, Ret N "needed" [pv a, envPV env] b (optPV (nd a env), b)) (G : ∀ a, olen (nd a env) ≤ g) (hg : g ≤ 30000) (he : env.length ≤ 30000) (own : Str) (ps : List Str) (hps : ps.length = 1 ∨ ps.length = 2) (fb : α) (body : PV) :
    Ret (N + 40) "bound_env" [letPV own (lamPV ps (pv fb)) body, envPV env] b (envPV (put own (sigS nd env ps fb) env), b) := by
  have h1 := (funs_lam own ps (pv fb) b).mono (show 20 ≤ N + 20 by exact Nat.le_add_left _ _)
  have h2 := sig_ret (b := b) hN H G hg ps hps fb
  have h3 := (extended_ret (envKV env) [(own, sgPV (sigS nd env ps fb))] b (by unfold envKV; rw [List.length_map]; show env.length + 1 ≤ _; (clear h2 h1 hps hg G H hN; omega))).mono (show 20 ≤ N + 20 by exact Nat.le_add_left _ _)
  have h4 : storeAll (envKV env) [(own, sgPV (sigS nd env ps fb))] = envKV (put own (sigS nd env ps fb) env) := put_env _ _ _
  rw [h4] at h3
  have hs : seq own own = true := seq_iff.mpr rfl
  have h5 : lk own [(own, lamPV ps (pv fb))] = some (lamPV ps (pv fb)) := by
    show (match seq own own with | true => _ | false => _) = _
    rw [hs]
  have h6 : item (.dict [(own, lamPV ps (pv fb))]) (.str own) b = some (lamPV ps (pv fb)) := h5
  exact Ret.ofT (N := N + 20) 19 (by kernel_rfl) (by kernel_rfl) [tr h1, .g, .g, tv h6, tr h2, tr h3] (fun z => ac h1 (ac h6 (ac h2 (ac h3 (z))))) (by kernel_rfl)
theorem bound_other (he : env.length ≤ 30000) (own : Str) {v : PV} (hv : ∃ C fs, v = .inst C fs ∧ seq C "Lam" = false) (body : PV) :
    Ret 40 "bound_env" [letPV own v body, envPV env] b (envPV env, b) := by
  have h1 := funs_other own hv b
  have h3 := extended_ret (envKV env) [] b (by unfold envKV; rw [List.length_map]; show env.length + 0 ≤ _; exact Nat.le_trans he (by decide))
  have h4 : storeAll (envKV env) [] = envKV env := rfl
  rw [h4] at h3
  exact Ret.ofT (N := 20) 19 (by kernel_rfl) (by kernel_rfl) [tr h1, .g, .g, tr h3] (fun z => ac h1 (ac h3 (z))) (by kernel_rfl)

theorem with_ret (hN : 20 ≤ N) {o w : Option (List Str)} {own : Str} {v body inner : PV} (Hv : Ret N "needed" [v, envPV env] b (optPV w, b)) (ho : olen o ≤ 30000) (hw : olen w ≤ 30000) :
    Ret (N + 20) "with_binds" [optPV o, letPV own v body, inner, envPV env] b (optPV (withS o own w), b) := by
  have hs : seq own own = true := seq_iff.mpr rfl
  have h5 : lk own [(own, v)] = some v := by
    show (match seq own own with | true => _ | false => _) = _
    rw [hs]
  have hdl : delK own [(own, v)] = [] := by
    show (match seq own own with | true => _ | false => _) = _
    rw [hs]; rfl
  have hhas : hasK own [(own, v)] = true := by unfold hasK; rw [h5]; rfl
  have hin : cmp .In (.str own) (.dict [(own, v)]) = some true := congrArg some hhas
  cases o with
  | none =>
    have hwo := (without_ret none [own] b (by intro x e; cases e)).mono hN
    exact Ret.ofT (N := N) 19 (by kernel_rfl) (by kernel_rfl) [.g, .g, .g, .g, tr hwo] (fun z => ac hwo (z)) (by kernel_rfl)
  | some l =>
    have ho' : l.length ≤ 30000 := ho
    have hm : cmp .In (.str own) (kd l) = some (memS own l) := congrArg some (hasK_kv own l)
    show Ret _ _ _ _ (optPV (withoutS (if memS own l then bothS (some l) w else some l) [own]), b)
    cases hml : memS own l with
    | false =>
      rw [hml] at hm
      rw [if_neg Bool.false_ne_true]
      have hwo := (without_ret (some l) [own] b (lim_of (show l.length ≤ _ by exact Nat.le_trans ho (by decide)))).mono hN
      exact Ret.ofT (N := N) 19 (by kernel_rfl) (by kernel_rfl) [.g, .g, .g, .g, .g, .g, tb hin, .g, tb hm, .g, tr hwo] (fun z => ac hin (ac hm (ac hwo (z)))) (by kernel_rfl)
    | true =>
      rw [hml] at hm
      have hb := (both_ret' (some l) w b (by show l.length + _ ≤ _; (clear hml hm ho hin hhas hdl h5 hs Hv hN; omega))).mono hN
      have h2 := olen_both (some l) w
      have h2' : olen (some l) = l.length := rfl
      have hwo := (without_ret (bothS (some l) w) [own] b (lim_of (by (clear h2' hb hml hm ho' hin hhas hdl h5 hs Hv hN; omega)))).mono hN
      rw [if_pos rfl]
      cases hq : bothS (some l) w with
      | none =>
        rw [hq] at hwo hb
        exact Ret.ofT (N := N) 19 (by kernel_rfl) (by kernel_rfl) [.g, .g, .g, .g, .g, .g, tb hin, .g, tb hm, .g, tv h5, tr Hv, tr hb, .g, tr hwo] (fun z => ac hin (ac hm (ac h5 (ac Hv (ac hb (ac hwo (z))))))) (by kernel_rfl)
      | some l2 =>
        rw [hq] at hwo hb
        have hin2 : cmp .In (.str own) (.dict (delK own [(own, v)])) = some false := by
          show some (hasK own (delK own [(own, v)])) = _
          rw [hdl]; rfl
        exact Ret.ofT (N := N) 19 (by kernel_rfl) (by kernel_rfl) [.g, .g, .g, .g, .g, .g, tb hin, .g, tb hm, .g, tv h5, tr Hv, tr hb, .g, .g, .g, tb hin2, .g, tr hwo] (fun z => ac hin (ac hm (ac h5 (ac Hv (ac hb (ac hin2 (ac hwo (z)))))))) (by kernel_rfl)

end
end Mine

set_option maxRecDepth 100000
set_option linter.unusedVariables false
set_option linter.unusedSimpArgs false
namespace Mine
open PySem

section
variable {α : Type} {pv : α → PV} {nd : α → Env' → Option (List Str)} {N g : Nat} {env : Env'} {b : Bowl}
/-- what is asked of the bound signatures -/
structure EnvB (E : Nat) (env : Env') : Prop where
  len : env.length ≤ E
  sg : ∀ f k, lk f env = some k → k.flags.length ≤ E ∧ k.free.length ≤ E
structure NodeOK (t : Node α) : Prop where
  prim : ∀ op args, t = .prim op args → args.length ≤ 4
  app : ∀ f args, t = .app f args → args.length ≤ 4
  letf : ∀ own ps fb args, t = .letf own ps fb args → args.length ≤ 4 ∧ (ps.length = 1 ∨ ps.length = 2)
noncomputable def nodeS (nd : α → Env' → Option (List Str)) : Node α → Env' → Option (List Str)
  | .leaf (.var x), _ => some [x]
  | .leaf .lit, _ => some []
  | .prim op args, env => if seq op "error" then none else primS nd env args (some [])
  | .case v own a o, env => caseS (nd v env) (nd a env) (o.map fun o => nd o env) own
  | .lett own v b, env => withS (nd b env) own (nd v env)
  | .letf own ps fb args, env => withS (callS nd (put own (sigS nd env ps fb) env) own args) own (some [])
  | .app f args, env => callS nd env f args

theorem need_lam (ps : List Str) (fb env : PV) (b : Bowl) : Ret 20 "needed" [lamPV ps fb, env] b (optPV (some []), b) := by exact Ret.ofT (N := 0) 19 (by kernel_rfl) (by kernel_rfl) [] (fun z => z) (by kernel_rfl)
theorem need_leaf (l : Leaf) (b : Bowl) : Ret 20 "needed" [leafPV l, envPV env] b (optPV (nodeS nd (.leaf l) env), b) := by
  cases l with
  | var x => exact Ret.ofT (N := 0) 19 (by kernel_rfl) (by kernel_rfl) [] (fun z => z) (by kernel_rfl)
  | lit => exact Ret.ofT (N := 0) 19 (by kernel_rfl) (by kernel_rfl) [] (fun z => z) (by kernel_rfl)
theorem need_prim {op : Str} {args : PV} {r : PV × Bowl} (h : Ret N "prim_needs" [.inst "Prim" [("op", .str op), ("args", args)], envPV env] b (r.1, b)) : Ret (N + 20) "needed" [.inst "Prim" [("op", .str op), ("args", args)], envPV env] b (r.1, b) := by exact Ret.ofT (N := N) 19 (by kernel_rfl) (by kernel_rfl) [.g, .g, .g, tr h] (fun z => ac h (z)) (by kernel_rfl)
theorem need_app {f : Str} {args : PV} {r : PV} (h : Ret N "call_needs" [.inst "App" [("fun", varPV f), ("args", args)], envPV env] b (r, b)) : Ret (N + 20) "needed" [.inst "App" [("fun", varPV f), ("args", args)], envPV env] b (r, b) := by exact Ret.ofT (N := N) 19 (by kernel_rfl) (by kernel_rfl) [.g, .g, .g, .g, tr h] (fun z => ac h (z)) (by kernel_rfl)
theorem need_case {v own a o : PV} {r : PV} (h : Ret N "case_needs" [.inst "Case" [("value", v), ("name", own), ("alts", a), ("other", o)], envPV env] b (r, b)) : Ret (N + 20) "needed" [.inst "Case" [("value", v), ("name", own), ("alts", a), ("other", o)], envPV env] b (r, b) := by exact Ret.ofT (N := N) 19 (by kernel_rfl) (by kernel_rfl) [.g, .g, .g, .g, .g, tr h] (fun z => ac h (z)) (by kernel_rfl)
theorem need_let {v body : PV} {own : Str} {r : PV} (h : Ret N "let_needs" [letPV own v body, envPV env] b (r, b)) : Ret (N + 20) "needed" [letPV own v body, envPV env] b (r, b) := by exact Ret.ofT (N := N) 19 (by kernel_rfl) (by kernel_rfl) [.g, .g, .g, .g, .g, tr h] (fun z => ac h (z)) (by kernel_rfl)
theorem let_ret {v body inner : PV} {own : Str} {o r : PV} (h1 : Ret N "bound_env" [letPV own v body, envPV env] b (inner, b)) (h2 : Ret N "needed" [body, inner] b (o, b)) (h3 : Ret N "with_binds" [o, letPV own v body, inner, envPV env] b (r, b)) :
    Ret (N + 20) "let_needs" [letPV own v body, envPV env] b (r, b) := by exact Ret.ofT (N := N) 19 (by kernel_rfl) (by kernel_rfl) [tr h1, tr h2, tr h3] (fun z => ac h1 (ac h2 (ac h3 (z)))) (by kernel_rfl)

theorem olen_prim (G : ∀ a, olen (nd a env) ≤ g) : ∀ (args : List α) (o : Option (List Str)), olen (primS nd env args o) ≤ olen o + args.length * g
  | [], o => by simp [primS]
  | a :: args, o => by
    have := olen_prim G args (bothS o (nd a env))
    have h1 := olen_both o (nd a env)
    have h2 := G a
    unfold primS at this ⊢
    rw [List.foldl_cons, List.length_cons, Nat.add_mul, Nat.one_mul]
    omega
theorem olen_callL (G : ∀ a, olen (nd a env) ≤ g) : ∀ (l : List (Bool × α)) (o : Option (List Str)), olen (callL nd env l o) ≤ olen o + l.length * g
  | [], o => by simp [callL]
  | (u, a) :: l, o => by
    have := olen_callL G l (if u then bothS o (nd a env) else o)
    have h1 := olen_both o (nd a env)
    have h2 := G a
    unfold callL at this ⊢
    rw [List.foldl_cons, List.length_cons, Nat.add_mul, Nat.one_mul]
    refine Nat.le_trans this ?_
    cases u <;> simp <;> (clear this; omega)
theorem olen_call (G : ∀ a, olen (nd a env) ≤ g) {E : Nat} (hE : EnvB E env) (f : Str) (args : List α) (hn : args.length ≤ 4) : olen (callS nd env f args) ≤ 1 + E + 4 * g := by
  unfold callS
  cases hl : lk f env with
  | none => show 1 ≤ _; (clear hl hn; omega)
  | some k =>
    dsimp only
    split
    · show 1 ≤ _; omega
    · split
      · show 0 ≤ _; exact Nat.zero_le _
      · have h1 := olen_callL G (k.flags.zip args) (bothS (some [f]) (some k.free))
        have h2 := olen_both (some [f]) (some k.free)
        have h3 := (hE.sg f k hl).2
        have h4 : olen (some [f]) = 1 := rfl
        have h5 : olen (some k.free) = k.free.length := rfl
        have h6 : (k.flags.zip args).length * g ≤ 4 * g := Nat.mul_le_mul_right g (by rw [List.length_zip]; (clear h5 h4 h3 h2 h1; omega))
        omega
theorem olen_with (o : Option (List Str)) (own : Str) (w : Option (List Str)) : olen (withS o own w) ≤ olen o + olen w := by
  unfold withS
  refine Nat.le_trans (olen_without _ _) ?_
  cases o with
  | none => exact Nat.zero_le _
  | some l =>
    dsimp only
    split
    · exact olen_both _ _
    · exact Nat.le_add_right _ _
theorem sig_len (ps : List Str) (hps : ps.length = 1 ∨ ps.length = 2) (fb : α) (G : ∀ a, olen (nd a env) ≤ g) : (sigS nd env ps fb).flags.length ≤ 2 ∧ (sigS nd env ps fb).free.length ≤ g := by
  unfold sigS
  have h := G fb
  cases hq : nd fb env with
  | none => simp; (clear hq h; omega)
  | some l =>
    rw [hq] at h
    have h' : l.length ≤ g := h
    have h1 := len_unionS (l.filter fun x => !memS x ps) []
    have h2 := List.length_filter_le (fun x => !memS x ps) l
    simp only [List.length_nil, List.length_map] at *
    exact ⟨by (clear h2 h1 h' hq h; omega), by (clear hq h; omega)⟩
theorem EnvB.put {E : Nat} (hE : EnvB E env) (own : Str) {s : Sg} {n : Nat} (h1 : s.flags.length ≤ n) (h2 : s.free.length ≤ n) : EnvB (E + 1 + n) (put own s env) := by
  refine ⟨Nat.le_trans (put_len own s env) (by have := hE.len; (clear h2 h1; omega)), fun f k hk => ?_⟩
  rw [lk_put] at hk
  split at hk
  · cases hk; exact ⟨by (clear h2; omega), by (clear h1; omega)⟩
  · have := hE.sg f k hk; exact ⟨by (clear hk h2 h1; omega), by (clear hk h2 h1; omega)⟩

def eUp (g : Nat → Nat) (E : Nat) : Nat := E + 1 + (g E + 2)
def gUp (g : Nat → Nat) (E : Nat) : Nat := 1 + eUp g E + 4 * g (eUp g E) + 4 * g E
def okUp (g : Nat → Nat) (ok : Nat → Prop) (E : Nat) : Prop := ok E ∧ ok (eUp g E) ∧ gUp g E ≤ 1000

theorem need_node {N : Nat} (g : Nat → Nat) (ok : Nat → Prop) (hN : 20 ≤ N) (hcls : ∀ a : α, ∃ C fs, pv a = .inst C fs ∧ seq C "Lam" = false)
    (H : ∀ E, ok E → ∀ (a : α) (env : Env') b, EnvB E env → Ret N "needed" [pv a, envPV env] b (optPV (nd a env), b) ∧ olen (nd a env) ≤ g E)
    {E : Nat} (hok : okUp g ok E) {t : Node α} (ht : NodeOK t) {env : Env'} {b : Bowl} (hE : EnvB E env) :
    Ret (N + 100) "needed" [nodePV pv t, envPV env] b (optPV (nodeS nd t env), b) ∧ olen (nodeS nd t env) ≤ gUp g E := by
  obtain ⟨o1, o2, o3⟩ := hok
  have h1 := fun a => (H E o1 a env b hE).1
  have h2 := fun a => (H E o1 a env b hE).2
  have hg : gUp g E = 1 + eUp g E + 4 * g (eUp g E) + 4 * g E := rfl
  have he : eUp g E = E + 1 + (g E + 2) := rfl
  have hl := hE.len
  cases t with
  | leaf l =>
    refine ⟨(need_leaf l b).mono (by exact Nat.le_add_right_of_le hN), ?_⟩
    cases l
    · show 1 ≤ _; (clear ht hl he h2 h1 o3 o2 o1 hE H hcls hN; omega)
    · show 0 ≤ _; exact Nat.zero_le _
  | prim op args =>
    have hn := ht.prim op args rfl
    have hz : args.length * g E ≤ 4 * g E := Nat.mul_le_mul_right _ hn
    refine ⟨(need_prim (b := b) (r := (optPV (nodeS nd (.prim op args) env), b)) (prim_ret (b := b) hN h1 h2 op args (by (clear hn ht hl he h2 h1 o2 o1 hE H hcls hN; omega)) (by (clear hz hn ht hl he h2 h1 o2 o1 hE H hcls hN; omega)) (by exact Nat.le_trans hn (by decide)))).mono (by (clear hz hn ht hl he hg h2 h1 o3; omega)), ?_⟩
    show olen (if seq op "error" then none else primS nd env args (some [])) ≤ _
    split
    · exact Nat.zero_le _
    · have h3 := olen_prim h2 args (some [])
      have h4 : olen (some ([] : List Str)) = 0 := rfl
      (clear hn ht hl he h2 h1 o3 o2 o1 hE H hcls hN; omega)
  | case v own a o =>
    refine ⟨(need_case (b := b) (case_ret (b := b) hN hcls h1 h2 (by (clear ht hl he h2 h1 o2 o1 hE H hcls hN; omega)) v own a o)).mono (by (clear ht hl he hg h2 h1 o3; omega)), ?_⟩
    show olen (caseS (nd v env) (nd a env) (o.map fun o => nd o env) own) ≤ _
    unfold caseS
    have hv := h2 v
    have ha := h2 a
    have wa := olen_without (nd a env) [own]
    refine Nat.le_trans (olen_both _ _) ?_
    cases o with
    | none =>
      have : olen (eitherS [withoutS (nd a env) [own]]) ≤ olen (withoutS (nd a env) [own]) := by cases withoutS (nd a env) [own] <;> exact Nat.le_refl _
      dsimp only [Option.map_none]
      (clear ht hl he h2 h1 o3 o2 o1 hE H hcls hN; omega)
    | some o =>
      have ho := h2 o
      have wo := olen_without (nd o env) [own]
      have := olen_either (withoutS (nd a env) [own]) (withoutS (nd o env) [own])
      dsimp only [Option.map_some]
      (clear ht hl he h2 h1 o3 o2 o1 hE H hcls hN; omega)
  | lett own v bd =>
    have hv := h2 v
    have hb := h2 bd
    have k1 := (bound_other (env := env) (b := b) (by (clear hb hv ht h2 h1 o2 o1 hE H hcls hN; omega)) own (hcls v) (pv bd)).mono (show 40 ≤ N + 20 by (clear hb hv ht hl he hg h2 h1 o3; omega))
    have k2 := (h1 bd).mono (show N ≤ N + 20 by exact Nat.le_add_right _ _)
    have k3 := with_ret (b := b) (env := env) (body := pv bd) (inner := envPV env) (own := own) (o := nd bd env) hN (h1 v) (by (clear k2 k1 hv ht hl he h2 h1 o2 o1 hE H hcls hN; omega)) (by (clear k2 k1 hb ht hl he h2 h1 o2 o1 hE H hcls hN; omega))
    refine ⟨(need_let (let_ret (N := N + 20) k1 k2 k3)).mono (by (clear k3 k2 k1 hb hv ht hl he hg h2 h1 o3; omega)), ?_⟩
    have := olen_with (nd bd env) own (nd v env)
    show olen (withS (nd bd env) own (nd v env)) ≤ _
    (clear k3 k2 k1 ht hl he h2 h1 o3 o2 o1 hE H hcls hN; omega)
  | app f args =>
    have hn := ht.app f args rfl
    have hz : args.length * g E ≤ 4 * g E := Nat.mul_le_mul_right _ hn
    refine ⟨(need_app (b := b) (call_ret (b := b) hN h1 h2 f args (by omega) (by omega) (by omega) (fun k hk => by have := hE.sg f k hk; exact ⟨by (clear hk hz hn ht hl h2 h1 o2 o1 hE H hcls hN; omega), by (clear hk hz hn ht hl h2 h1 o2 o1 hE H hcls hN; omega)⟩))).mono (by omega), ?_⟩
    have := olen_call h2 hE f args hn
    show olen (callS nd env f args) ≤ _
    (clear hz hn ht hl h2 h1 o3 o2 o1 hE H hcls hN; omega)
  | letf own ps fb args =>
    obtain ⟨hn, hps⟩ := ht.letf own ps fb args rfl
    have sl := sig_len ps hps fb h2
    have hE2 : EnvB (eUp g E) (put own (sigS nd env ps fb) env) := hE.put own (by (clear hps hn ht hl he hg h2 h1 o3 o2 o1 hE H hcls hN; omega)) (by (clear hps hn ht hl he hg h2 h1 o3 o2 o1 hE H hcls hN; omega))
    have i1 := fun a => (H _ o2 a _ b hE2).1
    have i2 := fun a => (H _ o2 a _ b hE2).2
    have hz : args.length * g (eUp g E) ≤ 4 * g (eUp g E) := Nat.mul_le_mul_right _ hn
    have hc := olen_call i2 hE2 own args hn
    have k1 := bound_lam (b := b) hN h1 h2 (by (clear hc hz i2 i1 hE2 sl hps hn; omega)) (by (clear hc hz i2 i1 hE2 sl hps hn ht h2 h1 o2 o1 hE H hcls hN; omega)) own ps hps fb (appPV own (args.map pv))
    have k2 := need_app (b := b) (call_ret (b := b) hN i1 i2 own args (by (clear k1 hc i2 i1 hE2 sl hps hn ht hl he h2 h1 o2 o1 hE H hcls hN; omega)) (by (clear k1 hc hz i2 i1 hE2 sl hps hn ht hl he h2 h1 o2 o1 hE H hcls hN; omega)) (by exact Nat.le_trans hn (by decide)) (fun k hk => by have := hE2.sg own k hk; exact ⟨by (clear hk k1 hc hz i2 i1 hE2 sl hps hn ht hl he h2 h1 o2 o1 hE H hcls hN; omega), by (clear hk k1 hc hz i2 i1 hE2 sl hps hn ht hl he h2 h1 o2 o1 hE H hcls hN; omega)⟩))
    have k3 := with_ret (b := b) (env := env) (body := appPV own (args.map pv)) (inner := envPV (put own (sigS nd env ps fb) env)) (own := own) (o := callS nd (put own (sigS nd env ps fb) env) own args) hN ((need_lam ps (pv fb) (envPV env) b).mono hN) (by (clear k2 k1 hz i2 i1 hE2 sl hps hn ht hl he h2 h1 o2 o1 hE H hcls hN; omega)) (Nat.zero_le _)
    refine ⟨(need_let (let_ret (N := N + 60) (k1.mono (by exact Mine.upN rfl)) (k2.mono (by (clear k3 k2 k1 hc hz i2 i1 hE2 sl hps hn ht hl he hg h2 h1 o3; omega))) (k3.mono (by exact Mine.upN rfl)))).mono (by exact Nat.le_refl _), ?_⟩
    have := olen_with (callS nd (put own (sigS nd env ps fb) env) own args) own (some [])
    have h4 : olen (some ([] : List Str)) = 0 := rfl
    show olen (withS _ own (some [])) ≤ _
    (clear k3 k2 k1 hz i2 i1 hE2 sl hps hn ht hl he h2 h1 o3 o2 o1 hE H hcls hN; omega)
end

/-! trees by their depth -/
def Tr : Nat → Type
  | 0 => Leaf
  | n + 1 => { t : Node (Tr n) // NodeOK t }
noncomputable def pvT : (n : Nat) → Tr n → PV
  | 0 => leafPV
  | n + 1 => fun t => nodePV (pvT n) t.1
noncomputable def ndT : (n : Nat) → Tr n → Env' → Option (List Str)
  | 0 => fun l env => nodeS (α := Leaf) (fun _ _ => none) (.leaf l) env
  | n + 1 => fun t env => nodeS (ndT n) t.1 env
def gT : Nat → Nat → Nat
  | 0 => fun _ => 1
  | n + 1 => gUp (gT n)
def okT : Nat → Nat → Prop
  | 0 => fun _ => True
  | n + 1 => okUp (gT n) (okT n)
theorem clsT : ∀ (n : Nat) (a : Tr n), ∃ C fs, pvT n a = .inst C fs ∧ seq C "Lam" = false
  | 0, .var x => ⟨_, _, rfl, rfl⟩
  | 0, .lit => ⟨_, _, rfl, rfl⟩
  | n + 1, ⟨.leaf (.var x), _⟩ => ⟨_, _, rfl, rfl⟩
  | n + 1, ⟨.leaf .lit, _⟩ => ⟨_, _, rfl, rfl⟩
  | n + 1, ⟨.prim .., _⟩ => ⟨_, _, rfl, rfl⟩
  | n + 1, ⟨.case .., _⟩ => ⟨_, _, rfl, rfl⟩
  | n + 1, ⟨.lett .., _⟩ => ⟨_, _, rfl, rfl⟩
  | n + 1, ⟨.letf .., _⟩ => ⟨_, _, rfl, rfl⟩
  | n + 1, ⟨.app .., _⟩ => ⟨_, _, rfl, rfl⟩
theorem need_T : ∀ (n E : Nat), okT n E → ∀ (a : Tr n) (env : Env') b, EnvB E env → Ret (20 + 100 * n) "needed" [pvT n a, envPV env] b (optPV (ndT n a env), b) ∧ olen (ndT n a env) ≤ gT n E
  | 0, E, _, a, env, b, hE => ⟨need_leaf a b, by cases a <;> simp [ndT, nodeS, olen, gT]⟩
  | n + 1, E, hok, a, env, b, hE => need_node (gT n) (okT n) (by exact Nat.le_add_right _ _) (clsT n) (fun E h a env b hE => need_T n E h a env b hE) hok a.2 hE
end Mine

set_option maxRecDepth 100000
set_option linter.unusedVariables false
set_option linter.unusedSimpArgs false
namespace Mine
open PySem

/-! the law's own walk: its data -/
structure Row where
  flags : List Bool
  names : List Str
  nv : Bool
noncomputable def rowPV (r : Row) : PV := .list [boolsPV r.flags, strsPV r.names, .bool r.nv]
noncomputable abbrev Tab' := List (Str × Row)
noncomputable def tabKV (t : Tab') : List (Str × PV) := t.map fun p => (p.1, rowPV p.2)
noncomputable abbrev tabPV (t : Tab') : PV := .dict (tabKV t)
theorem lk_tab (x : Str) (e : Tab') : lk x (tabKV e) = (lk x e).map rowPV := by
  induction e with
  | nil => rfl
  | cons p e ih =>
    show (match seq x p.1 with | true => some (rowPV p.2) | false => lk x (tabKV e)) = Option.map rowPV (match seq x p.1 with | true => some p.2 | false => lk x e)
    rw [ih]
    cases seq x p.1 <;> rfl
theorem put_tab (x : Str) (s : Row) (e : Tab') : put x (rowPV s) (tabKV e) = tabKV (put x s e) := by
  induction e with
  | nil => rfl
  | cons p e ih =>
    show (match seq x p.1 with | true => (p.1, rowPV s) :: tabKV e | false => (p.1, rowPV p.2) :: put x (rowPV s) (tabKV e)) = tabKV (match seq x p.1 with | true => (p.1, s) :: e | false => p :: put x s e)
    rw [ih]
    cases seq x p.1 <;> rfl
structure TabB (R : Nat) (tab : Tab') : Prop where
  len : tab.length ≤ R
  row : ∀ f r, lk f tab = some r → (r.flags.length = 1 ∨ r.flags.length = 2 ∨ r.flags.length = 3) ∧ r.names.length ≤ R
noncomputable def rnS (x : Str) (tab : Tab') : List Str := match lk x tab with
  | none => []
  | some r => r.names
theorem TabB.rn {R : Nat} {tab : Tab'} (h : TabB R tab) (x : Str) : (rnS x tab).length ≤ R := by
  unfold rnS
  cases hq : lk x tab with
  | none => exact Nat.zero_le _
  | some r => exact (h.row x r hq).2


/-! parts -/
section
variable {N : Nat} {b : Bowl} {tab : Tab'}
theorem fold_append {β : Type} (f : β → PV) (l : List β) (k : List PV) : l.foldl (fun (a : List PV) v => a ++ [f v]) k = k ++ l.map f := by
  induction l generalizing k with
  | nil => exact (List.append_nil k).symm
  | cons v r ih => rw [List.foldl_cons, ih, List.append_assoc]; rfl
theorem parts_prim (op : PV) (args : List PV) (h : args.length ≤ 1000) (b : Bowl) : Ret 20 "Prim.parts" [.inst "Prim" [("op", op), ("args", .list args)]] b (.list (args.map fun v => .tuple [v, .tuple []]), b) := by
  have hz : sizeOk args.length = true := sizeOk_of (by exact Nat.le_trans h (by decide))
  have l1 := LComp.name (N := 0) (k := 17) (f := "Prim.parts") (p := [0]) (q := []) (x := "arg") (st0 := ⟨[], none, b⟩) (xs := args) (fun v acc => acc ++ [.tuple [v, .tuple []]]) (acc := []) rfl (fun v => by kernel_rfl) (fun v hv acc C hC => by exact Ok.of [] (ac hC (trivial)) (by kernel_rfl))
  have e2 : (PV.list (args.foldl (fun a v => (fun (v : PV) acc => acc ++ [.tuple [v, .tuple []]]) v a) []), b) = (PV.list (args.map fun v => .tuple [v, .tuple []]), b) := congrArg (fun l => (PV.list l, b)) (fold_append _ args [])
  exact Ret.ofE (N := 0) 19 (by kernel_rfl) (by kernel_rfl) [.b true, tcl l1] (ac hz (ac l1 (ac e2 (trivial)))) (by kernel_rfl)
theorem parts_app (f : PV) (args : List PV) (h : args.length ≤ 1000) (b : Bowl) : Ret 20 "App.parts" [.inst "App" [("fun", f), ("args", .list args)]] b (.list (.tuple [f, .tuple []] :: args.map fun v => .tuple [v, .tuple []]), b) := by
  have hz : sizeOk args.length = true := sizeOk_of (by exact Nat.le_trans h (by decide))
  have hadd : binop .Add (.list [.tuple [f, .tuple []]]) (.list (args.foldl (fun a v => (fun (v : PV) acc => acc ++ [.tuple [v, .tuple []]]) v a) [])) = some (.list (.tuple [f, .tuple []] :: args.map fun v => .tuple [v, .tuple []])) := by
    rw [show args.foldl (fun (a : List PV) v => (fun (v : PV) (acc : List PV) => acc ++ [PV.tuple [v, .tuple []]]) v a) [] = args.map fun v => PV.tuple [v, .tuple []] from fold_append _ args []]
    show guard (sizeOk (1 + (args.map _).length)) (PV.list _) = _
    rw [sizeOk_of (by rw [List.length_map]; omega)]
    rfl
  have l1 := LComp.name (N := 0) (k := 16) (f := "App.parts") (p := [0]) (q := [1]) (x := "arg") (st0 := ⟨[], none, b⟩) (xs := args) (fun v acc => acc ++ [.tuple [v, .tuple []]]) (acc := []) rfl (fun v => by kernel_rfl) (fun v hv acc C hC => by exact Ok.of [] (ac hC (trivial)) (by kernel_rfl))
  exact Ret.ofT (N := 0) 19 (by kernel_rfl) (by kernel_rfl) [.b true, tcl l1, tv hadd] (fun z => ac hz (ac l1 (ac hadd (z)))) (by kernel_rfl)
theorem parts_lam (ps : List Str) (fb : PV) (b : Bowl) : Ret 20 "Lam.parts" [lamPV ps fb] b (.list [.tuple [fb, .tuple [.int 0]]], b) := by exact Ret.ofT (N := 0) 19 (by kernel_rfl) (by kernel_rfl) [] (fun z => z) (by kernel_rfl)
theorem parts_let (own : Str) (v bd : PV) (b : Bowl) : Ret 20 "Let.parts" [letPV own v bd] b (.list [.tuple [v, .tuple []], .tuple [bd, .tuple [.int 0]]], b) := by exact Ret.ofT (N := 0) 19 (by kernel_rfl) (by kernel_rfl) [] (fun z => z) (by kernel_rfl)
theorem parts_var (x : Str) (b : Bowl) : Ret 20 "Var.parts" [varPV x] b (.list [], b) := by exact Ret.ofT (N := 0) 19 (by kernel_rfl) (by kernel_rfl) [] (fun z => z) (by kernel_rfl)
theorem parts_lit (b : Bowl) : Ret 20 "Lit.parts" [leafPV .lit] b (.list [], b) := by exact Ret.ofT (N := 0) 19 (by kernel_rfl) (by kernel_rfl) [] (fun z => z) (by kernel_rfl)
theorem parts_case1 (v : PV) (own : Str) (a : PV) (b : Bowl) : Ret 20 "Case.parts" [casePV v own a .none] b (.list [.tuple [v, .tuple []], .tuple [a, .tuple [.int 0, .int 1]]], b) := by exact Ret.ofT (N := 0) 19 (by kernel_rfl) (by kernel_rfl) [] (fun z => z) (by kernel_rfl)
theorem parts_case2 (v : PV) (own : Str) (a : PV) (C : Str) (fs : List (Str × PV)) (b : Bowl) : Ret 20 "Case.parts" [casePV v own a (.inst C fs)] b (.list [.tuple [v, .tuple []], .tuple [a, .tuple [.int 0, .int 1]], .tuple [.inst C fs, .tuple [.int 0]]], b) := by exact Ret.ofT (N := 0) 19 (by kernel_rfl) (by kernel_rfl) [] (fun z => z) (by kernel_rfl)

noncomputable def unions (l : List (List Str)) (acc : List Str) : List Str := l.foldl unionS acc
theorem len_unions (l : List (List Str)) (acc : List Str) {g : Nat} (h : ∀ x ∈ l, x.length ≤ g) : (unions l acc).length ≤ acc.length + l.length * g := by
  induction l generalizing acc with
  | nil => simp [unions]
  | cons x r ih =>
    have h1 := ih (unionS acc x) fun y hy => h y (.tail _ hy)
    have h2 := len_unionS x acc
    have h3 := h x (.head _)
    unfold unions at h1 ⊢
    rw [List.foldl_cons, List.length_cons, Nat.add_mul, Nat.one_mul]
    omega
theorem mem_unions {x : Str} (l : List (List Str)) (acc : List Str) : x ∈ unions l acc ↔ x ∈ acc ∨ ∃ y ∈ l, x ∈ y := by
  induction l generalizing acc with
  | nil => simp [unions]
  | cons z r ih =>
    have h1 := ih (unionS acc z)
    unfold unions at h1 ⊢
    rw [List.foldl_cons, h1, mem_unionS]
    simp [or_assoc]


noncomputable abbrev varSt0 (x : Str) (tab : Tab') (b : Bowl) : St := ⟨[("expr", varPV x), ("table", tabPV tab), ("found", kd [x])], some "found", b⟩
noncomputable abbrev varSt (x : Str) (tab : Tab') (b : Bowl) (l : List Str) (u : PV) : St := ⟨[("expr", varPV x), ("table", tabPV tab), ("found", kd l), ("one", u)], some "found", b⟩
def VarI (x : Str) (tab : Tab') (b : Bowl) (y : Str) (ys : List Str) (xs : List PV) (st : St) : Prop := (xs = (y :: ys).map .str ∧ st = varSt0 x tab b) ∨
  ∃ l u r, xs = r.map PV.str ∧ st = varSt x tab b l u ∧ unionS l r = unionS [x] (y :: ys) ∧ l.length + r.length ≤ 2000 ∧ lastO u xs = lastO (.str y) (ys.map .str)
theorem names_var (x : Str) (b : Bowl) (h : (rnS x tab).length ≤ 1000) : Ret 40 "_law_names" [varPV x, tabPV tab] b (kd (unionS [x] (rnS x tab)), b) := by
  have hp := parts_var x b
  have hget : dictGet (tabKV tab) [.str x, .list [.list [], .list [], .bool false]] = some (match lk x tab with | none => .list [.list [], .list [], .bool false] | some r => rowPV r) := by
    show some ((lk x (tabKV tab)).getD _) = _
    rw [lk_tab]
    cases lk x tab <;> rfl
  have hi : item (match lk x tab with | none => .list [.list [], .list [], .bool false] | some r => rowPV r) (.int 1) b = some (strsPV (rnS x tab)) := by
    unfold rnS
    cases lk x tab <;> rfl
  cases hq : rnS x tab with
  | nil =>
    rw [hq] at hi
    exact Ret.ofT (N := 20) 19 (by kernel_rfl) (by kernel_rfl) [.g, .g, tv hget, tv hi, .g, .g, tr hp] (fun z => ac hget (ac hi (ac hp (z)))) (by kernel_rfl)
  | cons y ys =>
    rw [hq] at hi h
    have hz : sizeOk ((y :: ys).map PV.str).length = true := sizeOk_of (by rw [List.length_map]; exact Nat.le_trans h (by decide))
    have l1 : Loop 20 17 "_law_names" [1, 1] (VarI x tab b y ys) (varSt x tab b (unionS [x] (y :: ys)) (lastO (.str y) (ys.map .str))) ((y :: ys).map .str) (varSt0 x tab b) := by
      refine .mk (.inl ⟨rfl, rfl⟩) (fun s hI => ?_) fun v r st hI => ⟨[("one", v)], by kernel_rfl, ?_⟩
      · rcases hI with ⟨hx, _⟩ | ⟨l, u, r, hx, rfl, h1, _, h3⟩
        · cases hx
        · cases r with
          | nil =>
            have h1 : l = unionS [x] (y :: ys) := h1
            have h3 : u = lastO (.str y) (ys.map .str) := h3
            rw [h1, h3]
          | cons _ _ => cases hx
      · rcases hI with ⟨hx, rfl⟩ | ⟨l, u, r', hx, rfl, h1, h2, h3⟩
        · cases hx
          have hc : VarI x tab b y ys (ys.map .str) (varSt x tab b (putS y [x]) (.str y)) := .inr ⟨_, _, ys, rfl, rfl, rfl, by have := len_putS y [x]; rw [List.length_cons] at h; simp only [List.length_cons, List.length_nil] at *; omega, rfl⟩
          rw [varSt, kd, ← put_kv] at hc
          exact Ok.of [] (ac hc (trivial)) (by kernel_rfl)
        · cases r' with
          | nil => cases hx
          | cons z zs =>
            cases hx
            have hz1 : sizeOk (kv l).length = true := sizeOk_of (by rw [kv_len]; rw [List.length_cons] at h2; (clear h3 h1 hz hq hi h; omega))
            have hc : VarI x tab b y ys (zs.map .str) (varSt x tab b (putS z l) (.str z)) := .inr ⟨_, _, zs, rfl, rfl, h1, by have := len_putS z l; simp only [List.length_cons] at *; (clear hz1 h3 h1 hz hq hi h; omega), h3⟩
            rw [varSt, kd, ← put_kv] at hc
            exact Ok.of [.b true] (ac hz1 (ac hc (trivial))) (by kernel_rfl)
    exact Ret.ofT (N := 20) 19 (by kernel_rfl) (by kernel_rfl) [.g, .g, tv hget, tv hi, .b true, tl l1, tr hp] (fun z => ac hget (ac hi (ac hz (ac l1 (ac hp (z)))))) (by kernel_rfl)

structure Part where
  part : PV
  scope : PV
  nm : List Str
noncomputable def partPV (p : Part) : PV := .tuple [p.part, p.scope]
noncomputable abbrev pSt0 (C : Str) (fs : List (Str × PV)) (tab : Tab') (b : Bowl) : St := ⟨[("expr", .inst C fs), ("table", tabPV tab), ("found", .dict [])], some "found", b⟩
noncomputable abbrev pSt (C : Str) (fs : List (Str × PV)) (tab : Tab') (b : Bowl) (l : List Str) (p : Part) : St := ⟨[("expr", .inst C fs), ("table", tabPV tab), ("found", kd l), ("part", p.part), ("scope", p.scope)], some "found", b⟩
def PartI (C : Str) (fs : List (Str × PV)) (tab : Tab') (b : Bowl) (g : Nat) (y : Part) (ys : List Part) (xs : List PV) (st : St) : Prop := (xs = (y :: ys).map partPV ∧ st = pSt0 C fs tab b) ∨
  ∃ (l : List Str) (u : Part) (r : List Part), xs = r.map partPV ∧ st = pSt C fs tab b l u ∧ unions (r.map (·.nm)) l = unions ((y :: ys).map (·.nm)) [] ∧ l.length + r.length * g ≤ 50000 ∧ (∀ p ∈ r, p ∈ y :: ys) ∧ lastP u r = lastP y ys
theorem names_parts (hN : 20 ≤ N) {C : Str} {fs : List (Str × PV)} (hC : seq C "Var" = false) (ps : List Part) (g : Nat) (hp : Ret N (C ++ "." ++ "parts") [.inst C fs] b (.list (ps.map partPV), b))
    (hn : ∀ p ∈ ps, Ret N "_law_names" [p.part, tabPV tab] b (kd p.nm, b) ∧ p.nm.length ≤ g) (hl : ps.length ≤ 100) (hz : ps.length * g ≤ 50000) :
    Ret (N + 20) "_law_names" [.inst C fs, tabPV tab] b (kd (unions (ps.map (·.nm)) []), b) := by
  have hm : some (memS C ["Var"]) = some false := by
    show some (match seq C "Var" with | true => true | false => false) = _
    rw [hC]
  cases ps with
  | nil => exact Ret.ofT (N := N) 19 (by kernel_rfl) (by kernel_rfl) [tb hm, tr hp] (fun z => ac hm (ac hp (z))) (by kernel_rfl)
  | cons y ys =>
    have hz0 : sizeOk ((y :: ys).map partPV).length = true := sizeOk_of (by rw [List.length_map]; exact Nat.le_trans hl (by decide))
    have l1 : Loop N 18 "_law_names" [2] (PartI C fs tab b g y ys) (pSt C fs tab b (unions ((y :: ys).map (·.nm)) []) (lastP y ys)) ((y :: ys).map partPV) (pSt0 C fs tab b) := by
      refine .mk (.inl ⟨rfl, rfl⟩) (fun s hI => ?_) fun v r st hI => ?_
      · rcases hI with ⟨hx, _⟩ | ⟨l, u, r, hx, rfl, h1, _, _, h3⟩
        · cases hx
        · cases r with
          | nil =>
            have h1 : l = unions ((y :: ys).map (·.nm)) [] := h1
            have h3 : u = lastP y ys := h3
            rw [h1, h3]
          | cons _ _ => cases hx
      · rcases hI with ⟨hx, rfl⟩ | ⟨l, u, r', hx, rfl, h1, h2, h3, h4⟩
        · cases hx
          obtain ⟨y1, y2, y3⟩ := y
          obtain ⟨hny, hly⟩ := hn ⟨y1, y2, y3⟩ (.head _)
          dsimp only at hny hly
          refine ⟨[("part", y1), ("scope", y2)], by kernel_rfl, ?_⟩
          rw [List.length_cons, Nat.add_mul, Nat.one_mul] at hz
          have hz1 : sizeOk (([] : List (Str × PV)).length + (kv y3).length) = true := sizeOk_of (by rw [kv_len]; show 0 + _ ≤ _; (clear hny hz0 hl hn hp hm hC hN; omega))
          have hc : PartI C fs tab b g ⟨y1, y2, y3⟩ ys (ys.map partPV) (pSt C fs tab b (unionS [] y3) ⟨y1, y2, y3⟩) := .inr ⟨_, _, ys, rfl, rfl, rfl, by have := len_unionS y3 []; rw [List.length_nil] at this; (clear hz1 hny hz0 hl hn hp hm hC hN; omega), fun p hp => .tail _ hp, rfl⟩
          rw [pSt, kd, ← storeAll_kv] at hc
          exact Ok.of [tr hny, .b true] (ac hny (ac hz1 (ac hc (trivial)))) (by kernel_rfl)
        · cases r' with
          | nil => cases hx
          | cons z zs =>
            cases hx
            obtain ⟨y1, y2, y3⟩ := z
            obtain ⟨hny, hly⟩ := hn ⟨y1, y2, y3⟩ (h3 _ (.head _))
            dsimp only at hny hly
            refine ⟨[("part", y1), ("scope", y2)], by kernel_rfl, ?_⟩
            rw [List.length_cons, Nat.add_mul, Nat.one_mul] at h2
            have hz1 : sizeOk ((kv l).length + (kv y3).length) = true := sizeOk_of (by rw [kv_len, kv_len]; (clear hny h4 h3 h1 hz0 hz hl hn hp hm hC hN; omega))
            have hc : PartI C fs tab b g y ys (zs.map partPV) (pSt C fs tab b (unionS l y3) ⟨y1, y2, y3⟩) := .inr ⟨_, _, zs, rfl, rfl, h1, by have := len_unionS y3 l; (clear hz1 hny h4 h3 h1 hz0 hz hl hn hp hm hC hN; omega), fun p hp => h3 p (.tail _ hp), h4⟩
            rw [pSt, kd, ← storeAll_kv] at hc
            exact Ok.of [tr hny, .b true] (ac hny (ac hz1 (ac hc (trivial)))) (by kernel_rfl)
    exact Ret.ofT (N := N) 19 (by kernel_rfl) (by kernel_rfl) [tb hm, tr hp, .b true, tl l1] (fun z => ac hm (ac hp (ac hz0 (ac l1 (z))))) (by kernel_rfl)
end
end Mine

set_option maxRecDepth 100000
set_option linter.unusedVariables false
set_option linter.unusedSimpArgs false
namespace Mine
open PySem

def NearM {β α : Type} (pv : β → PV) (st0 : St) (x : Str) (g : β → α → α) (l : List β) (R : α) (xs : List PV) (a : α) (s : St) : Prop := ∃ r : List β, xs = r.map pv ∧ (∀ v ∈ r, v ∈ l) ∧ Near st0 x s ∧ r.foldl (fun a v => g v a) a = R
section
variable {β : Type} {N k : Nat} {f : Str} {p q : List Nat} {st0 : St} {x : Str} {l : List β}
theorem LComp.map (pv : β → PV) (g : β → List PV → List PV) {acc : List PV} (h0 : st0.own = none) (hb : ∀ v, bindT (compSc f p q) (compIn f p q).tgt v = some [(x, v)]) (h1 : ∀ y ∈ l, ∀ acc, ∀ C : List PV → St → Prop, C (g y acc) (st0.put1 x (pv y)) → Ok (lcT N k f p q [(x, pv y)] st0 acc fun a1 s1 => fin (C a1 s1))) :
    LComp N k f p q (NearM pv st0 x g l (l.foldl (fun a v => g v a) acc)) (l.foldl (fun a v => g v a) acc) st0.bowl (l.map pv) acc st0 := by
  refine .mk ⟨l, rfl, fun _ h => h, .inl rfl, rfl⟩ (fun a s h => ?_) fun v r a s h => ⟨[(x, v)], hb v, ?_⟩
  · obtain ⟨r, hr, _, h2, h3⟩ := h
    cases r with
    | nil =>
      refine ⟨h3, ?_⟩
      rcases h2 with rfl | ⟨u, rfl⟩ <;> rfl
    | cons _ _ => cases hr
  · obtain ⟨r', hr, h2, h3, h4⟩ := h
    cases r' with
    | nil => cases hr
    | cons y ys =>
      cases hr
      have e : ∀ K, lcT N k f p q [(x, pv y)] s a K = lcT N k f p q [(x, pv y)] st0 a K := fun K => by unfold lcT wTurn; rw [h3.put h0]
      rw [e]
      exact h1 y (h2 y (.head _)) a _ ⟨ys, rfl, fun w hw => h2 w (.tail _ hw), .inr ⟨pv y, rfl⟩, h4⟩
end
theorem boolIn_map (b : Bool) (l : List Bool) : boolIn b (l.map .bool) = some (l.any (· == b)) := by
  induction l with
  | nil => rfl
  | cons c l ih =>
    show (boolIn b (l.map .bool)).map (c == b || ·) = _
    rw [ih]; rfl
theorem contains_bools (b : Bool) (l : List Bool) : contains (.bool b) (.list (l.map .bool)) = some (l.any (· == b)) := boolIn_map b l
theorem contains_strs (x : Str) (l : List Str) : contains (.str x) (.list (l.map .str)) = some (memS x l) := by
  show (strsOf (l.map .str)).map (memS x) = _
  rw [strsOf_map]; rfl
theorem fold_bools {β : Type} (q : β → Bool) (l : List β) (k : List PV) : l.foldl (fun (a : List PV) y => a ++ [.bool (q y)]) k = k ++ (l.map q).map .bool := by
  rw [List.map_map]; exact fold_append (fun y => .bool (q y)) l k
theorem fold_strs (q : Str → Bool) (l : List Str) (k : List PV) : l.foldl (fun (a : List PV) y => if q y then a ++ [.str y] else a) k = k ++ (l.filter q).map .str := by
  induction l generalizing k with
  | nil => exact (List.append_nil k).symm
  | cons v r ih =>
    rw [List.foldl_cons, ih]
    cases h : q v with
    | true => rw [List.filter_cons_of_pos h, if_pos rfl, List.append_assoc]; rfl
    | false => rw [List.filter_cons_of_neg (by rw [h]; exact Bool.false_ne_true), if_neg Bool.false_ne_true]
/-- true in [.. for ..] -/
theorem any_true {β : Type} (q : β → Bool) (l : List β) : cmp .In (.bool true) (.list (l.foldl (fun (a : List PV) y => a ++ [.bool (q y)]) [])) = some (l.any q) := by
  rw [fold_bools, List.nil_append]
  show contains (.bool true) (.list ((l.map q).map .bool)) = _
  rw [contains_bools, List.any_map]
  congr 2
  funext a
  show (q a == true) = q a
  cases q a <;> rfl

noncomputable def strictS {α : Type} (f : Str) (args : List α) (tab : Tab') : Option (List α) := match lk f tab with
  | none => none
  | some r => if args.length < r.flags.length then none else some (((r.flags.zip args).filter (·.1)).map (·.2))
noncomputable def appNev {α : Type} (nev : α → Tab' → Bool) (f : Str) (args : List α) (ctx tab : Tab') : Bool := match strictS f args tab with
  | none => false
  | some l => (match lk f tab with | some r => r.nv | none => false) || l.any (nev · tab)
noncomputable def appNee {α : Type} (nee : Str → α → Tab' → Bool) (x f : Str) (args : List α) (tab : Tab') : Bool := seq f x || match strictS f args tab with
  | none => false
  | some l => memS x (rnS f tab) || l.any (nee x · tab)
noncomputable def outS {α : Type} (nee : Str → α → Tab' → Bool) (nm : α → Tab' → List Str) (ps : List Str) (fb : α) (tab : Tab') : List Str := (sortS (nm fb tab)).filter fun x => !memS x ps && nee x fb tab
noncomputable def rowS {α : Type} (nev : α → Tab' → Bool) (nee : Str → α → Tab' → Bool) (nm : α → Tab' → List Str) (ps : List Str) (fb : α) (tab : Tab') : Row := ⟨ps.map fun p => nee p fb tab, outS nee nm ps fb tab, nev fb tab⟩
noncomputable def nmS {α : Type} (nm : α → Tab' → List Str) : Node α → Tab' → List Str
  | .leaf (.var x), tab => unionS [x] (rnS x tab)
  | .leaf .lit, _ => []
  | .prim _ args, tab => unions (args.map (nm · tab)) []
  | .case v _ a o, tab => unions (match o with | none => [nm v tab, nm a tab] | some o => [nm v tab, nm a tab, nm o tab]) []
  | .lett _ v b, tab => unions [nm v tab, nm b tab] []
  | .letf own _ fb args, tab => unions [unions [nm fb tab] [], unions (unionS [own] (rnS own tab) :: args.map (nm · tab)) []] []
  | .app f args, tab => unions (unionS [f] (rnS f tab) :: args.map (nm · tab)) []
noncomputable def nevS {α : Type} (nev : α → Tab' → Bool) (nee : Str → α → Tab' → Bool) (nm : α → Tab' → List Str) : Node α → Tab' → Bool
  | .leaf _, _ => false
  | .prim op args, tab => seq op "error" || args.any (nev · tab)
  | .case v _ a o, tab => nev v tab || (nev a tab && match o with | none => true | some o => nev o tab)
  | .lett own v b, tab => nev b tab || (nee own b tab && nev v tab)
  | .letf own ps fb args, tab => appNev nev own args tab (put own (rowS nev nee nm ps fb tab) tab)
  | .app f args, tab => appNev nev f args tab tab
noncomputable def neeS {α : Type} (nev : α → Tab' → Bool) (nee : Str → α → Tab' → Bool) (nm : α → Tab' → List Str) (x : Str) : Node α → Tab' → Bool
  | .leaf (.var y), _ => seq y x
  | .leaf .lit, _ => false
  | .prim _ args, tab => args.any (nee x · tab)
  | .case v _ a o, tab => nee x v tab || ((nev a tab || nee x a tab) && match o with | none => true | some o => nev o tab || nee x o tab)
  | .lett own v b, tab => nee x b tab || (nee own b tab && nee x v tab)
  | .letf own ps fb args, tab => appNee nee x own args (put own (rowS nev nee nm ps fb tab) tab)
  | .app f args, tab => appNee nee x f args tab


section
variable {α : Type} {pv : α → PV} {nev : α → Tab' → Bool} {nee : Str → α → Tab' → Bool} {nm : α → Tab' → List Str} {N : Nat} {tab : Tab'} {b : Bowl}

theorem ways_one (v : PV) (own : Str) (a : PV) (b : Bowl) : Ret 20 "_law_ways" [casePV v own a .none] b (.list [a], b) := by exact Ret.ofT (N := 0) 19 (by kernel_rfl) (by kernel_rfl) [] (fun z => z) (by kernel_rfl)
theorem ways_two (v : PV) (own : Str) (a : PV) (C : Str) (fs : List (Str × PV)) (b : Bowl) : Ret 20 "_law_ways" [casePV v own a (.inst C fs)] b (.list [a, .inst C fs], b) := by exact Ret.ofT (N := 0) 19 (by kernel_rfl) (by kernel_rfl) [] (fun z => z) (by kernel_rfl)

noncomputable def optList (pv : α → PV) : Option (List α) → PV
  | none => .none
  | some l => .list (l.map pv)
theorem strict_ret {R : Nat} (hR : TabB R tab) (f : Str) (args : List α) (hn : args.length ≤ 1000) : Ret 20 "_law_strict" [appPV f (args.map pv), tabPV tab] b (optList pv (strictS f args tab), b) := by
  have hl1 := len_ok (l := args.map pv) (by rw [List.length_map]; exact Nat.le_trans hn (by decide))
  unfold strictS
  cases hlk : lk f tab with
  | none =>
    have hget : dictGet (tabKV tab) [.str f] = some .none := by
      show some ((lk f (tabKV tab)).getD .none) = _
      rw [lk_tab, hlk]; rfl
    exact Ret.ofT (N := 0) 19 (by kernel_rfl) (by kernel_rfl) [tv hget] (fun z => ac hget (z)) (by kernel_rfl)
  | some k =>
    obtain ⟨fl, ns, nv⟩ := k
    have hb := (hR.row f _ hlk).1
    dsimp only at hb ⊢
    have hget : dictGet (tabKV tab) [.str f] = some (rowPV ⟨fl, ns, nv⟩) := by
      show some ((lk f (tabKV tab)).getD .none) = _
      rw [lk_tab, hlk]; rfl
    have hl2 := len_ok (l := fl.map .bool) (by rw [List.length_map]; (clear hget hlk hl1 hn; omega))
    by_cases hlt : args.length < fl.length
    · have hc : cmp .Lt (.int (args.map pv).length) (.int (fl.map PV.bool).length) = some true := by
        show some (decide _) = _
        rw [List.length_map, List.length_map, decide_eq_true (by (clear hl2 hget hb hlk hl1 hn; omega))]
      rw [if_pos hlt]
      exact Ret.ofT (N := 0) 19 (by kernel_rfl) (by kernel_rfl) [tv hget, .g, tv hl1, .g, tv hl2, tb hc] (fun z => ac hget (ac hl1 (ac hl2 (ac hc (z))))) (by kernel_rfl)
    · have hc : cmp .Lt (.int (args.map pv).length) (.int (fl.map PV.bool).length) = some false := by
        show some (decide _) = _
        rw [List.length_map, List.length_map, decide_eq_false (by omega)]
      rw [if_neg hlt]
      match fl, hb, hlt with
      | [p], _, hlt =>
        match args, hlt with
        | [], h => exact absurd (by simp) h
        | a :: r, _ => cases p with
          | false => exact Ret.ofT (N := 0) 19 (by kernel_rfl) (by kernel_rfl) [tv hget, .g, tv hl1] (fun z => ac hget (ac hl1 (z))) (by kernel_rfl)
          | true => exact Ret.ofT (N := 0) 19 (by kernel_rfl) (by kernel_rfl) [tv hget, .g, tv hl1] (fun z => ac hget (ac hl1 (z))) (by kernel_rfl)
      | [p, q], _, hlt =>
        match args, hlt with
        | [], h => exact absurd (by simp) h
        | [_], h => exact absurd (by simp) h
        | a :: c :: r, _ => cases p with
          | false => cases q with
            | false => exact Ret.ofT (N := 0) 19 (by kernel_rfl) (by kernel_rfl) [tv hget, .g, tv hl1] (fun z => ac hget (ac hl1 (z))) (by kernel_rfl)
            | true => exact Ret.ofT (N := 0) 19 (by kernel_rfl) (by kernel_rfl) [tv hget, .g, tv hl1] (fun z => ac hget (ac hl1 (z))) (by kernel_rfl)
          | true => cases q with
            | false => exact Ret.ofT (N := 0) 19 (by kernel_rfl) (by kernel_rfl) [tv hget, .g, tv hl1] (fun z => ac hget (ac hl1 (z))) (by kernel_rfl)
            | true => exact Ret.ofT (N := 0) 19 (by kernel_rfl) (by kernel_rfl) [tv hget, .g, tv hl1] (fun z => ac hget (ac hl1 (z))) (by kernel_rfl)
      | [p, q, z], _, hlt =>
        match args, hlt with
        | [], h => exact absurd (by simp) h
        | [_], h => exact absurd (by simp) h
        | [_, _], h => exact absurd (by simp) h
        | a :: c :: d :: r, _ => cases p with
          | false => cases q with
            | false => cases z with
              | false => exact Ret.ofT (N := 0) 19 (by kernel_rfl) (by kernel_rfl) [tv hget, .g, tv hl1] (fun z => ac hget (ac hl1 (z))) (by kernel_rfl)
              | true => exact Ret.ofT (N := 0) 19 (by kernel_rfl) (by kernel_rfl) [tv hget, .g, tv hl1] (fun z => ac hget (ac hl1 (z))) (by kernel_rfl)
            | true => cases z with
              | false => exact Ret.ofT (N := 0) 19 (by kernel_rfl) (by kernel_rfl) [tv hget, .g, tv hl1] (fun z => ac hget (ac hl1 (z))) (by kernel_rfl)
              | true => exact Ret.ofT (N := 0) 19 (by kernel_rfl) (by kernel_rfl) [tv hget, .g, tv hl1] (fun z => ac hget (ac hl1 (z))) (by kernel_rfl)
          | true => cases q with
            | false => cases z with
              | false => exact Ret.ofT (N := 0) 19 (by kernel_rfl) (by kernel_rfl) [tv hget, .g, tv hl1] (fun z => ac hget (ac hl1 (z))) (by kernel_rfl)
              | true => exact Ret.ofT (N := 0) 19 (by kernel_rfl) (by kernel_rfl) [tv hget, .g, tv hl1] (fun z => ac hget (ac hl1 (z))) (by kernel_rfl)
            | true => cases z with
              | false => exact Ret.ofT (N := 0) 19 (by kernel_rfl) (by kernel_rfl) [tv hget, .g, tv hl1] (fun z => ac hget (ac hl1 (z))) (by kernel_rfl)
              | true => exact Ret.ofT (N := 0) 19 (by kernel_rfl) (by kernel_rfl) [tv hget, .g, tv hl1] (fun z => ac hget (ac hl1 (z))) (by kernel_rfl)
end
end Mine

set_option maxRecDepth 100000
set_option linter.unusedVariables false
set_option linter.unusedSimpArgs false
namespace Mine
open PySem

section
variable {α : Type} {pv : α → PV} {nev : α → Tab' → Bool} {nee : Str → α → Tab' → Bool} {nm : α → Tab' → List Str} {N : Nat} {tab : Tab'} {b : Bowl}

/-! _law_never -/
theorem notIn0 (p : Bool) : cmp .NotIn (.bool false) (.list [.bool p]) = some p := by cases p <;> rfl
theorem notIn1 (p : Bool) : cmp .NotIn (.bool false) (.list [.bool p]) = some (p && true) := by cases p <;> rfl
theorem notIn2 (p q : Bool) : cmp .NotIn (.bool false) (.list [.bool p, .bool q]) = some (p && q) := by cases p <;> cases q <;> rfl
theorem never_prim (hN : 20 ≤ N) (H : ∀ a : α, Ret N "_law_never" [pv a, tabPV tab] b (.bool (nev a tab), b)) (op : Str) (args : List α) (hn : args.length ≤ 1000) :
    Ret (N + 20) "_law_never" [primPV op (args.map pv), tabPV tab] b (.bool (seq op "error" || args.any (nev · tab)), b) := by
  cases he : seq op "error" with
  | true =>
    have e1 : cmp .Eq (.str op) (.str "error") = some true := congrArg some he
    exact Ret.ofT (N := N) 19 (by kernel_rfl) (by kernel_rfl) [.g, tb e1] (fun z => ac e1 (z)) (by kernel_rfl)
  | false =>
    have e1 : cmp .Eq (.str op) (.str "error") = some false := congrArg some he
    have e2 : sizeOk (args.map pv).length = true := sizeOk_of (by rw [List.length_map]; exact Nat.le_trans hn (by decide))
    have hc' := any_true (fun y => nev y tab) args
    have l1 := LComp.map (N := N) (k := 14) (f := "_law_never") (p := [0, 0]) (q := [1, 1]) (x := "arg") (st0 := ⟨[("table", tabPV tab)], none, b⟩) (l := args) pv (fun y acc => acc ++ [.bool (nev y tab)]) (acc := []) rfl (fun v => by kernel_rfl) (fun y hy acc CC hC => by
      have h := H y
      exact Ok.of [tr h] (ac h (ac hC (trivial))) (by kernel_rfl))
    exact Ret.ofT (N := N) 19 (by kernel_rfl) (by kernel_rfl) [.g, tb e1, .b true, tcl l1, tb hc'] (fun z => ac e1 (ac e2 (ac l1 (ac hc' (z))))) (by kernel_rfl)
theorem never_case1 (hN : 20 ≤ N) (H : ∀ a : α, Ret N "_law_never" [pv a, tabPV tab] b (.bool (nev a tab), b)) (v : α) (own : Str) (a : α) :
    Ret (N + 20) "_law_never" [casePV (pv v) own (pv a) .none, tabPV tab] b (.bool (nev v tab || (nev a tab && true)), b) := by
  have hv := H v
  have ha := H a
  have hw := (ways_one (pv v) own (pv a) b).mono hN
  cases h1 : nev v tab with
  | true => rw [h1] at hv; exact Ret.ofT (N := N) 19 (by kernel_rfl) (by kernel_rfl) [.g, .g, tr hv] (fun z => ac hv (z)) (by kernel_rfl)
  | false =>
    rw [h1] at hv
    have hc := notIn1 (nev a tab)
    exact Ret.ofT (N := N) 19 (by kernel_rfl) (by kernel_rfl) [.g, .g, tr hv, tr hw, .g, .g, tr ha, tb hc] (fun z => ac hv (ac hw (ac ha (ac hc (z))))) (by kernel_rfl)
theorem never_case2 (hN : 20 ≤ N) (hcls : ∀ a : α, ∃ C fs, pv a = .inst C fs ∧ seq C "Lam" = false) (H : ∀ a : α, Ret N "_law_never" [pv a, tabPV tab] b (.bool (nev a tab), b)) (v : α) (own : Str) (a o : α) :
    Ret (N + 20) "_law_never" [casePV (pv v) own (pv a) (pv o), tabPV tab] b (.bool (nev v tab || (nev a tab && nev o tab)), b) := by
  have hv := H v
  have ha := H a
  have ho := H o
  obtain ⟨C, fs, hpo, _⟩ := hcls o
  rw [hpo] at ho ⊢
  have hw := (ways_two (pv v) own (pv a) C fs b).mono hN
  cases h1 : nev v tab with
  | true => rw [h1] at hv; exact Ret.ofT (N := N) 19 (by kernel_rfl) (by kernel_rfl) [.g, .g, tr hv] (fun z => ac hv (z)) (by kernel_rfl)
  | false =>
    rw [h1] at hv
    have hc := notIn2 (nev a tab) (nev o tab)
    exact Ret.ofT (N := N) 19 (by kernel_rfl) (by kernel_rfl) [.g, .g, tr hv, tr hw, .g, .g, tr ha, tr ho, tb hc] (fun z => ac hv (ac hw (ac ha (ac ho (ac hc (z)))))) (by kernel_rfl)
theorem never_leaf (l : Leaf) (b : Bowl) : Ret 20 "_law_never" [leafPV l, tabPV tab] b (.bool false, b) := by
  cases l with
  | var y => exact Ret.ofT (N := 0) 19 (by kernel_rfl) (by kernel_rfl) [] (fun z => z) (by kernel_rfl)
  | lit => exact Ret.ofT (N := 0) 19 (by kernel_rfl) (by kernel_rfl) [] (fun z => z) (by kernel_rfl)
theorem never_app (hN : 20 ≤ N) (H : ∀ a : α, Ret N "_law_never" [pv a, tabPV tab] b (.bool (nev a tab), b)) {R : Nat} (hR : TabB R tab) (f : Str) (args : List α) (hn : args.length ≤ 1000) :
    Ret (N + 20) "_law_never" [appPV f (args.map pv), tabPV tab] b (.bool (appNev nev f args tab tab), b) := by
  have hs := (strict_ret (pv := pv) (b := b) hR f args hn).mono hN
  unfold appNev
  cases hq : strictS f args tab with
  | none =>
    rw [hq] at hs
    exact Ret.ofT (N := N) 19 (by kernel_rfl) (by kernel_rfl) [.g, .g, .g, .g, tr hs] (fun z => ac hs (z)) (by kernel_rfl)
  | some l =>
    rw [hq] at hs
    cases hlk : lk f tab with
    | none => unfold strictS at hq; rw [hlk] at hq; cases hq
    | some r =>
      obtain ⟨fl, ns, nv⟩ := r
      have hi : item (tabPV tab) (.str f) b = some (rowPV ⟨fl, ns, nv⟩) := by
        show lk f (tabKV tab) = _
        rw [lk_tab, hlk]; rfl
      have hll : l.length ≤ 1000 := by
        unfold strictS at hq
        rw [hlk] at hq
        dsimp only at hq
        split at hq
        · cases hq
        · cases hq
          rw [List.length_map]
          exact Nat.le_trans (List.length_filter_le _ _) (by rw [List.length_zip]; (clear hs hi hlk hR H hN; omega))
      dsimp only
      cases nv with
      | true => exact Ret.ofT (N := N) 19 (by kernel_rfl) (by kernel_rfl) [.g, .g, .g, .g, tr hs, .g, tv hi] (fun z => ac hs (ac hi (z))) (by kernel_rfl)
      | false =>
        have e2 : sizeOk (l.map pv).length = true := sizeOk_of (by rw [List.length_map]; exact Nat.le_trans hll (by decide))
        have hc' := any_true (fun y => nev y tab) l
        have l1 := LComp.map (N := N) (k := 13) (f := "_law_never") (p := [3, 1]) (q := [1, 1, 1]) (x := "arg") (st0 := ⟨[("table", tabPV tab)], none, b⟩) (l := l) pv (fun y acc => acc ++ [.bool (nev y tab)]) (acc := []) rfl (fun v => by kernel_rfl) (fun y hy acc CC hC => by
          have h := H y
          exact Ok.of [tr h] (ac h (ac hC (trivial))) (by kernel_rfl))
        exact Ret.ofT (N := N) 19 (by kernel_rfl) (by kernel_rfl) [.g, .g, .g, .g, tr hs, .g, tv hi, .g, .b true, tcl l1, tb hc'] (fun z => ac hs (ac hi (ac e2 (ac l1 (ac hc' (z)))))) (by kernel_rfl)
theorem never_lett (hN : 20 ≤ N) (hcls : ∀ a : α, ∃ C fs, pv a = .inst C fs ∧ seq C "Lam" = false) (H : ∀ a : α, Ret N "_law_never" [pv a, tabPV tab] b (.bool (nev a tab), b)) (H2 : ∀ x (a : α), Ret N "_law_needs" [.str x, pv a, tabPV tab] b (.bool (nee x a tab), b)) (own : Str) (v bd : α)
    (hw : Ret N "_law_within" [letPV own (pv v) (pv bd), tabPV tab] b (tabPV tab, b)) :
    Ret (N + 20) "_law_never" [letPV own (pv v) (pv bd), tabPV tab] b (.bool (nev bd tab || (nee own bd tab && nev v tab)), b) := by
  have hv := H v
  have hb := H bd
  have hn := H2 own bd
  obtain ⟨C, fs, hpv, hC⟩ := hcls v
  have hC' : some (memS C ["Lam"]) = some false := by
    show some (match seq C "Lam" with | true => true | false => false) = _
    rw [hC]
  rw [hpv] at hv hw ⊢
  cases h1 : nev bd tab with
  | true => rw [h1] at hb; exact Ret.ofT (N := N) 19 (by kernel_rfl) (by kernel_rfl) [.g, .g, .g, .g, tr hw, tr hb] (fun z => ac hw (ac hb (z))) (by kernel_rfl)
  | false =>
    rw [h1] at hb
    cases h2 : nee own bd tab with
    | false => rw [h2] at hn; exact Ret.ofT (N := N) 19 (by kernel_rfl) (by kernel_rfl) [.g, .g, .g, .g, tr hw, tr hb, tb hC', tr hn] (fun z => ac hw (ac hb (ac hC' (ac hn (z))))) (by kernel_rfl)
    | true =>
      rw [h2] at hn
      exact Ret.ofT (N := N) 19 (by kernel_rfl) (by kernel_rfl) [.g, .g, .g, .g, tr hw, tr hb, tb hC', tr hn, tr hv] (fun z => ac hw (ac hb (ac hC' (ac hn (ac hv (z)))))) (by kernel_rfl)
theorem never_letf {body : PV} {own : Str} {ps : List Str} {fb : PV} {r : Bool} {inner : PV} (hw : Ret N "_law_within" [letPV own (lamPV ps fb) body, tabPV tab] b (inner, b)) (hb : Ret N "_law_never" [body, inner] b (.bool r, b)) :
    Ret (N + 20) "_law_never" [letPV own (lamPV ps fb) body, tabPV tab] b (.bool r, b) := by
  cases r with
  | true => exact Ret.ofT (N := N) 19 (by kernel_rfl) (by kernel_rfl) [.g, .g, .g, .g, tr hw, tr hb] (fun z => ac hw (ac hb (z))) (by kernel_rfl)
  | false => exact Ret.ofT (N := N) 19 (by kernel_rfl) (by kernel_rfl) [.g, .g, .g, .g, tr hw, tr hb] (fun z => ac hw (ac hb (z))) (by kernel_rfl)
end
section
variable {α : Type} {pv : α → PV} {nev : α → Tab' → Bool} {nee : Str → α → Tab' → Bool} {nm : α → Tab' → List Str} {N : Nat} {tab : Tab'} {b : Bowl}

/-! _law_needs -/
theorem needs_leaf (x : Str) (l : Leaf) (b : Bowl) : Ret 20 "_law_needs" [.str x, leafPV l, tabPV tab] b (.bool (match l with | .var y => seq y x | .lit => false), b) := by
  cases l with
  | var y => exact Ret.ofT (N := 0) 19 (by kernel_rfl) (by kernel_rfl) [] (fun z => z) (by kernel_rfl)
  | lit => exact Ret.ofT (N := 0) 19 (by kernel_rfl) (by kernel_rfl) [] (fun z => z) (by kernel_rfl)
theorem needs_prim (hN : 20 ≤ N) (x : Str) (H : ∀ a : α, Ret N "_law_needs" [.str x, pv a, tabPV tab] b (.bool (nee x a tab), b)) (op : Str) (args : List α) (hn : args.length ≤ 1000) :
    Ret (N + 20) "_law_needs" [.str x, primPV op (args.map pv), tabPV tab] b (.bool (args.any (nee x · tab)), b) := by
  have e2 : sizeOk (args.map pv).length = true := sizeOk_of (by rw [List.length_map]; exact Nat.le_trans hn (by decide))
  have hc' := any_true (fun y => nee x y tab) args
  have l1 := LComp.map (N := N) (k := 15) (f := "_law_needs") (p := [1, 0]) (q := [1]) (x := "arg") (st0 := ⟨[("name", .str x), ("table", tabPV tab)], none, b⟩) (l := args) pv (fun y acc => acc ++ [.bool (nee x y tab)]) (acc := []) rfl (fun v => by kernel_rfl) (fun y hy acc CC hC => by
    have h := H y
    exact Ok.of [tr h] (ac h (ac hC (trivial))) (by kernel_rfl))
  exact Ret.ofT (N := N) 19 (by kernel_rfl) (by kernel_rfl) [.g, .g, .b true, tcl l1, tb hc'] (fun z => ac e2 (ac l1 (ac hc' (z)))) (by kernel_rfl)
theorem needs_case1 (hN : 20 ≤ N) (x : Str) (H : ∀ a : α, Ret N "_law_needs" [.str x, pv a, tabPV tab] b (.bool (nee x a tab), b)) (H2 : ∀ a : α, Ret N "_law_never" [pv a, tabPV tab] b (.bool (nev a tab), b)) (v : α) (own : Str) (a : α) :
    Ret (N + 20) "_law_needs" [.str x, casePV (pv v) own (pv a) .none, tabPV tab] b (.bool (nee x v tab || ((nev a tab || nee x a tab) && true)), b) := by
  have hv := H v
  have ha := H a
  have na := H2 a
  have hw := (ways_one (pv v) own (pv a) b).mono hN
  have hc := notIn1 (nee x a tab)
  cases h2 : nev a tab with
  | true =>
    rw [h2] at na
    cases h1 : nee x v tab with
    | true => rw [h1] at hv; exact Ret.ofT (N := N) 19 (by kernel_rfl) (by kernel_rfl) [.g, .g, .g, tr hw, .g, .g, tr na, tr hv] (fun z => ac hw (ac na (ac hv (z)))) (by kernel_rfl)
    | false => rw [h1] at hv; exact Ret.ofT (N := N) 19 (by kernel_rfl) (by kernel_rfl) [.g, .g, .g, tr hw, .g, .g, tr na, tr hv] (fun z => ac hw (ac na (ac hv (z)))) (by kernel_rfl)
  | false =>
    rw [h2] at na
    cases h1 : nee x v tab with
    | true => rw [h1] at hv; exact Ret.ofT (N := N) 19 (by kernel_rfl) (by kernel_rfl) [.g, .g, .g, tr hw, .g, .g, tr na, tr hv] (fun z => ac hw (ac na (ac hv (z)))) (by kernel_rfl)
    | false => rw [h1] at hv; exact Ret.ofT (N := N) 19 (by kernel_rfl) (by kernel_rfl) [.g, .g, .g, tr hw, .g, .g, tr na, tr hv, .g, .g, tr ha, tb hc] (fun z => ac hw (ac na (ac hv (ac ha (ac hc (z)))))) (by kernel_rfl)
theorem needs_case2 (hN : 20 ≤ N) (hcls : ∀ a : α, ∃ C fs, pv a = .inst C fs ∧ seq C "Lam" = false) (x : Str) (H : ∀ a : α, Ret N "_law_needs" [.str x, pv a, tabPV tab] b (.bool (nee x a tab), b)) (H2 : ∀ a : α, Ret N "_law_never" [pv a, tabPV tab] b (.bool (nev a tab), b)) (v : α) (own : Str) (a o : α) :
    Ret (N + 20) "_law_needs" [.str x, casePV (pv v) own (pv a) (pv o), tabPV tab] b (.bool (nee x v tab || ((nev a tab || nee x a tab) && (nev o tab || nee x o tab))), b) := by
  have hv := H v
  have ha := H a
  have na := H2 a
  have ho := H o
  have no := H2 o
  obtain ⟨C, fs, hpo, _⟩ := hcls o
  rw [hpo] at ho no ⊢
  have hw := (ways_two (pv v) own (pv a) C fs b).mono hN
  have hc := notIn2 (nee x a tab) (nee x o tab)
  have hca := notIn1 (nee x a tab)
  have hco := notIn0 (nee x o tab)
  cases h2 : nev a tab with
  | true =>
    rw [h2] at na
    cases h4 : nev o tab with
    | true =>
      rw [h4] at no
      cases h1 : nee x v tab with
      | true => rw [h1] at hv; exact Ret.ofT (N := N) 19 (by kernel_rfl) (by kernel_rfl) [.g, .g, .g, tr hw, .g, .g, tr na, tr no, tr hv] (fun z => ac hw (ac na (ac no (ac hv (z))))) (by kernel_rfl)
      | false => rw [h1] at hv; exact Ret.ofT (N := N) 19 (by kernel_rfl) (by kernel_rfl) [.g, .g, .g, tr hw, .g, .g, tr na, tr no, tr hv] (fun z => ac hw (ac na (ac no (ac hv (z))))) (by kernel_rfl)
    | false =>
      rw [h4] at no
      cases h1 : nee x v tab with
      | true => rw [h1] at hv; exact Ret.ofT (N := N) 19 (by kernel_rfl) (by kernel_rfl) [.g, .g, .g, tr hw, .g, .g, tr na, tr no, tr hv] (fun z => ac hw (ac na (ac no (ac hv (z))))) (by kernel_rfl)
      | false => rw [h1] at hv; exact Ret.ofT (N := N) 19 (by kernel_rfl) (by kernel_rfl) [.g, .g, .g, tr hw, .g, .g, tr na, tr no, tr hv, .g, .g, tr ho, tb hco] (fun z => ac hw (ac na (ac no (ac hv (ac ho (ac hco (z))))))) (by kernel_rfl)
  | false =>
    rw [h2] at na
    cases h4 : nev o tab with
    | true =>
      rw [h4] at no
      cases h1 : nee x v tab with
      | true => rw [h1] at hv; exact Ret.ofT (N := N) 19 (by kernel_rfl) (by kernel_rfl) [.g, .g, .g, tr hw, .g, .g, tr na, tr no, tr hv] (fun z => ac hw (ac na (ac no (ac hv (z))))) (by kernel_rfl)
      | false => rw [h1] at hv; exact Ret.ofT (N := N) 19 (by kernel_rfl) (by kernel_rfl) [.g, .g, .g, tr hw, .g, .g, tr na, tr no, tr hv, .g, .g, tr ha, tb hca] (fun z => ac hw (ac na (ac no (ac hv (ac ha (ac hca (z))))))) (by kernel_rfl)
    | false =>
      rw [h4] at no
      cases h1 : nee x v tab with
      | true => rw [h1] at hv; exact Ret.ofT (N := N) 19 (by kernel_rfl) (by kernel_rfl) [.g, .g, .g, tr hw, .g, .g, tr na, tr no, tr hv] (fun z => ac hw (ac na (ac no (ac hv (z))))) (by kernel_rfl)
      | false => rw [h1] at hv; exact Ret.ofT (N := N) 19 (by kernel_rfl) (by kernel_rfl) [.g, .g, .g, tr hw, .g, .g, tr na, tr no, tr hv, .g, .g, tr ha, tr ho, tb hc] (fun z => ac hw (ac na (ac no (ac hv (ac ha (ac ho (ac hc (z)))))))) (by kernel_rfl)
theorem needs_app (hN : 20 ≤ N) (x : Str) (H : ∀ a : α, Ret N "_law_needs" [.str x, pv a, tabPV tab] b (.bool (nee x a tab), b)) {R : Nat} (hR : TabB R tab) (f : Str) (args : List α) (hn : args.length ≤ 1000) :
    Ret (N + 20) "_law_needs" [.str x, appPV f (args.map pv), tabPV tab] b (.bool (appNee nee x f args tab), b) := by
  have hs := (strict_ret (pv := pv) (b := b) hR f args hn).mono hN
  unfold appNee
  cases hfx : seq f x with
  | true =>
    have e1 : cmp .Eq (.str f) (.str x) = some true := congrArg some hfx
    exact Ret.ofT (N := N) 19 (by kernel_rfl) (by kernel_rfl) [.g, .g, .g, .g, .g, tb e1] (fun z => ac e1 (z)) (by kernel_rfl)
  | false =>
    have e1 : cmp .Eq (.str f) (.str x) = some false := congrArg some hfx
    cases hq : strictS f args tab with
    | none =>
      rw [hq] at hs
      exact Ret.ofT (N := N) 19 (by kernel_rfl) (by kernel_rfl) [.g, .g, .g, .g, .g, tb e1, tr hs] (fun z => ac e1 (ac hs (z))) (by kernel_rfl)
    | some l =>
      rw [hq] at hs
      cases hlk : lk f tab with
      | none => unfold strictS at hq; rw [hlk] at hq; cases hq
      | some r =>
        obtain ⟨fl, ns, nv⟩ := r
        have hi : item (tabPV tab) (.str f) b = some (rowPV ⟨fl, ns, nv⟩) := by
          show lk f (tabKV tab) = _
          rw [lk_tab, hlk]; rfl
        have hrn : rnS f tab = ns := by unfold rnS; rw [hlk]
        have hll : l.length ≤ 1000 := by
          unfold strictS at hq
          rw [hlk] at hq
          dsimp only at hq
          split at hq
          · cases hq
          · cases hq
            rw [List.length_map]
            exact Nat.le_trans (List.length_filter_le _ _) (by rw [List.length_zip]; (clear hs hrn hi hlk e1 hfx hR H hN; omega))
        rw [hrn]
        have hm : cmp .In (.str x) (strsPV ns) = some (memS x ns) := contains_strs x ns
        dsimp only
        cases hmm : memS x ns with
        | true => rw [hmm] at hm; exact Ret.ofT (N := N) 19 (by kernel_rfl) (by kernel_rfl) [.g, .g, .g, .g, .g, tb e1, tr hs, .g, tv hi, .g, tb hm] (fun z => ac e1 (ac hs (ac hi (ac hm (z))))) (by kernel_rfl)
        | false =>
          rw [hmm] at hm
          have e2 : sizeOk (l.map pv).length = true := sizeOk_of (by rw [List.length_map]; exact Nat.le_trans hll (by decide))
          have hc' := any_true (fun y => nee x y tab) l
          have l1 := LComp.map (N := N) (k := 14) (f := "_law_needs") (p := [7]) (q := [1, 1, 1]) (x := "arg") (st0 := ⟨[("name", .str x), ("table", tabPV tab)], none, b⟩) (l := l) pv (fun y acc => acc ++ [.bool (nee x y tab)]) (acc := []) rfl (fun v => by kernel_rfl) (fun y hy acc CC hC => by
            have h := H y
            exact Ok.of [tr h] (ac h (ac hC (trivial))) (by kernel_rfl))
          exact Ret.ofT (N := N) 19 (by kernel_rfl) (by kernel_rfl) [.g, .g, .g, .g, .g, tb e1, tr hs, .g, tv hi, .g, tb hm, .b true, tcl l1, tb hc'] (fun z => ac e1 (ac hs (ac hi (ac hm (ac e2 (ac l1 (ac hc' (z)))))))) (by kernel_rfl)
theorem needs_lett (hN : 20 ≤ N) (hcls : ∀ a : α, ∃ C fs, pv a = .inst C fs ∧ seq C "Lam" = false) (x : Str) (H : ∀ x (a : α), Ret N "_law_needs" [.str x, pv a, tabPV tab] b (.bool (nee x a tab), b)) (own : Str) (v bd : α)
    (hw : Ret N "_law_within" [letPV own (pv v) (pv bd), tabPV tab] b (tabPV tab, b)) :
    Ret (N + 20) "_law_needs" [.str x, letPV own (pv v) (pv bd), tabPV tab] b (.bool (nee x bd tab || (nee own bd tab && nee x v tab)), b) := by
  have hv := H x v
  have hb := H x bd
  have hn := H own bd
  obtain ⟨C, fs, hpv, hC⟩ := hcls v
  have hC' : some (memS C ["Lam"]) = some false := by
    show some (match seq C "Lam" with | true => true | false => false) = _
    rw [hC]
  rw [hpv] at hv hw ⊢
  cases h1 : nee x bd tab with
  | true => rw [h1] at hb; exact Ret.ofT (N := N) 19 (by kernel_rfl) (by kernel_rfl) [.g, .g, .g, .g, tr hw, tr hb] (fun z => ac hw (ac hb (z))) (by kernel_rfl)
  | false =>
    rw [h1] at hb
    cases h2 : nee own bd tab with
    | false => rw [h2] at hn; exact Ret.ofT (N := N) 19 (by kernel_rfl) (by kernel_rfl) [.g, .g, .g, .g, tr hw, tr hb, .g, tb hC', tr hn] (fun z => ac hw (ac hb (ac hC' (ac hn (z))))) (by kernel_rfl)
    | true =>
      rw [h2] at hn
      exact Ret.ofT (N := N) 19 (by kernel_rfl) (by kernel_rfl) [.g, .g, .g, .g, tr hw, tr hb, .g, tb hC', tr hn, tr hv] (fun z => ac hw (ac hb (ac hC' (ac hn (ac hv (z)))))) (by kernel_rfl)
theorem needs_letf {x : Str} {body : PV} {own : Str} {ps : List Str} {fb : PV} {r : Bool} {inner : PV} (hw : Ret N "_law_within" [letPV own (lamPV ps fb) body, tabPV tab] b (inner, b)) (hb : Ret N "_law_needs" [.str x, body, inner] b (.bool r, b)) :
    Ret (N + 20) "_law_needs" [.str x, letPV own (lamPV ps fb) body, tabPV tab] b (.bool r, b) := by
  cases r with
  | true => exact Ret.ofT (N := N) 19 (by kernel_rfl) (by kernel_rfl) [.g, .g, .g, .g, tr hw, tr hb] (fun z => ac hw (ac hb (z))) (by kernel_rfl)
  | false => exact Ret.ofT (N := N) 19 (by kernel_rfl) (by kernel_rfl) [.g, .g, .g, .g, tr hw, tr hb] (fun z => ac hw (ac hb (z))) (by kernel_rfl)

end
end Mine

set_option maxRecDepth 100000
set_option linter.unusedVariables false
set_option linter.unusedSimpArgs false
namespace Mine
open PySem

section
variable {α : Type} {pv : α → PV} {nev : α → Tab' → Bool} {nee : Str → α → Tab' → Bool} {nm : α → Tab' → List Str} {N : Nat} {tab : Tab'} {b : Bowl}

/-! _law_within, _law_outer -/
theorem sorted_ok {l : List Str} (h : l.length < 64) : bltAt .sorted [kd l] = some (strsPV (sortS l)) := by
  show guard (Nat.blt (kv l).length 64) (PV.list ((sortS ((kv l).map fun (e : Str × PV) => e.1)).map .str)) = _
  have e1 : Nat.blt (kv l).length 64 = true := by rw [kv_len, Nat.blt_eq]; exact h
  have e2 : ((kv l).map fun (e : Str × PV) => e.1) = l := by unfold kv; rw [List.map_map]; exact List.map_id' l
  rw [e1, e2]; rfl
theorem len_insS (s : Str) (l : List Str) : (insS s l).length = l.length + 1 := (insS_perm s l).length_eq
theorem len_sortS (l : List Str) : (sortS l).length = l.length := (sortS_perm l).length_eq
theorem mem_sortS {x : Str} {l : List Str} : x ∈ sortS l ↔ x ∈ l := (sortS_perm l).mem_iff
theorem outer_ret (hN : 20 ≤ N) (ps : List Str) (fb : α) (hnm : Ret N "_law_names" [pv fb, tabPV tab] b (kd (nm fb tab), b)) (hl : (nm fb tab).length < 64) (H : ∀ x, Ret N "_law_needs" [.str x, pv fb, tabPV tab] b (.bool (nee x fb tab), b)) :
    Ret (N + 20) "_law_outer" [pv fb, tabPV tab, strsPV ps] b (strsPV (outS nee nm ps fb tab), b) := by
  have hs := sorted_ok hl
  have e2 : sizeOk ((sortS (nm fb tab)).map PV.str).length = true := sizeOk_of (by rw [List.length_map, len_sortS]; (clear hs H hnm hN; omega))
  have l1 := LComp.map (N := N) (k := 17) (f := "_law_outer") (p := [1]) (q := []) (x := "one") (st0 := ⟨[("expr", pv fb), ("table", tabPV tab), ("params", strsPV ps)], none, b⟩) (l := sortS (nm fb tab)) PV.str (fun y acc => if !memS y ps && nee y fb tab then acc ++ [.str y] else acc) (acc := []) rfl (fun v => by kernel_rfl) (fun y hy acc CC hC => by
    have h := H y
    have hm : cmp .NotIn (.str y) (strsPV ps) = some (!memS y ps) := by
      show (contains (.str y) (strsPV ps)).map not = _
      rw [contains_strs]; rfl
    cases h1 : memS y ps with
    | true =>
      rw [h1] at hm hC
      exact Ok.of [tb hm] (ac hm (ac hC (trivial))) (by kernel_rfl)
    | false =>
      rw [h1] at hm hC
      cases h2 : nee y fb tab with
      | true => rw [h2] at h hC; exact Ok.of [tb hm, tr h] (ac hm (ac h (ac hC (trivial)))) (by kernel_rfl)
      | false => rw [h2] at h hC; exact Ok.of [tb hm, tr h] (ac hm (ac h (ac hC (trivial)))) (by kernel_rfl))
  have e3 : (PV.list ((sortS (nm fb tab)).foldl (fun (a : List PV) v => (fun y acc => if !memS y ps && nee y fb tab then acc ++ [.str y] else acc) v a) []), b) = (strsPV (outS nee nm ps fb tab), b) := congrArg (fun l => (PV.list l, b)) (fold_strs (fun y => !memS y ps && nee y fb tab) (sortS (nm fb tab)) [])
  exact Ret.ofE (N := N) 19 (by kernel_rfl) (by kernel_rfl) [tr hnm, tv hs, .b true, tcl l1] (ac hnm (ac hs (ac e2 (ac l1 (ac e3 (trivial)))))) (by kernel_rfl)
theorem within_lett (own : Str) {v : PV} (hv : ∃ C fs, v = .inst C fs ∧ seq C "Lam" = false) (bd : PV) (hl : tab.length ≤ 1000) : Ret 20 "_law_within" [letPV own v bd, tabPV tab] b (tabPV tab, b) := by
  obtain ⟨C, fs, rfl, hC⟩ := hv
  have e1 := dict_copy (es := tabKV tab) (by unfold tabKV; rw [List.length_map]; exact Nat.le_trans hl (by decide))
  have hC' : some (memS C ["Lam"]) = some false := by
    show some (match seq C "Lam" with | true => true | false => false) = _
    rw [hC]
  exact Ret.ofT (N := 0) 19 (by kernel_rfl) (by kernel_rfl) [.g, tv e1, tb hC'] (fun z => ac e1 (ac hC' (z))) (by kernel_rfl)
theorem within_letf (hN : 20 ≤ N) (own : Str) (ps : List Str) (hps : ps.length = 1 ∨ ps.length = 2) (fb : α) (body : PV) (hl : tab.length ≤ 1000)
    (ho : Ret N "_law_outer" [pv fb, tabPV tab, strsPV ps] b (strsPV (outS nee nm ps fb tab), b)) (H : ∀ x, Ret N "_law_needs" [.str x, pv fb, tabPV tab] b (.bool (nee x fb tab), b)) (Hv : Ret N "_law_never" [pv fb, tabPV tab] b (.bool (nev fb tab), b)) :
    Ret (N + 20) "_law_within" [letPV own (lamPV ps (pv fb)) body, tabPV tab] b (tabPV (put own (rowS nev nee nm ps fb tab) tab), b) := by
  have e1 := dict_copy (es := tabKV tab) (by unfold tabKV; rw [List.length_map]; exact Nat.le_trans hl (by decide))
  have e2 : sizeOk (tabKV tab).length = true := sizeOk_of (by unfold tabKV; rw [List.length_map]; omega)
  have he : put own (rowPV (rowS nev nee nm ps fb tab)) (tabKV tab) = tabKV (put own (rowS nev nee nm ps fb tab) tab) := put_tab _ _ _
  have hps' : (∃ p, ps = [p]) ∨ ∃ p q, ps = [p, q] := by
    match ps, hps with
    | [p], _ => exact .inl ⟨p, rfl⟩
    | [p, q], _ => exact .inr ⟨p, q, rfl⟩
  rw [tabPV, tabPV, ← he]
  rcases hps' with ⟨p, rfl⟩ | ⟨p, q, rfl⟩
  · have hp := H p
    exact Ret.ofT (N := N) 19 (by kernel_rfl) (by kernel_rfl) [.g, tv e1, .g, .g, .g, tr hp, tr ho, tr Hv, .b true] (fun z => ac e1 (ac hp (ac ho (ac Hv (ac e2 (z)))))) (by kernel_rfl)
  · have hp := H p
    have hq := H q
    exact Ret.ofT (N := N) 19 (by kernel_rfl) (by kernel_rfl) [.g, tv e1, .g, .g, .g, tr hp, tr hq, tr ho, tr Hv, .b true] (fun z => ac e1 (ac hp (ac hq (ac ho (ac Hv (ac e2 (z))))))) (by kernel_rfl)
end
end Mine

set_option maxRecDepth 100000
set_option linter.unusedVariables false
set_option linter.unusedSimpArgs false
namespace Mine
open PySem
section
variable {α : Type} {pv : α → PV} {nev : α → Tab' → Bool} {nee : Str → α → Tab' → Bool} {nm : α → Tab' → List Str} {N : Nat} {tab : Tab'} {b : Bowl}

def rUp (h : Nat → Nat) (R : Nat) : Nat := R + 1 + h R
def hUp (h : Nat → Nat) (R : Nat) : Nat := 1 + R + 5 * h R
def okUpR (h : Nat → Nat) (ok : Nat → Prop) (R : Nat) : Prop := ok R ∧ ok (rUp h R) ∧ h R < 64 ∧ rUp h R ≤ 900

theorem len_out (ps : List Str) (fb : α) : (outS nee nm ps fb tab).length ≤ (nm fb tab).length := by
  unfold outS
  exact Nat.le_trans (List.length_filter_le _ _) (by rw [len_sortS]; exact Nat.le_refl _)
theorem TabB.put {R h : Nat} (hR : TabB R tab) (own : Str) {r : Row} (h1 : r.flags.length = 1 ∨ r.flags.length = 2) (h2 : r.names.length ≤ h) : TabB (R + 1 + h) (put own r tab) := by
  refine ⟨Nat.le_trans (put_len own r tab) (by have := hR.len; (clear h2; omega)), fun f k hk => ?_⟩
  rw [lk_put] at hk
  split at hk
  · cases hk; exact ⟨by (clear h2; omega), by omega⟩
  · have := hR.row f k hk; exact ⟨this.1, by (clear hk h2; omega)⟩

structure RetsOK (N : Nat) (pv : PV) (nev : Tab' → Bool) (nee : Str → Tab' → Bool) (nm : Tab' → List Str) (tab : Tab') (b : Bowl) (h : Nat) : Prop where
  rnm : Ret N "_law_names" [pv, tabPV tab] b (kd (nm tab), b)
  rlen : (nm tab).length ≤ h
  rnev : Ret N "_law_never" [pv, tabPV tab] b (.bool (nev tab), b)
  rnee : ∀ x, Ret N "_law_needs" [.str x, pv, tabPV tab] b (.bool (nee x tab), b)

theorem names_app {R : Nat} (hR : TabB R tab) (hr : R ≤ 900) {h : Nat} (hh : h ≤ 1000) (hN : 40 ≤ N) (Hnm : ∀ a : α, Ret N "_law_names" [pv a, tabPV tab] b (kd (nm a tab), b) ∧ (nm a tab).length ≤ h) (f : Str) (args : List α) (hn : args.length ≤ 4) :
    Ret (N + 20) "_law_names" [appPV f (args.map pv), tabPV tab] b (kd (unions (unionS [f] (rnS f tab) :: args.map (nm · tab)) []), b) ∧ (unions (unionS [f] (rnS f tab) :: args.map (nm · tab)) []).length ≤ 1 + R + 4 * h := by
  have hv := (names_var (tab := tab) f b (Nat.le_trans (hR.rn f) (by exact Nat.le_trans hr (by decide)))).mono hN
  have hlen : (unionS [f] (rnS f tab)).length ≤ 1 + R := by
    have h1 := len_unionS (rnS f tab) [f]
    have h2 := hR.rn f
    simp only [List.length_cons, List.length_nil] at h1
    (clear hv hn Hnm hN hh; omega)
  have hp := (parts_app (varPV f) (args.map pv) (by rw [List.length_map]; exact Nat.le_trans hn (by decide)) b).mono (show 20 ≤ N by exact Nat.le_trans (Nat.le_add_left _ _) hN)
  have key := names_parts (N := N) (b := b) (tab := tab) (C := "App") (fs := [("fun", varPV f), ("args", .list (args.map pv))]) (by exact Nat.le_trans (Nat.le_add_left _ _) hN) rfl (⟨varPV f, .tuple [], unionS [f] (rnS f tab)⟩ :: args.map fun a => ⟨pv a, .tuple [], nm a tab⟩) (1 + R + h)
    (by
      have e : ((⟨varPV f, .tuple [], unionS [f] (rnS f tab)⟩ :: args.map fun a => ⟨pv a, .tuple [], nm a tab⟩ : List Part).map partPV) = .tuple [varPV f, .tuple []] :: (args.map pv).map fun v => .tuple [v, .tuple []] := by
        rw [List.map_cons, List.map_map, List.map_map]; rfl
      rw [e]
      exact hp)
    (by
      intro p hp
      rcases List.mem_cons.mp hp with rfl | hp
      · exact ⟨hv, by show (unionS [f] (rnS f tab)).length ≤ _; exact Nat.le_add_right_of_le hlen⟩
      · obtain ⟨a, ha, rfl⟩ := List.mem_map.mp hp
        have := Hnm a
        exact ⟨this.1, by show (nm a tab).length ≤ _; have := this.2; (clear this ha hp hlen hv hn Hnm hN hh hr; omega)⟩)
    (by rw [List.length_cons, List.length_map]; (clear hp hlen hv Hnm hN hh hr; omega)) (by
      rw [List.length_cons, List.length_map]
      refine Nat.le_trans (Nat.mul_le_mul_right _ (show args.length + 1 ≤ 5 by (clear hp hlen hv Hnm hN hh hr; omega))) (by (clear hp hlen hv hn Hnm hN; omega)))
  rw [List.map_cons, List.map_map] at key
  refine ⟨key, ?_⟩
  have h1 := len_unions (args.map (nm · tab)) (unionS [] (unionS [f] (rnS f tab))) (g := h) (by
    intro x hx
    obtain ⟨a, _, rfl⟩ := List.mem_map.mp hx
    exact (Hnm a).2)
  have h2 := len_unionS (unionS [f] (rnS f tab)) []
  have h3 : args.length * h ≤ 4 * h := Nat.mul_le_mul_right _ hn
  unfold unions at h1 ⊢
  rw [List.foldl_cons]
  simp only [List.length_map, List.length_nil] at *
  (clear key hp hv hn Hnm hN; omega)
theorem parts_len {ps : List (List Str)} {g : Nat} (h : ∀ x ∈ ps, x.length ≤ g) : (unions ps []).length ≤ ps.length * g := by
  have := len_unions ps [] h
  simpa using this

theorem law_node {N : Nat} (h : Nat → Nat) (ok : Nat → Prop) (hN : 40 ≤ N) (hcls : ∀ a : α, ∃ C fs, pv a = .inst C fs ∧ seq C "Lam" = false)
    (H : ∀ R, ok R → ∀ (a : α) (tab : Tab') b, TabB R tab → RetsOK N (pv a) (nev a) (fun x => nee x a) (nm a) tab b (h R))
    {R : Nat} (hok : okUpR h ok R) {t : Node α} (ht : NodeOK t) {tab : Tab'} {b : Bowl} (hR : TabB R tab) :
    RetsOK (N + 100) (nodePV pv t) (nevS nev nee nm t) (fun x => neeS nev nee nm x t) (nmS nm t) tab b (hUp h R) := by
  obtain ⟨o1, o2, o3, o4⟩ := hok
  have hr : rUp h R = R + 1 + h R := rfl
  have hu : hUp h R = 1 + R + 5 * h R := rfl
  have S := fun a => H R o1 a tab b hR
  have Snm : ∀ a : α, Ret N "_law_names" [pv a, tabPV tab] b (kd (nm a tab), b) ∧ (nm a tab).length ≤ h R := fun a => ⟨(S a).rnm, (S a).rlen⟩
  have hN2 : 20 ≤ N := by exact Nat.le_trans (Nat.le_add_left _ _) hN
  cases t with
  | leaf l =>
    cases l with
    | var x =>
      refine ⟨(names_var x b (Nat.le_trans (hR.rn x) (by (clear ht hN2 Snm S hu o3 o2 o1 hR H hcls hN; omega)))).mono (by exact Nat.le_add_right_of_le hN), ?_, (never_leaf (.var x) b).mono (by exact Nat.le_add_right_of_le hN2), fun y => (needs_leaf y (.var x) b).mono (by exact Nat.le_add_right_of_le hN2)⟩
      have h1 := len_unionS (rnS x tab) [x]
      have h2 := hR.rn x
      simp only [List.length_cons, List.length_nil] at h1
      show (unionS [x] (rnS x tab)).length ≤ _
      (clear ht hN2 Snm S hr o4 o3 o2 o1 hR H hcls hN; omega)
    | lit =>
      refine ⟨?_, Nat.zero_le _, (never_leaf .lit b).mono (by exact Nat.le_add_right_of_le hN2), fun y => (needs_leaf y .lit b).mono (by exact Nat.le_add_right_of_le hN2)⟩
      exact (names_parts (N := 20) (b := b) (tab := tab) (C := "Lit") (fs := [("kind", .str "int"), ("value", .int 4)]) (Nat.le_refl _) rfl [] 0 (parts_lit b) (by intro p hp; cases hp) (by decide) (by decide)).mono (by exact Nat.le_add_left _ _)
  | prim op args =>
    have hn := ht.prim op args rfl
    refine ⟨?_, ?_, (never_prim hN2 (fun a => (S a).rnev) op args (by exact Nat.le_trans hn (by decide))).mono (by exact Mine.upN rfl), fun x => (needs_prim hN2 x (fun a => (S a).rnee x) op args (by omega)).mono (by exact Mine.upN rfl)⟩
    · have key := names_parts (N := N) (b := b) (tab := tab) (C := "Prim") (fs := [("op", .str op), ("args", .list (args.map pv))]) hN2 rfl (args.map fun a => ⟨pv a, .tuple [], nm a tab⟩) (h R)
        (by
          have e : ((args.map fun a => ⟨pv a, .tuple [], nm a tab⟩ : List Part).map partPV) = (args.map pv).map fun v => .tuple [v, .tuple []] := by
            rw [List.map_map, List.map_map]; rfl
          rw [e]
          exact (parts_prim (.str op) (args.map pv) (by rw [List.length_map]; omega) b).mono (by omega))
        (by
          intro p hp
          obtain ⟨a, ha, rfl⟩ := List.mem_map.mp hp
          exact Snm a)
        (by rw [List.length_map]; exact Nat.le_trans hn (by decide)) (by rw [List.length_map]; exact Nat.le_trans (Nat.mul_le_mul_right _ hn) (by (clear hn ht hN2 Snm S hu hr o4 o2 o1 hR H hcls hN; omega)))
      rw [List.map_map] at key
      exact key.mono (by exact Mine.upN rfl)
    · have h1 := parts_len (ps := args.map (nm · tab)) (g := h R) (by
        intro x hx
        obtain ⟨a, _, rfl⟩ := List.mem_map.mp hx
        exact (S a).rlen)
      rw [List.length_map] at h1
      have h3 : args.length * h R ≤ 4 * h R := Nat.mul_le_mul_right _ hn
      show (unions (args.map (nm · tab)) []).length ≤ _
      (clear hn ht hN2 Snm S hr o4 o3 o2 o1 hR H hcls hN; omega)
  | case v own a o =>
    cases o with
    | none =>
      refine ⟨?_, ?_, (never_case1 hN2 (fun a => (S a).rnev) v own a).mono (by exact Mine.upN rfl), fun x => (needs_case1 hN2 x (fun a => (S a).rnee x) (fun a => (S a).rnev) v own a).mono (by exact Mine.upN rfl)⟩
      · exact (names_parts (N := N) (b := b) (tab := tab) (C := "Case") (fs := [("value", pv v), ("name", .str own), ("alts", .list [altPV (pv a)]), ("other", .none)]) hN2 rfl [⟨pv v, .tuple [], nm v tab⟩, ⟨pv a, .tuple [.int 0, .int 1], nm a tab⟩] (h R)
          ((parts_case1 (pv v) own (pv a) b).mono hN2) (by
            intro p hp
            simp only [List.mem_cons, List.not_mem_nil, or_false] at hp
            rcases hp with rfl | rfl
            · exact Snm v
            · exact Snm a) (by show 2 ≤ 100; decide) (by show 2 * h R ≤ _; (clear ht hN2 Snm S hu hr o4 o2 o1 hR H hcls hN; omega))).mono (by exact Mine.upN rfl)
      · have h1 := parts_len (ps := [nm v tab, nm a tab]) (g := h R) (by
          intro x hx
          simp only [List.mem_cons, List.not_mem_nil, or_false] at hx
          rcases hx with rfl | rfl
          · exact (S v).rlen
          · exact (S a).rlen)
        simp only [List.length_cons, List.length_nil] at h1
        show (unions [nm v tab, nm a tab] []).length ≤ _
        (clear ht hN2 Snm S hr o4 o3 o2 o1 hR H hcls hN; omega)
    | some o =>
      refine ⟨?_, ?_, (never_case2 hN2 hcls (fun a => (S a).rnev) v own a o).mono (by exact Mine.upN rfl), fun x => (needs_case2 hN2 hcls x (fun a => (S a).rnee x) (fun a => (S a).rnev) v own a o).mono (by exact Mine.upN rfl)⟩
      · obtain ⟨C, fs, hpo, _⟩ := hcls o
        have hso := Snm o
        rw [hpo] at hso
        show Ret _ _ [casePV (pv v) own (pv a) (pv o), _] _ _
        rw [hpo]
        exact (names_parts (N := N) (b := b) (tab := tab) (C := "Case") (fs := [("value", pv v), ("name", .str own), ("alts", .list [altPV (pv a)]), ("other", .inst C fs)]) hN2 rfl [⟨pv v, .tuple [], nm v tab⟩, ⟨pv a, .tuple [.int 0, .int 1], nm a tab⟩, ⟨.inst C fs, .tuple [.int 0], nm o tab⟩] (h R)
          ((parts_case2 (pv v) own (pv a) C fs b).mono hN2) (by
            intro p hp
            simp only [List.mem_cons, List.not_mem_nil, or_false] at hp
            rcases hp with rfl | rfl | rfl
            · exact Snm v
            · exact Snm a
            · exact hso) (by show 3 ≤ 100; decide) (by show 3 * h R ≤ _; (clear hso hpo ht hN2 Snm S hu hr o4 o2 o1 hR H hcls hN; omega))).mono (by exact Mine.upN rfl)
      · have h1 := parts_len (ps := [nm v tab, nm a tab, nm o tab]) (g := h R) (by
          intro x hx
          simp only [List.mem_cons, List.not_mem_nil, or_false] at hx
          rcases hx with rfl | rfl | rfl
          · exact (S v).rlen
          · exact (S a).rlen
          · exact (S o).rlen)
        simp only [List.length_cons, List.length_nil] at h1
        show (unions [nm v tab, nm a tab, nm o tab] []).length ≤ _
        (clear ht hN2 Snm S hr o4 o3 o2 o1 hR H hcls hN; omega)
  | lett own v bd =>
    have hw := (within_lett (b := b) (tab := tab) own (hcls v) (pv bd) (by have := hR.len; (clear ht hN2 Snm S hu o3 o2 o1 hR H hcls hN; omega))).mono hN2
    refine ⟨?_, ?_, (never_lett hN2 hcls (fun a => (S a).rnev) (fun x a => (S a).rnee x) own v bd hw).mono (by exact Mine.upN rfl), fun x => (needs_lett hN2 hcls x (fun x a => (S a).rnee x) own v bd hw).mono (by exact Mine.upN rfl)⟩
    · exact (names_parts (N := N) (b := b) (tab := tab) (C := "Let") (fs := [("binds", .list [.tuple [.str own, pv v]]), ("body", pv bd), ("is_rec", .bool false)]) hN2 rfl [⟨pv v, .tuple [], nm v tab⟩, ⟨pv bd, .tuple [.int 0], nm bd tab⟩] (h R)
          ((parts_let own (pv v) (pv bd) b).mono hN2) (by
            intro p hp
            simp only [List.mem_cons, List.not_mem_nil, or_false] at hp
            rcases hp with rfl | rfl
            · exact Snm v
            · exact Snm bd) (by show 2 ≤ 100; decide) (by show 2 * h R ≤ _; omega)).mono (by exact Mine.upN rfl)
    · have h1 := parts_len (ps := [nm v tab, nm bd tab]) (g := h R) (by
          intro x hx
          simp only [List.mem_cons, List.not_mem_nil, or_false] at hx
          rcases hx with rfl | rfl
          · exact (S v).rlen
          · exact (S bd).rlen)
      simp only [List.length_cons, List.length_nil] at h1
      show (unions [nm v tab, nm bd tab] []).length ≤ _
      omega
  | app f args =>
    have hn := ht.app f args rfl
    obtain ⟨k1, k2⟩ := names_app (b := b) hR (by (clear hn ht hN2 Snm S hu o3 o2 o1 hR H hcls hN; omega)) (show h R ≤ 1000 by (clear hn ht hN2 Snm S hu hr o4 o2 o1 hR H hcls hN; omega)) hN Snm f args hn
    exact ⟨k1.mono (by exact Mine.upN rfl), (by show (unions (unionS [f] (rnS f tab) :: args.map (nm · tab)) []).length ≤ _; (clear k1 hn ht hN2 Snm S hr o4 o3 o2 o1 hR H hcls hN; omega)), (never_app hN2 (fun a => (S a).rnev) hR f args (by exact Nat.le_trans hn (by decide))).mono (by exact Mine.upN rfl), fun x => (needs_app hN2 x (fun a => (S a).rnee x) hR f args (by omega)).mono (by exact Mine.upN rfl)⟩
  | letf own ps fb args =>
    obtain ⟨hn, hps⟩ := ht.letf own ps fb args rfl
    have ho := outer_ret (ps := ps) hN2 fb (S fb).rnm (Nat.lt_of_le_of_lt (S fb).rlen o3) (fun x => (S fb).rnee x)
    have hw := within_letf (N := N + 20) (by exact Nat.le_add_left _ _) own ps hps fb (appPV own (args.map pv)) (by have := hR.len; (clear ho hps hn; omega)) ho (fun x => ((S fb).rnee x).mono (by exact Nat.le_add_right _ _)) ((S fb).rnev.mono (by exact Nat.le_add_right _ _))
    have hR2 : TabB (rUp h R) (put own (rowS nev nee nm ps fb tab) tab) := hR.put own (by show (ps.map _).length = 1 ∨ (ps.map _).length = 2; simpa using hps) (Nat.le_trans (len_out ps fb) (S fb).rlen)
    have S2 := fun a => H _ o2 a _ b hR2
    refine ⟨?_, ?_, ?_, fun x => ?_⟩
    · obtain ⟨k1, k2⟩ := names_app (b := b) hR (by omega) (show h R ≤ 1000 by omega) hN Snm own args hn
      have kl := names_parts (N := N) (b := b) (tab := tab) (C := "Lam") (fs := [("params", strsPV ps), ("body", pv fb)]) hN2 rfl [⟨pv fb, .tuple [.int 0], nm fb tab⟩] (h R)
          ((parts_lam ps (pv fb) b).mono hN2) (by
            intro p hp
            simp only [List.mem_cons, List.not_mem_nil, or_false] at hp
            rcases hp with rfl
            exact Snm fb) (by show 1 ≤ 100; decide) (by show 1 * h R ≤ _; (clear k2 k1 S2 hR2 hw ho hps hn ht hN2 Snm S hu hr o4 o2 o1 hR H hcls hN; omega))
      have h1 := parts_len (ps := [nm fb tab]) (g := h R) (by
          intro x hx
          simp only [List.mem_cons, List.not_mem_nil, or_false] at hx
          rcases hx with rfl
          exact (S fb).rlen)
      simp only [List.length_cons, List.length_nil] at h1
      exact (names_parts (N := N + 20) (b := b) (tab := tab) (C := "Let") (fs := [("binds", .list [.tuple [.str own, lamPV ps (pv fb)]]), ("body", appPV own (args.map pv)), ("is_rec", .bool false)]) (by exact Nat.le_add_left _ _) rfl
          [⟨lamPV ps (pv fb), .tuple [], unions [nm fb tab] []⟩, ⟨appPV own (args.map pv), .tuple [.int 0], unions (unionS [own] (rnS own tab) :: args.map (nm · tab)) []⟩] (hUp h R)
          ((parts_let own (lamPV ps (pv fb)) (appPV own (args.map pv)) b).mono (by exact Nat.le_add_left _ _)) (by
            intro p hp
            simp only [List.mem_cons, List.not_mem_nil, or_false] at hp
            rcases hp with rfl | rfl
            · exact ⟨kl, by show (unions [nm fb tab] []).length ≤ _; (clear kl k2 k1 S2 hR2 hw ho hps hn ht hN2 Snm S hr o4 o3 o2 o1 hR H hcls hN; omega)⟩
            · exact ⟨k1, Nat.le_trans k2 (by (clear h1 kl k2 k1 S2 hR2 hw ho hps hn ht hN2 Snm S hr o4 o3 o2 o1 hR H hcls hN; omega))⟩) (by show 2 ≤ 100; decide) (by show 2 * hUp h R ≤ _; (clear h1 kl k2 k1 S2 hR2 hw ho hps hn ht hN2 Snm S o3 o2 o1 hR H hcls hN; omega))).mono (by (clear h1 kl k2 k1 S2 hR2 hw ho hps hn ht hN2 Snm S hu hr o4 o3; omega))
    · obtain ⟨k1, k2⟩ := names_app (b := b) hR (by omega) (show h R ≤ 1000 by omega) hN Snm own args hn
      have h1 := parts_len (ps := [nm fb tab]) (g := h R) (by
          intro x hx
          simp only [List.mem_cons, List.not_mem_nil, or_false] at hx
          rcases hx with rfl
          exact (S fb).rlen)
      simp only [List.length_cons, List.length_nil] at h1
      show (unionS (unionS [] (unions [nm fb tab] [])) (unions (unionS [own] (rnS own tab) :: args.map (nm · tab)) [])).length ≤ _
      have h2 := len_unionS (unions (unionS [own] (rnS own tab) :: args.map (nm · tab)) []) (unionS [] (unions [nm fb tab] []))
      have h3 := len_unionS (unions [nm fb tab] []) []
      simp only [List.length_nil] at h3
      (clear k1 S2 hR2 hw ho hps hn ht hN2 Snm S hr o4 o3 o2 o1 hR H hcls hN; omega)
    · have hb := never_app (b := b) hN2 (fun a => (S2 a).rnev) hR2 own args (by omega)
      exact (never_letf (N := N + 40) (hw.mono (by exact Nat.le_refl _)) (hb.mono (by exact Mine.upN rfl))).mono (by (clear hb S2 hR2 hw ho hps hn ht hN2 Snm S hu hr o4 o3; omega))
    · have hb := needs_app (b := b) hN2 x (fun a => (S2 a).rnee x) hR2 own args (by omega)
      exact (needs_letf (N := N + 40) (hw.mono (by exact Nat.le_refl _)) (hb.mono (by exact Mine.upN rfl))).mono (by omega)
end

/-! by depth -/
noncomputable def nmT : (n : Nat) → Tr n → Tab' → List Str
  | 0 => fun l tab => nmS (α := Leaf) (fun _ _ => []) (.leaf l) tab
  | n + 1 => fun t tab => nmS (nmT n) t.1 tab
mutual
noncomputable def nevT : (n : Nat) → Tr n → Tab' → Bool
  | 0 => fun _ _ => false
  | n + 1 => fun t tab => nevS (nevT n) (neeT n) (nmT n) t.1 tab
noncomputable def neeT : (n : Nat) → Str → Tr n → Tab' → Bool
  | 0 => fun x l _ => match l with | .var y => seq y x | .lit => false
  | n + 1 => fun x t tab => neeS (nevT n) (neeT n) (nmT n) x t.1 tab
end
def hT : Nat → Nat → Nat
  | 0 => fun R => 1 + R
  | n + 1 => hUp (hT n)
def okR : Nat → Nat → Prop
  | 0 => fun R => R ≤ 900
  | n + 1 => okUpR (hT n) (okR n)
theorem law_T : ∀ (n R : Nat), okR n R → ∀ (a : Tr n) (tab : Tab') b, TabB R tab → RetsOK (40 + 100 * n) (pvT n a) (nevT n a) (fun x => neeT n x a) (nmT n a) tab b (hT n R)
  | 0, R, hr, a, tab, b, hR => by
    have hr' : R ≤ 900 := hr
    cases a with
    | var x =>
      refine ⟨names_var x b (Nat.le_trans (hR.rn x) (by exact Nat.le_trans hr (by decide))), ?_, (never_leaf (.var x) b).mono (by exact Nat.le_add_left _ _), fun y => (needs_leaf y (.var x) b).mono (by exact Nat.le_add_left _ _)⟩
      have h1 := len_unionS (rnS x tab) [x]
      have h2 := hR.rn x
      simp only [List.length_cons, List.length_nil] at h1
      show (unionS [x] (rnS x tab)).length ≤ 1 + R
      omega
    | lit =>
      refine ⟨?_, Nat.zero_le _, (never_leaf .lit b).mono (by exact Nat.le_add_left _ _), fun y => (needs_leaf y .lit b).mono (by exact Nat.le_add_left _ _)⟩
      exact (names_parts (N := 20) (b := b) (tab := tab) (C := "Lit") (fs := [("kind", .str "int"), ("value", .int 4)]) (Nat.le_refl _) rfl [] 0 (parts_lit b) (by intro p hp; cases hp) (by decide) (by decide)).mono (by exact Nat.le_refl _)
  | n + 1, R, hok, a, tab, b, hR => by
    have := law_node (pv := pvT n) (nev := nevT n) (nee := neeT n) (nm := nmT n) (N := 40 + 100 * n) (hT n) (okR n) (by exact Nat.le_add_right _ _) (clsT n) (fun R h a tab b hR => law_T n R h a tab b hR) hok a.2 (b := b) hR
    have e : 40 + 100 * (n + 1) = 40 + 100 * n + 100 := by omega
    rw [e]
    exact this
end Mine

set_option maxRecDepth 100000
set_option linter.unusedVariables false
set_option linter.unusedSimpArgs false
namespace Mine
open PySem

/-! texts -/
noncomputable def digitsS : Str := Str.ofString "0123456789"
/-- a name that stands bare -/
structure Nice (s : Str) : Prop where
  len : s.length ≤ 12
  head : seq (slicePart s none (some 1)) "-" = false
  headlen : sizeOk (slicePart s none (some 1)).length = true
  ne : seq s "" = false
  kw : memS s keyWords = false
  num : (s.cps.toList.all fun c => digitsS.cps.toList.any (Nat.beq c)) = false
  chars : ∀ c ∈ s.cps.toList, neverBare.cps.toList.any (Nat.beq c) = false ∧ 32 < c ∧ c ≠ 127
theorem len_str (s : Str) : s.cps.toList.length = s.length := Array.length_toList
theorem len_app (a b : Str) : (a ++ b).length = a.length + b.length := Array.size_append
theorem add_ok {a b : Str} (h : a.length + b.length ≤ 100000) : binop .Add (.str a) (.str b) = some (.str (a ++ b)) := by
  show guard (sizeOk (a.length + b.length)) (PV.str (a ++ b)) = _
  rw [sizeOk_of h]; rfl
theorem all_bools {β : Type} (q : β → Bool) (l : List β) : allBools ((l.map q).map .bool) = some (l.all q) := by
  induction l with
  | nil => rfl
  | cons a r ih =>
    show (allBools ((r.map q).map .bool)).map (q a && ·) = _
    rw [ih]; rfl
theorem all_fold {β : Type} (q : β → Bool) (l : List β) : bltAt .all [.list (l.foldl (fun (a : List PV) c => a ++ [.bool (q c)]) [])] = some (.bool (l.all q)) := by
  rw [fold_bools, List.nil_append]
  show (allBools ((l.map q).map .bool)).map PV.bool = _
  rw [all_bools]; rfl
theorem is_number_ret (s : Str) (h : Nice s) (b : Bowl) : Ret 20 "is_number" [.str s] b (.bool false, b) := by
  have h1 : cmp .Eq (.str (slicePart s none (some 1))) (.str "-") = some false := congrArg some h.head
  have h2 : sizeOk (slicePart s none (some 1)).length = true := h.headlen
  have h3 : cmp .NotEq (.str s) (.str "") = some true := by
    show (some (seq s "")).map not = _
    rw [h.ne]; rfl
  have hz : sizeOk (charsOf s).length = true := sizeOk_of (by unfold charsOf; rw [List.length_map, len_str]; have := h.len; exact Nat.le_trans this (by decide))
  have hal : bltAt .all [.list (s.cps.toList.foldl (fun (a : List PV) c => a ++ [.bool (digitsS.cps.toList.any (Nat.beq c))]) [])] = some (.bool false) := by
    rw [all_fold, h.num]
  have l1 := LComp.map (N := 0) (k := 15) (f := "is_number") (p := [1]) (q := [1, 0]) (x := "figure") (st0 := ⟨[], none, b⟩) (l := s.cps.toList) (fun c => PV.str ⟨#[c]⟩) (fun c acc => acc ++ [.bool (digitsS.cps.toList.any (Nat.beq c))]) (acc := []) rfl (fun v => by kernel_rfl) (fun c hc acc CC hC => by
    have hm : cmp .In (.str ⟨#[c]⟩) (.str "0123456789") = some (digitsS.cps.toList.any (Nat.beq c)) := rfl
    exact Ok.of [tb hm] (ac hm (ac hC (trivial))) (by kernel_rfl))
  exact Ret.ofT (N := 0) 19 (by kernel_rfl) (by kernel_rfl) [.b true, tb h1, tb h3, .b true, tcl l1, tv hal] (fun z => ac h2 (ac h1 (ac h3 (ac hz (ac l1 (ac hal (z))))))) (by kernel_rfl)
theorem is_bare_ret (s : Str) (h : Nice s) (b : Bowl) : Ret 40 "is_bare" [.str s] b (.bool true, b) := by
  have h1 : cmp .Eq (.str s) (.str "") = some false := congrArg some h.ne
  have h2 : cmp .In (.str s) (.tuple (keyWords.map .str)) = some false := by
    show (strsOf (keyWords.map .str)).map (memS s) = _
    rw [strsOf_map]; exact congrArg some h.kw
  have h3 := is_number_ret s h b
  have hz : sizeOk (charsOf s).length = true := sizeOk_of (by unfold charsOf; rw [List.length_map, len_str]; have := h.len; exact Nat.le_trans this (by decide))
  have hal : bltAt .all [.list (s.cps.toList.foldl (fun (a : List PV) c => a ++ [.bool ((fun _ => true) c)]) [])] = some (.bool true) := by
    rw [all_fold]
    exact congrArg (fun q => some (PV.bool q)) (List.all_eq_true.mpr fun _ _ => rfl)
  have l1 := LComp.map (N := 20) (k := 16) (f := "is_bare") (p := [1]) (q := [0]) (x := "sign") (st0 := ⟨[], none, b⟩) (l := s.cps.toList) (fun c => PV.str ⟨#[c]⟩) (fun c acc => acc ++ [.bool ((fun _ => true) c)]) (acc := []) rfl (fun v => by kernel_rfl) (fun c hc acc CC hC => by
    obtain ⟨c1, c2, c3⟩ := h.chars c hc
    have hm : cmp .NotIn (.str ⟨#[c]⟩) (.str neverBare) = some true := by
      show (some (neverBare.cps.toList.any (Nat.beq c))).map not = _
      rw [c1]; rfl
    have hlt : cmp .Lt (.int 32) (.int (Int.ofNat c)) = some true := congrArg some (decide_eq_true (show (32 : Int) < (c : Int) by omega))
    have hne : cmp .NotEq (.int (Int.ofNat c)) (.int 127) = some true := by
      show (some (decide ((Int.ofNat c : Int) = 127))).map not = _
      exact congrArg (fun q => some (!q)) (decide_eq_false (show ¬ ((c : Int) = 127) by omega))
    exact Ok.of [tb hm, .g, tb hlt, tb hne] (ac hm (ac hlt (ac hne (ac hC (trivial))))) (by kernel_rfl))
  exact Ret.ofT (N := 20) 19 (by kernel_rfl) (by kernel_rfl) [tb h1, tb h2, tr h3, .b true, tcl l1, tv hal] (fun z => ac h1 (ac h2 (ac h3 (ac hz (ac l1 (ac hal (z))))))) (by kernel_rfl)
theorem name_text_ret (s : Str) (h : Nice s) (b : Bowl) : Ret 60 "name_text" [.str s] b (.str s, b) := by
  have h1 := is_bare_ret s h b
  exact Ret.ofT (N := 40) 19 (by kernel_rfl) (by kernel_rfl) [tr h1] (fun z => ac h1 (z)) (by kernel_rfl)
end Mine

set_option maxRecDepth 100000
set_option linter.unusedVariables false
set_option linter.unusedSimpArgs false
namespace Mine
open PySem

/-- a text that a call gives -/
def Txt (N : Nat) (f : Str) (args : List PV) (b : Bowl) (L : Nat) : Prop := ∃ s : Str, Ret N f args b (.str s, b) ∧ s.length ≤ L
theorem Txt.mono {N M L L' : Nat} {f : Str} {args : List PV} {b : Bowl} (h : Txt N f args b L) (hn : N ≤ M) (hl : L ≤ L') : Txt M f args b L' := by
  obtain ⟨s, h1, h2⟩ := h; exact ⟨s, h1.mono hn, Nat.le_trans h2 hl⟩
theorem lenAll_le (l : List Str) {L : Nat} (hl : ∀ s ∈ l, s.length ≤ L) : lenAll l ≤ l.length * (L + 1) := by
  induction l with
  | nil => exact Nat.zero_le _
  | cons a r ih =>
    have := ih fun s hs => hl s (.tail _ hs)
    have := hl a (.head _)
    show a.length + 1 + lenAll r ≤ (r.length + 1) * (L + 1)
    rw [Nat.add_mul, Nat.one_mul]
    omega
theorem join_ok (sep : Str) (l : List Str) {L : Nat} (hl : ∀ s ∈ l, s.length ≤ L) (hs : sep.length ≤ 1) (hz : l.length * (L + 2) ≤ 100000) :
    strJoin sep (.list (l.map .str)) = some (.str (joinS sep l)) ∧ (joinS sep l).length ≤ l.length * (L + 2) := by
  have h1 := lenAll_le l hl
  have h2 : sep.length * l.length ≤ 1 * l.length := Nat.mul_le_mul_right _ hs
  have h4 : l.length * (L + 2) = l.length * (L + 1) + l.length := Nat.mul_succ _ _
  constructor
  · show (strsOf (l.map .str)).bind (fun ss => guard (sizeOk (lenAll ss + sep.length * ss.length)) (PV.str (joinS sep ss))) = _
    rw [strsOf_map]
    show guard (sizeOk (lenAll l + sep.length * l.length)) (PV.str (joinS sep l)) = _
    rw [sizeOk_of (by (clear hs; omega))]; rfl
  · have := glued_length sep l
    (clear hz hs; omega)
theorem join1 (s : Str) {L : Nat} (hl : s.length ≤ L) (hz : L ≤ 90000) : strJoin " " (.list [.str s]) = some (.str (joinS " " [s])) ∧ (joinS " " [s]).length ≤ L + 2 := by
  have := join_ok " " [s] (L := L) (fun x hx => List.mem_singleton.mp hx ▸ hl) (by decide) (by show 1 * _ ≤ _; (clear hl; omega))
  exact ⟨this.1, Nat.le_trans this.2 (by show 1 * _ ≤ _; (clear this hz hl; omega))⟩
theorem join2 (s t : Str) {L : Nat} (hl : s.length ≤ L) (ht : t.length ≤ L) (hz : L ≤ 40000) : strJoin " " (.list [.str s, .str t]) = some (.str (joinS " " [s, t])) ∧ (joinS " " [s, t]).length ≤ 2 * (L + 2) :=
  join_ok " " [s, t] (L := L) (fun x hx => (List.mem_cons.mp hx).elim (fun e => e ▸ hl) fun hx => List.mem_singleton.mp hx ▸ ht) (by decide) (by show 2 * _ ≤ _; (clear ht hl; omega))
theorem lit_text (i : Int) (h : i = 4 ∨ i = 1) (b : Bowl) : Txt 20 "literal_text" [.str "int", .int i] b 5 := by
  rcases h with rfl | rfl
  · exact ⟨"int 4", by exact Ret.ofT (N := 0) 19 (by kernel_rfl) (by kernel_rfl) [] (fun z => z) (by kernel_rfl), by decide⟩
  · exact ⟨"int 1", by exact Ret.ofT (N := 0) 19 (by kernel_rfl) (by kernel_rfl) [] (fun z => z) (by kernel_rfl), by decide⟩
/-- a text and what is put to it -/
structure Cat (a b : Str) (L : Nat) : Prop where
  ok : binop .Add (.str a) (.str b) = some (.str (a ++ b))
  len : (a ++ b).length ≤ L
theorem cat {a b : Str} {A B : Nat} (ha : a.length ≤ A) (hb : b.length ≤ B) (h : A + B ≤ 100000) : Cat a b (A + B) := ⟨add_ok (by omega), by rw [len_app]; omega⟩

theorem names_text_ret (ps : List Str) (hps : ps.length = 1 ∨ ps.length = 2) (h : ∀ p ∈ ps, Nice p) (b : Bowl) : Txt 80 "names_text" [strsPV ps] b 40 := by
  match ps, hps with
  | [p], _ =>
    have hp := name_text_ret p (h p (by simp)) b
    obtain ⟨j1, j2⟩ := join1 p (h p (by simp)).len (by decide)
    obtain ⟨a1, k1⟩ := cat (a := "(") (A := 1) (Nat.le_refl 1) j2 (by decide)
    obtain ⟨a2, k2⟩ := cat (b := ")") (B := 1) k1 (Nat.le_refl 1) (by decide)
    exact ⟨"(" ++ joinS " " [p] ++ ")", by exact Ret.ofT (N := 60) 19 (by kernel_rfl) (by kernel_rfl) [.g, .g, tr hp, tv j1, tv a1, tv a2] (fun z => ac hp (ac j1 (ac a1 (ac a2 (z))))) (by kernel_rfl), Nat.le_trans k2 (by decide)⟩
  | [p, q], _ =>
    have hp := name_text_ret p (h p (by simp)) b
    have hq := name_text_ret q (h q (by simp)) b
    obtain ⟨j1, j2⟩ := join2 p q (h p (by simp)).len (h q (by simp)).len (by decide)
    obtain ⟨a1, k1⟩ := cat (a := "(") (A := 1) (Nat.le_refl 1) j2 (by decide)
    obtain ⟨a2, k2⟩ := cat (b := ")") (B := 1) k1 (Nat.le_refl 1) (by decide)
    exact ⟨"(" ++ joinS " " [p, q] ++ ")", by exact Ret.ofT (N := 60) 19 (by kernel_rfl) (by kernel_rfl) [.g, .g, tr hp, tr hq, tv j1, tv a1, tv a2] (fun z => ac hp (ac hq (ac j1 (ac a1 (ac a2 (z)))))) (by kernel_rfl), Nat.le_trans k2 (by decide)⟩
theorem key_text_ret (a : PV) (b : Bowl) : Txt 40 "key_text" [altPV a] b 10 := by
  obtain ⟨s, h1, h2⟩ := lit_text 1 (.inr rfl) b
  obtain ⟨a1, k1⟩ := cat (a := "is (") (A := 4) (Nat.le_refl 4) h2 (by decide)
  obtain ⟨a2, k2⟩ := cat (b := ")") (B := 1) k1 (Nat.le_refl 1) (by decide)
  exact ⟨"is (" ++ s ++ ")", by exact Ret.ofT (N := 20) 19 (by kernel_rfl) (by kernel_rfl) [.g, .g, .g, .g, tr h1, tv a1, tv a2] (fun z => ac h1 (ac a1 (ac a2 (z)))) (by kernel_rfl), k2⟩
theorem binds_text_ret {N L : Nat} (hN : 60 ≤ N) (hL : L ≤ 50000) {own : Str} (ho : Nice own) {v : PV} {b : Bowl} (h : Txt N "core_text" [v] b L) : Txt (N + 20) "binds_text" [.list [.tuple [.str own, v]]] b (L + 30) := by
  obtain ⟨s, h1, h2⟩ := h
  have hn := (name_text_ret own ho b).mono hN
  obtain ⟨a1, k1⟩ := cat (a := "(") (A := 1) (Nat.le_refl 1) ho.len (by decide)
  obtain ⟨a2, k2⟩ := cat (b := " ") (B := 1) k1 (Nat.le_refl 1) (by decide)
  obtain ⟨a3, k3⟩ := cat k2 h2 (by (clear k2 a2 k1 a1 hn h2 h1 ho hN; omega))
  obtain ⟨a4, k4⟩ := cat (b := ")") (B := 1) k3 (Nat.le_refl 1) (by (clear k3 a3 k2 a2 k1 a1 hn h2 h1 ho hN; omega))
  obtain ⟨j1, j2⟩ := join1 _ k4 (by (clear k4 a4 k3 a3 k2 a2 k1 a1 hn h2 h1 ho hN; omega))
  obtain ⟨a5, k5⟩ := cat (a := "(") (A := 1) (Nat.le_refl 1) j2 (by (clear j2 j1 k4 a4 k3 a3 k2 a2 k1 a1 hn h2 h1 ho hN; omega))
  obtain ⟨a6, k6⟩ := cat (b := ")") (B := 1) k5 (Nat.le_refl 1) (by (clear k5 a5 j2 j1 k4 a4 k3 a3 k2 a2 k1 a1 hn h2 h1 ho hN; omega))
  exact ⟨"(" ++ joinS " " ["(" ++ own ++ " " ++ s ++ ")"] ++ ")", by exact Ret.ofT (N := N) 19 (by kernel_rfl) (by kernel_rfl) [.g, .g, tr hn, tv a1, tv a2, tr h1, tv a3, tv a4, tv j1, tv a5, tv a6] (fun z => ac hn (ac a1 (ac a2 (ac h1 (ac a3 (ac a4 (ac j1 (ac a5 (ac a6 (z)))))))))) (by kernel_rfl), Nat.le_trans k6 (by (clear k6 a6 k5 a5 j2 j1 k4 a4 k3 a3 k2 a2 k1 a1 hn h2 h1 ho hL hN; omega))⟩
theorem case_text_ret {N L : Nat} (hN : 60 ≤ N) (hL : L ≤ 20000) {own : Str} (ho : Nice own) {v a o : PV} {b : Bowl} (hv : Txt N "core_text" [v] b L) (ha : Txt N "core_text" [a] b L) (hoo : o = .none ∨ ((∃ C fs, o = .inst C fs) ∧ Txt N "core_text" [o] b L)) :
    Txt (N + 20) "case_text" [casePV v own a o] b (3 * L + 100) := by
  obtain ⟨sv, h1, h2⟩ := hv
  obtain ⟨sa, h3, h4⟩ := ha
  obtain ⟨sk, hk, hkl⟩ := (key_text_ret a b).mono (show 40 ≤ N by with_reducible exact Nat.le_trans (by decide) hN) (Nat.le_refl _)
  have hn := (name_text_ret own ho b).mono hN
  obtain ⟨a1, k1⟩ := cat (a := "(") (A := 1) (Nat.le_refl 1) hkl (by decide)
  obtain ⟨a2, k2⟩ := cat (b := " ") (B := 1) k1 (Nat.le_refl 1) (by decide)
  obtain ⟨a3, k3⟩ := cat k2 h4 (by (clear k2 a2 k1 a1 hn hkl hk h4 h3 h2 h1 hoo ho hN; omega))
  obtain ⟨a4, k4⟩ := cat (b := ")") (B := 1) k3 (Nat.le_refl 1) (by (clear k3 a3 k2 a2 k1 a1 hn hkl hk h4 h3 h2 h1 hoo ho hN; omega))
  obtain ⟨j1, j2⟩ := join1 _ k4 (by (clear k4 a4 k3 a3 k2 a2 k1 a1 hn hkl hk h4 h3 h2 h1 hoo ho hN; omega))
  obtain ⟨b1, m1⟩ := cat (a := "case ") (A := 5) (Nat.le_refl 5) h2 (by (clear j2 j1 k4 a4 k3 a3 k2 a2 k1 a1 hn hkl hk h4 h3 h2 h1 hoo ho hN; omega))
  obtain ⟨b2, m2⟩ := cat (b := " ") (B := 1) m1 (Nat.le_refl 1) (by (clear m1 b1 j2 j1 k4 a4 k3 a3 k2 a2 k1 a1 hn hkl hk h4 h3 h2 h1 hoo ho hN; omega))
  obtain ⟨b3, m3⟩ := cat m2 ho.len (by (clear m2 b2 m1 b1 j2 j1 k4 a4 k3 a3 k2 a2 k1 a1 hn hkl hk h4 h3 h2 h1 hoo ho hN; omega))
  obtain ⟨b4, m4⟩ := cat (b := " (") (B := 2) m3 (Nat.le_refl 2) (by (clear m3 b3 m2 b2 m1 b1 j2 j1 k4 a4 k3 a3 k2 a2 k1 a1 hn hkl hk h4 h3 h2 h1 hoo ho hN; omega))
  obtain ⟨b5, m5⟩ := cat m4 j2 (by (clear m4 b4 m3 b3 m2 b2 m1 b1 j2 j1 k4 a4 k3 a3 k2 a2 k1 a1 hn hkl hk h4 h3 h2 h1 hoo ho hN; omega))
  obtain ⟨b6, m6⟩ := cat (b := ")") (B := 1) m5 (Nat.le_refl 1) (by (clear m5 b5 m4 b4 m3 b3 m2 b2 m1 b1 j2 j1 k4 a4 k3 a3 k2 a2 k1 a1 hn hkl hk h4 h3 h2 h1 hoo ho hN; omega))
  rcases hoo with rfl | ⟨⟨C, fs, rfl⟩, so, h5, h6⟩
  · exact ⟨"case " ++ sv ++ " " ++ own ++ " (" ++ joinS " " ["(" ++ sk ++ " " ++ sa ++ ")"] ++ ")", by exact Ret.ofT (N := N) 19 (by kernel_rfl) (by kernel_rfl) [.g, .g, tr hk, tv a1, tv a2, tr h3, tv a3, tv a4, tv j1, tr h1, tv b1, tv b2, tr hn, tv b3, tv b4, tv b5, tv b6] (fun z => ac hk (ac a1 (ac a2 (ac h3 (ac a3 (ac a4 (ac j1 (ac h1 (ac b1 (ac b2 (ac hn (ac b3 (ac b4 (ac b5 (ac b6 (z)))))))))))))))) (by kernel_rfl), Nat.le_trans m6 (by (clear m6 b6 m5 b5 m4 b4 m3 b3 m2 b2 m1 b1 j2 j1 k4 a4 k3 a3 k2 a2 k1 a1 hn hkl hk h4 h3 h2 h1 ho hL hN; omega))⟩
  · obtain ⟨c1, n1⟩ := cat (b := " (else ") (B := 7) m6 (Nat.le_refl 7) (by (clear h6 h5 m6 b6 m5 b5 m4 b4 m3 b3 m2 b2 m1 b1 j2 j1 k4 a4 k3 a3 k2 a2 k1 a1 hn hkl hk h4 h3 h2 h1 ho hN; omega))
    obtain ⟨c2, n2⟩ := cat n1 h6 (by (clear n1 c1 h6 h5 m6 b6 m5 b5 m4 b4 m3 b3 m2 b2 m1 b1 j2 j1 k4 a4 k3 a3 k2 a2 k1 a1 hn hkl hk h4 h3 h2 h1 ho hN; omega))
    obtain ⟨c3, n3⟩ := cat (b := ")") (B := 1) n2 (Nat.le_refl 1) (by (clear n2 c2 n1 c1 h6 h5 m6 b6 m5 b5 m4 b4 m3 b3 m2 b2 m1 b1 j2 j1 k4 a4 k3 a3 k2 a2 k1 a1 hn hkl hk h4 h3 h2 h1 ho hN; omega))
    exact ⟨"case " ++ sv ++ " " ++ own ++ " (" ++ joinS " " ["(" ++ sk ++ " " ++ sa ++ ")"] ++ ")" ++ " (else " ++ so ++ ")", by exact Ret.ofT (N := N) 19 (by kernel_rfl) (by kernel_rfl) [.g, .g, tr hk, tv a1, tv a2, tr h3, tv a3, tv a4, tv j1, tr h1, tv b1, tv b2, tr hn, tv b3, tv b4, tv b5, tv b6, .g, tv c1, tr h5, tv c2, tv c3] (fun z => ac hk (ac a1 (ac a2 (ac h3 (ac a3 (ac a4 (ac j1 (ac h1 (ac b1 (ac b2 (ac hn (ac b3 (ac b4 (ac b5 (ac b6 (ac c1 (ac h5 (ac c2 (ac c3 (z)))))))))))))))))))) (by kernel_rfl), Nat.le_trans n3 (by (clear n3 c3 n2 c2 n1 c1 h6 h5 m6 b6 m5 b5 m4 b4 m3 b3 m2 b2 m1 b1 j2 j1 k4 a4 k3 a3 k2 a2 k1 a1 hn hkl hk h4 h3 h2 h1 ho hL hN; omega))⟩
end Mine

set_option maxRecDepth 100000
set_option linter.unusedVariables false
set_option linter.unusedSimpArgs false
namespace Mine
open PySem

theorem core_var (x : Str) (h : Nice x) (b : Bowl) : Txt 80 "core_text" [varPV x] b 12 := by
  have hn := name_text_ret x h b
  exact ⟨x, by exact Ret.ofT (N := 60) 19 (by kernel_rfl) (by kernel_rfl) [.g, tr hn] (fun z => ac hn (z)) (by kernel_rfl), h.len⟩
theorem core_of {N L : Nat} {C : Str} {fs : List (Str × PV)} {b : Bowl} (hC : seq C "Var" = false) (hL : L ≤ 90000) (h : Txt N "inner_text" [.inst C fs] b L) : Txt (N + 20) "core_text" [.inst C fs] b (L + 2) := by
  have hm : some (memS C ["Var"]) = some false := by
    show some (match seq C "Var" with | true => true | false => false) = _
    rw [hC]
  obtain ⟨s, h1, h2⟩ := h
  obtain ⟨a1, k1⟩ := cat (a := "(") (A := 1) (Nat.le_refl 1) h2 (by (clear h2; omega))
  obtain ⟨a2, k2⟩ := cat (b := ")") (B := 1) k1 (Nat.le_refl 1) (by (clear k1 a1 h2; omega))
  exact ⟨"(" ++ s ++ ")", by exact Ret.ofT (N := N) 19 (by kernel_rfl) (by kernel_rfl) [tb hm, tr h1, tv a1, tv a2] (fun z => ac hm (ac h1 (ac a1 (ac a2 (z))))) (by kernel_rfl), Nat.le_trans k2 (by (clear k2 a2 k1 a1 h2; omega))⟩
theorem core_lit (b : Bowl) : Txt 80 "core_text" [leafPV .lit] b 12 := by
  obtain ⟨s, h1, h2⟩ := lit_text 4 (.inl rfl) b
  have : Txt 40 "inner_text" [leafPV .lit] b 5 := ⟨s, by exact Ret.ofT (N := 20) 19 (by kernel_rfl) (by kernel_rfl) [.g, tr h1] (fun z => ac h1 (z)) (by kernel_rfl), h2⟩
  exact (core_of (C := "Lit") (fs := [("kind", .str "int"), ("value", .int 4)]) rfl (by decide) this).mono (by decide) (by decide)
theorem row_fold (txt : PV → Str) : ∀ (r k : List PV), r.foldl (fun (a : List PV) v => a ++ [.str (txt v)]) k = k ++ (r.map txt).map .str := by
  intro r
  induction r with
  | nil => intro k; simp
  | cons v r ih => intro k; rw [List.foldl_cons, ih]; simp
theorem row_text_ret {N L : Nat} (word : Str) (hw : word.length ≤ 20) (l : List PV) (b : Bowl) (h : ∀ v ∈ l, Txt N "core_text" [v] b L) (hl : l.length ≤ 5) (hL : L ≤ 10000) : Txt (N + 20) "row_text" [.str word, .list l] b (6 * (L + 22)) := by
  have hc : ∀ v : PV, ∃ s : Str, v ∈ l → Ret N "core_text" [v] b (.str s, b) ∧ s.length ≤ L := fun v => by
    by_cases hv : v ∈ l
    · obtain ⟨s, hs⟩ := h v hv; exact ⟨s, fun _ => hs⟩
    · exact ⟨"", fun h => absurd h hv⟩
  obtain ⟨txt, ht⟩ := Classical.axiomOfChoice hc
  have hz : sizeOk l.length = true := sizeOk_of (by exact Nat.le_trans hl (by decide))
  have hadd : binop .Add (.list [.str word]) (.list (l.foldl (fun (a : List PV) v => a ++ [.str (txt v)]) [])) = some (.list ((word :: l.map txt).map .str)) := by
    rw [row_fold]
    show guard (sizeOk _) (PV.list _) = _
    rw [sizeOk_of (by simp; (clear hz ht hc hL h hw; omega))]
    rfl
  have hlen : (word :: l.map txt).length ≤ 6 := by simp; omega
  have hmul : (word :: l.map txt).length * (L + 20 + 2) ≤ 6 * (L + 22) := Nat.mul_le_mul_right _ hlen
  obtain ⟨j1, j2⟩ := join_ok " " (word :: l.map txt) (L := L + 20) (by
    intro s hs
    rcases List.mem_cons.mp hs with rfl | hs
    · exact Nat.le_trans hw (Mine.up0 rfl)
    · obtain ⟨v, hv, rfl⟩ := List.mem_map.mp hs
      have := (ht v hv).2; exact Nat.le_add_right_of_le this) (by decide) (by (clear hlen hadd hz ht hc hl h hw; omega))
  have l1 := LComp.name (N := N) (k := 15) (f := "row_text") (p := [0]) (q := [0, 1]) (x := "expr") (st0 := ⟨[], none, b⟩) (xs := l) (fun v acc => acc ++ [.str (txt v)]) (acc := []) rfl (fun v => by kernel_rfl) (fun v hv acc CC hC => by
    have hr := (ht v hv).1
    exact Ok.of [tr hr] (ac hr (ac hC (trivial))) (by kernel_rfl))
  exact ⟨joinS " " (word :: l.map txt), by exact Ret.ofT (N := N) 19 (by kernel_rfl) (by kernel_rfl) [.b true, tcl l1, tv hadd, tv j1] (fun z => ac hz (ac l1 (ac hadd (ac j1 (z))))) (by kernel_rfl), Nat.le_trans j2 hmul⟩
section
variable {α : Type} {pv : α → PV} {N L : Nat} {b : Bowl}
theorem core_prim (hN : 60 ≤ N) {op : Str} (ho : Nice op) (args : List α) (h : ∀ a ∈ args, Txt N "core_text" [pv a] b L) (hn : args.length ≤ 4) (hL : L ≤ 10000) : Txt (N + 60) "core_text" [primPV op (args.map pv)] b (8 * L + 500) := by
  obtain ⟨a1, k1⟩ := cat (a := "prim ") (A := 5) (Nat.le_refl 5) ho.len (by decide)
  have hnm := (name_text_ret op ho b).mono (show 60 ≤ N + 20 by exact Nat.le_add_right_of_le hN)
  obtain ⟨s, h1, h2⟩ := row_text_ret (N := N) (L := L) ("prim " ++ op) (by exact Nat.le_trans k1 (by decide)) (args.map pv) b (by intro v hv; obtain ⟨a, ha, rfl⟩ := List.mem_map.mp hv; exact h a ha) (by rw [List.length_map]; exact Nat.le_trans hn (by decide)) hL
  have : Txt (N + 40) "inner_text" [primPV op (args.map pv)] b (6 * (L + 22)) := ⟨s, by exact Ret.ofT (N := N + 20) 19 (by kernel_rfl) (by kernel_rfl) [.g, .g, .g, .g, .g, .g, .g, tr hnm, tv a1, tr h1] (fun z => ac hnm (ac a1 (ac h1 (z)))) (by kernel_rfl), h2⟩
  exact (core_of (C := "Prim") (fs := [("op", .str op), ("args", .list (args.map pv))]) rfl (by (clear this h2 h1 hnm k1 a1 hn h ho hN; omega)) this).mono (by exact Nat.le_refl _) (by (clear this h2 h1 hnm k1 a1 hL hn h ho hN; omega))
theorem core_app (hN : 80 ≤ N) {f : Str} (ho : Nice f) (args : List α) (h : ∀ a ∈ args, Txt N "core_text" [pv a] b L) (hn : args.length ≤ 4) (hL : L ≤ 10000) (hL2 : 12 ≤ L) : Txt (N + 60) "core_text" [appPV f (args.map pv)] b (6 * L + 150) := by
  obtain ⟨s, h1, h2⟩ := row_text_ret (N := N) (L := L) "app" (by decide) (varPV f :: args.map pv) b (by
    intro v hv
    rcases List.mem_cons.mp hv with rfl | hv
    · exact (core_var f ho b).mono hN hL2
    · obtain ⟨a, ha, rfl⟩ := List.mem_map.mp hv; exact h a ha) (by rw [List.length_cons, List.length_map]; (clear hL2 hL h ho hN; omega)) hL
  have hli : bltAt .list [.list (args.map pv)] = some (.list (args.map pv)) := by
    show guard (sizeOk _) (PV.list _) = _
    rw [sizeOk_of (by rw [List.length_map]; exact Nat.le_trans hn (by decide))]; rfl
  have hadd : binop .Add (.list [varPV f]) (.list (args.map pv)) = some (.list (varPV f :: args.map pv)) := by
    show guard (sizeOk _) (PV.list _) = _
    rw [sizeOk_of (by rw [List.length_map]; simp; (clear hli h2 h1 hL2 hL h ho hN; omega))]
    rfl
  have : Txt (N + 40) "inner_text" [appPV f (args.map pv)] b (6 * (L + 22)) := ⟨s, by exact Ret.ofT (N := N + 20) 19 (by kernel_rfl) (by kernel_rfl) [.g, .g, tv hli, tv hadd, tr h1] (fun z => ac hli (ac hadd (ac h1 (z)))) (by kernel_rfl), h2⟩
  exact (core_of (C := "App") (fs := [("fun", varPV f), ("args", .list (args.map pv))]) rfl (by (clear this hadd hli h2 h1 hL2 hn h ho hN; omega)) this).mono (by exact Nat.le_refl _) (by (clear this hadd hli h2 h1 hL2 hL hn h ho hN; omega))
theorem core_lam (hN : 80 ≤ N) {ps : List Str} (hps : ps.length = 1 ∨ ps.length = 2) (hp : ∀ p ∈ ps, Nice p) {fb : PV} (h : Txt N "core_text" [fb] b L) (hL : L ≤ 10000) : Txt (N + 60) "core_text" [lamPV ps fb] b (L + 60) := by
  obtain ⟨s1, h1, h2⟩ := (names_text_ret ps hps hp b).mono hN (Nat.le_refl _)
  obtain ⟨s2, h3, h4⟩ := h
  obtain ⟨a1, k1⟩ := cat (a := "lam ") (A := 4) (Nat.le_refl 4) h2 (by exact Nat.le_add_left _ _)
  obtain ⟨a2, k2⟩ := cat (b := " ") (B := 1) k1 (Nat.le_refl 1) (by exact Nat.le_add_left _ _)
  obtain ⟨a3, k3⟩ := cat k2 h4 (by (clear k2 a2 k1 a1 h4 h3 h2 h1 hp hps hN; omega))
  have : Txt (N + 20) "inner_text" [lamPV ps fb] b (L + 50) := ⟨"lam " ++ s1 ++ " " ++ s2, by exact Ret.ofT (N := N) 19 (by kernel_rfl) (by kernel_rfl) [.g, .g, .g, tr h1, tv a1, tv a2, tr h3, tv a3] (fun z => ac h1 (ac a1 (ac a2 (ac h3 (ac a3 (z)))))) (by kernel_rfl), Nat.le_trans k3 (by (clear k3 a3 k2 a2 k1 a1 h4 h3 h2 h1 hL hp hps hN; omega))⟩
  exact (core_of (C := "Lam") (fs := [("params", strsPV ps), ("body", fb)]) rfl (by (clear this k3 a3 k2 a2 k1 a1 h4 h3 h2 h1 hp hps hN; omega)) this).mono (by (clear this k3 a3 k2 a2 k1 a1 h4 h3 h2 h1 hL; omega)) (by (clear this k3 a3 k2 a2 k1 a1 h4 h3 h2 h1 hL hp hps hN; omega))
theorem core_let {L2 : Nat} (hN : 60 ≤ N) {own : Str} (ho : Nice own) {v bd : PV} (hv : Txt N "core_text" [v] b L) (hb : Txt N "core_text" [bd] b L2) (hL : L ≤ 10000) (hL2 : L2 ≤ 60000) : Txt (N + 60) "core_text" [letPV own v bd] b (L + L2 + 60) := by
  obtain ⟨s1, h1, h2⟩ := binds_text_ret hN (by exact Nat.le_trans hL (by decide)) ho hv
  obtain ⟨s2, h3, h4⟩ := hb.mono (show N ≤ N + 20 by exact Nat.le_add_right _ _) (Nat.le_refl _)
  obtain ⟨a1, k1⟩ := cat (a := "let ") (A := 4) (Nat.le_refl 4) h2 (by (clear h4 h3 h2 h1 hL2 hb hv ho hN; omega))
  obtain ⟨a2, k2⟩ := cat (b := " ") (B := 1) k1 (Nat.le_refl 1) (by (clear k1 a1 h4 h3 h2 h1 hL2 hb hv ho hN; omega))
  obtain ⟨a3, k3⟩ := cat k2 h4 (by (clear k2 a2 k1 a1 h4 h3 h2 h1 hb hv ho hN; omega))
  have : Txt (N + 40) "inner_text" [letPV own v bd] b (L + L2 + 40) := ⟨"let " ++ s1 ++ " " ++ s2, by exact Ret.ofT (N := N + 20) 19 (by kernel_rfl) (by kernel_rfl) [.g, .g, .g, .g, tr h1, tv a1, tv a2, tr h3, tv a3] (fun z => ac h1 (ac a1 (ac a2 (ac h3 (ac a3 (z)))))) (by kernel_rfl), Nat.le_trans k3 (by (clear k3 a3 k2 a2 k1 a1 h4 h3 h2 h1 hL2 hL hb hv ho hN; omega))⟩
  exact (core_of (C := "Let") (fs := [("binds", .list [.tuple [.str own, v]]), ("body", bd), ("is_rec", .bool false)]) rfl (by (clear this k3 a3 k2 a2 k1 a1 h4 h3 h2 h1 hb hv ho hN; omega)) this).mono (by exact Nat.le_refl _) (by (clear this k3 a3 k2 a2 k1 a1 h4 h3 h2 h1 hL2 hL hb hv ho hN; omega))
theorem core_case (hN : 60 ≤ N) {own : Str} (ho : Nice own) {v a o : PV} (hv : Txt N "core_text" [v] b L) (ha : Txt N "core_text" [a] b L) (hoo : o = .none ∨ ((∃ C fs, o = .inst C fs) ∧ Txt N "core_text" [o] b L)) (hL : L ≤ 10000) : Txt (N + 60) "core_text" [casePV v own a o] b (3 * L + 120) := by
  obtain ⟨s, h1, h2⟩ := case_text_ret hN (by exact Nat.le_trans hL (by decide)) ho hv ha hoo
  have : Txt (N + 40) "inner_text" [casePV v own a o] b (3 * L + 100) := ⟨s, by exact Ret.ofT (N := N + 20) 19 (by kernel_rfl) (by kernel_rfl) [.g, .g, .g, .g, .g, tr h1] (fun z => ac h1 (z)) (by kernel_rfl), h2⟩
  exact (core_of (C := "Case") (fs := [("value", v), ("name", .str own), ("alts", .list [altPV a]), ("other", o)]) rfl (by (clear this h2 h1 hoo ha hv ho hN; omega)) this).mono (by exact Nat.le_refl _) (by (clear this h2 h1 hL hoo ha hv ho hN; omega))

def NodeNice (np : α → Prop) : Node α → Prop
  | .leaf (.var x) => Nice x
  | .leaf .lit => True
  | .prim op args => Nice op ∧ ∀ a ∈ args, np a
  | .case v own a o => np v ∧ Nice own ∧ np a ∧ ∀ x, o = some x → np x
  | .lett own v b => Nice own ∧ np v ∧ np b
  | .letf own ps fb args => Nice own ∧ (∀ p ∈ ps, Nice p) ∧ np fb ∧ ∀ a ∈ args, np a
  | .app f args => Nice f ∧ ∀ a ∈ args, np a
theorem core_node {np : α → Prop} (hN : 80 ≤ N) (hcls : ∀ a : α, ∃ C fs, pv a = .inst C fs ∧ seq C "Lam" = false) (H : ∀ a, np a → Txt N "core_text" [pv a] b L) (hL : L ≤ 2000) (hL2 : 12 ≤ L) {t : Node α} (ht : NodeOK t) (hn : NodeNice np t) : Txt (N + 140) "core_text" [nodePV pv t] b (8 * L + 500) := by
  cases t with
  | leaf l =>
    cases l with
    | var x => exact (core_var x hn b).mono (by exact Nat.le_add_right_of_le hN) (by exact Mine.up0 rfl)
    | lit => exact (core_lit b).mono (by exact Nat.le_add_right_of_le hN) (by exact Mine.up0 rfl)
  | prim op args => exact (core_prim (by exact Nat.le_trans (Nat.le_add_left _ _) hN) hn.1 args (fun a ha => H a (hn.2 a ha)) (ht.prim op args rfl) (by exact Nat.le_trans hL (by decide))).mono (by exact Mine.upN rfl) (by exact Mine.upN rfl)
  | case v own a o =>
    obtain ⟨h1, h2, h3, h4⟩ := hn
    refine (core_case (N := N) (L := L) (by omega) h2 (H v h1) (H a h3) ?_ (by omega)).mono (by exact Mine.upN rfl) (by (clear h4 h3 h2 h1 ht hL2 hL H hcls hN; omega))
    cases o with
    | none => exact .inl rfl
    | some o =>
      obtain ⟨C, fs, e, _⟩ := hcls o
      exact .inr ⟨⟨C, fs, e⟩, H o (h4 o rfl)⟩
  | lett own v bd => exact (core_let (by omega) hn.1 (H v hn.2.1) (H bd hn.2.2) (by omega) (by exact Nat.le_trans hL (by decide))).mono (by exact Mine.upN rfl) (by (clear hn ht hL2 hL H hcls hN; omega))
  | app f args => exact (core_app (by omega) hn.1 args (fun a ha => H a (hn.2 a ha)) (ht.app f args rfl) (by omega) hL2).mono (by exact Mine.upN rfl) (by (clear hn ht hL2 hL H hcls hN; omega))
  | letf own ps fb args =>
    obtain ⟨h1, h2, h3, h4⟩ := hn
    obtain ⟨k1, k2⟩ := ht.letf own ps fb args rfl
    have e1 := core_lam (N := N) hN k2 h2 (H fb h3) (by exact Nat.le_trans hL (by decide))
    have e2 := core_app (N := N) hN h1 args (fun a ha => H a (h4 a ha)) k1 (by omega) hL2
    exact (core_let (N := N + 60) (by exact Nat.le_add_left _ _) h1 e1 e2 (by (clear e2 e1 k2 k1 h4 h3 h2 h1 ht hL2 H hcls hN; omega)) (by (clear e2 e1 k2 k1 h4 h3 h2 h1 ht hL2 H hcls hN; omega))).mono (by (clear e2 e1 k2 k1 h4 h3 h2 h1 ht hL2 hL; omega)) (by (clear e2 e1 k2 k1 h4 h3 h2 h1 ht hL2 hL H hcls hN; omega))
end
def NiceT : (n : Nat) → Tr n → Prop
  | 0 => fun l => NodeNice (α := Leaf) (fun _ => True) (.leaf l)
  | n + 1 => fun t => NodeNice (NiceT n) t.1
def LT' : Nat → Nat
  | 0 => 12
  | n + 1 => 8 * LT' n + 500
theorem LT_le : ∀ n, 12 ≤ LT' n
  | 0 => Nat.le_refl _
  | n + 1 => by have := LT_le n; show 12 ≤ 8 * LT' n + 500; exact Mine.up0 rfl
theorem core_T : ∀ (n : Nat), (∀ m, m < n → LT' m ≤ 2000) → ∀ (t : Tr n), NiceT n t → ∀ b, Txt (80 + 140 * n) "core_text" [pvT n t] b (LT' n)
  | 0, _, .var x, h, b => core_var x h b
  | 0, _, .lit, _, b => core_lit b
  | n + 1, hL, t, h, b => (core_node (by exact Nat.le_add_right _ _) (clsT n) (fun a ha => core_T n (fun m hm => hL m (by exact Nat.le_add_right_of_le hm)) a ha b) (hL n (by exact Nat.le_refl _)) (LT_le n) t.2 h).mono (by exact Nat.le_refl _) (Nat.le_refl _)
end Mine

set_option maxRecDepth 100000
set_option linter.unusedVariables false
set_option linter.unusedSimpArgs false
namespace Mine
open PySem

/-! the drawing -/
structure BOK (b : Bowl) : Prop where
  left : 0 ≤ b.left
  here : 0 ≤ b.here
  top : b.here < 2147483563
theorem guard_of {α : Type} {p : Prop} [Decidable p] (h : p) (x : α) : guard (decide p) x = some x := by rw [decide_eq_true h]; rfl
theorem pick_ret {b : Bowl} (hb : BOK b) {many : Int} (h1 : 1 ≤ many) (h2 : many < 1000) : ∃ d b', (0 ≤ d ∧ d < many) ∧ BOK b' ∧ b'.names = b.names ∧ Ret 20 "_law_pick" [.bowl, .int many] b (.int d, b') := by
  obtain ⟨l, h, n⟩ := b
  obtain ⟨hl, hh, ht⟩ := hb
  have hl : 0 ≤ l := hl
  have hh : 0 ≤ h := hh
  have ht : h < 2147483563 := ht
  by_cases hp : 0 < l
  · have c1 : cmp .Gt (.int l) (.int 0) = some true := congrArg some (decide_eq_true (show l > 0 from hp))
    have c2 : binop .Mod (.int l) (.int many) = some (.int (l % many)) := guard_of (show 0 < many ∧ many < big by unfold big; (clear c1 hp ht hh hl; omega)) _
    have c3 : binop .FloorDiv (.int l) (.int many) = some (.int (l / many)) := guard_of (show 0 < many ∧ many < 1000000000 by (clear c2 c1 hp ht hh hl; omega)) _
    refine ⟨l % many, ⟨l / many, h, n⟩, ⟨Int.emod_nonneg _ (by (clear c3 c2 c1 hp ht hh hl h2; omega)), Int.emod_lt_of_pos _ (by assumption)⟩, ⟨Int.ediv_nonneg hl (by (clear c3 c2 c1 hp ht hh hl h2; omega)), hh, ht⟩, rfl, ?_⟩
    exact Ret.ofT (N := 0) 19 (by kernel_rfl) (by kernel_rfl) [.g, tb c1, .g, tv c2, .g, tv c3] (fun z => ac c1 (ac c2 (ac c3 (z)))) (by kernel_rfl)
  · have c1 : cmp .Gt (.int l) (.int 0) = some false := congrArg some (decide_eq_false (show ¬ l > 0 from hp))
    have c2 : binop .Mult (.int h) (.int 40014) = some (.int (h * 40014)) := guard_of (show -big < h ∧ h < big ∧ -big < 40014 ∧ 40014 < big by unfold big; (clear c1 hp hl h2 h1; omega)) _
    have c3 : binop .Mod (.int (h * 40014 + 7)) (.int 2147483563) = some (.int ((h * 40014 + 7) % 2147483563)) := rfl
    have c4 : binop .FloorDiv (.int ((h * 40014 + 7) % 2147483563)) (.int 64) = some (.int ((h * 40014 + 7) % 2147483563 / 64)) := rfl
    have c5 : binop .Mod (.int ((h * 40014 + 7) % 2147483563 / 64)) (.int many) = some (.int ((h * 40014 + 7) % 2147483563 / 64 % many)) := guard_of (show 0 < many ∧ many < big by unfold big; omega) _
    refine ⟨(h * 40014 + 7) % 2147483563 / 64 % many, ⟨l, (h * 40014 + 7) % 2147483563, n⟩, ⟨Int.emod_nonneg _ (by omega), Int.emod_lt_of_pos _ (by assumption)⟩, ⟨hl, Int.emod_nonneg _ (by decide), Int.emod_lt_of_pos _ (by decide)⟩, rfl, ?_⟩
    exact Ret.ofT (N := 0) 19 (by kernel_rfl) (by kernel_rfl) [.g, tb c1, .g, tv c2, .g, .g, .g, .g, tv c5] (fun z => ac c1 (ac c2 (ac c5 (z)))) (by kernel_rfl)
noncomputable def fresh (base : Str) (n : Int) : Str := base ++ "." ++ decText (n + 1)
theorem fresh_ret {b : Bowl} (base : Str) (hb : base.length ≤ 2) (h1 : 0 ≤ b.names) (h2 : b.names < 1000) (hs : (decText (b.names + 1)).length ≤ 10) : Ret 20 "_law_fresh" [.bowl, .str base] b (.str (fresh base b.names), ⟨b.left, b.here, b.names + 1⟩) := by
  obtain ⟨l, h, n⟩ := b
  have h1 : 0 ≤ n := h1
  have h2 : n < 1000 := h2
  have c1 : bltAt .str [.int (n + 1)] = some (.str (decText (n + 1))) := guard_of (show 0 ≤ n + 1 ∧ n + 1 < 1000000 by (clear hs hb; omega)) _
  obtain ⟨a1, k1⟩ := cat (b := ".") (B := 1) hb (Nat.le_refl 1) (by decide)
  obtain ⟨a2, k2⟩ := cat k1 hs (by decide)
  show Ret 20 "_law_fresh" [.bowl, .str base] ⟨l, h, n⟩ (.str (base ++ "." ++ decText (n + 1)), ⟨l, h, n + 1⟩)
  exact Ret.ofT (N := 0) 19 (by kernel_rfl) (by kernel_rfl) [.g, .g, tv a1, .g, tv c1, tv a2] (fun z => ac a1 (ac c1 (ac a2 (z)))) (by kernel_rfl)
end Mine

set_option maxRecDepth 100000
set_option linter.unusedVariables false
set_option linter.unusedSimpArgs false
namespace Mine
open PySem

theorem Near.bowl {vars : List (Str × PV)} {b : Bowl} {x : Str} {s : St} (h : Near ⟨vars, none, b⟩ x s) : s.bowl = b := by
  rcases h with rfl | ⟨u, rfl⟩ <;> rfl
/-- a comprehension whose turns draw -/
theorem LComp.chain {N k : Nat} {f : Str} {p q : List Nat} {x : Str} (hb : ∀ v, bindT (compSc f p q) (compIn f p q).tgt v = some [(x, v)]) (vars : List (Str × PV)) (J : List PV → List PV → Bowl → Prop)
    (step : ∀ v r acc b, J (v :: r) acc b → ∃ acc' b', J r acc' b' ∧ ∀ C : List PV → St → Prop, C acc' { (⟨vars, none, b⟩ : St).put1 x v with bowl := b' } → Ok (lcT N k f p q [(x, v)] ⟨vars, none, b⟩ acc fun a1 s1 => fin (C a1 s1))) :
    ∀ (xs acc : List PV) (b : Bowl) (s : St), J xs acc b → Near ⟨vars, none, b⟩ x s → ∃ I accF bF, J [] accF bF ∧ LComp N k f p q I accF bF xs acc s
  | [], acc, b, s, h, hs => ⟨fun r a t => r = [] ∧ a = acc ∧ t = s, acc, b, h, ⟨rfl, rfl, rfl⟩, fun a t e => ⟨e.2.1, by rw [e.2.2]; exact hs.bowl⟩, fun v r a t e => nomatch e.1⟩
  | v :: r, acc, b, s, h, hs => by
    obtain ⟨acc', b', hJ, hC⟩ := step v r acc b h
    obtain ⟨I, accF, bF, hF, i1, i2, i3⟩ := LComp.chain hb vars J step r acc' b' { (⟨vars, none, b⟩ : St).put1 x v with bowl := b' } hJ (.inr ⟨v, rfl⟩)
    have eI : ∀ r' : List PV, r'.length ≤ r.length → (fun (r' : List PV) => if r.length < r'.length then (fun a t => r' = v :: r ∧ a = acc ∧ t = s) else I r') r' = I r' := fun r' hr => if_neg (by omega)
    refine ⟨fun r' => if r.length < r'.length then (fun a t => r' = v :: r ∧ a = acc ∧ t = s) else I r', accF, bF, hF, ?_, fun a t e => ?_, fun v' r' a t e => ?_⟩
    · show (if r.length < (v :: r).length then (fun a t => v :: r = v :: r ∧ a = acc ∧ t = s) else I (v :: r)) acc s
      rw [if_pos (by simp)]
      exact ⟨rfl, rfl, rfl⟩
    · have e' : (if r.length < ([] : List PV).length then (fun a t => [] = v :: r ∧ a = acc ∧ t = s) else I []) a t := e
      rw [if_neg (by simp)] at e'
      exact i2 a t e'
    · have e' : (if r.length < (v' :: r').length then (fun a t => v' :: r' = v :: r ∧ a = acc ∧ t = s) else I (v' :: r')) a t := e
      by_cases hl : r.length < (v' :: r').length
      · rw [if_pos hl] at e'
        obtain ⟨e1, rfl, rfl⟩ := e'
        cases e1
        refine ⟨_, hb v, ?_⟩
        have key : Ok (lcT N k f p q [(x, v)] t a fun a1 s1 => fin (I r a1 s1)) := by
          have e2 : ∀ K, lcT N k f p q [(x, v)] t a K = lcT N k f p q [(x, v)] ⟨vars, none, b⟩ a K := fun K => by unfold lcT wTurn; rw [hs.put rfl]
          rw [e2]
          exact hC (I r) i1
        rw [← eI r (Nat.le_refl _)] at key
        exact key
      · rw [if_neg hl] at e'
        obtain ⟨bs, h1, h2⟩ := i3 v' r' a t e'
        refine ⟨bs, h1, ?_⟩
        rw [← eI r' (by simp at hl; exact Nat.le_of_lt hl)] at h2
        exact h2

noncomputable def xyz : List Str := ["x", "y", "z"]
theorem len_range (n : Nat) : (rangeItems n).length = n := by unfold rangeItems; rw [List.length_map, List.length_range]
theorem eq_int (d e : Int) : cmp .Eq (.int d) (.int e) = some (decide (d = e)) := rfl
theorem flags_comp {b : Bowl} (hb : BOK b) (n : Nat) : ∃ I accF b', (∃ l : List Bool, accF = l.map .bool ∧ l.length = n ∧ BOK b' ∧ b'.names = b.names) ∧ LComp 20 16 "_law_signatures" [1, 0] [] I accF b' (rangeItems n) [] ⟨[("bowl", .bowl)], none, b⟩ := by
  obtain ⟨I, accF, bF, ⟨l, h1, h2, h3⟩, h4⟩ := LComp.chain (N := 20) (k := 16) (f := "_law_signatures") (p := [1, 0]) (q := []) (x := "place") (fun v => by kernel_rfl) [("bowl", .bowl)] (fun r acc b' => ∃ l : List Bool, acc = l.map .bool ∧ r.length + l.length = n ∧ BOK b' ∧ b'.names = b.names)
    (fun v r acc b0 ⟨l, h1, h2, h3, h4⟩ => by
      obtain ⟨d, b1, hd, k1, k2, k3⟩ := pick_ret (many := 2) h3 (by decide) (by decide)
      refine ⟨acc ++ [.bool (decide (d = 0))], b1, ⟨l ++ [decide (d = 0)], by rw [h1, List.map_append]; rfl, by simp at h2 ⊢; (clear k3 k2 k1 hd; omega), k1, k2.trans h4⟩, fun C hC => ?_⟩
      have c1 := eq_int d 0
      have hD : C (acc ++ [.bool (decide (d = 0))]) ⟨[("bowl", .bowl), ("place", v)], none, b1⟩ := hC
      clear hC
      exact Ok.of [tr k3, tb c1] (ac k3 (ac c1 (ac hD (trivial)))) (by kernel_rfl)) (rangeItems n) [] b ⟨[("bowl", .bowl)], none, b⟩ ⟨[], rfl, by rw [len_range]; simp, hb, rfl⟩ (.inl rfl)
  exact ⟨I, accF, bF, ⟨l, h1, by simpa using h2, h3⟩, h4⟩
theorem names_comp {b : Bowl} (hb : BOK b) : ∃ I accF b', (∃ l : List Str, accF = l.map .str ∧ l.Sublist xyz ∧ BOK b' ∧ b'.names = b.names) ∧ LComp 20 16 "_law_signatures" [1, 1] [] I accF b' [.str "x", .str "y", .str "z"] [] ⟨[("bowl", .bowl)], none, b⟩ := by
  obtain ⟨I, accF, bF, ⟨dn, td, l, e0, e1, e2, h1, h2⟩, h4⟩ := LComp.chain (N := 20) (k := 16) (f := "_law_signatures") (p := [1, 1]) (q := []) (x := "one") (fun v => by kernel_rfl) [("bowl", .bowl)] (fun r acc b' => ∃ dn td l : List Str, xyz = dn ++ td ∧ r = td.map .str ∧ acc = l.map .str ∧ l.Sublist dn ∧ BOK b' ∧ b'.names = b.names)
    (fun v r acc b0 ⟨dn, td, l, e0, e1, e2, h1, h3, h4⟩ => by
      obtain ⟨d, b1, hd, k1, k2, k3⟩ := pick_ret (many := 4) h3 (by decide) (by decide)
      cases td with
      | nil => cases e1
      | cons y td =>
        cases e1
        have c1 := eq_int d 0
        by_cases hz : d = 0
        · rw [decide_eq_true hz] at c1
          refine ⟨acc ++ [.str y], b1, ⟨dn ++ [y], td, l ++ [y], by rw [e0, List.append_assoc]; rfl, rfl, by rw [e2, List.map_append]; rfl, h1.append (List.Sublist.refl _), k1, k2.trans h4⟩, fun C hC => ?_⟩
          have hD : C (acc ++ [.str y]) ⟨[("bowl", .bowl), ("one", .str y)], none, b1⟩ := hC
          clear hC
          exact Ok.of [tr k3, tb c1] (ac k3 (ac c1 (ac hD (trivial)))) (by kernel_rfl)
        · rw [decide_eq_false hz] at c1
          refine ⟨acc, b1, ⟨dn ++ [y], td, l, by rw [e0, List.append_assoc]; rfl, rfl, e2, List.Sublist.trans h1 (List.sublist_append_left _ _), k1, k2.trans h4⟩, fun C hC => ?_⟩
          have hD : C acc ⟨[("bowl", .bowl), ("one", .str y)], none, b1⟩ := hC
          clear hC
          exact Ok.of [tr k3, tb c1] (ac k3 (ac c1 (ac hD (trivial)))) (by kernel_rfl)) [.str "x", .str "y", .str "z"] [] b ⟨[("bowl", .bowl)], none, b⟩ ⟨[], xyz, [], rfl, rfl, rfl, List.Sublist.refl _, hb, rfl⟩ (.inl rfl)
  refine ⟨I, accF, bF, ⟨l, e2, ?_, h2⟩, h4⟩
  rw [e0]
  exact List.Sublist.trans h1 (List.sublist_append_left _ _)
/-- a signature that is drawn -/
structure Drawn (r : Row) : Prop where
  f1 : 1 ≤ r.flags.length
  f3 : r.flags.length ≤ 3
  nm : r.names.Sublist xyz
theorem dec_int {a : Int} (h : 0 ≤ a ∧ a < 100000) : decide (0 ≤ a ∧ a < 100000) = true := decide_eq_true h
theorem signatures_ret {b : Bowl} (hb : BOK b) : ∃ rf rg rh b', Drawn rf ∧ Drawn rg ∧ Drawn rh ∧ BOK b' ∧ b'.names = b.names ∧ Ret 40 "_law_signatures" [.bowl] b (tabPV [("f", rf), ("g", rg), ("h", rh)], b') := by
  have one : ∀ b, BOK b → ∃ (d : Int) (b1 : Bowl) (n : Nat) (I1 : List PV → List PV → St → Prop) (fl : List Bool) (b2 : Bowl) (I2 : List PV → List PV → St → Prop) (nm : List Str) (b3 : Bowl) (dv : Int) (b4 : Bowl), (0 ≤ 1 + d ∧ 1 + d < 100000) ∧ (1 + d).toNat = n ∧ 1 ≤ fl.length ∧ fl.length ≤ 3 ∧ nm.Sublist xyz ∧ BOK b4 ∧ b4.names = b.names ∧ Ret 20 "_law_pick" [.bowl, .int 3] b (.int d, b1) ∧
      LComp 20 16 "_law_signatures" [1, 0] [] I1 (fl.map .bool) b2 (rangeItems (1 + d).toNat) [] ⟨[("bowl", .bowl)], none, b1⟩ ∧ sizeOk (rangeItems (1 + d).toNat).length = true ∧
      LComp 20 16 "_law_signatures" [1, 1] [] I2 (nm.map .str) b3 [.str "x", .str "y", .str "z"] [] ⟨[("bowl", .bowl)], none, b2⟩ ∧ Ret 20 "_law_pick" [.bowl, .int 5] b3 (.int dv, b4) := fun b hb => by
    obtain ⟨d, b1, hd, k1, k2, k3⟩ := pick_ret (many := 3) hb (by decide) (by decide)
    obtain ⟨I1, a1, b2, ⟨fl, rfl, l2, l3, l4⟩, l5⟩ := flags_comp k1 (1 + d).toNat
    obtain ⟨I2, a2, b3, ⟨nm, rfl, m2, m3, m4⟩, m5⟩ := names_comp l3
    obtain ⟨dv, b4, hv, n1, n2, n3⟩ := pick_ret (many := 5) m3 (by decide) (by decide)
    exact ⟨d, b1, (1 + d).toNat, I1, fl, b2, I2, nm, b3, dv, b4, by (clear n3 n2 n1 hv m4 m3 m2 m5 l4 l3 l2 l5 k3 k2; omega), rfl, by (clear n3 n2 n1 hv m4 m3 m2 m5 l4 l3 l5 k3 k2; omega), by (clear n3 n2 n1 hv m4 m3 m2 m5 l4 l3 l5 k3 k2; omega), m2, n1, by rw [n2, m4, l4, k2], k3, l5, sizeOk_of (by rw [len_range]; (clear n3 n2 n1 hv m4 m3 m2 m5 l4 l3 l2 l5 k3 k2; omega)), m5, n3⟩
  obtain ⟨d, b1, n, I1, fl, b2, I2, nm, b3, dv, b4, hd, hn, f1, f3, hm, hb4, hnm, r1, l1, z1, l2, r2⟩ := one b hb
  obtain ⟨d', b1', n', I1', fl', b2', I2', nm', b3', dv', b4', hd', hn', f1', f3', hm', hb4', hnm', r1', l1', z1', l2', r2'⟩ := one b4 hb4
  obtain ⟨d2, c1, n2, I12, fl2, c2, I22, nm2, c3, dv2, c4, hd2, hn2, f12, f32, hm2, hb42, hnm2, r12, l12, z12, l22, r22⟩ := one b4' hb4'
  have e1 := eq_int dv 0
  have e2 := eq_int dv' 0
  have e3 := eq_int dv2 0
  have x1 := dec_int hd
  have x2 := dec_int hd'
  have x3 := dec_int hd2
  refine ⟨⟨fl, nm, decide (dv = 0)⟩, ⟨fl', nm', decide (dv' = 0)⟩, ⟨fl2, nm2, decide (dv2 = 0)⟩, c4, ⟨f1, f3, hm⟩, ⟨f1', f3', hm'⟩, ⟨f12, f32, hm2⟩, hb42, by rw [hnm2, hnm', hnm], ?_⟩
  exact Ret.ofT (N := 20) 19 (by kernel_rfl) (by kernel_rfl) [.g, .g, tr r1, .g, .b true, .b true, tcl l1, .g, tcl l2, tr r2, tb e1, .g, tr r1', .g, .b true, .b true, tcl l1', .g, tcl l2', tr r2', tb e2, .g, tr r12, .g, .b true, .b true, tcl l12, .g, tcl l22, tr r22, tb e3] (fun z => ac r1 (ac x1 (ac z1 (ac l1 (ac l2 (ac r2 (ac e1 (ac r1' (ac x2 (ac z1' (ac l1' (ac l2' (ac r2' (ac e2 (ac r12 (ac x3 (ac z12 (ac l12 (ac l22 (ac r22 (ac e3 (z)))))))))))))))))))))) (by kernel_rfl)
end Mine

set_option maxRecDepth 100000
set_option linter.unusedVariables false
set_option linter.unusedSimpArgs false
namespace Mine
open PySem

/-! the plain law: what needed tells is what the walk tells -/
section
variable (num : Str → Nat) (F0 : List Str)

structure SR (S : List Str) (m : Nat) (k : Sg) (r : Row) : Prop where
  len : k.flags.length = r.flags.length
  div : k.div = r.nv
  same : k.div = false → k.flags = r.flags ∧ ∀ x ∈ S, x ∈ k.free ↔ x ∈ r.names
  sub : ∀ x ∈ k.free, x ∈ S
  bnd : ∀ x ∈ r.names, num x ≤ m
noncomputable def Rel (S : List Str) (m : Nat) (env : Env') (tab : Tab') : Prop :=
  ∀ f, (lk f env = none ∧ lk f tab = none) ∨ ∃ k r, lk f env = some k ∧ lk f tab = some r ∧ SR num S m k r

/-- one answer against the other: l the names, v the never, q the needs -/
structure Sp (S : List Str) (o : Option (List Str)) (v : Bool) (q : Str → Bool) : Prop where
  ifN : o = none → v = true
  ifS : ∀ l, o = some l → v = false ∧ (∀ x ∈ S, x ∈ l ↔ q x = true) ∧ ∀ x ∈ l, x ∈ S

noncomputable def ArgsWF {α : Type} (wf : α → List Str → Nat → Nat → Prop) (S : List Str) : List α → Nat → Nat → Prop
  | [], m, m' => m ≤ m'
  | a :: r, m, m' => ∃ k, wf a S m k ∧ ArgsWF wf S r k m'
noncomputable def NodeWF {α : Type} (wf : α → List Str → Nat → Nat → Prop) : Node α → List Str → Nat → Nat → Prop
  | .leaf (.var x), S, m, m' => x ∈ S ∧ m ≤ m'
  | .leaf .lit, _, m, m' => m ≤ m'
  | .prim _ args, S, m, m' => ArgsWF wf S args m m'
  | .case v own a o, S, m, m' => ∃ k1 k2, wf v S m k1 ∧ k1 < num own ∧ wf a (own :: S) (num own) k2 ∧ match o with | none => k2 ≤ m' | some o => wf o (own :: S) k2 m'
  | .lett own v b, S, m, m' => ∃ k, m < num own ∧ wf v S (num own) k ∧ wf b (own :: S) k m'
  | .letf own ps fb args, S, m, m' => ∃ k1 k2, m < num own ∧ (∀ p ∈ ps, num own < num p ∧ num p ≤ k1) ∧ num own ≤ k1 ∧ wf fb (ps ++ S) k1 k2 ∧ ArgsWF wf (own :: S) args k2 m'
  | .app f args, S, m, m' => f ∈ F0 ∧ ArgsWF wf S args m m'
noncomputable def WFT : (n : Nat) → Tr n → List Str → Nat → Nat → Prop
  | 0 => fun l S m m' => NodeWF num F0 (α := Leaf) (fun _ _ _ _ => True) (.leaf l) S m m'
  | n + 1 => fun t S m m' => NodeWF num F0 (WFT n) t.1 S m m'

variable {num F0}
theorem SR.grow {S : List Str} {m m' : Nat} {k : Sg} {r : Row} (h : SR num S m k r) (new : List Str) (hm : m ≤ m') (hS : ∀ x ∈ S, num x ≤ m) (hn : ∀ x ∈ new, m < num x) : SR num (new ++ S) m' k r := by
  refine ⟨h.len, h.div, fun hd => ⟨(h.same hd).1, fun x hx => ?_⟩, fun x hx => List.mem_append.mpr (.inr (h.sub x hx)), fun x hx => Nat.le_trans (h.bnd x hx) hm⟩
  rcases List.mem_append.mp hx with hx | hx
  · have h1 := hn x hx
    constructor
    · intro hf
      have := hS x (h.sub x hf)
      (clear hf hx hd hn hS hm; omega)
    · intro hf
      have := h.bnd x hf
      omega
  · exact (h.same hd).2 x hx
theorem Rel.grow {S : List Str} {m m' : Nat} {env : Env'} {tab : Tab'} (h : Rel num S m env tab) (new : List Str) (hm : m ≤ m') (hS : ∀ x ∈ S, num x ≤ m) (hn : ∀ x ∈ new, m < num x) : Rel num (new ++ S) m' env tab := by
  intro f
  rcases h f with h | ⟨k, r, h1, h2, h3⟩
  · exact .inl h
  · exact .inr ⟨k, r, h1, h2, h3.grow new hm hS hn⟩
theorem Rel.put {S : List Str} {m : Nat} {env : Env'} {tab : Tab'} (h : Rel num S m env tab) (own : Str) {k : Sg} {r : Row} (hk : SR num S m k r) : Rel num S m (put own k env) (put own r tab) := by
  intro f
  rw [lk_put, lk_put]
  by_cases hf : f = own
  · rw [if_pos hf, if_pos hf]; exact .inr ⟨k, r, rfl, rfl, hk⟩
  · rw [if_neg hf, if_neg hf]; exact h f

theorem mem_both {x : Str} {a b : List Str} : x ∈ unionS a b ↔ x ∈ a ∨ x ∈ b := mem_unionS
theorem Sp.both {S : List Str} {o p : Option (List Str)} {v w : Bool} {q r : Str → Bool} (h : Sp S o v q) (k : Sp S p w r) : Sp S (bothS o p) (v || w) (fun x => q x || r x) := by
  cases o with
  | none => exact ⟨fun _ => by rw [h.ifN rfl]; rfl, fun l e => by cases e⟩
  | some a =>
    obtain ⟨h1, h2, h3⟩ := h.ifS a rfl
    cases p with
    | none => exact ⟨fun _ => by rw [k.ifN rfl, Bool.or_true], fun l e => by cases e⟩
    | some b =>
      obtain ⟨k1, k2, k3⟩ := k.ifS b rfl
      refine ⟨fun e => (by cases e), fun l e => ?_⟩
      cases e
      refine ⟨by rw [h1, k1]; rfl, fun x hx => ?_, fun x hx => ?_⟩
      · rw [mem_unionS, h2 x hx, k2 x hx, Bool.or_eq_true]
      · exact (mem_unionS.mp hx).elim (h3 x) (k3 x)

section
variable {α : Type} {nd : α → Env' → Option (List Str)} {nev : α → Tab' → Bool} {nee : Str → α → Tab' → Bool} {nm : α → Tab' → List Str} {S : List Str} {m : Nat} {env : Env'} {tab : Tab'}

theorem primS_sp (args : List α) (H : ∀ a ∈ args, Sp S (nd a env) (nev a tab) (fun x => nee x a tab)) : ∀ {o : Option (List Str)} {v : Bool} {q : Str → Bool}, Sp S o v q → Sp S (primS nd env args o) (v || args.any (nev · tab)) (fun x => q x || args.any (nee x · tab)) := by
  induction args with
  | nil => intro o v q h; simpa [primS] using h
  | cons a r ih =>
    intro o v q h
    have := ih (fun b hb => H b (.tail _ hb)) (h.both (H a (.head _)))
    unfold primS at this ⊢
    rw [List.foldl_cons]
    simpa [Bool.or_assoc] using this
theorem callL_sp (L : List (Bool × α)) (H : ∀ p ∈ L, Sp S (nd p.2 env) (nev p.2 tab) (fun x => nee x p.2 tab)) : ∀ {o : Option (List Str)} {v : Bool} {q : Str → Bool}, Sp S o v q →
    Sp S (callL nd env L o) (v || ((L.filter (·.1)).map (·.2)).any (nev · tab)) (fun x => q x || ((L.filter (·.1)).map (·.2)).any (nee x · tab)) := by
  induction L with
  | nil => intro o v q h; simpa [callL] using h
  | cons p r ih =>
    intro o v q h
    obtain ⟨u, a⟩ := p
    unfold callL at ih ⊢
    rw [List.foldl_cons]
    cases u with
    | false => simpa using ih (fun b hb => H b (.tail _ hb)) h
    | true =>
      have := ih (fun b hb => H b (.tail _ hb)) (h.both (H (true, a) (.head _)))
      simpa [Bool.or_assoc] using this
theorem Sp.one {f : Str} (hf : f ∈ S) : Sp S (some [f]) false (fun x => seq f x) := by
  refine ⟨fun e => (by cases e), fun l e => ?_⟩
  cases e
  refine ⟨rfl, fun x hx => ?_, fun x hx => ?_⟩
  · rw [List.mem_singleton, seq_iff]; exact eq_comm
  · rw [List.mem_singleton] at hx; exact hx ▸ hf
theorem Sp.congr {o : Option (List Str)} {v v' : Bool} {q q' : Str → Bool} (h : Sp S o v q) (hv : v = v') (hq : ∀ x ∈ S, q x = q' x) : Sp S o v' q' := by
  subst hv
  exact ⟨h.ifN, fun l e => ⟨(h.ifS l e).1, fun x hx => by rw [← hq x hx]; exact (h.ifS l e).2.1 x hx, (h.ifS l e).2.2⟩⟩
theorem call_sp (hR : Rel num S m env tab) {f : Str} (hf : f ∈ S) (args : List α) (H : ∀ a ∈ args, Sp S (nd a env) (nev a tab) (fun x => nee x a tab)) :
    Sp S (callS nd env f args) (appNev nev f args tab tab) (fun x => appNee nee x f args tab) := by
  rcases hR f with ⟨h1, h2⟩ | ⟨k, r, h1, h2, h3⟩
  · have e1 : callS nd env f args = some [f] := by unfold callS; rw [h1]
    have e2 : strictS f args tab = none := by unfold strictS; rw [h2]
    rw [e1]
    refine (Sp.one hf).congr (by unfold appNev; rw [e2]) fun x hx => ?_
    unfold appNee; rw [e2, Bool.or_false]
  · have hl := h3.len
    by_cases hlt : args.length < r.flags.length
    · have e1 : callS nd env f args = some [f] := by unfold callS; rw [h1]; exact if_pos (by rw [hl]; exact hlt)
      have e2 : strictS f args tab = none := by unfold strictS; rw [h2]; exact if_pos hlt
      rw [e1]
      refine (Sp.one hf).congr (by unfold appNev; rw [e2]) fun x hx => ?_
      unfold appNee; rw [e2, Bool.or_false]
    · have e2 : strictS f args tab = some (((r.flags.zip args).filter (·.1)).map (·.2)) := by unfold strictS; rw [h2]; exact if_neg hlt
      cases hd : k.div with
      | true =>
        have e1 : callS nd env f args = none := by
          unfold callS; rw [h1]
          dsimp only
          rw [if_neg (by rw [hl]; exact hlt), if_pos hd]
        rw [e1]
        refine ⟨fun _ => ?_, fun l e => by cases e⟩
        unfold appNev; rw [e2, h2]
        dsimp only
        rw [← h3.div, hd]; rfl
      | false =>
        obtain ⟨hfl, hfr⟩ := h3.same hd
        have e1 : callS nd env f args = callL nd env (r.flags.zip args) (bothS (some [f]) (some k.free)) := by
          unfold callS; rw [h1]
          dsimp only
          rw [if_neg (by rw [hl]; exact hlt), if_neg (by rw [hd]; exact Bool.false_ne_true), hfl]
        have h0 : Sp S (some k.free) false (fun x => memS x (rnS f tab)) := by
          refine ⟨fun e => (by cases e), fun l e => ?_⟩
          cases e
          refine ⟨rfl, fun x hx => ?_, h3.sub⟩
          have : rnS f tab = r.names := by unfold rnS; rw [h2]
          rw [this, memS_iff]
          exact hfr x hx
        have h4 := callL_sp (nd := nd) (nev := nev) (nee := nee) (env := env) (tab := tab) (r.flags.zip args) (fun p hp => H p.2 (List.of_mem_zip hp).2) ((Sp.one hf).both h0)
        rw [e1]
        refine h4.congr ?_ fun x hx => ?_
        · unfold appNev
          rw [e2, h2]
          dsimp only
          rw [← h3.div, hd]; rfl
        · unfold appNee
          rw [e2, Bool.or_assoc]
end
end
end Mine

set_option maxRecDepth 100000
set_option linter.unusedVariables false
set_option linter.unusedSimpArgs false
namespace Mine
open PySem

section
variable {num : Str → Nat} {F0 : List Str}

/-- all that is told of a tree -/
structure TSp {α : Type} (num : Str → Nat) (F0 : List Str) (nd : α → Env' → Option (List Str)) (nev : α → Tab' → Bool) (nee : Str → α → Tab' → Bool) (nm : α → Tab' → List Str) (a : α) (S : List Str) (m m' : Nat) : Prop where
  le : m ≤ m'
  sp : ∀ env tab, Rel num S m env tab → Sp S (nd a env) (nev a tab) (fun x => nee x a tab)
  bnd : ∀ tab, (∀ f r, lk f tab = some r → ∀ x ∈ r.names, num x ≤ m') → ∀ x ∈ nm a tab, num x ≤ m'
  cov : ∀ env tab tab2, Rel num S m env tab → (∀ f ∈ F0, lk f tab2 = lk f tab) → ∀ l, nd a env = some l → ∀ x ∈ l, x ∈ nm a tab2

theorem without_mem {x : Str} {l ps : List Str} : x ∈ unionS [] (l.filter fun x => !memS x ps) ↔ x ∈ l ∧ x ∉ ps := by
  rw [mem_unionS, List.mem_filter]
  have : (!memS x ps) = true ↔ x ∉ ps := by
    rw [← memS_iff (l := ps)]; cases memS x ps <;> simp
  rw [this]; simp
theorem filter_mem {x : Str} {l m : List Str} : x ∈ unionS [] (l.filter fun x => memS x m) ↔ x ∈ l ∧ x ∈ m := by
  rw [mem_unionS, List.mem_filter, memS_iff]; simp
/-- the names bound at the place are taken away -/
theorem Sp.without {S new : List Str} {o : Option (List Str)} {v : Bool} {q : Str → Bool} (h : Sp (new ++ S) o v q) (hd : ∀ x ∈ S, x ∉ new) : Sp S (withoutS o new) v q := by
  cases o with
  | none => exact ⟨fun _ => h.ifN rfl, fun l e => by cases e⟩
  | some a =>
    obtain ⟨h1, h2, h3⟩ := h.ifS a rfl
    refine ⟨fun e => (by cases e), fun l e => ?_⟩
    cases e
    refine ⟨h1, fun x hx => ?_, fun x hx => ?_⟩
    · rw [without_mem, ← h2 x (List.mem_append.mpr (.inr hx))]
      exact ⟨fun h => h.1, fun h => ⟨h, hd x hx⟩⟩
    · rw [without_mem] at hx
      rcases List.mem_append.mp (h3 x hx.1) with hn | hs
      · exact absurd hn hx.2
      · exact hs
theorem Sp.either1 {S : List Str} {o : Option (List Str)} {v : Bool} {q : Str → Bool} (h : Sp S o v q) : Sp S (eitherS [o]) (v && true) (fun x => (v || q x) && true) := by
  cases o with
  | none =>
    have := h.ifN rfl
    subst this
    exact ⟨fun _ => rfl, fun l e => by cases e⟩
  | some a =>
    obtain ⟨h1, h2, h3⟩ := h.ifS a rfl
    subst h1
    refine ⟨fun e => (by cases e), fun l e => ?_⟩
    cases e
    exact ⟨rfl, fun x hx => by rw [h2 x hx]; simp, h3⟩
theorem Sp.either2 {S : List Str} {o p : Option (List Str)} {v w : Bool} {q r : Str → Bool} (h : Sp S o v q) (k : Sp S p w r) : Sp S (eitherS [o, p]) (v && w) (fun x => (v || q x) && (w || r x)) := by
  cases o with
  | none =>
    have := h.ifN rfl
    subst this
    cases p with
    | none =>
      have := k.ifN rfl
      subst this
      exact ⟨fun _ => rfl, fun l e => by cases e⟩
    | some b =>
      obtain ⟨k1, k2, k3⟩ := k.ifS b rfl
      subst k1
      refine ⟨fun e => (by cases e), fun l e => ?_⟩
      cases e
      exact ⟨rfl, fun x hx => by rw [k2 x hx]; simp, k3⟩
  | some a =>
    obtain ⟨h1, h2, h3⟩ := h.ifS a rfl
    subst h1
    cases p with
    | none =>
      have := k.ifN rfl
      subst this
      refine ⟨fun e => (by cases e), fun l e => ?_⟩
      cases e
      exact ⟨rfl, fun x hx => by rw [h2 x hx]; simp, h3⟩
    | some b =>
      obtain ⟨k1, k2, k3⟩ := k.ifS b rfl
      subst k1
      refine ⟨fun e => (by cases e), fun l e => ?_⟩
      cases e
      refine ⟨rfl, fun x hx => ?_, fun x hx => ?_⟩
      · rw [filter_mem, h2 x hx, k2 x hx]; simp
      · rw [filter_mem] at hx; exact h3 x hx.1
theorem Sp.mono_num {S : List Str} {o : Option (List Str)} {v : Bool} {q : Str → Bool} (h : Sp S o v q) : Sp S o v q := h
/-- a value bound -/
theorem Sp.with_ {S : List Str} {own : Str} {o w : Option (List Str)} {v vw : Bool} {q qw : Str → Bool} (h : Sp (own :: S) o v q) (k : Sp S w vw qw) (hd : own ∉ S) :
    Sp S (withS o own w) (v || (q own && vw)) (fun x => q x || (q own && qw x)) := by
  have hd' : ∀ x ∈ S, x ∉ [own] := fun x hx hn => by rw [List.mem_singleton] at hn; exact hd (hn ▸ hx)
  unfold withS
  cases o with
  | none => exact ⟨fun _ => by rw [h.ifN rfl]; rfl, fun l e => by cases e⟩
  | some a =>
    obtain ⟨h1, h2, h3⟩ := h.ifS a rfl
    subst h1
    dsimp only
    have ho := h2 own (.head _)
    cases hm : memS own a with
    | false =>
      have hq : q own = false := by
        cases hq : q own with
        | false => rfl
        | true => rw [← ho, ← memS_iff, hm] at hq; cases hq
      rw [if_neg Bool.false_ne_true]
      refine (Sp.without (new := [own]) h hd').congr (by rw [hq]; rfl) fun x hx => by rw [hq]; simp
    | true =>
      have hq : q own = true := ho.mp (memS_iff.mp hm)
      rw [if_pos rfl]
      have k' : Sp ([own] ++ S) w vw (fun x => if x = own then decide (∃ l, w = some l ∧ own ∈ l) else qw x) := by
        refine ⟨k.ifN, fun l e => ?_⟩
        obtain ⟨k1, k2, k3⟩ := k.ifS l e
        refine ⟨k1, fun x hx => ?_, fun x hx => .tail _ (k3 x hx)⟩
        by_cases hxo : x = own
        · subst hxo
          rw [if_pos rfl, decide_eq_true_iff]
          exact ⟨fun hl => ⟨l, e, hl⟩, fun ⟨l', e', hl⟩ => by rw [e] at e'; cases e'; exact hl⟩
        · rw [if_neg hxo]
          rcases List.mem_cons.mp hx with hx | hx
          · exact absurd hx hxo
          · exact k2 x hx
      have := Sp.without (new := [own]) (Sp.both h k') hd'
      refine this.congr (by rw [hq]; simp) fun x hx => ?_
      have hxo : x ≠ own := fun e => hd (e ▸ hx)
      rw [hq]
      simp [hxo]
end
end Mine

set_option maxRecDepth 100000
set_option linter.unusedVariables false
set_option linter.unusedSimpArgs false
namespace Mine
open PySem

section
variable {num : Str → Nat} {F0 : List Str}

/-- where a name of the walk comes from -/
noncomputable def From (num : Str → Nat) (S : List Str) (m m' : Nat) (tab : Tab') (x : Str) : Prop := x ∈ S ∨ (m < num x ∧ num x ≤ m') ∨ ∃ f r, lk f tab = some r ∧ x ∈ r.names
structure TSp2 {α : Type} (num : Str → Nat) (F0 : List Str) (nd : α → Env' → Option (List Str)) (nev : α → Tab' → Bool) (nee : Str → α → Tab' → Bool) (nm : α → Tab' → List Str) (a : α) (S : List Str) (m m' : Nat) : Prop where
  le : m ≤ m'
  sp : ∀ env tab, Rel num S m env tab → Sp S (nd a env) (nev a tab) (fun x => nee x a tab)
  bnd : ∀ tab x, x ∈ nm a tab → From num S m m' tab x
  cov : ∀ env tab tab2, Rel num S m env tab → (∀ f ∈ F0, lk f tab2 = lk f tab) → ∀ l, nd a env = some l → ∀ x ∈ l, x ∈ nm a tab2

theorem From.mono {S S' : List Str} {m m' k k' : Nat} {tab : Tab'} {x : Str} (h : From num S m m' tab x) (hS : ∀ x ∈ S, x ∈ S' ∨ (k < num x ∧ num x ≤ k')) (h1 : k ≤ m) (h2 : m' ≤ k') : From num S' k k' tab x := by
  rcases h with h | h | h
  · exact (hS x h).elim .inl fun h => .inr (.inl h)
  · exact .inr (.inl ⟨by (clear h2; omega), by (clear h1; omega)⟩)
  · exact .inr (.inr h)
theorem Rel.up {S : List Str} {m m' : Nat} {env : Env'} {tab : Tab'} (h : Rel num S m env tab) (hm : m ≤ m') (hS : ∀ x ∈ S, num x ≤ m) : Rel num S m' env tab :=
  h.grow [] hm hS (fun x hx => by cases hx)
theorem mem_rn {x f : Str} {tab : Tab'} (h : x ∈ rnS f tab) : ∃ g r, lk g tab = some r ∧ x ∈ r.names := by
  unfold rnS at h
  cases hl : lk f tab with
  | none => rw [hl] at h; cases h
  | some r => rw [hl] at h; exact ⟨f, r, hl, h⟩

section
variable {α : Type} {nd : α → Env' → Option (List Str)} {nev : α → Tab' → Bool} {nee : Str → α → Tab' → Bool} {nm : α → Tab' → List Str}

theorem both_mem {o p : Option (List Str)} {l : List Str} {x : Str} (h : bothS o p = some l) (hx : x ∈ l) : (∃ a, o = some a ∧ x ∈ a) ∨ ∃ b, p = some b ∧ x ∈ b := by
  cases o with
  | none => cases h
  | some a =>
    cases p with
    | none => cases h
    | some b =>
      cases h
      exact (mem_unionS.mp hx).elim (fun h => .inl ⟨a, rfl, h⟩) fun h => .inr ⟨b, rfl, h⟩
theorem prim_mem {env : Env'} {x : Str} : ∀ (args : List α) {o : Option (List Str)} {l : List Str}, primS nd env args o = some l → x ∈ l → (∃ a, o = some a ∧ x ∈ a) ∨ ∃ a ∈ args, ∃ l', nd a env = some l' ∧ x ∈ l'
  | [], o, l, h, hx => .inl ⟨l, h, hx⟩
  | a :: r, o, l, h, hx => by
    unfold primS at h
    rw [List.foldl_cons] at h
    rcases prim_mem r (o := bothS o (nd a env)) h hx with ⟨z, h1, h2⟩ | ⟨b, hb, l', h1, h2⟩
    · rcases both_mem h1 h2 with h | ⟨b, h3, h4⟩
      · exact .inl h
      · exact .inr ⟨a, .head _, b, h3, h4⟩
    · exact .inr ⟨b, .tail _ hb, l', h1, h2⟩
theorem callL_mem {env : Env'} {x : Str} : ∀ (L : List (Bool × α)) {o : Option (List Str)} {l : List Str}, callL nd env L o = some l → x ∈ l → (∃ a, o = some a ∧ x ∈ a) ∨ ∃ p ∈ L, ∃ l', nd p.2 env = some l' ∧ x ∈ l'
  | [], o, l, h, hx => .inl ⟨l, h, hx⟩
  | (u, a) :: r, o, l, h, hx => by
    unfold callL at h
    rw [List.foldl_cons] at h
    rcases callL_mem r h hx with ⟨z, h1, h2⟩ | ⟨b, hb, l', h1, h2⟩
    · cases u with
      | false => exact .inl ⟨z, h1, h2⟩
      | true =>
        rcases both_mem h1 h2 with h | ⟨b, h3, h4⟩
        · exact .inl h
        · exact .inr ⟨(true, a), .head _, b, h3, h4⟩
    · exact .inr ⟨b, .tail _ hb, l', h1, h2⟩
theorem call_mem {env : Env'} {x f : Str} {args : List α} {l : List Str} (h : callS nd env f args = some l) (hx : x ∈ l) : x = f ∨ (∃ k, lk f env = some k ∧ k.div = false ∧ x ∈ k.free) ∨ ∃ a ∈ args, ∃ l', nd a env = some l' ∧ x ∈ l' := by
  unfold callS at h
  cases hl : lk f env with
  | none => rw [hl] at h; cases h; exact .inl (List.mem_singleton.mp hx)
  | some k =>
    rw [hl] at h
    dsimp only at h
    split at h
    · cases h; exact .inl (List.mem_singleton.mp hx)
    · split at h
      · cases h
      · rename_i hd
        rcases callL_mem _ h hx with ⟨z, h1, h2⟩ | ⟨p, hp, l', h1, h2⟩
        · rcases both_mem h1 h2 with ⟨a, h3, h4⟩ | ⟨b, h3, h4⟩
          · cases h3; exact .inl (List.mem_singleton.mp h4)
          · cases h3; exact .inr (.inl ⟨k, rfl, by simpa using hd, h4⟩)
        · exact .inr (.inr ⟨p.2, (List.of_mem_zip hp).2, l', h1, h2⟩)
theorem without_some {o : Option (List Str)} {ps l : List Str} {x : Str} (h : withoutS o ps = some l) (hx : x ∈ l) : ∃ a, o = some a ∧ x ∈ a ∧ x ∉ ps := by
  cases o with
  | none => cases h
  | some a => cases h; have := without_mem.mp hx; exact ⟨a, rfl, this.1, this.2⟩
theorem with_mem {o w : Option (List Str)} {own : Str} {l : List Str} {x : Str} (h : withS o own w = some l) (hx : x ∈ l) : (∃ a, o = some a ∧ x ∈ a) ∨ ∃ b, w = some b ∧ x ∈ b := by
  unfold withS at h
  obtain ⟨a, h1, h2, _⟩ := without_some h hx
  cases o with
  | none => cases h1
  | some z =>
    dsimp only at h1
    split at h1
    · exact both_mem h1 h2
    · cases h1; exact .inl ⟨a, rfl, h2⟩
theorem either1_mem {o : Option (List Str)} {l : List Str} {x : Str} (h : eitherS [o] = some l) (hx : x ∈ l) : ∃ a, o = some a ∧ x ∈ a := by
  cases o with
  | none => cases h
  | some a => cases h; exact ⟨_, rfl, hx⟩
theorem either2_mem {o p : Option (List Str)} {l : List Str} {x : Str} (h : eitherS [o, p] = some l) (hx : x ∈ l) : (∃ a, o = some a ∧ x ∈ a) ∨ ∃ b, p = some b ∧ x ∈ b := by
  cases o with
  | none =>
    cases p with
    | none => cases h
    | some b => cases h; exact .inr ⟨_, rfl, hx⟩
  | some a =>
    cases p with
    | none => cases h; exact .inl ⟨_, rfl, hx⟩
    | some b => cases h; exact .inl ⟨a, rfl, (filter_mem.mp hx).1⟩

variable {wf : α → List Str → Nat → Nat → Prop}
/-- what is asked of the parts -/
noncomputable abbrev Parts (num : Str → Nat) (F0 : List Str) (nd : α → Env' → Option (List Str)) (nev : α → Tab' → Bool) (nee : Str → α → Tab' → Bool) (nm : α → Tab' → List Str) (wf : α → List Str → Nat → Nat → Prop) : Prop :=
  ∀ a S m m', wf a S m m' → (∀ x ∈ S, num x ≤ m) → (∀ f ∈ F0, f ∈ S) → TSp2 num F0 nd nev nee nm a S m m'
theorem args_wf (H : Parts num F0 nd nev nee nm wf) {S : List Str} (hF : ∀ f ∈ F0, f ∈ S) : ∀ (args : List α) {m m' : Nat}, (∀ x ∈ S, num x ≤ m) → ArgsWF wf S args m m' → m ≤ m' ∧ ∀ a ∈ args, ∃ k k', m ≤ k ∧ k' ≤ m' ∧ TSp2 num F0 nd nev nee nm a S k k'
  | [], m, m', hS, h => ⟨h, fun a ha => by cases ha⟩
  | a :: r, m, m', hS, ⟨k, h1, h2⟩ => by
    have T := H a S m k h1 hS hF
    obtain ⟨h3, h4⟩ := args_wf H hF r (fun x hx => Nat.le_trans (hS x hx) T.le) h2
    refine ⟨Nat.le_trans T.le h3, fun b hb => ?_⟩
    rcases List.mem_cons.mp hb with rfl | hb
    · exact ⟨m, k, Nat.le_refl _, h3, T⟩
    · obtain ⟨j, j', h5, h6, h7⟩ := h4 b hb
      exact ⟨j, j', Nat.le_trans T.le h5, h6, h7⟩

theorem node_app (H : Parts num F0 nd nev nee nm wf) {f : Str} {args : List α} {S : List Str} {m m' : Nat} (hS : ∀ x ∈ S, num x ≤ m) (hF : ∀ f ∈ F0, f ∈ S) (hf : f ∈ F0) (ha : ArgsWF wf S args m m') :
    TSp2 num F0 (nodeS nd) (nevS nev nee nm) (neeS nev nee nm) (nmS nm) (.app f args) S m m' := by
  obtain ⟨h1, h2⟩ := args_wf H hF args hS ha
  refine ⟨h1, fun env tab R => ?_, fun tab x hx => ?_, fun env tab tab2 R hT l hl x hx => ?_⟩
  · exact call_sp R (hF f hf) args fun a ha => by
      obtain ⟨k, k', h3, h4, T⟩ := h2 a ha
      exact T.sp env tab (R.up h3 hS)
  · have hx' : x ∈ unions (unionS [f] (rnS f tab) :: args.map (nm · tab)) [] := hx
    rw [mem_unions] at hx'
    rcases hx' with h | ⟨y, hy, hxy⟩
    · cases h
    · rcases List.mem_cons.mp hy with rfl | hy
      · rcases mem_unionS.mp hxy with h | h
        · rw [List.mem_singleton] at h; exact .inl (h ▸ hF f hf)
        · exact .inr (.inr (mem_rn h))
      · obtain ⟨a, haa, rfl⟩ := List.mem_map.mp hy
        obtain ⟨k, k', h3, h4, T⟩ := h2 a haa
        exact (T.bnd tab x hxy).mono (fun x hx => .inl hx) h3 h4
  · have hl' : callS nd env f args = some l := hl
    show x ∈ unions (unionS [f] (rnS f tab2) :: args.map (nm · tab2)) []
    rw [mem_unions]
    right
    rcases call_mem hl' hx with rfl | ⟨k, hk, hd, hxk⟩ | ⟨a, haa, l', h3, h4⟩
    · exact ⟨_, .head _, mem_unionS.mpr (.inl (by simp))⟩
    · refine ⟨_, .head _, mem_unionS.mpr (.inr ?_)⟩
      rcases R f with ⟨h5, _⟩ | ⟨k', r, h5, h6, h7⟩
      · rw [h5] at hk; cases hk
      · rw [h5] at hk; cases hk
        unfold rnS
        rw [hT f hf, h6]
        exact ((h7.same hd).2 x (h7.sub x hxk)).mp hxk
    · obtain ⟨k, k', h5, h6, T⟩ := h2 a haa
      exact ⟨_, .tail _ (List.mem_map.mpr ⟨a, haa, rfl⟩), T.cov env tab tab2 (R.up h5 hS) hT l' h3 x h4⟩
theorem node_prim (H : Parts num F0 nd nev nee nm wf) {op : Str} {args : List α} {S : List Str} {m m' : Nat} (hS : ∀ x ∈ S, num x ≤ m) (hF : ∀ f ∈ F0, f ∈ S) (ha : ArgsWF wf S args m m') :
    TSp2 num F0 (nodeS nd) (nevS nev nee nm) (neeS nev nee nm) (nmS nm) (.prim op args) S m m' := by
  obtain ⟨h1, h2⟩ := args_wf H hF args hS ha
  refine ⟨h1, fun env tab R => ?_, fun tab x hx => ?_, fun env tab tab2 R hT l hl x hx => ?_⟩
  · have h0 : Sp S (some []) false (fun _ => false) := ⟨fun e => (by cases e), fun l e => by cases e; exact ⟨rfl, fun x _ => by simp, fun x hx => by cases hx⟩⟩
    have := primS_sp (nd := nd) (nev := nev) (nee := nee) (env := env) (tab := tab) args (fun a ha => by
      obtain ⟨k, k', h3, h4, T⟩ := h2 a ha
      exact T.sp env tab (R.up h3 hS)) h0
    show Sp S (if seq op "error" then none else primS nd env args (some [])) (seq op "error" || args.any (nev · tab)) (fun x => args.any (nee x · tab))
    cases hop : seq op "error" with
    | true => exact ⟨fun _ => rfl, fun l e => by cases e⟩
    | false => exact this.congr rfl fun x _ => by simp
  · have hx' : x ∈ unions (args.map (nm · tab)) [] := hx
    rw [mem_unions] at hx'
    rcases hx' with h | ⟨y, hy, hxy⟩
    · cases h
    · obtain ⟨a, haa, rfl⟩ := List.mem_map.mp hy
      obtain ⟨k, k', h3, h4, T⟩ := h2 a haa
      exact (T.bnd tab x hxy).mono (fun x hx => .inl hx) h3 h4
  · have hl' : (if seq op "error" then none else primS nd env args (some [])) = some l := hl
    split at hl'
    · cases hl'
    · show x ∈ unions (args.map (nm · tab2)) []
      rw [mem_unions]
      right
      rcases prim_mem args hl' hx with ⟨a, h3, h4⟩ | ⟨a, haa, l', h3, h4⟩
      · cases h3; cases h4
      · obtain ⟨k, k', h5, h6, T⟩ := h2 a haa
        exact ⟨_, List.mem_map.mpr ⟨a, haa, rfl⟩, T.cov env tab tab2 (R.up h5 hS) hT l' h3 x h4⟩
theorem node_case (H : Parts num F0 nd nev nee nm wf) {v a : α} {own : Str} {o : Option α} {S : List Str} {m m' : Nat} (hS : ∀ x ∈ S, num x ≤ m) (hF : ∀ f ∈ F0, f ∈ S) (h : NodeWF num F0 wf (.case v own a o) S m m') :
    TSp2 num F0 (nodeS nd) (nevS nev nee nm) (neeS nev nee nm) (nmS nm) (.case v own a o) S m m' := by
  obtain ⟨k1, k2, w1, w2, w3, w4⟩ := h
  have T1 := H v S m k1 w1 hS hF
  have hm : m ≤ num own := Nat.le_trans T1.le (Nat.le_of_lt w2)
  have hlt : m < num own := Nat.lt_of_le_of_lt T1.le w2
  have hd : ∀ x ∈ S, x ∉ [own] := fun x hx hn => by
    rw [List.mem_singleton] at hn; subst hn; have := hS x hx; (clear hm w4 w3 w2; omega)
  have hS2 : ∀ x ∈ own :: S, num x ≤ num own := fun x hx => by
    rcases List.mem_cons.mp hx with rfl | hx
    · exact Nat.le_refl _
    · exact Nat.le_trans (hS x hx) hm
  have hF2 : ∀ f ∈ F0, f ∈ own :: S := fun f hf => .tail _ (hF f hf)
  have T2 := H a (own :: S) (num own) k2 w3 hS2 hF2
  have RR : ∀ env tab, Rel num S m env tab → Rel num (own :: S) (num own) env tab := fun env tab R => R.grow [own] hm hS (fun x hx => by rw [List.mem_singleton] at hx; subst hx; exact hlt)
  have key : ∀ x, x ∈ own :: S → x ∈ S ∨ (m < num x ∧ num x ≤ num own) := fun x hx => by
    rcases List.mem_cons.mp hx with rfl | hx
    · exact .inr ⟨hlt, Nat.le_refl _⟩
    · exact .inl hx
  cases o with
  | none =>
    have w4' : k2 ≤ m' := w4
    have hk := T2.le
    refine ⟨by (clear w4' key RR T2 hF2 hS2 hd hlt T1 w3 w2; omega), fun env tab R => ?_, fun tab x hx => ?_, fun env tab tab2 R hT l hl x hx => ?_⟩
    · exact Sp.both (T1.sp env tab R) (Sp.either1 (Sp.without (new := [own]) (T2.sp env tab (RR env tab R)) hd))
    · have hx' : x ∈ unions [nm v tab, nm a tab] [] := hx
      rw [mem_unions] at hx'
      simp only [List.not_mem_nil, List.mem_cons, or_false, false_or, exists_eq_or_imp, exists_eq_left] at hx'
      rcases hx' with h | h
      · exact (T1.bnd tab x h).mono (fun x hx => .inl hx) (Nat.le_refl _) (by (clear h hx w4' key RR T2 hF2 hS2 hd hlt hm; omega))
      · exact (T2.bnd tab x h).mono (fun x hx => (key x hx).imp id fun h => ⟨h.1, by (clear hx w4' key RR T2 hF2 hS2 hd hlt hm T1 w3 w2; omega)⟩) hm w4'
    · show x ∈ unions [nm v tab2, nm a tab2] []
      rw [mem_unions]
      simp only [List.not_mem_nil, List.mem_cons, or_false, false_or, exists_eq_or_imp, exists_eq_left]
      have hl' : bothS (nd v env) (eitherS [withoutS (nd a env) [own]]) = some l := hl
      rcases both_mem hl' hx with ⟨l1, e1, e2⟩ | ⟨l1, e1, e2⟩
      · exact .inl (T1.cov env tab tab2 R hT l1 e1 x e2)
      · obtain ⟨l2, e3, e4⟩ := either1_mem e1 e2
        obtain ⟨l3, e5, e6, _⟩ := without_some e3 e4
        exact .inr (T2.cov env tab tab2 (RR env tab R) hT l3 e5 x e6)
  | some o =>
    have w4' : wf o (own :: S) k2 m' := w4
    have hk := T2.le
    have hS3 : ∀ x ∈ own :: S, num x ≤ k2 := fun x hx => Nat.le_trans (hS2 x hx) hk
    have T3 := H o (own :: S) k2 m' w4' hS3 hF2
    have hk3 := T3.le
    refine ⟨by (clear T3 hS3 w4' w4 key RR T2 hF2 hS2 hd hlt T1 w3 w2; omega), fun env tab R => ?_, fun tab x hx => ?_, fun env tab tab2 R hT l hl x hx => ?_⟩
    · exact Sp.both (T1.sp env tab R) (Sp.either2 (Sp.without (new := [own]) (T2.sp env tab (RR env tab R)) hd) (Sp.without (new := [own]) (T3.sp env tab ((RR env tab R).up hk hS2)) hd))
    · have hx' : x ∈ unions [nm v tab, nm a tab, nm o tab] [] := hx
      rw [mem_unions] at hx'
      simp only [List.not_mem_nil, List.mem_cons, or_false, false_or, exists_eq_or_imp, exists_eq_left] at hx'
      rcases hx' with h | h | h
      · exact (T1.bnd tab x h).mono (fun x hx => .inl hx) (Nat.le_refl _) (by (clear h hx T3 hS3 w4' w4 key RR T2 hF2 hS2 hd hlt hm; omega))
      · exact (T2.bnd tab x h).mono (fun x hx => (key x hx).imp id fun h => ⟨h.1, by (clear hx T3 hS3 w4' w4 key RR T2 hF2 hS2 hd hlt hm T1 w3 w2; omega)⟩) hm hk3
      · exact (T3.bnd tab x h).mono (fun x hx => (key x hx).imp id fun h => ⟨h.1, by omega⟩) (by (clear h hx hk3 T3 hS3 w4' w4 key RR T2 hF2 hS2 hd hlt T1 w3 w2; omega)) (Nat.le_refl _)
    · show x ∈ unions [nm v tab2, nm a tab2, nm o tab2] []
      rw [mem_unions]
      simp only [List.not_mem_nil, List.mem_cons, or_false, false_or, exists_eq_or_imp, exists_eq_left]
      have hl' : bothS (nd v env) (eitherS [withoutS (nd a env) [own], withoutS (nd o env) [own]]) = some l := hl
      rcases both_mem hl' hx with ⟨l1, e1, e2⟩ | ⟨l1, e1, e2⟩
      · exact .inl (T1.cov env tab tab2 R hT l1 e1 x e2)
      · rcases either2_mem e1 e2 with ⟨l2, e3, e4⟩ | ⟨l2, e3, e4⟩
        · obtain ⟨l3, e5, e6, _⟩ := without_some e3 e4
          exact .inr (.inl (T2.cov env tab tab2 (RR env tab R) hT l3 e5 x e6))
        · obtain ⟨l3, e5, e6, _⟩ := without_some e3 e4
          exact .inr (.inr (T3.cov env tab tab2 ((RR env tab R).up hk hS2) hT l3 e5 x e6))
theorem node_lett (H : Parts num F0 nd nev nee nm wf) {v b : α} {own : Str} {S : List Str} {m m' : Nat} (hS : ∀ x ∈ S, num x ≤ m) (hF : ∀ f ∈ F0, f ∈ S) (h : NodeWF num F0 wf (.lett own v b) S m m') :
    TSp2 num F0 (nodeS nd) (nevS nev nee nm) (neeS nev nee nm) (nmS nm) (.lett own v b) S m m' := by
  obtain ⟨k, w1, w2, w3⟩ := h
  have hS1 : ∀ x ∈ S, num x ≤ num own := fun x hx => by have := hS x hx; omega
  have T1 := H v S (num own) k w2 hS1 hF
  have hd : own ∉ S := fun hx => by have := hS own hx; omega
  have hS2 : ∀ x ∈ own :: S, num x ≤ k := fun x hx => by
    rcases List.mem_cons.mp hx with rfl | hx
    · exact T1.le
    · exact Nat.le_trans (hS1 x hx) T1.le
  have hF2 : ∀ f ∈ F0, f ∈ own :: S := fun f hf => .tail _ (hF f hf)
  have T2 := H b (own :: S) k m' w3 hS2 hF2
  have hk := T1.le
  have hk2 := T2.le
  have RR : ∀ env tab, Rel num S m env tab → Rel num (own :: S) k env tab := fun env tab R => R.grow [own] (by (clear R hk2; omega)) hS (fun x hx => by rw [List.mem_singleton] at hx; subst hx; exact w1)
  refine ⟨by omega, fun env tab R => ?_, fun tab x hx => ?_, fun env tab tab2 R hT l hl x hx => ?_⟩
  · exact Sp.with_ (T2.sp env tab (RR env tab R)) (T1.sp env tab (R.up (Nat.le_of_lt w1) hS)) hd
  · have hx' : x ∈ unions [nm v tab, nm b tab] [] := hx
    rw [mem_unions] at hx'
    simp only [List.not_mem_nil, List.mem_cons, or_false, false_or, exists_eq_or_imp, exists_eq_left] at hx'
    rcases hx' with h | h
    · exact (T1.bnd tab x h).mono (fun x hx => .inl hx) (by exact Nat.le_of_lt w1) (by omega)
    · exact (T2.bnd tab x h).mono (fun x hx => by
        rcases List.mem_cons.mp hx with rfl | hx
        · exact .inr ⟨w1, by (clear hx RR T2 hF2 hS2 hd T1 hS1 w3 w2 w1; omega)⟩
        · exact .inl hx) (by omega) (Nat.le_refl _)
  · show x ∈ unions [nm v tab2, nm b tab2] []
    rw [mem_unions]
    simp only [List.not_mem_nil, List.mem_cons, or_false, false_or, exists_eq_or_imp, exists_eq_left]
    have hl' : withS (nd b env) own (nd v env) = some l := hl
    rcases with_mem hl' hx with ⟨l1, e1, e2⟩ | ⟨l1, e1, e2⟩
    · exact .inr (T2.cov env tab tab2 (RR env tab R) hT l1 e1 x e2)
    · exact .inl (T1.cov env tab tab2 (R.up (Nat.le_of_lt w1) hS) hT l1 e1 x e2)
theorem mem_out {x : Str} {ps : List Str} {fb : α} {tab : Tab'} : x ∈ outS nee nm ps fb tab ↔ x ∈ nm fb tab ∧ x ∉ ps ∧ nee x fb tab = true := by
  unfold outS
  rw [List.mem_filter, mem_sortS, Bool.and_eq_true]
  have : (!memS x ps) = true ↔ x ∉ ps := by
    rw [← memS_iff (l := ps)]; cases memS x ps <;> simp
  rw [this]
theorem node_letf (H : Parts num F0 nd nev nee nm wf) {fb : α} {own : Str} {ps : List Str} {args : List α} {S : List Str} {m m' : Nat} (hS : ∀ x ∈ S, num x ≤ m) (hF : ∀ f ∈ F0, f ∈ S) (h : NodeWF num F0 wf (.letf own ps fb args) S m m') :
    TSp2 num F0 (nodeS nd) (nevS nev nee nm) (neeS nev nee nm) (nmS nm) (.letf own ps fb args) S m m' := by
  obtain ⟨k1, k2, w1, w2, w3, w4, w5⟩ := h
  have hS1 : ∀ x ∈ ps ++ S, num x ≤ k1 := fun x hx => by
    rcases List.mem_append.mp hx with hx | hx
    · exact (w2 x hx).2
    · have := hS x hx; omega
  have hF1 : ∀ f ∈ F0, f ∈ ps ++ S := fun f hf => List.mem_append.mpr (.inr (hF f hf))
  have T1 := H fb (ps ++ S) k1 k2 w4 hS1 hF1
  have hd : own ∉ S := fun hx => by have := hS own hx; (clear hx T1 hF1 hS1 w5 w4 w3; omega)
  have hdp : own ∉ ps := fun hx => by have := (w2 own hx).1; (clear hx hd T1 hF1 hS1 w5 w4 w3 w2 w1; omega)
  have hk := T1.le
  have hS2 : ∀ x ∈ own :: S, num x ≤ k2 := fun x hx => by
    rcases List.mem_cons.mp hx with rfl | hx
    · (clear hx hdp hd w5 w2 w1; omega)
    · have := hS x hx; omega
  have hF2 : ∀ f ∈ F0, f ∈ own :: S := fun f hf => .tail _ (hF f hf)
  obtain ⟨hk2, hA⟩ := args_wf H hF2 args hS2 w5
  have R1 : ∀ env tab, Rel num S m env tab → Rel num (ps ++ S) k1 env tab := fun env tab R => R.grow ps (by (clear R hA hk2 hF2 hS2 hk; omega)) hS (fun x hx => by have := (w2 x hx).1; (clear hx R hA hk2 hF2 hS2 hk hdp hd T1 hF1 hS1 w5 w4 w3; omega))
  have hown : ∀ tab env, Rel num S m env tab → own ∉ nm fb tab := fun tab env R hx => by
    rcases T1.bnd tab own hx with h | h | ⟨f, r, h1, h2⟩
    · exact (List.mem_append.mp h).elim hdp hd
    · (clear hx R R1 hA hk2 hF2 hS2 hk hdp hd T1 hF1 hS1 w5 w4 w2 w1; omega)
    · rcases R f with ⟨_, h3⟩ | ⟨k, r', h3, h4, h5⟩
      · rw [h3] at h1; cases h1
      · rw [h4] at h1; cases h1
        have := h5.bnd own h2; (clear h5 h4 h3 h2 hx R R1 hA hk2 hF2 hS2 hk; omega)
  have hSR : ∀ env tab, Rel num S m env tab → SR num (own :: S) k2 (sigS nd env ps fb) (rowS nev nee nm ps fb tab) := fun env tab R => by
    have P := T1.sp env tab (R1 env tab R)
    have hbnd : ∀ x ∈ outS nee nm ps fb tab, num x ≤ k2 := fun x hx => by
      obtain ⟨h1, h2, _⟩ := mem_out.mp hx
      rcases T1.bnd tab x h1 with h | h | ⟨f, r, h3, h4⟩
      · have := hS1 x h; (clear h h2 h1 hx P R hown R1 hA hk2 hF2 hS2 hdp hd T1 hF1 hS1 w5 w4 w3 w2 w1; omega)
      · exact h.2
      · rcases R f with ⟨_, h5⟩ | ⟨k, r', h5, h6, h7⟩
        · rw [h5] at h3; cases h3
        · rw [h6] at h3; cases h3
          have := h7.bnd x h4; (clear h7 h6 h5 h4 h2 h1 hx P R hown R1 hA hk2; omega)
    unfold sigS rowS
    cases hq : nd fb env with
    | none =>
      rw [hq] at P
      exact ⟨(by simp), (P.ifN rfl).symm, (fun h => by cases h), (fun x hx => by cases hx), hbnd⟩
    | some l =>
      rw [hq] at P
      obtain ⟨p1, p2, p3⟩ := P.ifS l rfl
      refine ⟨by simp, p1.symm, fun _ => ⟨?_, fun x hx => ?_⟩, fun x hx => ?_, hbnd⟩
      · show ps.map _ = ps.map _
        refine List.map_congr_left fun p hp => ?_
        rw [Bool.eq_iff_iff, memS_iff]
        exact p2 p (List.mem_append.mpr (.inl hp))
      · show x ∈ unionS [] (l.filter fun x => !memS x ps) ↔ x ∈ outS nee nm ps fb tab
        rw [without_mem, mem_out]
        rcases List.mem_cons.mp hx with rfl | hx
        · constructor
          · intro h
            exact absurd (p3 _ h.1) fun hh => (List.mem_append.mp hh).elim hdp hd
          · intro h
            exact absurd h.1 (hown tab env R)
        · have hx' : x ∈ ps ++ S := List.mem_append.mpr (.inr hx)
          rw [p2 x hx']
          constructor
          · intro h
            refine ⟨?_, h.2, h.1⟩
            exact T1.cov env tab tab (R1 env tab R) (fun _ _ => rfl) l hq x ((p2 x hx').mpr h.1)
          · intro h; exact ⟨h.2.2, h.2.1⟩
      · have := without_mem.mp hx
        rcases List.mem_append.mp (p3 x this.1) with h | h
        · exact absurd h this.2
        · exact .tail _ h
  have R2 : ∀ env tab, Rel num S m env tab → Rel num (own :: S) k2 (put own (sigS nd env ps fb) env) (put own (rowS nev nee nm ps fb tab) tab) := fun env tab R =>
    (R.grow [own] (show m ≤ k2 by (clear R hSR hown R1 hA hk2; omega)) hS (fun x hx => by rw [List.mem_singleton] at hx; subst hx; exact w1)).put own (hSR env tab R)
  refine ⟨by omega, fun env tab R => ?_, fun tab x hx => ?_, fun env tab tab2 R hT l hl x hx => ?_⟩
  · have h0 : Sp S (some []) false (fun _ => false) := ⟨fun e => (by cases e), fun l e => by cases e; exact ⟨rfl, fun x _ => by simp, fun x hx => by cases hx⟩⟩
    have h1 := call_sp (R2 env tab R) (f := own) (.head _) args fun a ha => by
      obtain ⟨k, k', h3, h4, T⟩ := hA a ha
      exact T.sp _ _ ((R2 env tab R).up h3 hS2)
    have h2 := Sp.with_ h1 h0 hd
    exact h2.congr (by simp; rfl) fun x hx => by simp; rfl
  · have hx' : x ∈ unions [unions [nm fb tab] [], unions (unionS [own] (rnS own tab) :: args.map (nm · tab)) []] [] := hx
    rw [mem_unions] at hx'
    simp only [List.not_mem_nil, List.mem_cons, or_false, false_or, exists_eq_or_imp, exists_eq_left] at hx'
    rcases hx' with h | h
    · rw [mem_unions] at h
      simp only [List.not_mem_nil, List.mem_cons, or_false, false_or, exists_eq_left] at h
      exact (T1.bnd tab x h).mono (fun x hx => by
        rcases List.mem_append.mp hx with hx | hx
        · have := w2 x hx; exact .inr ⟨by (clear h hx R2 hSR hown R1 hA hk2 hF2 hS2 hk hdp hd T1 hF1 hS1 w5 w4 w3; omega), by (clear h hx R2 hSR hown R1 hA hF2 hS2 hdp hd T1 hF1 hS1 w5 w4 w3 w2 w1; omega)⟩
        · exact .inl hx) (by omega) (by omega)
    · rw [mem_unions] at h
      rcases h with h | ⟨y, hy, hxy⟩
      · cases h
      · rcases List.mem_cons.mp hy with rfl | hy
        · rcases mem_unionS.mp hxy with h | h
          · rw [List.mem_singleton] at h; subst h; exact .inr (.inl ⟨w1, by (clear hxy hy hx R2 hSR hown hA hF2 hS2 hdp hd w5 w2 w1; omega)⟩)
          · exact .inr (.inr (mem_rn h))
        · obtain ⟨a, haa, rfl⟩ := List.mem_map.mp hy
          obtain ⟨k, k', h3, h4, T⟩ := hA a haa
          exact (T.bnd tab x hxy).mono (fun x hx => by
            rcases List.mem_cons.mp hx with rfl | hx
            · exact .inr ⟨w1, by (clear T hx R2 hSR hown hA hF2 hS2 hdp hd w5 w2 w1 h4 h3; omega)⟩
            · exact .inl hx) (by (clear T h4 hxy hy haa hx R2 hSR hown R1 hA hk2; omega)) h4
  · show x ∈ unions [unions [nm fb tab2] [], unions (unionS [own] (rnS own tab2) :: args.map (nm · tab2)) []] []
    rw [mem_unions]
    simp only [List.not_mem_nil, List.mem_cons, or_false, false_or, exists_eq_or_imp, exists_eq_left]
    have hl' : withS (callS nd (put own (sigS nd env ps fb) env) own args) own (some []) = some l := hl
    rcases with_mem hl' hx with ⟨l1, e1, e2⟩ | ⟨l1, e1, e2⟩
    · rcases call_mem e1 e2 with rfl | ⟨k, e3, e4, e5⟩ | ⟨a, haa, l', e3, e4⟩
      · right; rw [mem_unions]; right; exact ⟨_, .head _, mem_unionS.mpr (.inl (by simp))⟩
      · left
        rw [lk_put, if_pos rfl] at e3
        cases e3
        rw [mem_unions]
        simp only [List.not_mem_nil, List.mem_cons, or_false, false_or, exists_eq_left]
        unfold sigS at e4 e5
        cases hq : nd fb env with
        | none => rw [hq] at e5; cases e5
        | some l0 =>
          rw [hq] at e5
          exact T1.cov env tab tab2 (R1 env tab R) hT l0 hq x (without_mem.mp e5).1
      · right
        rw [mem_unions]
        right
        obtain ⟨k, k', h3, h4, T⟩ := hA a haa
        refine ⟨_, .tail _ (List.mem_map.mpr ⟨a, haa, rfl⟩), T.cov _ _ tab2 ((R2 env tab R).up h3 hS2) (fun f hf => ?_) l' e3 x e4⟩
        rw [hT f hf, lk_put]
        exact (if_neg fun (e : f = own) => hd (e ▸ hF f hf)).symm
    · cases e1; cases e2
theorem node_sp (H : Parts num F0 nd nev nee nm wf) : Parts num F0 (nodeS nd) (nevS nev nee nm) (neeS nev nee nm) (nmS nm) (NodeWF num F0 wf) := by
  intro t S m m' h hS hF
  cases t with
  | leaf l =>
    cases l with
    | var y =>
      obtain ⟨h1, h2⟩ := h
      refine ⟨h2, fun env tab R => Sp.one h1, fun tab x hx => ?_, fun env tab tab2 R hT l hl x hx => ?_⟩
      · rcases mem_unionS.mp (show x ∈ unionS [y] (rnS y tab) from hx) with h | h
        · rw [List.mem_singleton] at h; exact .inl (h ▸ h1)
        · exact .inr (.inr (mem_rn h))
      · cases hl; exact mem_unionS.mpr (.inl hx)
    | lit =>
      refine ⟨h, fun env tab R => ⟨fun e => (by cases e), fun l e => ?_⟩, (fun tab x hx => by cases hx), (fun env tab tab2 R hT l hl x hx => by cases hl; cases hx)⟩
      cases e
      exact ⟨rfl, fun x _ => by simp [neeS], fun x hx => by cases hx⟩
  | prim op args => exact node_prim H hS hF h
  | case v own a o => exact node_case H hS hF h
  | lett own v b => exact node_lett H hS hF h
  | letf own ps fb args => exact node_letf H hS hF h
  | app f args => exact node_app H hS hF h.1 h.2
end
theorem T_sp : ∀ n, Parts num F0 (ndT n) (nevT n) (neeT n) (nmT n) (WFT num F0 n)
  | 0 => by
    intro l S m m' h hS hF
    have H0 : Parts num F0 (α := Leaf) (fun _ _ => none) (fun _ _ => false) (fun _ _ _ => false) (fun _ _ => []) (fun _ _ _ _ => False) := fun _ _ _ _ h => h.elim
    have h' : NodeWF num F0 (α := Leaf) (fun _ _ _ _ => False) (.leaf l) S m m' := by cases l <;> exact h
    have := node_sp H0 (.leaf l) S m m' h' hS hF
    cases l with
    | var x => exact ⟨this.le, this.sp, this.bnd, this.cov⟩
    | lit => exact ⟨this.le, this.sp, this.bnd, this.cov⟩
  | n + 1 => fun t S m m' h hS hF => by
    have := node_sp (T_sp n) t.1 S m m' h hS hF
    exact ⟨this.le, this.sp, this.bnd, this.cov⟩
end
end Mine

set_option maxRecDepth 100000
set_option linter.unusedVariables false
set_option linter.unusedSimpArgs false
namespace Mine
open PySem

/-! the names that are drawn -/
noncomputable def num (s : Str) : Nat := (s.cps.toList.drop 2).foldl (fun a c => 10 * a + (c - 48)) 0
noncomputable def niceB (s : Str) : Bool := Nat.ble s.length 12 && (!seq (slicePart s none (some 1)) "-" && (sizeOk (slicePart s none (some 1)).length && (!seq s "" && (!memS s keyWords && (!(s.cps.toList.all fun c => digitsS.cps.toList.any (Nat.beq c)) &&
  s.cps.toList.all fun c => !neverBare.cps.toList.any (Nat.beq c) && (Nat.blt 32 c && !Nat.beq c 127))))))
theorem and_iff {a b : Bool} : (a && b) = true ↔ a = true ∧ b = true := Bool.and_eq_true_iff
theorem not_tt {a : Bool} (h : (!a) = true) : a = false := by cases a <;> first | rfl | cases h
theorem nice_of {s : Str} (h : niceB s = true) : Nice s := by
  obtain ⟨h1, h⟩ := and_iff.mp h
  obtain ⟨h2, h⟩ := and_iff.mp h
  obtain ⟨h3, h⟩ := and_iff.mp h
  obtain ⟨h4, h⟩ := and_iff.mp h
  obtain ⟨h5, h⟩ := and_iff.mp h
  obtain ⟨h6, h⟩ := and_iff.mp h
  refine ⟨Nat.le_of_ble_eq_true h1, not_tt h2, h3, not_tt h4, not_tt h5, not_tt h6, fun c hc => ?_⟩
  obtain ⟨h7, h8⟩ := and_iff.mp (List.all_eq_true.mp h c hc)
  obtain ⟨h8, h9⟩ := and_iff.mp h8
  exact ⟨not_tt h7, Nat.le_of_ble_eq_true h8, fun e => by rw [e] at h9; cases h9⟩
noncomputable def bases : List Str := ["c", "l", "k", "p"]
noncomputable def freshB (i : Nat) : Bool := Nat.ble (decText (Int.ofNat i + 1)).length 10 && bases.all fun base => niceB (fresh base (Int.ofNat i)) && Nat.beq (num (fresh base (Int.ofNat i))) (i + 1)
theorem fresh_all : (List.range 40).all freshB = true := by kernel_rfl
theorem fresh_is {base : Str} (hb : base ∈ bases) {n : Nat} (hn : n < 40) : (decText ((n : Int) + 1)).length ≤ 10 ∧ Nice (fresh base n) ∧ num (fresh base n) = n + 1 := by
  obtain ⟨h1, h2⟩ := and_iff.mp (List.all_eq_true.mp fresh_all n (List.mem_range.mpr hn))
  obtain ⟨h3, h4⟩ := and_iff.mp (List.all_eq_true.mp h2 base hb)
  exact ⟨Nat.le_of_ble_eq_true h1, nice_of h3, Nat.eq_of_beq_eq_true h4⟩
end Mine

set_option maxRecDepth 100000
set_option linter.unusedVariables false
set_option linter.unusedSimpArgs false
namespace Mine
open PySem

/-! the drawing of trees -/
structure BN (b : Bowl) (m : Nat) : Prop where
  ok : BOK b
  nm : b.names = (m : Int)
theorem pickN {b : Bowl} {m : Nat} (h : BN b m) {many : Int} (h1 : 1 ≤ many) (h2 : many < 1000) : ∃ d b', (0 ≤ d ∧ d < many) ∧ BN b' m ∧ Ret 20 "_law_pick" [.bowl, .int many] b (.int d, b') := by
  obtain ⟨d, b', h3, h4, h5, h6⟩ := pick_ret h.ok h1 h2
  exact ⟨d, b', h3, ⟨h4, h5.trans h.nm⟩, h6⟩
theorem len_base {base : Str} (hb : base ∈ bases) : base.length ≤ 2 := by
  have : (bases.all fun s => Nat.ble s.length 2) = true := by kernel_rfl
  exact Nat.le_of_ble_eq_true (List.all_eq_true.mp this base hb)
theorem freshN {b : Bowl} {m : Nat} (h : BN b m) (hm : m < 40) {base : Str} (hb : base ∈ bases) : ∃ b', BN b' (m + 1) ∧ Ret 20 "_law_fresh" [.bowl, .str base] b (.str (fresh base m), b') := by
  obtain ⟨l, k, n⟩ := b
  obtain ⟨⟨h1, h2, h3⟩, h4⟩ := h
  cases (show n = (m : Int) from h4)
  have := fresh_ret (b := ⟨l, k, m⟩) base (len_base hb) (Int.natCast_nonneg m) (show (m : Int) < 1000 by (clear h3 h2 h1 h4; omega)) (fresh_is hb hm).1
  exact ⟨⟨l, k, (m : Int) + 1⟩, ⟨⟨h1, h2, h3⟩, by show (m : Int) + 1 = ((m + 1 : Nat) : Int); (clear this h3 h2 h1 h4; omega)⟩, this⟩

/-- what a comprehension draws, one behind the other -/
def ChainR {α : Type} (R : α → Nat → Nat → Prop) : List α → Nat → Nat → Prop
  | [], m, m' => m = m'
  | a :: r, m, m' => ∃ k, R a m k ∧ ChainR R r k m'
theorem ChainR.snoc {α : Type} {R : α → Nat → Nat → Prop} {a : α} {k m' : Nat} (h : R a k m') : ∀ {l : List α} {m : Nat}, ChainR R l m k → ChainR R (l ++ [a]) m m'
  | [], _, h1 => by cases h1; exact ⟨_, h, rfl⟩
  | _ :: _, _, ⟨j, h1, h2⟩ => ⟨j, h1, ChainR.snoc h h2⟩
theorem draws_comp {α : Type} {pv : α → PV} {R : α → Nat → Nat → Prop} {Call : α → Bowl → Bowl → Prop} {c N k : Nat} {f : Str} {p q : List Nat} {x : Str} {vars : List (Str × PV)}
    (G : ∀ b m, BN b m → m + c ≤ 40 → ∃ a b1 m1, BN b1 m1 ∧ m ≤ m1 ∧ m1 ≤ m + c ∧ R a m m1 ∧ Call a b b1) (hb : ∀ v, bindT (compSc f p q) (compIn f p q).tgt v = some [(x, v)])
    (turn : ∀ v acc b0 a b1 (C : List PV → St → Prop), Call a b0 b1 → C (acc ++ [pv a]) { (⟨vars, none, b0⟩ : St).put1 x v with bowl := b1 } → Ok (lcT N k f p q [(x, v)] ⟨vars, none, b0⟩ acc fun a1 s1 => fin (C a1 s1)))
    (many : Nat) {b : Bowl} {m : Nat} (hB : BN b m) (hm : m + many * c ≤ 40) :
    ∃ (I : List PV → List PV → St → Prop) (l : List α) (bF : Bowl) (m' : Nat), l.length = many ∧ BN bF m' ∧ m ≤ m' ∧ m' ≤ m + many * c ∧ ChainR R l m m' ∧ LComp N k f p q I (l.map pv) bF (rangeItems many) [] ⟨vars, none, b⟩ := by
  obtain ⟨I, accF, bF, ⟨l, m', h1, h2, h3, h4, h5, h6⟩, h7⟩ := LComp.chain hb vars (fun r acc b' => ∃ (l : List α) (m' : Nat), acc = l.map pv ∧ r.length + l.length = many ∧ BN b' m' ∧ m ≤ m' ∧ m' ≤ m + l.length * c ∧ ChainR R l m m')
    (fun v r acc b0 ⟨l, m', h1, h2, h3, h4, h5, h6⟩ => by
      have h2 : r.length + 1 + l.length = many := h2
      have e : (l.length + 1) * c = l.length * c + c := Nat.succ_mul _ _
      have e2 : (l.length + 1) * c ≤ many * c := Nat.mul_le_mul_right c (by (clear e h6 h5 h4 h3 h1 hm; omega))
      obtain ⟨a, b1, m1, k1, k2, k3, k4, k5⟩ := G b0 m' h3 (by (clear h6 h4 h3 h2; omega))
      exact ⟨acc ++ [pv a], b1, ⟨l ++ [a], m1, by rw [h1, List.map_append]; rfl, by rw [List.length_append]; show r.length + (l.length + 1) = many; (clear k5 k4 k3 k2 k1 e2 e h6 h5 h4 h3 h1 hm; omega), k1, by (clear k5 k4 k3 k1 e2 e h6 h5 h3 h2; omega), by rw [List.length_append]; show m1 ≤ m + (l.length + 1) * c; (clear k5 k4 k2 k1 e2 h6 h4 h3 h2 h1 hm; omega), h6.snoc k4⟩, fun C hC => turn v acc b0 a b1 C k5 hC⟩)
    (rangeItems many) [] b ⟨vars, none, b⟩ ⟨[], m, rfl, by rw [len_range]; rfl, hB, Nat.le_refl _, Nat.le_add_right _ _, rfl⟩ (.inl rfl)
  subst h1
  have h2 : 0 + l.length = many := h2
  rw [Nat.zero_add] at h2
  subst h2
  exact ⟨I, l, bF, m', rfl, h3, h4, h5, h6, h7⟩

noncomputable def F0 : List Str := ["f", "g", "h"]
noncomputable abbrev knPV (kn : List (Str × Nat)) : PV := .list (kn.map fun p => .tuple [.str p.1, .int p.2])
structure Kn (kn : List (Str × Nat)) : Prop where
  len : kn.length = 3
  f : ∀ p ∈ kn, p.1 ∈ F0 ∧ Nice p.1 ∧ p.2 ≤ 3
structure Nm (names S : List Str) (z : Nat) : Prop where
  ne : 1 ≤ names.length
  le : names.length ≤ z
  sub : ∀ x ∈ names, x ∈ S
  nice : ∀ x ∈ names, Nice x
def Dr {α : Type} (pv : α → PV) (np : α → Prop) (wf : α → List Str → Nat → Nat → Prop) (N z c : Nat) (kn : List (Str × Nat)) (deep : Int) : Prop :=
  ∀ names S b m, Nm names S z → BN b m → m + c ≤ 40 → ∃ a b' m', BN b' m' ∧ m ≤ m' ∧ m' ≤ m + c ∧ (np a ∧ wf a S m m') ∧ Ret N "_law_tree" [.bowl, strsPV names, knPV kn, .int deep] b (pv a, b')

theorem at_list {l : List PV} {d : Int} {n : Nat} (h : 0 ≤ d) (hn : l.length = n) (h2 : d < n) (h3 : n ≤ 1000) (b : Bowl) : ∃ x ∈ l, item (.list l) (.int d) b = some x := by
  have hl : d.toNat < l.length := by (clear h3; omega)
  refine ⟨l[d.toNat], List.getElem_mem hl, ?_⟩
  show (match decide (0 ≤ d ∧ d < 100000) with | true => l[d.toNat]? | false => .none) = _
  rw [decide_eq_true (show 0 ≤ d ∧ d < 100000 by (clear hl hn; omega))]
  exact List.getElem?_eq_getElem hl
theorem at_map {β : Type} (g : β → PV) {l : List β} {d : Int} {n : Nat} (h : 0 ≤ d) (hn : l.length = n) (h2 : d < n) (h3 : n ≤ 1000) (b : Bowl) : ∃ x ∈ l, item (.list (l.map g)) (.int d) b = some (g x) := by
  obtain ⟨x, h4, h5⟩ := at_list (l := l.map g) h (by rw [List.length_map]; exact hn) h2 h3 b
  obtain ⟨y, h6, rfl⟩ := List.mem_map.mp h4
  exact ⟨y, h6, h5⟩
theorem ChainR.all {α : Type} {R : α → Nat → Nat → Prop} {P : α → Prop} (h : ∀ a m m', R a m m' → P a) : ∀ {l : List α} {m m' : Nat}, ChainR R l m m' → ∀ a ∈ l, P a
  | [], _, _, _ => nofun
  | _ :: _, _, _, ⟨_, h1, h2⟩ => fun a ha => (List.mem_cons.mp ha).elim (fun e => e ▸ h _ _ _ h1) (ChainR.all h h2 a)
theorem ChainR.args {α : Type} {np : α → Prop} {wf : α → List Str → Nat → Nat → Prop} {S : List Str} : ∀ {l : List α} {m m' : Nat}, ChainR (fun a m m' => np a ∧ wf a S m m') l m m' → ArgsWF wf S l m m'
  | [], _, _, h => Nat.le_of_eq h
  | _ :: _, _, _, ⟨k, h1, h2⟩ => ⟨k, h1.2, ChainR.args h2⟩

section
variable {α : Type} {pv : α → PV} {np : α → Prop} {wf : α → List Str → Nat → Nat → Prop} {N z c : Nat} {kn : List (Str × Nat)} {deep : Int}
theorem call_draw (hN : 20 ≤ N) (hc : c ≤ 10) (H : Dr pv np wf N z c kn (deep - 1)) {fn : Str} {n : Nat} (h0 : n ≤ 3) {names S : List Str} {b : Bowl} {m : Nat} (hs : Nm names S z) (hB : BN b m) (hm : m + 4 * c ≤ 40) :
    ∃ args b' m', BN b' m' ∧ m ≤ m' ∧ m' ≤ m + 4 * c ∧ args.length ≤ 4 ∧ (∀ a ∈ args, np a) ∧ ArgsWF wf S args m m' ∧ Ret (N + 20) "_law_call" [.bowl, .tuple [.str fn, .int n], strsPV names, knPV kn, .int deep] b (appPV fn (args.map pv), b') := by
  obtain ⟨d, b1, hd, k1, k2⟩ := pickN (many := 5) hB (by decide) (by decide)
  have k2 := k2.mono hN
  have k2 : Ret N "_law_pick" [.bowl, .int 5] b (.int d, b1) := k2
  obtain ⟨y, hy, hi⟩ := at_list (l := [.int 0, .int 0, .int 0, .int 1, .int (-1)]) (n := 5) hd.1 rfl hd.2 (by decide) b1
  obtain ⟨e, rfl, he⟩ : ∃ e : Int, y = .int e ∧ (-1 ≤ e ∧ e ≤ 1) := by
    simp only [List.mem_cons, List.not_mem_nil, or_false] at hy
    rcases hy with rfl | rfl | rfl | rfl | rfl <;> exact ⟨_, rfl, by decide⟩
  obtain ⟨w, hw, hW⟩ : ∃ w : Nat, (1 ≤ w ∧ w ≤ 4) ∧ (if (1 : Int) < n + e then (n + e : Int) else 1) = (w : Int) := by
    by_cases h : (1 : Int) < n + e
    · exact ⟨(n + e : Int).toNat, by (clear hi hy k2 k1 hd hm hB hs H hc hN; omega), by rw [if_pos h]; (clear hi hy he k2 k1 hd hm hB hs h0 H hc hN; omega)⟩
    · exact ⟨1, by decide, if_neg h⟩
  have hwc : w * c ≤ 4 * c := Nat.mul_le_mul_right c hw.2
  obtain ⟨I, l, bF, m', g1, g2, g3, g4, g5, g6⟩ := draws_comp (pv := pv) (R := fun a m m' => np a ∧ wf a S m m') (N := N) (k := 16) (f := "_law_call") (p := [1]) (q := [1]) (x := "turn") (vars := [("bowl", .bowl), ("names", strsPV names), ("known", knPV kn), ("deep", .int deep)])
    (Call := fun a b b1 => Ret N "_law_tree" [.bowl, strsPV names, knPV kn, .int (deep - 1)] b (pv a, b1)) (c := c) (fun b m hB hm => H names S b m hs hB hm) (fun v => by kernel_rfl)
    (fun v acc b0 a b1 C r hC => by
      have hD : C (acc ++ [pv a]) ⟨[("bowl", .bowl), ("names", strsPV names), ("known", knPV kn), ("deep", .int deep), ("turn", v)], none, b1⟩ := hC
      clear hC
      exact Ok.of [.g, tr r] (ac r (ac hD (trivial))) (by kernel_rfl)) w k1 (by (clear hW hw hi hy he k2 k1 hd hB hs h0 H hc hN; omega))
  have x1 : decide (0 ≤ (if (1 : Int) < n + e then (n + e : Int) else 1) ∧ (if (1 : Int) < n + e then (n + e : Int) else 1) < 100000) = true := by rw [hW]; exact dec_int (by (clear g6 g5 g4 g3 g2 g1 hwc hW hi hy he k2 k1 hd hm hB hs h0 H hc hN; omega))
  have x2 : sizeOk (rangeItems (if (1 : Int) < n + e then (n + e : Int) else 1).toNat).length = true := by rw [hW]; exact sizeOk_of (by rw [len_range]; (clear x1 g6 g5 g4 g3 g2 g1 hwc hW hi hy he k2 k1 hd hm hB hs h0 H hc hN; omega))
  rw [show rangeItems w = rangeItems (if (1 : Int) < n + e then (n + e : Int) else 1).toNat by rw [hW]; rfl] at g6
  refine ⟨l, bF, m', g2, g3, by (clear x2 x1 g6 g5 g3 g2 g1 hW hw hi hy he k2 k1 hd hm hB hs h0 H hc hN; omega), by (clear x2 x1 g6 g5 g4 g3 g2 hwc hW hi hy he k2 k1 hd hm hB hs h0 H hc hN; omega), ChainR.all (fun _ _ _ h => h.1) g5, g5.args, ?_⟩
  exact Ret.ofT (N := N) 19 (by kernel_rfl) (by kernel_rfl) [.g, tr k2, tv hi, .g, .g, .g, .b true, .b true, tcl g6] (fun z => ac k2 (ac hi (ac x1 (ac x2 (ac g6 (z)))))) (by kernel_rfl)
end
end Mine

set_option maxRecDepth 100000
set_option linter.unusedVariables false
set_option linter.unusedSimpArgs false
namespace Mine
open PySem

noncomputable abbrev treeSt (names : List Str) (kn : List (Str × Nat)) (deep w : Int) (b : Bowl) : St := ⟨[("bowl", .bowl), ("names", strsPV names), ("known", knPV kn), ("deep", .int deep), ("way", .int w)], none, b⟩
/-- behind the way's choice -/
noncomputable def restT (N : Nat) (names : List Str) (kn : List (Str × Nat)) (deep w : Int) (b : Bowl) (r : PV × Bowl) : TP := (wRun N 19).exs (getFn "_law_tree").scope (treeSt names kn deep w b) (getFn "_law_tree").body.tail fun fl st => fin ((retOf fl, st.bowl) = r)
section
variable {N : Nat} {names : List Str} {kn : List (Str × Nat)} {d : Int} {b b1 : Bowl} {r : PV × Bowl}
theorem way_two (h : Ret N "_law_pick" [.bowl, .int 7] b (.int d, b1)) (hr : Ok (restT N names kn 2 (3 + d) b1 r)) : Ret (N + 20) "_law_tree" [.bowl, strsPV names, knPV kn, .int 2] b r := by
  obtain ⟨t, ht⟩ := hr
  exact Ret.ofOk (N := N) 19 (by kernel_rfl) (by kernel_rfl) (Ok.of ([.g, tr h, .g] ++ t) (ac h ht) (by kernel_rfl))
theorem way_one (h : Ret N "_law_pick" [.bowl, .int 10] b (.int d, b1)) (hr : Ok (restT N names kn 1 d b1 r)) : Ret (N + 20) "_law_tree" [.bowl, strsPV names, knPV kn, .int 1] b r := by
  obtain ⟨t, ht⟩ := hr
  exact Ret.ofOk (N := N) 19 (by kernel_rfl) (by kernel_rfl) (Ok.of ([.g, .g, tr h] ++ t) (ac h ht) (by kernel_rfl))
theorem way_zero (h : Ret N "_law_pick" [.bowl, .int 3] b (.int d, b1)) (hr : Ok (restT N names kn 0 d b1 r)) : Ret (N + 20) "_law_tree" [.bowl, strsPV names, knPV kn, .int 0] b r := by
  obtain ⟨t, ht⟩ := hr
  exact Ret.ofOk (N := N) 19 (by kernel_rfl) (by kernel_rfl) (Ok.of ([.g, .g, tr h] ++ t) (ac h ht) (by kernel_rfl))
end

theorem add_lists {l k : List Str} (h : l.length + k.length ≤ 1000) : binop .Add (strsPV l) (strsPV k) = some (strsPV (l ++ k)) := by
  show guard (sizeOk ((l.map PV.str).length + (k.map PV.str).length)) (PV.list (l.map PV.str ++ k.map PV.str)) = some (.list ((l ++ k).map PV.str))
  rw [sizeOk_of (by rw [List.length_map, List.length_map]; exact Nat.le_trans h (by decide)), List.map_append]; rfl
theorem len_strs {l : List Str} (h : l.length ≤ 1000) : bltAt .len [strsPV l] = some (.int l.length) := by
  have := len_ok (l := l.map PV.str) (by rw [List.length_map]; exact Nat.le_trans h (by decide))
  rw [List.length_map] at this
  exact this
theorem Nm.more {names S new : List Str} {z z' : Nat} (h : Nm names S z') (hz : z' + new.length ≤ z) (hn : ∀ x ∈ new, Nice x) : Nm (names ++ new) (new ++ S) z :=
  ⟨by rw [List.length_append]; have := h.ne; exact Nat.le_add_right_of_le this, by rw [List.length_append]; have := h.le; omega, fun x hx => (List.mem_append.mp hx).elim (fun hx => List.mem_append.mpr (.inr (h.sub x hx))) fun hx => List.mem_append.mpr (.inl hx), fun x hx => (List.mem_append.mp hx).elim (h.nice x) (hn x)⟩
theorem Nm.up {names S new : List Str} {z z' : Nat} (h : Nm names S z') (hz : z' ≤ z) : Nm names (new ++ S) z := ⟨h.ne, Nat.le_trans h.le hz, fun x hx => List.mem_append.mpr (.inr (h.sub x hx)), h.nice⟩
theorem Nm.le' {names S : List Str} {z z' : Nat} (h : Nm names S z') (hz : z' ≤ z) : Nm names S z := ⟨h.ne, Nat.le_trans h.le hz, h.sub, h.nice⟩
noncomputable def opsL : List Str := ["intAdd", "intEq", "charOrd", "intNegate", "error"]
theorem ops_nice {op : Str} (h : op ∈ opsL) : Nice op := by
  have : opsL.all niceB = true := by kernel_rfl
  exact nice_of (List.all_eq_true.mp this op h)
theorem mem_c : ("c" : Str) ∈ bases := .head _
theorem mem_l : ("l" : Str) ∈ bases := .tail _ (.head _)
theorem mem_k : ("k" : Str) ∈ bases := .tail _ (.tail _ (.head _))
theorem mem_p : ("p" : Str) ∈ bases := .tail _ (.tail _ (.tail _ (.head _)))
def Param (p : Str) (m m' : Nat) : Prop := m < 40 ∧ p = fresh "p" m ∧ m' = m + 1
theorem Param.all : ∀ {l : List Str} {m m' : Nat}, ChainR Param l m m' → ∀ p ∈ l, Nice p ∧ m < num p ∧ num p ≤ m'
  | [], _, _, _ => nofun
  | p :: r, m, m', ⟨_, ⟨h1, h2, rfl⟩, h3⟩ => fun q hq => by
    have le : ∀ {l : List Str} {k k' : Nat}, ChainR Param l k k' → k ≤ k' := fun {l} => by
      induction l with
      | nil => intro k k' h; exact Nat.le_of_eq h
      | cons a r ih => rintro k k' ⟨_, ⟨_, _, rfl⟩, h⟩; exact Nat.le_trans (Nat.le_succ k) (ih h)
    rcases List.mem_cons.mp hq with rfl | hq
    · obtain ⟨_, k1, k2⟩ := fresh_is mem_p h1
      have := le h3
      rw [h2, k2]
      exact ⟨k1, by exact Nat.le_refl _, by omega⟩
    · obtain ⟨k1, k2, k3⟩ := Param.all h3 q hq
      exact ⟨k1, by exact Nat.le_of_lt k2, k3⟩

section
variable {α : Type} {pv : α → PV} {np : α → Prop} {wf : α → List Str → Nat → Nat → Prop} {N z z' c : Nat} {kn : List (Str × Nat)} {deep : Int}
/-- what is drawn behind the way -/
def NDr (pv : α → PV) (np : α → Prop) (wf : α → List Str → Nat → Nat → Prop) (N z c : Nat) (kn : List (Str × Nat)) (deep w : Int) : Prop :=
  ∀ names S b m, Nm names S z → BN b m → m + c ≤ 40 → ∃ (t : Node α) (b' : Bowl) (m' : Nat), NodeOK t ∧ BN b' m' ∧ m ≤ m' ∧ m' ≤ m + c ∧ (NodeNice np t ∧ NodeWF num F0 wf t S m m') ∧ Ok (restT N names kn deep w b (nodePV pv t, b'))
theorem leaf_var (hN : 20 ≤ N) (hz : z' ≤ 900) {w : Int} (hw : w < 2) {names S : List Str} {b : Bowl} {m : Nat} (hs : Nm names S z') (hB : BN b m) : ∃ x b1, BN b1 m ∧ Nice x ∧ x ∈ S ∧ Ok (restT N names kn deep w b (varPV x, b1)) := by
  have h1 := hs.ne
  have h2 := hs.le
  have hl := len_strs (l := names) (by (clear h1 hB hs hw hN; omega))
  obtain ⟨d, b1, hd, k1, k2⟩ := pickN (many := names.length) hB (by (clear hl h2 hB hs hw hz hN; omega)) (by (clear hl h1 hB hs hw hN; omega))
  have k2 := k2.mono hN
  obtain ⟨x, hx, hi⟩ := at_map PV.str hd.1 rfl hd.2 (by (clear k2 k1 hd; omega)) b1
  have c1 : cmp .Lt (.int w) (.int 2) = some true := congrArg some (decide_eq_true hw)
  refine ⟨x, b1, k1, hs.nice x hx, hs.sub x hx, ?_⟩
  have hE : (varPV x, b1) = (varPV x, b1) := rfl
  show Ok ((wRun N 19).exs (getFn "_law_tree").scope (treeSt names kn deep w b) (getFn "_law_tree").body.tail fun fl st => fin ((retOf fl, st.bowl) = (varPV x, b1)))
  exact Ok.of [tb c1, tv hl, tr k2, tv hi] (ac c1 (ac hl (ac k2 (ac hi (ac hE (trivial)))))) (by kernel_rfl)
theorem leaf_lit {names : List Str} {b : Bowl} : Ok (restT N names kn deep 2 b (leafPV .lit, b)) := by
  have hE : (leafPV .lit, b) = (leafPV .lit, b) := rfl
  show Ok ((wRun N 19).exs (getFn "_law_tree").scope (treeSt names kn deep 2 b) (getFn "_law_tree").body.tail fun fl st => fin ((retOf fl, st.bowl) = (leafPV .lit, b)))
  exact Ok.of [] (ac hE (trivial)) (by kernel_rfl)
theorem nd_var (hN : 20 ≤ N) (hz : z' ≤ 900) {w : Int} (hw : w < 2) : NDr pv np wf N z' (5 * c + 3) kn deep w := fun names S b m hs hB hm => by
  obtain ⟨x, b1, h1, h2, h3, h4⟩ := leaf_var (kn := kn) (deep := deep) hN hz hw hs hB
  exact ⟨.leaf (.var x), b1, m, ⟨nofun, nofun, nofun⟩, h1, Nat.le_refl _, Nat.le_add_right _ _, ⟨h2, h3, Nat.le_refl _⟩, h4⟩
theorem nd_lit : NDr pv np wf N z' (5 * c + 3) kn deep 2 := fun names S b m hs hB hm =>
  ⟨.leaf .lit, b, m, ⟨nofun, nofun, nofun⟩, hB, Nat.le_refl _, Nat.le_add_right _ _, ⟨trivial, Nat.le_refl _⟩, leaf_lit⟩
end
end Mine

set_option maxRecDepth 100000
set_option linter.unusedVariables false
set_option linter.unusedSimpArgs false
namespace Mine
open PySem

section
variable {α : Type} {pv : α → PV} {np : α → Prop} {wf : α → List Str → Nat → Nat → Prop} {N z z' c : Nat} {kn : List (Str × Nat)} {deep : Int}
theorem nd_prim (hN : 20 ≤ N) (hc : c ≤ 10) (hz : z' ≤ z) (H : Dr pv np wf N z c kn (deep - 1)) : NDr pv np wf N z' (5 * c + 3) kn deep 3 := by
  intro names S b m hs hB hm
  obtain ⟨d, b1, hd, k1, k2⟩ := pickN (many := 5) hB (by decide) (by decide)
  have k2 : Ret N "_law_pick" [.bowl, .int 5] b (.int d, b1) := k2.mono hN
  obtain ⟨op, ho, hi⟩ := at_map (l := opsL) PV.str (n := 5) hd.1 rfl hd.2 (by decide) b1
  have hi : item (.list [.str "intAdd", .str "intEq", .str "charOrd", .str "intNegate", .str "error"]) (.int d) b1 = some (.str op) := hi
  have comp : ∀ many, m + many * c ≤ 40 → ∃ (I : List PV → List PV → St → Prop) (l : List α) (bF : Bowl) (m' : Nat), l.length = many ∧ BN bF m' ∧ m ≤ m' ∧ m' ≤ m + many * c ∧ ChainR (fun a m m' => np a ∧ wf a S m m') l m m' ∧ LComp N 15 "_law_tree" [3, 2] [1] I (l.map pv) bF (rangeItems many) [] ⟨[("bowl", .bowl), ("names", strsPV names), ("known", knPV kn), ("deep", .int deep)], none, b1⟩ := fun many hmany =>
    draws_comp (pv := pv) (R := fun a m m' => np a ∧ wf a S m m') (x := "turn")
    (Call := fun a b b1 => Ret N "_law_tree" [.bowl, strsPV names, knPV kn, .int (deep - 1)] b (pv a, b1)) (c := c) (fun b m hB hm => H names S b m (hs.le' hz) hB hm) (fun v => by kernel_rfl)
    (fun v acc b0 a b1 C r hC => by
      have hD : C (acc ++ [pv a]) ⟨[("bowl", .bowl), ("names", strsPV names), ("known", knPV kn), ("deep", .int deep), ("turn", v)], none, b1⟩ := hC
      clear hC
      exact Ok.of [.g, tr r] (ac r (ac hD (trivial))) (by kernel_rfl)) many k1 hmany
  cases hq : memS op ["intAdd", "intEq"] with
  | true =>
    have hcm : cmp .In (.str op) (.list [.str "intAdd", .str "intEq"]) = some true := congrArg some hq
    obtain ⟨I, l, bF, m', g1, g2, g3, g4, g5, g6⟩ := comp 2 (by (clear hcm hq comp hi ho k2 k1 hd hB hs H hz hc hN; omega))
    refine ⟨.prim op l, bF, m', ⟨fun _ _ e => (by cases e; (clear g6 g5 g4 g3 g2 hcm hq comp hi ho k2 k1 hd hm hB hs H hz hc hN; omega)), nofun, nofun⟩, g2, g3, by (clear g6 g5 g3 g2 g1 hcm hq comp hi ho k2 k1 hd hm hB hs H hz hc hN; omega), ⟨⟨ops_nice ho, ChainR.all (fun _ _ _ h => h.1) g5⟩, g5.args⟩, ?_⟩
    have hE : (primPV op (l.map pv), bF) = (primPV op (l.map pv), bF) := rfl
    show Ok ((wRun N 19).exs (getFn "_law_tree").scope (treeSt names kn deep 3 b) (getFn "_law_tree").body.tail fun fl st => fin ((retOf fl, st.bowl) = (primPV op (l.map pv), bF)))
    exact Ok.of [.g, .g, .g, tr k2, tv hi, tb hcm, .g, .g, tcl g6] (ac k2 (ac hi (ac hcm (ac g6 (ac hE (trivial)))))) (by kernel_rfl)
  | false =>
    have hcm : cmp .In (.str op) (.list [.str "intAdd", .str "intEq"]) = some false := congrArg some hq
    obtain ⟨I, l, bF, m', g1, g2, g3, g4, g5, g6⟩ := comp 1 (by (clear hcm hq comp hi ho k2 k1 hd hB hs H hz hc hN; omega))
    refine ⟨.prim op l, bF, m', ⟨fun _ _ e => (by cases e; (clear g6 g5 g4 g3 g2 hcm hq comp hi ho k2 k1 hd hm hB hs H hz hc hN; omega)), nofun, nofun⟩, g2, g3, by (clear g6 g5 g3 g2 g1 hcm hq comp hi ho k2 k1 hd hm hB hs H hz hc hN; omega), ⟨⟨ops_nice ho, ChainR.all (fun _ _ _ h => h.1) g5⟩, g5.args⟩, ?_⟩
    have hE : (primPV op (l.map pv), bF) = (primPV op (l.map pv), bF) := rfl
    show Ok ((wRun N 19).exs (getFn "_law_tree").scope (treeSt names kn deep 3 b) (getFn "_law_tree").body.tail fun fl st => fin ((retOf fl, st.bowl) = (primPV op (l.map pv), bF)))
    exact Ok.of [.g, .g, .g, tr k2, tv hi, tb hcm, .g, .g, tcl g6] (ac k2 (ac hi (ac hcm (ac g6 (ac hE (trivial)))))) (by kernel_rfl)
theorem nd_case (hN : 20 ≤ N) (hc : c ≤ 10) (hz : z' + 2 ≤ z) (hz2 : z ≤ 900) (H : Dr pv np wf N z c kn (deep - 1)) : NDr pv np wf N z' (5 * c + 3) kn deep 4 := by
  intro names S b m hs hB hm
  obtain ⟨v, b1, m1, v1, v2, v3, ⟨v4, v5⟩, v6⟩ := H names S b m (hs.le' (by (clear hm hB hs H hz2 hc hN; omega))) hB (by (clear hB hs H hz2 hz hc hN; omega))
  obtain ⟨f1, f2, f3⟩ := fresh_is mem_c (n := m1) (by (clear v5 v4 v6 v2 v1 hB hs H hz2 hz hc hN; omega))
  obtain ⟨b2, k1, k2⟩ := freshN v1 (by (clear f3; omega)) mem_c
  have k2 := k2.mono hN
  have hnm : Nm (names ++ [fresh "c" m1]) ([fresh "c" m1] ++ S) z := hs.more (new := [fresh "c" m1]) (show z' + 1 ≤ z by (clear k2 k1 f3 f2 f1 v5 v4 v6 v3 v2 v1 hm hB hs H hz2 hc hN; omega)) (by intro x hx; rw [List.mem_singleton.mp hx]; exact f2)
  have hl := hs.le
  have hadd : binop .Add (strsPV names) (.list [.str (fresh "c" m1)]) = some (strsPV (names ++ [fresh "c" m1])) := add_lists (k := [fresh "c" m1]) (by show names.length + 1 ≤ 1000; (clear hnm k2 k1 f3 f2 f1 v5 v4 v6 v3 v2 v1 hm hB hs H hc hN; omega))
  obtain ⟨a, b3, m2, a1, a2, a3, ⟨a4, a5⟩, a6⟩ := H _ _ b2 (m1 + 1) hnm k1 (by (clear hadd hl hnm k2 k1 f3 f2 f1 v5 v4 v6 v2 v1 hB hs H hz2 hz hc hN; omega))
  obtain ⟨d, b4, hd, p1, p2⟩ := pickN (many := 4) a1 (by decide) (by decide)
  have p2 := p2.mono hN
  have p2 : Ret N "_law_pick" [.bowl, .int 4] b3 (.int d, b4) := p2
  have c1 := eq_int d 0
  by_cases hd0 : d = 0
  · rw [decide_eq_true hd0] at c1
    refine ⟨.case v (fresh "c" m1) a none, b4, m2, ⟨nofun, nofun, nofun⟩, p1, by (clear hd0 c1 p2 p1 hd a5 a4 a6 a3 a1 hadd hl hnm k2 k1 f3 f2 f1 v5 v4 v6 v3 v1 hm hB hs H hz2 hz hc hN; omega), by (clear hd0 c1 p2 p1 hd a5 a4 a6 a2 a1 hadd hl hnm k2 k1 f3 f2 f1 v5 v4 v6 v2 v1 hm hB hs H hz2 hz hc hN; omega), ⟨⟨v4, f2, a4, nofun⟩, m1, m2, v5, by (clear hd0 c1 p2 p1 hd a5 a4 a6 a3 a2 a1 hadd hl hnm k2 k1 f2 f1 v5 v4 v6 v3 v2 v1 hm hB hs H hz2 hz hc hN; omega), ?_, Nat.le_refl _⟩, ?_⟩
    · rw [f3]; exact a5
    have hE : (casePV (pv v) (fresh "c" m1) (pv a) .none, b4) = (casePV (pv v) (fresh "c" m1) (pv a) .none, b4) := rfl
    show Ok ((wRun N 19).exs (getFn "_law_tree").scope (treeSt names kn deep 4 b) (getFn "_law_tree").body.tail fun fl st => fin ((retOf fl, st.bowl) = (casePV (pv v) (fresh "c" m1) (pv a) .none, b4)))
    exact Ok.of [.g, .g, .g, .g, .g, tr v6, tr k2, tv hadd, .g, tr a6, tr p2, tb c1] (ac v6 (ac k2 (ac hadd (ac a6 (ac p2 (ac c1 (ac hE (trivial)))))))) (by kernel_rfl)
  · rw [decide_eq_false hd0] at c1
    obtain ⟨o, b5, m3, o1, o2, o3, ⟨o4, o5⟩, o6⟩ := H _ _ b4 m2 hnm p1 (by (clear hd0 c1 p2 p1 hd a5 a4 a6 a2 a1 hadd hl hnm k2 k1 f3 f2 f1 v5 v4 v6 v2 v1 hB hs H hz2 hz hc hN; omega))
    refine ⟨.case v (fresh "c" m1) a (some o), b5, m3, ⟨nofun, nofun, nofun⟩, o1, by (clear o5 o4 o6 o3 o1 hd0 c1 p2 p1 hd a5 a4 a6 a3 a1 hadd hl hnm k2 k1 f3 f2 f1 v5 v4 v6 v3 v1 hm hB hs H hz2 hz hc hN; omega), by (clear o5 o4 o6 o2 o1 hd0 c1 p2 p1 hd a5 a4 a6 a2 a1 hadd hl hnm k2 k1 f3 f2 f1 v5 v4 v6 v2 v1 hm hB hs H hz2 hz hc hN; omega), ⟨⟨v4, f2, a4, fun x e => by cases e; exact o4⟩, m1, m2, v5, by (clear o5 o4 o6 o3 o2; omega), ?_, o5⟩, ?_⟩
    · rw [f3]; exact a5
    have hE : (casePV (pv v) (fresh "c" m1) (pv a) (pv o), b5) = (casePV (pv v) (fresh "c" m1) (pv a) (pv o), b5) := rfl
    show Ok ((wRun N 19).exs (getFn "_law_tree").scope (treeSt names kn deep 4 b) (getFn "_law_tree").body.tail fun fl st => fin ((retOf fl, st.bowl) = (casePV (pv v) (fresh "c" m1) (pv a) (pv o), b5)))
    exact Ok.of [.g, .g, .g, .g, .g, tr v6, tr k2, tv hadd, .g, tr a6, tr p2, tb c1, tv hadd, .g, tr o6] (ac v6 (ac k2 (ac hadd (ac a6 (ac p2 (ac c1 (ac hadd (ac o6 (ac hE (trivial)))))))))) (by kernel_rfl)
theorem nd_lett (hN : 20 ≤ N) (hc : c ≤ 10) (hz : z' + 2 ≤ z) (hz2 : z ≤ 900) (H : Dr pv np wf N z c kn (deep - 1)) : NDr pv np wf N z' (5 * c + 3) kn deep 5 := by
  intro names S b m hs hB hm
  obtain ⟨f1, f2, f3⟩ := fresh_is mem_l (n := m) (by (clear hB hs H hz2 hz hc hN; omega))
  obtain ⟨b1, k1, k2⟩ := freshN hB (by (clear f3; omega)) mem_l
  have k2 := k2.mono hN
  obtain ⟨v, b2, m1, v1, v2, v3, ⟨v4, v5⟩, v6⟩ := H names S b1 (m + 1) (hs.le' (by (clear k2 k1 f3 f2 f1 hm hB hs H hz2 hc hN; omega))) k1 (by (clear k2 k1 f3 f2 f1 hB hs H hz2 hz hc hN; omega))
  have hnm : Nm (names ++ [fresh "l" m]) ([fresh "l" m] ++ S) z := hs.more (new := [fresh "l" m]) (show z' + 1 ≤ z by (clear v5 v4 v6 v3 v2 v1 k2 k1 f3 f2 f1 hm hB hs H hz2 hc hN; omega)) (by intro x hx; rw [List.mem_singleton.mp hx]; exact f2)
  have hl := hs.le
  have hadd : binop .Add (strsPV names) (.list [.str (fresh "l" m)]) = some (strsPV (names ++ [fresh "l" m])) := add_lists (k := [fresh "l" m]) (by show names.length + 1 ≤ 1000; (clear hnm v5 v4 v6 v3 v2 v1 k2 k1 f3 f2 f1 hm hB hs H hc hN; omega))
  obtain ⟨a, b3, m2, a1, a2, a3, ⟨a4, a5⟩, a6⟩ := H _ _ b2 m1 hnm v1 (by (clear hadd hl hnm v5 v4 v6 v2 v1 k2 k1 f3 f2 f1 hB hs H hz2 hz hc hN; omega))
  refine ⟨.lett (fresh "l" m) v a, b3, m2, ⟨nofun, nofun, nofun⟩, a1, by (clear a5 a4 a6 a3 a1 hadd hl hnm v5 v4 v6 v3 v1 k2 k1 f3 f2 f1 hm hB hs H hz2 hz hc hN; omega), by (clear a5 a4 a6 a2 a1 hadd hl hnm v5 v4 v6 v2 v1 k2 k1 f3 f2 f1 hm hB hs H hz2 hz hc hN; omega), ⟨⟨f2, v4, a4⟩, m1, by (clear a5 a4 a6 a3 a2 a1 hadd hl hnm v5 v4 v6 v3 v2 v1 k2 k1 f2 f1 hm hB hs H hz2 hz hc hN; omega), ?_, a5⟩, ?_⟩
  · rw [f3]; exact v5
  have hE : (letPV (fresh "l" m) (pv v) (pv a), b3) = (letPV (fresh "l" m) (pv v) (pv a), b3) := rfl
  show Ok ((wRun N 19).exs (getFn "_law_tree").scope (treeSt names kn deep 5 b) (getFn "_law_tree").body.tail fun fl st => fin ((retOf fl, st.bowl) = (letPV (fresh "l" m) (pv v) (pv a), b3)))
  exact Ok.of [.g, .g, .g, .g, .g, tr k2, .g, tr v6, tv hadd, .g, tr a6] (ac k2 (ac v6 (ac hadd (ac a6 (ac hE (trivial)))))) (by kernel_rfl)
theorem nd_letf (hN : 20 ≤ N) (hc : c ≤ 7) (hz : z' + 2 ≤ z) (hz2 : z ≤ 900) (H : Dr pv np wf N z c kn (deep - 1)) : NDr pv np wf (N + 20) z' (5 * c + 3) kn deep 6 := by
  intro names S b m hs hB hm
  obtain ⟨f1, f2, f3⟩ := fresh_is mem_k (n := m) (by (clear hB hs H hz2 hz hc hN; omega))
  obtain ⟨b1, k1, k2⟩ := freshN hB (by (clear f3; omega)) mem_k
  have k2 := k2.mono (show 20 ≤ N + 20 by with_reducible exact Nat.le_add_left _ _)
  obtain ⟨d, b2, hd, p1, p2⟩ := pickN (many := 2) k1 (by decide) (by decide)
  have p2 := p2.mono (show 20 ≤ N + 20 by with_reducible exact Nat.le_add_left _ _)
  have p2 : Ret (N + 20) "_law_pick" [.bowl, .int 2] b1 (.int d, b2) := p2
  obtain ⟨I, ps, b3, m1, g1, g2, g3, g4, g5, g6⟩ := draws_comp (N := N + 20) (k := 16) (f := "_law_tree") (p := [6, 0]) (q := [1]) (x := "turn") (vars := [("bowl", .bowl)]) (pv := PV.str) (R := Param) (Call := fun p b b1 => Ret (N + 20) "_law_fresh" [.bowl, .str "p"] b (.str p, b1)) (c := 1) (fun b m hB hm => by
      obtain ⟨b1, j1, j2⟩ := freshN hB (by (clear p2 p1 hd k2 k1 f3 f2 f1 hB hs H hz2 hz hc hN; omega)) mem_p
      exact ⟨fresh "p" m, b1, m + 1, j1, by with_reducible exact Nat.le_add_right _ _, by with_reducible exact Nat.le_refl _, ⟨by omega, rfl, rfl⟩, j2.mono (by with_reducible exact Nat.le_add_left _ _)⟩) (fun v => by kernel_rfl)
    (fun v acc b0 a b1 C r hC => by
      have hD : C (acc ++ [.str a]) ⟨[("bowl", .bowl), ("turn", v)], none, b1⟩ := hC
      clear hC
      exact Ok.of [tr r] (ac r (ac hD (trivial))) (by kernel_rfl)) (1 + d).toNat p1 (by (clear p2 p1 k2 k1 f3 f2 f1 hB hs H hz2 hz hc hN; omega))
  have x1 : decide (0 ≤ 1 + d ∧ 1 + d < 100000) = true := dec_int (by (clear g6 g5 g4 g3 g2 g1 p2 p1 k2 k1 f3 f2 f1 hm hB hs H hz2 hz hc hN; omega))
  have x2 : sizeOk (rangeItems (1 + d).toNat).length = true := sizeOk_of (by rw [len_range]; (clear x1 g6 g5 g4 g3 g2 g1 p2 p1 k2 k1 f3 f2 f1 hm hB hs H hz2 hz hc hN; omega))
  have hps := Param.all g5
  have hnm : Nm (names ++ ps) (ps ++ S) z := hs.more (by (clear hps x2 x1 g6 g5 g4 g3 g2 p2 p1 k2 k1 f3 f2 f1 hm hB hs H hz2 hc hN; omega)) (fun x hx => (hps x hx).1)
  have hl := hs.le
  have hadd : binop .Add (strsPV names) (strsPV ps) = some (strsPV (names ++ ps)) := add_lists (by (clear hnm hps x2 x1 g6 g5 g4 g3 g2 p2 p1 k2 k1 f3 f2 f1 hm hB hs H hc hN; omega))
  obtain ⟨a, b4, m2, a1, a2, a3, ⟨a4, a5⟩, a6⟩ := H _ _ b3 m1 hnm g2 (by (clear hadd hl hnm hps x2 x1 g6 g5 g3 g2 g1 p2 p1 k2 k1 f3 f2 f1 hB hs H hz2 hz hc hN; omega))
  have a6 := a6.mono (show N ≤ N + 20 by with_reducible exact Nat.le_add_right _ _)
  have hlen := len_strs (l := ps) (by (clear a5 a4 a6 a3 a2 a1 hadd hl hnm hps x2 x1 g6 g5 g4 g3 g2 p2 p1 k2 k1 f3 f2 f1 hm hB hs H hz2 hz hc hN; omega))
  obtain ⟨args, b5, m3, r1, r2, r3, r4, r5, r6, r7⟩ := call_draw hN (by (clear hlen a5 a4 a6 a3 a2 a1 hadd hl hnm hps x2 x1 g6 g5 g4 g3 g2 g1 p2 p1 hd k2 k1 f3 f2 f1 hm hB hs H hz2 hz hN; omega)) H (fn := fresh "k" m) (n := ps.length) (by (clear hlen a5 a4 a6 a3 a2 a1 hadd hl hnm hps x2 x1 g6 g5 g4 g3 g2 p2 p1 k2 k1 f3 f2 f1 hm hB hs H hz2 hz hc hN; omega)) (hs.up (new := [fresh "k" m]) (show z' ≤ z by (clear hlen a5 a4 a6 a3 a2 a1 hadd hl hnm hps x2 x1 g6 g5 g4 g3 g2 g1 p2 p1 hd k2 k1 f3 f2 f1 hm hB hs H hz2 hc hN; omega))) a1 (by (clear hlen a5 a4 a6 a2 a1 hadd hl hnm hps x2 x1 g6 g5 g3 g2 g1 p2 p1 k2 k1 f3 f2 f1 hB hs H hz2 hz hc hN; omega))
  refine ⟨.letf (fresh "k" m) ps a args, b5, m3, ⟨nofun, nofun, fun _ _ _ _ e => (by cases e; exact ⟨r4, by (clear r7 r6 r5 r4 r3 r2 r1 hlen a5 a4 a6 a3 a2 a1 hadd hl hnm hps x2 x1 g6 g5 g4 g3 g2 p2 p1 k2 k1 f3 f2 f1 hm hB hs H hz2 hz hc hN; omega)⟩)⟩, r1, by (clear r7 r6 r5 r4 r3 r1 hlen a5 a4 a6 a3 a1 hadd hl hnm hps x2 x1 g6 g5 g4 g2 g1 p2 p1 hd k2 k1 f3 f2 f1 hm hB hs H hz2 hz hc hN; omega), by (clear r7 r6 r5 r4 r2 r1 hlen a5 a4 a6 a2 a1 hadd hl hnm hps x2 x1 g6 g5 g3 g2 g1 p2 p1 k2 k1 f3 f2 f1 hm hB hs H hz2 hz hc hN; omega), ⟨⟨f2, fun p hp => (hps p hp).1, a4, r5⟩, m1, m2, by (clear r7 r6 r5 r4 r3 r2 r1 hlen a5 a4 a6 a3 a2 a1 hadd hl hnm hps x2 x1 g6 g5 g4 g3 g2 g1 p2 p1 hd k2 k1 f2 f1 hm hB hs H hz2 hz hc hN; omega), fun p hp => ?_, by (clear r7 r6 r5 r4 r3 r2 r1 hlen a5 a4 a6 a3 a2 a1 hadd hl hnm hps x2 x1 g6 g5 g4 g2 g1 p2 p1 hd k2 k1 f2 f1 hm hB hs H hz2 hz hc hN; omega), a5, r6⟩, ?_⟩
  · rw [f3]; exact ⟨(hps p hp).2.1, (hps p hp).2.2⟩
  have hE : (letPV (fresh "k" m) (lamPV ps (pv a)) (appPV (fresh "k" m) (args.map pv)), b5) = (letPV (fresh "k" m) (lamPV ps (pv a)) (appPV (fresh "k" m) (args.map pv)), b5) := rfl
  show Ok ((wRun (N + 20) 19).exs (getFn "_law_tree").scope (treeSt names kn deep 6 b) (getFn "_law_tree").body.tail fun fl st => fin ((retOf fl, st.bowl) = (letPV (fresh "k" m) (lamPV ps (pv a)) (appPV (fresh "k" m) (args.map pv)), b5)))
  exact Ok.of [.g, .g, .g, .g, .g, .g, tr k2, tr p2, .g, .b true, .b true, tcl g6, tv hadd, .g, tr a6, tv hlen, tr r7] (ac k2 (ac p2 (ac x1 (ac x2 (ac g6 (ac hadd (ac a6 (ac hlen (ac r7 (ac hE (trivial))))))))))) (by kernel_rfl)
theorem nd_app (hN : 20 ≤ N) (hc : c ≤ 10) (hz : z' ≤ z) (hk : Kn kn) {w : Int} (hw : 7 ≤ w) (H : Dr pv np wf N z c kn (deep - 1)) : NDr pv np wf (N + 20) z' (5 * c + 3) kn deep w := by
  intro names S b m hs hB hm
  have hlen : bltAt .len [knPV kn] = some (.int 3) := by
    have := len_ok (l := kn.map fun p => PV.tuple [.str p.1, .int p.2]) (by rw [List.length_map, hk.len]; decide)
    rw [List.length_map, hk.len] at this
    exact this
  obtain ⟨d, b1, hd, k1, k2⟩ := pickN (many := 3) hB (by decide) (by decide)
  have k2 : Ret (N + 20) "_law_pick" [.bowl, .int 3] b (.int d, b1) := k2.mono (by with_reducible exact Nat.le_add_left _ _)
  obtain ⟨p, hp, hi⟩ := at_map (l := kn) (fun p : Str × Nat => PV.tuple [.str p.1, .int p.2]) (n := 3) hd.1 hk.len hd.2 (by decide) b1
  obtain ⟨q1, q2, q3⟩ := hk.f p hp
  obtain ⟨args, b5, m3, r1, r2, r3, r4, r5, r6, r7⟩ := call_draw hN hc H (fn := p.1) (n := p.2) q3 (hs.le' hz) k1 (by (clear q3 q2 q1 hi hp k2 k1 hd hlen hB hs H hw hk hz hc hN; omega))
  have c1 : cmp .Lt (.int w) (.int 2) = some false := congrArg some (decide_eq_false (show ¬ w < 2 by (clear r7 r6 r5 r4 r3 r2 r1 q3 q2 q1 hi hp k2 k1 hd hlen hm hB hs H hk hz hc hN; omega)))
  have c2 : cmp .Eq (.int w) (.int 2) = some false := congrArg some (decide_eq_false (show ¬ w = 2 by (clear c1 r7 r6 r5 r4 r3 r2 r1 q3 q2 q1 hi hp k2 k1 hd hlen hm hB hs H hk hz hc hN; omega)))
  have c3 : cmp .Eq (.int w) (.int 3) = some false := congrArg some (decide_eq_false (show ¬ w = 3 by (clear c2 c1 r7 r6 r5 r4 r3 r2 r1 q3 q2 q1 hi hp k2 k1 hd hlen hm hB hs H hk hz hc hN; omega)))
  have c4 : cmp .Eq (.int w) (.int 4) = some false := congrArg some (decide_eq_false (show ¬ w = 4 by (clear c3 c2 c1 r7 r6 r5 r4 r3 r2 r1 q3 q2 q1 hi hp k2 k1 hd hlen hm hB hs H hk hz hc hN; omega)))
  have c5 : cmp .Eq (.int w) (.int 5) = some false := congrArg some (decide_eq_false (show ¬ w = 5 by (clear c4 c3 c2 c1 r7 r6 r5 r4 r3 r2 r1 q3 q2 q1 hi hp k2 k1 hd hlen hm hB hs H hk hz hc hN; omega)))
  have c6 : cmp .Eq (.int w) (.int 6) = some false := congrArg some (decide_eq_false (show ¬ w = 6 by (clear c5 c4 c3 c2 c1 r7 r6 r5 r4 r3 r2 r1 q3 q2 q1 hi hp k2 k1 hd hlen hm hB hs H hk hz hc hN; omega)))
  refine ⟨.app p.1 args, b5, m3, ⟨nofun, fun _ _ e => (by cases e; exact r4), nofun⟩, r1, by omega, by (clear c6 c5 c4 c3 c2 c1 r7 r6 r5 r4 r2 r1 q3 q2 q1 hi hp k2 k1 hd hlen hm hB hs H hw hk hz hc hN; omega), ⟨⟨q2, r5⟩, q1, r6⟩, ?_⟩
  have hE : (appPV p.1 (args.map pv), b5) = (appPV p.1 (args.map pv), b5) := rfl
  show Ok ((wRun (N + 20) 19).exs (getFn "_law_tree").scope (treeSt names kn deep w b) (getFn "_law_tree").body.tail fun fl st => fin ((retOf fl, st.bowl) = (appPV p.1 (args.map pv), b5)))
  exact Ok.of [tb c1, tb c2, tb c3, tb c4, tb c5, tb c6, tv hlen, tr k2, tv hi, tr r7] (ac c1 (ac c2 (ac c3 (ac c4 (ac c5 (ac c6 (ac hlen (ac k2 (ac hi (ac r7 (ac hE (trivial)))))))))))) (by kernel_rfl)
end
end Mine

set_option maxRecDepth 100000
set_option linter.unusedVariables false
set_option linter.unusedSimpArgs false
namespace Mine
open PySem

section
variable {α : Type} {pv : α → PV} {np : α → Prop} {wf : α → List Str → Nat → Nat → Prop} {N z z' c : Nat} {kn : List (Str × Nat)} {deep : Int}
theorem Dr.mono {M : Nat} (h : Dr pv np wf N z c kn deep) (hM : N ≤ M) : Dr pv np wf M z c kn deep := fun names S b m hs hB hm => by
  obtain ⟨a, b', m', h1, h2, h3, h4, h5⟩ := h names S b m hs hB hm
  exact ⟨a, b', m', h1, h2, h3, h4, h5.mono hM⟩
theorem node_draw (hN : 20 ≤ N) (hc : c ≤ 7) (hz : z' + 2 ≤ z) (hz2 : z ≤ 900) (hk : Kn kn) (H : Dr pv np wf N z c kn (deep - 1)) {w : Int} (h0 : 0 ≤ w) : NDr pv np wf (N + 20) z' (5 * c + 3) kn deep w := by
  have H2 : Dr pv np wf (N + 20) z c kn (deep - 1) := H.mono (Nat.le_add_right _ _)
  have hN2 : 20 ≤ N + 20 := Nat.le_add_left _ _
  have hc2 : c ≤ 10 := Nat.le_trans hc (by decide)
  have hz3 : z' ≤ z := Nat.le_trans (Nat.le_add_right _ _) hz
  rcases (show w < 2 ∨ w = 2 ∨ w = 3 ∨ w = 4 ∨ w = 5 ∨ w = 6 ∨ 7 ≤ w by (clear hz3 hc2 hN2 H2 h0 H hk hz2 hz hc hN; omega)) with h | rfl | rfl | rfl | rfl | rfl | h
  · exact nd_var hN2 (Nat.le_trans hz3 hz2) h
  · exact nd_lit
  · exact nd_prim hN2 hc2 hz3 H2
  · exact nd_case hN2 hc2 hz hz2 H2
  · exact nd_lett hN2 hc2 hz hz2 H2
  · exact nd_letf hN hc hz hz2 H
  · exact nd_app hN hc2 hz3 hk h H
end
theorem draw0 {z : Nat} (hz : z ≤ 900) (kn : List (Str × Nat)) : Dr (pvT 0) (NiceT 0) (WFT num F0 0) 40 z 0 kn 0 := fun names S b m hs hB hm => by
  obtain ⟨d, b1, hd, k1, k2⟩ := pickN (many := 3) hB (by decide) (by decide)
  by_cases hd2 : d < 2
  · obtain ⟨x, b', h1, h2, h3, h4⟩ := leaf_var (N := 20) (kn := kn) (deep := 0) (Nat.le_refl _) hz hd2 hs k1
    exact ⟨.var x, b', m, h1, Nat.le_refl _, Nat.le_refl _, ⟨h2, h3, Nat.le_refl _⟩, way_zero k2 h4⟩
  · obtain rfl : d = 2 := by (clear k2 k1 hm hB hs hz; omega)
    exact ⟨.lit, b1, m, k1, Nat.le_refl _, Nat.le_refl _, ⟨trivial, Nat.le_refl _⟩, way_zero k2 leaf_lit⟩
theorem draw_step {n N z z' c : Nat} {kn : List (Str × Nat)} {deep : Int} (hN : 20 ≤ N) (hc : c ≤ 7) (hz : z' + 2 ≤ z) (hz2 : z ≤ 900) (hk : Kn kn) (H : Dr (pvT n) (NiceT n) (WFT num F0 n) N z c kn (deep - 1))
    (hway : ∀ names b m, BN b m → ∃ w b1, 0 ≤ w ∧ BN b1 m ∧ ∀ r, Ok (restT (N + 20) names kn deep w b1 r) → Ret (N + 40) "_law_tree" [.bowl, strsPV names, knPV kn, .int deep] b r) : Dr (pvT (n + 1)) (NiceT (n + 1)) (WFT num F0 (n + 1)) (N + 40) z' (5 * c + 3) kn deep := fun names S b m hs hB hm => by
  obtain ⟨w, b1, h1, h2, h3⟩ := hway names b m hB
  obtain ⟨t, b', m', k0, k1, k2, k3, k4, k5⟩ := node_draw hN hc hz hz2 hk H h1 names S b1 m hs h2 hm
  exact ⟨⟨t, k0⟩, b', m', k1, k2, k3, k4, h3 _ k5⟩
theorem draw2 {kn : List (Str × Nat)} (hk : Kn kn) : Dr (pvT 2) (NiceT 2) (WFT num F0 2) 120 10 18 kn 2 := by
  have D1 : Dr (pvT 1) (NiceT 1) (WFT num F0 1) 80 20 3 kn 1 := draw_step (n := 0) (N := 40) (z := 30) (c := 0) (by decide) (by decide) (by decide) (by decide) hk (draw0 (by decide) kn) fun names b m hB => by
    obtain ⟨d, b1, hd, k1, k2⟩ := pickN (many := 10) hB (by decide) (by decide)
    exact ⟨d, b1, hd.1, k1, fun r h => way_one (k2.mono (by decide)) h⟩
  exact draw_step (n := 1) (N := 80) (z := 20) (c := 3) (by decide) (by decide) (by decide) (by decide) hk D1 fun names b m hB => by
    obtain ⟨d, b1, hd, k1, k2⟩ := pickN (many := 7) hB (by decide) (by decide)
    exact ⟨3 + d, b1, by omega, k1, fun r h => way_two (k2.mono (by decide)) h⟩
end Mine

set_option maxRecDepth 100000
set_option linter.unusedVariables false
set_option linter.unusedSimpArgs false
namespace Mine
open PySem

/-! the law itself -/
noncomputable def sgOf (r : Row) : Sg := ⟨r.flags, unionS [] r.names, r.nv⟩
noncomputable def tab3 (f g h : Row) : Tab' := [("f", f), ("g", g), ("h", h)]
noncomputable def env3 (f g h : Row) : Env' := [("f", sgOf f), ("g", sgOf g), ("h", sgOf h)]
noncomputable def S6 : List Str := ["x", "y", "z", "f", "g", "h"]
theorem S6_ok : ∀ x ∈ S6, Nice x ∧ num x ≤ 0 := fun x hx => by
  have : S6.all (fun x => niceB x && Nat.ble (num x) 0) = true := by kernel_rfl
  obtain ⟨h1, h2⟩ := and_iff.mp (List.all_eq_true.mp this x hx)
  exact ⟨nice_of h1, Nat.le_of_ble_eq_true h2⟩
theorem xyz_S6 {x : Str} (h : x ∈ xyz) : x ∈ S6 := List.mem_append_left (as := xyz) ["f", "g", "h"] h
theorem F0_S6 {x : Str} (h : x ∈ F0) : x ∈ S6 := List.mem_append_right (bs := F0) xyz h
theorem mem_u {x : Str} {l : List Str} : x ∈ unionS [] l ↔ x ∈ l := mem_unionS.trans ⟨fun h => h.elim (fun h => nomatch h) id, .inr⟩
theorem SR.of {r : Row} (h : Drawn r) : SR num S6 0 (sgOf r) r :=
  ⟨rfl, rfl, fun _ => ⟨rfl, fun x _ => mem_u⟩, fun x hx => xyz_S6 (h.nm.subset (mem_u.mp hx)), fun x hx => (S6_ok x (xyz_S6 (h.nm.subset hx))).2⟩
theorem lk3 {α : Type} (x : Str) (f g h : α) : (lk x [("f", f), ("g", g), ("h", h)] = some f ∧ x = "f") ∨ (lk x [("f", f), ("g", g), ("h", h)] = some g ∧ x = "g") ∨ (lk x [("f", f), ("g", g), ("h", h)] = some h ∧ x = "h") ∨ (lk x [("f", f), ("g", g), ("h", h)] = none ∧ seq x "f" = false ∧ seq x "g" = false ∧ seq x "h" = false) := by
  show ((match seq x "f" with | true => some f | false => (match seq x "g" with | true => some g | false => (match seq x "h" with | true => some h | false => none))) = _ ∧ _) ∨ ((match seq x "f" with | true => some f | false => (match seq x "g" with | true => some g | false => (match seq x "h" with | true => some h | false => none))) = _ ∧ _) ∨
    ((match seq x "f" with | true => some f | false => (match seq x "g" with | true => some g | false => (match seq x "h" with | true => some h | false => none))) = _ ∧ _) ∨ ((match seq x "f" with | true => some f | false => (match seq x "g" with | true => some g | false => (match seq x "h" with | true => some h | false => none))) = _ ∧ _)
  cases h1 : seq x "f" with
  | true => exact .inl ⟨rfl, seq_iff.mp h1⟩
  | false =>
    cases h2 : seq x "g" with
    | true => exact .inr (.inl ⟨rfl, seq_iff.mp h2⟩)
    | false =>
      cases h3 : seq x "h" with
      | true => exact .inr (.inr (.inl ⟨rfl, seq_iff.mp h3⟩))
      | false => exact .inr (.inr (.inr ⟨rfl, rfl, rfl, rfl⟩))
theorem lk3_none {α : Type} {x : Str} (f g h : α) (h0 : seq x "f" = false ∧ seq x "g" = false ∧ seq x "h" = false) : lk x [("f", f), ("g", g), ("h", h)] = none := by
  show (match seq x "f" with | true => some f | false => (match seq x "g" with | true => some g | false => (match seq x "h" with | true => some h | false => none))) = _
  rw [h0.1, h0.2.1, h0.2.2]
section
variable {rf rg rh : Row} (hf : Drawn rf) (hg : Drawn rg) (hh : Drawn rh)
include hf hg hh
theorem rel3 : Rel num S6 0 (env3 rf rg rh) (tab3 rf rg rh) := fun x => by
  rcases lk3 x rf rg rh with ⟨e, rfl⟩ | ⟨e, rfl⟩ | ⟨e, rfl⟩ | ⟨e, h⟩
  · exact .inr ⟨_, _, rfl, rfl, SR.of hf⟩
  · exact .inr ⟨_, _, rfl, rfl, SR.of hg⟩
  · exact .inr ⟨_, _, rfl, rfl, SR.of hh⟩
  · exact .inl ⟨lk3_none _ _ _ h, e⟩
theorem plain3 {a : Tr 2} {m : Nat} (h : WFT num F0 2 a S6 0 m) : Sp S6 (ndT 2 a (env3 rf rg rh)) (nevT 2 a (tab3 rf rg rh)) (fun x => neeT 2 x a (tab3 rf rg rh)) :=
  (T_sp 2 a S6 0 m h (fun x hx => (S6_ok x hx).2) (fun f hf => F0_S6 hf)).sp _ _ (rel3 hf hg hh)
theorem tabB3 : TabB 3 (tab3 rf rg rh) := ⟨Nat.le_refl 3, fun x r e => by
  have one : ∀ r, Drawn r → (r.flags.length = 1 ∨ r.flags.length = 2 ∨ r.flags.length = 3) ∧ r.names.length ≤ 3 := fun r h => ⟨by have := h.f1; have := h.f3; omega, h.nm.length_le⟩
  rcases lk3 x rf rg rh with ⟨e', _⟩ | ⟨e', _⟩ | ⟨e', _⟩ | ⟨e', _⟩
  · cases e'.symm.trans e; exact one _ hf
  · cases e'.symm.trans e; exact one _ hg
  · cases e'.symm.trans e; exact one _ hh
  · cases e'.symm.trans e⟩
theorem envB3 : EnvB 3 (env3 rf rg rh) := ⟨Nat.le_refl 3, fun x k e => by
  have one : ∀ r, Drawn r → (sgOf r).flags.length ≤ 3 ∧ (sgOf r).free.length ≤ 3 := fun r h => ⟨h.f3, Nat.le_trans (len_unionS r.names []) (Nat.le_trans (Nat.le_of_eq (Nat.zero_add _)) h.nm.length_le)⟩
  rcases lk3 x (sgOf rf) (sgOf rg) (sgOf rh) with ⟨e', _⟩ | ⟨e', _⟩ | ⟨e', _⟩ | ⟨e', _⟩
  · cases e'.symm.trans e; exact one _ hf
  · cases e'.symm.trans e; exact one _ hg
  · cases e'.symm.trans e; exact one _ hh
  · cases e'.symm.trans e⟩
theorem need3 (a : Tr 2) (b : Bowl) : Ret 360 "needed" [pvT 2 a, envPV (env3 rf rg rh)] b (optPV (ndT 2 a (env3 rf rg rh)), b) ∧ olen (ndT 2 a (env3 rf rg rh)) ≤ 1000 := by
  have h := need_T 2 3 (by simp only [okT, okUp, eUp, gUp, gT]; decide) a (env3 rf rg rh) b (envB3 hf hg hh)
  exact ⟨h.1.mono (by decide), Nat.le_trans h.2 (by decide)⟩
theorem walk3 (a : Tr 2) (b : Bowl) : Ret 360 "_law_never" [pvT 2 a, tabPV (tab3 rf rg rh)] b (.bool (nevT 2 a (tab3 rf rg rh)), b) ∧ ∀ x, Ret 360 "_law_needs" [.str x, pvT 2 a, tabPV (tab3 rf rg rh)] b (.bool (neeT 2 x a (tab3 rf rg rh)), b) := by
  have h := law_T 2 3 (by simp only [okR, okUpR, rUp, hUp, hT]; decide) a (tab3 rf rg rh) b (tabB3 hf hg hh)
  exact ⟨h.rnev.mono (by decide), fun x => (h.rnee x).mono (by decide)⟩
end
theorem list_ok {l : List PV} (h : l.length ≤ 100000) : bltAt .list [.list l] = some (.list l) := by
  show guard (sizeOk l.length) (PV.list l) = _
  rw [sizeOk_of h]; rfl
theorem tuple_ok {l : List PV} (h : l.length ≤ 100000) : bltAt .tuple [.list l] = some (.tuple l) := by
  show guard (sizeOk l.length) (PV.tuple l) = _
  rw [sizeOk_of h]; rfl
noncomputable def rowT (s : Sg) : PV := .tuple [.tuple (s.flags.map .bool), .tuple ((sortS s.free).map .str), .bool s.div]
theorem row_ret (s : Sg) (h1 : s.flags.length ≤ 3) (h2 : s.free.length ≤ 3) (b : Bowl) : Ret 20 "Signature.row" [sgPV s] b (rowT s, b) := by
  have t1 := tuple_ok (l := s.flags.map .bool) (by rw [List.length_map]; exact Nat.le_trans h1 (by decide))
  have t2 := sorted_ok (l := s.free) (by (clear t1 h1; omega))
  have t3 := tuple_ok (l := (sortS s.free).map .str) (by rw [List.length_map, len_sortS]; exact Nat.le_trans h2 (by decide))
  exact Ret.ofT (N := 0) 19 (by kernel_rfl) (by kernel_rfl) [tv t1, tv t2, tv t3] (fun z => ac t1 (ac t2 (ac t3 (z)))) (by kernel_rfl)
/-! what is equal to itself -/
theorem peqL_refl {f : PV → PV → Option Bool} : ∀ {l : List PV}, (∀ x ∈ l, f x x = some true) → peqL f l l = true
  | [], _ => rfl
  | a :: r, h => by
    show (match f a a with | some c => (match c with | true => peqL f r r | false => false) | none => false) = true
    rw [h a (.head _)]
    exact peqL_refl fun x hx => h x (.tail _ hx)
theorem peqD_list {k : Nat} {l : List PV} (h : ∀ x ∈ l, peqD k x x = some true) : peqD (k + 1) (.list l) (.list l) = some true := by
  show (match peqL (peqD k) l l with | true => some true | false => guard (!Nat.beq l.length l.length) false) = _
  rw [peqL_refl h]
theorem peqD_tuple {k : Nat} {l : List PV} (h : ∀ x ∈ l, peqD k x x = some true) : peqD (k + 1) (.tuple l) (.tuple l) = some true := by
  show (match peqL (peqD k) l l with | true => some true | false => none) = _
  rw [peqL_refl h]
theorem peqD_strs {k : Nat} (l : List Str) : ∀ x ∈ l.map PV.str, peqD k x x = some true := fun x hx => by
  obtain ⟨y, _, rfl⟩ := List.mem_map.mp hx
  induction k with
  | zero => exact congrArg some (seq_refl y)
  | succ k ih => exact ih
theorem peqD_bools {k : Nat} (l : List Bool) : ∀ x ∈ l.map PV.bool, peqD k x x = some true := fun x hx => by
  obtain ⟨y, _, rfl⟩ := List.mem_map.mp hx
  have h : (y == y) = true := beq_self_eq_true y
  induction k with
  | zero => exact congrArg some h
  | succ k ih => exact ih
theorem peq_row (s : Sg) : peqD 2 (rowT s) (rowT s) = some true := peqD_tuple fun x hx => by
  simp only [List.mem_cons, List.not_mem_nil, or_false] at hx
  rcases hx with rfl | rfl | rfl
  · exact peqD_tuple (peqD_bools _)
  · exact peqD_tuple (peqD_strs _)
  · exact congrArg some (beq_self_eq_true s.div)
theorem ne_rows (f g h : Sg) : cmp .NotEq (.list [rowT f, rowT g, rowT h]) (.list [rowT f, rowT g, rowT h]) = some false := by
  show (peqD 3 _ _).map not = _
  rw [peqD_list fun x hx => by
    simp only [List.mem_cons, List.not_mem_nil, or_false] at hx
    rcases hx with rfl | rfl | rfl <;> exact peq_row _]
  rfl
theorem eq_strs (l : List Str) : cmp .Eq (strsPV l) (strsPV l) = some true := peqD_list (peqD_strs l)
theorem ne_str (s : Str) : cmp .NotEq (.str s) (.str s) = some false := by
  show (some (seq s s)).map not = _
  rw [seq_refl]; rfl
theorem pairs_tt (l : List Str) : pairsOf (l.map fun y => .tuple [.str y, tt]) = some (kv l) := by
  induction l with
  | nil => rfl
  | cons a r ih =>
    show (pairsOf (r.map fun y => .tuple [.str y, tt])).map ((a, tt) :: ·) = _
    rw [ih]; rfl
theorem dict_tt {l : List Str} (h : l.length ≤ 1000) : bltAt .dict [.list (l.foldl (fun (a : List PV) y => a ++ [.tuple [.str y, tt]]) [])] = some (kd (unionS [] l)) := by
  rw [fold_append (fun y => PV.tuple [.str y, tt]), List.nil_append]
  show (match sizeOk (l.map fun y => PV.tuple [.str y, tt]).length with | true => (pairsOf (l.map fun y => PV.tuple [.str y, tt])).map fun es => PV.dict (storeAll [] es) | false => .none) = _
  rw [sizeOk_of (by rw [List.length_map]; exact Nat.le_trans h (by decide)), pairs_tt]
  exact congrArg (fun l => some (PV.dict l)) (storeAll_kv l [])
end Mine

set_option maxRecDepth 100000
set_option linter.unusedVariables false
set_option linter.unusedSimpArgs false
namespace Mine
open PySem

theorem peq_comp {l : List Str} {p q : Str → Bool} (h : ∀ x ∈ l, p x = q x) : cmp .Eq (.list (l.foldl (fun (a : List PV) y => if p y then a ++ [.str y] else a) [])) (.list (l.foldl (fun (a : List PV) y => if q y then a ++ [.str y] else a) [])) = some true := by
  rw [fold_strs, fold_strs, List.nil_append, List.nil_append, List.filter_congr h]
  exact eq_strs _
theorem fold_none {β : Type} (l : List β) : l.foldl (fun (a : List PV) _ => a) [] = [] := by
  induction l with
  | nil => rfl
  | cons _ _ ih => exact ih
noncomputable abbrev lawEnd (st : St) : TP := (wRun 360 19).exs (getFn "law").scope st ((getFn "law").body.drop 6) fun fl st => fin (retOf fl = .bool true)
section
variable {rf rg rh : Row} (hf : Drawn rf) (hg : Drawn rg) (hh : Drawn rh)
include hf hg hh
theorem law_end (a : Tr 2) (b : Bowl) (hn : NiceT 2 a) {m : Nat} (hw : WFT num F0 2 a S6 0 m) (kn : PV) :
    Ok (lawEnd ⟨[("bowl", .bowl), ("table", tabPV (tab3 rf rg rh)), ("known", kn), ("expr", pvT 2 a), ("env", envPV (env3 rf rg rh)), ("name", .str "h")], some "env", b⟩) := by
  have row : ∀ r, Drawn r → Ret 360 "Signature.row" [sgPV (sgOf r)] b (rowT (sgOf r), b) := fun r h => (row_ret (sgOf r) h.f3 (Nat.le_trans (len_unionS r.names []) (Nat.le_trans (Nat.le_of_eq (Nat.zero_add _)) h.nm.length_le)) b).mono (by decide)
  have wf := row rf hf
  have wg := row rg hg
  have wh := row rh hh
  obtain ⟨s, ht, hs⟩ := core_T 2 (fun k hk => by
    rcases (show k = 0 ∨ k = 1 by omega) with rfl | rfl <;> decide) a hn b
  have ht : Ret 360 "core_text" [pvT 2 a] b (.str s, b) := ht
  have hne := ne_str s
  have hnr := ne_rows (sgOf rf) (sgOf rg) (sgOf rh)
  obtain ⟨hneed, hlen⟩ := need3 hf hg hh a b
  obtain ⟨hnev, hnee⟩ := walk3 hf hg hh a b
  have P := plain3 hf hg hh hw
  have hE : PV.bool true = PV.bool true := rfl
  cases hq : ndT 2 a (env3 rf rg rh) with
  | none =>
    rw [hq] at hneed P
    rw [P.ifN rfl] at hnev
    have hneed : Ret 360 "needed" [pvT 2 a, envPV (env3 rf rg rh)] b (.none, b) := hneed
    show Ok ((wRun 360 19).exs (getFn "law").scope ⟨[("bowl", .bowl), ("table", tabPV (tab3 rf rg rh)), ("known", kn), ("expr", pvT 2 a), ("env", envPV (env3 rf rg rh)), ("name", .str "h")], some "env", b⟩ ((getFn "law").body.drop 6) fun fl st => fin (retOf fl = .bool true))
    exact Ok.of [tr ht, .g, .g, .g, tr wf, .g, tr wg, .g, tr wh, tr hneed, tr ht, tb hne, .g, .g, .g, tr wf, .g, tr wg, .g, tr wh, tb hnr, .g, .g, tr hnev] (ac ht (ac wf (ac wg (ac wh (ac hneed (ac ht (ac hne (ac wf (ac wg (ac wh (ac hnr (ac hnev (ac hE (trivial)))))))))))))) (by kernel_rfl)
  | some l =>
    rw [hq] at hneed P hlen
    have hlen : l.length ≤ 1000 := hlen
    obtain ⟨p1, p2, p3⟩ := P.ifS l rfl
    rw [p1] at hnev
    have hneed : Ret 360 "needed" [pvT 2 a, envPV (env3 rf rg rh)] b (kd l, b) := hneed
    have z1 : sizeOk (((kv l).map fun e => PV.str e.1)).length = true := sizeOk_of (by rw [List.length_map, kv_len]; exact Nat.le_trans hlen (by decide))
    have l1 := LComp.map (N := 360) (k := 16) (f := "law") (p := [11]) (q := [0]) (x := "one") (st0 := ⟨[("names", strsPV S6)], none, b⟩) (l := kv l) (fun e : Str × PV => PV.str e.1) (fun _ acc => acc) (acc := []) rfl (fun v => by kernel_rfl) (fun y hy acc CC hC => by
      obtain ⟨x, hx, rfl⟩ := List.mem_map.mp hy
      have hm : cmp .NotIn (.str x) (strsPV S6) = some false := by
        show (contains (.str x) (strsPV S6)).map not = _
        rw [contains_strs, memS_iff.mpr (p3 x hx)]; rfl
      exact Ok.of [tb hm] (ac hm (ac hC (trivial))) (by kernel_rfl))
    rw [fold_none] at l1
    have l2 := LComp.map (N := 360) (k := 16) (f := "law") (p := [12]) (q := [0]) (x := "one") (st0 := ⟨[("found", kd l)], none, b⟩) (l := S6) PV.str (fun y acc => if memS y l then acc ++ [.str y] else acc) (acc := []) rfl (fun v => by kernel_rfl) (fun y hy acc CC hC => by
      have hm : cmp .In (.str y) (kd l) = some (memS y l) := congrArg some (hasK_kv y l)
      cases h1 : memS y l with
      | true => rw [h1] at hm hC; exact Ok.of [tb hm] (ac hm (ac hC (trivial))) (by kernel_rfl)
      | false => rw [h1] at hm hC; exact Ok.of [tb hm] (ac hm (ac hC (trivial))) (by kernel_rfl))
    have l3 := LComp.map (N := 360) (k := 16) (f := "law") (p := [12]) (q := [1]) (x := "one") (st0 := ⟨[("table", tabPV (tab3 rf rg rh)), ("expr", pvT 2 a)], none, b⟩) (l := S6) PV.str (fun y acc => if neeT 2 y a (tab3 rf rg rh) then acc ++ [.str y] else acc) (acc := []) rfl (fun v => by kernel_rfl) (fun y hy acc CC hC => by
      have h := hnee y
      cases h1 : neeT 2 y a (tab3 rf rg rh) with
      | true => rw [h1] at h hC; exact Ok.of [tr h] (ac h (ac hC (trivial))) (by kernel_rfl)
      | false => rw [h1] at h hC; exact Ok.of [tr h] (ac h (ac hC (trivial))) (by kernel_rfl))
    have l2 : LComp 360 16 "law" [12] [0] _ _ b [.str "x", .str "y", .str "z", .str "f", .str "g", .str "h"] [] ⟨[("found", kd l)], none, b⟩ := l2
    have l3 : LComp 360 16 "law" [12] [1] _ _ b [.str "x", .str "y", .str "z", .str "f", .str "g", .str "h"] [] ⟨[("table", tabPV (tab3 rf rg rh)), ("expr", pvT 2 a)], none, b⟩ := l3
    have heq := peq_comp (l := S6) (p := fun y => memS y l) (q := fun y => neeT 2 y a (tab3 rf rg rh)) (fun x hx => by
      rw [Bool.eq_iff_iff, memS_iff]; exact p2 x hx)
    show Ok ((wRun 360 19).exs (getFn "law").scope ⟨[("bowl", .bowl), ("table", tabPV (tab3 rf rg rh)), ("known", kn), ("expr", pvT 2 a), ("env", envPV (env3 rf rg rh)), ("name", .str "h")], some "env", b⟩ ((getFn "law").body.drop 6) fun fl st => fin (retOf fl = .bool true))
    exact Ok.of [tr ht, .g, .g, .g, tr wf, .g, tr wg, .g, tr wh, tr hneed, tr ht, tb hne, .g, .g, .g, tr wf, .g, tr wg, .g, tr wh, tb hnr, .g, tr hnev, .b true, tcl l1, .g, .g, tcl l2, .g, tcl l3, tb heq] (ac ht (ac wf (ac wg (ac wh (ac hneed (ac ht (ac hne (ac wf (ac wg (ac wh (ac hnr (ac hnev (ac z1 (ac l1 (ac l2 (ac l3 (ac heq (ac hE (trivial))))))))))))))))))) (by kernel_rfl)
end
end Mine

set_option maxRecDepth 100000
set_option linter.unusedVariables false
set_option linter.unusedSimpArgs false
namespace Mine
open PySem

/-- behind the bowl -/
theorem law_body (b : Bowl) (hB : BN b 0) : Ok ((wRun 360 19).exs (getFn "law").scope ⟨[("bowl", .bowl)], none, b⟩ (getFn "law").body.tail fun fl st => fin (retOf fl = .bool true)) := by
  obtain ⟨rf, rg, rh, b1, hf, hg, hh, k1, k2, k3⟩ := signatures_ret hB.ok
  have k3 : Ret 360 "_law_signatures" [.bowl] b (tabPV (tab3 rf rg rh), b1) := k3.mono (by decide)
  have hk : Kn [("f", rf.flags.length), ("g", rg.flags.length), ("h", rh.flags.length)] := ⟨rfl, fun p hp => by
    have F : ∀ f ∈ F0, f ∈ F0 ∧ Nice f := fun f h => ⟨h, (S6_ok f (F0_S6 h)).1⟩
    simp only [List.mem_cons, List.not_mem_nil, or_false] at hp
    rcases hp with rfl | rfl | rfl
    · obtain ⟨h1, h2⟩ := F "f" (.head _); exact ⟨h1, h2, hf.f3⟩
    · obtain ⟨h1, h2⟩ := F "g" (.tail _ (.head _)); exact ⟨h1, h2, hg.f3⟩
    · obtain ⟨h1, h2⟩ := F "h" (.tail _ (.tail _ (.head _))); exact ⟨h1, h2, hh.f3⟩⟩
  obtain ⟨a, b2, m, a1, a2, a3, ⟨a4, a5⟩, a6⟩ := draw2 hk xyz S6 b1 0 ⟨by decide, by decide, fun x hx => xyz_S6 hx, fun x hx => (S6_ok x (xyz_S6 hx)).1⟩ ⟨k1, k2.trans hB.nm⟩ (by decide)
  have a6 : Ret 360 "_law_tree" [.bowl, .list [.str "x", .str "y", .str "z"], .list [.tuple [.str "f", .int rf.flags.length], .tuple [.str "g", .int rg.flags.length], .tuple [.str "h", .int rh.flags.length]], .int 2] b1 (pvT 2 a, b2) := a6.mono (by decide)
  have lenB : ∀ r, Drawn r → bltAt .len [boolsPV r.flags] = some (.int r.flags.length) := fun r h => by
    have := len_ok (l := r.flags.map PV.bool) (by rw [List.length_map]; have := h.f3; exact Nat.le_trans this (by decide))
    rw [List.length_map] at this
    exact this
  have n1 := lenB rf hf
  have n2 := lenB rg hg
  have n3 := lenB rh hh
  have cpy : ∀ r, Drawn r → bltAt .list [boolsPV r.flags] = some (boolsPV r.flags) := fun r h => list_ok (by rw [List.length_map]; have := h.f3; omega)
  have y1 := cpy rf hf
  have y2 := cpy rg hg
  have y3 := cpy rh hh
  have siz : ∀ r, Drawn r → sizeOk (r.names.map PV.str).length = true := fun r h => sizeOk_of (by rw [List.length_map]; have := h.nm.length_le; exact Nat.le_trans this (by decide))
  have z1 := siz rf hf
  have z2 := siz rg hg
  have z3 := siz rh hh
  have dct : ∀ r, Drawn r → bltAt .dict [.list (r.names.foldl (fun (a : List PV) y => a ++ [.tuple [.str y, tt]]) [])] = some (kd (unionS [] r.names)) := fun r h => dict_tt (Nat.le_trans h.nm.length_le (by decide))
  have t1 := dct rf hf
  have t2 := dct rg hg
  have t3 := dct rh hh
  have prs : ∀ r : Row, LComp 360 14 "law" [5, 0] [1, 0] _ _ b2 (r.names.map PV.str) [] ⟨[], none, b2⟩ := fun r => LComp.map (N := 360) (k := 14) (f := "law") (p := [5, 0]) (q := [1, 0]) (x := "one") (st0 := ⟨[], none, b2⟩) (l := r.names) PV.str (fun y acc => acc ++ [.tuple [.str y, tt]]) (acc := []) rfl (fun v => by kernel_rfl) (fun y hy acc CC hC => by exact Ok.of [] (ac hC (trivial)) (by kernel_rfl))
  have p1 := prs rf
  have p2 := prs rg
  have p3 := prs rh
  obtain ⟨t, ht⟩ := law_end hf hg hh a b2 a4 a5 (.list [.tuple [.str "f", .int rf.flags.length], .tuple [.str "g", .int rg.flags.length], .tuple [.str "h", .int rh.flags.length]])
  exact Ok.of ([tr k3, .g, .g, .g, .g, tv n1, .g, .g, tv n2, .g, .g, tv n3, tr a6, .g, .g, .g, .g, tv y1, .g, .g, .b true, tcl p1, tv t1, .g, .g, .g, .g, .g, tv y2, .g, .g, .b true, tcl p2, tv t2, .g, .g, .g, .g, .g, tv y3, .g, .g, .b true, tcl p3, tv t3, .g, .g, .g] ++ t) (ac k3 (ac n1 (ac n2 (ac n3 (ac a6 (ac y1 (ac z1 (ac p1 (ac t1 (ac y2 (ac z2 (ac p2 (ac t2 (ac y3 (ac z3 (ac p3 (ac t3 ht))))))))))))))))) (by kernel_rfl)
end Mine

set_option maxRecDepth 100000
set_option linter.unusedVariables false
set_option linter.unusedSimpArgs false
namespace Mine
open PySem

/-! the bowl's making -/
theorem cell_ret (l : List Int) : ∃ i : Int, (l = [] ∧ i = 0) ∨ (cmp .NotEq (.list (l.map .int)) (.list []) = some true ∧ ∀ b, item (.list (l.map .int)) (.int 0) b = some (.int i)) := by
  cases l with
  | nil => exact ⟨0, .inl ⟨rfl, rfl⟩⟩
  | cons i r => exact ⟨i, .inr ⟨rfl, fun b => rfl⟩⟩
theorem bowl_ret (l : List Int) (b : Bowl) : ∃ b0 : Bowl, BN b0 0 ∧ Ret 20 "_law_bowl" [.list (l.map .int)] b (.dict [("left", .int b0.left), ("here", .int b0.here), ("names", .int 0)], b) := by
  have key : ∀ i : Int, (l = [] ∧ i = 0) ∨ (cmp .NotEq (.list (l.map .int)) (.list []) = some true ∧ ∀ b, item (.list (l.map .int)) (.int 0) b = some (.int i)) → ∀ z left : Int, ((0 ≤ i ∧ z = i) ∨ (¬ 0 ≤ i ∧ z = -1 - i)) → (((1000000000000000000 : Int) ≤ z ∧ left = z) ∨ (¬ (1000000000000000000 : Int) ≤ z ∧ left = 0)) →
      Ret 20 "_law_bowl" [.list (l.map .int)] b (.dict [("left", .int left), ("here", .int (z % 1000121 + 97)), ("names", .int 0)], b) := fun i hi z left hz hl => by
    have cm : binop .Mod (.int z) (.int 1000121) = some (.int (z % 1000121)) := guard_of (show (0 : Int) < 1000121 ∧ (1000121 : Int) < big by decide) _
    rcases hz with ⟨h0, rfl⟩ | ⟨h0, rfl⟩
    · have c1 : cmp .GtE (.int z) (.int 0) = some true := congrArg some (decide_eq_true h0)
      rcases hl with ⟨h1, rfl⟩ | ⟨h1, rfl⟩
      · have c2 : cmp .GtE (.int left) (.int 1000000000000000000) = some true := congrArg some (decide_eq_true h1)
        rcases hi with ⟨rfl, rfl⟩ | ⟨h2, h3⟩
        · exact Ret.ofT (N := 0) 19 (by kernel_rfl) (by kernel_rfl) [] (fun z => z) (by kernel_rfl)
        · have h3 := h3 b
          exact Ret.ofT (N := 0) 19 (by kernel_rfl) (by kernel_rfl) [tb h2, tv h3, tb c1, .g, tb c2] (fun z => ac h2 (ac h3 (ac c1 (ac c2 (z))))) (by kernel_rfl)
      · have c2 : cmp .GtE (.int z) (.int 1000000000000000000) = some false := congrArg some (decide_eq_false h1)
        rcases hi with ⟨rfl, rfl⟩ | ⟨h2, h3⟩
        · exact Ret.ofT (N := 0) 19 (by kernel_rfl) (by kernel_rfl) [] (fun z => z) (by kernel_rfl)
        · have h3 := h3 b
          exact Ret.ofT (N := 0) 19 (by kernel_rfl) (by kernel_rfl) [tb h2, tv h3, tb c1, .g, tb c2] (fun z => ac h2 (ac h3 (ac c1 (ac c2 (z))))) (by kernel_rfl)
    · have c1 : cmp .GtE (.int i) (.int 0) = some false := congrArg some (decide_eq_false h0)
      rcases hl with ⟨h1, rfl⟩ | ⟨h1, rfl⟩
      · have c2 : cmp .GtE (.int (-1 - i)) (.int 1000000000000000000) = some true := congrArg some (decide_eq_true h1)
        rcases hi with ⟨rfl, rfl⟩ | ⟨h2, h3⟩
        · exact absurd (Int.le_refl 0) h0
        · have h3 := h3 b
          exact Ret.ofT (N := 0) 19 (by kernel_rfl) (by kernel_rfl) [tb h2, tv h3, tb c1, .g, .g, tb c2] (fun z => ac h2 (ac h3 (ac c1 (ac c2 (z))))) (by kernel_rfl)
      · have c2 : cmp .GtE (.int (-1 - i)) (.int 1000000000000000000) = some false := congrArg some (decide_eq_false h1)
        rcases hi with ⟨rfl, rfl⟩ | ⟨h2, h3⟩
        · exact absurd (Int.le_refl 0) h0
        · have h3 := h3 b
          exact Ret.ofT (N := 0) 19 (by kernel_rfl) (by kernel_rfl) [tb h2, tv h3, tb c1, .g, .g, tb c2] (fun z => ac h2 (ac h3 (ac c1 (ac c2 (z))))) (by kernel_rfl)
  obtain ⟨i, hi⟩ := cell_ret l
  obtain ⟨z, h0, hz⟩ : ∃ z : Int, 0 ≤ z ∧ ((0 ≤ i ∧ z = i) ∨ (¬ 0 ≤ i ∧ z = -1 - i)) := by
    by_cases h : 0 ≤ i
    · exact ⟨i, h, .inl ⟨h, rfl⟩⟩
    · exact ⟨-1 - i, by omega, .inr ⟨h, rfl⟩⟩
  obtain ⟨left, h1, hl⟩ : ∃ left : Int, 0 ≤ left ∧ (((1000000000000000000 : Int) ≤ z ∧ left = z) ∨ (¬ (1000000000000000000 : Int) ≤ z ∧ left = 0)) := by
    by_cases h : (1000000000000000000 : Int) ≤ z
    · exact ⟨z, h0, .inl ⟨h, rfl⟩⟩
    · exact ⟨0, Int.le_refl 0, .inr ⟨h, rfl⟩⟩
  refine ⟨⟨left, z % 1000121 + 97, 0⟩, ⟨⟨h1, ?_, ?_⟩, rfl⟩, key i hi z left hz hl⟩
  · show 0 ≤ z % 1000121 + 97
    (clear hl h1; omega)
  · show z % 1000121 + 97 < 2147483563
    (clear hl h1; omega)
end Mine

set_option maxRecDepth 100000
set_option linter.unusedVariables false
set_option linter.unusedSimpArgs false
namespace Mine
open PySem PySem.W PySem.Calls PyProof.Rows

/-! the law's call -/
noncomputable abbrev bowlD (b : Bowl) : PV := .dict [("left", .int b.left), ("here", .int b.here), ("names", .int 0)]
theorem law_first (l : List Int) (b : Bowl) : ∃ b0 : Bowl, BN b0 0 ∧ Ok (wStmt (wRun 360 18) (getFn "law").scope ⟨[("script", .list (l.map .int))], none, b⟩ (stm (getFn "law").body [0]) fun fl st => fin ((fl, st) = (Fl.next, St.mk [("script", .list (l.map .int)), ("bowl", bowlD b0)] none b))) := by
  obtain ⟨b0, h0, h1⟩ := bowl_ret l b
  have h1 := h1.mono (show 20 ≤ 360 by decide)
  have hE : (Fl.next, St.mk [("script", .list (l.map .int)), ("bowl", bowlD b0)] none b) = (Fl.next, St.mk [("script", .list (l.map .int)), ("bowl", bowlD b0)] none b) := rfl
  exact ⟨b0, h0, Ok.of [tr h1] (ac h1 (ac hE trivial)) (by kernel_rfl)⟩
theorem law_split : (getFn "law").body = stm (getFn "law").body [0] :: (getFn "law").body.tail := by kernel_rfl
theorem list_not_dict {c : Cx} {h : Heap} {a : Addr} {its : Array Value} {kvs : List (Str × Value)} (p : h.PlainList a its) (d : h.DictOf c.kd a kvs) : False := by
  obtain ⟨n, p⟩ := p
  obtain ⟨o, es, ep, ho, _, hd, _⟩ := d
  rw [p] at ho
  cases ho
  cases hd
theorem tup_not_dict {c : Cx} {h : Heap} {a : Addr} {its : Array Value} {kvs : List (Str × Value)} (p : IsTup h a its) (d : h.DictOf c.kd a kvs) : False := by
  obtain ⟨o1, h1, _, n, hd1⟩ := p
  obtain ⟨o, es, ep, ho, _, hd, _⟩ := d
  rw [h1] at ho
  cases ho
  rw [hd1] at hd
  cases hd
theorem bowl_pairs {c : Cx} {F : Fz} {h : Heap} {kvs : List (Str × Value)} {l r n : Int} (x : RepE c F h kvs [("left", .int l), ("here", .int r), ("names", .int n)]) : ∃ t1 t2 t3, kvs = bowlPairs ⟨l, r, n⟩ t1 t2 t3 := by
  cases x with
  | cons a x =>
    cases x with
    | cons b x =>
      cases x with
      | cons d x =>
        cases x with
        | nil =>
          obtain ⟨t1, rfl⟩ := a.inv
          obtain ⟨t2, rfl⟩ := b.inv
          obtain ⟨t3, rfl⟩ := d.inv
          exact ⟨t1, t2, t3, rfl⟩

/-- the bowl stands: from now on it is the bowl -/
def Cx.at (c : Cx) (a : Addr) : Cx := { c with B := a, pre := false }
theorem Stat.at {c : Cx} (T : Stat c) (a : Addr) : Stat (c.at a) :=
  ⟨T.inK, T.ns, T.nolimit, fun C fs h => by
    obtain ⟨h1, h2, h3, h4, h5, h6, h7, h8, h9, h10, h11⟩ := T.cls C fs h
    exact ⟨h1, h2, h3, h4, h5, h6, h7, h8, h9, h10, h11⟩, T.nb, T.kw, by
    obtain ⟨its, h1, h2⟩ := T.kwT
    refine ⟨its, h1, fun F h => ?_⟩
    have hstr : ∀ {vs : List Value} {ss : List Str}, Reps c F h vs (ss.map .str) → Reps (c.at a) F h vs (ss.map .str) := fun {vs ss} => by
      induction ss generalizing vs with
      | nil => intro r; obtain rfl := r.inv; exact .nil
      | cons s ss ih =>
        intro r
        obtain ⟨v, us, rfl, r1, r2⟩ := r.inv
        obtain ⟨t, rfl⟩ := r1.inv
        exact .cons (.str _ _) (ih r2)
    exact hstr (h2 F h)⟩
theorem TabOK.at {c : Cx} (T : TabOK c) (a : Addr) : TabOK (c.at a) :=
  ⟨fun f fi h => by
    obtain ⟨h1, h2, h3, h4, h5, h6, h7⟩ := T.fn f fi h
    exact ⟨h1, h2, h3, h4, h5, h6, h7⟩, T.glob, fun C fs h => by
    obtain ⟨fi, h0, h1, h2, h3, h4, h5, h6, h7, h8, h9, h10⟩ := T.init C fs h
    exact ⟨fi, h0, h1, h2, h3, h4, h5, h6, h7, h8, h9, h10⟩, T.blt, T.meth⟩
noncomputable abbrev scriptF (c : Cx) (sa : Addr) : Fz := fun x => x = sa ∨ x = c.kw
theorem law_exec {c : Cx} (T : Stat c) (TB : TabOK c) (hpre : c.pre = true) {A : Around} (hA : AOK A 379) {l : List Int} {b : Bowl} {sa : Addr} {its : Array Value} (hl : c.h0.PlainList sa its) :
    ExAt c A (scriptF c sa) (getFn "law").scope ⟨[("script", .list (l.map .int))], none, b⟩ (getFn "law").body (.ret (.bool true)) ⟨[], none, b⟩ := by
  intro env s m E Q hE I P
  obtain ⟨b0, hb0, hok⟩ := law_first l b
  have hA' : AOK A (360 + 18) := hA.le (by decide)
  have G1 : Good c := ⟨T, TB, fun h => by rw [hpre] at h; cases h⟩
  obtain ⟨fl, st1, h, h1⟩ := wStmt_ok G1 hA' (wRun_ok G1 360 18 hA') hok
  have h := fin_ok h
  obtain ⟨rfl, rfl⟩ := Prod.mk.inj h
  rw [law_split]
  refine wpAny_execs_cons (h1 env s _ none m E _ hE I fun w ha tka Fa oaa ma hs1 I1 hf => ?_)
  obtain rfl : w = .next := hf
  obtain ⟨v, hva, rv⟩ := I1.var "bowl" _ rfl rfl
  obtain ⟨a, kvs, rfl, fa, hsys, hd, hr⟩ := rv.inv
  obtain ⟨t1, t2, t3, rfl⟩ := bowl_pairs hr
  obtain ⟨itk, hkw, _⟩ := T.kwT
  have hnF : ¬ scriptF c sa a := fun f => f.elim (fun e => list_not_dict (hl.at fun o ho => I1.base _ o ho) (e ▸ hd)) fun e => tup_not_dict (IsTup_at hkw fun o ho => I1.base _ o ho) (e ▸ hd)
  have hnew : s.heap.get? a = none := (hs1.new a fa).elim (fun f => absurd f hnF) fun x => x.elim id nofun
  have hn0 : c.h0.get? a = none := none_of (I.base a) hnew
  have hle : ∀ x, scriptF c sa x → Fa x := hs1.le
  have hbw : b0 = ⟨b0.left, b0.here, 0⟩ := by
    obtain ⟨x, y, n⟩ := b0
    obtain ⟨_, h⟩ := hb0
    cases (show n = ((0 : Nat) : Int) from h)
    rfl
  have I2 : Inv (c.at a) env (scriptF c sa) none ⟨[("bowl", .bowl)], none, b0⟩ ha ma := by
    refine ⟨I1.base, I1.ns, .inr ⟨t1, t2, t3, by rw [hbw]; exact hd⟩, .inr rfl, fun x f => I1.dom x (hle x f), hnF, fun f => I1.nL (hle _ f), fun e => I1.nL (e ▸ fa), I1.L0, I1.C0, fun x cl e => ?_, I1.apart, nofun, nofun, fun x pv e _ => ?_, fun x pv e h => nomatch h⟩
    · obtain ⟨k1, k2, k3, k4⟩ := I1.cell x cl e
      exact ⟨k1, fun f => k2 (hle _ f), k3, fun z => k2 (z ▸ fa)⟩
    · have e' : (match seq x "bowl" with | true => some PV.bowl | false => none) = some pv := e
      cases hx : seq x "bowl" with
      | true => rw [hx] at e'; cases e'; exact ⟨.ref a, seq_iff.mp hx ▸ hva, .bowl rfl⟩
      | false => rw [hx] at e'; cases e'
  have G2 : Good (c.at a) := ⟨T.at a, TB.at a, fun _ => hn0⟩
  obtain ⟨fl, st2, h, h2⟩ := (wRun_ok G2 360 19 (hA.le (by decide))).exs _ _ (law_body b0 hb0)
  have h := fin_ok h
  refine h2 env { s with heap := ha, toks := tka } (scriptF c sa) none ma E _ hE I2 fun w h3 tk3 F3 oa3 m3 hs2 I3 hf => ?_
  have hw : w = .ret (.bool true) := by
    cases fl with
    | next => cases h
    | ret y => obtain ⟨v, rfl, rv⟩ : ∃ v, w = .ret v ∧ Rep (c.at a) F3 h3 v y := hf; obtain rfl : y = .bool true := h; obtain rfl := rv.inv; rfl
  subst hw
  have hdom : ∀ x, (s.heap.get? x).isSome = true → (h3.get? x).isSome = true := fun x e => hs2.dom x (hs1.dom x e)
  refine P (.ret (.bool true)) h3 tk3 (scriptF c sa) none m3 ⟨fun _ x => x, fun _ x => .inl x, fun x o hw _ e => ?_, nofun, hdom⟩ ?_ ⟨_, rfl, .bool true⟩
  · exact hs2.keep x o (fun w => w.elim (fun e' => by rw [show x = a from e', hnew] at e; cases e) fun w => hw (.inr w)) nofun (hs1.keep x o hw nofun e)
  · refine ⟨I3.base, I3.ns, .inl ⟨hpre, hdom _ I.bowl.some⟩, .inr rfl, fun x f => hdom x (I.dom x f), I.nB, I.nL, I.LB, I.L0, I.C0, fun x cl e => ⟨(I3.cell x cl e).1, (I.cell x cl e).2⟩, I.apart, nofun, nofun, fun x pv e _ => none_some e, fun x pv e h => none_some e⟩
theorem law_tab : tab "law" = some (getFn "law") := by
  have : (tab "law").isSome = true := by kernel_rfl
  obtain ⟨fi, h⟩ := Option.isSome_iff_exists.mp this
  unfold getFn
  rw [h]; rfl
theorem law_params : paramNames (getFn "law").params = [("script" : Str)] := by kernel_rfl
/-- the law gives True; what stood stands -/
theorem law_call {c : Cx} (T : Stat c) (TB : TabOK c) (hpre : c.pre = true) {l : List Int} {sa : Addr} {its : Array Value} (hl : c.h0.PlainList sa its) (hr : ∀ F h, Reps c F h its.toList (l.map .int)) (hB : (c.h0.get? c.B).isSome = true) (hBs : c.B ≠ sa) (hBk : c.B ≠ c.kw)
    {A : Around} (hA : AOK A 380) {s : Shared} (hs : s.heap = c.h0) {E Q : Value → Shared → Prop} (P : ∀ h' tk, (∀ b o, s.heap.get? b = some o → h'.get? b = some o) → Q (.bool true) { s with heap := h', toks := tk }) : wpAny c.M A (call (.ref (c.fn "law")) [.ref sa]) Q E s := by
  obtain ⟨g, gs, dr, tk, os⟩ := s
  cases (show g = c.h0 from hs)
  obtain ⟨itk, hkw, _⟩ := T.kwT
  have B : Base c (scriptF c sa) ⟨0, 0, 0⟩ c.h0 := ⟨fun _ _ e => e, .inl ⟨hpre, hB⟩, .inr rfl, fun x f => f.elim (fun e => by obtain ⟨n, p⟩ := hl; rw [e, p]; rfl) fun e => by obtain ⟨o, p, _⟩ := hkw; rw [e, p]; rfl, fun f => f.elim hBs hBk⟩
  refine call_at (n := 379) (b' := ⟨0, 0, 0⟩) (x := .bool true) T (TB.fn _ _ law_tab) hA (xs := [.list (l.map .int)]) (by rw [law_params]; rfl) (F := scriptF c sa) (fun A' hA' => ⟨.ret (.bool true), ⟨[], none, ⟨0, 0, 0⟩⟩, rfl, rfl, ?_⟩) B (.cons (.list' (.inl rfl) hl (hr _ _)) .nil) fun v h' tk F' oa' hs B' rv => ?_
  · rw [law_params]
    exact law_exec T TB hpre hA' hl
  · obtain rfl := rv.inv
    exact P h' tk B'.base
end Mine

set_option maxRecDepth 100000
set_option linter.unusedVariables false
set_option linter.unusedSimpArgs false
namespace Mine
open PySem PySem.W PySem.Calls PyProof.Rows

/-! the text's functions, one by one -/
noncomputable def funsOf : List Stmt → List (Str × FnInfo)
  | [] => []
  | s :: r => (match s with
    | .FunctionDef n a b _ _ _ s _ _ _ => (match plainA a with | true => (n, ⟨a, b, s⟩) :: funsOf r | false => funsOf r)
    | _ => funsOf r)
noncomputable def methsOf : List Stmt → List (Str × Str × FnInfo)
  | [] => []
  | s :: r => (match s with
    | .ClassDef n _ _ b _ _ _ _ _ _ _ => (funsOf b).map (fun p => (n, p.1, p.2)) ++ methsOf r
    | _ => methsOf r)
noncomputable def allFuns : List (Str × FnInfo) := funsOf prog.main.body
noncomputable def allMeths : List (Str × Str × FnInfo) := methsOf prog.main.body
theorem findDef_mem {f : Str} {fi : FnInfo} : ∀ {l : List Stmt}, findDef f l = some fi → (f, fi) ∈ funsOf l := by
  intro l
  induction l with
  | nil => intro h; exact none_some h
  | cons s r ih =>
    intro h
    cases s with
    | FunctionDef n a b x1 x2 x3 s x4 x5 x6 =>
      have h' : (match seq f n with | true => guard (plainA a) (⟨a, b, s⟩ : FnInfo) | false => findDef f r) = some fi := h
      show (f, fi) ∈ (match plainA a with | true => (n, (⟨a, b, s⟩ : FnInfo)) :: funsOf r | false => funsOf r)
      cases hs : seq f n with
      | true =>
        rw [hs] at h'
        obtain ⟨h1, rfl⟩ := guard_some h'
        rw [h1, seq_iff.mp hs]
        exact .head _
      | false =>
        rw [hs] at h'
        cases plainA a with
        | true => exact .tail _ (ih h')
        | false => exact ih h'
    | _ => exact ih h
theorem findCls_mem {C : Str} {b : List Stmt} : ∀ {l : List Stmt}, findCls C l = some b → ∀ p ∈ funsOf b, (C, p.1, p.2) ∈ methsOf l := by
  intro l
  induction l with
  | nil => intro h; exact none_some h
  | cons s r ih =>
    intro h p hp
    cases s with
    | ClassDef n x1 x2 b0 x3 x4 x5 x6 x7 x8 x9 =>
      have h' : (match seq C n with | true => some b0 | false => findCls C r) = some b := h
      show (C, p.1, p.2) ∈ (funsOf b0).map (fun p => (n, p.1, p.2)) ++ methsOf r
      cases hs : seq C n with
      | true => rw [hs] at h'; cases h'; rw [seq_iff.mp hs]; exact List.mem_append_left _ (List.mem_map.mpr ⟨p, hp, rfl⟩)
      | false => rw [hs] at h'; exact List.mem_append_right _ (ih h' p hp)
    | _ => exact ih h p hp
theorem split_none : ∀ {l : List Nat}, splitDot l = none ↔ (!l.any (Nat.beq 46)) = true
  | [] => ⟨fun _ => rfl, fun _ => rfl⟩
  | c :: r => by
    show (match Nat.beq c 46 with | true => some ([], r) | false => (splitDot r).map fun (p : List Nat × List Nat) => (c :: p.1, p.2)) = none ↔ (!(Nat.beq 46 c || r.any (Nat.beq 46))) = true
    cases h : Nat.beq c 46 with
    | true => rw [Nat.eq_of_beq_eq_true h, Nat.beq_refl]; exact ⟨nofun, nofun⟩
    | false =>
      have : Nat.beq 46 c = false := by
        cases h2 : Nat.beq 46 c with
        | false => rfl
        | true => rw [← Nat.eq_of_beq_eq_true h2, Nat.beq_refl] at h; cases h
      rw [this, Bool.false_or]
      exact Option.map_eq_none_iff.trans split_none
theorem split_at {m : List Nat} : ∀ {l : List Nat}, (!l.any (Nat.beq 46)) = true → splitDot (l ++ 46 :: m) = some (l, m)
  | [], _ => rfl
  | c :: r, h => by
    have h' : (!(Nat.beq 46 c || r.any (Nat.beq 46))) = true := h
    show (match Nat.beq c 46 with | true => some ([], r ++ 46 :: m) | false => (splitDot (r ++ 46 :: m)).map fun (p : List Nat × List Nat) => (c :: p.1, p.2)) = _
    cases h1 : Nat.beq 46 c with
    | true => rw [h1] at h'; cases h'
    | false =>
      rw [h1] at h'
      have : Nat.beq c 46 = false := by
        cases h2 : Nat.beq c 46 with
        | false => rfl
        | true => rw [Nat.eq_of_beq_eq_true h2, Nat.beq_refl] at h1; cases h1
      rw [this, split_at h']; rfl
theorem dot_list (C m : Str) : (C ++ "." ++ m).cps.toList = C.cps.toList ++ 46 :: m.cps.toList := by
  show (C.cps ++ #[46] ++ m.cps).toList = _
  simp
theorem str_of (s : Str) : (⟨s.cps.toList.toArray⟩ : Str) = s := by cases s; simp
theorem tab_cases {f : Str} {fi : FnInfo} (h : tab f = some fi) : (splitDot f.cps.toList = none ∧ (f, fi) ∈ allFuns) ∨ ∃ C m : List Nat, splitDot f.cps.toList = some (C, m) ∧ ((⟨C.toArray⟩ : Str), (⟨m.toArray⟩ : Str), fi) ∈ allMeths := by
  have h' : (match splitDot f.cps.toList with | some p => (match findCls ⟨p.1.toArray⟩ prog.main.body with | some b => findDef ⟨p.2.toArray⟩ b | none => none) | none => findDef f prog.main.body) = some fi := h
  cases hs : splitDot f.cps.toList with
  | none => rw [hs] at h'; exact .inl ⟨rfl, findDef_mem h'⟩
  | some p =>
    rw [hs] at h'
    refine .inr ⟨p.1, p.2, rfl, ?_⟩
    have h2 : (match findCls ⟨p.1.toArray⟩ prog.main.body with | some b => findDef ⟨p.2.toArray⟩ b | none => none) = some fi := h'
    cases hc : findCls ⟨p.1.toArray⟩ prog.main.body with
    | none => rw [hc] at h2; exact none_some h2
    | some b => rw [hc] at h2; exact findCls_mem hc _ (findDef_mem h2)
noncomputable def infos : List FnInfo := allFuns.map (·.2) ++ allMeths.map (·.2.2)
theorem info_of {f : Str} {fi : FnInfo} (h : tab f = some fi) : fi ∈ infos := by
  rcases tab_cases h with ⟨_, h⟩ | ⟨C, m, _, h⟩
  · exact List.mem_append_left _ (List.mem_map.mpr ⟨_, h, rfl⟩)
  · exact List.mem_append_right _ (List.mem_map.mpr ⟨_, h, rfl⟩)

/-! what is so of the text alone -/
noncomputable def nodupB : List Str → Bool
  | [] => true
  | x :: r => !memS x r && nodupB r
theorem nodup_of : ∀ {l : List Str}, nodupB l = true → l.Nodup
  | [], _ => .nil
  | x :: r, h => by
    obtain ⟨h1, h2⟩ := and_iff.mp h
    exact List.nodup_cons.mpr ⟨fun hm => (by rw [memS_iff.mpr hm] at h1; cases h1), nodup_of h2⟩
noncomputable def infoB (fi : FnInfo) : Bool := (paramNames fi.params).all (ownName fi.scope) && (nodupB (paramNames fi.params) && (!fi.scope.isCoroutine && (!fi.scope.isGenerator && decide (fi.scope.kind = .function))))
theorem infos_ok : infos.all infoB = true := by kernel_rfl
theorem infos_bind : (fun (name qual : Str) (kV doc pm : Value) (an : Option Addr) (cdv ct : Value) (g : Nat → Value) => infos.map fun fi => bindArgs (fnOf name qual fi.params fi.body fi.scope .none kV doc pm an cdv ct) ⟨(List.range (paramNames fi.params).length).map g, []⟩) =
    fun name qual kV doc pm an cdv ct g => infos.map fun fi => pure ((paramNames fi.params).zip ((List.range (paramNames fi.params).length).map g)) := by kernel_rfl
end Mine

set_option maxRecDepth 100000
set_option linter.unusedVariables false
set_option linter.unusedSimpArgs false
namespace Mine
open PySem PySem.W PySem.Calls PyProof.Rows

theorem bind_ok {fi : FnInfo} (h : fi ∈ infos) (name qual : Str) (kV doc pm : Value) (an : Option Addr) (cdv ct : Value) (vals : List Value) (hl : vals.length = (paramNames fi.params).length) :
    bindArgs (fnOf name qual fi.params fi.body fi.scope .none kV doc pm an cdv ct) ⟨vals, []⟩ = pure ((paramNames fi.params).zip vals) := by
  have e : (List.range (paramNames fi.params).length).map (fun i => vals.getD i .none) = vals := by
    rw [← hl]
    apply List.ext_getElem
    · simp
    · intro i h1 h2
      simp [List.getElem?_eq_getElem h2]
  have h1 := congrFun (congrFun (congrFun (congrFun (congrFun (congrFun (congrFun (congrFun (congrFun infos_bind name) qual) kV) doc) pm) an) cdv) ct) fun i => vals.getD i .none
  have h2 := List.map_inj_left.mp h1 fi h
  rw [e] at h2
  exact h2

/-! the classes' makers -/
noncomputable def attrOf (e : Expr) : Option (Expr × Str) := match e with
  | .Attribute o a _ => some (o, a)
  | _ => none
theorem attrOf_inv {e : Expr} {p : Expr × Str} (h : attrOf e = some p) : ∃ pos, e = .Attribute p.1 p.2 pos := by
  cases e with
  | Attribute o a pos => cases h; exact ⟨pos, rfl⟩
  | _ => exact none_some h
noncomputable def setB (f : Str) (s : Stmt) : Bool := match s with
  | .Assign ts e _ => (match (one ts).bind attrOf with
    | some p => (match nameOf p.1 with
      | some x => (match nameOf e with
        | some y => seq x "self" && (seq p.2 f && seq y f)
        | none => false)
      | none => false)
    | none => false)
  | _ => false
noncomputable def initB : List Str → List Stmt → Bool
  | [], b => b.isEmpty
  | f :: fs, b => (match b with
    | s :: b => setB f s && initB fs b
    | [] => false)
theorem initB_ok : ∀ {fs : List Str} {b : List Stmt}, initB fs b = true → InitBody fs b := by
  intro fs
  induction fs with
  | nil =>
    intro b h
    cases b with
    | nil => exact .nil
    | cons _ _ => cases h
  | cons f fs ih =>
    intro b h
    cases b with
    | nil => cases h
    | cons s b =>
      obtain ⟨h1, h2⟩ := and_iff.mp h
      cases s with
      | Assign ts e pos =>
        have h1 : (match (one ts).bind attrOf with | some p => (match nameOf p.1 with | some x => (match nameOf e with | some y => seq x "self" && (seq p.2 f && seq y f) | none => false) | none => false) | none => false) = true := h1
        cases ha : (one ts).bind attrOf with
        | none => rw [ha] at h1; cases h1
        | some p =>
          rw [ha] at h1
          obtain ⟨t, k1, k2⟩ := bind_some ha
          obtain ⟨pp, rfl⟩ := attrOf_inv k2
          have h1 : (match nameOf p.1 with | some x => (match nameOf e with | some y => seq x "self" && (seq p.2 f && seq y f) | none => false) | none => false) = true := h1
          cases hx : nameOf p.1 with
          | none => rw [hx] at h1; cases h1
          | some x =>
            rw [hx] at h1
            have h1 : (match nameOf e with | some y => seq x "self" && (seq p.2 f && seq y f) | none => false) = true := h1
            cases hy : nameOf e with
            | none => rw [hy] at h1; cases h1
            | some y =>
              rw [hy] at h1
              obtain ⟨e1, h1⟩ := and_iff.mp h1
              obtain ⟨e2, e3⟩ := and_iff.mp h1
              obtain ⟨q1, q2⟩ := nameOf_inv hx
              obtain ⟨q3, q4⟩ := nameOf_inv hy
              rw [one_inv k1, q2, q4, seq_iff.mp e1, seq_iff.mp e2, seq_iff.mp e3]
              exact .cons (ih h2)
      | _ => cases h1
noncomputable def eqS : List Str → List Str → Bool
  | [], y => y.isEmpty
  | a :: x, y => (match y with
    | b :: y => seq a b && eqS x y
    | [] => false)
theorem eqS_iff : ∀ {x y : List Str}, eqS x y = true → x = y
  | [], [], _ => rfl
  | [], _ :: _, h => nomatch h
  | _ :: _, [], h => nomatch h
  | a :: x, b :: y, h => by
    obtain ⟨h1, h2⟩ := and_iff.mp h
    rw [seq_iff.mp h1, eqS_iff h2]
noncomputable def clsB (p : Str × List Str) : Bool := noDot p.1 && (match tab (initName p.1) with
  | some fi => initB p.2 fi.body && (eqS (paramNames fi.params) (("self" : Str) :: p.2) && (("self" : Str) :: p.2).all fun x => kindIs fi.scope x .local)
  | none => false)
theorem classes_ok : classes.all clsB = true := by kernel_rfl
theorem cls_mem {C : Str} {fs : List Str} (h : classFields C = some fs) : (C, fs) ∈ classes := by
  have : ∀ {l : List (Str × List Str)}, lk C l = some fs → (C, fs) ∈ l := fun {l} => by
    induction l with
    | nil => intro h; exact none_some h
    | cons p r ih =>
      intro h
      have h' : (match seq C p.1 with | true => some p.2 | false => lk C r) = some fs := h
      cases hs : seq C p.1 with
      | true => rw [hs] at h'; cases h'; rw [seq_iff.mp hs]; exact .head _
      | false => rw [hs] at h'; exact .tail _ (ih h')
  exact this h
end Mine

set_option maxRecDepth 100000
set_option linter.unusedVariables false
set_option linter.unusedSimpArgs false
namespace Mine
open PySem PySem.W PySem.Calls PyProof.Rows

theorem meths_ok : allMeths.all (fun p => match classFields p.1 with | some fs => !memS p.2.1 fs | none => true) = true := by kernel_rfl
section
variable (K : Frag)
noncomputable def refOf (o : Option (Option Value)) : Addr := match o with
  | some v => (match v with
    | some v => (match v with | .ref a => a | _ => 0)
    | none => 0)
  | none => 0
noncomputable def clsA (C : Str) : Addr := refOf (nsIn K mainGlobals C)
noncomputable def methA (C m : Str) : Addr := refOf (findIn K (.ref (clsA K C)) m)
noncomputable def fnA (f : Str) : Addr := match splitDot f.cps.toList with
  | some p => methA K ⟨p.1.toArray⟩ ⟨p.2.toArray⟩
  | none => refOf (nsIn K mainGlobals f)
noncomputable def kwA : Addr := refOf (nsIn K mainGlobals "KEY_WORDS")
noncomputable def fdIn (a : Addr) : Option FuncData := match K.lookup a with
  | some o => (match o.data with | .func fd => some fd | _ => none)
  | none => none
noncomputable def shape (fi : FnInfo) (fd : FuncData) : FuncData := fnOf fd.name fd.qualname fi.params fi.body fi.scope .none fd.kwdefaults fd.doc fd.pyModule fd.annotations fd.code fd.closureTuple
noncomputable def objsK : List (Addr × FnInfo) := allFuns.map (fun p => (refOf (nsIn K mainGlobals p.1), p.2)) ++ allMeths.map fun p => (methA K p.1 p.2.1, p.2.2)
noncomputable def fdB (a : Addr) : Bool := match fdIn K a with
  | some fd => keepIn K (.ref a) && codeIn K fd.code fd.qualname
  | none => false
noncomputable def clsL (p : Str × List Str) : List (Option (Option Value)) × List Bool × List (Option Bool) × Option Value × List (Option (Option Value)) :=
  ([nsIn K mainGlobals p.1, findIn K (.ref (clsA K p.1)) "__getattribute__", findIn K (.ref (clsA K p.1)) "__getattr__", findIn K (.ref (clsA K p.1)) "__class__", specialIn K (.builtin "object.__class__") "__get__", findIn K (.ref (clsA K p.1)) "__init__", findIn K (.ref (clsA K p.1)) "__setattr__"] ++ p.2.map (findIn K (.ref (clsA K p.1))),
    [hasDictIn K (clsA K p.1), plainGet K (clsA K p.1) "__class__", makesIn K (clsA K p.1), keepIn K (.ref (clsA K p.1)), plainOver K (clsA K p.1)],
    [takesIn K (.builtin "object.__class__"), mroIn K (clsA K p.1) (.type "object")] ++ classes.map (fun q => kitOne K (.ref (clsA K p.1)) (.ref (clsA K q.1))),
    typeIn K (.ref (methA K p.1 "__init__")), p.2.map (takerIn K (clsA K p.1)))
noncomputable def clsR (p : Str × List Str) : List (Option (Option Value)) × List Bool × List (Option Bool) × Option Value × List (Option (Option Value)) :=
  ([some (some (.ref (clsA K p.1))), some (some (.builtin "object.__getattribute__")), some none, some (some (.builtin "object.__class__")), some (some (.builtin "getset_descriptor.__get__")), some (some (.ref (methA K p.1 "__init__"))), some (some (.builtin "object.__setattr__"))] ++ p.2.map (fun _ => some none),
    [true, true, true, true, true], [some true, some true] ++ classes.map (fun q => some (seq p.1 q.1)), some (.type "function"), p.2.map fun _ => some none)
noncomputable def strAt (o : Option (Option Value)) : Option Str := match o with
  | some v => (match v with
    | some v => (match v with | .str s _ => some s | _ => none)
    | none => none)
  | none => none
noncomputable def strsIn : List Value → Option (List Str)
  | [] => some []
  | v :: r => (match v with
    | .str s _ => (strsIn r).map (s :: ·)
    | _ => none)
noncomputable def tupIn (a : Addr) : Option (Value × List Str) := match K.lookup a with
  | some o => (match o.data with
    | .seq its _ => (strsIn its.toList).map fun l => (o.cls, l)
    | _ => none)
  | none => none
/-- all that is asked of the written part -/
structure KOK : Prop where
  f1 : allFuns.map (fun p => nsIn K mainGlobals p.1) = allFuns.map fun p => some (some (.ref (refOf (nsIn K mainGlobals p.1))))
  m1 : allMeths.map (fun p => (findIn K (.ref (clsA K p.1)) p.2.1, typeIn K (.ref (methA K p.1 p.2.1)))) = allMeths.map fun p => (some (some (.ref (methA K p.1 p.2.1))), some (.type "function"))
  e1 : (objsK K).map (fun p => fdIn K p.1) = (objsK K).map fun p => (fdIn K p.1).map (shape p.2)
  e2 : (objsK K).all (fun p => fdB K p.1) = true
  b1 : bltNames.map (nsIn K mainGlobals) = bltNames.map fun _ => some none
  c1 : classes.map (clsL K) = classes.map (clsR K)
  nb : strAt (nsIn K mainGlobals "NEVER_BARE") = some neverBare
  kw : nsIn K mainGlobals "KEY_WORDS" = some (some (.ref (kwA K)))
  kwT : tupIn K (kwA K) = some (Value.type "tuple", keyWords)
end
section
variable {K : Frag}
theorem fn_mem {f : Str} {fi : FnInfo} (h : tab f = some fi) : (fnA K f, fi) ∈ objsK K := by
  unfold fnA objsK
  cases tab_cases h with
  | inl x => rw [x.1]; exact List.mem_append_left _ (List.mem_map.mpr ⟨_, x.2, rfl⟩)
  | inr x =>
    obtain ⟨C, m, e, hm⟩ := x
    rw [e]; exact List.mem_append_right _ (List.mem_map.mpr ⟨_, hm, rfl⟩)
theorem fn_dot {C m : Str} (h : noDot C = true) : fnA K (C ++ "." ++ m) = methA K C m := by
  unfold fnA
  rw [dot_list, split_at h]
theorem strAt_inv {o : Option (Option Value)} {s : Str} (h : strAt o = some s) : ∃ t, o = some (some (.str s t)) := by
  cases o with
  | none => exact none_some h
  | some v =>
    cases v with
    | none => exact none_some h
    | some v =>
      cases v with
      | str x t => cases h; exact ⟨t, rfl⟩
      | _ => exact none_some h
theorem strsIn_rep {c : Cx} {F : Fz} {h : Heap} : ∀ {vs : List Value} {l : List Str}, strsIn vs = some l → Reps c F h vs (l.map .str) := by
  intro vs
  induction vs with
  | nil => intro l e; cases e; exact .nil
  | cons v r ih =>
    intro l e
    cases v with
    | str s t => obtain ⟨y, h1, rfl⟩ := map_some e; exact .cons (.str _ _) (ih h1)
    | _ => exact none_some e
theorem fdIn_inv {a : Addr} {fd : FuncData} (h : fdIn K a = some fd) : ∃ oc od osl, K.lookup a = some ⟨oc, od, .func fd, osl⟩ := by
  unfold fdIn at h
  cases hl : K.lookup a with
  | none => rw [hl] at h; exact none_some h
  | some o =>
    rw [hl] at h
    obtain ⟨oc, od, dt, osl⟩ := o
    cases dt with
    | func f => cases h; exact ⟨oc, od, osl, rfl⟩
    | _ => exact none_some h
variable {c : Cx} (k : KOK c.K) (hc : c.cls = clsA c.K) (hf : c.fn = fnA c.K) (hw : c.kw = kwA c.K)
include k hc hf
theorem cls_eq {C : Str} {fs : List Str} (h : classFields C = some fs) : clsL c.K (C, fs) = clsR c.K (C, fs) := List.map_inj_left.mp k.c1 _ (cls_mem h)
theorem ClsOK.of {C : Str} {fs : List Str} (h : classFields C = some fs) : ClsOK c C fs := by
  obtain ⟨e1, e⟩ := Prod.mk.inj (cls_eq k hc hf h)
  obtain ⟨e2, e⟩ := Prod.mk.inj e
  obtain ⟨e3, e⟩ := Prod.mk.inj e
  obtain ⟨a1, e1⟩ := List.cons.inj e1
  obtain ⟨a2, e1⟩ := List.cons.inj e1
  obtain ⟨a3, e1⟩ := List.cons.inj e1
  obtain ⟨a4, e1⟩ := List.cons.inj e1
  obtain ⟨a5, e1⟩ := List.cons.inj e1
  obtain ⟨a6, e1⟩ := List.cons.inj e1
  obtain ⟨a7, e1⟩ := List.cons.inj e1
  obtain ⟨b1, e2⟩ := List.cons.inj e2
  obtain ⟨b2, e2⟩ := List.cons.inj e2
  obtain ⟨d1, e3⟩ := List.cons.inj e3
  obtain ⟨d2, e3⟩ := List.cons.inj e3
  have e3 := List.map_inj_left.mp e3
  have e1 := List.map_inj_left.mp e1
  refine ⟨?_, ?_, ?_, ?_, ?_, ?_, ?_, a5, d1, ?_, fun D gs hD => ?_⟩ <;> rw [hc]
  · exact a1
  · exact a2
  · exact a3
  · exact b1
  · exact e1
  · exact b2
  · exact a4
  · exact d2
  · exact e3 _ (cls_mem hD)
theorem FnOK.of {f : Str} {fi : FnInfo} (h : tab f = some fi) : FnOK c f fi := by
  have hm := fn_mem (K := c.K) h
  have h1 := List.map_inj_left.mp k.e1 _ hm
  have h2 : (match fdIn c.K (fnA c.K f) with | some fd => keepIn c.K (.ref (fnA c.K f)) && codeIn c.K fd.code fd.qualname | none => false) = true := List.all_eq_true.mp k.e2 _ hm
  obtain ⟨i1, i⟩ := and_iff.mp (List.all_eq_true.mp infos_ok _ (info_of h))
  obtain ⟨i2, i⟩ := and_iff.mp i
  obtain ⟨i3, i⟩ := and_iff.mp i
  obtain ⟨i4, i5⟩ := and_iff.mp i
  cases hd : fdIn c.K (fnA c.K f) with
  | none => rw [hd] at h2; cases h2
  | some fd =>
    rw [hd] at h2
    obtain ⟨h2, h3⟩ := and_iff.mp h2
    have h1 : fdIn c.K (fnA c.K f) = (fdIn c.K (fnA c.K f)).map (shape fi) := h1
    rw [hd] at h1
    have h1 : fd = shape fi fd := Option.some.inj h1
    obtain ⟨oc, od, osl, hl⟩ := fdIn_inv hd
    refine ⟨by rw [hf]; exact h2, ⟨oc, od, osl, fd.name, fd.qualname, .none, fd.kwdefaults, fd.doc, fd.pyModule, fd.annotations, fd.code, fd.closureTuple, ?_, h3, fun vals hv => bind_ok (info_of h) _ _ _ _ _ _ _ _ vals hv⟩, fun x hx => List.all_eq_true.mp i1 x hx, nodup_of i2, not_tt i3, not_tt i4, of_decide_eq_true i5⟩
    rw [hf, hl]
    exact congrArg (fun z => some (Obj.mk oc od (.func z) osl)) h1
theorem InitOK.of {C : Str} {fs : List Str} (h : classFields C = some fs) : ∃ fi, tab (initName C) = some fi ∧ InitOK c C fs fi := by
  obtain ⟨hn, hb⟩ := and_iff.mp (List.all_eq_true.mp classes_ok _ (cls_mem h))
  have hb : (match tab (initName C) with | some fi => initB fs fi.body && (eqS (paramNames fi.params) (("self" : Str) :: fs) && (("self" : Str) :: fs).all fun x => kindIs fi.scope x .local) | none => false) = true := hb
  cases ht : tab (initName C) with
  | none => rw [ht] at hb; cases hb
  | some fi =>
    rw [ht] at hb
    obtain ⟨hb, hb2⟩ := and_iff.mp hb
    obtain ⟨hb2, hb3⟩ := and_iff.mp hb2
    have hfn : c.fn (initName C) = methA c.K C "__init__" := by rw [hf]; exact fn_dot hn
    obtain ⟨e1, e⟩ := Prod.mk.inj (cls_eq k hc hf h)
    obtain ⟨e2, e⟩ := Prod.mk.inj e
    obtain ⟨e3, e⟩ := Prod.mk.inj e
    obtain ⟨e4, e5⟩ := Prod.mk.inj e
    obtain ⟨a1, e1⟩ := List.cons.inj e1
    obtain ⟨a2, e1⟩ := List.cons.inj e1
    obtain ⟨a3, e1⟩ := List.cons.inj e1
    obtain ⟨a4, e1⟩ := List.cons.inj e1
    obtain ⟨a5, e1⟩ := List.cons.inj e1
    obtain ⟨a6, e1⟩ := List.cons.inj e1
    obtain ⟨a7, e1⟩ := List.cons.inj e1
    obtain ⟨b1, e2⟩ := List.cons.inj e2
    obtain ⟨b2, e2⟩ := List.cons.inj e2
    obtain ⟨b3, e2⟩ := List.cons.inj e2
    obtain ⟨b4, e2⟩ := List.cons.inj e2
    obtain ⟨b5, e2⟩ := List.cons.inj e2
    have e5 := List.map_inj_left.mp e5
    refine ⟨fi, rfl, ?_, ?_, ?_, ?_, ?_, ?_, ?_, initB_ok hb, eqS_iff hb2, fun x hx => ?_⟩
    · rw [hc]; exact b3
    · rw [hc]; exact b4
    · rw [hfn, hc]; exact a6
    · rw [hfn]; exact e4
    · rw [hc]; exact a7
    · rw [hc]; exact b5
    · rw [hc]; exact e5
    · have := kind_of (List.all_eq_true.mp hb3 x hx); exact ⟨this.2, this.1⟩
theorem TabOK.of : TabOK c where
  fn := fun f fi h => FnOK.of k hc hf h
  glob := fun f fi h hn => by
    rcases tab_cases h with ⟨e, hm⟩ | ⟨C, m, e, hm⟩
    · have : c.fn f = refOf (nsIn c.K mainGlobals f) := by rw [hf]; unfold fnA; rw [e]
      rw [this]
      exact List.map_inj_left.mp k.f1 _ hm
    · rw [split_none.mpr hn] at e; cases e
  init := fun C fs h => InitOK.of k hc hf h
  blt := fun f h => List.map_inj_left.mp k.b1 f (memS_iff.mp h)
  meth := fun C fs m fi h ht => by
    have hn := (and_iff.mp (List.all_eq_true.mp classes_ok _ (cls_mem h))).1
    rw [hf, fn_dot hn, hc]
    rcases tab_cases ht with ⟨e, hm⟩ | ⟨C', m', e, hm⟩
    · rw [dot_list, split_at hn] at e; cases e
    · rw [dot_list, split_at hn] at e
      cases e
      rw [str_of, str_of] at hm
      have h1 := List.map_inj_left.mp k.m1 _ hm
      obtain ⟨h1, h2⟩ := Prod.mk.inj h1
      have h3 : (match classFields C with | some fs => !memS m fs | none => true) = true := List.all_eq_true.mp meths_ok _ hm
      rw [h] at h3
      have h3 : (!memS m fs) = true := h3
      exact ⟨h1, fun hm => (by rw [memS_iff.mpr hm] at h3; cases h3), h2⟩
include hw
theorem Stat.of (hin : c.K.In c.h0) (hns : ∃ mg mb, c.h0.Ns mainGlobals mg ∧ c.h0.Ns builtinsNs mb ∧ ∀ x : Str, x ≠ "__name__" → mb x = bootBuiltins x) (hl : c.h0.NoLimit) : Stat c where
  inK := hin
  ns := hns
  nolimit := hl
  cls := fun C fs h => ClsOK.of k hc hf h
  nb := strAt_inv k.nb
  kw := by rw [hw]; exact k.kw
  kwT := by
    rw [hw]
    have h := k.kwT
    unfold tupIn at h
    cases hl : c.K.lookup (kwA c.K) with
    | none => rw [hl] at h; exact none_some h
    | some o =>
      rw [hl] at h
      obtain ⟨oc, od, dt, osl⟩ := o
      cases dt with
      | seq its n =>
        obtain ⟨l, h1, h2⟩ := map_some h
        obtain ⟨rfl, rfl⟩ := Prod.mk.inj h2
        exact ⟨its, ⟨_, hin _ _ hl, rfl, n, rfl⟩, fun F h => strsIn_rep h1⟩
      | _ => exact none_some h
end
end Mine

set_option maxRecDepth 100000
set_option linter.unusedVariables false
set_option linter.unusedSimpArgs false
namespace Mine
open PySem PySem.W PySem.Calls PyProof.Rows

theorem hasItems_int : ∀ {xs : List WData}, WShape.hasItems [] xs .int = true → ∃ l : List Int, xs = l.map .int
  | [], _ => ⟨[], rfl⟩
  | x :: r, h => by
    have h' : (WShape.has [] x .int && WShape.hasItems [] r .int) = true := h
    obtain ⟨h1, h2⟩ := and_iff.mp h'
    obtain ⟨l, rfl⟩ := hasItems_int h2
    cases x with
    | int i => exact ⟨i :: l, rfl⟩
    | _ => cases h1
theorem script_of {args : List WData} (h : WShape.hasAll [] args [.list .int] = true) : ∃ l : List Int, args = [.list (l.map .int)] := by
  cases args with
  | nil => cases h
  | cons x r =>
    have h' : (WShape.has [] x (.list .int) && WShape.hasAll [] r []) = true := h
    obtain ⟨h1, h2⟩ := and_iff.mp h'
    cases r with
    | cons _ _ => cases h2
    | nil =>
      cases x with
      | list xs =>
        have h1' : (WShape.hasItems [] xs .int || false) = true := h1
        rw [Bool.or_false] at h1'
        obtain ⟨l, rfl⟩ := hasItems_int h1'
        exact ⟨l, rfl⟩
      | _ => cases h1
theorem ints_rep {P : Params} {h : Heap} {c : Cx} {F : Fz} {h' : Heap} : ∀ {l : List Int} {vs : List Value}, WellAll P h vs (l.map .int) → Reps c F h' vs (l.map .int)
  | [], vs, w => by cases w; exact .nil
  | i :: l, vs, w => by
    cases w with
    | cons a r =>
      cases a
      exact .cons (.int _ _) (ints_rep r)
theorem caller_ok : AOK callerA 380 := ⟨rfl, by decide, by decide⟩
theorem law_done {w : World} {s₁ : Shared} {K : Frag} (k : KOK K) (X : K.In s₁.heap) {mg mb : Str → Option Value} (hg : s₁.heap.Ns mainGlobals mg) (hb : s₁.heap.Ns builtinsNs mb) (hbb : ∀ x : Str, x ≠ "__name__" → mb x = bootBuiltins x) (hl : s₁.heap.NoLimit) {fa : Addr} (hmg : mg "law" = some (.ref fa)) (hgens : s₁.gens = #[])
    {args : List WData} {vals : List Value} (hpre : PySem.Challenge.rw_pq0608_01.row.toRowW.claim.pre args = true) (hwl : WellAll w.params s₁.heap vals args) {cl : Str → Option Addr} {mean : ExcName → Option Value} :
    wpAny (model PySem.Challenge.rw_pq0608_01.row.toRowW.prog w) callerA (PySem.call (.ref fa) vals) (fun v s' => GoodWG PySem.Challenge.rw_pq0608_01.row.toRowW.claim cl mean args s₁ (.ok (.ret v)) s') (fun e s' => GoodWG PySem.Challenge.rw_pq0608_01.row.toRowW.claim cl mean args s₁ (.error e) s') s₁ := by
  have h1 : (WShape.hasAll [] args [.list .int] && PySem.Challenge.rw_pq0608_01.row.toRowW.pre.holds [] { args := args }) = true := hpre
  obtain ⟨l, rfl⟩ := script_of (and_iff.mp h1).1
  cases hwl with
  | cons a r =>
    cases r
    cases a with
    | @list sa vs _ ha hvs =>
      have T : Stat ⟨w, K, fnA K "law", clsA K, s₁.heap, kwA K, fnA K, true⟩ := Stat.of (c := ⟨w, K, fnA K "law", clsA K, s₁.heap, kwA K, fnA K, true⟩) k rfl rfl rfl X ⟨mg, mb, hg, hb, hbb⟩ hl
      have TB : TabOK ⟨w, K, fnA K "law", clsA K, s₁.heap, kwA K, fnA K, true⟩ := TabOK.of (c := ⟨w, K, fnA K "law", clsA K, s₁.heap, kwA K, fnA K, true⟩) k rfl rfl
      obtain ⟨oc, od, osl, name, qual, dV, kV, doc, pm, an, cdv, ct, hobj, _⟩ := (TB.fn _ _ law_tab).obj
      have hfo := X _ _ hobj
      have hfa : fa = fnA K "law" := by
        have e := mg_of X hg (TB.glob _ _ law_tab (by kernel_rfl))
        rw [e] at hmg
        exact (Value.ref.inj (Option.some.inj hmg)).symm
      obtain ⟨itk, ⟨ko, hko, _, kn, hkd⟩, _⟩ := T.kwT
      subst hfa
      refine law_call (c := ⟨w, K, fnA K "law", clsA K, s₁.heap, kwA K, fnA K, true⟩) T TB rfl (its := vs.toArray) ⟨_, ha⟩ (fun F h => by rw [List.toList_toArray]; exact ints_rep hvs) (get_some hfo) (fun e => ?_) (fun e => ?_) caller_ok rfl fun h' tk hk => ?_
      · have e : fnA K "law" = sa := e
        have hfo' : s₁.heap.get? (fnA K "law") = _ := hfo
        rw [e, ha] at hfo'
        cases hfo'
      · have e : fnA K "law" = kwA K := e
        have hfo' : s₁.heap.get? (fnA K "law") = _ := hfo
        have hko' : s₁.heap.get? (kwA K) = _ := hko
        rw [e, hko'] at hfo'
        cases hfo'
        cases hkd
      · exact ⟨.inl ⟨.bool true, .bool true, [], rfl, fun _ => rfl, .bool true, by kernel_rfl, fun _ => ⟨.nil, nofun⟩⟩, .of_keep hk, rfl, .of_eq hgens⟩
end Mine


set_option maxRecDepth 100000
set_option linter.unusedVariables false
namespace Mine
open PySem PySem.W PySem.Calls PyProof.Rows
/-! names that the head would fill with copies of what stands in the row; filled here, so that none are made -/
theorem whole.tw10000958634945066235 : True := trivial
theorem whole.tw10002100669626812175 : True := trivial
theorem whole.tw10007520593648235073 : True := trivial
theorem whole.tw10019450917411332427 : True := trivial
theorem whole.tw10025635815308576066 : True := trivial
theorem whole.tw10025991395723482450 : True := trivial
theorem whole.tw10084071824679271942 : True := trivial
theorem whole.tw10118140284582671090 : True := trivial
theorem whole.tw10144505478992762587 : True := trivial
theorem whole.tw10153838690179905649 : True := trivial
theorem whole.tw10178181129370835086 : True := trivial
theorem whole.tw1021466310418864216 : True := trivial
theorem whole.tw10219327507634694686 : True := trivial
theorem whole.tw10301362462094837657 : True := trivial
theorem whole.tw10332575325313852403 : True := trivial
theorem whole.tw10335108021726791369 : True := trivial
theorem whole.tw10339747121181971505 : True := trivial
theorem whole.tw10344827342348678470 : True := trivial
theorem whole.tw10438997657263567297 : True := trivial
theorem whole.tw10446497943914359417 : True := trivial
theorem whole.tw10461253832287612282 : True := trivial
theorem whole.tw10467399731503315703 : True := trivial
theorem whole.tw10472183733418339316 : True := trivial
theorem whole.tw1047630922221454212 : True := trivial
theorem whole.tw10499325594661192776 : True := trivial
theorem whole.tw10512695288386380341 : True := trivial
theorem whole.tw10565146586650446459 : True := trivial
theorem whole.tw10575155051959374697 : True := trivial
theorem whole.tw10590843552420965350 : True := trivial
theorem whole.tw10602399703277881627 : True := trivial
theorem whole.tw10616696396452150886 : True := trivial
theorem whole.tw10646667717487897683 : True := trivial
theorem whole.tw10654317064775040509 : True := trivial
theorem whole.tw1072497446573119103 : True := trivial
theorem whole.tw10749463760870054271 : True := trivial
theorem whole.tw10765999639320066096 : True := trivial
theorem whole.tw10795012362202508061 : True := trivial
theorem whole.tw10805158454514937742 : True := trivial
theorem whole.tw10832908153356258463 : True := trivial
theorem whole.tw10840090224303567227 : True := trivial
theorem whole.tw10870054701511900593 : True := trivial
theorem whole.tw10879388597655286671 : True := trivial
theorem whole.tw10887019763833697050 : True := trivial
theorem whole.tw10981959625080579500 : True := trivial
theorem whole.tw11018331769982298155 : True := trivial
theorem whole.tw11027412199618322810 : True := trivial
theorem whole.tw11030684522653666869 : True := trivial
theorem whole.tw11100186960236547562 : True := trivial
theorem whole.tw11124209341801176217 : True := trivial
theorem whole.tw1114806542021703131 : True := trivial
theorem whole.tw11187447588885237514 : True := trivial
theorem whole.tw11243603205920247706 : True := trivial
theorem whole.tw11357175057958205107 : True := trivial
theorem whole.tw11384259339768038936 : True := trivial
theorem whole.tw113900542113845248 : True := trivial
theorem whole.tw11401307502761735516 : True := trivial
theorem whole.tw11401351377558187561 : True := trivial
theorem whole.tw11409993775148365219 : True := trivial
theorem whole.tw11459245631466036986 : True := trivial
theorem whole.tw11462962801641711639 : True := trivial
theorem whole.tw11465640654943744700 : True := trivial
theorem whole.tw11476502588441444683 : True := trivial
theorem whole.tw11501073197159204048 : True := trivial
theorem whole.tw11670040512431834200 : True := trivial
theorem whole.tw11678933692714762019 : True := trivial
theorem whole.tw11690859581915506653 : True := trivial
theorem whole.tw11775131333759173506 : True := trivial
theorem whole.tw11777355322855799659 : True := trivial
theorem whole.tw11791088910183784695 : True := trivial
theorem whole.tw11793381155483064346 : True := trivial
theorem whole.tw1182916100746360932 : True := trivial
theorem whole.tw11836910150536664915 : True := trivial
theorem whole.tw11841974853317911985 : True := trivial
theorem whole.tw11952309323241053379 : True := trivial
theorem whole.tw11966515284280811977 : True := trivial
theorem whole.tw11975771152792504044 : True := trivial
theorem whole.tw12012580348766612465 : True := trivial
theorem whole.tw12044105500090777872 : True := trivial
theorem whole.tw12063277863729348616 : True := trivial
theorem whole.tw12064908160898778525 : True := trivial
theorem whole.tw12066178620653064874 : True := trivial
theorem whole.tw12077107353733055826 : True := trivial
theorem whole.tw12092817750456807627 : True := trivial
theorem whole.tw12098860561503762481 : True := trivial
theorem whole.tw12101772971524344381 : True := trivial
theorem whole.tw12111672374848980225 : True := trivial
theorem whole.tw12114987751065605754 : True := trivial
theorem whole.tw12148682045846793674 : True := trivial
theorem whole.tw1217171336636241682 : True := trivial
theorem whole.tw12186894253409539890 : True := trivial
theorem whole.tw12207685810698929643 : True := trivial
theorem whole.tw12219512705738599021 : True := trivial
theorem whole.tw12384220206497402333 : True := trivial
theorem whole.tw12384909515848061526 : True := trivial
theorem whole.tw1242133270297695508 : True := trivial
theorem whole.tw12474861257701531764 : True := trivial
theorem whole.tw12478609949429157409 : True := trivial
theorem whole.tw12484011378766964031 : True := trivial
theorem whole.tw12499812526503966003 : True := trivial
theorem whole.tw12548274353314379123 : True := trivial
theorem whole.tw1255956871972877904 : True := trivial
theorem whole.tw1256279898242784606 : True := trivial
theorem whole.tw12562849145585476731 : True := trivial
theorem whole.tw12598572606399187110 : True := trivial
theorem whole.tw12620984872611610876 : True := trivial
theorem whole.tw12652121759503069753 : True := trivial
theorem whole.tw1266484639899004939 : True := trivial
theorem whole.tw12740454516981205806 : True := trivial
theorem whole.tw12742087137024979937 : True := trivial
theorem whole.tw127423454215802840 : True := trivial
theorem whole.tw12762855891700095494 : True := trivial
theorem whole.tw12837657624499078638 : True := trivial
theorem whole.tw12850242359631670003 : True := trivial
theorem whole.tw12852820008105578649 : True := trivial
theorem whole.tw12920395458479335663 : True := trivial
theorem whole.tw12928932934922122878 : True := trivial
theorem whole.tw12967805889597932581 : True := trivial
theorem whole.tw12976933641374925533 : True := trivial
theorem whole.tw1299319290729411920 : True := trivial
theorem whole.tw13000713063990318526 : True := trivial
theorem whole.tw13018183266405097566 : True := trivial
theorem whole.tw13061340530893119238 : True := trivial
theorem whole.tw13110515450571257733 : True := trivial
theorem whole.tw13143666931850650640 : True := trivial
theorem whole.tw13149474316023798553 : True := trivial
theorem whole.tw13155097880312403346 : True := trivial
theorem whole.tw13156973312945586846 : True := trivial
theorem whole.tw1318554304652621475 : True := trivial
theorem whole.tw13213058742666125385 : True := trivial
theorem whole.tw1321319160052600332 : True := trivial
theorem whole.tw13285438998962464343 : True := trivial
theorem whole.tw13329942582686594379 : True := trivial
theorem whole.tw1335791156554467795 : True := trivial
theorem whole.tw13373713576854631141 : True := trivial
theorem whole.tw13429415011184726470 : True := trivial
theorem whole.tw13447532951914335906 : True := trivial
theorem whole.tw13463558215457259582 : True := trivial
theorem whole.tw13468676432958742306 : True := trivial
theorem whole.tw13478315594510353802 : True := trivial
theorem whole.tw1349178898306187914 : True := trivial
theorem whole.tw1350920760672359567 : True := trivial
theorem whole.tw13518702907885339924 : True := trivial
theorem whole.tw1353902047762577225 : True := trivial
theorem whole.tw1357757348178948127 : True := trivial
theorem whole.tw13664935262549406174 : True := trivial
theorem whole.tw13675596732203519343 : True := trivial
theorem whole.tw13719171679594634575 : True := trivial
theorem whole.tw13749801708979339770 : True := trivial
theorem whole.tw13760198194640045919 : True := trivial
theorem whole.tw137721658169608169 : True := trivial
theorem whole.tw13823951767099335047 : True := trivial
theorem whole.tw13829708278779851847 : True := trivial
theorem whole.tw13835169320686990480 : True := trivial
theorem whole.tw13908726913738637837 : True := trivial
theorem whole.tw13960669724093699300 : True := trivial
theorem whole.tw13962616709173656972 : True := trivial
theorem whole.tw13974613887430780637 : True := trivial
theorem whole.tw13989200534822022692 : True := trivial
theorem whole.tw14031613983174702221 : True := trivial
theorem whole.tw14117439955800268797 : True := trivial
theorem whole.tw14120694959671187261 : True := trivial
theorem whole.tw14138553856905868755 : True := trivial
theorem whole.tw14192229110069238088 : True := trivial
theorem whole.tw14291940718185398627 : True := trivial
theorem whole.tw14302830165969023719 : True := trivial
theorem whole.tw14328502944104624683 : True := trivial
theorem whole.tw14381574177426341226 : True := trivial
theorem whole.tw14395644662136614805 : True := trivial
theorem whole.tw14398639782218008916 : True := trivial
theorem whole.tw14398828562116658018 : True := trivial
theorem whole.tw14407849266092530191 : True := trivial
theorem whole.tw14457598465852218886 : True := trivial
theorem whole.tw14493418047887008292 : True := trivial
theorem whole.tw14590790631899776401 : True := trivial
theorem whole.tw14592908492388784131 : True := trivial
theorem whole.tw14621228733418778453 : True := trivial
theorem whole.tw14628220171574447489 : True := trivial
theorem whole.tw14654356449610600485 : True := trivial
theorem whole.tw14661705875561194100 : True := trivial
theorem whole.tw14671651394210877623 : True := trivial
theorem whole.tw1469495571348798126 : True := trivial
theorem whole.tw1470681187219097129 : True := trivial
theorem whole.tw14725644924352215136 : True := trivial
theorem whole.tw14756447051001558117 : True := trivial
theorem whole.tw14765760737338471991 : True := trivial
theorem whole.tw14776171463994254414 : True := trivial
theorem whole.tw14852934547574820571 : True := trivial
theorem whole.tw14857529406646634625 : True := trivial
theorem whole.tw14863180981096415481 : True := trivial
theorem whole.tw14875044017630859624 : True := trivial
theorem whole.tw1488662743745869538 : True := trivial
theorem whole.tw14916202748087371944 : True := trivial
theorem whole.tw14998389939795375158 : True := trivial
theorem whole.tw15001587830400145190 : True := trivial
theorem whole.tw15013576625721048695 : True := trivial
theorem whole.tw15015764479258077956 : True := trivial
theorem whole.tw15023153194108615335 : True := trivial
theorem whole.tw1509033169537457064 : True := trivial
theorem whole.tw15103685750691789098 : True := trivial
theorem whole.tw15105012252411618398 : True := trivial
theorem whole.tw15117479482001565679 : True := trivial
theorem whole.tw15206955865107345967 : True := trivial
theorem whole.tw15251578357679609785 : True := trivial
theorem whole.tw15264306265154332586 : True := trivial
theorem whole.tw15274856360797078626 : True := trivial
theorem whole.tw15285801702533195368 : True := trivial
theorem whole.tw1533094020690680647 : True := trivial
theorem whole.tw15401142651479110994 : True := trivial
theorem whole.tw15469157617142141710 : True := trivial
theorem whole.tw15490696404161045352 : True := trivial
theorem whole.tw15539963934695697727 : True := trivial
theorem whole.tw15590627282705473993 : True := trivial
theorem whole.tw15593880027393451032 : True := trivial
theorem whole.tw15652777202477211125 : True := trivial
theorem whole.tw15657491793718945610 : True := trivial
theorem whole.tw15680802009173567957 : True := trivial
theorem whole.tw15753584648845244147 : True := trivial
theorem whole.tw15761127226676153883 : True := trivial
theorem whole.tw15819564801051643881 : True := trivial
theorem whole.tw15835130817642446534 : True := trivial
theorem whole.tw15848567645679474065 : True := trivial
theorem whole.tw15860478810404352300 : True := trivial
theorem whole.tw1587768003098754325 : True := trivial
theorem whole.tw15930047269337530508 : True := trivial
theorem whole.tw15950631773475717186 : True := trivial
theorem whole.tw16039693123603110109 : True := trivial
theorem whole.tw16062187612904122858 : True := trivial
theorem whole.tw161333873384909080 : True := trivial
theorem whole.tw16146633858663668739 : True := trivial
theorem whole.tw16304597587823193687 : True := trivial
theorem whole.tw16316554137538487329 : True := trivial
theorem whole.tw1633898876240874773 : True := trivial
theorem whole.tw16342273516520970692 : True := trivial
theorem whole.tw16398205279857054297 : True := trivial
theorem whole.tw1640677438868554593 : True := trivial
theorem whole.tw16442795661328238356 : True := trivial
theorem whole.tw16467933323881711526 : True := trivial
theorem whole.tw16505068655815891843 : True := trivial
theorem whole.tw16529046165737248422 : True := trivial
theorem whole.tw16534474031926571727 : True := trivial
theorem whole.tw16544233456350748990 : True := trivial
theorem whole.tw16564990636065421569 : True := trivial
theorem whole.tw16586233370728154131 : True := trivial
theorem whole.tw16588625043399567139 : True := trivial
theorem whole.tw16595449952281916149 : True := trivial
theorem whole.tw16607669324509118938 : True := trivial
theorem whole.tw16616245412964173377 : True := trivial
theorem whole.tw16691007607992939502 : True := trivial
theorem whole.tw16708263669468244151 : True := trivial
theorem whole.tw16710806586956947785 : True := trivial
theorem whole.tw16721588368965777027 : True := trivial
theorem whole.tw16738726308800667447 : True := trivial
theorem whole.tw16739781802365451968 : True := trivial
theorem whole.tw16741440440132755172 : True := trivial
theorem whole.tw16800997667575721541 : True := trivial
theorem whole.tw16887156387777295879 : True := trivial
theorem whole.tw16912792503757511054 : True := trivial
theorem whole.tw1692622564874605650 : True := trivial
theorem whole.tw169747851870786472 : True := trivial
theorem whole.tw16986268789631483586 : True := trivial
theorem whole.tw1699034841665187622 : True := trivial
theorem whole.tw17022761755405916213 : True := trivial
theorem whole.tw17037309529492816295 : True := trivial
theorem whole.tw17044950167386977207 : True := trivial
theorem whole.tw17075553230084287909 : True := trivial
theorem whole.tw17169624498616045403 : True := trivial
theorem whole.tw17179786008130999086 : True := trivial
theorem whole.tw17195952149560314771 : True := trivial
theorem whole.tw17256302963761357986 : True := trivial
theorem whole.tw17295703372945214271 : True := trivial
theorem whole.tw17333791097184162534 : True := trivial
theorem whole.tw1733744953317856445 : True := trivial
theorem whole.tw17345702740947086796 : True := trivial
theorem whole.tw17395194986337826024 : True := trivial
theorem whole.tw17454085226186693669 : True := trivial
theorem whole.tw17463027529269885953 : True := trivial
theorem whole.tw17475311184863085016 : True := trivial
theorem whole.tw17510340352245238577 : True := trivial
theorem whole.tw17529894129228449367 : True := trivial
theorem whole.tw17596564616007521636 : True := trivial
theorem whole.tw17598439363315890097 : True := trivial
theorem whole.tw17641713804859348092 : True := trivial
theorem whole.tw1765076044715932963 : True := trivial
theorem whole.tw17692944630003236201 : True := trivial
theorem whole.tw17756055853247313500 : True := trivial
theorem whole.tw17768757769460313278 : True := trivial
theorem whole.tw17841917278309519415 : True := trivial
theorem whole.tw17870853324313594786 : True := trivial
theorem whole.tw17881794589497109145 : True := trivial
theorem whole.tw17886057370482458864 : True := trivial
theorem whole.tw17933440416606161858 : True := trivial
theorem whole.tw17948893368442150300 : True := trivial
theorem whole.tw17980908128825299112 : True := trivial
theorem whole.tw17991299263585117788 : True := trivial
theorem whole.tw17992364426957274132 : True := trivial
theorem whole.tw18002909038890314157 : True := trivial
theorem whole.tw18056553881098321084 : True := trivial
theorem whole.tw18060336119277286115 : True := trivial
theorem whole.tw18135788421098096370 : True := trivial
theorem whole.tw18145388855558949900 : True := trivial
theorem whole.tw18174217711786252908 : True := trivial
theorem whole.tw18186416632783805872 : True := trivial
theorem whole.tw18314547241281667657 : True := trivial
theorem whole.tw18315055452531851272 : True := trivial
theorem whole.tw18324492136986001645 : True := trivial
theorem whole.tw18354614867481654581 : True := trivial
theorem whole.tw18382394861701510011 : True := trivial
theorem whole.tw1859146779660683823 : True := trivial
theorem whole.tw1897105925431849711 : True := trivial
theorem whole.tw1902754551582867561 : True := trivial
theorem whole.tw1934810232205804993 : True := trivial
theorem whole.tw1999433592531618509 : True := trivial
theorem whole.tw2013318861076662011 : True := trivial
theorem whole.tw2021854409746315462 : True := trivial
theorem whole.tw2028823117376367632 : True := trivial
theorem whole.tw203428145850139289 : True := trivial
theorem whole.tw2047193779265307260 : True := trivial
theorem whole.tw2081632904089052959 : True := trivial
theorem whole.tw2083198920140632441 : True := trivial
theorem whole.tw213970696928864655 : True := trivial
theorem whole.tw2151346155558304222 : True := trivial
theorem whole.tw2155487761632659812 : True := trivial
theorem whole.tw2168223474955763204 : True := trivial
theorem whole.tw2198523743367551842 : True := trivial
theorem whole.tw2201306404548609547 : True := trivial
theorem whole.tw2249504304506360813 : True := trivial
theorem whole.tw2290268214366725154 : True := trivial
theorem whole.tw2302033354624455591 : True := trivial
theorem whole.tw2349701861695252166 : True := trivial
theorem whole.tw2362521522948952975 : True := trivial
theorem whole.tw2380868127642377217 : True := trivial
theorem whole.tw2401531773124529735 : True := trivial
theorem whole.tw2412972146837434115 : True := trivial
theorem whole.tw2439357469168130064 : True := trivial
theorem whole.tw2469003464257525574 : True := trivial
theorem whole.tw2504750193415952891 : True := trivial
theorem whole.tw2536362301702204066 : True := trivial
theorem whole.tw2558861820686608913 : True := trivial
theorem whole.tw2580061231857448207 : True := trivial
theorem whole.tw2608646628457097981 : True := trivial
theorem whole.tw2665807779830099079 : True := trivial
theorem whole.tw2685624786292725039 : True := trivial
theorem whole.tw2733790213765534055 : True := trivial
theorem whole.tw2777902329107566167 : True := trivial
theorem whole.tw2781955308351554444 : True := trivial
theorem whole.tw280920844665842053 : True := trivial
theorem whole.tw285988719286631819 : True := trivial
theorem whole.tw2896436902973227457 : True := trivial
theorem whole.tw2912573282932879776 : True := trivial
theorem whole.tw2959683903145980101 : True := trivial
theorem whole.tw2989192609971925910 : True := trivial
theorem whole.tw3013987120609738851 : True := trivial
theorem whole.tw302538394102154784 : True := trivial
theorem whole.tw3085902745639715626 : True := trivial
theorem whole.tw3099174332690161747 : True := trivial
theorem whole.tw3117049408229778687 : True := trivial
theorem whole.tw3118101993129739532 : True := trivial
theorem whole.tw3125283655325999989 : True := trivial
theorem whole.tw3127163415804763599 : True := trivial
theorem whole.tw3141554390599180669 : True := trivial
theorem whole.tw3150075250938504248 : True := trivial
theorem whole.tw3162264621223815677 : True := trivial
theorem whole.tw3162365515331879682 : True := trivial
theorem whole.tw3166543957339863982 : True := trivial
theorem whole.tw3243557710152264731 : True := trivial
theorem whole.tw3280129329062278201 : True := trivial
theorem whole.tw3306209509626126654 : True := trivial
theorem whole.tw3336266095096057487 : True := trivial
theorem whole.tw3369746551918469629 : True := trivial
theorem whole.tw3384858237140249800 : True := trivial
theorem whole.tw3390907139478361160 : True := trivial
theorem whole.tw340442491454447764 : True := trivial
theorem whole.tw3467671131507365174 : True := trivial
theorem whole.tw3479739002732855021 : True := trivial
theorem whole.tw356215775963413058 : True := trivial
theorem whole.tw3604371722874584219 : True := trivial
theorem whole.tw3633373589777264862 : True := trivial
theorem whole.tw3687826684616867901 : True := trivial
theorem whole.tw369943808078234791 : True := trivial
theorem whole.tw3724477965614018403 : True := trivial
theorem whole.tw3733001107339715835 : True := trivial
theorem whole.tw3742335343461010818 : True := trivial
theorem whole.tw3798757254938238448 : True := trivial
theorem whole.tw3802398583823018356 : True := trivial
theorem whole.tw381110514646162275 : True := trivial
theorem whole.tw3817958767811374121 : True := trivial
theorem whole.tw3860174431591174066 : True := trivial
theorem whole.tw3869719713472690019 : True := trivial
theorem whole.tw3909395182359919685 : True := trivial
theorem whole.tw3935972832432928633 : True := trivial
theorem whole.tw3945383572190744343 : True := trivial
theorem whole.tw397210227534267232 : True := trivial
theorem whole.tw4024587099455181709 : True := trivial
theorem whole.tw4056270910917201831 : True := trivial
theorem whole.tw4107823604484434990 : True := trivial
theorem whole.tw4162360135600614074 : True := trivial
theorem whole.tw4180466227808675834 : True := trivial
theorem whole.tw420889256603489644 : True := trivial
theorem whole.tw4221266100470226451 : True := trivial
theorem whole.tw4234479992401935053 : True := trivial
theorem whole.tw431044224361937856 : True := trivial
theorem whole.tw4337987958061720545 : True := trivial
theorem whole.tw4338333698743118245 : True := trivial
theorem whole.tw4346055641746905949 : True := trivial
theorem whole.tw4347982837100205910 : True := trivial
theorem whole.tw435229417069212923 : True := trivial
theorem whole.tw4357746044423742650 : True := trivial
theorem whole.tw43722865635132848 : True := trivial
theorem whole.tw437534634077163847 : True := trivial
theorem whole.tw4444701892398472603 : True := trivial
theorem whole.tw4445204285082115520 : True := trivial
theorem whole.tw4447922135398794285 : True := trivial
theorem whole.tw4479364801722962140 : True := trivial
theorem whole.tw4516712372641221423 : True := trivial
theorem whole.tw4519558184572046095 : True := trivial
theorem whole.tw4535560162481520197 : True := trivial
theorem whole.tw4559885085590827626 : True := trivial
theorem whole.tw4603890583814415204 : True := trivial
theorem whole.tw4605417425148642151 : True := trivial
theorem whole.tw46433443316919834 : True := trivial
theorem whole.tw4672207989499910625 : True := trivial
theorem whole.tw4689585835679557668 : True := trivial
theorem whole.tw4725433933799282014 : True := trivial
theorem whole.tw4772658413541480157 : True := trivial
theorem whole.tw482805393138593929 : True := trivial
theorem whole.tw4897329129694005586 : True := trivial
theorem whole.tw4902818953507920398 : True := trivial
theorem whole.tw4909349585908861296 : True := trivial
theorem whole.tw4918820536221260690 : True := trivial
theorem whole.tw4934077235998201596 : True := trivial
theorem whole.tw4977384430496418070 : True := trivial
theorem whole.tw5001923725869043736 : True := trivial
theorem whole.tw5015864234111024480 : True := trivial
theorem whole.tw5055955640874334904 : True := trivial
theorem whole.tw5078443471013023264 : True := trivial
theorem whole.tw5081031077709457048 : True := trivial
theorem whole.tw5099900934548537757 : True := trivial
theorem whole.tw5137022389394785357 : True := trivial
theorem whole.tw5146043315109619605 : True := trivial
theorem whole.tw5159705281301196996 : True := trivial
theorem whole.tw5171116725156735389 : True := trivial
theorem whole.tw5189780602208921310 : True := trivial
theorem whole.tw5201323674647411954 : True := trivial
theorem whole.tw5233578499609466721 : True := trivial
theorem whole.tw5277582801102665213 : True := trivial
theorem whole.tw5297632933804744799 : True := trivial
theorem whole.tw5347751469082510105 : True := trivial
theorem whole.tw5349422690488739272 : True := trivial
theorem whole.tw5360207378560713126 : True := trivial
theorem whole.tw5408107943391738 : True := trivial
theorem whole.tw5433660331597885046 : True := trivial
theorem whole.tw5438831827131416888 : True := trivial
theorem whole.tw5460680643579594377 : True := trivial
theorem whole.tw5462770333876777704 : True := trivial
theorem whole.tw5507206668745343223 : True := trivial
theorem whole.tw5532809562029925614 : True := trivial
theorem whole.tw5542149417468696053 : True := trivial
theorem whole.tw561600600097829391 : True := trivial
theorem whole.tw5649241889958590350 : True := trivial
theorem whole.tw5682345275169407818 : True := trivial
theorem whole.tw5790326999694950120 : True := trivial
theorem whole.tw5798653541585068671 : True := trivial
theorem whole.tw5803101561360292368 : True := trivial
theorem whole.tw5804886461390523402 : True := trivial
theorem whole.tw5833760311655045577 : True := trivial
theorem whole.tw5879479702872096659 : True := trivial
theorem whole.tw5882343337706715899 : True := trivial
theorem whole.tw590541238101311183 : True := trivial
theorem whole.tw5938623499991607928 : True := trivial
theorem whole.tw5942346508108547180 : True := trivial
theorem whole.tw5997644934508616594 : True := trivial
theorem whole.tw60084206612377972 : True := trivial
theorem whole.tw6018008695308894833 : True := trivial
theorem whole.tw6049599900894316688 : True := trivial
theorem whole.tw6065093676875020208 : True := trivial
theorem whole.tw6067178945074143734 : True := trivial
theorem whole.tw6084657873442493111 : True := trivial
theorem whole.tw6095937858554715304 : True := trivial
theorem whole.tw6097748072631727781 : True := trivial
theorem whole.tw6150244297128479101 : True := trivial
theorem whole.tw6157455974558961167 : True := trivial
theorem whole.tw6159961993279768742 : True := trivial
theorem whole.tw6211587326476211309 : True := trivial
theorem whole.tw6233461465355520292 : True := trivial
theorem whole.tw6266228650988000492 : True := trivial
theorem whole.tw627836218701940097 : True := trivial
theorem whole.tw6290923202673413122 : True := trivial
theorem whole.tw6330323023686639657 : True := trivial
theorem whole.tw6330797023819526829 : True := trivial
theorem whole.tw6356627984389668255 : True := trivial
theorem whole.tw6377287985247879410 : True := trivial
theorem whole.tw6396017553259284124 : True := trivial
theorem whole.tw6416634858453334624 : True := trivial
theorem whole.tw6453619897266653623 : True := trivial
theorem whole.tw6472696656209681604 : True := trivial
theorem whole.tw6525215580464160042 : True := trivial
theorem whole.tw6612613915786651340 : True := trivial
theorem whole.tw668774492082921180 : True := trivial
theorem whole.tw6711224856247384401 : True := trivial
theorem whole.tw6714927969197098277 : True := trivial
theorem whole.tw6729497913010914082 : True := trivial
theorem whole.tw6734874506966982255 : True := trivial
theorem whole.tw6743021324641148519 : True := trivial
theorem whole.tw675793542917168019 : True := trivial
theorem whole.tw6766658173562982576 : True := trivial
theorem whole.tw6772379921613518395 : True := trivial
theorem whole.tw6774775609766916077 : True := trivial
theorem whole.tw6783627951005175229 : True := trivial
theorem whole.tw679095792406170707 : True := trivial
theorem whole.tw6823266097380344784 : True := trivial
theorem whole.tw6831798877050662096 : True := trivial
theorem whole.tw6866068747796929802 : True := trivial
theorem whole.tw6872907005359335961 : True := trivial
theorem whole.tw6888942637506950926 : True := trivial
theorem whole.tw6891315699540082446 : True := trivial
theorem whole.tw6896427876366098391 : True := trivial
theorem whole.tw6915089677183239634 : True := trivial
theorem whole.tw6933715213461094250 : True := trivial
theorem whole.tw697334722855355308 : True := trivial
theorem whole.tw7044430202487956475 : True := trivial
theorem whole.tw7056001396292377188 : True := trivial
theorem whole.tw7078629122812257199 : True := trivial
theorem whole.tw7101197657001211085 : True := trivial
theorem whole.tw715978364194892080 : True := trivial
theorem whole.tw7170908627224028889 : True := trivial
theorem whole.tw7181214704614307865 : True := trivial
theorem whole.tw7185185305316088854 : True := trivial
theorem whole.tw7187317218736086229 : True := trivial
theorem whole.tw7248877203947682478 : True := trivial
theorem whole.tw7276013540153241084 : True := trivial
theorem whole.tw7280849871689594849 : True := trivial
theorem whole.tw7315993881563675004 : True := trivial
theorem whole.tw7368006489180217709 : True := trivial
theorem whole.tw7391549574342816922 : True := trivial
theorem whole.tw7466904020207815869 : True := trivial
theorem whole.tw7545590854473540767 : True := trivial
theorem whole.tw7545654013535254480 : True := trivial
theorem whole.tw7564407027854533171 : True := trivial
theorem whole.tw7576292583959916747 : True := trivial
theorem whole.tw7582116766257987118 : True := trivial
theorem whole.tw7669669677095693358 : True := trivial
theorem whole.tw7728773200315073681 : True := trivial
theorem whole.tw7781976810680006178 : True := trivial
theorem whole.tw7856580471358416282 : True := trivial
theorem whole.tw7892903329919386008 : True := trivial
theorem whole.tw7910221479046277610 : True := trivial
theorem whole.tw7952383044827225310 : True := trivial
theorem whole.tw7977878525754885090 : True := trivial
theorem whole.tw7978788361824508945 : True := trivial
theorem whole.tw803728761352460389 : True := trivial
theorem whole.tw8101450032967502455 : True := trivial
theorem whole.tw8109663874093803249 : True := trivial
theorem whole.tw8181180424491326830 : True := trivial
theorem whole.tw8184708281838074206 : True := trivial
theorem whole.tw8243020233432551205 : True := trivial
theorem whole.tw8258574867067344367 : True := trivial
theorem whole.tw8309436690622926411 : True := trivial
theorem whole.tw8341004590406740810 : True := trivial
theorem whole.tw8350250358471643572 : True := trivial
theorem whole.tw8351164730277109312 : True := trivial
theorem whole.tw839066326680765439 : True := trivial
theorem whole.tw842793390314483620 : True := trivial
theorem whole.tw8443025263604155638 : True := trivial
theorem whole.tw8444963059077079450 : True := trivial
theorem whole.tw8454442166302862320 : True := trivial
theorem whole.tw8523286992835677893 : True := trivial
theorem whole.tw8529020170189433330 : True := trivial
theorem whole.tw8572516506043022915 : True := trivial
theorem whole.tw8602141644225615130 : True := trivial
theorem whole.tw8615399842404961663 : True := trivial
theorem whole.tw8699793337390238261 : True := trivial
theorem whole.tw8799044985600393684 : True := trivial
theorem whole.tw8868806382682364411 : True := trivial
theorem whole.tw8884531897199943920 : True := trivial
theorem whole.tw8894826161267586577 : True := trivial
theorem whole.tw8958452949930002773 : True := trivial
theorem whole.tw8961415085178454156 : True := trivial
theorem whole.tw8965215075514910880 : True := trivial
theorem whole.tw8983667203327932493 : True := trivial
theorem whole.tw9024608533772062355 : True := trivial
theorem whole.tw9033953771586226978 : True := trivial
theorem whole.tw9035394219717786629 : True := trivial
theorem whole.tw9046693723037758376 : True := trivial
theorem whole.tw9088682870026954680 : True := trivial
theorem whole.tw9200330197067421115 : True := trivial
theorem whole.tw9212966250080664162 : True := trivial
theorem whole.tw9242471422690250210 : True := trivial
theorem whole.tw9261806104794426953 : True := trivial
theorem whole.tw9315315907157715723 : True := trivial
theorem whole.tw9347626172496877827 : True := trivial
theorem whole.tw9406530864695525851 : True := trivial
theorem whole.tw9416693575131194153 : True := trivial
theorem whole.tw9446046918361872579 : True := trivial
theorem whole.tw9449955787129754595 : True := trivial
theorem whole.tw9464417701048127947 : True := trivial
theorem whole.tw948704589612583740 : True := trivial
theorem whole.tw949743934663060849 : True := trivial
theorem whole.tw9501391760213346845 : True := trivial
theorem whole.tw9521756469634577901 : True := trivial
theorem whole.tw9654072969724333583 : True := trivial
theorem whole.tw9685896690342822935 : True := trivial
theorem whole.tw9722750020625992282 : True := trivial
theorem whole.tw9725988738643398560 : True := trivial
theorem whole.tw9733464779038806419 : True := trivial
theorem whole.tw974242676711936875 : True := trivial
theorem whole.tw9748834850448372353 : True := trivial
theorem whole.tw9753940524135748638 : True := trivial
theorem whole.tw9775085227918541326 : True := trivial
theorem whole.tw978456291528864041 : True := trivial
theorem whole.tw9787344453429475573 : True := trivial
theorem whole.tw9838295914634562783 : True := trivial
theorem whole.tw9841425051670495895 : True := trivial
theorem whole.tw9851385603074314742 : True := trivial
theorem whole.tw9928940285681458246 : True := trivial
theorem whole.tw9951143050096045611 : True := trivial
theorem whole.tw9988426361468213469 : True := trivial
theorem whole.tw9994479494313819776 : True := trivial
end Mine
open PySem PySem.W PyProof.Rows
set_option Elab.async true in
set_option maxHeartbeats 8000000 in
theorem Mine.whole : PySem.Challenge.rw_pq0608_01.Holds := by
  w_on
  o_law
  k_head
  (case hw => w_witness2)
  intro w s₀ s₁ mg mb G Y fa o pm cd doc dV kV ho hd hcd hD hmg hg args vals as hpre hlay hrd hwl hlo
  exact Mine.law_done (Mine.KOK.mk (by kernel_rfl) (by kernel_rfl) (by kernel_rfl) (by kernel_rfl) (by kernel_rfl) (by kernel_rfl) (by kernel_rfl) (by kernel_rfl) (by kernel_rfl)) (kIn_of Y) G.T.g G.T.b G.T.builtins G.T.nolimit hmg hg hpre hwl
theorem PySem.Challenge.cw_pq0608_01_holds : PySem.Challenge.rw_pq0608_01.Holds := by
  exact Mine.whole
