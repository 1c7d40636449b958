import PyProof.Rows.All
import Wide.All
import OpenK.AllK
import Wide.FinOn
import PySem.Challenge.RW_rh0166_01
set_option Elab.async false
set_option maxRecDepth 100000
section
open PySem PySem.W PyProof.Rows
namespace Mine

inductive Bi where
  | len | range | enumerate | sorted | min | abs | any | sum | isinstance | list | int | bool | bytes
  deriving DecidableEq
inductive AV where
  | none | bool (b : Bool) | int (i : Int) | bytes (b : List UInt8) | ref (i : Nat) | top (a : Nat) | bi (b : Bi) | tab (k : Nat) (l : List Int)
  deriving Inhabited
inductive AO where
  | list (vs : List AV) | tup (vs : List AV) | dict (es : List (Int × AV)) | inst (C : Nat) (d : Nat) | attrs (fs : List (Str × AV)) | range (lo hi : Int) | dice | dead
  deriving Inhabited
inductive T where
  | nil
  | node (v : AO) (l r : T)
abbrev Fm := List (Str × AV)
structure S where
  h : T
  n : Nat
  o : List (Nat × Nat × AV)
inductive Fl where
  | next | cont | ret (v : AV)

/-! lists -/
noncomputable def nlEq (l : List Nat) : List Nat → Bool :=
  @List.rec Nat (fun _ => List Nat → Bool) (fun m => match m with | [] => true | _ :: _ => false)
    (fun a _ ih m => match m with | [] => false | b :: m' => match Nat.beq a b with | true => ih m' | false => false) l
noncomputable def seq (a b : Str) : Bool := nlEq a.cps.toList b.cps.toList
noncomputable def sget {α : Type} (l : List (Str × α)) (x : Str) : Option α :=
  @List.rec (Str × α) (fun _ => Option α) none (fun p _ ih => match seq p.1 x with | true => some p.2 | false => ih) l
noncomputable def sset {α : Type} (l : List (Str × α)) (x : Str) (v : α) : List (Str × α) :=
  @List.rec (Str × α) (fun _ => List (Str × α)) [(x, v)] (fun p r ih => match seq p.1 x with | true => (p.1, v) :: r | false => p :: ih) l
noncomputable def lget {α : Type} (l : List α) : Nat → Option α :=
  @List.rec α (fun _ => Nat → Option α) (fun _ => none) (fun a _ ih i => match i with | 0 => some a | i + 1 => ih i) l
noncomputable def lset {α : Type} (l : List α) (v : α) : Nat → List α :=
  @List.rec α (fun _ => Nat → List α) (fun _ => []) (fun a r ih i => match i with | 0 => v :: r | i + 1 => a :: ih i) l
noncomputable def llen {α : Type} (l : List α) : Nat := @List.rec α (fun _ => Nat) 0 (fun _ _ ih => Nat.succ ih) l
noncomputable def lapp {α : Type} (l m : List α) : List α := @List.rec α (fun _ => List α) m (fun a _ ih => a :: ih) l
noncomputable def ltake {α : Type} (l : List α) : Nat → List α :=
  @List.rec α (fun _ => Nat → List α) (fun _ => []) (fun a _ ih i => match i with | 0 => [] | i + 1 => a :: ih i) l
noncomputable def ldrop {α : Type} (l : List α) : Nat → List α :=
  @List.rec α (fun _ => Nat → List α) (fun _ => []) (fun a r ih i => match i with | 0 => a :: r | i + 1 => ih i) l
noncomputable def lmap? {α β : Type} (f : α → Option β) (l : List α) : Option (List β) :=
  @List.rec α (fun _ => Option (List β)) (some []) (fun a _ ih => match f a with | some b => (match ih with | some r => some (b :: r) | none => none) | none => none) l
noncomputable def lrep {α : Type} (n : Nat) (l : List α) : List α := @Nat.rec (fun _ => List α) [] (fun _ ih => lapp l ih) n

/-! ints -/
noncomputable def ieq (a b : Int) : Bool := match a, b with
  | .ofNat m, .ofNat n => Nat.beq m n
  | .negSucc m, .negSucc n => Nat.beq m n
  | _, _ => false
noncomputable def ile (a b : Int) : Bool := match a, b with
  | .ofNat m, .ofNat n => Nat.ble m n
  | .negSucc m, .negSucc n => Nat.ble n m
  | .negSucc _, .ofNat _ => true
  | .ofNat _, .negSucc _ => false
noncomputable def ilt (a b : Int) : Bool := match ile b a with | true => false | false => true
noncomputable def ilEq (l : List Int) : List Int → Bool :=
  @List.rec Int (fun _ => List Int → Bool) (fun m => match m with | [] => true | _ :: _ => false)
    (fun a _ ih m => match m with | [] => false | b :: m' => match ieq a b with | true => ih m' | false => false) l
noncomputable def beqB (a b : Bool) : Bool := match a, b with | true, true => true | false, false => true | _, _ => false
noncomputable def u8Eq (a b : UInt8) : Bool := Nat.beq a.toNat b.toNat
noncomputable def blEq (l : List UInt8) : List UInt8 → Bool :=
  @List.rec UInt8 (fun _ => List UInt8 → Bool) (fun m => match m with | [] => true | _ :: _ => false)
    (fun a _ ih m => match m with | [] => false | b :: m' => match u8Eq a b with | true => ih m' | false => false) l
/-- a dict's place of a key -/
noncomputable def dget (l : List (Int × AV)) (k : Int) : Option AV :=
  @List.rec (Int × AV) (fun _ => Option AV) none (fun p _ ih => match ieq p.1 k with | true => some p.2 | false => ih) l
noncomputable def dset (l : List (Int × AV)) (k : Int) (v : AV) : List (Int × AV) :=
  @List.rec (Int × AV) (fun _ => List (Int × AV)) [(k, v)] (fun p r ih => match ieq p.1 k with | true => (p.1, v) :: r | false => p :: ih) l
noncomputable def ddel (l : List (Int × AV)) (k : Int) : List (Int × AV) :=
  @List.rec (Int × AV) (fun _ => List (Int × AV)) [] (fun p r ih => match ieq p.1 k with | true => r | false => p :: ih) l

/-! the heap -/
noncomputable def T.get (t : T) : Nat → Option AO :=
  @T.rec (fun _ => Nat → Option AO) (fun _ => none)
    (fun v _ _ gl gr i => match Nat.beq i 0 with | true => some v | false => match Nat.beq (Nat.mod i 2) 1 with | true => gl (Nat.div i 2) | false => gr (Nat.sub (Nat.div i 2) 1)) t
noncomputable def T.put (o : AO) (t : T) : Nat → T :=
  @T.rec (fun _ => Nat → T) (fun _ => .node o .nil .nil)
    (fun v l r pl pr i => match Nat.beq i 0 with | true => .node o l r | false => match Nat.beq (Nat.mod i 2) 1 with | true => .node v (pl (Nat.div i 2)) r | false => .node v l (pr (Nat.sub (Nat.div i 2) 1))) t
noncomputable def S.get (s : S) (i : Nat) : Option AO := s.h.get i
noncomputable def S.put (s : S) (i : Nat) (o : AO) : S := ⟨s.h.put o i, s.n, s.o⟩
noncomputable def S.new (s : S) (o : AO) : Option (AV × S) := match (s.h.put o s.n).get s.n with
  | some _ => some (.ref s.n, ⟨s.h.put o s.n, Nat.succ s.n, s.o⟩)
  | none => none

noncomputable def small {α : Type} (l : List α) : Bool := Nat.ble (llen l) 1000
noncomputable def S.newL (s : S) (l : List AV) : Option (AV × S) := match small l with | true => s.new (.list l) | false => none
noncomputable def S.newT (s : S) (l : List AV) : Option (AV × S) := match small l with | true => s.new (.tup l) | false => none

/-! what the text's top says -/
structure Tabs where
  K : Frag
  rolled : Nat
  cls : List (Nat × Nat)
  mth : List (Nat × List (Str × Nat))
  own : List (Nat × List Str)
  tups : List (Nat × List Int)
  dcts : List (Nat × List (Int × AV))
noncomputable def someB (o : Option AV) : Bool := match o with | some _ => true | none => false
noncomputable def nget {α : Type} (l : List (Nat × α)) (x : Nat) : Option α :=
  @List.rec (Nat × α) (fun _ => Option α) none (fun p _ ih => match Nat.beq p.1 x with | true => some p.2 | false => ih) l
noncomputable def topAV : Value → Option AV
  | .none => some .none
  | .bool b => some (.bool b)
  | .int i _ => some (.int i)
  | .bytes b _ => some (.bytes b.toList)
  | .ref a => some (.top a)
  | _ => none
noncomputable def efind (l : List DictEntry) (x : Str) : Option Value :=
  @List.rec DictEntry (fun _ => Option Value) none (fun e _ ih => match e.key with | .str y _ => (match seq x y with | true => some e.val | false => ih) | _ => ih) l
noncomputable def biTab : List (Str × Bi) := [("len", .len), ("range", .range), ("enumerate", .enumerate), ("sorted", .sorted), ("min", .min), ("abs", .abs), ("any", .any), ("sum", .sum), ("isinstance", .isinstance), ("list", .list), ("int", .int), ("bool", .bool), ("bytes", .bytes)]

section
variable (Z : Tabs)
noncomputable def glob (x : Str) : Option AV := match nget Z.K 3 with
  | some ⟨_, _, .dict es _, _⟩ => (match efind es.toList x with
    | some v => topAV v
    | none => (match sget biTab x with | some b => some (.bi b) | none => none))
  | _ => none

noncomputable def constAV : Const → Option AV
  | .none => some .none
  | .bool b => some (.bool b)
  | .int i => some (.int i)
  | .bytes b => some (.bytes b)
  | _ => none

noncomputable def truth (s : S) : AV → Option Bool
  | .none => some false
  | .bool b => some b
  | .int i => some (match ieq i 0 with | true => false | false => true)
  | .ref i => (match s.get i with
    | some (.list vs) => some (match vs with | [] => false | _ :: _ => true)
    | _ => none)
  | _ => none

noncomputable def intOp (op : Operator) (a b : Int) : Option Int := match op with
  | .Add => some (Int.add a b)
  | .Sub => some (Int.sub a b)
  | .BitAnd => some (Builtin.bitAnd a b)
  | .BitOr => some (Builtin.bitOr a b)
  | .RShift => (match ile 0 b with | true => some (a.fdiv (2 ^ b.toNat)) | false => none)
  | .LShift => (match ile 0 b with
    | true => (match ile b 64 with
      | true => (match ilt a (2 ^ 64) with
        | true => (match ile 0 a with | true => some (a * 2 ^ b.toNat) | false => none)
        | false => none)
      | false => none)
    | false => none)
  | _ => none
noncomputable def binop (op : Operator) (a b : AV) (s : S) : Option (AV × S) := match a, b with
  | .int a, .int b => (match intOp op a b with | some c => some (.int c, s) | none => none)
  | .ref i, .ref j => (match op with
    | .Add => (match s.get i, s.get j with
      | some (.list l), some (.list m) => s.newL (lapp l m)
      | some (.tup l), some (.tup m) => (match l, m with
        | _ :: _, _ :: _ => s.newT (lapp l m)
        | _, _ => none)
      | _, _ => none)
    | _ => none)
  | _, _ => none

noncomputable def both (a b : Option Bool) : Option Bool := match a, b with
  | some true, some b => some b
  | some false, some _ => some false
  | _, _ => none
noncomputable def either (a b : Option Bool) : Option Bool := match a, b with
  | some true, some _ => some true
  | some false, some b => some b
  | _, _ => none
noncomputable def allEq (f : AV → AV → Option Bool) (l : List AV) : List AV → Option Bool :=
  @List.rec AV (fun _ => List AV → Option Bool) (fun m => match m with | [] => some true | _ :: _ => none)
    (fun a _ r m => match m with | [] => none | b :: m' => both (f a b) (r m')) l
/-- Python's == of two plain values (fuel: the depth) -/
noncomputable def eqv (s : S) : Nat → AV → AV → Option Bool :=
  @Nat.rec (fun _ => AV → AV → Option Bool) (fun _ _ => none) (fun _ ih a b => match a, b with
    | .none, .none => some true
    | .bool a, .bool b => some (beqB a b)
    | .int a, .int b => some (ieq a b)
    | .bytes a, .bytes b => some (blEq a b)
    | .tab k l, .tab j m => (match Nat.beq k j with | true => (match ilEq l m with | true => some true | false => none) | false => none)
    | .ref i, .ref j => (match s.get i, s.get j with
      | some (.list l), some (.list m) => (match Nat.beq (llen l) (llen m) with | true => allEq ih l m | false => some false)
      | some (.tup l), some (.tup m) => (match Nat.beq (llen l) (llen m) with | true => allEq ih l m | false => none)
      | _, _ => none)
    | _, _ => none)

noncomputable def intIn (l : List AV) (k : Int) : Option Bool :=
  @List.rec AV (fun _ => Option Bool) (some false) (fun a _ ih => match a with | .int b => either (some (ieq b k)) ih | _ => none) l
noncomputable def boolIn (l : List AV) (k : Bool) : Option Bool :=
  @List.rec AV (fun _ => Option Bool) (some false) (fun a _ ih => match a with | .bool b => either (some (beqB b k)) ih | _ => none) l
noncomputable def intsHas (l : List Int) (k : Int) : Bool :=
  @List.rec Int (fun _ => Bool) false (fun a _ ih => match ieq a k with | true => true | false => ih) l
noncomputable def isIn (s : S) (a b : AV) : Option Bool := match a, b with
  | .int k, .ref j => (match s.get j with
    | some (.list l) => intIn l k
    | some (.tup l) => intIn l k
    | some (.dict es) => some (someB (dget es k))
    | _ => none)
  | .bool k, .ref j => (match s.get j with
    | some (.list l) => boolIn l k
    | _ => none)
  | .int k, .top t => (match nget Z.tups t with
    | some l => some (intsHas l k)
    | none => (match nget Z.dcts t with
      | some es => some (someB (dget es k))
      | none => none))
  | _, _ => none
noncomputable def isNone : AV → Option Bool
  | .none => some true
  | .bi _ => none
  | _ => some false
noncomputable def cmp (op : CmpOp) (a b : AV) (s : S) : Option Bool := match op with
  | .Eq => eqv s 8 a b
  | .NotEq => (match eqv s 8 a b with | some r => some (!r) | none => none)
  | .Lt => (match a, b with | .int a, .int b => some (ilt a b) | _, _ => none)
  | .LtE => (match a, b with | .int a, .int b => some (ile a b) | _, _ => none)
  | .Gt => (match a, b with | .int a, .int b => some (ilt b a) | _, _ => none)
  | .GtE => (match a, b with | .int a, .int b => some (ile b a) | _, _ => none)
  | .Is => (match b with | .none => isNone a | _ => none)
  | .IsNot => (match b with | .none => (match isNone a with | some r => some (!r) | none => none) | _ => none)
  | .In => isIn Z s a b
  | .NotIn => (match isIn Z s a b with | some r => some (!r) | none => none)
noncomputable def unop (op : UnaryOp) (a : AV) (s : S) : Option AV := match op with
  | .Not => (match truth s a with | some b => some (.bool (!b)) | none => none)
  | .USub => (match a with | .int i => some (.int (Int.neg i)) | _ => none)
  | .Invert => (match a with | .int i => some (.int (Builtin.bitNot i)) | _ => none)
  | _ => none
noncomputable def index? (n : Nat) (k : Int) : Option Nat := match k with
  | .ofNat i => (match Nat.blt i n with | true => some i | false => none)
  | .negSucc i => (match Nat.blt i n with | true => some (Nat.sub n (Nat.succ i)) | false => none)
noncomputable def tabOf (vs : List AV) (l : List Int) : Option (List Int) :=
  lmap? (fun i => match i with
    | .ofNat i => (match lget vs i with | some (.int x) => some x | _ => none)
    | _ => none) l
noncomputable def item (a b : AV) (s : S) : Option AV := match a, b with
  | .ref i, .int k => (match s.get i with
    | some (.list l) => (match index? (llen l) k with | some j => lget l j | none => none)
    | some (.tup l) => (match index? (llen l) k with | some j => lget l j | none => none)
    | some (.dict es) => dget es k
    | _ => none)
  | .ref i, .tab k l => (match s.get i with
    | some (.list vs) => (match tabOf vs l with | some m => some (.tab k m) | none => none)
    | _ => none)
  | .top t, .int k => (match nget Z.dcts t with | some es => dget es k | none => none)
  | _, _ => none
noncomputable def natAV : AV → Option Nat
  | .int (.ofNat n) => some n
  | _ => none
noncomputable def slice (a : AV) (lo hi : Option AV) (s : S) : Option (AV × S) := match a with
  | .ref i => (match s.get i with
    | some (.list l) => (match (match lo with | none => some 0 | some v => natAV v), (match hi with | none => some (llen l) | some v => natAV v) with
      | some lo, some hi => s.newL (ldrop (ltake l hi) lo)
      | _, _ => none)
    | _ => none)
  | _ => none

/-! built-in functions, methods -/
noncomputable def ints? (l : List AV) : Option (List Int) :=
  @List.rec AV (fun _ => Option (List Int)) (some []) (fun a _ ih => match a, ih with | .int k, some m => some (k :: m) | _, _ => none) l
noncomputable def ofInts (l : List Int) : List AV := @List.rec Int (fun _ => List AV) [] (fun a _ ih => .int a :: ih) l
noncomputable def insI (k : Int) (l : List Int) : List Int :=
  @List.rec Int (fun _ => List Int) [k] (fun b r ih => match ile k b with | true => k :: b :: r | false => b :: ih) l
noncomputable def sortI (l : List Int) : List Int := @List.rec Int (fun _ => List Int) [] (fun a _ ih => insI a ih) l
noncomputable def sumI (l : List Int) : Int := @List.rec Int (fun _ => Int) 0 (fun a _ ih => Int.add a ih) l
noncomputable def anyB (l : List AV) : Option Bool :=
  @List.rec AV (fun _ => Option Bool) (some false) (fun a _ ih => match a with | .bool b => either (some b) ih | _ => none) l
noncomputable def isa : AV → Bi → Option Bool
  | .int _, .int => some true
  | .int _, .bool => some false
  | .bool _, .bool => some true
  | .bool _, .int => some true
  | _, _ => none
noncomputable def minI (a b : Int) : Int := match ilt b a with | true => b | false => a
noncomputable def minL (b : Int) (l : List Int) : List Int := @List.rec Int (fun _ => List Int) [] (fun a _ ih => minI a b :: ih) l
noncomputable def callBi (b : Bi) (args : List AV) (s : S) : Option (AV × S) := match b with
  | .len => (match args with
    | [.ref i] => (match s.get i with
      | some (.list l) => some (.int (.ofNat (llen l)), s)
      | _ => none)
    | _ => none)
  | .range => (match args with
    | [.int hi] => (match ile hi 1000 with | true => (match ile (-1000) hi with | true => s.new (.range 0 hi) | false => none) | false => none)
    | [.int lo, .int hi] => (match ile hi 1000 with
      | true => (match ile (-1000) hi with
        | true => (match ile lo 1000 with
          | true => (match ile (-1000) lo with | true => s.new (.range lo hi) | false => none)
          | false => none)
        | false => none)
      | false => none)
    | _ => none)
  | .sorted => (match args with
    | [.ref i] => (match s.get i with
      | some (.list l) => (match ints? l with
        | some m => (match Nat.ble (llen m) 60 with | true => s.newL (ofInts (sortI m)) | false => none)
        | none => none)
      | _ => none)
    | _ => none)
  | .min => (match args with
    | [.int a, .int b] => some (.int (minI a b), s)
    | [.tab k l, .int b] => some (.tab k (minL b l), s)
    | _ => none)
  | .any => (match args with
    | [.ref i] => (match s.get i with
      | some (.list l) => (match anyB l with | some b => some (.bool b, s) | none => none)
      | _ => none)
    | _ => none)
  | .sum => (match args with
    | [.ref i] => (match s.get i with
      | some (.list l) => (match ints? l with | some m => some (.int (sumI m), s) | none => none)
      | _ => none)
    | _ => none)
  | .isinstance => (match args with
    | [a, .bi t] => (match isa a t with | some b => some (.bool b, s) | none => none)
    | _ => none)
  | .list => (match args with
    | [.ref i] => (match s.get i with
      | some (.list l) => s.newL l
      | _ => none)
    | _ => none)
  | _ => none
noncomputable def lastOf (l : List AV) : Option (AV × List AV) :=
  @List.rec AV (fun _ => Option (AV × List AV)) none (fun a r ih => match r with | [] => some (a, []) | _ :: _ => (match ih with | some (x, m) => some (x, a :: m) | none => none)) l
noncomputable def idxI (l : List Int) (k : Int) : Nat → Option Nat :=
  @List.rec Int (fun _ => Nat → Option Nat) (fun _ => none) (fun a _ ih i => match ieq a k with | true => some i | false => ih (Nat.succ i)) l
noncomputable def orNone (o : Option AV) : AV := match o with | some v => v | none => .none
inductive Me where
  | append | extend | pop | index | get | dpop
noncomputable def listMe : List (Str × Me) := [("append", .append), ("extend", .extend), ("pop", .pop), ("index", .index)]
noncomputable def dictMe : List (Str × Me) := [("get", .get), ("pop", .dpop)]
noncomputable def callMe (m : Me) (i : Nat) (o : AO) (args : List AV) (s : S) : Option (AV × S) := match m with
  | .append => (match o, args with
    | .list l, [v] => (match small l with | true => some (.none, s.put i (.list (lapp l [v]))) | false => none)
    | _, _ => none)
  | .extend => (match o, args with
    | .list l, [.ref j] => (match s.get j with
      | some (.list m) => (match Nat.beq i j with | true => none | false => (match small (lapp l m) with | true => some (.none, s.put i (.list (lapp l m))) | false => none))
      | _ => none)
    | _, _ => none)
  | .pop => (match o, args with
    | .list l, [] => (match lastOf l with | some (x, m) => some (x, s.put i (.list m)) | none => none)
    | _, _ => none)
  | .index => (match o, args with
    | .list l, [.int k] => (match ints? l with
      | some m => (match idxI m k 0 with | some j => some (.int (.ofNat j), s) | none => none)
      | none => none)
    | _, _ => none)
  | .get => (match o, args with
    | .dict es, [.int k] => some (orNone (dget es k), s)
    | _, _ => none)
  | .dpop => (match o, args with
    | .dict es, [.int k] => (match dget es k with | some v => some (v, s.put i (.dict (ddel es k))) | none => none)
    | _, _ => none)

/-! iteration -/
inductive It where
  | list (i : Nat) (k : Nat)
  | range (cur hi : Int)
  | enum (i : Nat) (k : Nat)
noncomputable def itOf (v : AV) (s : S) : Option It := match v with
  | .ref i => (match s.get i with
    | some (.list _) => some (.list i 0)
    | some (.range lo hi) => some (.range lo hi)
    | _ => none)
  | _ => none
inductive Nx where
  | done
  | one (v : AV) (it : It)
  | two (a b : AV) (it : It)
noncomputable def next (it : It) (s : S) : Option Nx := match it with
  | .list i k => (match s.get i with
    | some (.list l) => (match lget l k with | some v => some (.one v (.list i (Nat.succ k))) | none => some .done)
    | _ => none)
  | .range cur hi => (match ilt cur hi with | true => some (.one (.int cur) (.range (Int.add cur 1) hi)) | false => some .done)
  | .enum i k => (match s.get i with
    | some (.list l) => (match lget l k with | some v => some (.two (.int (.ofNat k)) v (.enum i (Nat.succ k))) | none => some .done)
    | _ => none)

/-! the walk -/
structure R where
  ev : Scope → Expr → Fm → S → Option (AV × S)
  ts : Scope → Expr → Fm → S → Option (Bool × S)
  xs : Scope → List Stmt → Fm → S → Option (Fl × Fm × S)
  cl : AV → List AV → S → Option (AV × S)
  wl : Scope → Expr → List Stmt → Fm → S → Option (Fl × Fm × S)
  fo : Scope → Expr → It → List Stmt → Fm → S → Option (Fl × Fm × S)
  co : Scope → Expr → Str → List Expr → It → Nat → Fm → S → Option S

noncomputable def evs (r : R) (sc : Scope) (es : List Expr) (fm : Fm) : S → Option (List AV × S) :=
  @List.rec Expr (fun _ => S → Option (List AV × S)) (fun s => some ([], s)) (fun e _ ih s => match e with
    | .Starred _ _ => none
    | e => (match r.ev sc e fm s with
      | some (v, s) => (match ih s with | some (vs, s) => some (v :: vs, s) | none => none)
      | none => none)) es
/-- and, or: the value -/
noncomputable def bools (r : R) (sc : Scope) (op : BoolOp) (es : List Expr) (fm : Fm) : S → Option (AV × S) :=
  @List.rec Expr (fun _ => S → Option (AV × S)) (fun _ => none) (fun e rest ih s => match r.ev sc e fm s with
    | some (v, s) => (match rest with
      | [] => some (v, s)
      | _ :: _ => (match truth s v, op with
        | some false, .And => some (v, s)
        | some true, .Or => some (v, s)
        | some _, _ => ih s
        | none, _ => none))
    | none => none) es
noncomputable def tests (r : R) (sc : Scope) (op : BoolOp) (es : List Expr) (fm : Fm) : S → Option (Bool × S) :=
  @List.rec Expr (fun _ => S → Option (Bool × S)) (fun s => some (match op with | .And => true | .Or => false, s)) (fun e _ ih s => match r.ts sc e fm s with
    | some (b, s) => (match op, b with
      | .And, false => some (false, s)
      | .Or, true => some (true, s)
      | _, _ => ih s)
    | none => none) es
noncomputable def chain (r : R) (sc : Scope) (es : List Expr) (fm : Fm) : List CmpOp → AV → S → Option (Bool × S) :=
  @List.rec Expr (fun _ => List CmpOp → AV → S → Option (Bool × S)) (fun _ _ _ => none) (fun e rest ih ops a s => match ops with
    | [] => none
    | op :: ops => (match r.ev sc e fm s with
      | some (b, s) => (match cmp Z op a b s with
        | some c => (match rest with
          | [] => (match ops with | [] => some (c, s) | _ :: _ => none)
          | _ :: _ => (match ops with
            | [] => none
            | _ :: _ => (match c with | true => ih ops b s | false => some (false, s))))
        | none => none)
      | none => none)) es
noncomputable def compScope (sc cs : Scope) : Scope := { cs with names := cs.names.map fun (n, k) => if (k == .free && sc.kind == .function && (match sget sc.names n with | some .cell => true | _ => false)) then (n, .cell) else (n, k) }
noncomputable def attr (a : AV) (x : Str) (s : S) : Option AV := match a with
  | .ref i => (match s.get i with
    | some (.inst C d) => (match nget Z.own C with
      | some names => (match sget (names.map fun y => (y, ())) x with
        | some _ => (match s.get d with | some (.attrs fs) => sget fs x | _ => none)
        | none => none)
      | none => none)
    | _ => none)
  | _ => none
noncomputable def setAt (a : AV) (x : Str) (v : AV) (s : S) : Option S := match a with
  | .ref i => (match s.get i with
    | some (.inst C d) => (match nget Z.own C with
      | some names => (match sget (names.map fun y => (y, ())) x with
        | some _ => (match s.get d with | some (.attrs fs) => (match small fs with | true => some (s.put d (.attrs (sset fs x v))) | false => none) | _ => none)
        | none => none)
      | none => none)
    | _ => none)
  | _ => none
noncomputable def setIt (a b v : AV) (s : S) : Option S := match a, b with
  | .ref i, .int k => (match s.get i with
    | some (.list l) => (match k with
      | .ofNat j => (match Nat.blt j (llen l) with | true => some (s.put i (.list (lset l v j))) | false => none)
      | _ => none)
    | some (.dict es) => (match small es with | true => some (s.put i (.dict (dset es k v))) | false => none)
    | _ => none)
  | _, _ => none
/-- a method is looked up -/
inductive Mt where
  | fn (f : Nat) (first : List AV)
  | me (m : Me) (i : Nat)
noncomputable def methOf (a : AV) (x : Str) (s : S) : Option Mt := match a with
  | .ref i => (match s.get i with
    | some (.inst C d) => (match s.get d with
      | some (.attrs fs) => (match sget fs x with
        | none => (match nget Z.mth C with
          | some ms => (match sget ms x with | some f => some (.fn f [a]) | none => none)
          | none => none)
        | some _ => none)
      | _ => none)
    | some (.list _) => (match sget listMe x with | some m => some (.me m i) | none => none)
    | some (.dict _) => (match sget dictMe x with | some m => some (.me m i) | none => none)
    | _ => none)
  | .top C => (match nget Z.mth C with
    | some ms => (match sget ms x with | some f => some (.fn f []) | none => none)
    | none => none)
  | _ => none
/-- and called -/
noncomputable def methDo (r : R) (t : Mt) (args : List AV) (s : S) : Option (AV × S) := match t with
  | .fn f first => r.cl (.top f) (lapp first args) s
  | .me m i => (match s.get i with | some o => callMe m i o args s | none => none)
noncomputable def notSet : Expr → Bool
  | .Set _ _ _ => false
  | _ => true
noncomputable def plainBase : Expr → Bool
  | .Call (.Name _ _) [] [] _ => false
  | _ => true
noncomputable def nameAV (sc : Scope) (x : Str) (fm : Fm) : Option AV := match sget sc.names x with
  | some .globalImplicit => glob Z x
  | some .globalExplicit => none
  | some _ => sget fm x
  | none => none
/-- what a function's text must be -/
noncomputable def lall {α : Type} (f : α → Bool) (l : List α) : Bool := @List.rec α (fun _ => Bool) true (fun a _ ih => match f a with | true => ih | false => false) l
noncomputable def fresh (l : List (Str × NameKind)) : Bool :=
  @List.rec (Str × NameKind) (fun _ => Bool) true (fun p r ih => match sget r p.1 with | none => ih | some _ => false) l
noncomputable def nameOk (p : Str × NameKind) : Bool := match seq p.1 "__debug__", seq p.1 "__classdict__", p.2 with
  | _, _, .free => false
  | false, false, _ => true
  | _, _, _ => false
/-- what a comprehension's scope must be -/
noncomputable def compName (sc : Scope) (x : Str) (p : Str × NameKind) : Bool := match seq p.1 "__debug__", seq p.1 "__classdict__", p.2 with
  | false, false, .local => (match seq p.1 x with | true => true | false => seq p.1 ".0")
  | false, false, .free => (match sget sc.names p.1 with | some .cell => true | some .free => true | _ => false)
  | false, false, .globalImplicit => true
  | _, _, _ => false
noncomputable def compOk (sc cs : Scope) (x : Str) (fm : Fm) : Bool := match cs.kind, sget cs.names x, sget fm ".0", seq x ".0", fresh cs.names, lall (compName sc x) cs.names with
  | .function, some .local, none, false, true, true => true
  | _, _, _, _, _, _ => false
/-! reading alone -/
structure P where
  ev : Expr → Option AV
  ts : Expr → Option Bool
noncomputable def pchain (p : P) (s : S) (es : List Expr) : List CmpOp → AV → Option Bool :=
  @List.rec Expr (fun _ => List CmpOp → AV → Option Bool) (fun _ _ => none) (fun e rest ih ops a => match ops with
    | [] => none
    | op :: ops => (match p.ev e with
      | some b => (match cmp Z op a b s with
        | some c => (match rest with
          | [] => (match ops with | [] => some c | _ :: _ => none)
          | _ :: _ => (match ops with
            | [] => none
            | _ :: _ => (match c with | true => ih ops b | false => some false)))
        | none => none)
      | none => none)) es
noncomputable def ptests (p : P) (op : BoolOp) (es : List Expr) : Option Bool :=
  @List.rec Expr (fun _ => Option Bool) (some (match op with | .And => true | .Or => false)) (fun e _ ih => match p.ts e with
    | some b => (match op, b with
      | .And, false => some false
      | .Or, true => some true
      | _, _ => ih)
    | none => none) es
noncomputable def pstep (sc : Scope) (fm : Fm) (s : S) (p : P) : P := ⟨fun e => match e with
    | .Name x _ => nameAV Z sc x fm
    | .Attribute o x _ => (match plainBase o with
      | true => (match p.ev o with | some a => attr Z a x s | none => none)
      | false => none)
    | .Call (.Name x _) [.Attribute o y ap] [] _ => (match nameAV Z sc x fm with
      | some (.bi .len) => (match p.ev (.Attribute o y ap) with
        | some (.ref i) => (match s.get i with | some (.list l) => some (.int (.ofNat (llen l))) | _ => none)
        | _ => none)
      | _ => none)
    | _ => none,
  fun e => match e with
    | .Compare l ops es _ => (match lastMarks ops es with
      | true => none
      | false => (match p.ev l with | some a => pchain Z p s es ops a | none => none))
    | .BoolOp op es _ => ptests p op es
    | _ => none⟩
noncomputable def prun (sc : Scope) (fm : Fm) (s : S) (n : Nat) : P := @Nat.rec (fun _ => P) ⟨fun _ => none, fun _ => none⟩ (fun _ p => pstep Z sc fm s p) n
noncomputable def pifs (p : P) (es : List Expr) : Option Bool :=
  @List.rec Expr (fun _ => Option Bool) (some true) (fun e _ ih => match p.ts e with
    | some true => ih
    | some false => some false
    | none => none) es
noncomputable def dcomp (sc : Scope) (elt : Expr) (x : Str) (ifs : List Expr) (fm : Fm) (s : S) (es : List (Int × AV)) : Option (List AV) :=
  @List.rec (Int × AV) (fun _ => Option (List AV)) (some []) (fun q _ ih => match pifs (prun Z sc ((x, .int q.1) :: fm) s 9) ifs with
    | some true => (match (prun Z sc ((x, .int q.1) :: fm) s 9).ev elt, ih with | some w, some l => some (w :: l) | _, _ => none)
    | some false => ih
    | none => none) es
noncomputable def dictAt (v : AV) (s : S) : Option (List (Int × AV)) := match v with
  | .ref i => (match s.get i with | some (.dict es) => some es | _ => none)
  | _ => none
noncomputable def stepLC (r : R) (sc : Scope) (elt : Expr) (gens : List Comprehension) (cs : Scope) (fm : Fm) (s : S) : Option (AV × S) := match gens with
  | [⟨.Name x _, iter, ifs, 0⟩] => (match compOk sc cs x fm, notSet iter with
    | true, true => (match r.ev sc iter fm s with
      | some (v, s) => (match dictAt v s with
        | some es => (match dcomp Z (compScope sc cs) elt x ifs fm s es with | some l => s.newL l | none => none)
        | none => (match itOf v s with
          | some it => (match s.new (.list []) with
            | some (.ref acc, s) => (match r.co (compScope sc cs) elt x ifs it acc fm s with
              | some s => some (.ref acc, s)
              | none => none)
            | _ => none)
          | none => none))
      | none => none)
    | _, _ => none)
  | _ => none
noncomputable def stepEv (r : R) (sc : Scope) (e : Expr) (fm : Fm) (s : S) : Option (AV × S) := match e with
  | .Constant c _ _ => (match constAV c with | some v => some (v, s) | none => none)
  | .Name x _ => (match nameAV Z sc x fm with | some v => some (v, s) | none => none)
  | .BinOp l op q _ => (match l, op with
    | .List es _, .Mult => (match evs r sc es fm s with
      | some (vs, s) => (match r.ev sc q fm s with
        | some (.int (.ofNat n), s) => (match Nat.ble n 16 with
          | true => (match small vs with | true => s.newL (lrep n vs) | false => none)
          | false => none)
        | _ => none)
      | none => none)
    | l, op => (match r.ev sc l fm s with
      | some (a, s) => (match r.ev sc q fm s with
        | some (b, s) => binop op a b s
        | none => none)
      | none => none))
  | .UnaryOp op x _ => (match r.ev sc x fm s with
    | some (a, s) => (match unop op a s with | some v => some (v, s) | none => none)
    | none => none)
  | .BoolOp op es _ => bools r sc op es fm s
  | .Compare l ops es _ => (match lastMarks ops es with
    | true => none
    | false => (match r.ev sc l fm s with
      | some (a, s) => (match chain Z r sc es fm ops a s with | some (b, s) => some (.bool b, s) | none => none)
      | none => none))
  | .IfExp t a b _ => (match r.ts sc t fm s with
    | some (true, s) => r.ev sc a fm s
    | some (false, s) => r.ev sc b fm s
    | none => none)
  | .Attribute o x _ => (match plainBase o with
    | true => (match r.ev sc o fm s with
      | some (a, s) => (match attr Z a x s with | some v => some (v, s) | none => none)
      | none => none)
    | false => none)
  | .Subscript o i _ => (match r.ev sc o fm s with
    | some (a, s) => (match i with
      | .Slice lo hi none _ => (match (match lo with | none => some (none, s) | some e => (match r.ev sc e fm s with | some (v, s) => some (some v, s) | none => none)) with
        | some (lo, s) => (match (match hi with | none => some (none, s) | some e => (match r.ev sc e fm s with | some (v, s) => some (some v, s) | none => none)) with
          | some (hi, s) => slice a lo hi s
          | none => none)
        | none => none)
      | .Slice _ _ (some _) _ => none
      | i => (match r.ev sc i fm s with
        | some (b, s) => (match item Z a b s with | some v => some (v, s) | none => none)
        | none => none))
    | none => none)
  | .Tuple es _ _ => (match evs r sc es fm s with | some (vs, s) => s.newT vs | none => none)
  | .List es _ => (match evs r sc es fm s with | some (vs, s) => s.newL vs | none => none)
  | .Dict ks vs _ => (match ks, vs with
    | [], [] => s.new (.dict [])
    | [some (.Constant (.int k) _ _)], [.Constant c _ _] => (match constAV c with | some v => s.new (.dict [(k, v)]) | none => none)
    | _, _ => none)
  | .ListComp elt gens cs _ => stepLC Z r sc elt gens cs fm s
  | .Call f args [] pos => (match Nat.blt (llen args) 30 with
    | false => none
    | true => (match f with
      | .Attribute o x apos => (match plainBase o, Nat.beq apos.endLine pos.line with
        | true, true => (match r.ev sc o fm s with
          | some (a, s) => (match methOf Z a x s with
            | some t => (match evs r sc args fm s with
              | some (vs, s) => methDo r t vs s
              | none => none)
            | none => none)
          | none => none)
        | _, _ => none)
      | .Name x p => (match r.ev sc (.Name x p) fm s with
        | some (a, s) => (match evs r sc args fm s with
          | some (vs, s) => r.cl a vs s
          | none => none)
        | none => none)
      | _ => none))
  | _ => none
noncomputable def stepTs (r : R) (sc : Scope) (e : Expr) (fm : Fm) (s : S) : Option (Bool × S) := match e with
  | .UnaryOp .Not x _ => (match r.ts sc x fm s with
    | some (b, s) => some (!b, s)
    | none => none)
  | .BoolOp op es _ => tests r sc op es fm s
  | .Compare l ops es _ => (match lastMarks ops es with
    | true => none
    | false => (match r.ev sc l fm s with
      | some (a, s) => chain Z r sc es fm ops a s
      | none => none))
  | .IfExp _ _ _ _ => none
  | e => (match r.ev sc e fm s with
    | some (v, s) => (match truth s v with | some b => some (b, s) | none => none)
    | none => none)
/-- a single target (no tuple) -/
noncomputable def asg1 (r : R) (sc : Scope) (t : Expr) (v : AV) (fm : Fm) (s : S) : Option (Fm × S) := match t with
  | .Name x _ => (match sget sc.names x with
    | some .local => some (sset fm x v, s)
    | some .cell => some (sset fm x v, s)
    | _ => none)
  | .Attribute o x _ => (match r.ev sc o fm s with
    | some (a, s) => (match setAt Z a x v s with | some s => some (fm, s) | none => none)
    | none => none)
  | .Subscript o i _ => (match i with
    | .Slice _ _ _ _ => none
    | i => (match r.ev sc o fm s with
      | some (a, s) => (match r.ev sc i fm s with
        | some (b, s) => (match setIt a b v s with | some s => some (fm, s) | none => none)
        | none => none)
      | none => none))
  | _ => none
noncomputable def asgs (r : R) (sc : Scope) (ts : List Expr) : List AV → Fm → S → Option (Fm × S) :=
  @List.rec Expr (fun _ => List AV → Fm → S → Option (Fm × S)) (fun vs fm s => match vs with | [] => some (fm, s) | _ :: _ => none)
    (fun t _ ih vs fm s => match vs with
      | [] => none
      | v :: vs => (match asg1 Z r sc t v fm s with | some (fm, s) => ih vs fm s | none => none)) ts
noncomputable def asg (r : R) (sc : Scope) (t : Expr) (v : AV) (fm : Fm) (s : S) : Option (Fm × S) := match t with
  | .Tuple ts _ _ => (match v with
    | .ref i => (match s.get i with
      | some (.tup vs) => asgs Z r sc ts vs fm s
      | _ => none)
    | _ => none)
  | t => asg1 Z r sc t v fm s
noncomputable def isVar : Expr → Bool
  | .Name x _ => (match seq x "__debug__" with | true => false | false => true)
  | .List _ _ => true
  | .Dict _ _ _ => true
  | .Call _ _ _ _ => true
  | .Attribute _ _ _ => true
  | .Compare _ _ _ _ => true
  | .ListComp _ _ _ _ => true
  | .BinOp (.List _ _) _ _ _ => true
  | _ => false
noncomputable def anyVar (es : List Expr) : Bool := @List.rec Expr (fun _ => Bool) false (fun e _ ih => match isVar e with | true => true | false => ih) es
noncomputable def storesOk (t e : Expr) : Bool := match t, e with
  | .Tuple _ _ _, .Tuple es _ _ => anyVar es
  | .List _ _, _ => false
  | _, .SetComp _ _ _ _ => false
  | _, .DictComp _ _ _ _ _ => false
  | _, _ => true
noncomputable def enumOf (sc : Scope) (e : Expr) : Option Expr := match e with
  | .Call (.Name x _) [a] [] _ => (match sget sc.names x with
    | some .globalImplicit => (match glob Z x with | some (.bi .enumerate) => some a | _ => none)
    | _ => none)
  | _ => none
noncomputable def stepX (r : R) (sc : Scope) (st : Stmt) (fm : Fm) (s : S) : Option (Fl × Fm × S) := match st with
  | .Return (some e) _ => (match r.ev sc e fm s with | some (v, s) => some (.ret v, fm, s) | none => none)
  | .Assign [t] e _ => (match storesOk t e with
    | true => (match r.ev sc e fm s with
      | some (v, s) => (match asg Z r sc t v fm s with | some (fm, s) => some (.next, fm, s) | none => none)
      | none => none)
    | false => none)
  | .If t a b _ => (match r.ts sc t fm s with
    | some (true, s) => r.xs sc a fm s
    | some (false, s) => r.xs sc b fm s
    | none => none)
  | .While t b [] _ => r.wl sc t b fm s
  | .For t i b [] _ => (match enumOf Z sc i with
    | some e => (match evs r sc [e] fm s with
      | some ([.ref l], s) => (match s.get l with
        | some (.list _) => r.fo sc t (.enum l 0) b fm s
        | _ => none)
      | _ => none)
    | none => (match notSet i with
      | true => (match r.ev sc i fm s with
        | some (v, s) => (match itOf v s with
          | some it => r.fo sc t it b fm s
          | none => none)
        | none => none)
      | false => none))
  | .Expr (.Call f es ks p) _ => (match r.ev sc (.Call f es ks p) fm s with
    | some (_, s) => some (.next, fm, s)
    | none => none)
  | .Continue _ => some (.cont, fm, s)
  | _ => none
noncomputable def stepXs (r : R) (sc : Scope) (l : List Stmt) : Fm → S → Option (Fl × Fm × S) :=
  @List.rec Stmt (fun _ => Fm → S → Option (Fl × Fm × S)) (fun fm s => some (.next, fm, s)) (fun st _ ih fm s => match stepX Z r sc st fm s with
    | some (.next, fm, s) => ih fm s
    | x => x) l
noncomputable def stepWl (r : R) (sc : Scope) (t : Expr) (b : List Stmt) (fm : Fm) (s : S) : Option (Fl × Fm × S) := match r.ts sc t fm s with
  | some (true, s) => (match r.xs sc b fm s with
    | some (.ret v, fm, s) => some (.ret v, fm, s)
    | some (_, fm, s) => r.wl sc t b fm s
    | none => none)
  | some (false, s) => some (.next, fm, s)
  | none => none
noncomputable def bindT (sc : Scope) (t : Expr) (x : Nx) (fm : Fm) : Option (Fm × It) := match t, x with
  | .Name n _, .one v it => (match sget sc.names n with
    | some .local => some (sset fm n v, it)
    | some .cell => some (sset fm n v, it)
    | _ => none)
  | .Tuple [.Name n _, .Name m _] _ _, .two a b it => (match sget sc.names n, sget sc.names m with
    | some .local, some .local => some (sset (sset fm n a) m b, it)
    | some .local, some .cell => some (sset (sset fm n a) m b, it)
    | _, _ => none)
  | _, _ => none
noncomputable def stepFo (r : R) (sc : Scope) (t : Expr) (it : It) (b : List Stmt) (fm : Fm) (s : S) : Option (Fl × Fm × S) := match next it s with
  | some .done => some (.next, fm, s)
  | some x => (match bindT sc t x fm with
    | some (fm, it) => (match r.xs sc b fm s with
      | some (.ret v, fm, s) => some (.ret v, fm, s)
      | some (_, fm, s) => r.fo sc t it b fm s
      | none => none)
    | none => none)
  | none => none
noncomputable def ifsAll (r : R) (sc : Scope) (es : List Expr) (fm : Fm) : S → Option (Bool × S) :=
  @List.rec Expr (fun _ => S → Option (Bool × S)) (fun s => some (true, s)) (fun e _ ih s => match r.ts sc e fm s with
    | some (true, s) => ih s
    | some (false, s) => some (false, s)
    | none => none) es
noncomputable def stepCo (r : R) (sc : Scope) (elt : Expr) (x : Str) (ifs : List Expr) (it : It) (acc : Nat) (fm : Fm) (s : S) : Option S := match next it s with
  | some .done => some s
  | some (.one v it) => (match ifsAll r sc ifs ((x, v) :: fm) s with
    | some (true, s) => (match r.ev sc elt ((x, v) :: fm) s with
      | some (w, s) => (match s.get acc with
        | some (.list l) => (match small l with | true => r.co sc elt x ifs it acc fm (s.put acc (.list (lapp l [w]))) | false => none)
        | _ => none)
      | none => none)
    | some (false, s) => r.co sc elt x ifs it acc fm s
    | none => none)
  | _ => none
noncomputable def zipArgs (xs : List Str) : List AV → List AV → Option Fm :=
  @List.rec Str (fun _ => List AV → List AV → Option Fm) (fun vs _ => match vs with | [] => some [] | _ :: _ => none)
    (fun x rest ih vs ds => match vs with
      | v :: vs => (match ih vs ds with | some m => some ((x, v) :: m) | none => none)
      | [] => (match ldrop ds (Nat.sub (llen ds) (Nat.succ (llen rest))) with
        | d :: _ => (match Nat.ble (Nat.succ (llen rest)) (llen ds) with
          | true => (match ih [] ds with | some m => some ((x, d) :: m) | none => none)
          | false => none)
        | [] => none)) xs
noncomputable def dfltsOf (v : Value) : Option (List AV) := match v with
  | .none => some []
  | .ref a => (match nget Z.K a with
    | some ⟨_, _, .seq vs _, _⟩ => lmap? topAV vs.toList
    | _ => none)
  | _ => none
noncomputable def argOk (ns : List (Str × NameKind)) (a : Arg) : Bool := match sget ns a.arg with
  | some .local => true
  | some .cell => true
  | _ => false
noncomputable def codeOk (fd : FuncData) : Bool := match fd.code with
  | .ref c => (match nget Z.K c with
    | some ⟨_, _, .fields vs, _⟩ => (match vs.toList with | _ :: .str n _ :: _ => seq n fd.qualname | _ => false)
    | _ => false)
  | _ => false
noncomputable def scopeOk (sc : Scope) : Bool := match sc with
  | ⟨.function, ns, false, false, _⟩ => (match lall nameOk ns with | true => fresh ns | false => false)
  | _ => false
noncomputable def paramsOk (sc : Scope) : Arguments → Bool
  | ⟨[], l, none, [], _, none, _⟩ => lall (argOk sc.names) l
  | _ => false
noncomputable def fnOk (fd : FuncData) : Bool := match fd.closure, scopeOk fd.scope, paramsOk fd.scope fd.params, codeOk Z fd, Nat.beq fd.globals mainGlobals, Nat.beq fd.builtins builtinsNs with
  | [], true, true, true, true, true => true
  | _, _, _, _, _, _ => false
noncomputable def fnBad (p : Nat × Obj) : Bool := match p.2 with
  | ⟨_, _, .func fd, _⟩ => (match fnOk Z fd with | true => false | false => true)
  | _ => false
noncomputable def bads : List Nat := @List.rec (Nat × Obj) (fun _ => List Nat) [] (fun p _ ih => match fnBad Z p with | true => p.1 :: ih | false => ih) Z.K
noncomputable def stepCl (r : R) (f : AV) (args : List AV) (s : S) : Option (AV × S) := match f with
  | .bi b => callBi b args s
  | .top a => (match Nat.beq a Z.rolled with
    | true => (match args with
      | [.ref i, .int (.ofNat many)] => (match s.get i with
        | some (.list [.ref j, .int (.ofNat turn)]) => (match s.get j with
          | some .dice => (match s.o with
            | (t, m, v) :: o => (match Nat.beq t turn, Nat.beq m many with
              | true, true => some (v, ⟨s.h.put (.list [.ref j, .int (.ofNat (Nat.succ turn))]) i, s.n, o⟩)
              | _, _ => none)
            | [] => none)
          | _ => none)
        | _ => none)
      | _ => none)
    | false => (match nget Z.K a with
      | some ⟨_, _, .func fd, _⟩ => (match fd.body with
        | .stmts body => (match dfltsOf Z fd.defaults with
          | some ds => (match zipArgs (fd.params.args.map (·.arg)) args ds with
            | some fm => (match r.xs fd.scope body fm s with
              | some (.ret v, _, s) => some (v, s)
              | some (.next, _, s) => some (.none, s)
              | _ => none)
            | none => none)
          | none => none)
        | .expr _ => none)
      | some ⟨_, _, .cls _, _⟩ => (match nget Z.cls a with
        | some g => (match s.new (.attrs []) with
          | some (.ref d, s) => (match s.new (.inst a d) with
            | some (.ref i, s) => (match r.cl (.top g) (.ref i :: args) s with
              | some (.none, s) => some (.ref i, s)
              | _ => none)
            | _ => none)
          | _ => none)
        | none => none)
      | _ => none))
  | _ => none
noncomputable def step (r : R) : R := ⟨stepEv Z r, stepTs Z r, stepXs Z r, stepCl Z r, stepWl r, stepFo r, stepCo r⟩
noncomputable def none7 : R := ⟨fun _ _ _ _ => none, fun _ _ _ _ => none, fun _ _ _ _ => none, fun _ _ _ => none, fun _ _ _ _ _ => none, fun _ _ _ _ _ _ => none, fun _ _ _ _ _ _ _ _ => none⟩
noncomputable def run (n : Nat) : R := @Nat.rec (fun _ => R) none7 (fun _ r => step Z r) n
end
end Mine
end

section
open PySem PySem.W PyProof.Rows PySem.Calls
namespace Mine

def Bi.val : Bi → Value
  | .len => .builtin "len" | .range => .type "range" | .enumerate => .type "enumerate" | .sorted => .builtin "sorted" | .min => .builtin "min" | .abs => .builtin "abs"
  | .any => .builtin "any" | .sum => .builtin "sum" | .isinstance => .builtin "isinstance" | .list => .type "list" | .int => .type "int" | .bool => .type "bool" | .bytes => .type "bytes"

/-! ## lists -/
theorem nlEq_iff : ∀ {l m : List Nat}, nlEq l m = true ↔ l = m
  | [], [] => ⟨fun _ => rfl, fun _ => rfl⟩
  | [], _ :: _ => ⟨fun h => (nomatch h), fun h => (nomatch h)⟩
  | _ :: _, [] => ⟨fun h => (nomatch h), fun h => (nomatch h)⟩
  | a :: l, b :: m => by
    have e : nlEq (a :: l) (b :: m) = (match Nat.beq a b with | true => nlEq l m | false => false) := rfl
    rw [e]
    cases q : Nat.beq a b with
    | true => rw [Nat.eq_of_beq_eq_true q]; simp [nlEq_iff]
    | false => simp [Nat.ne_of_beq_eq_false q]
theorem seq_iff {a b : Str} : seq a b = true ↔ a = b := by
  unfold seq
  rw [nlEq_iff]
  constructor
  · intro h; obtain ⟨⟨x⟩⟩ := a; obtain ⟨⟨y⟩⟩ := b; cases h; rfl
  · intro h; rw [h]
theorem seq_eq (a b : Str) : seq a b = decide (a = b) := by
  by_cases h : a = b
  · rw [seq_iff.mpr h, decide_eq_true h]
  · rw [decide_eq_false h]
    cases q : seq a b with
    | false => rfl
    | true => exact absurd (seq_iff.mp q) h
theorem sget_nil {α : Type} (x : Str) : sget ([] : List (Str × α)) x = none := rfl
theorem sget_cons {α : Type} (p : Str × α) (l : List (Str × α)) (x : Str) : sget (p :: l) x = if p.1 = x then some p.2 else sget l x := by
  have e : sget (p :: l) x = (match seq p.1 x with | true => some p.2 | false => sget l x) := rfl
  rw [e, seq_eq]
  by_cases h : p.1 = x <;> simp [h]
theorem sset_nil {α : Type} (x : Str) (v : α) : sset [] x v = [(x, v)] := rfl
theorem sset_cons {α : Type} (p : Str × α) (l : List (Str × α)) (x : Str) (v : α) : sset (p :: l) x v = if p.1 = x then (p.1, v) :: l else p :: sset l x v := by
  have e : sset (p :: l) x v = (match seq p.1 x with | true => (p.1, v) :: l | false => p :: sset l x v) := rfl
  rw [e, seq_eq]
  by_cases h : p.1 = x <;> simp [h]
theorem sget_sset {α : Type} (x : Str) (v : α) : ∀ (l : List (Str × α)) (y : Str), sget (sset l x v) y = if y = x then some v else sget l y
  | [], y => by
    rw [sset_nil, sget_cons]
    by_cases h : y = x
    · simp [h]
    · rw [if_neg (fun e => h e.symm), if_neg h]
  | p :: l, y => by
    rw [sset_cons]
    by_cases h : p.1 = x
    · rw [if_pos h, sget_cons, sget_cons]
      by_cases e : y = x
      · subst e; simp [h]
      · have : ¬ p.1 = y := fun q => e (q.symm.trans h)
        simp [e, this]
    · rw [if_neg h, sget_cons, sget_cons, sget_sset x v l y]
      by_cases e : y = x
      · subst e; simp [h]
      · simp [e]
theorem sget_lookup {α : Type} (x : Str) : ∀ l : List (Str × α), sget l x = l.lookup x
  | [] => rfl
  | p :: l => by
    rw [sget_cons, List.lookup_cons, sget_lookup x l]
    by_cases h : p.1 = x
    · have : (x == p.1) = true := by rw [h]; exact beq_self_eq_true x
      rw [if_pos h, this]
    · have : (x == p.1) = false := beq_eq_false_iff_ne.mpr fun e => h e.symm
      rw [if_neg h, this]
theorem nget_cons {α : Type} (p : Nat × α) (l : List (Nat × α)) (x : Nat) : nget (p :: l) x = if p.1 = x then some p.2 else nget l x := by
  have e : nget (p :: l) x = (match Nat.beq p.1 x with | true => some p.2 | false => nget l x) := rfl
  rw [e, BT.beq_eq]
  by_cases h : p.1 = x <;> simp [h]
theorem nget_lookup {α : Type} (x : Nat) : ∀ l : List (Nat × α), nget l x = l.lookup x
  | [] => rfl
  | p :: l => by
    rw [nget_cons, List.lookup_cons, nget_lookup x l]
    by_cases h : p.1 = x
    · have : (x == p.1) = true := by rw [h]; exact beq_self_eq_true x
      rw [if_pos h, this]
    · have : (x == p.1) = false := beq_eq_false_iff_ne.mpr fun e => h e.symm
      rw [if_neg h, this]
theorem lget_eq {α : Type} : ∀ (l : List α) (i : Nat), lget l i = l[i]?
  | [], _ => rfl
  | _ :: _, 0 => rfl
  | _ :: l, i + 1 => lget_eq l i
theorem lset_eq {α : Type} (v : α) : ∀ (l : List α) (i : Nat), lset l v i = l.set i v
  | [], _ => rfl
  | _ :: _, 0 => rfl
  | a :: l, i + 1 => congrArg (a :: ·) (lset_eq v l i)
theorem llen_eq {α : Type} : ∀ (l : List α), llen l = l.length
  | [] => rfl
  | _ :: l => congrArg (· + 1) (llen_eq l)
theorem lapp_eq {α : Type} : ∀ (l m : List α), lapp l m = l ++ m
  | [], _ => rfl
  | a :: l, m => congrArg (a :: ·) (lapp_eq l m)
theorem ltake_eq {α : Type} : ∀ (l : List α) (i : Nat), ltake l i = l.take i
  | [], i => by simp [ltake]
  | _ :: _, 0 => rfl
  | a :: l, i + 1 => congrArg (a :: ·) (ltake_eq l i)
theorem ldrop_eq {α : Type} : ∀ (l : List α) (i : Nat), ldrop l i = l.drop i
  | [], i => by simp [ldrop]
  | _ :: _, 0 => rfl
  | _ :: l, i + 1 => ldrop_eq l i
theorem small_iff {α : Type} {l : List α} (h : small l = true) : l.length ≤ 1000 := by
  unfold small at h
  rw [llen_eq] at h
  exact Nat.le_of_ble_eq_true h

/-! ## ints -/
theorem ieq_eq (a b : Int) : ieq a b = decide (a = b) := by
  cases a with
  | ofNat m => cases b with
    | ofNat n => show Nat.beq m n = _; rw [BT.beq_eq]; simp [Int.ofNat_inj]
    | negSucc n => show false = _; simp
  | negSucc m => cases b with
    | ofNat n => show false = _; simp
    | negSucc n => show Nat.beq m n = _; rw [BT.beq_eq]; simp
theorem ile_eq (a b : Int) : ile a b = decide (a ≤ b) := by
  cases a with
  | ofNat m => cases b with
    | ofNat n =>
      show Nat.ble m n = _
      by_cases h : m ≤ n
      · rw [Nat.ble_eq_true_of_le h]; simp [h]
      · have : Nat.ble m n = false := by cases q : Nat.ble m n with | false => rfl | true => exact absurd (Nat.le_of_ble_eq_true q) h
        rw [this]; simp [h]
    | negSucc n => show false = _; rw [eq_comm, decide_eq_false_iff_not]; show ¬ ((m : Int) ≤ Int.negSucc n); omega
  | negSucc m => cases b with
    | ofNat n => show true = _; rw [eq_comm, decide_eq_true_iff]; show Int.negSucc m ≤ (n : Int); omega
    | negSucc n =>
      show Nat.ble n m = _
      by_cases h : n ≤ m
      · rw [Nat.ble_eq_true_of_le h, eq_comm, decide_eq_true_iff]; omega
      · have : Nat.ble n m = false := by cases q : Nat.ble n m with | false => rfl | true => exact absurd (Nat.le_of_ble_eq_true q) h
        rw [this, eq_comm, decide_eq_false_iff_not]; omega
theorem ilt_eq (a b : Int) : ilt a b = decide (a < b) := by
  unfold ilt
  rw [ile_eq]
  by_cases h : b ≤ a
  · simp [h]
  · simp [h, Int.not_le.mp h]
theorem ilEq_iff : ∀ {l m : List Int}, ilEq l m = true ↔ l = m
  | [], [] => ⟨fun _ => rfl, fun _ => rfl⟩
  | [], _ :: _ => ⟨fun h => (nomatch h), fun h => (nomatch h)⟩
  | _ :: _, [] => ⟨fun h => (nomatch h), fun h => (nomatch h)⟩
  | a :: l, b :: m => by
    have e : ilEq (a :: l) (b :: m) = (match ieq a b with | true => ilEq l m | false => false) := rfl
    rw [e, ieq_eq]
    by_cases q : a = b
    · simp [q, ilEq_iff]
    · simp [q]
theorem blEq_eq : ∀ l m : List UInt8, blEq l m = decide (l = m)
  | [], [] => rfl
  | [], _ :: _ => rfl
  | _ :: _, [] => rfl
  | a :: l, b :: m => by
    have e : blEq (a :: l) (b :: m) = (match Nat.beq a.toNat b.toNat with | true => blEq l m | false => false) := rfl
    rw [e, BT.beq_eq, blEq_eq l m]
    by_cases q : a = b
    · subst q; by_cases h : l = m <;> simp [h]
    · have : ¬ a.toNat = b.toNat := fun h => q (UInt8.toNat_inj.mp h)
      simp [q, this]

/-! ## the heap's tree -/
theorem T.get_nil (i : Nat) : T.get .nil i = none := rfl
theorem T.get_node (v : AO) (l r : T) (i : Nat) : T.get (.node v l r) i = if i = 0 then some v else if i % 2 = 1 then l.get (i / 2) else r.get (i / 2 - 1) := by
  show (match Nat.beq i 0 with | true => some v | false => match Nat.beq (i % 2) 1 with | true => l.get (i / 2) | false => r.get (i / 2 - 1)) = _
  rw [BT.beq_eq, BT.beq_eq]
  by_cases h : i = 0
  · simp [h]
  · by_cases q : i % 2 = 1 <;> simp [h, q]
theorem T.put_node (o v : AO) (l r : T) (i : Nat) : T.put o (.node v l r) i = if i = 0 then .node o l r else if i % 2 = 1 then .node v (T.put o l (i / 2)) r else .node v l (T.put o r (i / 2 - 1)) := by
  show (match Nat.beq i 0 with | true => T.node o l r | false => match Nat.beq (i % 2) 1 with | true => T.node v (T.put o l (i / 2)) r | false => T.node v l (T.put o r (i / 2 - 1))) = _
  rw [BT.beq_eq, BT.beq_eq]
  by_cases h : i = 0
  · simp [h]
  · by_cases q : i % 2 = 1 <;> simp [h, q]
theorem T.get_put (o : AO) : ∀ (t : T) (a : Nat), ((T.put o t a).get a).isSome = true → ∀ i, (T.put o t a).get i = if i = a then some o else t.get i
  | .nil, a, h, i => by
    have e : T.put o .nil a = .node o .nil .nil := rfl
    rw [e, T.get_node] at h
    have ha : a = 0 := by
      by_cases q : a = 0
      · exact q
      · exfalso; revert h; by_cases p : a % 2 = 1 <;> simp [q, p, T.get_nil]
    subst ha
    rw [e, T.get_node]
    by_cases hi : i = 0
    · simp [hi]
    · by_cases p : i % 2 = 1 <;> simp [hi, p, T.get_nil]
  | .node v l r, a, h, i => by
    rw [T.put_node] at h ⊢
    rw [T.get_node v l r i]
    by_cases ha : a = 0
    · subst ha
      rw [if_pos rfl, T.get_node]
      by_cases hi : i = 0 <;> simp [hi]
    · rw [if_neg ha] at h ⊢
      by_cases pa : a % 2 = 1
      · rw [if_pos pa] at h ⊢
        rw [T.get_node, if_neg ha, if_pos pa] at h
        rw [T.get_node]
        by_cases hi : i = 0
        · simp [hi, Ne.symm ha]
        · by_cases pi : i % 2 = 1
          · rw [if_neg hi, if_pos pi, if_neg hi, if_pos pi, T.get_put o l _ h]
            by_cases e : i = a
            · simp [e]
            · have : ¬ i / 2 = a / 2 := by omega
              simp [e, this]
          · have : ¬ i = a := fun q => pi (q ▸ pa)
            simp [hi, pi, this]
      · rw [if_neg pa] at h ⊢
        rw [T.get_node, if_neg ha, if_neg pa] at h
        rw [T.get_node]
        by_cases hi : i = 0
        · simp [hi, Ne.symm ha]
        · by_cases pi : i % 2 = 1
          · have : ¬ i = a := fun q => pa (q ▸ pi)
            simp [hi, pi, this]
          · rw [if_neg hi, if_neg pi, if_neg hi, if_neg pi, T.get_put o r _ h]
            by_cases e : i = a
            · simp [e]
            · have : ¬ i / 2 - 1 = a / 2 - 1 := by omega
              simp [e, this]
theorem T.put_some (o : AO) : ∀ (t : T) (a : Nat) (x : AO), t.get a = some x → ((T.put o t a).get a).isSome = true
  | .nil, a, x, h => (nomatch h)
  | .node v l r, a, x, h => by
    rw [T.put_node]
    rw [T.get_node] at h
    by_cases ha : a = 0
    · rw [if_pos ha, T.get_node, if_pos ha]; rfl
    · rw [if_neg ha] at h ⊢
      by_cases pa : a % 2 = 1
      · rw [if_pos pa] at h ⊢
        rw [T.get_node, if_neg ha, if_pos pa]
        exact T.put_some o l _ x h
      · rw [if_neg pa] at h ⊢
        rw [T.get_node, if_neg ha, if_neg pa]
        exact T.put_some o r _ x h
theorem S.get_put {s : S} {i : Nat} {x : AO} (h : s.get i = some x) (o : AO) (j : Nat) : (s.put i o).get j = if j = i then some o else s.get j :=
  T.get_put o s.h i (T.put_some o s.h i x h) j
theorem S.new_spec {s s' : S} {o : AO} {v : AV} (h : s.new o = some (v, s')) : v = .ref s.n ∧ s'.n = s.n + 1 ∧ s'.o = s.o ∧ ∀ j, s'.get j = if j = s.n then some o else s.get j := by
  unfold S.new at h
  split at h
  · rename_i x q
    cases h
    exact ⟨rfl, rfl, rfl, fun j => T.get_put o s.h s.n (by rw [q]; rfl) j⟩
  · cases h
end Mine
end

section
open PySem PySem.W PyProof.Rows PySem.Calls
namespace Mine

/-! ## what an abstract value and object say of the real ones -/
section
variable (prog : Program) (w : World) (β : Nat → Nat) (dice : List Int)
def VR (ρ : List Addr) : AV → Value → Prop
  | .none, v => v = .none
  | .bool b, v => v = .bool b
  | .int i, v => ∃ t, v = .int i t
  | .bytes b, v => ∃ t, v = .bytes b.toArray t
  | .ref i, v => ∃ a, ρ[i]? = some a ∧ v = .ref a
  | .top a, v => v = .ref a
  | .bi b, v => v = b.val
  | .tab k l, v => ∃ x t, l[β k]? = some x ∧ v = .int x t
inductive VRs (ρ : List Addr) : List AV → List Value → Prop
  | nil : VRs ρ [] []
  | cons {a v l m} : VR β ρ a v → VRs ρ l m → VRs ρ (a :: l) (v :: m)
inductive DRs (ρ : List Addr) : List (Int × AV) → List (Int × Value) → Prop
  | nil : DRs ρ [] []
  | cons {k a v l m} : VR β ρ a v → DRs ρ l m → DRs ρ ((k, a) :: l) ((k, v) :: m)
inductive ARs (ρ : List Addr) : List (Str × AV) → List DictEntry → Prop
  | nil : ARs ρ [] []
  | cons {x a hs t v l m} : VR β ρ a v → ARs ρ l m → ARs ρ ((x, a) :: l) (⟨hs, .str x t, v⟩ :: m)
def OR (h : Heap) (ρ : List Addr) (a : Addr) : AO → Prop
  | .list vs => vs.length ≤ 2000 ∧ ∃ (items : List Value) (n : Nat), IsL h a items.toArray n ∧ VRs β ρ vs items
  | .tup vs => vs.length ≤ 2000 ∧ ∃ items : List Value, IsTup h a items.toArray ∧ VRs β ρ vs items
  | .dict es => es.length ≤ 2000 ∧ ∃ kvs, h.DictOf (intKind prog w) a kvs ∧ DRs β ρ es kvs
  | .inst C d => ∃ dx, ρ[d]? = some dx ∧ h.get? a = some (instObj C dx)
  | .attrs fs => fs.length ≤ 2000 ∧ ∃ es n, h.get? a = some (dictOf es n) ∧ ARs β ρ fs es
  | .range lo hi => (-1000 ≤ lo ∧ lo ≤ 1000 ∧ -1000 ≤ hi ∧ hi ≤ 1000) ∧ ∃ t u v, IsRange h a lo hi 1 t u v
  | .dice => ∃ vs : List Value, h.IsList a vs.toArray ∧ IntsAre vs dice
  | .dead => True
/-- what _law_rolled gives -/
def rolledVal (t m : Nat) : Int := if t < dice.length then ((dice.getD t 0).natAbs : Int).fmod m else (3 * (t : Int) + (t : Int).fdiv 2 + 1).fmod m
def Drawn (v : AV) (x : Int) : Prop := match v with
  | .int i => i = x
  | .tab k l => l[β k]? = some x
  | _ => False
structure Inv (B : Heap) (σ : S) (ρ : List Addr) (h : Heap) : Prop where
  len : σ.n = ρ.length
  nd : ρ.Nodup
  new : ∀ a ∈ ρ, B.get? a = none
  live : ∀ a ∈ ρ, ∃ ob, h.get? a = some ob
  has : ∀ i o, σ.get i = some o → ∃ a, ρ[i]? = some a ∧ OR prog w β dice h ρ a o
  keep : ∀ b o, B.get? b = some o → h.get? b = some o
  orc : ∀ t m v, (t, m, v) ∈ σ.o → Drawn β v (rolledVal dice t m) ∧ 0 < m ∧ t < 64
end

structure Ext (T : Addr → Prop) (ρ : List Addr) (h : Heap) (ρ' : List Addr) (h' : Heap) : Prop where
  pre : ∃ more, ρ' = ρ ++ more ∧ ∀ a ∈ more, h.get? a = none
  keep : ∀ b o, h.get? b = some o → b ∉ ρ → ¬ T b → h'.get? b = some o
  live : ∀ a ∈ ρ, ∃ ob, h'.get? a = some ob
abbrev noT : Addr → Prop := fun _ => False

section
variable {prog : Program} {w : World} {β : Nat → Nat} {dice : List Int} {B : Heap} {σ σ' : S} {ρ ρ' ρ₁ ρ₂ : List Addr} {h h' h₁ h₂ : Heap} {T : Addr → Prop}

theorem get_app {ρ x : List Addr} {i : Nat} {a : Addr} (e : ρ[i]? = some a) : (ρ ++ x)[i]? = some a := by
  rw [List.getElem?_append_left]
  · exact e
  · exact (List.getElem?_eq_some_iff.mp e).1
theorem VR.more {a : AV} {v : Value} (x : List Addr) (r : VR β ρ a v) : VR β (ρ ++ x) a v := by
  cases a <;> try exact r
  obtain ⟨b, e, q⟩ := r
  exact ⟨b, get_app e, q⟩
theorem VR.ext {a : AV} {v : Value} (X : Ext T ρ h ρ' h') (r : VR β ρ a v) : VR β ρ' a v := by
  obtain ⟨m, rfl, _⟩ := X.pre
  exact r.more m
theorem VRs.more {l : List AV} {m : List Value} (x : List Addr) (r : VRs β ρ l m) : VRs β (ρ ++ x) l m := by
  induction r with
  | nil => exact .nil
  | cons a _ ih => exact .cons (a.more x) ih
theorem VRs.ext {l : List AV} {m : List Value} (X : Ext T ρ h ρ' h') (r : VRs β ρ l m) : VRs β ρ' l m := by
  obtain ⟨m, rfl, _⟩ := X.pre
  exact r.more m
theorem DRs.more {l : List (Int × AV)} {m : List (Int × Value)} (x : List Addr) (r : DRs β ρ l m) : DRs β (ρ ++ x) l m := by
  induction r with
  | nil => exact .nil
  | cons a _ ih => exact .cons (a.more x) ih
theorem ARs.more {l : List (Str × AV)} {m : List DictEntry} (x : List Addr) (r : ARs β ρ l m) : ARs β (ρ ++ x) l m := by
  induction r with
  | nil => exact .nil
  | cons a _ ih => exact .cons (a.more x) ih
theorem VRs.length {l : List AV} {m : List Value} (r : VRs β ρ l m) : m.length = l.length := by
  induction r with
  | nil => rfl
  | cons _ _ ih => simp [ih]
theorem VRs.get {l : List AV} {m : List Value} (r : VRs β ρ l m) : ∀ {i : Nat} {a : AV}, l[i]? = some a → ∃ v, m[i]? = some v ∧ VR β ρ a v := by
  induction r with
  | nil => intro i a e; cases e
  | cons a _ ih =>
    intro i b e
    cases i with
    | zero => cases e; exact ⟨_, rfl, a⟩
    | succ i => exact ih e
theorem VRs.append {l l' : List AV} {m m' : List Value} (r : VRs β ρ l m) (r' : VRs β ρ l' m') : VRs β ρ (l ++ l') (m ++ m') := by
  induction r with
  | nil => exact r'
  | cons a _ ih => exact .cons a ih
theorem VRs.set {l : List AV} {m : List Value} {a : AV} {v : Value} (ha : VR β ρ a v) (r : VRs β ρ l m) : ∀ i, VRs β ρ (l.set i a) (m.set i v) := by
  induction r with
  | nil => intro i; exact .nil
  | cons b q ih =>
    intro i
    cases i with
    | zero => exact .cons ha q
    | succ i => exact .cons b (ih i)
theorem VRs.take {l : List AV} {m : List Value} (r : VRs β ρ l m) : ∀ i, VRs β ρ (l.take i) (m.take i) := by
  induction r with
  | nil => intro i; simp; exact .nil
  | cons b q ih =>
    intro i
    cases i with
    | zero => exact .nil
    | succ i => exact .cons b (ih i)
theorem VRs.drop {l : List AV} {m : List Value} (r : VRs β ρ l m) : ∀ i, VRs β ρ (l.drop i) (m.drop i) := by
  induction r with
  | nil => intro i; simp; exact .nil
  | cons b q ih =>
    intro i
    cases i with
    | zero => exact .cons b q
    | succ i => exact ih i
theorem OR.more {a : Addr} {o : AO} (x : List Addr) (r : OR prog w β dice h ρ a o) : OR prog w β dice h (ρ ++ x) a o := by
  cases o with
  | list vs => obtain ⟨z, i, n, a, b⟩ := r; exact ⟨z, i, n, a, b.more x⟩
  | tup vs => obtain ⟨z, i, a, b⟩ := r; exact ⟨z, i, a, b.more x⟩
  | dict es => obtain ⟨z, i, a, b⟩ := r; exact ⟨z, i, a, b.more x⟩
  | inst C d => obtain ⟨dx, a, b⟩ := r; exact ⟨dx, get_app a, b⟩
  | attrs fs => obtain ⟨z, es, n, a, b⟩ := r; exact ⟨z, es, n, a, b.more x⟩
  | range lo hi => exact r
  | dice => exact r
  | dead => trivial
theorem OR.at {a : Addr} {o : AO} (k : ∀ ob, h.get? a = some ob → h'.get? a = some ob) (r : OR prog w β dice h ρ a o) : OR prog w β dice h' ρ a o := by
  cases o with
  | list vs => obtain ⟨z, i, n, a, b⟩ := r; exact ⟨z, i, n, k _ a, b⟩
  | tup vs => obtain ⟨z, i, ⟨ob, e, q⟩, b⟩ := r; exact ⟨z, i, ⟨ob, k _ e, q⟩, b⟩
  | dict es => obtain ⟨z, i, a, b⟩ := r; exact ⟨z, i, a.at k, b⟩
  | inst C d => obtain ⟨dx, a, b⟩ := r; exact ⟨dx, a, k _ b⟩
  | attrs fs => obtain ⟨z, es, n, a, b⟩ := r; exact ⟨z, es, n, k _ a, b⟩
  | range lo hi => obtain ⟨z, t, u, v, e⟩ := r; exact ⟨z, t, u, v, k _ e⟩
  | dice => obtain ⟨vs, a, b⟩ := r; exact ⟨vs, a.at k, b⟩
  | dead => trivial

theorem Ext.refl (I : ∀ a ∈ ρ, ∃ ob, h.get? a = some ob) : Ext T ρ h ρ h := ⟨⟨[], (List.append_nil ρ).symm, fun _ h => (nomatch h)⟩, fun _ _ e _ _ => e, I⟩
theorem Ext.mem (X : Ext T ρ h ρ' h') {a : Addr} (m : a ∈ ρ) : a ∈ ρ' := by
  obtain ⟨more, rfl, _⟩ := X.pre
  exact List.mem_append_left _ m
theorem Ext.notMem (X : Ext T ρ h ρ' h') {b : Addr} {o : Obj} (e : h.get? b = some o) (n : b ∉ ρ) : b ∉ ρ' := by
  obtain ⟨more, rfl, q⟩ := X.pre
  intro m
  rcases List.mem_append.mp m with m | m
  · exact n m
  · rw [q b m] at e; cases e
theorem Ext.weaken {T' : Addr → Prop} (X : Ext T ρ h ρ' h') (k : ∀ b, T b → T' b) : Ext T' ρ h ρ' h' := ⟨X.pre, fun b o e n t => X.keep b o e n fun q => t (k b q), X.live⟩
theorem Ext.trans (X : Ext T ρ h ρ₁ h₁) (Y : Ext T ρ₁ h₁ ρ₂ h₂) (hT : ∀ a, T a → ∃ ob, h₁.get? a = some ob) : Ext T ρ h ρ₂ h₂ := by
  refine ⟨?_, fun b o e n t => Y.keep b o (X.keep b o e n t) (X.notMem e n) t, fun a m => Y.live a (X.mem m)⟩
  obtain ⟨m₁, rfl, q₁⟩ := X.pre
  obtain ⟨m₂, rfl, q₂⟩ := Y.pre
  refine ⟨m₁ ++ m₂, List.append_assoc .., fun a m => ?_⟩
  rcases List.mem_append.mp m with m | m
  · exact q₁ a m
  · cases e : h.get? a with
    | none => rfl
    | some o =>
      have d := q₂ a m
      exfalso
      by_cases n : a ∈ ρ
      · obtain ⟨ob, q⟩ := X.live a n
        rw [d] at q; cases q
      · by_cases t : T a
        · obtain ⟨ob, q⟩ := hT a t; rw [d] at q; cases q
        · rw [X.keep a o e n t] at d; cases d
theorem Ext.trans0 (X : Ext noT ρ h ρ₁ h₁) (Y : Ext noT ρ₁ h₁ ρ₂ h₂) : Ext noT ρ h ρ₂ h₂ := X.trans Y fun _ t => t.elim

theorem Inv.lt (I : Inv prog w β dice B σ ρ h) {a : Addr} (m : a ∈ ρ) : a < h.objs.size := let ⟨_, e⟩ := I.live a m; Heap.lt_size e
theorem Inv.fresh (I : Inv prog w β dice B σ ρ h) : h.objs.size ∉ ρ := fun m => Nat.lt_irrefl _ (I.lt m)
theorem size_none (h : Heap) : h.get? h.objs.size = none := by
  cases e : h.get? h.objs.size with
  | none => rfl
  | some o => exact absurd (Heap.lt_size e) (Nat.lt_irrefl _)
theorem Inv.freshB (I : Inv prog w β dice B σ ρ h) : B.get? h.objs.size = none := by
  cases e : B.get? h.objs.size with
  | none => rfl
  | some o => exact absurd (Heap.lt_size (I.keep _ _ e)) (Nat.lt_irrefl _)
/-- other objects, kept ones: the heap may grow and turn what is not owned -/
theorem Inv.keeps (I : Inv prog w β dice B σ ρ h) (k : ∀ a ∈ ρ, ∀ o, h.get? a = some o → h'.get? a = some o) (kB : ∀ b o, B.get? b = some o → h'.get? b = some o) : Inv prog w β dice B σ ρ h' :=
  ⟨I.len, I.nd, I.new, fun a m => let ⟨o, e⟩ := I.live a m; ⟨o, k a m o e⟩, fun i o e => let ⟨a, q, r⟩ := I.has i o e; ⟨a, q, r.at (k a (List.mem_of_getElem? q))⟩, kB, I.orc⟩
theorem Inv.extBut (I : Inv prog w β dice B σ ρ h) {b : Addr} (n : b ∉ ρ) (nB : B.get? b = none) (k : Heap.ExtBut b h h') : Inv prog w β dice B σ ρ h' :=
  I.keeps (fun a m o e => k a o (fun q => n (q ▸ m)) e) fun c o e => k c o (fun q => by rw [q, nB] at e; cases e) (I.keep c o e)
theorem Inv.push (I : Inv prog w β dice B σ ρ h) (o : Obj) : Inv prog w β dice B σ ρ (h.push o) :=
  I.keeps (fun _ _ _ e => Heap.get?_push_of_some o e) fun b x e => Heap.get?_push_of_some o (I.keep b x e)
/-- a new object, owned -/
theorem Inv.alloc (I : Inv prog w β dice B σ ρ h) {ob : Obj} (hf : ob.isFreed = false) {o : AO} {v : AV} (e : σ.new o = some (v, σ'))
    (r : OR prog w β dice (h.push ob) (ρ ++ [h.objs.size]) h.objs.size o) : Inv prog w β dice B σ' (ρ ++ [h.objs.size]) (h.push ob) ∧ VR β (ρ ++ [h.objs.size]) v (.ref h.objs.size) ∧ Ext noT ρ h (ρ ++ [h.objs.size]) (h.push ob) := by
  obtain ⟨rfl, en, eo, eg⟩ := S.new_spec e
  have J := I.push ob
  refine ⟨⟨by rw [en, I.len]; simp, ?_, ?_, ?_, fun i x q => ?_, J.keep, by rw [eo]; exact I.orc⟩, ⟨h.objs.size, by rw [I.len]; simp, rfl⟩,
    ⟨⟨[h.objs.size], rfl, fun a m => by rw [List.mem_singleton.mp m]; exact size_none h⟩, fun b x q _ _ => Heap.get?_push_of_some ob q, J.live⟩⟩
  · rw [List.nodup_append]
    exact ⟨I.nd, by simp, fun a m b n q => I.fresh (by rw [← List.mem_singleton.mp n, ← q]; exact m)⟩
  · intro a m
    rcases List.mem_append.mp m with m | m
    · exact I.new a m
    · rw [List.mem_singleton.mp m]; exact I.freshB
  · intro a m
    rcases List.mem_append.mp m with m | m
    · exact J.live a m
    · rw [List.mem_singleton.mp m]; exact ⟨ob, Heap.get?_push_size _ hf⟩
  · rw [eg] at q
    by_cases hi : i = σ.n
    · rw [if_pos hi] at q; cases q
      exact ⟨h.objs.size, by rw [hi, I.len]; simp, r⟩
    · rw [if_neg hi] at q
      obtain ⟨a, q1, q2⟩ := J.has i x q
      exact ⟨a, get_app q1, q2.more _⟩
/-- an owned object is turned -/
theorem Inv.turn (I : Inv prog w β dice B σ ρ h) {i : Nat} {a : Addr} {o o' : AO} (g : σ.get i = some o) (e : ρ[i]? = some a) (hs : Heap.ExtBut a h h') (hl : ∃ ob, h'.get? a = some ob)
    (r : OR prog w β dice h' ρ a o') : Inv prog w β dice B (σ.put i o') ρ h' ∧ Ext noT ρ h ρ h' := by
  have lv : ∀ b ∈ ρ, ∃ ob, h'.get? b = some ob := fun b m => by
    by_cases q : b = a
    · exact q ▸ hl
    · obtain ⟨ob, z⟩ := I.live b m; exact ⟨ob, hs b ob q z⟩
  refine ⟨⟨I.len, I.nd, I.new, lv, fun j x q => ?_, fun b x q => hs b x (fun z => ?_) (I.keep b x q), I.orc⟩, ⟨[], (List.append_nil ρ).symm, fun _ m => (nomatch m)⟩, fun b x q n _ => hs b x (fun z => n (z ▸ List.mem_of_getElem? e)) q, lv⟩
  · rw [S.get_put g] at q
    by_cases hj : j = i
    · rw [if_pos hj] at q; cases q
      exact ⟨a, hj ▸ e, r⟩
    · rw [if_neg hj] at q
      obtain ⟨b, q1, q2⟩ := I.has j x q
      refine ⟨b, q1, q2.at fun ob z => hs b ob (fun y => hj ?_) z⟩
      subst y
      obtain ⟨l1, z1⟩ := List.getElem?_eq_some_iff.mp e
      obtain ⟨l2, z2⟩ := List.getElem?_eq_some_iff.mp q1
      exact (List.getElem_inj I.nd).mp (z2.trans z1.symm)
  · have := I.new a (List.mem_of_getElem? e)
    rw [← z, q] at this; cases this
theorem Inv.ref (I : Inv prog w β dice B σ ρ h) {i : Nat} {v : Value} {o : AO} (r : VR β ρ (.ref i) v) (g : σ.get i = some o) : ∃ a, ρ[i]? = some a ∧ v = .ref a ∧ OR prog w β dice h ρ a o := by
  obtain ⟨a, e, q⟩ := r
  obtain ⟨b, e', z⟩ := I.has i o g
  rw [e] at e'; cases e'
  exact ⟨a, e, q, z⟩
end

/-! ## a frame -/
def Own (env : Env) (a : Addr) : Prop := a = env.locals ∨ ∃ x, (x, a) ∈ env.cells
structure FrOk (β : Nat → Nat) (B : Heap) (env : Env) (fm : Fm) (ρ : List Addr) (h : Heap) : Prop where
  kind : env.scope.kind = .function
  gl : env.globals = mainGlobals
  bu : env.builtins = builtinsNs
  names : ∀ p ∈ env.scope.names, p.1 ≠ ("__debug__" : Str) ∧ p.1 ≠ ("__classdict__" : Str)
  ns : ∃ m, h.Ns env.locals m ∧ ∀ x v, sget fm x = some v → env.kindOf x = some .local → ∃ val, m x = some val ∧ VR β ρ v val
  cell : ∀ x v, sget fm x = some v → env.kindOf x = some .cell ∨ env.kindOf x = some .free → ∃ c val, env.cells.lookup x = some c ∧ h.IsCell c (some val) ∧ VR β ρ v val
  cells : ∀ x, env.kindOf x = some .cell ∨ env.kindOf x = some .free → ∃ c, env.cells.lookup x = some c
  isCell : ∀ x c, (x, c) ∈ env.cells → ∃ v, h.IsCell c v
  apart : env.cells.Pairwise fun x y => x.2 ≠ y.2
  loc : ∀ x c, (x, c) ∈ env.cells → c ≠ env.locals
  own : ∀ a, Own env a → B.get? a = none ∧ a ∉ ρ
section
variable {prog : Program} {w : World} {β : Nat → Nat} {dice : List Int} {B : Heap} {σ σ' : S} {ρ ρ' ρ₁ ρ₂ : List Addr} {h h' h₁ h₂ : Heap} {T : Addr → Prop} {env : Env} {fm : Fm}
theorem FrOk.live (F : FrOk β B env fm ρ h) {a : Addr} (o : Own env a) : ∃ ob, h.get? a = some ob := by
  rcases o with rfl | ⟨x, m⟩
  · obtain ⟨_, ⟨o, _, _, e, _⟩, _⟩ := F.ns; exact ⟨o, e⟩
  · obtain ⟨_, o, e, _⟩ := F.isCell x a m; exact ⟨o, e⟩
theorem FrOk.at (F : FrOk β B env fm ρ h) (more : ∃ m, ρ' = ρ ++ m) (k : ∀ a, Own env a → ∀ o, h.get? a = some o → h'.get? a = some o) (n : ∀ a, Own env a → a ∉ ρ') : FrOk β B env fm ρ' h' := by
  obtain ⟨m, rfl⟩ := more
  refine ⟨F.kind, F.gl, F.bu, F.names, ?_, ?_, F.cells, ?_, F.apart, F.loc, fun a o => ⟨(F.own a o).1, n a o⟩⟩
  · obtain ⟨mm, ⟨o, es, ep, e, r⟩, q⟩ := F.ns
    refine ⟨mm, ⟨o, es, ep, k _ (.inl rfl) _ e, r⟩, fun x v a b => ?_⟩
    obtain ⟨val, z1, z2⟩ := q x v a b
    exact ⟨val, z1, z2.more m⟩
  · intro x v a b
    obtain ⟨c, val, z1, ⟨o, e, r⟩, z3⟩ := F.cell x v a b
    exact ⟨c, val, z1, ⟨o, k c (.inr ⟨x, mem_of_lookup z1⟩) _ e, r⟩, z3.more m⟩
  · intro x c mm
    obtain ⟨v, o, e, r⟩ := F.isCell x c mm
    exact ⟨v, o, k c (.inr ⟨x, mm⟩) _ e, r⟩
theorem FrOk.ext (F : FrOk β B env fm ρ h) (X : Ext noT ρ h ρ' h') : FrOk β B env fm ρ' h' := by
  refine F.at (let ⟨m, e, _⟩ := X.pre; ⟨m, e⟩) (fun a o ob e => X.keep a ob e (F.own a o).2 fun t => t) fun a o => ?_
  obtain ⟨ob, e⟩ := F.live o
  exact X.notMem e (F.own a o).2
/-- a name is stored -/
theorem FrOk.store (F : FrOk β B env fm ρ s.heap) (I : Inv prog w β dice B σ ρ s.heap) {M : Model} {A : Around} {E : Value → Shared → Prop} {Q : Unit → Shared → Prop} {x : Str} {a : AV} {v : Value} (r : VR β ρ a v)
    (hx : env.kindOf x = some .local ∨ env.kindOf x = some .cell)
    (q : ∀ h' tk, Inv prog w β dice B σ ρ h' → FrOk β B env (sset fm x a) ρ h' → Ext (Own env) ρ s.heap ρ h' → Q () { s with heap := h', toks := tk }) : wpAny M A (storeName env x v) Q E s := by
  rcases hx with hx | hx
  · obtain ⟨m, hn, hm⟩ := F.ns
    refine wpAny_storeName_local hx hn (fun h' hn' hs => ?_) (by rw [F.kind]; rfl)
    have ho := F.own env.locals (.inl rfl)
    have k : ∀ b o, b ≠ env.locals → s.heap.get? b = some o → h'.get? b = some o := fun b o n e => (hs.2 b n).trans e
    have J := I.extBut ho.2 ho.1 hs.extBut
    refine q h' _ J ⟨F.kind, F.gl, F.bu, F.names, ⟨_, hn', fun y b e ky => ?_⟩, fun y b e ky => ?_, F.cells, fun y c mm => ?_, F.apart, F.loc, F.own⟩ ⟨⟨[], (List.append_nil ρ).symm, fun _ m => (nomatch m)⟩, fun b o e _ t => k b o (fun z => t (.inl z)) e, J.live⟩
    · rw [sget_sset] at e
      by_cases z : y = x
      · rw [if_pos z] at e ⊢; cases e; exact ⟨v, rfl, r⟩
      · rw [if_neg z] at e ⊢; exact hm y b e ky
    · have z : ¬ y = x := fun z => by rw [z, hx] at ky; rcases ky with ky | ky <;> cases ky
      rw [sget_sset, if_neg z] at e
      obtain ⟨c, val, z1, z2, z3⟩ := F.cell y b e ky
      exact ⟨c, val, z1, z2.sameBut hs (F.loc y c (mem_of_lookup z1)), z3⟩
    · obtain ⟨v', z⟩ := F.isCell y c mm; exact ⟨v', z.sameBut hs (F.loc y c mm)⟩
  · obtain ⟨c, hc⟩ := F.cells x (.inl hx)
    have hcm := mem_of_lookup hc
    obtain ⟨v₀, hv₀⟩ := F.isCell x c hcm
    refine wpAny_storeName_cell F.kind hx hc hv₀ fun h' hc' hs => ?_
    have ho := F.own c (.inr ⟨x, hcm⟩)
    have k : ∀ b o, b ≠ c → s.heap.get? b = some o → h'.get? b = some o := fun b o n e => (hs.2 b n).trans e
    have J := I.extBut ho.2 ho.1 hs.extBut
    refine q h' _ J ⟨F.kind, F.gl, F.bu, F.names, ?_, fun y b e ky => ?_, F.cells, fun y c' mm => ?_, F.apart, F.loc, F.own⟩ ⟨⟨[], (List.append_nil ρ).symm, fun _ m => (nomatch m)⟩, fun b o e _ t => k b o (fun z => t (.inr ⟨x, z ▸ hcm⟩)) e, J.live⟩
    · obtain ⟨m, hn, hm⟩ := F.ns
      refine ⟨m, hn.sameBut hs (Ne.symm (F.loc x c hcm)), fun y b e ky => ?_⟩
      have z : ¬ y = x := fun z => by rw [z, hx] at ky; cases ky
      rw [sget_sset, if_neg z] at e
      exact hm y b e ky
    · rw [sget_sset] at e
      by_cases z : y = x
      · rw [if_pos z] at e; cases e
        exact ⟨c, v, z ▸ hc, hc', r⟩
      · rw [if_neg z] at e
        obtain ⟨c', val, z1, z2, z3⟩ := F.cell y b e ky
        refine ⟨c', val, z1, z2.sameBut hs fun w => z ?_, z3⟩
        exact name_of_addr F.apart (mem_of_lookup z1) (w ▸ hcm)
    · by_cases z : c' = c
      · exact ⟨_, z ▸ hc'⟩
      · obtain ⟨v', y'⟩ := F.isCell y c' mm; exact ⟨v', y'.sameBut hs z⟩
end
end Mine
end

section
open PySem PySem.W PyProof.Rows PySem.Calls PySem.SeqAt
namespace Mine

/-! ## == -/
theorem both_some {a b : Option Bool} {r : Bool} (h : both a b = some r) : ∃ x y, a = some x ∧ b = some y ∧ r = (x && y) := by
  unfold both at h
  split at h
  · cases h; exact ⟨true, _, rfl, rfl, (Bool.true_and _).symm⟩
  · cases h; exact ⟨false, _, rfl, rfl, rfl⟩
  · cases h
theorem either_some {a b : Option Bool} {r : Bool} (h : either a b = some r) : ∃ x y, a = some x ∧ b = some y ∧ r = (x || y) := by
  unfold either at h
  split at h
  · cases h; exact ⟨true, _, rfl, rfl, rfl⟩
  · cases h; exact ⟨false, _, rfl, rfl, (Bool.false_or _).symm⟩
  · cases h
theorem allEq_nil {f : AV → AV → Option Bool} {m : List AV} {r : Bool} (h : allEq f [] m = some r) : m = [] ∧ r = true := by
  cases m with
  | nil => cases h; exact ⟨rfl, rfl⟩
  | cons => cases h
theorem allEq_cons {f : AV → AV → Option Bool} {a : AV} {l m : List AV} {r : Bool} (h : allEq f (a :: l) m = some r) : ∃ b m' x y, m = b :: m' ∧ f a b = some x ∧ allEq f l m' = some y ∧ r = (x && y) := by
  cases m with
  | nil => cases h
  | cons b m' =>
    obtain ⟨x, y, p, q, e⟩ := both_some h
    exact ⟨b, m', x, y, rfl, p, q, e⟩
theorem allEq_all {f : AV → AV → Option Bool} : ∀ {l m : List AV} {r : Bool}, allEq f l m = some r → ∃ e : Nat → Bool, (∀ j a b, l[j]? = some a → m[j]? = some b → f a b = some (e j)) ∧ r = (List.range l.length).all e
  | [], m, r, h => ⟨fun _ => true, fun j a b q => (by cases q), (allEq_nil h).2⟩
  | a :: l, m, r, h => by
    obtain ⟨b, m', x, y, rfl, p, q, rfl⟩ := allEq_cons h
    obtain ⟨e, he, rfl⟩ := allEq_all q
    refine ⟨fun j => match j with | 0 => x | j + 1 => e j, fun j a' b' e1 e2 => ?_, ?_⟩
    · cases j with
      | zero => cases e1; cases e2; exact p
      | succ j => exact he j a' b' e1 e2
    · rw [List.length_cons, List.range_succ_eq_map, List.all_cons, List.all_map]; rfl
theorem allEq_self {f : AV → AV → Option Bool} (hf : ∀ a r, f a a = some r → r = true) : ∀ {l : List AV} {r : Bool}, allEq f l l = some r → r = true
  | [], r, h => (allEq_nil h).2
  | a :: l, r, h => by
    obtain ⟨b, m', x, y, e, p, q, rfl⟩ := allEq_cons h
    cases e
    rw [hf a x p, allEq_self hf q]; rfl
theorem eqv_succ (σ : S) (n : Nat) (a b : AV) : eqv σ (n + 1) a b = (match a, b with
    | .none, .none => some true
    | .bool a, .bool b => some (beqB a b)
    | .int a, .int b => some (ieq a b)
    | .bytes a, .bytes b => some (blEq a b)
    | .tab k l, .tab j m => (match Nat.beq k j with | true => (match ilEq l m with | true => some true | false => none) | false => none)
    | .ref i, .ref j => (match σ.get i, σ.get j with
      | some (.list l), some (.list m) => (match Nat.beq (llen l) (llen m) with | true => allEq (eqv σ n) l m | false => some false)
      | some (.tup l), some (.tup m) => (match Nat.beq (llen l) (llen m) with | true => allEq (eqv σ n) l m | false => none)
      | _, _ => none)
    | _, _ => none) := rfl
theorem bool_match (a b : Bool) : beqB a b = (a == b) := by cases a <;> cases b <;> rfl
theorem eqv_self (σ : S) : ∀ (n : Nat) (a : AV) (r : Bool), eqv σ n a a = some r → r = true
  | 0, _, _, h => (nomatch h)
  | n + 1, a, r, h => by
    cases a with
    | none => cases h; rfl
    | bool p => rw [eqv_succ] at h; dsimp only at h; rw [bool_match] at h; cases h; simp
    | int p => rw [eqv_succ] at h; dsimp only at h; rw [ieq_eq] at h; cases h; simp
    | bytes p => rw [eqv_succ] at h; dsimp only at h; rw [blEq_eq] at h; cases h; simp
    | tab k l =>
      rw [eqv_succ] at h; dsimp only at h
      split at h
      · split at h
        · cases h; rfl
        · cases h
      · cases h
    | ref i =>
      rw [eqv_succ] at h; dsimp only at h
      split at h
      · rename_i l m g1 g2
        rw [g1] at g2; cases g2
        rw [BT.beq_eq] at h
        simp only [decide_true] at h
        exact allEq_self (eqv_self σ n) h
      · rename_i l m g1 g2
        rw [g1] at g2; cases g2
        rw [BT.beq_eq] at h
        simp only [decide_true] at h
        exact allEq_self (eqv_self σ n) h
      · cases h
    | top => cases h
    | bi => cases h

section
variable {prog : Program} {w : World} {β : Nat → Nat} {dice : List Int} {B : Heap} {σ σ' : S} {ρ ρ' : List Addr} {s : Shared} {A : Around} {E : Value → Shared → Prop}

theorem RcAt.bytes (b c : Array UInt8) (t u : Tok) : RcAt A s (.bytes b t) (.bytes c u) (b.toList == c.toList) := fun _ _ _ _ h => eq_bytes h
theorem RcNeAt.bytes (b c : Array UInt8) (t u : Tok) : RcNeAt A s (.bytes b t) (.bytes c u) (b.toList != c.toList) := fun _ _ _ _ h => ne_bytes h
theorem EqAt.bytes' (b c : Array UInt8) (t u : Tok) : EqAt A s (.bytes b t) (.bytes c u) (decide (b.toList = c.toList)) := fun _ _ _ _ h => eqBool_bytes h
theorem eqv_at (I : Inv prog w β dice B σ ρ s.heap) : ∀ (n : Nat) {a b : AV} {va vb : Value} {r : Bool}, eqv σ n a b = some r → VR β ρ a va → VR β ρ b vb → ∀ A : Around, A.units + n < cLine →
    RcAt A s va vb r ∧ RcNeAt A s va vb (!r) ∧ EqAt A s va vb r
  | 0, _, _, _, _, _, h, _, _, _, _ => (nomatch h)
  | n + 1, a, b, va, vb, r, h, ra, rb, A, hu => by
    rw [eqv_succ] at h
    split at h
    · cases h; cases ra; cases rb; exact ⟨RcAt.none_none, RcNeAt.none_none, EqAt.same .none⟩
    · rename_i p q; rw [bool_match] at h; cases h; cases ra; cases rb; exact ⟨RcAt.bool_bool p q, RcNeAt.bool_bool p q, EqAt.bool_bool p q⟩
    · rename_i p q; rw [ieq_eq] at h; cases h
      obtain ⟨t, rfl⟩ := ra; obtain ⟨u, rfl⟩ := rb
      exact ⟨RcAt.int_int p t q u, RcNeAt.int_int p t q u, EqAt.int_int p t q u⟩
    · rename_i p q; rw [blEq_eq] at h; cases h
      obtain ⟨t, rfl⟩ := ra; obtain ⟨u, rfl⟩ := rb
      exact ⟨(by have z := RcAt.bytes (A := A) (s := s) p.toArray q.toArray t u; rw [show (p.toArray.toList == q.toArray.toList) = decide (p = q) from by by_cases e : p = q <;> simp [e]] at z; exact z), (by have z := RcNeAt.bytes (A := A) (s := s) p.toArray q.toArray t u; rw [show (p.toArray.toList != q.toArray.toList) = !decide (p = q) from by by_cases e : p = q <;> simp [e]] at z; exact z), EqAt.bytes' p.toArray q.toArray t u⟩
    · split at h
      · rename_i k l j m e1
        split at h
        · rename_i e2
          cases h
          rw [BT.beq_eq, decide_eq_true_eq] at e1
          rw [ilEq_iff] at e2
          subst e1 e2
          obtain ⟨x, t, e, rfl⟩ := ra; obtain ⟨y, u, e', rfl⟩ := rb
          rw [e] at e'; cases e'
          have z : (true : Bool) = (x == x) := by simp
          rw [z]
          exact ⟨RcAt.int_int x t x u, RcNeAt.int_int x t x u, EqAt.int_int x t x u⟩
        · cases h
      · cases h
    · rename_i i j
      obtain ⟨x, ex, rfl⟩ := ra
      obtain ⟨y, ey, rfl⟩ := rb
      have fin : RcAt A s (.ref x) (.ref y) r → RcNeAt A s (.ref x) (.ref y) (!r) → (i = j → r = true) → RcAt A s (.ref x) (.ref y) r ∧ RcNeAt A s (.ref x) (.ref y) (!r) ∧ EqAt A s (.ref x) (.ref y) r := fun R N hr => by
        refine ⟨R, N, ?_⟩
        by_cases z : x = y
        · subst z
          have : i = j := by
            obtain ⟨l1, z1⟩ := List.getElem?_eq_some_iff.mp ex
            obtain ⟨l2, z2⟩ := List.getElem?_eq_some_iff.mp ey
            exact (List.getElem_inj I.nd).mp (z1.trans z2.symm)
          rw [hr this]
          exact EqAt.same _
        · exact EqAt.of_refs z R
      split at h
      · rename_i l m g1 g2
        obtain ⟨x', e', _, its, n1, hl, hv⟩ := I.has i _ g1
        rw [ex] at e'; cases e'
        obtain ⟨y', e', _, its2, n2, hl2, hv2⟩ := I.has j _ g2
        rw [ey] at e'; cases e'
        have hl := hl.isList
        have hl2 := hl2.isList
        have sz1 := hv.length
        have sz2 := hv2.length
        split at h
        · rename_i q
          rw [BT.beq_eq, decide_eq_true_eq, llen_eq, llen_eq] at q
          have two : RcAt A s (.ref x) (.ref y) r ∧ RcNeAt A s (.ref x) (.ref y) (!r) := by
            obtain ⟨e, he, rfl⟩ := allEq_all h
            have hE : ∀ j (h1 : j < its.toArray.size) (h2 : j < its2.toArray.size), EqAt A.in1 s its.toArray[j] its2.toArray[j] (e j) := fun j h1 h2 => by
              have k1 : j < l.length := by simp at h1; omega
              have k2 : j < m.length := by simp at h2; omega
              obtain ⟨v1, f1, r1⟩ := hv.get (List.getElem?_eq_getElem k1)
              obtain ⟨v2, f2, r2⟩ := hv2.get (List.getElem?_eq_getElem k2)
              have g1 : its.toArray[j] = v1 := by have := List.getElem?_eq_some_iff.mp f1; simpa using this.2
              have g2 : its2.toArray[j] = v2 := by have := List.getElem?_eq_some_iff.mp f2; simpa using this.2
              rw [g1, g2]
              exact (eqv_at I n (he j _ _ (List.getElem?_eq_getElem k1) (List.getElem?_eq_getElem k2)) r1 r2 A.in1 (by show A.units + 1 + n < cLine; omega)).2.2
            have R := RcAt.lists (A := A) (e := e) hl hl2 (by simp; omega) (by omega) hE
            have N := RcNeAt.lists (A := A) (e := e) hl hl2 (by simp; omega) (by omega) hE
            simp only [List.size_toArray, sz1] at R N
            exact ⟨R, N⟩
          refine fin two.1 two.2 fun z => ?_
          · subst z
            rw [g1] at g2; cases g2
            exact allEq_self (eqv_self σ n) h
        · rename_i q
          cases h
          rw [BT.beq_eq, decide_eq_false_iff_not, llen_eq, llen_eq] at q
          refine fin (RcAt.lists_lengths hl hl2 (by simp; omega) (by omega)) (RcNeAt.lists_lengths hl hl2 (by simp; omega) (by omega)) fun z => ?_
          subst z; rw [g1] at g2; cases g2; exact absurd rfl q
      · rename_i l m g1 g2
        obtain ⟨x', e', _, its, hl, hv⟩ := I.has i _ g1
        rw [ex] at e'; cases e'
        obtain ⟨y', e', _, its2, hl2, hv2⟩ := I.has j _ g2
        rw [ey] at e'; cases e'
        have sz1 := hv.length
        have sz2 := hv2.length
        split at h
        · rename_i q
          rw [BT.beq_eq, decide_eq_true_eq, llen_eq, llen_eq] at q
          have two : RcAt A s (.ref x) (.ref y) r ∧ RcNeAt A s (.ref x) (.ref y) (!r) := by
            obtain ⟨e, he, rfl⟩ := allEq_all h
            have hE : ∀ j (h1 : j < its.toArray.size) (h2 : j < its2.toArray.size), EqAt A.in1 s its.toArray[j] its2.toArray[j] (e j) := fun j h1 h2 => by
              have k1 : j < l.length := by simp at h1; omega
              have k2 : j < m.length := by simp at h2; omega
              obtain ⟨v1, f1, r1⟩ := hv.get (List.getElem?_eq_getElem k1)
              obtain ⟨v2, f2, r2⟩ := hv2.get (List.getElem?_eq_getElem k2)
              have g1 : its.toArray[j] = v1 := by have := List.getElem?_eq_some_iff.mp f1; simpa using this.2
              have g2 : its2.toArray[j] = v2 := by have := List.getElem?_eq_some_iff.mp f2; simpa using this.2
              rw [g1, g2]
              exact (eqv_at I n (he j _ _ (List.getElem?_eq_getElem k1) (List.getElem?_eq_getElem k2)) r1 r2 A.in1 (by show A.units + 1 + n < cLine; omega)).2.2
            have R := RcAt.tuples (A := A) (e := e) (items := its.toArray) (items2 := its2.toArray) hl hl2 (by omega) hE
            have N := RcNeAt.tuples (A := A) (e := e) (items := its.toArray) (items2 := its2.toArray) hl hl2 (by omega) hE
            have z : min its.toArray.size its2.toArray.size = l.length := by simp; omega
            have z' : (its.toArray.size == its2.toArray.size) = true := by simp; omega
            rw [z, z', Bool.and_true] at R N
            exact ⟨R, N⟩
          refine fin two.1 two.2 fun z => ?_
          · subst z
            rw [g1] at g2; cases g2
            exact allEq_self (eqv_self σ n) h
        · cases h
      · cases h
    · cases h
end
end Mine
end

section
open PySem PySem.W PyProof.Rows PySem.Calls PySem.SeqAt
namespace Mine
section
variable {prog : Program} {w : World} {β : Nat → Nat} {dice : List Int} {B : Heap} {Z : Tabs} {σ σ' : S} {ρ ρ' : List Addr} {s : Shared} {A : Around} {E : Value → Shared → Prop}

/-- what goes on behind a value -/
def Kv (prog : Program) (w : World) (β : Nat → Nat) (dice : List Int) (B : Heap) (σ' : S) (v : AV) (ρ : List Addr) (s : Shared) (Q : Value → Shared → Prop) : Prop :=
  ∀ val h' tk ρ', VR β ρ' v val → Inv prog w β dice B σ' ρ' h' → Ext noT ρ s.heap ρ' h' → Q val { s with heap := h', toks := tk }
theorem Inv.refl (I : Inv prog w β dice B σ ρ s.heap) : Ext noT ρ s.heap ρ s.heap := Ext.refl I.live
theorem Kv.now {v : AV} {val : Value} {tk : Nat} {Q : Value → Shared → Prop} (I : Inv prog w β dice B σ ρ s.heap) (q : Kv prog w β dice B σ v ρ s Q) (r : VR β ρ v val) : Q val { s with toks := tk } := q val s.heap tk ρ r I I.refl

theorem intIn_any {k : Int} : ∀ {l : List AV} {vs : List Value} {r : Bool}, intIn l k = some r → VRs β ρ l vs →
    ∃ e : Value → Bool, (∀ y ∈ vs, ∀ (A : Around) (s : Shared) (u : Tok), EqAt A s y (.int k u) (e y)) ∧ r = vs.any e
  | l, vs, r, h, hv => by
    let e : Value → Bool := fun v => match v with | .int i _ => i == k | _ => false
    refine ⟨e, ?_⟩
    induction hv generalizing r with
    | nil => cases h; exact ⟨fun y m => (nomatch m), rfl⟩
    | @cons a v l m ra _ ih =>
      cases a with
      | int b =>
        have h' : either (some (ieq b k)) (intIn l k) = some r := h
        obtain ⟨x, y, e1, e2, rfl⟩ := either_some h'
        cases e1
        obtain ⟨p, q⟩ := ih _ e2
        obtain ⟨t, rfl⟩ := ra
        refine ⟨fun z m A s u => ?_, ?_⟩
        · rcases List.mem_cons.mp m with rfl | m
          · exact EqAt.int_int b t k u
          · exact p z m A s u
        · rw [List.any_cons, ← q, ieq_eq]; rfl
      | _ => cases h
theorem boolIn_any {k : Bool} : ∀ {l : List AV} {vs : List Value} {r : Bool}, boolIn l k = some r → VRs β ρ l vs →
    ∃ e : Value → Bool, (∀ y ∈ vs, ∀ (A : Around) (s : Shared), EqAt A s y (.bool k) (e y)) ∧ r = vs.any e
  | l, vs, r, h, hv => by
    let e : Value → Bool := fun v => match v with | .bool i => i == k | _ => false
    refine ⟨e, ?_⟩
    induction hv generalizing r with
    | nil => cases h; exact ⟨fun y m => (nomatch m), rfl⟩
    | @cons a v l m ra _ ih =>
      cases a with
      | bool b =>
        have h' : either (some (beqB b k)) (boolIn l k) = some r := h
        obtain ⟨x, y, e1, e2, rfl⟩ := either_some h'
        cases e1
        obtain ⟨p, q⟩ := ih _ e2
        cases ra
        refine ⟨fun z m A s => ?_, ?_⟩
        · rcases List.mem_cons.mp m with rfl | m
          · exact EqAt.bool_bool b k
          · exact p z m A s
        · rw [List.any_cons, ← q, bool_match]
      | _ => cases h
theorem any_toArray (vs : List Value) (e : Value → Bool) : vs.toArray.any e = vs.any e := by simp

theorem truth_ok {a : AV} {va : Value} {b : Bool} {Q : Bool → Shared → Prop} (I : Inv prog w β dice B σ ρ s.heap) (ra : VR β ρ a va) (e : truth σ a = some b) (q : ∀ tk, Q b { s with toks := tk }) :
    wpAny (model prog w) A (truthy va) Q E s := by
  cases a with
  | none => cases e; cases ra; exact fun _ _ _ => q s.toks
  | bool c => cases e; cases ra; exact wpAny_truthy_bool (q s.toks)
  | int i =>
    obtain ⟨t, rfl⟩ := ra
    refine PyProof.Rows.truthy_int ?_
    have : b = (i != 0) := by
      unfold truth at e; dsimp only at e; rw [ieq_eq] at e
      by_cases h : i = 0
      · subst h; cases e; rfl
      · rw [decide_eq_false h] at e; cases e; exact (bne_iff_ne.mpr h).symm
    rw [← this]; exact q s.toks
  | ref i =>
    unfold truth at e
    dsimp only at e
    split at e
    · rename_i vs g
      cases e
      obtain ⟨x, ex, rfl, z, items, n, hl, hv⟩ := I.ref ra g
      have sz := hv.length
      refine wpAny_truthy_list hl.isList (by simp; omega) ?_
      cases hv <;> exact q _
    · cases e
  | _ => cases e
end
end Mine
end

section
open PySem PySem.W PyProof.Rows PySem.Calls PySem.SeqAt
namespace Mine
section
variable {β : Nat → Nat} {ρ : List Addr}
/-! dicts -/
theorem dget_cons (p : Int × AV) (l : List (Int × AV)) (k : Int) : dget (p :: l) k = if p.1 = k then some p.2 else dget l k := by
  have e : dget (p :: l) k = (match ieq p.1 k with | true => some p.2 | false => dget l k) := rfl
  rw [e, ieq_eq]; by_cases h : p.1 = k <;> simp [h]
theorem dset_cons (p : Int × AV) (l : List (Int × AV)) (k : Int) (v : AV) : dset (p :: l) k v = if p.1 = k then (p.1, v) :: l else p :: dset l k v := by
  have e : dset (p :: l) k v = (match ieq p.1 k with | true => (p.1, v) :: l | false => p :: dset l k v) := rfl
  rw [e, ieq_eq]; by_cases h : p.1 = k <;> simp [h]
theorem ddel_cons (p : Int × AV) (l : List (Int × AV)) (k : Int) : ddel (p :: l) k = if p.1 = k then l else p :: ddel l k := by
  have e : ddel (p :: l) k = (match ieq p.1 k with | true => l | false => p :: ddel l k) := rfl
  rw [e, ieq_eq]; by_cases h : p.1 = k <;> simp [h]
theorem valueAt_cons (p : Int × Value) (l : List (Int × Value)) (k : Int) : valueAt (p :: l) k = if p.1 = k then some p.2 else valueAt l k := by
  unfold valueAt
  rw [List.find?_cons]
  by_cases h : p.1 = k <;> simp [h]
theorem DRs.keys {es : List (Int × AV)} {kvs : List (Int × Value)} (r : DRs β ρ es kvs) : kvs.map (·.1) = es.map (·.1) := by
  induction r with
  | nil => rfl
  | cons _ _ ih => simp [ih]
theorem DRs.length {es : List (Int × AV)} {kvs : List (Int × Value)} (r : DRs β ρ es kvs) : kvs.length = es.length := by
  have := congrArg List.length r.keys; simpa using this
theorem DRs.at_ {es : List (Int × AV)} {kvs : List (Int × Value)} (r : DRs β ρ es kvs) (k : Int) :
    (dget es k = none ∧ valueAt kvs k = none) ∨ ∃ a v, dget es k = some a ∧ valueAt kvs k = some v ∧ VR β ρ a v := by
  induction r with
  | nil => exact .inl ⟨rfl, rfl⟩
  | @cons k' a v l m ra _ ih =>
    rw [dget_cons, valueAt_cons]
    by_cases h : k' = k
    · rw [if_pos h, if_pos h]; exact .inr ⟨a, v, rfl, rfl, ra⟩
    · rw [if_neg h, if_neg h]; exact ih
theorem DRs.get {es : List (Int × AV)} {kvs : List (Int × Value)} (r : DRs β ρ es kvs) : ∀ {i : Nat} {k : Int} {a : AV}, es[i]? = some (k, a) → ∃ v, kvs[i]? = some (k, v) ∧ VR β ρ a v := by
  induction r with
  | nil => intro i k a e; cases e
  | cons ra _ ih =>
    intro i k a e
    cases i with
    | zero => cases e; exact ⟨_, rfl, ra⟩
    | succ i => exact ih e
theorem stored_absent {kvs : List (Int × Value)} {k : Int} {v : Value} (h : k ∉ kvs.map (·.1)) : stored kvs k v = kvs ++ [(k, v)] := by
  unfold stored
  rw [if_neg]
  intro q
  obtain ⟨x, m, e⟩ := List.any_eq_true.mp q
  exact h (List.mem_map.mpr ⟨x, m, of_decide_eq_true e⟩)
theorem map_absent {kvs : List (Int × Value)} {k : Int} {v : Value} (h : k ∉ kvs.map (·.1)) : (kvs.map fun kv => if kv.1 = k then (kv.1, v) else kv) = kvs := by
  induction kvs with
  | nil => rfl
  | cons p l ih =>
    simp only [List.map_cons, List.mem_cons, not_or] at h ⊢
    rw [if_neg (fun e => h.1 e.symm), ih h.2]
theorem stored_cons {p : Int × Value} {l : List (Int × Value)} {k : Int} {v : Value} (hn : ((p :: l).map (·.1)).Nodup) : stored (p :: l) k v = if p.1 = k then (p.1, v) :: l else p :: stored l k v := by
  simp only [List.map_cons, List.nodup_cons] at hn
  by_cases h : p.1 = k
  · rw [if_pos h]
    unfold stored
    rw [if_pos (by simp [h]), List.map_cons, if_pos h, map_absent (h ▸ hn.1)]
  · rw [if_neg h]
    unfold stored
    have e : (p :: l).any (fun kv => decide (kv.1 = k)) = l.any (fun kv => decide (kv.1 = k)) := by simp [h]
    rw [e]
    by_cases q : l.any (fun kv => decide (kv.1 = k)) = true
    · rw [if_pos q, if_pos q, List.map_cons, if_neg h]
    · rw [if_neg q, if_neg q]; rfl
theorem DRs.set {es : List (Int × AV)} {kvs : List (Int × Value)} {k : Int} {a : AV} {v : Value} (ra : VR β ρ a v) (r : DRs β ρ es kvs) (hn : (kvs.map (·.1)).Nodup) : DRs β ρ (dset es k a) (stored kvs k v) := by
  induction r with
  | nil => exact .cons ra .nil
  | @cons k' b u l m rb q ih =>
    rw [dset_cons, stored_cons hn]
    by_cases h : k' = k
    · rw [if_pos h, if_pos h]; exact .cons ra q
    · rw [if_neg h, if_neg h]; exact .cons rb (ih (List.nodup_cons.mp hn).2)
theorem without_cons {p : Int × Value} {l : List (Int × Value)} {k : Int} (hn : ((p :: l).map (·.1)).Nodup) : without (p :: l) k = if p.1 = k then l else p :: without l k := by
  simp only [List.map_cons, List.nodup_cons] at hn
  by_cases h : p.1 = k
  · rw [if_pos h]
    have e : without (p :: l) k = without l k := by unfold without; rw [List.filter_cons]; simp [h]
    rw [e, without_of_not_mem l k (h ▸ hn.1)]
  · rw [if_neg h]; unfold without; rw [List.filter_cons]; simp [h]
theorem DRs.del {es : List (Int × AV)} {kvs : List (Int × Value)} {k : Int} (r : DRs β ρ es kvs) (hn : (kvs.map (·.1)).Nodup) : DRs β ρ (ddel es k) (without kvs k) := by
  induction r with
  | nil => exact .nil
  | @cons k' b u l m rb q ih =>
    rw [ddel_cons, without_cons hn]
    by_cases h : k' = k
    · rw [if_pos h, if_pos h]; exact q
    · rw [if_neg h, if_neg h]; exact .cons rb (ih (List.nodup_cons.mp hn).2)
theorem dset_length (es : List (Int × AV)) (k : Int) (v : AV) : (dset es k v).length ≤ es.length + 1 := by
  induction es with
  | nil => exact Nat.le_refl _
  | cons p l ih => rw [dset_cons]; split <;> simp <;> omega
theorem ddel_length (es : List (Int × AV)) (k : Int) : (ddel es k).length ≤ es.length := by
  induction es with
  | nil => exact Nat.le_refl _
  | cons p l ih => rw [ddel_cons]; split <;> simp <;> omega
theorem intsHas_iff : ∀ (l : List Int) (k : Int), intsHas l k = l.any (· == k)
  | [], _ => rfl
  | a :: l, k => by
    have e : intsHas (a :: l) k = (match ieq a k with | true => true | false => intsHas l k) := rfl
    rw [e, ieq_eq, List.any_cons, intsHas_iff l k]
    by_cases h : a = k <;> simp [h]
end

/-! ## what is known of the text's top -/
structure Gd (prog : Program) (w : World) (β : Nat → Nat) (Z : Tabs) (B : Heap) : Prop where
  X : Z.K.In B
  lim : B.NoLimit
  g : ∃ mg, B.Ns mainGlobals mg
  b : ∃ mb, B.Ns builtinsNs mb ∧ ∀ x : Str, x ≠ "__name__" → mb x = bootBuiltins x
  mods : ∃ o, B.get? sysModules = some o
  tups : ∀ a l, nget Z.tups a = some l → ∃ vs, IsTup B a (vs : List Value).toArray ∧ IntsAre vs l
  dcts : ∀ a es, nget Z.dcts a = some es → ∃ kvs, B.DictOf (intKind prog w) a kvs ∧ DRs β [] es kvs

section
variable {prog : Program} {w : World} {β : Nat → Nat} {dice : List Int} {B : Heap} {Z : Tabs} {σ σ' : S} {ρ ρ' : List Addr} {s : Shared} {A : Around} {E : Value → Shared → Prop}
theorem VR.nil {a : AV} {v : Value} (r : VR β [] a v) : VR β ρ a v := r.more ρ
theorem DRs.nil' {es : List (Int × AV)} {kvs : List (Int × Value)} (r : DRs β [] es kvs) : DRs β ρ es kvs := r.more ρ
theorem notMods (G : Gd prog w β Z B) (I : Inv prog w β dice B σ ρ s.heap) {a : Addr} (m : a ∈ ρ) : (a == sysModules) = false := by
  rw [beq_eq_false_iff_ne]
  intro e
  obtain ⟨o, q⟩ := G.mods
  have := I.new a m
  rw [e, q] at this; cases this
theorem ints_any {k : Int} {vs : List Value} {ns : List Int} (h : IntsAre vs ns) : ∃ e : Value → Bool, (∀ y ∈ vs, ∀ (A : Around) (s : Shared) (u : Tok), EqAt A s y (.int k u) (e y)) ∧ vs.any e = ns.any (· == k) := by
  let e : Value → Bool := fun v => match v with | .int i _ => i == k | _ => false
  refine ⟨e, ?_⟩
  induction h with
  | nil => exact ⟨fun y m => (nomatch m), rfl⟩
  | cons n t _ ih =>
    refine ⟨fun z m A s u => ?_, ?_⟩
    · rcases List.mem_cons.mp m with rfl | m
      · exact EqAt.int_int n t k u
      · exact ih.1 z m A s u
    · rw [List.any_cons, List.any_cons, ih.2]
/-- x in y, and not in: one bool, whatever the tokens -/
theorem isIn_ok (G : Gd prog w β Z B) (hZ : ∀ t es, nget Z.dcts t = some es → (t == sysModules) = false) (I : Inv prog w β dice B σ ρ s.heap) {a b : AV} {va vb : Value} {r : Bool} (ra : VR β ρ a va) (rb : VR β ρ b vb) (e : isIn Z σ a b = some r)
    {Q : Value → Shared → Prop} :
    ((∀ tk, Q (.bool r) { s with toks := tk }) → wpAny (model prog w) A (compareOp .In va vb) Q E s) ∧ ((∀ tk, Q (.bool (!r)) { s with toks := tk }) → wpAny (model prog w) A (compareOp .NotIn va vb) Q E s) := by
  unfold isIn at e
  split at e
  · rename_i k j
    obtain ⟨t, rfl⟩ := ra
    split at e
    · rename_i l g
      obtain ⟨x, ex, rfl, z, items, n, hl, hv⟩ := I.ref rb g
      obtain ⟨f, h1, rfl⟩ := intIn_any e hv
      exact ⟨fun q => in_listAt f hl.isList (fun y m => h1 y (by simpa using m) _ _ _) (by rw [any_toArray]; exact q s.toks),
        fun q => notIn_listAt f hl.isList (fun y m => h1 y (by simpa using m) _ _ _) (by rw [any_toArray]; exact q s.toks)⟩
    · rename_i l g
      obtain ⟨x, ex, rfl, z, items, hl, hv⟩ := I.ref rb g
      obtain ⟨f, h1, rfl⟩ := intIn_any e hv
      exact ⟨fun q => in_tupleAt f hl (fun y m => h1 y (by simpa using m) _ _ _) (by rw [any_toArray]; exact q s.toks),
        fun q => notIn_tupleAt f hl (fun y m => h1 y (by simpa using m) _ _ _) (by rw [any_toArray]; exact q s.toks)⟩
    · rename_i es g
      obtain ⟨x, ex, rfl, z, kvs, hd, hv⟩ := I.ref rb g
      have nm := notMods G I (List.mem_of_getElem? ex)
      cases e
      have hr : someB (dget es k) = (valueAt kvs k).isSome := by
        rcases hv.at_ k with ⟨q1, q2⟩ | ⟨a, v, q1, q2, _⟩ <;> rw [q1, q2] <;> rfl
      rw [hr]
      exact ⟨fun q => wpAny_in_of (knd := intKind prog w) (k := k) (intKind_is prog w k t) nm hd.mapOf (q _), fun q => wpAny_notIn_of (knd := intKind prog w) (k := k) (intKind_is prog w k t) nm hd.mapOf (q _)⟩
    · cases e
  · rename_i k j
    cases ra
    split at e
    · rename_i l g
      obtain ⟨x, ex, rfl, z, items, n, hl, hv⟩ := I.ref rb g
      obtain ⟨f, h1, rfl⟩ := boolIn_any e hv
      exact ⟨fun q => in_listAt f hl.isList (fun y m => h1 y (by simpa using m) _ _) (by rw [any_toArray]; exact q s.toks),
        fun q => notIn_listAt f hl.isList (fun y m => h1 y (by simpa using m) _ _) (by rw [any_toArray]; exact q s.toks)⟩
    · cases e
  · rename_i k j
    obtain ⟨t, rfl⟩ := ra
    cases rb
    split at e
    · rename_i l g
      cases e
      obtain ⟨vs, ht, hi⟩ := G.tups _ _ g
      obtain ⟨f, h1, h2⟩ := ints_any (k := k) hi
      rw [intsHas_iff, ← h2]
      have ht := ht.keeps I.keep
      exact ⟨fun q => in_tupleAt f ht (fun y m => h1 y (by simpa using m) _ _ _) (by rw [any_toArray]; exact q s.toks),
        fun q => notIn_tupleAt f ht (fun y m => h1 y (by simpa using m) _ _ _) (by rw [any_toArray]; exact q s.toks)⟩
    · split at e
      · rename_i es g
        cases e
        obtain ⟨kvs, hd, hv⟩ := G.dcts _ _ g
        have hr : someB (dget es k) = (valueAt kvs k).isSome := by
          rcases hv.at_ k with ⟨q1, q2⟩ | ⟨a, v, q1, q2, _⟩ <;> rw [q1, q2] <;> rfl
        rw [hr]
        have hd := hd.keep I.keep
        exact ⟨fun q => wpAny_in_of (knd := intKind prog w) (k := k) (intKind_is prog w k t) (hZ _ _ g) hd.mapOf (q _), fun q => wpAny_notIn_of (knd := intKind prog w) (k := k) (intKind_is prog w k t) (hZ _ _ g) hd.mapOf (q _)⟩
      · cases e
  · cases e
end
end Mine
end

section
open PySem PySem.W PyProof.Rows PySem.Calls PySem.SeqAt
namespace Mine
section
variable {prog : Program} {w : World} {β : Nat → Nat} {dice : List Int} {B : Heap} {Z : Tabs} {σ σ' : S} {ρ ρ' : List Addr} {s : Shared} {A : Around} {E : Value → Shared → Prop}

theorem isNone_eq {a : AV} {v : Value} {b : Bool} (r : VR β ρ a v) (e : isNone a = some b) : plainIs v .none = true ∧ b = (v == .none) := by
  cases a with
  | none => cases e; cases r; exact ⟨rfl, rfl⟩
  | bool b => cases e; cases r; exact ⟨rfl, rfl⟩
  | int i => cases e; obtain ⟨t, rfl⟩ := r; exact ⟨rfl, rfl⟩
  | bytes b => cases e; obtain ⟨t, rfl⟩ := r; exact ⟨rfl, rfl⟩
  | ref i => cases e; obtain ⟨a, _, rfl⟩ := r; exact ⟨rfl, rfl⟩
  | top a => cases e; cases r; exact ⟨rfl, rfl⟩
  | bi b => cases e
  | tab k l => cases e; obtain ⟨x, t, _, rfl⟩ := r; exact ⟨rfl, rfl⟩

theorem cmp_ok (G : Gd prog w β Z B) (hZ : ∀ t es, nget Z.dcts t = some es → (t == sysModules) = false) (I : Inv prog w β dice B σ ρ s.heap) (hu : A.units + 64 < cLine) {op : CmpOp} {a b : AV} {va vb : Value} {r : Bool}
    (ra : VR β ρ a va) (rb : VR β ρ b vb) (e : cmp Z op a b σ = some r) {Q : Value → Shared → Prop} (q : ∀ tk, Q (.bool r) { s with toks := tk }) : wpAny (model prog w) A (compareOp op va vb) Q E s := by
  cases op with
  | Eq => exact (eqv_at I 8 e ra rb A (by omega)).1 _ _ _ _ (q s.toks)
  | NotEq =>
    unfold cmp at e; dsimp only at e
    split at e
    · rename_i r' e'; cases e; exact (eqv_at I 8 e' ra rb A (by omega)).2.1 _ _ _ _ (q s.toks)
    · cases e
  | Lt =>
    unfold cmp at e; dsimp only at e
    split at e
    · cases e; obtain ⟨t, rfl⟩ := ra; obtain ⟨u, rfl⟩ := rb
      rw [ilt_eq] at q; exact PyProof.Rows.lt_int (q s.toks)
    · cases e
  | LtE =>
    unfold cmp at e; dsimp only at e
    split at e
    · cases e; obtain ⟨t, rfl⟩ := ra; obtain ⟨u, rfl⟩ := rb
      rw [ile_eq] at q; exact PyProof.Rows.le_int (q s.toks)
    · cases e
  | Gt =>
    unfold cmp at e; dsimp only at e
    split at e
    · cases e; obtain ⟨t, rfl⟩ := ra; obtain ⟨u, rfl⟩ := rb
      rw [ilt_eq] at q; exact PyProof.Rows.gt_int (q s.toks)
    · cases e
  | GtE =>
    unfold cmp at e; dsimp only at e
    split at e
    · cases e; obtain ⟨t, rfl⟩ := ra; obtain ⟨u, rfl⟩ := rb
      rw [ile_eq] at q; exact PyProof.Rows.ge_int (q s.toks)
    · cases e
  | Is =>
    unfold cmp at e; dsimp only at e
    split at e
    · cases rb
      obtain ⟨h1, rfl⟩ := isNone_eq ra e
      exact wpAny_is_plain h1 (q s.toks)
    · cases e
  | IsNot =>
    unfold cmp at e; dsimp only at e
    split at e
    · cases rb
      split at e
      · rename_i r' e'; cases e
        obtain ⟨h1, rfl⟩ := isNone_eq ra e'
        exact wpAny_isNot_plain h1 (q s.toks)
      · cases e
    · cases e
  | In => exact (isIn_ok G hZ I ra rb e).1 q
  | NotIn =>
    unfold cmp at e; dsimp only at e
    split at e
    · rename_i r' e'; cases e; exact (isIn_ok G hZ I ra rb e').2 q
    · cases e

theorem unop_ok (I : Inv prog w β dice B σ ρ s.heap) {op : UnaryOp} {a v : AV} {va : Value} (ra : VR β ρ a va) (e : unop op a σ = some v) {Q : Value → Shared → Prop} (q : Kv prog w β dice B σ v ρ s Q) : wpAny (model prog w) A (unaryOp op va) Q E s := by
  cases op with
  | Not =>
    unfold unop at e; dsimp only at e
    split at e
    · rename_i b e'; cases e
      exact not_of (truth_ok I ra e' fun tk => q.now I rfl)
    · cases e
  | USub =>
    unfold unop at e; dsimp only at e
    split at e
    · cases e; obtain ⟨t, rfl⟩ := ra
      exact PyProof.Rows.neg_int (q.now I ⟨_, rfl⟩)
    · cases e
  | Invert =>
    unfold unop at e; dsimp only at e
    split at e
    · cases e; obtain ⟨t, rfl⟩ := ra
      exact PyProof.Rows.invert_int (q.now I ⟨_, rfl⟩)
    · cases e
  | UAdd => cases e

theorem intOp_ok {op : Operator} {a b c : Int} {t u : Tok} (e : intOp op a b = some c) {Q : Value → Shared → Prop} (q : ∀ tk tk', Q (.int c tk) { s with toks := tk' }) : wpAny (model prog w) A (binaryOp op (.int a t) (.int b u)) Q E s := by
  cases op with
  | Add => cases e; exact PyProof.Rows.add_int (q _ _)
  | Sub => cases e; exact PyProof.Rows.sub_int' (q _ _)
  | BitAnd => cases e; exact PyProof.Rows.and_int (q _ _)
  | BitOr => cases e; exact PyProof.Rows.or_int (q _ _)
  | RShift =>
    unfold intOp at e; dsimp only at e
    split at e
    · rename_i h; cases e
      rw [ile_eq, decide_eq_true_eq] at h
      exact PyProof.Rows.rshift_int h (q _ _)
    · cases e
  | LShift =>
    unfold intOp at e; dsimp only at e
    split at e
    · rename_i h1
      split at e
      · rename_i h2
        split at e
        · rename_i h3
          split at e
          · rename_i h4; cases e
            rw [ile_eq, decide_eq_true_eq] at h1 h2 h4
            rw [ilt_eq, decide_eq_true_eq] at h3
            refine PyProof.Rows.lshift_int h1 ?_ (q _ _)
            have := intBits_le_64 (k := a) (by omega) (by omega)
            omega
          · cases e
        · cases e
      · cases e
    · cases e
  | _ => cases e

theorem isL_push (h : Heap) (items : List Value) : IsL (h.push { cls := .type "list", data := .seq items.toArray }) h.objs.size items.toArray 0 := Heap.get?_push_size _ rfl
/-- a list is made -/
theorem newL_ok (I : Inv prog w β dice B σ ρ s.heap) {l : List AV} {vs : List Value} {v : AV} (hv : VRs β ρ l vs) (e : σ.newL l = some (v, σ')) {Q : Value → Shared → Prop} (q : Kv prog w β dice B σ' v ρ s Q) (tk : Nat) :
    Q (.ref s.heap.objs.size) { s with heap := s.heap.push { cls := .type "list", data := .seq vs.toArray }, toks := tk } := by
  unfold S.newL at e
  split at e
  · rename_i hs
    have sz := small_iff hs
    obtain ⟨a, b, c⟩ := I.alloc (ob := { cls := .type "list", data := .seq vs.toArray }) rfl e ⟨by omega, vs, 0, isL_push _ _, hv.more _⟩
    exact q _ _ tk _ b a c
  · cases e
theorem newT_ok (I : Inv prog w β dice B σ ρ s.heap) {l : List AV} {vs : List Value} {v : AV} (hv : VRs β ρ l vs) (e : σ.newT l = some (v, σ')) {Q : Value → Shared → Prop} (q : Kv prog w β dice B σ' v ρ s Q) (tk : Nat) :
    Q (.ref s.heap.objs.size) { s with heap := s.heap.push { cls := .type "tuple", data := .seq vs.toArray }, toks := tk } := by
  unfold S.newT at e
  split at e
  · rename_i hs
    have sz := small_iff hs
    obtain ⟨a, b, c⟩ := I.alloc (ob := { cls := .type "tuple", data := .seq vs.toArray }) rfl e ⟨by omega, vs, IsTup.new _ _, hv.more _⟩
    exact q _ _ tk _ b a c
  · cases e
theorem newL_len {l : List AV} {v : AV} (e : σ.newL l = some (v, σ')) : l.length ≤ 1000 := by
  unfold S.newL at e
  split at e
  · rename_i hs; exact small_iff hs
  · cases e
theorem newT_len {l : List AV} {v : AV} (e : σ.newT l = some (v, σ')) : l.length ≤ 1000 := by
  unfold S.newT at e
  split at e
  · rename_i hs; exact small_iff hs
  · cases e
end
end Mine
end

section
open PySem PySem.W PyProof.Rows PySem.Calls PySem.SeqAt
namespace Mine
section
variable {prog : Program} {w : World} {β : Nat → Nat} {dice : List Int} {B : Heap} {Z : Tabs} {σ σ' : S} {ρ ρ' : List Addr} {s : Shared} {A : Around} {E : Value → Shared → Prop}

theorem binop_ok (I : Inv prog w β dice B σ ρ s.heap) {op : Operator} {a b v : AV} {va vb : Value} (ra : VR β ρ a va) (rb : VR β ρ b vb) (e : binop op a b σ = some (v, σ')) {Q : Value → Shared → Prop} (q : Kv prog w β dice B σ' v ρ s Q) :
    wpAny (model prog w) A (binaryOp op va vb) Q E s := by
  unfold binop at e
  split at e
  · split at e
    · rename_i c e'; cases e
      obtain ⟨t, rfl⟩ := ra; obtain ⟨u, rfl⟩ := rb
      exact intOp_ok e' fun tk tk' => q.now I ⟨_, rfl⟩
    · cases e
  · rename_i i j
    split at e
    · split at e
      · rename_i l m g1 g2
        obtain ⟨x, ex, rfl, z1, it1, n1, hl1, hv1⟩ := I.ref ra g1
        obtain ⟨y, ey, rfl, z2, it2, n2, hl2, hv2⟩ := I.ref rb g2
        rw [lapp_eq] at e
        have sz := newL_len e
        have l1 := hv1.length
        have l2 := hv2.length
        refine P.add_list hl1 hl2 ?_ (by simp at sz ⊢; rw [sizeLine_eq]; omega)
        rw [show it1.toArray ++ it2.toArray = (it1 ++ it2).toArray from by simp]
        exact newL_ok I (hv1.append hv2) e q _
      · rename_i l m g1 g2
        split at e
        · rename_i a1 l1 a2 l2
          obtain ⟨x, ex, rfl, z1, it1, ⟨⟨c1, d1, dt1, sl1⟩, o1, hc1, n1, hd1⟩, hv1⟩ := I.ref ra g1
          obtain ⟨y, ey, rfl, z2, it2, ⟨⟨c2, d2, dt2, sl2⟩, o2, hc2, n2, hd2⟩, hv2⟩ := I.ref rb g2
          dsimp only at hc1 hd1 hc2 hd2
          subst hc1 hd1 hc2 hd2
          rw [lapp_eq] at e
          have sz := newT_len e
          have l1 := hv1.length
          have l2 := hv2.length
          refine concat_meets ⟨_, o1, rfl⟩ ⟨_, o2, rfl⟩ noFill_tuple_add seq_tuple_add PySem.F.slot_tuple_add PySem.F.entry_tuple_add (PySem.F.args_tuple_add_2 _ _)
            (tuple_addW2 x y it1.toArray it2.toArray n1 n2 d1 d2 sl1 sl2 ?_ ?_ ?_) ⟨o1, o2, ?_⟩
          · cases hv1; simp
          · cases hv2; simp
          · simp at sz l1 l2 ⊢; rw [sizeLine_eq]; omega
          · rw [show it1.toArray ++ it2.toArray = (it1 ++ it2).toArray from by simp]
            exact newT_ok I (hv1.append hv2) e q _
        · cases e
      · cases e
    · cases e
  · cases e

theorem index?_spec {n : Nat} {k : Int} {j : Nat} (e : index? n k = some j) : j < n ∧ ((0 ≤ k ∧ k.toNat = j) ∨ (k < 0 ∧ -(n : Int) ≤ k ∧ (k + n).toNat = j)) := by
  unfold index? at e
  split at e
  · rename_i i
    split at e
    · rename_i h
      have : i + 1 ≤ n := Nat.le_of_ble_eq_true h
      cases e
      exact ⟨this, .inl ⟨Int.natCast_nonneg _, rfl⟩⟩
    · cases e
  · rename_i i
    split at e
    · rename_i h
      have : i + 1 ≤ n := Nat.le_of_ble_eq_true h
      cases e
      have e2 : n.sub i.succ = n - (i + 1) := rfl
      refine ⟨by omega, .inr ⟨by omega, by omega, by omega⟩⟩
    · cases e
theorem seqIndex_of {n : Nat} {k : Int} {j : Nat} (e : index? n k = some j) : seqIndex? k n = some j := by
  obtain ⟨h1, h2⟩ := index?_spec e
  unfold seqIndex?
  rcases h2 with ⟨a, b⟩ | ⟨a, b, c⟩
  · simp; split <;> (try split) <;> first | omega | (simp; omega)
  · simp; split <;> (try split) <;> first | omega | (simp; omega)
end
end Mine
end

section
open PySem PySem.W PyProof.Rows PySem.Calls PySem.SeqAt
namespace Mine
/-- what is known of a class: its objects keep their attributes in their own dict -/
structure OwnOk (K : Frag) (C : Nat) (names : List Str) : Prop where
  ga : findIn K (.ref C) "__getattribute__" = some (some (.builtin "object.__getattribute__"))
  gt : findIn K (.ref C) "__getattr__" = some none
  sa : findIn K (.ref C) "__setattr__" = some (some (.builtin "object.__setattr__"))
  po : plainOver K C = true
  hd : hasDictIn K C = true
  nm : ∀ x ∈ names, findIn K (.ref C) x = some none
section
variable {prog : Program} {w : World} {β : Nat → Nat} {dice : List Int} {B : Heap} {Z : Tabs} {σ σ' : S} {ρ ρ' : List Addr} {s : Shared} {A : Around} {E : Value → Shared → Prop}

def noSlice : Expr → Bool
  | .Slice .. => false
  | _ => true
theorem subscripted_plain {sl : Expr} (h : noSlice sl = true) (o i : Value) : subscripted sl false o i = operate [o, i] (getItem o i) := by
  cases sl <;> first | rfl | cases h
theorem fit_of {n : Nat} {k : Int} {j : Nat} (e : index? n k = some j) (h : n ≤ 2000) : -(2 ^ 63) ≤ k ∧ k < 2 ^ 63 := by
  obtain ⟨h1, h2⟩ := index?_spec e
  omega
theorem tabOf_get {vs : List AV} : ∀ {l m : List Int} {i : Nat} {x : Int}, tabOf vs l = some m → l[i]? = some x → ∃ j y, x = Int.ofNat j ∧ vs[j]? = some (.int y) ∧ m[i]? = some y
  | [], _, _, _, _, e => by cases e
  | a :: l, m, i, x, h, e => by
    unfold tabOf lmap? at h
    dsimp only at h
    split at h
    · rename_i b h1
      split at h
      · rename_i r h2
        cases h
        cases i with
        | zero =>
          cases e
          split at h1
          · rename_i j
            split at h1
            · rename_i y h3; cases h1; rw [lget_eq] at h3; exact ⟨j, _, rfl, h3, rfl⟩
            · cases h1
          · cases h1
        | succ i => exact tabOf_get (l := l) (m := r) (i := i) h2 e
      · cases h
    · cases h

theorem item_ok (G : Gd prog w β Z B) (I : Inv prog w β dice B σ ρ s.heap) {value sl : Expr} {a b v : AV} {va vb : Value} (ra : VR β ρ a va) (rb : VR β ρ b vb) (e : item Z a b σ = some v) (hs : noSlice sl = true)
    {Q : Value → Shared → Prop} (q : Kv prog w β dice B σ v ρ s Q) : wpAny (model prog w) A (subscriptTail value sl va vb) Q E s := by
  unfold item at e
  split at e
  · rename_i i k
    obtain ⟨t, rfl⟩ := rb
    split at e
    · rename_i l g
      obtain ⟨x, ex, rfl, z, items, n, hl, hv⟩ := I.ref ra g
      split at e
      · rename_i j ej
        rw [lget_eq] at e
        rw [llen_eq] at ej
        obtain ⟨y, e1, ry⟩ := hv.get e
        have f := fit_of ej z
        obtain ⟨h1, h2⟩ := index?_spec ej
        have sz := hv.length
        refine tail_any hl.isList.typeIs slot_list_getitem.lookup ?_ (subscripted_plain hs _ _)
        rcases h2 with ⟨p1, p2⟩ | ⟨p1, p2, p3⟩
        · exact wpAny_getItem_list hl.isList p1 f.2 (by rw [p2]; simpa using e1) (q.now I ry)
        · refine wpAny_getItem_list_neg hl.isList p1 (by simp; omega) f.1 ?_ (q.now I ry)
          rw [show (items.toArray.size : Int) = (l.length : Int) from by simp [sz], p3]
          simpa using e1
      · cases e
    · rename_i l g
      obtain ⟨x, ex, rfl, z, items, hl, hv⟩ := I.ref ra g
      split at e
      · rename_i j ej
        rw [lget_eq] at e
        rw [llen_eq] at ej
        obtain ⟨y, e1, ry⟩ := hv.get e
        have f := fit_of ej z
        have sz := hv.length
        refine item_tupleT hl f.1 f.2 (j := j) ?_ e1 (q.now I ry) (subscripted_plain hs _ _)
        rw [sz]; exact seqIndex_of ej
      · cases e
    · rename_i es g
      obtain ⟨x, ex, rfl, z, kvs, hd, hv⟩ := I.ref ra g
      rcases hv.at_ k with ⟨q1, q2⟩ | ⟨a, y, q1, q2, ry⟩
      · rw [q1] at e; cases e
      · rw [q1] at e; cases e
        refine tail_any hd.typeIs slot_dict_getitem.lookup ?_ (subscripted_plain hs _ _)
        exact wpAny_getItem_of (knd := intKind prog w) (intKind_is prog w k t) hd.mapOf q2 (q.now I ry)
    · cases e
  · rename_i i k l
    obtain ⟨x, t, ex, rfl⟩ := rb
    split at e
    · rename_i vs g
      obtain ⟨x, ex, rfl, z, items, n, hl, hv⟩ := I.ref ra g
      split at e
      · rename_i m em; cases e
        obtain ⟨j, y, rfl, e1, e2⟩ := tabOf_get em ‹l[β k]? = some _›
        obtain ⟨y', e3, t', rfl⟩ := hv.get e1
        have sz := hv.length
        have lt := (List.getElem?_eq_some_iff.mp e3).1
        refine tail_any hl.isList.typeIs slot_list_getitem.lookup ?_ (subscripted_plain hs _ _)
        exact wpAny_getItem_list hl.isList (Int.natCast_nonneg _) (by show (j : Int) < 2 ^ 63; omega) (by show items.toArray[j]? = _; simpa using e3) (q.now I ⟨y, t', e2, rfl⟩)
      · cases e
    · cases e
  · rename_i t k
    obtain ⟨u, rfl⟩ := rb
    cases ra
    split at e
    · rename_i es g
      obtain ⟨kvs, hd, hv⟩ := G.dcts _ _ g
      rcases hv.at_ k with ⟨q1, q2⟩ | ⟨a, y, q1, q2, ry⟩
      · rw [q1] at e; cases e
      · rw [q1] at e; cases e
        have hd := hd.keep I.keep
        refine tail_any hd.typeIs slot_dict_getitem.lookup ?_ (subscripted_plain hs _ _)
        exact wpAny_getItem_of (knd := intKind prog w) (intKind_is prog w k u) hd.mapOf q2 (q.now I ry.nil)
    · cases e
  · cases e

/-! attributes -/
theorem ARs.length {fs : List (Str × AV)} {es : List DictEntry} (r : ARs β ρ fs es) : es.length = fs.length := by
  induction r with
  | nil => rfl
  | cons _ _ ih => simp [ih]
theorem isStr_str (x y : Str) (t : Tok) : (Value.str x t).isStr y = decide (x = y) := by
  show (x == y) = _
  by_cases h : x = y <;> simp [h]
theorem ARs.noRef {fs : List (Str × AV)} {es : List DictEntry} (r : ARs β ρ fs es) : es.any (·.refKey) = false := by
  induction r with
  | nil => rfl
  | cons _ _ ih => rw [List.any_cons, ih]; rfl
theorem ARs.find {fs : List (Str × AV)} {es : List DictEntry} (r : ARs β ρ fs es) (x : Str) :
    (sget fs x = none ∧ es.find? (·.key.isStr x) = none) ∨ ∃ a e, sget fs x = some a ∧ es.find? (·.key.isStr x) = some e ∧ VR β ρ a e.val := by
  induction r with
  | nil => exact .inl ⟨rfl, rfl⟩
  | @cons y a hs t v l m ra _ ih =>
    rw [sget_cons, List.find?_cons]
    dsimp only
    rw [isStr_str]
    by_cases h : y = x
    · rw [if_pos h, decide_eq_true h]; exact .inr ⟨a, _, rfl, rfl, ra⟩
    · rw [if_neg h, decide_eq_false h]; exact ih
theorem ARs.getL_some {fs : List (Str × AV)} {es : List DictEntry} (r : ARs β ρ fs es) {x : Str} {a : AV} (e : sget fs x = some a) : ∃ v, getL x es = some (some v) ∧ VR β ρ a v := by
  rcases r.find x with ⟨h, _⟩ | ⟨b, en, h1, h2, h3⟩
  · rw [h] at e; cases e
  · rw [h1] at e; cases e
    refine ⟨en.val, ?_, h3⟩
    unfold getL; rw [h2]
theorem ARs.getL_none {fs : List (Str × AV)} {es : List DictEntry} (r : ARs β ρ fs es) {x : Str} (e : sget fs x = none) : getL x es = some none := by
  rcases r.find x with ⟨_, h⟩ | ⟨b, en, h1, h2, h3⟩
  · unfold getL; rw [h, r.noRef]; rfl
  · rw [h1] at e; cases e
theorem ARs.put {fs : List (Str × AV)} {es : List DictEntry} (r : ARs β ρ fs es) {x : Str} {a : AV} {v : Value} (ra : VR β ρ a v) (hsh : Int) (t : Tok) : ARs β ρ (sset fs x a) (putL x hsh (.str x t) v es) := by
  induction r with
  | nil => exact .cons ra .nil
  | @cons y b hs t' u l m rb rl ih =>
    rw [sset_cons]
    unfold putL
    dsimp only
    rw [isStr_str]
    by_cases h : y = x
    · rw [if_pos h, if_pos (by simp [h])]; exact .cons ra rl
    · rw [if_neg h, if_neg (by simp [h])]; exact .cons rb ih
theorem sset_length (fs : List (Str × AV)) (x : Str) (v : AV) : (sset fs x v).length ≤ fs.length + 1 := by
  induction fs with
  | nil => exact Nat.le_refl _
  | cons p l ih => rw [sset_cons]; split <;> simp <;> omega
theorem handed {a : AV} {v : Value} (r : VR β ρ a v) : handedIn v = true := by
  cases a with
  | none => cases r; rfl
  | bool b => cases r; rfl
  | int i => obtain ⟨t, rfl⟩ := r; rfl
  | bytes b => obtain ⟨t, rfl⟩ := r; rfl
  | ref i => obtain ⟨a, _, rfl⟩ := r; rfl
  | top a => cases r; rfl
  | bi b => cases r; cases b <;> first | rfl | decide +kernel
  | tab k l => obtain ⟨x, t, _, rfl⟩ := r; rfl
theorem inst_at (I : Inv prog w β dice B σ ρ s.heap) {i C d : Nat} {v : Value} {fs : List (Str × AV)} (r : VR β ρ (.ref i) v) (g : σ.get i = some (.inst C d)) (gd : σ.get d = some (.attrs fs)) :
    ∃ x dx es n, v = .ref x ∧ ρ[i]? = some x ∧ ρ[d]? = some dx ∧ s.heap.get? dx = some (dictOf es n) ∧ fs.length ≤ 2000 ∧ ARs β ρ fs es ∧ InstAt s.heap x (instObj C dx) C (some (dictOf es n)) := by
  obtain ⟨x, ex, rfl, dx, e1, e2⟩ := I.ref r g
  obtain ⟨dx', e1', z, es, n, e3, ra⟩ := I.has d _ gd
  rw [e1] at e1'; cases e1'
  exact ⟨x, dx, es, n, rfl, ex, e1, e3, z, ra, e2, rfl, rfl, e3⟩
theorem attr_now (X : Z.K.In s.heap) (hO : ∀ C names, nget Z.own C = some names → OwnOk Z.K C names) (I : Inv prog w β dice B σ ρ s.heap) {a v : AV} {va : Value} {x : Str} {ex : Bool} (ra : VR β ρ a va) (e : attr Z a x σ = some v)
    {Q : Value → Shared → Prop} (q : ∀ val tk, VR β ρ v val → Q val { s with toks := tk }) : wpAny (model prog w) A (getAttr va x ex) Q E s := by
  unfold attr at e
  split at e
  · rename_i i
    split at e
    · rename_i C d g
      split at e
      · rename_i names hn
        split at e
        · rename_i hm
          split at e
          · rename_i fs gd
            obtain ⟨y, dx, es, n, rfl, _, _, _, _, rs, J⟩ := inst_at I ra g gd
            obtain ⟨val, e1, r1⟩ := rs.getL_some e
            have O := hO C names hn
            have mem : x ∈ names := by
              rw [sget_lookup] at hm
              obtain ⟨p, q, e⟩ := List.mem_map.mp (mem_of_lookup hm)
              cases e; exact q
            exact get_value X J O.ga (findObj_own O.hd (O.nm x mem) rfl (by rw [lookIn_dict]; exact e1)) (handed r1) (q _ _ r1)
          · cases e
        · cases e
      · cases e
    · cases e
  · cases e
theorem attr_ok (X : Z.K.In s.heap) (hO : ∀ C names, nget Z.own C = some names → OwnOk Z.K C names) (I : Inv prog w β dice B σ ρ s.heap) {a v : AV} {va : Value} {x : Str} {ex : Bool} (ra : VR β ρ a va) (e : attr Z a x σ = some v)
    {Q : Value → Shared → Prop} (q : Kv prog w β dice B σ v ρ s Q) : wpAny (model prog w) A (getAttr va x ex) Q E s := attr_now X hO I ra e fun val tk rv => q.now I rv
theorem setAt_ok (X : Z.K.In s.heap) (hO : ∀ C names, nget Z.own C = some names → OwnOk Z.K C names) (I : Inv prog w β dice B σ ρ s.heap) {a v : AV} {va vv : Value} {x : Str} (ra : VR β ρ a va) (rv : VR β ρ v vv) (e : setAt Z a x v σ = some σ')
    {Q : Unit → Shared → Prop} (q : ∀ h' tk, Inv prog w β dice B σ' ρ h' → Ext noT ρ s.heap ρ h' → Q () { s with heap := h', toks := tk }) : wpAny (model prog w) A (setAttr va x vv) Q E s := by
  unfold setAt at e
  split at e
  · rename_i i
    split at e
    · rename_i C d g
      split at e
      · rename_i names hn
        split at e
        · rename_i hm
          split at e
          · rename_i fs gd
            split at e
            · rename_i hsm
              cases e
              obtain ⟨y, dx, es, n, rfl, _, edx, hdx, _, rs, J⟩ := inst_at I ra g gd
              have O := hO C names hn
              have mem : x ∈ names := by
                rw [sget_lookup] at hm
                obtain ⟨p, q, e⟩ := List.mem_map.mp (mem_of_lookup hm)
                cases e; exact q
              have sz := small_iff hsm
              have sz2 := rs.length
              refine set_plain X J O.sa ?_
              refine osa_open (s := { s with toks := s.toks + 1 }) X J O.po (r := none) (by unfold takerIn; rw [O.nm x mem]; rfl) fun b => ?_
              obtain ⟨cd, hc, hd'⟩ := any_some O.hd
              obtain ⟨hx, -, -, -⟩ := J
              refine wpAny_bind (wpAny_pure (wpAny_bind (wpAny_bind (wpAny_loadPart hx (wpAny_bind ((looks_clsIn X hc).at ?_))))))
              rw [hd']
              refine wpAny_pure (a := some dx) (wpAny_bind (wpAny_pure (wpAny_bind ?_)))
              unfold nsSet
              refine wpAny_bind (wpAny_bind (wpAny_askSetting (wpAny_pure (wpAny_bind (wpAny_mkText (wpAny_bind (wpAny_loadPart hdx ?_)))))))
              dsimp only [dictOf]
              have c : (!es.toArray.any (·.key.isStr x) && es.toArray.any (·.refKey)) = false := by
                have := rs.noRef
                rw [← Array.any_toList, ← Array.any_toList]
                show (!es.any _ && es.any _) = false
                rw [this, Bool.and_false]
              rw [aRefKeyMayBeTheName_at, c]
              refine wpAny_updatePart hdx ?_
              have pn := putName_dict x (PyData.keyHash w.params x) (.str x (s.toks + 1)) vv es n
              have rs' := rs.put (x := x) rv (PyData.keyHash w.params x) (s.toks + 1)
              have szp : (putL x (PyData.keyHash w.params x) (.str x (s.toks + 1)) vv es).length ≤ 1001 := by
                rw [rs'.length]; have := sset_length fs x v; omega
              have D' : (s.heap.update dx (Obj.putName x (PyData.keyHash w.params x) (.str x (s.toks + 1)) vv)).get? dx = some (dictOf (putL x (PyData.keyHash w.params x) (.str x (s.toks + 1)) vv es) (putN x es n)) := by
                rw [← pn]; exact Heap.get?_update_self _ hdx (by rw [pn]; rfl)
              refine wpAny_bind (wpAny_lookBehind D' (pastItsLine_dict (by rw [List.size_toArray, sizeLine_eq]; omega)) ?_)
              obtain ⟨I', X'⟩ := I.turn (o' := .attrs (sset fs x v)) gd edx (Heap.SameBut.update s.heap dx _).extBut ⟨_, D'⟩ ⟨by have := sset_length fs x v; omega, _, _, D', rs'⟩
              exact wpAny_pure (q _ _ I' X')
            · cases e
          · cases e
        · cases e
      · cases e
    · cases e
  · cases e
end
end Mine
end

section
open PySem PySem.W PyProof.Rows PySem.Calls PySem.SeqAt
namespace Mine
section
variable {prog : Program} {w : World} {β : Nat → Nat} {dice : List Int} {B : Heap} {Z : Tabs} {σ σ' : S} {ρ ρ' : List Addr} {s : Shared} {A : Around} {E : Value → Shared → Prop}

theorem setItem_L {l : Addr} {items : Array Value} {k : Int} {n : Nat} {t : Tok} {v : Value} {Q : Unit → Shared → Prop} (hl : IsL s.heap l items n) (h0 : 0 ≤ k) (hfit : k < 2 ^ 63) (hn : k < items.size)
    (q : IsL (s.heap.update l (Obj.mapSeq (·.setIfInBounds k.toNat v))) l (items.setIfInBounds k.toNat v) n → Q () { s with heap := s.heap.update l (Obj.mapSeq (·.setIfInBounds k.toNat v)) }) : wpAny (model prog w) A (setItem (.ref l) (.int k t) v) Q E s := by
  have hL := hl.isList
  unfold setItem
  try with_reducible refine wpAny_holding ?_
  first | refine wpAny_bind (wpAny_pure ?_) | skip
  refine wpAny_bind (wpAny_sequenceKey hL.typeIs (by decide +kernel) ?_)
  refine wpAny_bind (wpAny_callSpecial?_slot (name := Str.ofString "__setitem__") hL.typeIs PySem.slot_list_setitem
    (wpAny_call_entry PySem.slot_list_setitem hL.typeIs PySem.entry_list_setitem ?_ (PySem.args_list_setitem _ _ _)))
  show wpAny _ _ (Builtin.List.listSubscript? (.int k t) >>= _) _ _ s
  refine wpAny_bind (wpAny_listSubscript_int (fitsIndex_of h0 hfit) ?_)
  clear hfit
  obtain ⟨j, rfl⟩ := Int.eq_ofNat_of_zero_le h0
  have hj : j < items.size := by omega
  have hx : items[j]? = some items[j] := Array.getElem?_eq_getElem hj
  show wpAny _ _ ((seqItemAt l j >>= fun r => pure (r.map (j, ·))) >>= _) _ _ s
  refine wpAny_bind (wpAny_bind (wpAny_seqItemAt hl rfl (wpAny_pure ?_)))
  rw [hx]
  show wpAny _ _ (setSeqItemAt l j v >>= _) _ _ s
  have hfin := hl.update (fun xs => xs.setIfInBounds j v)
  rw [Array.size_setIfInBounds, beq_self_eq_true, if_pos rfl] at hfin
  refine wpAny_bind (wpAny_setSeqItemAt hl rfl ?_)
  first
    | exact wpAny_bind (wpAny_pure (wpAny_pure ⟨.none, rfl, wpAny_pure (q hfin)⟩))
    | exact wpAny_pure ⟨.none, rfl, wpAny_pure (q hfin)⟩

theorem setIt_ok (I : Inv prog w β dice B σ ρ s.heap) {a b v : AV} {va vb vv : Value} (ra : VR β ρ a va) (rb : VR β ρ b vb) (rv : VR β ρ v vv) (e : setIt a b v σ = some σ')
    {Q : Unit → Shared → Prop} (q : ∀ h' tk, Inv prog w β dice B σ' ρ h' → Ext noT ρ s.heap ρ h' → Q () { s with heap := h', toks := tk }) : wpAny (model prog w) A (setItem va vb vv) Q E s := by
  unfold setIt at e
  split at e
  · rename_i i k
    obtain ⟨t, rfl⟩ := rb
    split at e
    · rename_i l g
      obtain ⟨x, ex, rfl, z, items, n, hl, hv⟩ := I.ref ra g
      split at e
      · rename_i j
        split at e
        · rename_i hb
          cases e
          have hj : j + 1 ≤ llen l := Nat.le_of_ble_eq_true hb
          rw [llen_eq] at hj
          have sz := hv.length
          refine setItem_L hl (Int.natCast_nonneg j) (by show (j : Int) < 2 ^ 63; omega) (by show (j : Int) < _; simp; omega) fun hl' => ?_
          rw [lset_eq] at q
          have e1 : items.toArray.setIfInBounds (Int.ofNat j).toNat vv = (items.set j vv).toArray := by simp
          rw [e1] at hl'
          obtain ⟨I', X'⟩ := I.turn (o' := .list (l.set j v)) g ex (Heap.SameBut.update ..).extBut ⟨_, hl'⟩ ⟨by simpa using z, _, _, hl', hv.set rv j⟩
          exact q _ _ I' X'
        · cases e
      · cases e
    · rename_i es g
      obtain ⟨x, ex, rfl, z, kvs, hd, hv⟩ := I.ref ra g
      split at e
      · rename_i hsm
        cases e
        have sz := small_iff hsm
        have sz2 := hv.length
        have hn : (kvs.map (·.1)).Nodup := by obtain ⟨_, _, _, _, _, _, _, _, hn⟩ := hd; exact hn
        refine wpAny_setItem_pairs (knd := intKind prog w) (intKind_is prog w k t) hd (fun h' hd' hs => ?_) (by rw [sizeLine_eq]; omega)
        have live : ∃ ob, h'.get? x = some ob := let ⟨o, _, _, ho, _⟩ := hd'; ⟨o, ho⟩
        obtain ⟨I', X'⟩ := I.turn (o' := .dict (dset es k v)) g ex hs.extBut live ⟨by have := dset_length es k v; omega, _, hd', hv.set rv hn⟩
        exact q _ _ I' X'
      · cases e
    · cases e
  · cases e

/-! slices -/
theorem clip_elim (n : Nat) (v : Option Int) (d : Nat) (k : Nat) (h : (v = none ∧ k = d) ∨ v = some (k : Int)) (hd : d ≤ n) : v.elim d (clipAt n) = min k n := by
  rcases h with ⟨rfl, rfl⟩ | rfl
  · simp; omega
  · exact clipAt_nat n k
theorem slice_list (l : List Value) (lo hi : Option Int) (a b : Nat) (ha : (lo = none ∧ a = 0) ∨ lo = some (a : Int)) (hb : (hi = none ∧ b = l.length) ∨ hi = some (b : Int)) : slicePick l.toArray lo hi none = ((l.take b).drop a).toArray := by
  rw [slicePick_plain]
  have e1 := clip_elim l.length lo 0 a (by rcases ha with ⟨p, q⟩ | p; exact .inl ⟨p, q⟩; exact .inr p) (Nat.zero_le _)
  have e2 := clip_elim l.length hi l.length b hb (Nat.le_refl _)
  rw [show l.toArray.size = l.length from by simp, e1, e2]
  congr 1
  show (l.drop (min a l.length)).take _ = _
  rw [List.drop_take]
  by_cases h : a ≤ l.length
  · rw [Nat.min_eq_left h]
    by_cases h2 : b ≤ l.length
    · rw [Nat.min_eq_left h2]
    · rw [Nat.min_eq_right (a := b) (b := l.length) (by omega), List.take_of_length_le (by simp), List.take_of_length_le (by simp; omega)]
  · rw [Nat.min_eq_right (a := a) (b := l.length) (by omega), List.drop_length, List.drop_of_length_le (i := a) (by omega)]; simp
theorem natAV_int {v : AV} {x : Value} {n : Nat} (e : natAV v = some n) (r : VR β ρ v x) : ∃ t, x = .int (n : Int) t := by
  unfold natAV at e
  split at e
  · cases e; exact r
  · cases e
/-- a part of a slice -/
def PartR (β : Nat → Nat) (ρ : List Addr) : Option AV → Value → Prop
  | none, v => v = .none
  | some a, v => VR β ρ a v
theorem slice_ok (I : Inv prog w β dice B σ ρ s.heap) {value : Expr} {lo hi : Option Expr} {p : Pos} {a v : AV} {l u : Option AV} {va vl vu : Value} {sl : Addr} (ra : VR β ρ a va) (rl : PartR β ρ l vl) (ru : PartR β ρ u vu) (hsl : s.heap.IsSliceOf sl vl vu .none)
    (e : slice a l u σ = some (v, σ')) {Q : Value → Shared → Prop} (q : Kv prog w β dice B σ' v ρ s Q) : wpAny (model prog w) A (subscriptTail value (.Slice lo hi none p) va (.ref sl)) Q E s := by
  unfold slice at e
  split at e
  · rename_i i
    split at e
    · rename_i vs g
      obtain ⟨x, ex, rfl, z, items, n, hl, hv⟩ := I.ref ra g
      have sz := hv.length
      split at e
      · rename_i a b e1 e2
        rw [ltake_eq, ldrop_eq] at e
        refine tail_any (ops := [.ref sl, .ref x]) hl.isList.typeIs slot_list_getitem.lookup ?_ rfl
        have key : ∃ lo' hi', IsPart vl lo' ∧ IsPart vu hi' ∧ ((lo' = none ∧ a = 0) ∨ lo' = some (a : Int)) ∧ ((hi' = none ∧ b = items.length) ∨ hi' = some (b : Int)) := by
          have h1 : ∃ lo', IsPart vl lo' ∧ ((lo' = none ∧ a = 0) ∨ lo' = some (a : Int)) := by
            cases l with
            | none => cases e1; cases rl; exact ⟨none, .none, .inl ⟨rfl, rfl⟩⟩
            | some y => obtain ⟨t, rfl⟩ := natAV_int e1 rl; exact ⟨_, .int _ t, .inr rfl⟩
          have h2 : ∃ hi', IsPart vu hi' ∧ ((hi' = none ∧ b = items.length) ∨ hi' = some (b : Int)) := by
            cases u with
            | none => rw [llen_eq] at e2; cases e2; cases ru; exact ⟨none, .none, .inl ⟨rfl, sz.symm⟩⟩
            | some y => obtain ⟨t, rfl⟩ := natAV_int e2 ru; exact ⟨_, .int _ t, .inr rfl⟩
          obtain ⟨lo', p1, p2⟩ := h1
          obtain ⟨hi', p3, p4⟩ := h2
          exact ⟨lo', hi', p1, p3, p2, p4⟩
        obtain ⟨lo', hi', p1, p2, p3, p4⟩ := key
        refine wpAny_getItem_list_slice hl.isList hsl p1 p2 .none (by simp) ?_ (by simp; rw [sizeLine_eq]; omega)
        rw [slice_list items lo' hi' a b p3 p4]
        exact newL_ok I ((hv.take b).drop a) e q _
      · cases e
    · cases e
  · cases e
end
end Mine
end

section
open PySem PySem.W PyProof.Rows PySem.Calls PySem.SeqAt
namespace Mine
section
variable {prog : Program} {w : World} {β : Nat → Nat} {dice : List Int} {B : Heap} {Z : Tabs} {σ σ' : S} {ρ ρ' : List Addr} {s : Shared} {A : Around} {E : Value → Shared → Prop}

theorem Kv.grown {v : AV} {val : Value} {h' : Heap} {tk : Nat} {Q : Value → Shared → Prop} (I : Inv prog w β dice B σ ρ s.heap) (q : Kv prog w β dice B σ v ρ s Q) (hk : ∀ b o, s.heap.get? b = some o → h'.get? b = some o) (r : VR β ρ v val) :
    Q val { s with heap := h', toks := tk } := by
  have J := I.keeps (h' := h') (fun a _ o e => hk a o e) fun b o e => hk b o (I.keep b o e)
  exact q val h' tk ρ r J ⟨⟨[], (List.append_nil ρ).symm, fun _ m => (nomatch m)⟩, fun b o e _ _ => hk b o e, J.live⟩

/-- a new object, owned, at any place that was free -/
theorem Inv.allocAt {h h' : Heap} (I : Inv prog w β dice B σ ρ h) {a : Addr} {o : AO} {v : AV} (e : σ.new o = some (v, σ')) (hk : ∀ b o, h.get? b = some o → h'.get? b = some o) (hf : h.get? a = none) (hl : ∃ ob, h'.get? a = some ob)
    (r : OR prog w β dice h' (ρ ++ [a]) a o) : Inv prog w β dice B σ' (ρ ++ [a]) h' ∧ VR β (ρ ++ [a]) v (.ref a) ∧ Ext noT ρ h (ρ ++ [a]) h' := by
  obtain ⟨rfl, en, eo, eg⟩ := S.new_spec e
  have J := I.keeps (h' := h') (fun a _ o e => hk a o e) fun b o e => hk b o (I.keep b o e)
  have hn : a ∉ ρ := fun m => by obtain ⟨ob, q⟩ := I.live a m; rw [hf] at q; cases q
  have hB : B.get? a = none := by
    cases q : B.get? a with
    | none => rfl
    | some o => have := I.keep _ _ q; rw [hf] at this; cases this
  refine ⟨⟨by rw [en, I.len]; simp, ?_, ?_, ?_, fun i x q => ?_, J.keep, by rw [eo]; exact I.orc⟩, ⟨a, by rw [I.len]; simp, rfl⟩,
    ⟨⟨[a], rfl, fun b m => by rw [List.mem_singleton.mp m]; exact hf⟩, fun b x q _ _ => hk b x q, J.live⟩⟩
  · rw [List.nodup_append]
    exact ⟨I.nd, by simp, fun b m c n q => hn (by rw [← List.mem_singleton.mp n, ← q]; exact m)⟩
  · intro b m
    rcases List.mem_append.mp m with m | m
    · exact I.new b m
    · rw [List.mem_singleton.mp m]; exact hB
  · intro b m
    rcases List.mem_append.mp m with m | m
    · exact J.live b m
    · rw [List.mem_singleton.mp m]; exact hl
  · rw [eg] at q
    by_cases hi : i = σ.n
    · rw [if_pos hi] at q; cases q
      exact ⟨a, by rw [hi, I.len]; simp, r⟩
    · rw [if_neg hi] at q
      obtain ⟨b, q1, q2⟩ := J.has i x q
      exact ⟨b, get_app q1, q2.more _⟩
theorem newL_new {l : List AV} {v : AV} (e : σ.newL l = some (v, σ')) : l.length ≤ 1000 ∧ σ.new (.list l) = some (v, σ') := by
  have h := newL_len e
  unfold S.newL at e
  split at e
  · exact ⟨h, e⟩
  · cases e
theorem newLAt_ok (I : Inv prog w β dice B σ ρ s.heap) {l : List AV} {vs : List Value} {v : AV} {a : Addr} {n : Nat} {h' : Heap} (hv : VRs β ρ l vs) (e : σ.newL l = some (v, σ')) (hk : ∀ b o, s.heap.get? b = some o → h'.get? b = some o)
    (hf : s.heap.get? a = none) (hl : IsL h' a vs.toArray n) {Q : Value → Shared → Prop} (q : Kv prog w β dice B σ' v ρ s Q) (tk : Nat) : Q (.ref a) { s with heap := h', toks := tk } := by
  obtain ⟨sz, e⟩ := newL_new e
  obtain ⟨x, y, z⟩ := I.allocAt e hk hf ⟨_, hl⟩ ⟨by omega, vs, n, hl, hv.more _⟩
  exact q _ _ tk _ y x z
/-- the ints of a list -/
theorem ints_of {l : List AV} {vs : List Value} {ns : List Int} (hv : VRs β ρ l vs) (hl : l = ns.map AV.int) : IntsAre vs ns := by
  induction hv generalizing ns with
  | nil => cases ns with | nil => exact .nil | cons => cases hl
  | cons ra _ ih =>
    cases ns with
    | nil => cases hl
    | cons n ns =>
      rw [List.map_cons, List.cons.injEq] at hl
      obtain ⟨rfl, rfl⟩ := hl
      obtain ⟨t, rfl⟩ := ra
      exact .cons n t (ih rfl)
theorem of_ints {vs : List Value} {ns : List Int} (h : IntsAre vs ns) : VRs β ρ (ns.map AV.int) vs := by
  induction h with
  | nil => exact .nil
  | cons n t _ ih => exact .cons ⟨t, rfl⟩ ih

theorem anyB_spec : ∀ {l : List AV} {b : Bool}, anyB l = some b → ∃ bs : List Bool, l = bs.map AV.bool ∧ b = bs.any id
  | [], b, h => by cases h; exact ⟨[], rfl, rfl⟩
  | a :: l, b, h => by
    cases a with
    | bool c =>
      have h' : either (some c) (anyB l) = some b := h
      obtain ⟨x, y, e1, e2, rfl⟩ := either_some h'
      cases e1
      obtain ⟨bs, rfl, rfl⟩ := anyB_spec e2
      exact ⟨c :: bs, rfl, rfl⟩
    | _ => cases h
theorem bools_get {bs : List Bool} : ∀ {vs : List Value}, VRs β ρ (bs.map AV.bool) vs → ∀ (i : Nat) (v : Value), vs[i]? = some v → ∃ b, bs[i]? = some b ∧ v = .bool b := by
  induction bs with
  | nil => intro vs h i v e; cases h; cases e
  | cons b bs ih =>
    intro vs h i v e
    cases h with
    | cons ra rl =>
      cases ra
      cases i with
      | zero => cases e; exact ⟨b, rfl, rfl⟩
      | succ i => exact ih rl i v e
theorem range_any (bs : List Bool) : ((List.range bs.length).any fun i => (bs[i]?).getD false) = bs.any id := by
  induction bs with
  | nil => rfl
  | cons b bs ih => rw [List.length_cons, List.range_succ_eq_map, List.any_cons, List.any_map, List.any_cons, ← ih]; rfl

/-! ints -/
theorem ints?_spec : ∀ {l : List AV} {ns : List Int}, ints? l = some ns → l = ns.map AV.int
  | [], ns, h => by cases h; rfl
  | a :: l, ns, h => by
    have h' : (match (generalizing := false) a, ints? l with | .int k, some m => some (k :: m) | _, _ => none) = some ns := h
    split at h'
    · rename_i k m e; cases h'; rw [List.map_cons, ← ints?_spec e]
    · cases h'
theorem ofInts_eq : ∀ l : List Int, ofInts l = l.map AV.int
  | [] => rfl
  | a :: l => congrArg (AV.int a :: ·) (ofInts_eq l)
theorem sumI_eq : ∀ l : List Int, sumI l = l.sum
  | [] => rfl
  | a :: l => by rw [List.sum_cons, ← sumI_eq l]; rfl
theorem insI_cons (k b : Int) (r : List Int) : insI k (b :: r) = if k ≤ b then k :: b :: r else b :: insI k r := by
  have e : insI k (b :: r) = (match ile k b with | true => k :: b :: r | false => b :: insI k r) := rfl
  rw [e, ile_eq]; by_cases h : k ≤ b <;> simp [h]
theorem insI_perm (k : Int) : ∀ l : List Int, (insI k l).Perm (k :: l)
  | [] => .refl _
  | b :: r => by
    rw [insI_cons]
    split
    · exact .refl _
    · exact ((insI_perm k r).cons b).trans (.swap _ _ _)
theorem insI_sorted (k : Int) : ∀ l : List Int, l.Pairwise (· ≤ ·) → (insI k l).Pairwise (· ≤ ·)
  | [], _ => by show [k].Pairwise _; simp
  | b :: r, hp => by
    rw [insI_cons]
    rw [List.pairwise_cons] at hp
    split
    · rename_i q
      refine List.pairwise_cons.mpr ⟨fun x m => ?_, List.pairwise_cons.mpr hp⟩
      rcases List.mem_cons.mp m with rfl | m
      · exact q
      · exact Int.le_trans q (hp.1 x m)
    · rename_i q
      refine List.pairwise_cons.mpr ⟨fun x m => ?_, insI_sorted k r hp.2⟩
      rcases List.mem_cons.mp ((insI_perm k r).mem_iff.mp m) with rfl | m
      · omega
      · exact hp.1 x m
theorem sortI_perm : ∀ l : List Int, (sortI l).Perm l
  | [] => .refl _
  | a :: l => (insI_perm a (sortI l)).trans ((sortI_perm l).cons a)
theorem sortI_sorted : ∀ l : List Int, (sortI l).Pairwise (· ≤ ·)
  | [] => List.Pairwise.nil
  | a :: l => insI_sorted a _ (sortI_sorted l)

theorem minI_eq (a b : Int) : minI a b = if b < a then b else a := by
  unfold minI; rw [ilt_eq]; by_cases h : b < a <;> simp [h]
theorem min_val {b x : Int} : ∀ {l : List Int} {i : Nat}, l[i]? = some x → (minL b l)[i]? = some (if b < x then b else x)
  | [], i, e => by cases e
  | a :: l, 0, e => by cases e; show some (minI x b) = _; rw [minI_eq]
  | a :: l, i + 1, e => min_val (l := l) (i := i) e

theorem callBi_ok (I : Inv prog w β dice B σ ρ s.heap) (hh : A.handled = none) {b : Bi} {args : List AV} {vs : List Value} {v : AV} (ra : VRs β ρ args vs) (e : callBi b args σ = some (v, σ')) {Q : Value → Shared → Prop} (q : Kv prog w β dice B σ' v ρ s Q) :
    wpAny (model prog w) A (call b.val vs) Q E s := by
  unfold callBi at e
  split at e
  · split at e
    · -- len
      obtain _ | ⟨r1, _ | _⟩ := ra
      split at e
      · rename_i l g
        cases e
        obtain ⟨x, ex, rfl, z, items, n, hl, hv⟩ := I.ref r1 g
        have sz := hv.length
        refine PyProof.Rows.len_list hl.isList (by simp; omega) (q.now I ⟨s.toks + 1, ?_⟩)
        rw [llen_eq, show items.toArray.size = l.length from by simp [sz]]; rfl
      · cases e
    · cases e
  · split at e
    · -- range hi
      obtain _ | ⟨⟨t, rfl⟩, _ | _⟩ := ra
      split at e
      · rename_i h1
        split at e
        · rename_i h2
          rw [ile_eq, decide_eq_true_eq] at h1 h2
          refine call_range_1 ?_
          obtain ⟨a, b, c⟩ := I.alloc (ob := { cls := .type "range", data := .fields #[.int 0 s.toks, .int _ t, .int 1 (s.toks + 1)] }) rfl e ⟨⟨by omega, by omega, h2, h1⟩, _, _, _, IsRange.new _ _ _ _ _ _ _⟩
          exact q _ _ _ _ b a c
        · cases e
      · cases e
    · -- range lo hi
      obtain _ | ⟨⟨t, rfl⟩, _ | ⟨⟨u, rfl⟩, _ | _⟩⟩ := ra
      split at e
      · rename_i h1
        split at e
        · rename_i h2
          split at e
          · rename_i h3
            split at e
            · rename_i h4
              rw [ile_eq, decide_eq_true_eq] at h1 h2 h3 h4
              refine call_range_2 ?_
              obtain ⟨a, b, c⟩ := I.alloc (ob := { cls := .type "range", data := .fields #[.int _ t, .int _ u, .int 1 s.toks] }) rfl e ⟨⟨h4, h3, h2, h1⟩, _, _, _, IsRange.new _ _ _ _ _ _ _⟩
              exact q _ _ _ _ b a c
            · cases e
          · cases e
        · cases e
      · cases e
    · cases e
  · split at e
    · -- sorted
      obtain _ | ⟨r1, _ | _⟩ := ra
      split at e
      · rename_i l g
        obtain ⟨x, ex, rfl, z, items, n, hl, hv⟩ := I.ref r1 g
        split at e
        · rename_i m hm
          split at e
          · rename_i hs
            rw [llen_eq] at hs
            have hs := Nat.le_of_ble_eq_true hs
            have hlm := ints?_spec hm
            have sz := hv.length
            have hI := ints_of hv hlm
            have l2 : l.length = m.length := by rw [hlm]; simp
            refine sorted_ints hl.isList hI (by omega) fun out ns' a1 a2 a3 => ?_
            have en : ns' = sortI m := List.Perm.eq_of_pairwise (fun a b _ _ h1 h2 => Int.le_antisymm h1 h2) a3 (sortI_sorted m) (a2.trans (sortI_perm m).symm)
            subst en
            obtain ⟨e', he⟩ := sortedAll_at s.heap items out
            rw [ofInts_eq] at e
            have hf : s.heap.get? (s.heap.objs.size + 1) = none := by
              cases q : s.heap.get? (s.heap.objs.size + 1) with
              | none => rfl
              | some o => exact absurd (Heap.lt_size q) (Nat.not_lt.mpr (Nat.le_succ _))
            exact newLAt_ok (vs := out.toList) (n := e') I (of_ints a1) e (fun _ _ => sortedAll_old) hf he q _
          · cases e
        · cases e
      · cases e
    · cases e
  · split at e
    · -- min
      obtain _ | ⟨⟨t, rfl⟩, _ | ⟨⟨u, rfl⟩, _ | _⟩⟩ := ra
      cases e
      refine min_two_ints hh fun h' tk hk => ?_
      rename_i a b
      rw [minI_eq] at q
      by_cases h : b < a
      · rw [if_pos h] at q ⊢; exact q.grown I hk ⟨_, rfl⟩
      · rw [if_neg h] at q ⊢; exact q.grown I hk ⟨_, rfl⟩
    · -- min, a table
      obtain _ | ⟨⟨x, t, ex, rfl⟩, _ | ⟨⟨u, rfl⟩, _ | _⟩⟩ := ra
      cases e
      rename_i k l b
      refine min_two_ints hh fun h' tk hk => ?_
      have r := min_val (b := b) ex
      by_cases h : b < x
      · rw [if_pos h] at r ⊢; exact q.grown I hk ⟨_, _, r, rfl⟩
      · rw [if_neg h] at r ⊢; exact q.grown I hk ⟨_, _, r, rfl⟩
    · cases e
  · split at e
    · -- any
      obtain _ | ⟨r1, _ | _⟩ := ra
      split at e
      · rename_i l g
        obtain ⟨x, ex, rfl, z, items, n, hl, hv⟩ := I.ref r1 g
        split at e
        · rename_i b hb
          cases e
          obtain ⟨bs, rfl, rfl⟩ := anyB_spec hb
          have sz := hv.length
          have hL := hl.isList
          have hlt : x < s.heap.objs.size := Heap.lt_size hl
          refine call_any_walk (wpAny_pyIter_list hL ?_)
          refine ⟨s.heap.objs.size, [s.heap.objs.size, x], [s.heap.objs.size], items.toArray.size, _, _, fun i => (bs[i]?).getD false, rfl, Walks.list (A := A.in1) hh _ x (Nat.ne_of_lt hlt) items.toArray,
            ⟨⟨_, Heap.get?_push_size _ rfl, rfl, rfl⟩, hL.push _⟩, fun i v s' Q' E' hP hQ => ?_, fun h' tk hk => ?_⟩
          · obtain ⟨b, e, rfl⟩ := bools_get hv i v (by simpa using hP)
            simp only [e, Option.getD_some] at hQ
            exact wpAny_truthy_bool hQ
          · have e1 : ((List.range items.toArray.size).any fun i => (bs[i]?).getD false) = bs.any id := by
              rw [List.size_toArray, sz, List.length_map]; exact range_any bs
            rw [e1]
            have kk : ∀ b o, s.heap.get? b = some o → h'.get? b = some o := fun b o e => hk b o (fun m => by rw [List.mem_singleton.mp m] at e; exact Nat.lt_irrefl _ (Heap.lt_size e)) (Heap.get?_push_of_some _ e)
            have zz := q.grown (tk := tk) I kk (rfl : VR β ρ (.bool (bs.any id)) (.bool (bs.any id)))
            exact zz
        · cases e
      · cases e
    · cases e
  · split at e
    · -- sum
      obtain _ | ⟨r1, _ | _⟩ := ra
      split at e
      · rename_i l g
        obtain ⟨x, ex, rfl, z, items, n, hl, hv⟩ := I.ref r1 g
        split at e
        · rename_i m hm
          cases e
          have hI := ints_of hv (ints?_spec hm)
          obtain ⟨xs, hx⟩ := hI.allInts.items
          have hl' : s.heap.IsList x (intItems xs) := hx ▸ hl.isList
          refine sum_intListG hh hl' fun h' tk t' hk => q.grown I hk ⟨t', ?_⟩
          have e1 : m = xs.toList.map (·.1) := by
            rw [← nums_intItems, ← hx]
            exact (show numsOf items.toArray.toList = m from hI.numsOf).symm
          rw [sumI_eq, preSum_eq, List.take_of_length_le (by simp), e1]
        · cases e
      · cases e
    · cases e
  · split at e
    · -- isinstance
      obtain _ | ⟨r1, _ | ⟨r2, _ | _⟩⟩ := ra
      cases r2
      split at e
      · rename_i b hb
        cases e
        unfold isa at hb
        split at hb <;> cases hb
        · obtain ⟨t, rfl⟩ := r1; exact IsiPair.int_int (q.now I rfl)
        · obtain ⟨t, rfl⟩ := r1; exact IsiPair.int_bool (q.now I rfl)
        · cases r1; exact IsiPair.bool_bool (q.now I rfl)
        · cases r1; exact IsiPair.bool_int (q.now I rfl)
      · cases e
    · cases e
  · split at e
    · -- list
      obtain _ | ⟨r1, _ | _⟩ := ra
      split at e
      · rename_i l g
        obtain ⟨x, ex, rfl, z, items, n, hl, hv⟩ := I.ref r1 g
        have sz := hv.length
        exact call_list_seq x (.inl rfl) hl rfl rfl (fun h' c' hk hD => newLAt_ok I hv e hk (size_none _) hD q _) (by simp; rw [sizeLine_eq]; omega)
      · cases e
    · cases e
  · cases e
end
end Mine
end

section
open PySem PySem.W PyProof.Rows PySem.Calls PySem.SeqAt
namespace Mine
def Me.id : Me → String
  | .append => "list.append" | .extend => "list.extend" | .pop => "list.pop" | .index => "list.index" | .get => "dict.get" | .dpop => "dict.pop"
section
variable {prog : Program} {w : World} {β : Nat → Nat} {dice : List Int} {B : Heap} {Z : Tabs} {σ σ' : S} {ρ ρ' : List Addr} {s : Shared} {A : Around} {E : Value → Shared → Prop}

theorem lastOf_spec : ∀ {l : List AV} {x : AV} {m : List AV}, lastOf l = some (x, m) → l = m ++ [x]
  | [], x, m, h => by cases h
  | [a], x, m, h => by cases h; rfl
  | a :: b :: l, x, m, h => by
    have h' : (match (generalizing := false) lastOf (b :: l) with | some (x, m) => some (x, a :: m) | none => none) = some (x, m) := h
    split at h'
    · rename_i y m' e; cases h'; rw [lastOf_spec e]; rfl
    · cases h'
theorem idxI_spec {k : Int} : ∀ {l : List Int} {i j : Nat}, idxI l k i = some j → i ≤ j ∧ l[j - i]? = some k ∧ ∀ m, m < j - i → ∀ x, l[m]? = some x → x ≠ k
  | [], i, j, h => by cases h
  | a :: l, i, j, h => by
    have h' : (match (generalizing := false) ieq a k with | true => some i | false => idxI l k (Nat.succ i)) = some j := h
    rw [ieq_eq] at h'
    by_cases q : a = k
    · rw [decide_eq_true q] at h'; cases h'
      exact ⟨Nat.le_refl _, by rw [Nat.sub_self]; simp [q], fun m hm => by omega⟩
    · rw [decide_eq_false q] at h'
      obtain ⟨h1, h2, h3⟩ := idxI_spec (l := l) h'
      have e : j - i = (j - (i + 1)) + 1 := by omega
      refine ⟨by omega, by rw [e, List.getElem?_cons_succ]; exact h2, fun m hm x hx => ?_⟩
      cases m with
      | zero => cases hx; exact q
      | succ m => exact h3 m (by omega) x hx
theorem kv_turn {h' : Heap} {v : AV} {val : Value} {i : Nat} {a : Addr} {o o' : AO} {tk : Nat} (I : Inv prog w β dice B σ ρ s.heap) (g : σ.get i = some o) (e : ρ[i]? = some a) (hs : Heap.ExtBut a s.heap h') (hl : ∃ ob, h'.get? a = some ob)
    (r : OR prog w β dice h' ρ a o') {Q : Value → Shared → Prop} (q : Kv prog w β dice B (σ.put i o') v ρ s Q) (rv : VR β ρ v val) : Q val { s with heap := h', toks := tk } := by
  obtain ⟨I', X'⟩ := I.turn g e hs hl r
  exact q _ _ _ _ rv I' X'

theorem ints_get {vs : List Value} {ns : List Int} (h : IntsAre vs ns) : ∀ {m : Nat} {v : Value}, vs[m]? = some v → ∃ i t, v = .int i t ∧ ns[m]? = some i := by
  induction h with
  | nil => intro m v e; cases e
  | cons n t _ ih =>
    intro m v e
    cases m with
    | zero => cases e; exact ⟨n, t, rfl, rfl⟩
    | succ m => exact ih e
theorem VRs.split_last {b : AV} : ∀ {m : List AV} {items : List Value}, VRs β ρ (m ++ [b]) items → ∃ its y, items = its ++ [y] ∧ VRs β ρ m its ∧ VR β ρ b y
  | [], _, .cons ra .nil => ⟨[], _, rfl, .nil, ra⟩
  | _ :: _, _, .cons ra rl => let ⟨its, y, e, h1, h2⟩ := VRs.split_last rl; ⟨_ :: its, y, by rw [e]; rfl, .cons ra h1, h2⟩
theorem callMe_ok (G : Gd prog w β Z B) (I : Inv prog w β dice B σ ρ s.heap) {m : Me} {i : Nat} {a : Addr} {o : AO} {args : List AV} {vs : List Value} {v : AV} (ea : ρ[i]? = some a) (g : σ.get i = some o) (ra : VRs β ρ args vs)
    (e : callMe m i o args σ = some (v, σ')) {Q : Value → Shared → Prop} (q : Kv prog w β dice B σ' v ρ s Q) : wpAny (model prog w) A (call (.builtin m.id) (.ref a :: vs)) Q E s := by
  have obj := I.has i o g
  obtain ⟨a', ea', r⟩ := obj
  rw [ea] at ea'; cases ea'
  unfold callMe at e
  split at e
  · split at e
    · -- append
      obtain _ | ⟨r1, _ | _⟩ := ra
      split at e
      · rename_i hsm
        cases e
        have sz := small_iff hsm
        obtain ⟨z, items, n, hl, hv⟩ := r
        have sz2 := hv.length
        have hu := hl.update (fun xs => xs.push ‹Value›)
        refine call_meets PySem.F.slot_list_append ⟨_, hl, rfl⟩ PySem.F.entry_list_append (PySem.F.args_list_append_2 _ _) (PySem.list_append a items.toArray n _ (by simp; rw [sizeLine_eq]; omega)) ⟨hl, ?_⟩
        refine kv_turn (o' := .list (lapp _ [_])) I g ea (Heap.SameBut.update ..).extBut ⟨_, hu⟩ (show OR _ _ _ _ _ _ _ (.list _) from ⟨?_, items ++ [_], _, by simpa using hu, ?_⟩) q rfl
        · rw [lapp_eq]; simp; omega
        · rw [lapp_eq]; exact hv.append (.cons r1 .nil)
      · cases e
    · cases e
  · split at e
    · -- extend
      rename_i l j
      obtain _ | ⟨r1, _ | _⟩ := ra
      split at e
      · rename_i m' g2
        split at e
        · cases e
        · rename_i hne
          split at e
          · rename_i hsm
            cases e
            have sz := small_iff hsm
            rw [lapp_eq] at sz
            rw [List.length_append] at sz
            obtain ⟨z, items, n, hl, hv⟩ := r
            obtain ⟨y, ey, rfl, z2, items2, n2, hl2, hv2⟩ := I.ref r1 g2
            have s1 := hv.length
            have s2 := hv2.length
            have hu := hl.update (fun xs => xs ++ items2.toArray)
            have nl : ¬ (!items.toArray.isEmpty && Builtin.List.listTooLong (items.toArray.size + items2.toArray.size)) = true := by
              unfold Builtin.List.listTooLong
              simp only [List.size_toArray, Bool.and_eq_true, decide_eq_true_eq, not_and]
              intro _
              rw [sizeLine_eq]; omega
            refine call_meets PySem.F.slot_list_extend ⟨_, hl, rfl⟩ PySem.F.entry_list_extend (PySem.F.args_list_extend_2 _ _)
              (AutoSeq1.list_extend_list_list_0 a items.toArray n y items2.toArray n2 nl (by simp; rw [sizeLine_eq]; omega) (by simp; rw [sizeLine_eq]; omega)) ⟨hl, hl2, ?_⟩
            refine kv_turn (o' := .list (lapp _ _)) I g ea (Heap.SameBut.update ..).extBut ⟨_, hu⟩ (show OR _ _ _ _ _ _ _ (.list _) from ⟨?_, items ++ items2, _, by simpa using hu, ?_⟩) q rfl
            · rw [lapp_eq]; simp; omega
            · rw [lapp_eq]; exact hv.append hv2
          · cases e
      · cases e
    · cases e
  · split at e
    · -- pop
      rename_i l
      cases ra
      split at e
      · rename_i x m' hm
        cases e
        have hlm := lastOf_spec hm
        subst hlm
        obtain ⟨z, items, n, hl, hv⟩ := r
        have s1 := hv.length
        have key : ∃ its y, items = its ++ [y] ∧ VRs β ρ m' its ∧ VR β ρ v y := by
          exact hv.split_last
        obtain ⟨its, y, rfl, h1, h2⟩ := key
        have hu := hl.update (fun xs => xs.eraseIdxIfInBounds ((its ++ [y]).toArray.size - 1))
        refine call_meets PySem.F.slot_list_pop ⟨_, hl, rfl⟩ PySem.F.entry_list_pop (PySem.F.args_list_pop_1 _) (PySem.MeetsSeq.list_pop_last a (its ++ [y]).toArray n y (by simp) (by simp at z s1 ⊢; rw [sizeLine_eq]; omega)) ⟨hl, ?_⟩
        refine kv_turn (o' := .list m') I g ea (Heap.SameBut.update ..).extBut ⟨_, hu⟩ ⟨?_, its, _, by simpa [List.eraseIdx_append_of_length_le] using hu, h1⟩ q h2
        simp at z; omega
      · cases e
    · cases e
  · split at e
    · -- index
      rename_i l k
      obtain _ | ⟨⟨t, rfl⟩, _ | _⟩ := ra
      split at e
      · rename_i ns hns
        split at e
        · rename_i j hj
          cases e
          obtain ⟨z, items, n, hl, hv⟩ := r
          have s1 := hv.length
          have hI := ints_of hv (ints?_spec hns)
          have hlen := hI.length
          obtain ⟨_, h2, h3⟩ := idxI_spec hj
          rw [Nat.sub_zero] at h2 h3
          have hjl := (List.getElem?_eq_some_iff.mp h2).1
          let f : Value → Bool := fun v => match v with | .int i _ => i == k | _ => false
          have at_ : ∀ m (hm : m < items.length), ∃ tt x, items[m] = .int x tt ∧ ns[m]? = some x := fun m hm => by
            obtain ⟨i, tt, q1, q2⟩ := ints_get hI (List.getElem?_eq_getElem hm)
            exact ⟨tt, i, q1, q2⟩
          have hx : ∀ y ∈ items.toArray, PySem.MeetsSeq.EqGives y (.int k t) (f y) := fun y m => by
            obtain ⟨n', hn', rfl⟩ := List.getElem_of_mem (List.mem_toArray.mp m)
            obtain ⟨tt, x, q1, _⟩ := at_ n' hn'
            rw [q1]; exact PySem.MeetsSeq.EqGives.int x k tt t
          have hjl' : j < items.length := by omega
          refine call_meets PySem.F.slot_list_index ⟨_, hl, rfl⟩ PySem.F.entry_list_index (PySem.F.args_list_index_2 _ _)
            (PySem.MeetsSeq.list_index a items.toArray n (.int k t) f hx j (by simpa using hjl') (by omega) ?_ ?_) ⟨hl, q.now I ⟨_, rfl⟩⟩
          · obtain ⟨tt, x, q1, q2⟩ := at_ j hjl'
            rw [h2] at q2; cases q2
            show f (items.toArray[j]'(by simpa using hjl')) = true
            rw [List.getElem_toArray, q1]; simp [f]
          · intro m hm hlt
            have hm' : m < items.length := by simpa using hm
            obtain ⟨tt, x, q1, q2⟩ := at_ m hm'
            show f (items.toArray[m]'hm) = false
            rw [List.getElem_toArray, q1]; simp [f, h3 m hlt x q2]
        · cases e
      · cases e
    · cases e
  · split at e
    · -- get
      rename_i es k
      obtain _ | ⟨⟨t, rfl⟩, _ | _⟩ := ra
      cases e
      obtain ⟨z, kvs, hd, hv⟩ := r
      refine call_meetsIn PySem.F.slot_dict_get hd.typeIs PySem.F.entry_dict_get (PySem.F.args_dict_get_2 _ _) (meets_dict_get (intKind prog w) a (k := k) (intKind_is prog w k t) (notMods G I (List.mem_of_getElem? ea))) ⟨_, hd.mapOf, q.now I ?_⟩
      rcases hv.at_ k with ⟨q1, q2⟩ | ⟨b, y, q1, q2, ry⟩
      · rw [q1, q2]; rfl
      · rw [q1, q2]; exact ry
    · cases e
  · split at e
    · -- pop of a dict
      rename_i es k
      obtain _ | ⟨⟨t, rfl⟩, _ | _⟩ := ra
      split at e
      · rename_i x hx
        cases e
        obtain ⟨z, kvs, hd, hv⟩ := r
        have s1 := hv.length
        have hn : (kvs.map (·.1)).Nodup := by obtain ⟨_, _, _, _, _, _, _, _, hn⟩ := id hd; exact hn
        rcases hv.at_ k with ⟨q1, q2⟩ | ⟨b, y, q1, q2, ry⟩
        · rw [q1] at hx; cases hx
        · rw [q1] at hx; cases hx
          refine call_meetsIn PySem.F.slot_dict_pop hd.typeIs PySem.F.entry_dict_pop (PySem.F.args_dict_pop_2 _ _) (meets_dict_pop_there (intKind prog w) a (k := k) (intKind_is prog w k t) [] (.inl rfl) rfl) ⟨kvs, y, hd, (by rw [sizeLine_eq]; omega), q2, fun h' hmm hs => ?_⟩
          have live : ∃ ob, h'.get? a = some ob := let ⟨o, _, _, ho, _⟩ := hmm; ⟨o, ho⟩
          exact kv_turn (o' := .dict (ddel es k)) I g ea hs.extBut live ⟨by have := ddel_length es k; omega, _, hmm, hv.del hn⟩ q ry
      · cases e
    · cases e
end
end Mine
end

section
open PySem PySem.W PyProof.Rows PySem.Calls PySem.SeqAt
namespace Mine
/-- room -/
structure Bud (A : Around) (n : Nat) : Prop where
  hd : A.handled = none
  dp : A.depth + n ≤ 990
  un : A.units + 20 * n + 200 ≤ cLine
theorem Bud.less {A : Around} {n m : Nat} (b : Bud A n) (h : m ≤ n) : Bud A m := ⟨b.hd, by have := b.dp; omega, by have := b.un; omega⟩
section
variable (prog : Program) (w : World) (β : Nat → Nat) (dice : List Int) (B : Heap)
structure Cx (n : Nat) (A : Around) (env : Env) (fm : Fm) (σ : S) (ρ : List Addr) (s : Shared) : Prop where
  bud : Bud A n
  fr : FrOk β B env fm ρ s.heap
  inv : Inv prog w β dice B σ ρ s.heap
/-- what goes on behind a test -/
def Kb (σ' : S) (b : Bool) (ρ : List Addr) (s : Shared) (Q : Bool → Shared → Prop) : Prop :=
  ∀ h' tk ρ', Inv prog w β dice B σ' ρ' h' → Ext noT ρ s.heap ρ' h' → Q b { s with heap := h', toks := tk }
def Kvs (σ' : S) (vs : List AV) (ρ : List Addr) (s : Shared) (Q : List Value → Shared → Prop) : Prop :=
  ∀ vals h' tk ρ', VRs β ρ' vs vals → Inv prog w β dice B σ' ρ' h' → Ext noT ρ s.heap ρ' h' → Q vals { s with heap := h', toks := tk }
def FlR (ρ : List Addr) : Fl → Flow → Prop
  | .next, f => f = .next
  | .cont, f => f = .cont
  | .ret v, f => ∃ val, f = .ret val ∧ VR β ρ v val
def Kx (env : Env) (fl : Fl) (fm' : Fm) (σ' : S) (ρ : List Addr) (s : Shared) (Q : Flow → Shared → Prop) : Prop :=
  ∀ f h' tk ρ', FlR β ρ' fl f → FrOk β B env fm' ρ' h' → Inv prog w β dice B σ' ρ' h' → Ext (Own env) ρ s.heap ρ' h' → Q f { s with heap := h', toks := tk }
def Ku (env : Env) (fm' : Fm) (σ' : S) (ρ : List Addr) (s : Shared) (Q : Unit → Shared → Prop) : Prop :=
  ∀ h' tk ρ', FrOk β B env fm' ρ' h' → Inv prog w β dice B σ' ρ' h' → Ext (Own env) ρ s.heap ρ' h' → Q () { s with heap := h', toks := tk }
def EvOk (r : R) (n : Nat) : Prop := ∀ {A : Around} {env : Env} {fm : Fm} {σ σ' : S} {ρ : List Addr} {s : Shared} {e : Expr} {v : AV} {E : Value → Shared → Prop} {Q : Value → Shared → Prop}, Cx prog w β dice B n A env fm σ ρ s →
  r.ev env.scope e fm σ = some (v, σ') → Kv prog w β dice B σ' v ρ s Q → wpAny (model prog w) A (eval e env) Q E s
def TsOk (r : R) (n : Nat) : Prop := ∀ {A : Around} {env : Env} {fm : Fm} {σ σ' : S} {ρ : List Addr} {s : Shared} {e : Expr} {b : Bool} {E : Value → Shared → Prop} {Q : Bool → Shared → Prop}, Cx prog w β dice B n A env fm σ ρ s →
  r.ts env.scope e fm σ = some (b, σ') → Kb prog w β dice B σ' b ρ s Q → wpAny (model prog w) A (isTrue e env (eval e env)) Q E s
def XsOk (r : R) (n : Nat) : Prop := ∀ {A : Around} {env : Env} {fm fm' : Fm} {σ σ' : S} {ρ : List Addr} {s : Shared} {l : List Stmt} {fl : Fl} {E : Value → Shared → Prop} {Q : Flow → Shared → Prop}, Cx prog w β dice B n A env fm σ ρ s →
  r.xs env.scope l fm σ = some (fl, fm', σ') → Kx prog w β dice B env fl fm' σ' ρ s Q → wpAny (model prog w) A (execs l env) Q E s
def ClOk (r : R) (n : Nat) : Prop := ∀ {A : Around} {σ σ' : S} {ρ : List Addr} {s : Shared} {f : AV} {fv : Value} {args : List AV} {vs : List Value} {v : AV} {E : Value → Shared → Prop} {Q : Value → Shared → Prop}, Bud A n → Inv prog w β dice B σ ρ s.heap →
  VR β ρ f fv → VRs β ρ args vs → r.cl f args σ = some (v, σ') → Kv prog w β dice B σ' v ρ s Q → wpAny (model prog w) A (call fv vs) Q E s
end
section
variable {prog : Program} {w : World} {β : Nat → Nat} {dice : List Int} {B : Heap} {Z : Tabs} {n : Nat} {r : R} {env : Env} {fm fm' : Fm} {σ σ' σ₁ : S} {ρ ρ' ρ₁ : List Addr} {s : Shared} {h₁ : Heap} {tk₁ : Nat} {A : Around} {E : Value → Shared → Prop}

theorem Cx.step (C : Cx prog w β dice B n A env fm σ ρ s) (I : Inv prog w β dice B σ₁ ρ₁ h₁) (X : Ext noT ρ s.heap ρ₁ h₁) (tk : Nat) : Cx prog w β dice B n A env fm σ₁ ρ₁ { s with heap := h₁, toks := tk } :=
  ⟨C.bud, C.fr.ext X, I⟩
theorem Cx.less {m : Nat} (C : Cx prog w β dice B n A env fm σ ρ s) (h : m ≤ n) : Cx prog w β dice B m A env fm σ ρ s := ⟨C.bud.less h, C.fr, C.inv⟩
theorem Kv.then {v : AV} {Q : Value → Shared → Prop} (q : Kv prog w β dice B σ' v ρ s Q) (X : Ext noT ρ s.heap ρ₁ h₁) (tk : Nat) : Kv prog w β dice B σ' v ρ₁ { s with heap := h₁, toks := tk } Q :=
  fun val h' tk' ρ' r I Y => q val h' tk' ρ' r I (X.trans0 Y)
theorem Kb.then {b : Bool} {Q : Bool → Shared → Prop} (q : Kb prog w β dice B σ' b ρ s Q) (X : Ext noT ρ s.heap ρ₁ h₁) (tk : Nat) : Kb prog w β dice B σ' b ρ₁ { s with heap := h₁, toks := tk } Q :=
  fun h' tk' ρ' I Y => q h' tk' ρ' I (X.trans0 Y)
theorem Kvs.then {vs : List AV} {Q : List Value → Shared → Prop} (q : Kvs prog w β dice B σ' vs ρ s Q) (X : Ext noT ρ s.heap ρ₁ h₁) (tk : Nat) : Kvs prog w β dice B σ' vs ρ₁ { s with heap := h₁, toks := tk } Q :=
  fun vals h' tk' ρ' r I Y => q vals h' tk' ρ' r I (X.trans0 Y)

/-! names -/
theorem sget_kindOf (x : Str) : sget env.scope.names x = env.kindOf x := sget_lookup x _
theorem efind_eq (l : List DictEntry) (x : Str) : efind l x = (l.find? (·.key.isStr x)).map (·.val) := by
  induction l with
  | nil => rfl
  | cons e l ih =>
    have q : efind (e :: l) x = (match e.key with | .str y _ => (match seq x y with | true => some e.val | false => efind l x) | _ => efind l x) := rfl
    rw [q, List.find?_cons]
    cases hk : e.key with
    | str y t =>
      dsimp only
      rw [isStr_str, seq_eq]
      by_cases z : x = y
      · subst z; simp
      · have z' : ¬ y = x := fun h => z h.symm
        simp [z, z', ih]
    | _ => simp [Value.isStr, ih]
theorem biTab_boot : ∀ p ∈ biTab, bootBuiltins p.1 = some p.2.val := by decide +kernel
theorem biTab_name : ∀ p ∈ biTab, p.1 ≠ ("__name__" : Str) := by decide +kernel
theorem topAV_ok {v : Value} {a : AV} (e : topAV v = some a) : VR β ρ a v := by
  cases v <;> cases e
  · rfl
  · rfl
  · exact ⟨_, rfl⟩
  · rename_i b t; exact ⟨t, by simp⟩
  · rfl
theorem glob_ok (G : Gd prog w β Z B) (C : Cx prog w β dice B n A env fm σ ρ s) {x : Str} {v : AV} (e : glob Z x = some v) {Q : Value → Shared → Prop} (q : ∀ val tk, VR β ρ v val → Q val { s with toks := tk }) :
    wpAny (model prog w) A (loadGlobal env x) Q E s := by
  obtain ⟨mg, hg⟩ := G.g
  obtain ⟨mb, hb, hbo⟩ := G.b
  have hg' : s.heap.Ns env.globals mg := by rw [C.fr.gl]; exact hg.keeps C.inv.keep
  have hb' : s.heap.Ns env.builtins mb := by rw [C.fr.bu]; exact hb.keeps C.inv.keep
  unfold glob at e
  split at e
  · rename_i cl d es ep sl hK
    rw [nget_lookup] at hK
    obtain ⟨o, es', ep', ho, hd, _, hf⟩ := hg
    have := G.X _ _ hK
    rw [show (3 : Nat) = mainGlobals from rfl, ho] at this
    cases this
    cases hd
    have key : mg x = efind es.toList x := by
      rw [← hf, efind_eq]
      unfold nsFind findBy
      rw [← Array.find?_toList]
    split at e
    · rename_i val hv
      exact loadGlobal_global hg' (key.trans hv) (q _ s.toks (topAV_ok e))
    · rename_i hv
      split at e
      · rename_i b hb2
        cases e
        rw [sget_lookup] at hb2
        have hm := mem_of_lookup hb2
        exact loadGlobal_builtin hg' (key.trans hv) hb' ((hbo x (biTab_name _ hm)).trans (biTab_boot _ hm)) (q _ s.toks rfl)
      · cases e
  · cases e
theorem FrOk.notDebug (F : FrOk β B env fm ρ s.heap) {x : Str} {k : NameKind} (e : env.kindOf x = some k) : (x == ("__debug__" : Str)) = false ∧ (x == ("__classdict__" : Str)) = false := by
  have := F.names _ (mem_of_lookup e)
  exact ⟨beq_eq_false_iff_ne.mpr this.1, beq_eq_false_iff_ne.mpr this.2⟩
theorem name_ok (G : Gd prog w β Z B) (C : Cx prog w β dice B n A env fm σ ρ s) {x : Str} {p : Pos} {v : AV} (e : nameAV Z env.scope x fm = some v) {Q : Value → Shared → Prop} (q : ∀ val tk, VR β ρ v val → Q val { s with toks := tk }) :
    wpAny (model prog w) A (eval (.Name x p) env) Q E s := by
  unfold nameAV at e
  split at e
  · rename_i hk
    rw [sget_kindOf] at hk
    refine wpAny_Name ?_ (C.fr.notDebug hk).1
    rw [loadName_read C.fr.kind hk]
    exact glob_ok G C e q
  · cases e
  · rename_i k hni hne hk
    rw [sget_kindOf] at hk
    refine wpAny_Name ?_ (C.fr.notDebug hk).1
    cases k with
    | «local» =>
      obtain ⟨m, hn, hm⟩ := C.fr.ns
      obtain ⟨val, h1, h2⟩ := hm x _ e hk
      exact wpAny_loadName_local C.fr.kind hk hn h1 (q _ s.toks h2)
    | cell =>
      obtain ⟨c, val, h1, h2, h3⟩ := C.fr.cell x _ e (.inl hk)
      exact wpAny_loadName_cell C.fr.kind hk h1 h2 (q _ s.toks h3)
    | free =>
      obtain ⟨c, val, h1, h2, h3⟩ := C.fr.cell x _ e (.inr hk)
      exact wpAny_loadName_free C.fr.kind hk h1 h2 (q _ s.toks h3) (C.fr.notDebug hk).2
    | globalImplicit => exact (hni rfl).elim
    | globalExplicit => exact (hne rfl).elim
  · cases e
theorem ev_Name (G : Gd prog w β Z B) (C : Cx prog w β dice B n A env fm σ ρ s) {x : Str} {p : Pos} {v : AV} (e : stepEv Z r env.scope (.Name x p) fm σ = some (v, σ')) {Q : Value → Shared → Prop} (q : Kv prog w β dice B σ' v ρ s Q) :
    wpAny (model prog w) A (eval (.Name x p) env) Q E s := by
  unfold stepEv at e
  dsimp only at e
  split at e
  · rename_i v' h
    cases e
    exact name_ok G C h fun val tk rv => q.now C.inv rv
  · cases e
theorem ev_Constant (C : Cx prog w β dice B n A env fm σ ρ s) {c : Const} {k : Nat} {p : Pos} {v : AV} (e : constAV c = some v) {Q : Value → Shared → Prop} (q : Kv prog w β dice B σ v ρ s Q) :
    wpAny (model prog w) A (eval (.Constant c k p) env) Q E s := by
  rw [arm_eval_Constant]
  cases c <;> cases e
  · exact wpAny_pure (q.now (tk := s.toks) C.inv rfl)
  · exact wpAny_pure (q.now (tk := s.toks) C.inv rfl)
  · exact wpAny_mkInt (q.now C.inv ⟨_, rfl⟩)
  · exact wpAny_mkTextBytes (q.now C.inv ⟨_, rfl⟩)

/-! lists of expressions -/
theorem evs_cons (sc : Scope) (e : Expr) (es : List Expr) (fm : Fm) (σ : S) : evs r sc (e :: es) fm σ = (match e with
    | .Starred _ _ => none
    | e => (match r.ev sc e fm σ with
      | some (v, s) => (match evs r sc es fm s with | some (vs, s) => some (v :: vs, s) | none => none)
      | none => none)) := rfl
theorem evs_plain {e : Expr} {es : List Expr} {vs : List AV} (h : evs r env.scope (e :: es) fm σ = some (vs, σ')) : ∃ v σ₁ vs', r.ev env.scope e fm σ = some (v, σ₁) ∧ evs r env.scope es fm σ₁ = some (vs', σ') ∧ vs = v :: vs' ∧ starEach (e :: es) env = (false, eval e env) :: starEach es env := by
  rw [evs_cons] at h
  split at h
  · cases h
  · rename_i hs
    split at h
    · rename_i v σ₁ h1
      split at h
      · rename_i vs' σ₂ h2
        cases h
        refine ⟨v, _, vs', h1, h2, rfl, ?_⟩
        cases e <;> first | rfl | exact (hs _ _ rfl).elim
      · cases h
    · cases h
theorem evs_ok (H : EvOk prog w β dice B r n) (pos : Pos) : ∀ {es : List Expr} {σ : S} {ρ : List Addr} {s : Shared} {vs : List AV} {Q : List Value → Shared → Prop}, Cx prog w β dice B n A env fm σ ρ s →
    evs r env.scope es fm σ = some (vs, σ') → Kvs prog w β dice B σ' vs ρ s Q → wpAny (model prog w) A (spliced (backTo pos (starEach es env))) Q E s
  | [], σ, ρ, s, vs, Q, C, e, q => by cases e; exact wpAny_pure (q [] s.heap s.toks ρ .nil C.inv C.inv.refl)
  | e₀ :: es, σ, ρ, s, vs, Q, C, e, q => by
    obtain ⟨v, σ₁, vs', h1, h2, rfl, hst⟩ := evs_plain e
    rw [hst]
    show wpAny (model prog w) A (do
      let v ← eval e₀ env
      let here ← (if false = true then (do
        if ← notIterableAtAll v then
          rule "star.not-iterable"; raiseError "TypeError" s!"Value after * must be an iterable, not {← typeNameOf v}"
        collect v) else pure [v])
      return here ++ (← holding here (spliced (backTo pos (starEach es env))))) Q E s
    refine wpAny_bind (H C h1 fun val h' tk ρ' rv I X => wpAny_bind (wpAny_pure (wpAny_bind (wpAny_holding ?_))))
    refine evs_ok H pos (C.step I X tk) h2 fun vals h'' tk' ρ'' rvs I' X' => wpAny_pure ?_
    exact q (val :: vals) h'' tk' ρ'' (.cons (rv.ext X') rvs) I' (X.trans0 X')

/-! operators -/
theorem ev_UnaryOp (H : EvOk prog w β dice B r n) (C : Cx prog w β dice B n A env fm σ ρ s) {op : UnaryOp} {x : Expr} {p : Pos} {v : AV} (e : stepEv Z r env.scope (.UnaryOp op x p) fm σ = some (v, σ')) {Q : Value → Shared → Prop}
    (q : Kv prog w β dice B σ' v ρ s Q) : wpAny (model prog w) A (eval (.UnaryOp op x p) env) Q E s := by
  unfold stepEv at e
  dsimp only at e
  split at e
  · rename_i a σ₁ h1
    split at e
    · rename_i v' h2
      cases e
      exact wpAny_UnaryOp (H C h1 fun val h' tk ρ' rv I X => unop_ok (s := { s with heap := h', toks := tk }) I rv h2 (q.then X tk))
    · cases e
  · cases e
theorem lrep_eq {α : Type} (k : Nat) (l : List α) : lrep k l = (List.replicate k l).flatten := by
  induction k with
  | zero => rfl
  | succ k ih =>
    have : lrep (k + 1) l = lapp l (lrep k l) := rfl
    rw [this, lapp_eq, ih, List.replicate_succ, List.flatten_cons]
theorem VRs.rep {l : List AV} {m : List Value} (r : VRs β ρ l m) : ∀ k, VRs β ρ (List.replicate k l).flatten (List.replicate k m).flatten
  | 0 => .nil
  | k + 1 => by rw [List.replicate_succ, List.replicate_succ, List.flatten_cons, List.flatten_cons]; exact r.append (VRs.rep r k)
end
end Mine
end

section
open PySem PySem.W PyProof.Rows PySem.Calls PySem.SeqAt
namespace Mine
section
variable {prog : Program} {w : World} {β : Nat → Nat} {dice : List Int} {B : Heap} {Z : Tabs} {n : Nat} {r : R} {env : Env} {fm fm' : Fm} {σ σ' σ₁ : S} {ρ ρ' ρ₁ : List Addr} {s : Shared} {h₁ : Heap} {tk₁ : Nat} {A : Around} {E : Value → Shared → Prop}

theorem Inv.pushX (I : Inv prog w β dice B σ ρ s.heap) (o : Obj) : Inv prog w β dice B σ ρ (s.heap.push o) ∧ Ext noT ρ s.heap ρ (s.heap.push o) := by
  have J := I.push o
  exact ⟨J, ⟨⟨[], (List.append_nil ρ).symm, fun _ m => (nomatch m)⟩, fun b x q _ _ => Heap.get?_push_of_some o q, J.live⟩⟩
theorem small_len {α : Type} {l : List α} (h : small l = true) : l.length ≤ 1000 := small_iff h
theorem repeat_ok {l : Addr} {items : Array Value} {x : Int} {u : Tok} {Q : Value → Shared → Prop} (hl : s.heap.get? l = some { cls := .type "list", dict := none, data := .seq items 0, slots := #[] })
    (c0 : ¬(!Builtin.List.listFitsIndex x) = true) (c1 : ¬items.size * x.toNat > (2 ^ 63 - 1) / 8) (c2 : ¬Builtin.List.listTooLong (items.size * x.toNat) = true)
    (h : Q (.ref s.heap.objs.size) { s with heap := s.heap.push { cls := .type "list", data := .seq (List.foldl (fun x1 x2 => x1 ++ x2) #[] (List.replicate (if items.isEmpty = true then 0 else x.toNat) items)) } }) :
    wpAny (model prog w) A (binaryOp .Mult (.ref l) (.int x u)) Q E s :=
  wpAny_binaryOp_repeat_ref (T := "list") (U := "int") (by decide) ⟨_, hl, rfl⟩ (fun s' => typeIs_int s' x u) noFill_list_mul F.fills_int_mul F.slot_int_rmul repeat_list F.slot_int_index.lookup
    (call_meets F.slot_int_rmul (typeIs_int s x u) F.entry_int_rmul (F.args_int_rmul_2 _ _) (int___rmul___int_list x u l items 0)
      ⟨hl, rfl, ⟨_, hl, rfl⟩, call_meets F.slot_list_mul ⟨_, hl, rfl⟩ F.entry_list_mul (F.args_list_mul_2 _ _)
        (AutoListH.list___mul___list_int_3 l items 0 x u c0 c1 c2) ⟨hl, h⟩⟩)
theorem ev_BinOp (H : EvOk prog w β dice B r n) (C : Cx prog w β dice B n A env fm σ ρ s) {op : Operator} {l x : Expr} {p : Pos} {v : AV} (e : stepEv Z r env.scope (.BinOp l op x p) fm σ = some (v, σ')) {Q : Value → Shared → Prop}
    (q : Kv prog w β dice B σ' v ρ s Q) : wpAny (model prog w) A (eval (.BinOp l op x p) env) Q E s := by
  unfold stepEv at e
  dsimp only at e
  split at e
  · rename_i es lp
    split at e
    · rename_i vs σ₁ h1
      split at e
      · rename_i k σ₂ h2
        split at e
        · rename_i hk
          split at e
          · rename_i hsm
            have hk16 : k ≤ 16 := Nat.ble_eq.mp hk
            have hl := small_len hsm
            refine wpAny_BinOp (wpAny_List (evs_ok H _ C h1 fun vals h' tk ρ' rvs I X => ?_))
            have hlen := rvs.length
            refine ⟨by rw [sizeLine_eq]; omega, ?_⟩
            obtain ⟨J, Y⟩ := Inv.pushX (s := { s with heap := h', toks := tk }) I { cls := .type "list", data := .seq vals.toArray }
            refine H ((C.step I X tk).step J Y tk) h2 fun val h'' tk' ρ'' rk J' Y' => ?_
            obtain ⟨u, rfl⟩ := rk
            have hnot : h'.objs.size ∉ ρ' := I.fresh
            have hl0 : h''.get? h'.objs.size = some { cls := .type "list", data := .seq vals.toArray } := Y'.keep _ _ (Heap.get?_push_size _ rfl) hnot fun t => t
            have hszm : vals.length * k ≤ 16000 := by
              calc vals.length * k ≤ 1000 * 16 := Nat.mul_le_mul (by omega) hk16
                _ = 16000 := rfl
            have hto : (Int.ofNat k).toNat = k := rfl
            have c0 : ¬(!Builtin.List.listFitsIndex (Int.ofNat k)) = true := by
              have : Builtin.List.listFitsIndex (Int.ofNat k) = true := by
                unfold Builtin.List.listFitsIndex
                simp only [Bool.and_eq_true, decide_eq_true_eq]
                exact ⟨Int.le_trans (by decide) (Int.natCast_nonneg k), Int.lt_of_le_of_lt (Int.ofNat_le.mpr hk16) (by decide)⟩
              rw [this]; decide
            have c1 : ¬vals.toArray.size * (Int.ofNat k).toNat > (2 ^ 63 - 1) / 8 := by
              rw [hto, List.size_toArray]
              exact Nat.not_lt.mpr (Nat.le_trans hszm (by decide))
            have c2 : ¬Builtin.List.listTooLong (vals.toArray.size * (Int.ofNat k).toNat) = true := by
              rw [hto, List.size_toArray]
              unfold Builtin.List.listTooLong
              simp only [decide_eq_true_eq]
              rw [sizeLine_eq]; omega
            refine repeat_ok (s := { s with heap := h'', toks := tk' }) hl0 c0 c1 c2 ?_
            rw [listMul_foldl_if]
            rw [lrep_eq] at e
            have X3 := (X.trans0 Y).trans0 Y'
            exact newL_ok (s := { s with heap := h'', toks := tk' }) J' ((rvs.ext Y').rep k) e (q.then X3 tk') _
          · cases e
        · cases e
      · cases e
    · cases e
  · split at e
    · rename_i a σ₁ h1
      split at e
      · rename_i b σ₂ h2
        refine wpAny_BinOp (H C h1 fun va h' tk ρ' ra I X => H (C.step I X tk) h2 fun vb h'' tk' ρ'' rb I' X' => ?_)
        exact binop_ok (s := { s with heap := h'', toks := tk' }) I' (ra.ext X') rb e (q.then (X.trans0 X') tk')
      · cases e
    · cases e
end
end Mine
end

section
open PySem PySem.W PyProof.Rows PySem.Calls PySem.SeqAt
namespace Mine
section
variable {prog : Program} {w : World} {β : Nat → Nat} {dice : List Int} {B : Heap} {Z : Tabs} {n : Nat} {r : R} {env : Env} {fm fm' : Fm} {σ σ' σ₁ : S} {ρ ρ' ρ₁ : List Addr} {s : Shared} {h₁ : Heap} {tk₁ : Nat} {A : Around} {E : Value → Shared → Prop}

theorem bools_cons (sc : Scope) (op : BoolOp) (e : Expr) (rest : List Expr) (fm : Fm) (s : S) : bools r sc op (e :: rest) fm s = (match r.ev sc e fm s with
    | some (v, s) => (match rest with
      | [] => some (v, s)
      | _ :: _ => (match truth s v, op with
        | some false, .And => some (v, s)
        | some true, .Or => some (v, s)
        | some _, _ => bools r sc op rest fm s
        | none, _ => none))
    | none => none) := rfl
theorem bools_ok (H : EvOk prog w β dice B r n) (pos : Pos) {op : BoolOp} : ∀ {es : List Expr} {σ : S} {ρ : List Addr} {s : Shared} {v : AV} {Q : Value → Shared → Prop}, Cx prog w β dice B n A env fm σ ρ s →
    bools r env.scope op es fm σ = some (v, σ') → Kv prog w β dice B σ' v ρ s Q → wpAny (model prog w) A (boolOp pos op (evalEach es env)) Q E s
  | [], σ, ρ, s, v, Q, C, e, q => by cases e
  | [x], σ, ρ, s, v, Q, C, e, q => by
    rw [bools_cons] at e
    split at e
    · rename_i v' σ₁ h1
      cases e
      exact H C h1 q
    · cases e
  | x :: y :: rest, σ, ρ, s, v, Q, C, e, q => by
    rw [bools_cons] at e
    split at e
    · rename_i v' σ₁ h1
      dsimp only at e
      show wpAny (model prog w) A (do
        let v ← eval x env
        standAt pos
        let t ← holding [v] (truthy v)
        match op, t with
        | .And, false | .Or, true => pure v
        | _, _ => boolOp pos op (evalEach (y :: rest) env)) Q E s
      refine wpAny_bind (H C h1 fun val h' tk ρ' rv I X => wpAny_bind (wpAny_standAt (wpAny_bind (wpAny_holding ?_))))
      have C' := C.step I X tk
      cases ht : truth σ₁ v' with
      | none => rw [ht] at e; cases op <;> cases e
      | some b =>
        rw [ht] at e
        refine truth_ok (s := { s with heap := h', toks := tk }) I rv ht fun tk' => ?_
        have go : bools r env.scope op (y :: rest) fm σ₁ = some (v, σ') → wpAny (model prog w) A (boolOp pos op (evalEach (y :: rest) env)) Q E { s with heap := h', toks := tk' } :=
          fun e => bools_ok H pos (C.step I X tk') e (q.then X tk')
        clear H C' ht
        cases op <;> cases b <;> first | exact go e | (cases e; exact wpAny_pure (q val h' tk' ρ' rv I X))
    · cases e

theorem tests_cons (sc : Scope) (op : BoolOp) (e : Expr) (rest : List Expr) (fm : Fm) (s : S) : tests r sc op (e :: rest) fm s = (match r.ts sc e fm s with
    | some (b, s) => (match op, b with
      | .And, false => some (false, s)
      | .Or, true => some (true, s)
      | _, _ => tests r sc op rest fm s)
    | none => none) := rfl
theorem tests_ok (H : TsOk prog w β dice B r n) {op : BoolOp} : ∀ {es : List Expr} {σ : S} {ρ : List Addr} {s : Shared} {b : Bool} {Q : Bool → Shared → Prop}, Cx prog w β dice B n A env fm σ ρ s →
    tests r env.scope op es fm σ = some (b, σ') → Kb prog w β dice B σ' b ρ s Q → wpAny (model prog w) A (allTrue op es env) Q E s
  | [], σ, ρ, s, b, Q, C, e, q => by
    cases op
    · cases e; exact wpAny_allTrue_And_nil (q s.heap s.toks ρ C.inv C.inv.refl)
    · cases e; exact wpAny_allTrue_Or_nil (q s.heap s.toks ρ C.inv C.inv.refl)
  | x :: rest, σ, ρ, s, b, Q, C, e, q => by
    rw [tests_cons] at e
    split at e
    · rename_i b' σ₁ h1
      show wpAny (model prog w) A (do match op, ← isTrue x env (eval x env) with | .And, false => pure false | .Or, true => pure true | _, _ => allTrue op rest env) Q E s
      refine wpAny_bind (H C h1 fun h' tk ρ' I X => ?_)
      split at e
      · cases e; exact wpAny_pure (q h' tk ρ' I X)
      · cases e; exact wpAny_pure (q h' tk ρ' I X)
      · rename_i hn1 hn2
        have go : wpAny (model prog w) A (allTrue op rest env) Q E { s with heap := h', toks := tk } := tests_ok H (C.step I X tk) e (q.then X tk)
        cases op <;> cases b' <;> first | exact go | exact (hn1 rfl rfl).elim | exact (hn2 rfl rfl).elim
    · cases e

theorem chain_cons (sc : Scope) (e : Expr) (rest : List Expr) (fm : Fm) (ops : List CmpOp) (a : AV) (s : S) : chain Z r sc (e :: rest) fm ops a s = (match ops with
    | [] => none
    | op :: ops => (match r.ev sc e fm s with
      | some (b, s) => (match cmp Z op a b s with
        | some c => (match rest with
          | [] => (match ops with | [] => some (c, s) | _ :: _ => none)
          | _ :: _ => (match ops with
            | [] => none
            | _ :: _ => (match c with | true => chain Z r sc rest fm ops b s | false => some (false, s))))
        | none => none)
      | none => none)) := rfl
structure Tk (prog : Program) (w : World) (β : Nat → Nat) (Z : Tabs) (B : Heap) : Prop where
  G : Gd prog w β Z B
  hZ : ∀ t es, nget Z.dcts t = some es → (t == sysModules) = false
  hO : ∀ C names, nget Z.own C = some names → OwnOk Z.K C names
theorem Bud.cmp {A : Around} {n : Nat} (b : Bud A n) : A.units + 64 < cLine := by have := b.un; omega
/-- a chain of comparisons, as a test -/
theorem chain_test (T : Tk prog w β Z B) (H : EvOk prog w β dice B r n) (pos : Pos) : ∀ {es : List Expr} {ops : List CmpOp} {a : AV} {va : Value} {σ : S} {ρ : List Addr} {s : Shared} {b : Bool} {Q : Bool → Shared → Prop}, Cx prog w β dice B n A env fm σ ρ s → VR β ρ a va →
    chain Z r env.scope es fm ops a σ = some (b, σ') → Kb prog w β dice B σ' b ρ s Q → wpAny (model prog w) A (testChain pos va ops (evalEach es env)) Q E s := by
  intro es
  induction es with
  | nil => intro ops a va σ ρ s b Q C ra e q; cases e
  | cons x rest ih =>
    intro ops a va σ ρ s b Q C ra e q
    rw [chain_cons] at e
    split at e
    · cases e
    · rename_i op ops'
      split at e
      · rename_i b' σ₁ h1
        split at e
        · rename_i c hc
          split at e
          · split at e
            · cases e
              refine test_last (H C h1 fun vb h' tk ρ' rb I X => ?_)
              refine cmp_ok (s := { s with heap := h', toks := tk }) T.G T.hZ I C.bud.cmp (ra.ext X) rb hc fun tk' => ?_
              exact wpAny_truthy_bool (q h' tk' ρ' I X)
            · cases e
          · rename_i y rest'
            split at e
            · cases e
            · rename_i op' ops''
              refine test_link (r' := eval y env) (rs := evalEach rest' env) (H C h1 fun vb h' tk ρ' rb I X => ?_)
              refine cmp_ok (s := { s with heap := h', toks := tk }) T.G T.hZ I C.bud.cmp (ra.ext X) rb hc fun tk' => ?_
              refine wpAny_truthy_bool ?_
              cases c
              · cases e; exact q h' tk' ρ' I X
              · exact ih (C.step I X tk') rb e (q.then X tk')
        · cases e
      · cases e
/-- a chain of comparisons, as a value -/
theorem chain_val (T : Tk prog w β Z B) (H : EvOk prog w β dice B r n) (pos : Pos) : ∀ {es : List Expr} {ops : List CmpOp} {a : AV} {va : Value} {σ : S} {ρ : List Addr} {s : Shared} {b : Bool} {Q : Value → Shared → Prop}, Cx prog w β dice B n A env fm σ ρ s → VR β ρ a va →
    chain Z r env.scope es fm ops a σ = some (b, σ') → Kv prog w β dice B σ' (.bool b) ρ s Q → wpAny (model prog w) A (compareChain pos va ops (evalEach es env)) Q E s := by
  intro es
  induction es with
  | nil => intro ops a va σ ρ s b Q C ra e q; cases e
  | cons x rest ih =>
    intro ops a va σ ρ s b Q C ra e q
    rw [chain_cons] at e
    split at e
    · cases e
    · rename_i op ops'
      split at e
      · rename_i b' σ₁ h1
        split at e
        · rename_i c hc
          split at e
          · split at e
            · cases e
              refine chain_last (H C h1 fun vb h' tk ρ' rb I X => ?_)
              exact cmp_ok (s := { s with heap := h', toks := tk }) T.G T.hZ I C.bud.cmp (ra.ext X) rb hc fun tk' => q _ h' tk' ρ' rfl I X
            · cases e
          · rename_i y rest'
            split at e
            · cases e
            · rename_i op' ops''
              refine chain_link (r' := eval y env) (rs := evalEach rest' env) (H C h1 fun vb h' tk ρ' rb I X => ?_)
              refine cmp_ok (s := { s with heap := h', toks := tk }) T.G T.hZ I C.bud.cmp (ra.ext X) rb hc fun tk' => ?_
              refine wpAny_truthy_bool ?_
              cases c
              · cases e; exact q _ h' tk' ρ' rfl I X
              · exact ih (C.step I X tk') rb e (q.then X tk')
        · cases e
      · cases e
theorem ev_BoolOp (H : EvOk prog w β dice B r n) (C : Cx prog w β dice B n A env fm σ ρ s) {op : BoolOp} {es : List Expr} {p : Pos} {v : AV} (e : stepEv Z r env.scope (.BoolOp op es p) fm σ = some (v, σ')) {Q : Value → Shared → Prop}
    (q : Kv prog w β dice B σ' v ρ s Q) : wpAny (model prog w) A (eval (.BoolOp op es p) env) Q E s := by
  rw [arm_eval_BoolOp]; exact bools_ok H p C e q
theorem ev_Compare (T : Tk prog w β Z B) (H : EvOk prog w β dice B r n) (C : Cx prog w β dice B n A env fm σ ρ s) {l : Expr} {ops : List CmpOp} {es : List Expr} {p : Pos} {v : AV} (e : stepEv Z r env.scope (.Compare l ops es p) fm σ = some (v, σ')) {Q : Value → Shared → Prop}
    (q : Kv prog w β dice B σ' v ρ s Q) : wpAny (model prog w) A (eval (.Compare l ops es p) env) Q E s := by
  unfold stepEv at e
  dsimp only at e
  split at e
  · cases e
  · rename_i hm
    split at e
    · rename_i a σ₁ h1
      split at e
      · rename_i b σ₂ h2
        cases e
        rw [arm_eval_Compare, markedEach_of_false _ _ _ hm]
        exact wpAny_bind (H C h1 fun va h' tk ρ' ra I X => chain_val T H p (C.step I X tk) ra h2 (q.then X tk))
      · cases e
    · cases e
theorem ev_IfExp (H : EvOk prog w β dice B r n) (Ht : TsOk prog w β dice B r n) (C : Cx prog w β dice B n A env fm σ ρ s) {t a b : Expr} {p : Pos} {v : AV} (e : stepEv Z r env.scope (.IfExp t a b p) fm σ = some (v, σ')) {Q : Value → Shared → Prop}
    (q : Kv prog w β dice B σ' v ρ s Q) : wpAny (model prog w) A (eval (.IfExp t a b p) env) Q E s := by
  unfold stepEv at e
  dsimp only at e
  split at e
  · rename_i σ₁ h1
    exact wpAny_IfExp (Ht C h1 fun h' tk ρ' I X => by rw [if_pos rfl]; exact H (C.step I X tk) e (q.then X tk))
  · rename_i σ₁ h1
    exact wpAny_IfExp (Ht C h1 fun h' tk ρ' I X => by rw [if_neg (by decide)]; exact H (C.step I X tk) e (q.then X tk))
  · cases e
theorem ev_Tuple (H : EvOk prog w β dice B r n) (C : Cx prog w β dice B n A env fm σ ρ s) {es : List Expr} {k : Nat} {p : Pos} {v : AV} (e : stepEv Z r env.scope (.Tuple es k p) fm σ = some (v, σ')) {Q : Value → Shared → Prop}
    (q : Kv prog w β dice B σ' v ρ s Q) : wpAny (model prog w) A (eval (.Tuple es k p) env) Q E s := by
  unfold stepEv at e
  dsimp only at e
  split at e
  · rename_i vs σ₁ h1
    refine wpAny_Tuple (evs_ok H _ C h1 fun vals h' tk ρ' rvs I X => ?_)
    have l1 := newT_len e
    have l2 := rvs.length
    exact ⟨by rw [sizeLine_eq]; omega, newT_ok (s := { s with heap := h', toks := tk }) I rvs e (q.then X tk) tk⟩
  · cases e
theorem ev_List (H : EvOk prog w β dice B r n) (C : Cx prog w β dice B n A env fm σ ρ s) {es : List Expr} {p : Pos} {v : AV} (e : stepEv Z r env.scope (.List es p) fm σ = some (v, σ')) {Q : Value → Shared → Prop}
    (q : Kv prog w β dice B σ' v ρ s Q) : wpAny (model prog w) A (eval (.List es p) env) Q E s := by
  unfold stepEv at e
  dsimp only at e
  split at e
  · rename_i vs σ₁ h1
    refine wpAny_List (evs_ok H _ C h1 fun vals h' tk ρ' rvs I X => ?_)
    have l1 := newL_len e
    have l2 := rvs.length
    exact ⟨by rw [sizeLine_eq]; omega, newL_ok (s := { s with heap := h', toks := tk }) I rvs e (q.then X tk) tk⟩
  · cases e
theorem const_ok {c : Const} {a : AV} (e : constAV c = some a) {Q : Value → Shared → Prop} (q : ∀ val tk, (∀ ρ, VR β ρ a val) → Q val { s with toks := tk }) : wpAny (model prog w) A (constValue env c) Q E s := by
  cases c <;> cases e
  · exact wpAny_pure (q _ s.toks fun _ => rfl)
  · exact wpAny_pure (q _ s.toks fun _ => rfl)
  · exact wpAny_mkInt (q _ _ fun _ => ⟨_, rfl⟩)
  · exact wpAny_mkTextBytes (q _ _ fun _ => ⟨_, rfl⟩)
theorem ev_Dict (C : Cx prog w β dice B n A env fm σ ρ s) {ks : List (Option Expr)} {vs : List Expr} {p : Pos} {v : AV} (e : stepEv Z r env.scope (.Dict ks vs p) fm σ = some (v, σ')) {Q : Value → Shared → Prop}
    (q : Kv prog w β dice B σ' v ρ s Q) : wpAny (model prog w) A (eval (.Dict ks vs p) env) Q E s := by
  unfold stepEv at e
  dsimp only at e
  split at e
  · refine wpAny_Dict_empty ?_
    obtain ⟨a, b, c⟩ := C.inv.alloc (ob := { cls := .type "dict", data := .dict #[] }) rfl e ⟨Nat.zero_le _, [], Heap.DictOf.new _, .nil⟩
    exact q _ _ s.toks _ b a c
  · rename_i k k1 k2 c c1 c2
    split at e
    · rename_i a ha
      refine wpAny_Dict_pairs (knd := intKind prog w) (pairs := [(eval (.Constant (.int k) k1 k2) env, do let x ← eval (.Constant c c1 c2) env; standAt p; pure x)]) rfl (by simp) (by show 1 ≤ 15; decide) ?_
      show wpAny (model prog w) A (do
        let kv ← eval (.Constant (.int k) k1 k2) env
        let vv ← holding [kv] (do let x ← eval (.Constant c c1 c2) env; standAt p; pure x)
        return (kv, vv) :: (← holding [kv, vv] (pure []))) _ _ _
      refine wpAny_bind (wpAny_mkInt (wpAny_bind (wpAny_holding (wpAny_bind (const_ok (β := β) ha fun val tk rv => wpAny_bind (wpAny_standAt (wpAny_pure ?_)))))))
      refine wpAny_bind (wpAny_holding (wpAny_pure (wpAny_pure ⟨[(k, val)], ⟨intKind_is prog w k _, rfl, trivial⟩, Heap.DictOf.new _, fun h' hd hs => ?_⟩)))
      have hk : ∀ b o, s.heap.get? b = some o → h'.get? b = some o := fun b o z => hs.extBut b o (Nat.ne_of_lt (Heap.lt_size z)) (Heap.get?_push_of_some _ z)
      have live : ∃ ob, h'.get? s.heap.objs.size = some ob := let ⟨o, _, _, ho, _⟩ := hd; ⟨o, ho⟩
      obtain ⟨x, y, z⟩ := C.inv.allocAt e hk (size_none _) live ⟨by simp, _, hd, .cons (rv _) .nil⟩
      exact q _ h' _ _ y x z
    · cases e
  · cases e
theorem attributeBase_plain {o : Expr} {x : Str} {whole : Sem Value} (h : plainBase o = true) : attributeBase o x env whole = whole := by
  cases o with
  | Call f args ks pos =>
    cases f <;> first | (cases h; done) | rfl | (cases args <;> cases ks <;> first | (cases h; done) | rfl)
  | _ => first | (cases h; done) | rfl
theorem ev_Attribute (T : Tk prog w β Z B) (H : EvOk prog w β dice B r n) (C : Cx prog w β dice B n A env fm σ ρ s) {o : Expr} {x : Str} {p : Pos} {v : AV} (e : stepEv Z r env.scope (.Attribute o x p) fm σ = some (v, σ')) {Q : Value → Shared → Prop}
    (q : Kv prog w β dice B σ' v ρ s Q) : wpAny (model prog w) A (eval (.Attribute o x p) env) Q E s := by
  unfold stepEv at e
  dsimp only at e
  split at e
  · rename_i hp
    split at e
    · rename_i a σ₁ h1
      split at e
      · rename_i v' h2
        cases e
        refine Attribute_any_ (H C h1 fun va h' tk ρ' ra I X => ?_) (by rw [arm_eval_Attribute, attributeBase_plain hp])
        exact attr_ok (s := { s with heap := h', toks := tk }) (fun a o e => I.keep _ _ (T.G.X a o e)) T.hO I ra h2 (q.then X tk)
      · cases e
    · cases e
  · cases e
theorem PartR.ext {T : Addr → Prop} {h h' : Heap} {a : Option AV} {v : Value} (X : Ext T ρ h ρ' h') (r : PartR β ρ a v) : PartR β ρ' a v := by
  cases a
  · exact r
  · exact VR.ext X r
theorem part_ok (H : EvOk prog w β dice B r n) (C : Cx prog w β dice B n A env fm σ ρ s) {o : Option Expr} {v : Option AV}
    (e : (match (generalizing := false) o with | none => some (none, σ) | some e => (match (generalizing := false) r.ev env.scope e fm σ with | some (v, s) => some (some v, s) | none => none)) = some (v, σ')) {Q : Value → Shared → Prop}
    (q : ∀ val h' tk ρ', PartR β ρ' v val → Inv prog w β dice B σ' ρ' h' → Ext noT ρ s.heap ρ' h' → Q val { s with heap := h', toks := tk }) : wpAny (model prog w) A (evalPart o env) Q E s := by
  cases o with
  | none => cases e; exact wpAny_pure (q .none s.heap s.toks ρ rfl C.inv C.inv.refl)
  | some x =>
    dsimp only at e
    split at e
    · rename_i v' σ₁ h1
      cases e
      exact H C h1 fun val h' tk ρ' rv I X => q val h' tk ρ' rv I X
    · cases e
theorem ev_Subscript (T : Tk prog w β Z B) (H : EvOk prog w β dice B r n) (C : Cx prog w β dice B n A env fm σ ρ s) {o i : Expr} {p : Pos} {v : AV} (e : stepEv Z r env.scope (.Subscript o i p) fm σ = some (v, σ')) {Q : Value → Shared → Prop}
    (q : Kv prog w β dice B σ' v ρ s Q) : wpAny (model prog w) A (eval (.Subscript o i p) env) Q E s := by
  unfold stepEv at e
  dsimp only at e
  split at e
  · rename_i a σ₁ h1
    refine Subscript_ (H C h1 fun va h' tk ρ' ra I X => ?_)
    have C' := C.step I X tk
    split at e
    · rename_i lo hi sp
      split at e
      · rename_i lo' σ₂ h2
        split at e
        · rename_i hi' σ₃ h3
          refine wpAny_Slice (part_ok H C' h2 fun vl h2' tk2 ρ2 rl I2 X2 => part_ok H ((C'.step I2 X2 tk2)) h3 fun vu h3' tk3 ρ3 ru I3 X3 => ?_)
          refine wpAny_pure ?_
          have X23 := (X.trans0 X2).trans0 X3
          obtain ⟨J, Y⟩ := Inv.pushX (s := { s with heap := h3', toks := tk3 }) I3 { cls := .type "slice", data := .fields #[vl, vu, .none] }
          have rl' : PartR β ρ3 lo' vl := rl.ext X3
          exact slice_ok (s := { s with heap := h3'.push { cls := .type "slice", data := .fields #[vl, vu, .none] }, toks := tk3 }) J ((ra.ext X2).ext X3) rl' ru (Heap.IsSliceOf.new _ _ _ _) e (q.then (X23.trans0 Y) tk3)
        · cases e
      · cases e
    · cases e
    · rename_i hs1 hs2
      split at e
      · rename_i b σ₂ h2
        split at e
        · rename_i v' h3
          cases e
          refine H C' h2 fun vb h'' tk' ρ'' rb I' X' => ?_
          have hns : noSlice i = true := by
            cases i <;> first | rfl | skip
            rename_i a b c d
            cases c
            · exact (hs1 _ _ _ rfl).elim
            · exact (hs2 _ _ _ _ rfl).elim
          exact item_ok (s := { s with heap := h'', toks := tk' }) T.G I' (ra.ext X') rb h3 hns (q.then (X.trans0 X') tk')
        · cases e
      · cases e
  · cases e
end
end Mine
end

section
open PySem PySem.W PyProof.Rows PySem.Calls PySem.SeqAt
namespace Mine
section
variable {prog : Program} {w : World} {β : Nat → Nat} {dice : List Int} {B : Heap} {Z : Tabs} {n : Nat} {r : R} {env : Env} {fm fm' : Fm} {σ σ' σ₁ : S} {ρ ρ' ρ₁ : List Addr} {s : Shared} {h₁ : Heap} {tk₁ : Nat} {A : Around} {E : Value → Shared → Prop}

theorem ts_default {e : Expr} (hd : ∀ whole, isTrue e env whole = (do let v ← whole; standAt e.pos; holding [v] (truthy v))) (H : EvOk prog w β dice B r n) (C : Cx prog w β dice B n A env fm σ ρ s) {b : Bool}
    (h : (match (generalizing := false) r.ev env.scope e fm σ with | some (v, s) => (match (generalizing := false) truth s v with | some b => some (b, s) | none => none) | none => none) = some (b, σ')) {Q : Bool → Shared → Prop}
    (q : Kb prog w β dice B σ' b ρ s Q) : wpAny (model prog w) A (isTrue e env (eval e env)) Q E s := by
  rw [hd]
  split at h
  · rename_i v σ₁ h1
    split at h
    · rename_i b' h2
      cases h
      exact wpAny_bind (H C h1 fun val h' tk ρ' rv I X => wpAny_bind (wpAny_standAt (wpAny_holding (truth_ok (s := { s with heap := h', toks := tk }) I rv h2 fun tk' => q h' tk' ρ' I X))))
    · cases h
  · cases h
theorem ts_ok (T : Tk prog w β Z B) (H : EvOk prog w β dice B r n) (Ht : TsOk prog w β dice B r n) (C : Cx prog w β dice B n A env fm σ ρ s) {e : Expr} {b : Bool} (h : stepTs Z r env.scope e fm σ = some (b, σ')) {Q : Bool → Shared → Prop}
    (q : Kb prog w β dice B σ' b ρ s Q) : wpAny (model prog w) A (isTrue e env (eval e env)) Q E s := by
  cases e with
  | UnaryOp op x p =>
    cases op with
    | Not =>
      unfold stepTs at h
      dsimp only at h
      split at h
      · rename_i b' σ₁ h1
        cases h
        show wpAny (model prog w) A (do return !(← isTrue x env (eval x env))) Q E s
        exact wpAny_bind (Ht C h1 fun h' tk ρ' I X => wpAny_pure (q h' tk ρ' I X))
      · cases h
    | _ => exact ts_default (fun _ => rfl) H C h q
  | BoolOp op es p =>
    exact wpAny_isTrue_BoolOp (tests_ok Ht C h q)
  | Compare l ops es p =>
    unfold stepTs at h
    dsimp only at h
    split at h
    · cases h
    · rename_i hm
      split at h
      · rename_i a σ₁ h1
        rw [arm_isTrue_Compare, markedEach_of_false _ _ _ hm]
        exact wpAny_bind (H C h1 fun va h' tk ρ' ra I X => chain_test T H p (C.step I X tk) ra h (q.then X tk))
      · cases h
  | IfExp => cases h
  | _ => exact ts_default (fun _ => rfl) H C h q
end
end Mine
end

section
open PySem PySem.W PyProof.Rows PySem.Calls PySem.SeqAt
namespace Mine
section
variable {prog : Program} {w : World} {β : Nat → Nat} {dice : List Int} {B : Heap} {Z : Tabs} {n : Nat} {r : R} {env : Env} {fm fm' : Fm} {σ σ' σ₁ : S} {ρ ρ' ρ₁ : List Addr} {s : Shared} {h₁ : Heap} {tk₁ : Nat} {A : Around} {E : Value → Shared → Prop}

def Keeps2 (K : Frag) (f : Value) : Prop := ∀ (M : Model) (h : Heap), K.In h → ∃ k, (k = Keeper.frame ∨ k = Keeper.machine ∨ k = Keeper.boundFrame) ∧ Looks M h (keeperOf f) k
theorem keeps2_builtin {K : Frag} (id : String) : Keeps2 K (.builtin id) := fun _ _ _ => ⟨.machine, .inr (.inl rfl), .now⟩
theorem keeps2_type {K : Frag} (id : String) : Keeps2 K (.type id) := fun _ _ _ => ⟨.machine, .inr (.inl rfl), .now⟩
theorem keeps2_K {K : Frag} {f : Value} (h : keepIn K f = true) : Keeps2 K f := fun _ h' X => keeps_K h h' X
theorem keeps2_bi {K : Frag} (b : Bi) : Keeps2 K b.val := by cases b <;> first | exact keeps2_builtin _ | exact keeps2_type _
theorem evs_noStar (pos : Pos) : ∀ {es : List Expr} {σ : S} {vs : List AV}, evs r env.scope es fm σ = some (vs, σ') → (backTo pos (starEach es env)).any (·.1) = false
  | [], _, _, _ => rfl
  | e :: es, _, _, h => by
    obtain ⟨v, σ₁, vs', h1, h2, rfl, hst⟩ := evs_plain h
    rw [hst]
    show (false || (backTo pos (starEach es env)).any (·.1)) = false
    rw [evs_noStar pos h2]; rfl
theorem callWith_ok (G : Gd prog w β Z B) (H : EvOk prog w β dice B r n) (C : Cx prog w β dice B n A env fm σ ρ s) {pos : Pos} {f : Value} {first : List Value} {es : List Expr} {vs : List AV} (hk : Keeps2 Z.K f)
    (e : evs r env.scope es fm σ = some (vs, σ')) {Q : Value → Shared → Prop}
    (k : ∀ vals h' tk ρ', VRs β ρ' vs vals → Inv prog w β dice B σ' ρ' h' → Ext noT ρ s.heap ρ' h' → wpAny (model prog w) A (call f (first ++ vals)) Q E { s with heap := h', toks := tk }) :
    wpAny (model prog w) A (callWith pos f first (backTo pos (starEach es env)) []) Q E s := by
  have hpl := evs_noStar pos e
  refine callWith_of (P := fun h => Z.K.In h) (by rw [hpl]; rfl) (fun h X => hk _ h X) ?_
  cases es with
  | nil =>
    cases e
    exact PySem.evalArgs_none ⟨fun a o z => C.inv.keep _ _ (G.X a o z), k [] s.heap s.toks ρ .nil C.inv C.inv.refl⟩
  | cons x es =>
    obtain ⟨v, σ₁, vs', h1, h2, rfl, hst⟩ := evs_plain e
    have go := evs_ok (E := E) H pos C e (Q := fun vals s₁ => Z.K.In s₁.heap ∧ wpAny (model prog w) A (call f (first ++ vals)) Q E s₁) fun vals h' tk ρ' rv I X =>
      ⟨fun a o z => I.keep _ _ (G.X a o z), k vals h' tk ρ' rv I X⟩
    rw [hst] at go ⊢
    exact evalArgs_plain go

/-! calls of names -/
def KpOk (β : Nat → Nat) (Z : Tabs) (r : R) : Prop := ∀ {σ σ' : S} {ρ : List Addr} {f : AV} {fv : Value} {args : List AV} {v : AV}, VR β ρ f fv → r.cl f args σ = some (v, σ') → Keeps2 Z.K fv
theorem ev_Call_Name (G : Gd prog w β Z B) (H : EvOk prog w β dice B r n) (Hk : KpOk β Z r) (Hc : ClOk prog w β dice B r n) (C : Cx prog w β dice B n A env fm σ ρ s) {x : Str} {p pos : Pos} {es : List Expr} {f : AV} {σ₁ σ₂ : S} {vs : List AV} {v : AV}
    (h1 : r.ev env.scope (.Name x p) fm σ = some (f, σ₁)) (h2 : evs r env.scope es fm σ₁ = some (vs, σ₂)) (h3 : r.cl f vs σ₂ = some (v, σ')) {Q : Value → Shared → Prop}
    (q : Kv prog w β dice B σ' v ρ s Q) : wpAny (model prog w) A (eval (.Call (.Name x p) es [] pos) env) Q E s := by
  show wpAny (model prog w) A (do callWith pos (← eval (.Name x p) env) [] (backTo pos (starEach es env)) []) Q E s
  refine wpAny_bind (H C h1 fun fv h' tk ρ' rf I X => ?_)
  refine callWith_ok G H (C.step I X tk) (Hk rf h3) h2 fun vals h'' tk' ρ'' rvs I' X' => ?_
  exact Hc (s := { s with heap := h'', toks := tk' }) C.bud I' (rf.ext X') rvs h3 (q.then (X.trans0 X') tk')
end
end Mine
end

section
open PySem PySem.W PyProof.Rows PySem.Calls PySem.SeqAt
namespace Mine
structure MthOk (K : Frag) (C : Nat) (ms : List (Str × Nat)) : Prop where
  ga : findIn K (.ref C) "__getattribute__" = some (some (.builtin "object.__getattribute__"))
  gt : findIn K (.ref C) "__getattr__" = some none
  fn : ∀ x f, (x, f) ∈ ms → findIn K (.ref C) x = some (some (.ref f)) ∧ typeIn K (.ref f) = some (.type "function")
  cga : specialIn K (.ref C) "__getattribute__" = some (some (.builtin "type.__getattribute__"))
  rd : readsIn K C (.type "type") = true
  cls : ∀ x f, (x, f) ∈ ms → findCls K (.ref C) (.type "type") x = some (.val (.ref f))
section
variable {prog : Program} {w : World} {β : Nat → Nat} {dice : List Int} {B : Heap} {Z : Tabs} {n : Nat} {r : R} {env : Env} {fm fm' : Fm} {σ σ' σ₁ : S} {ρ ρ' ρ₁ : List Addr} {s : Shared} {h₁ : Heap} {tk₁ : Nat} {A : Around} {E : Value → Shared → Prop}
def MtR (β : Nat → Nat) (ρ : List Addr) : Mt → Value → List Value → Prop
  | .fn g avs, f, first => f = .ref g ∧ VRs β ρ avs first
  | .me m i, f, first => f = .builtin m.id ∧ ∃ a, ρ[i]? = some a ∧ first = [.ref a]
theorem MtR.ext {T : Addr → Prop} {h h' : Heap} {t : Mt} {f : Value} {first : List Value} (X : Ext T ρ h ρ' h') (m : MtR β ρ t f first) : MtR β ρ' t f first := by
  cases t with
  | fn g avs => exact ⟨m.1, m.2.ext X⟩
  | me me i =>
    obtain ⟨e, a, ea, e2⟩ := m
    obtain ⟨more, rfl, _⟩ := X.pre
    exact ⟨e, a, get_app ea, e2⟩
theorem listMe_slot : ∀ p ∈ listMe, Slot "list" p.1 p.2.id ∧ typeOf (.builtin p.2.id) = pure (.type "method_descriptor") := by
  intro p h
  simp only [listMe, List.mem_cons, List.not_mem_nil, or_false] at h
  rcases h with rfl | rfl | rfl | rfl
  · exact ⟨PySem.F.slot_list_append, PySem.F.type_list_append⟩
  · exact ⟨PySem.F.slot_list_extend, PySem.F.type_list_extend⟩
  · exact ⟨PySem.F.slot_list_pop, PySem.F.type_list_pop⟩
  · exact ⟨PySem.F.slot_list_index, PySem.F.type_list_index⟩
theorem dictMe_slot : ∀ p ∈ dictMe, Slot "dict" p.1 p.2.id ∧ typeOf (.builtin p.2.id) = pure (.type "method_descriptor") := by
  intro p h
  simp only [dictMe, List.mem_cons, List.not_mem_nil, or_false] at h
  rcases h with rfl | rfl
  · exact ⟨PySem.F.slot_dict_get, PySem.F.type_dict_get⟩
  · exact ⟨PySem.F.slot_dict_pop, PySem.F.type_dict_pop⟩
theorem methOf_ok (X : Z.K.In s.heap) (hM : ∀ C ms, nget Z.mth C = some ms → MthOk Z.K C ms) (I : Inv prog w β dice B σ ρ s.heap) {a : AV} {va : Value} {x : Str} {t : Mt} {pl : Sem Bool} (ra : VR β ρ a va) (e : methOf Z a x σ = some t)
    {Q : Value × List Value → Shared → Prop} (q : ∀ f first tk, MtR β ρ t f first → Q (f, first) { s with toks := tk }) : wpAny (model prog w) A (getMethod va x pl) Q E s := by
  unfold methOf at e
  split at e
  · rename_i i
    split at e
    · rename_i C d g
      split at e
      · rename_i fs gd
        split at e
        · rename_i hno
          split at e
          · rename_i ms hms
            split at e
            · rename_i f hf
              cases e
              obtain ⟨y, dx, es, n, rfl, ey, _, _, _, rs, J⟩ := inst_at I ra g gd
              have O := hM C ms hms
              rw [sget_lookup] at hf
              obtain ⟨h1, h2⟩ := O.fn x f (mem_of_lookup hf)
              refine method_fn X J O.ga O.gt h1 h2 (by show (lookIn x (dictOf es n)).map _ = _; rw [lookIn_dict, rs.getL_none hno]; rfl) (q _ _ s.toks ⟨rfl, .cons ⟨y, ey, rfl⟩ .nil⟩)
            · cases e
          · cases e
        · cases e
      · cases e
    · rename_i vs g
      split at e
      · rename_i m hm
        cases e
        rw [sget_lookup] at hm
        obtain ⟨h1, h2⟩ := listMe_slot _ (mem_of_lookup hm)
        obtain ⟨y, ey, rfl, z, items, n, hl, hv⟩ := I.ref ra g
        exact getMethod_builtin (T := "list") ⟨_, hl, rfl⟩ PySem.F.plainAttrs_list h1 h2 (fun b eb => by cases eb; exact ⟨_, hl, rfl⟩) (q _ _ s.toks ⟨rfl, y, ey, rfl⟩)
      · cases e
    · rename_i es g
      split at e
      · rename_i m hm
        cases e
        rw [sget_lookup] at hm
        obtain ⟨h1, h2⟩ := dictMe_slot _ (mem_of_lookup hm)
        obtain ⟨y, ey, rfl, z, kvs, hd, hv⟩ := I.ref ra g
        refine getMethod_builtin (T := "dict") hd.typeIs PySem.F.plainAttrs_dict h1 h2 (fun b eb => ?_) (q _ _ s.toks ⟨rfl, y, ey, rfl⟩)
        cases eb
        obtain ⟨o, _, _, ho, hx, _⟩ := hd
        exact ⟨o, ho, hx.2.1⟩
      · cases e
    · cases e
  · rename_i C
    cases ra
    split at e
    · rename_i ms hms
      split at e
      · rename_i f hf
        cases e
        have O := hM C ms hms
        rw [sget_lookup] at hf
        refine method_cls X O.cga (cls_value X O.rd (O.cls x f (mem_of_lookup hf)) rfl ?_)
        exact q _ _ _ ⟨rfl, .nil⟩
      · cases e
    · cases e
  · cases e
theorem methCall_unfold (o : Expr) (x : Str) (apos pos : Pos) (ov : Value) (n : Nat) (args : List (Bool × Sem Value)) : methodCall o x apos pos env ov n args [] = (do
    let (f, first) ← holding [ov] (calleeOf (methodCallForm n args []) o env ov x)
    let callPos ← methodCallPos (methodCallForm n args []) o env apos pos
    callWith callPos f first args []) := rfl
theorem form_ok {args : List (Bool × Sem Value)} {n : Nat} (h : args.any (·.1) = false) (hn : n < 30) : methodCallForm n args [] = true := by
  unfold methodCallForm
  have h1 : args.all (fun x => !x.1) = true := by
    rw [List.all_eq_true]
    intro x m
    have := List.any_eq_false.mp h x m
    simpa using this
  rw [h1]
  simp
  omega
theorem ev_Call_meth (T : Tk prog w β Z B) (hM : ∀ C ms, nget Z.mth C = some ms → MthOk Z.K C ms) (H : EvOk prog w β dice B r n) (Hk : KpOk β Z r) (Hc : ClOk prog w β dice B r n) (C : Cx prog w β dice B n A env fm σ ρ s) {o : Expr} {x : Str} {apos pos : Pos} {es : List Expr}
    {a : AV} {σ₁ σ₂ : S} {t : Mt} {vs : List AV} {v : AV} (hp : plainBase o = true) (hl : apos.endLine = pos.line) (hn : es.length < 30)
    (h1 : r.ev env.scope o fm σ = some (a, σ₁)) (h2 : methOf Z a x σ₁ = some t) (h3 : evs r env.scope es fm σ₁ = some (vs, σ₂)) (h4 : methDo r t vs σ₂ = some (v, σ')) {Q : Value → Shared → Prop}
    (q : Kv prog w β dice B σ' v ρ s Q) : wpAny (model prog w) A (eval (.Call (.Attribute o x apos) es [] pos) env) Q E s := by
  rw [arm_eval_Call, attributeBase_plain hp]
  have hpl := evs_noStar (env := env) pos h3
  refine wpAny_bind (H C h1 fun va h' tk ρ' ra I X => wpAny_bind (wpAny_standAt ?_))
  show wpAny (model prog w) A (methodCall o x apos pos env va (es.length + 0) (backTo pos (starEach es env)) []) Q E _
  rw [methCall_unfold, form_ok hpl (by omega)]
  refine wpAny_bind (wpAny_holding ?_)
  show wpAny (model prog w) A (getMethod va x _) _ E _
  refine methOf_ok (s := { s with heap := h', toks := tk }) (fun a o e => I.keep _ _ (T.G.X a o e)) hM I ra h2 fun f first tk' mr => ?_
  have hpos : methodCallPos true o env apos pos = pure pos := by
    unfold methodCallPos
    rw [hl]; simp
  show wpAny (model prog w) A (do let callPos ← methodCallPos true o env apos pos; callWith callPos f first (backTo pos (starEach es env)) []) Q E _
  rw [hpos]
  refine wpAny_bind (wpAny_pure ?_)
  have C' := C.step I X tk'
  cases t with
  | fn g avs =>
    obtain ⟨rfl, rf⟩ := mr
    refine callWith_ok T.G H C' (Hk (ρ := []) (f := .top g) rfl h4) h3 fun vals h'' tk'' ρ'' rvs I' X' => ?_
    have h4' : r.cl (.top g) (lapp avs vs) σ₂ = some (v, σ') := h4
    rw [lapp_eq] at h4'
    exact Hc (s := { s with heap := h'', toks := tk'' }) C.bud I' (f := .top g) rfl ((rf.ext X').append rvs) h4' (q.then (X.trans0 X') tk'')
  | me m i =>
    obtain ⟨rfl, y, ey, rfl⟩ := mr
    refine callWith_ok T.G H C' (keeps2_builtin _) h3 fun vals h'' tk'' ρ'' rvs I' X' => ?_
    unfold methDo at h4
    dsimp only at h4
    split at h4
    · rename_i ob g
      obtain ⟨more, rfl, _⟩ := X'.pre
      exact callMe_ok (s := { s with heap := h'', toks := tk'' }) T.G I' (get_app ey) g rvs h4 (q.then (X.trans0 X') tk'')
    · cases h4
theorem ev_Call (T : Tk prog w β Z B) (hM : ∀ C ms, nget Z.mth C = some ms → MthOk Z.K C ms) (H : EvOk prog w β dice B r n) (Hk : KpOk β Z r) (Hc : ClOk prog w β dice B r n) (C : Cx prog w β dice B n A env fm σ ρ s) {f : Expr} {es : List Expr} {ks : List Keyword} {pos : Pos} {v : AV}
    (e : stepEv Z r env.scope (.Call f es ks pos) fm σ = some (v, σ')) {Q : Value → Shared → Prop}
    (q : Kv prog w β dice B σ' v ρ s Q) : wpAny (model prog w) A (eval (.Call f es ks pos) env) Q E s := by
  cases ks with
  | cons => unfold stepEv at e; cases e
  | nil =>
    unfold stepEv at e
    dsimp only at e
    split at e
    · cases e
    · rename_i hlen
      have hn : es.length < 30 := by
        rw [llen_eq] at hlen
        exact Nat.le_of_ble_eq_true hlen
      split at e
      · rename_i o x apos
        split at e
        · rename_i hp hl
          split at e
          · rename_i a σ₁ h1
            split at e
            · rename_i t h2
              split at e
              · rename_i vs σ₂ h3
                exact ev_Call_meth T hM H Hk Hc C hp (Nat.eq_of_beq_eq_true hl) hn h1 h2 h3 e q
              · cases e
            · cases e
          · cases e
        · cases e
      · rename_i x p
        split at e
        · rename_i a σ₁ h1
          split at e
          · rename_i vs σ₂ h2
            exact ev_Call_Name T.G H Hk Hc C h1 h2 e q
          · cases e
        · cases e
      · cases e
end
end Mine
end

section
open PySem PySem.W PyProof.Rows PySem.Calls PySem.SeqAt
namespace Mine
section
variable {prog : Program} {w : World} {β : Nat → Nat} {dice : List Int} {B : Heap} {Z : Tabs} {n : Nat} {r : R} {env : Env} {fm fm' : Fm} {σ σ' σ₁ : S} {ρ ρ' ρ₁ : List Addr} {s : Shared} {h h₁ : Heap} {tk₁ : Nat} {A : Around} {E : Value → Shared → Prop}

structure Hx (prog : Program) (w : World) (β : Nat → Nat) (dice : List Int) (B : Heap) (n : Nat) (A : Around) (env : Env) (fm : Fm) (σ : S) (ρ : List Addr) (h : Heap) : Prop where
  bud : Bud A n
  fr : FrOk β B env fm ρ h
  inv : Inv prog w β dice B σ ρ h
theorem Hx.cx (C : Hx prog w β dice B n A env fm σ ρ h) (e : s.heap = h) : Cx prog w β dice B n A env fm σ ρ s := ⟨C.bud, e ▸ C.fr, e ▸ C.inv⟩
def PevOk (prog : Program) (w : World) (β : Nat → Nat) (A : Around) (env : Env) (ρ : List Addr) (h : Heap) (p : P) : Prop := ∀ {s : Shared} {e : Expr} {v : AV} {Q : Value → Shared → Prop} {E : Value → Shared → Prop}, s.heap = h → p.ev e = some v →
  (∀ val tk, VR β ρ v val → Q val { s with toks := tk }) → wpAny (model prog w) A (eval e env) Q E s
def PtsOk (prog : Program) (w : World) (A : Around) (env : Env) (h : Heap) (p : P) : Prop := ∀ {s : Shared} {e : Expr} {b : Bool} {Q : Bool → Shared → Prop} {E : Value → Shared → Prop}, s.heap = h → p.ts e = some b →
  (∀ tk, Q b { s with toks := tk }) → wpAny (model prog w) A (isTrue e env (eval e env)) Q E s
variable {p : P}
theorem ptests_cons (op : BoolOp) (e : Expr) (rest : List Expr) : ptests p op (e :: rest) = (match p.ts e with
    | some b => (match op, b with
      | .And, false => some false
      | .Or, true => some true
      | _, _ => ptests p op rest)
    | none => none) := rfl
theorem ptests_ok (H : PtsOk prog w A env h p) {op : BoolOp} : ∀ {es : List Expr} {s : Shared} {b : Bool} {Q : Bool → Shared → Prop}, s.heap = h → ptests p op es = some b → (∀ tk, Q b { s with toks := tk }) → wpAny (model prog w) A (allTrue op es env) Q E s
  | [], s, b, Q, C, e, q => by
    cases op
    · cases e; exact wpAny_allTrue_And_nil (q s.toks)
    · cases e; exact wpAny_allTrue_Or_nil (q s.toks)
  | x :: rest, s, b, Q, C, e, q => by
    rw [ptests_cons] at e
    split at e
    · rename_i b' h1
      show wpAny (model prog w) A (do match op, ← isTrue x env (eval x env) with | .And, false => pure false | .Or, true => pure true | _, _ => allTrue op rest env) Q E s
      refine wpAny_bind (H C h1 fun tk => ?_)
      split at e
      · cases e; exact wpAny_pure (q tk)
      · cases e; exact wpAny_pure (q tk)
      · rename_i hn1 hn2
        have go : wpAny (model prog w) A (allTrue op rest env) Q E { s with toks := tk } := ptests_ok H (s := { s with toks := tk }) C e q
        cases op <;> cases b' <;> first | exact go | exact (hn1 rfl rfl).elim | exact (hn2 rfl rfl).elim
    · cases e
theorem pchain_cons (s : S) (e : Expr) (rest : List Expr) (ops : List CmpOp) (a : AV) : pchain Z p s (e :: rest) ops a = (match ops with
    | [] => none
    | op :: ops => (match p.ev e with
      | some b => (match cmp Z op a b s with
        | some c => (match rest with
          | [] => (match ops with | [] => some c | _ :: _ => none)
          | _ :: _ => (match ops with
            | [] => none
            | _ :: _ => (match c with | true => pchain Z p s rest ops b | false => some false)))
        | none => none)
      | none => none)) := rfl
theorem pchain_ok (T : Tk prog w β Z B) (H : PevOk prog w β A env ρ h p) (C : Hx prog w β dice B n A env fm σ ρ h) (pos : Pos) : ∀ {es : List Expr} {ops : List CmpOp} {a : AV} {va : Value} {s : Shared} {b : Bool} {Q : Bool → Shared → Prop}, s.heap = h → VR β ρ a va →
    pchain Z p σ es ops a = some b → (∀ tk, Q b { s with toks := tk }) → wpAny (model prog w) A (testChain pos va ops (evalEach es env)) Q E s := by
  intro es
  induction es with
  | nil => intro ops a va s b Q hs ra e q; cases e
  | cons x rest ih =>
    intro ops a va s b Q hs ra e q
    rw [pchain_cons] at e
    split at e
    · cases e
    · rename_i op ops'
      split at e
      · rename_i b' h1
        split at e
        · rename_i c hc
          split at e
          · split at e
            · cases e
              refine test_last (H hs h1 fun vb tk rb => ?_)
              refine cmp_ok (s := { s with toks := tk }) T.G T.hZ (hs ▸ C.inv) C.bud.cmp ra rb hc fun tk' => ?_
              exact wpAny_truthy_bool (q tk')
            · cases e
          · rename_i y rest'
            split at e
            · cases e
            · rename_i op' ops''
              refine test_link (r' := eval y env) (rs := evalEach rest' env) (H hs h1 fun vb tk rb => ?_)
              refine cmp_ok (s := { s with toks := tk }) T.G T.hZ (hs ▸ C.inv) C.bud.cmp ra rb hc fun tk' => ?_
              refine wpAny_truthy_bool ?_
              cases c
              · cases e; exact q tk'
              · exact ih (s := { s with toks := tk' }) hs rb e q
        · cases e
      · cases e
theorem spliced_one {M : Model} {t : Sem Value} {Q : List Value → Shared → Prop} (h : wpAny M A t (fun v => Q [v]) E s) : wpAny M A (spliced [(false, t)]) Q E s := by
  show wpAny M A (do
    let v ← t
    let here ← (if false = true then (do
      if ← notIterableAtAll v then
        rule "star.not-iterable"; raiseError "TypeError" s!"Value after * must be an iterable, not {← typeNameOf v}"
      collect v) else pure [v])
    return here ++ (← holding here (pure []))) Q E s
  exact wpAny_bind (wpAny_mono h (fun v s' q => wpAny_bind (wpAny_pure (wpAny_bind (wpAny_holding (wpAny_pure (wpAny_pure q)))))) fun _ _ x => x)
theorem pstep_ok (T : Tk prog w β Z B) (C : Hx prog w β dice B n A env fm σ ρ h) (H : PevOk prog w β A env ρ h p) (Ht : PtsOk prog w A env h p) :
    PevOk prog w β A env ρ h (pstep Z env.scope fm σ p) ∧ PtsOk prog w A env h (pstep Z env.scope fm σ p) := by
  constructor
  · intro s e v Q E hs e1 q
    unfold pstep at e1
    dsimp only at e1
    split at e1
    · exact name_ok T.G (C.cx hs) e1 q
    · rename_i o x ap
      split at e1
      · rename_i hp
        split at e1
        · rename_i a h1
          refine Attribute_any_ (H hs h1 fun va tk ra => ?_) (by rw [arm_eval_Attribute, attributeBase_plain hp])
          have I : Inv prog w β dice B σ ρ s.heap := hs ▸ C.inv
          exact attr_now (s := { s with toks := tk }) (fun a o e => I.keep _ _ (T.G.X a o e)) T.hO I ra e1 q
        · cases e1
      · cases e1
    · rename_i x np o y ap pos
      split at e1
      · rename_i hn
        split at e1
        · rename_i i h1
          split at e1
          · rename_i l g
            cases e1
            have I : Inv prog w β dice B σ ρ s.heap := hs ▸ C.inv
            show wpAny (model prog w) A (do callWith pos (← eval (.Name x np) env) [] [(false, eval (.Attribute o y ap) env)] []) Q E s
            refine wpAny_bind (name_ok T.G (C.cx hs) hn fun fv tk rf => ?_)
            cases rf
            refine callWith_of (P := fun h => Z.K.In h) rfl (fun h X => keeps2_builtin _ _ h X) (evalArgs_plain (spliced_one (H (s := { s with toks := tk }) hs h1 fun va tk' ra => ⟨fun a o e => I.keep _ _ (T.G.X a o e), ?_⟩)))
            obtain ⟨y', ey, rfl, z, items, n, hl, hv⟩ := I.ref ra g
            have sz := hv.length
            refine PyProof.Rows.len_list (s := { s with toks := tk' }) hl.isList (by simp; omega) (q _ (tk' + 1 + 1) ⟨tk' + 1, ?_⟩)
            rw [llen_eq, show items.toArray.size = l.length from by simp [sz]]; rfl
          · cases e1
        · cases e1
      · cases e1
    · cases e1
  · intro s e b Q E hs e1 q
    unfold pstep at e1
    dsimp only at e1
    split at e1
    · rename_i l ops es cp
      split at e1
      · cases e1
      · rename_i hm
        split at e1
        · rename_i a h1
          rw [arm_isTrue_Compare, markedEach_of_false _ _ _ hm]
          exact wpAny_bind (H hs h1 fun va tk ra => pchain_ok T H C cp (s := { s with toks := tk }) hs ra e1 q)
        · cases e1
    · exact wpAny_isTrue_BoolOp (ptests_ok Ht hs e1 q)
    · cases e1
theorem ifs_false {M : Model} : ∀ {es : List Expr} {s : Shared} {Q : Bool → Shared → Prop}, Q false s →
    wpAny M A (forIn es false fun c r => if r = true then do let ok ← isTrue c env (eval c env); pure (ForInStep.yield ok) else pure (ForInStep.yield r)) Q E s
  | [], s, Q, q => wpAny_pure q
  | x :: rest, s, Q, q => by
    simp only [List.forIn_cons, Bool.false_eq_true, if_false]
    exact wpAny_bind (wpAny_pure (ifs_false q))
theorem prun_ok (T : Tk prog w β Z B) (C : Hx prog w β dice B n A env fm σ ρ h) : ∀ k, PevOk prog w β A env ρ h (prun Z env.scope fm σ k) ∧ PtsOk prog w A env h (prun Z env.scope fm σ k)
  | 0 => ⟨fun _ e => (nomatch e), fun _ e => (nomatch e)⟩
  | k + 1 => let ⟨a, b⟩ := prun_ok T C k; pstep_ok T C a b
theorem pifs_cons (e : Expr) (rest : List Expr) : pifs p (e :: rest) = (match p.ts e with
    | some true => pifs p rest
    | some false => some false
    | none => none) := rfl
/-- the conditions of a comprehension, read alone -/
theorem pifs_ok (H : PtsOk prog w A env h p) : ∀ {es : List Expr} {s : Shared} {b : Bool} {Q : Bool → Shared → Prop}, s.heap = h → pifs p es = some b → (∀ tk, Q b { s with toks := tk }) →
    wpAny (model prog w) A (forIn es true fun c r => if r = true then do let ok ← isTrue c env (eval c env); pure (ForInStep.yield ok) else pure (ForInStep.yield r)) Q E s
  | [], s, b, Q, hs, e, q => by cases e; exact wpAny_pure (q s.toks)
  | x :: rest, s, b, Q, hs, e, q => by
    rw [pifs_cons] at e
    simp only [List.forIn_cons, if_true]
    split at e
    · rename_i h1
      exact wpAny_bind (wpAny_bind (H hs h1 fun tk => wpAny_pure (pifs_ok H (s := { s with toks := tk }) hs e q)))
    · rename_i h1
      cases e
      exact wpAny_bind (wpAny_bind (H hs h1 fun tk => wpAny_pure (ifs_false (q tk))))
    · cases e
end
end Mine
end

section
open PySem PySem.W PyProof.Rows PySem.Calls PySem.SeqAt
namespace Mine
section
variable {prog : Program} {w : World} {β : Nat → Nat} {dice : List Int} {B : Heap} {Z : Tabs} {n : Nat} {r : R} {env : Env} {fm fm' : Fm} {σ σ' σ₁ : S} {ρ ρ' ρ₁ : List Addr} {s : Shared} {h h' h₁ : Heap} {tk₁ : Nat} {A : Around} {E : Value → Shared → Prop}
def ItR (h : Heap) (ρ : List Addr) (a b : Addr) : It → Prop
  | .list i k => ∃ l, ρ[i]? = some l ∧ h.IsListIter a l k
  | .range cur hi => hi ≤ 1000 ∧ ∃ left, IsRangeIter h a cur left 1 ∧ ((0 < left ∧ left = hi - cur) ∨ (left ≤ 0 ∧ hi ≤ cur))
  | .enum i k => ∃ l old, ρ[i]? = some l ∧ IsEnum h a b k old ∧ h.IsListIter b l k
/-- an iterator's place -/
structure ItAt (B : Heap) (own : Addr → Prop) (h : Heap) (ρ : List Addr) (a b : Addr) (it : It) : Prop where
  rel : ItR h ρ a b it
  na : a ∉ ρ
  nb : b ∉ ρ
  la : ∃ o, h.get? a = some o
  lb : ∃ o, h.get? b = some o
  Ba : B.get? a = none
  Bb : B.get? b = none
  oa : ¬ own a
  ob : ¬ own b
  ne : ∀ i k, it = .enum i k → a ≠ b
theorem ItR.at (R : ItR h ρ a b it) (more : ∃ m, ρ' = ρ ++ m) (ka : ∀ o, h.get? a = some o → h'.get? a = some o) (kb : ∀ o, h.get? b = some o → h'.get? b = some o) : ItR h' ρ' a b it := by
  obtain ⟨m, rfl⟩ := more
  cases it with
  | list i k => obtain ⟨l, e, o, ho, q⟩ := R; exact ⟨l, get_app e, o, ka _ ho, q⟩
  | range cur hi => obtain ⟨z, left, q, q2⟩ := R; exact ⟨z, left, ka _ q, q2⟩
  | enum i k => obtain ⟨l, old, e, q, o, ho, q2⟩ := R; exact ⟨l, old, get_app e, ka _ q, o, kb _ ho, q2⟩
theorem ItAt.ext {own : Addr → Prop} {T : Addr → Prop} {a b : Addr} {it : It} (R : ItAt B own h ρ a b it) (X : Ext T ρ h ρ' h') (hT : ∀ y, T y → own y) : ItAt B own h' ρ' a b it := by
  obtain ⟨oa, ha⟩ := R.la
  obtain ⟨ob, hb⟩ := R.lb
  have ka : ∀ o, h.get? a = some o → h'.get? a = some o := fun o e => X.keep a o e R.na fun t => R.oa (hT _ t)
  have kb : ∀ o, h.get? b = some o → h'.get? b = some o := fun o e => X.keep b o e R.nb fun t => R.ob (hT _ t)
  exact ⟨R.rel.at (let ⟨m, e, _⟩ := X.pre; ⟨m, e⟩) ka kb, X.notMem ha R.na, X.notMem hb R.nb, ⟨_, ka _ ha⟩, ⟨_, kb _ hb⟩, R.Ba, R.Bb, R.oa, R.ob, R.ne⟩
theorem ilt_true {a b : Int} (h : ilt a b = true) : a < b := by rw [ilt_eq, decide_eq_true_eq] at h; exact h
theorem ilt_false {a b : Int} (h : ilt a b = false) : b ≤ a := by rw [ilt_eq, decide_eq_false_iff_not] at h; omega

/-- an iterator is made -/
theorem itOf_ok {own : Addr → Prop} (I : Inv prog w β dice B σ ρ s.heap) (hown : ¬ own s.heap.objs.size) {v : AV} {va : Value} {it : It} (ra : VR β ρ v va) (e : itOf v σ = some it) {Q : Value → Shared → Prop}
    (q : ∀ h', ItAt B own h' ρ s.heap.objs.size s.heap.objs.size it → (∀ b o, s.heap.get? b = some o → h'.get? b = some o) → Q (.ref s.heap.objs.size) { s with heap := h' }) : wpAny (model prog w) A (pyIter va) Q E s := by
  have mk : ∀ ob : Obj, ob.isFreed = false → ItR (s.heap.push ob) ρ s.heap.objs.size s.heap.objs.size it → (∀ i k, it ≠ .enum i k) → Q (.ref s.heap.objs.size) { s with heap := s.heap.push ob } := fun ob hf R hne =>
    q _ ⟨R, I.fresh, I.fresh, ⟨_, Heap.get?_push_size _ hf⟩, ⟨_, Heap.get?_push_size _ hf⟩, I.freshB, I.freshB, hown, hown, fun i k z => (hne i k z).elim⟩ fun b o z => Heap.get?_push_of_some _ z
  unfold itOf at e
  split at e
  · rename_i i
    split at e
    · rename_i vs g
      cases e
      obtain ⟨y, ey, rfl, z, items, n, hl, hv⟩ := I.ref ra g
      exact wpAny_pyIter_list hl.isList (mk _ rfl ⟨y, ey, _, Heap.get?_push_size _ rfl, rfl, rfl⟩ fun _ _ z => nomatch z)
    · rename_i lo hi g
      cases e
      obtain ⟨y, ey, rfl, ⟨b1, b2, b3, b4⟩, t, u, v, hr⟩ := I.ref ra g
      refine wpAny_pyIter_range hr (small_one (by omega) (by omega) (by omega) (by omega)) (mk _ rfl ⟨b4, _, Heap.get?_push_size _ rfl, ?_⟩ fun _ _ z => nomatch z)
      unfold Builtin.Range.rangeSize
      by_cases h : lo < hi
      · left; simp only [h, if_true]; simp; omega
      · right; simp only [h, if_false]; simp; omega
    · cases e
  · cases e
/-- once more -/
theorem itAgain_ok {a b : Addr} {it : It} (R : ItR s.heap ρ a b it) {Q : Value → Shared → Prop} (q : Q (.ref a) s) : wpAny (model prog w) A (pyIter (.ref a)) Q E s := by
  cases it with
  | list i k => obtain ⟨l, e, hi⟩ := R; exact wpAny_pyIter_listiter hi q
  | range cur hi => obtain ⟨z, left, hi, _⟩ := R; exact wpAny_pyIter_rangeiter hi q
  | enum i k => obtain ⟨l, old, e, he, _⟩ := R; exact wpAny_pyIter_enum he q

/-- what a step of an iterator leaves -/
theorem ItAt.turn {own : Addr → Prop} {a b : Addr} {it it' : It} (R : ItAt B own h ρ a b it) (R' : ItR h' ρ a b it') (la : ∃ o, h'.get? a = some o) (lb : ∃ o, h'.get? b = some o) (hne : ∀ i k, it' = .enum i k → ∃ i k, it = .enum i k) : ItAt B own h' ρ a b it' :=
  ⟨R', R.na, R.nb, la, lb, R.Ba, R.Bb, R.oa, R.ob, fun i k z => let ⟨i, k, z⟩ := hne i k z; R.ne i k z⟩
def NxK (prog : Program) (w : World) (β : Nat → Nat) (B : Heap) (own : Addr → Prop) (ρ : List Addr) (s : Shared) (a b : Addr) (Q : Option Value → Shared → Prop) : Nx → Prop
  | .done => ∀ h', (∀ y o, y ≠ a → y ≠ b → s.heap.get? y = some o → h'.get? y = some o) → Q none { s with heap := h' }
  | .one v it => ∀ val h' tk, VR β ρ v val → ItAt B own h' ρ a b it → (∀ y o, y ≠ a → y ≠ b → s.heap.get? y = some o → h'.get? y = some o) → Q (some val) { s with heap := h', toks := tk }
  | .two v1 v2 it => ∀ x1 x2 t h' tk, VR β ρ v1 x1 → VR β ρ v2 x2 → h'.get? t = some { cls := .type "tuple", data := .seq #[x1, x2] } → s.heap.get? t = none → (∃ i k l, it = .enum i k ∧ ρ[i]? = some l ∧ IsEnumOut h' a b k x2 t ∧ h'.IsListIter b l k) →
      (∀ y o, y ≠ a → y ≠ b → s.heap.get? y = some o → h'.get? y = some o) → Q (some (.ref t)) { s with heap := h', toks := tk }
theorem next_ok {own : Addr → Prop} (I : Inv prog w β dice B σ ρ s.heap) (hh : A.handled = none) {a b : Addr} {it : It} {nx : Nx} (R : ItAt B own s.heap ρ a b it) (e : next it σ = some nx) {Q : Option Value → Shared → Prop}
    (q : NxK prog w β B own ρ s a b Q nx) : wpAny (model prog w) A (pyNext (.ref a)) Q E s := by
  have R0 := R
  cases it with
  | list i k =>
    obtain ⟨l, el, hi⟩ := R.rel
    unfold next at e
    dsimp only at e
    split at e
    · rename_i vs g
      obtain ⟨l', el', z, items, n, hl, hv⟩ := I.has i _ g
      rw [el] at el'; cases el'
      rw [lget_eq] at e
      have nla : l ≠ a := fun z => R.na (z ▸ List.mem_of_getElem? el)
      split at e
      · rename_i v hv'
        cases e
        obtain ⟨x, hx, rx⟩ := hv.get hv'
        refine wpAny_pyNext_list_item hi hl.isList (by simpa using hx) fun h' hi' hs => ?_
        refine q x h' s.toks rx (R0.turn ⟨l, el, hi'⟩ (let ⟨o, ho, _⟩ := hi'; ⟨o, ho⟩) ?_ fun _ _ z => nomatch z) fun y o ya _ z => (hs.2 y ya).trans z
        by_cases hb : b = a
        · obtain ⟨o, ho, _⟩ := hi'; exact ⟨o, hb ▸ ho⟩
        · obtain ⟨o, ho⟩ := R0.lb; exact ⟨o, (hs.2 b hb).trans ho⟩
      · rename_i hv'
        cases e
        have hlen := hv.length
        have hx : items.toArray[k]? = none := by
          have := List.getElem?_eq_none_iff.mp hv'
          simp; omega
        exact wpAny_pyNext_list_end hh hi hl.isList hx fun h' he => q h' fun y o ya _ z => he y o ya z
    · cases e
  | range cur hi =>
    obtain ⟨zz, left, hi', hl⟩ := R.rel
    unfold next at e
    dsimp only at e
    split at e
    · rename_i hlt
      cases e
      have := ilt_true hlt
      have hleft : 0 < left ∧ left = hi - cur := by rcases hl with hl | hl; exact hl; omega
      refine wpAny_pyNext_range_item hi' hleft.1 fun h' h2 hs => ?_
      refine q _ h' (s.toks + 1) ⟨_, rfl⟩ (R0.turn ⟨zz, left - 1, h2, ?_⟩ ⟨_, h2⟩ ?_ fun _ _ z => nomatch z) fun y o ya _ z => (hs.2 y ya).trans z
      · have e1 : Int.add cur 1 = cur + 1 := rfl
        rw [e1]
        by_cases hz : left = 1
        · right; omega
        · left; omega
      · by_cases hb : b = a
        · exact ⟨_, hb ▸ h2⟩
        · obtain ⟨o, ho⟩ := R0.lb; exact ⟨o, (hs.2 b hb).trans ho⟩
    · rename_i hlt
      cases e
      have := ilt_false hlt
      have hleft : left ≤ 0 := by rcases hl with hl | hl <;> omega
      exact wpAny_pyNext_range_end hh hi' hleft fun h' he => q h' fun y o ya _ z => he y o ya z
  | enum i k =>
    obtain ⟨l, old, el, he, hi⟩ := R.rel
    unfold next at e
    dsimp only at e
    split at e
    · rename_i vs g
      obtain ⟨l', el', z, items, n, hl, hv⟩ := I.has i _ g
      rw [el] at el'; cases el'
      rw [lget_eq] at e
      split at e
      · rename_i v hv'
        cases e
        obtain ⟨x, hx, rx⟩ := hv.get hv'
        refine wpAny_pyNext_enum_item he hi hl.isList (by simpa using hx) (R.ne _ _ rfl) fun h' h1 h2 h3 h4 h5 => ?_
        exact q _ _ _ h' _ ⟨_, rfl⟩ rx h3 (size_none _) ⟨i, k + 1, l, rfl, el, by exact_mod_cast h1, h2⟩ fun y o ya yb z => h5 y o ya yb z
      · rename_i hv'
        cases e
        have hlen := hv.length
        have hx : items.toArray[k]? = none := by
          have := List.getElem?_eq_none_iff.mp hv'
          simp; omega
        exact wpAny_pyNext_enum_end hh he hi hl.isList hx fun h' he => q h' fun y o _ yb z => he y o yb z
    · cases e
end
end Mine
end

section
open PySem PySem.W PyProof.Rows PySem.Calls PySem.SeqAt
namespace Mine
section
variable {prog : Program} {w : World} {β : Nat → Nat} {dice : List Int} {B : Heap} {Z : Tabs} {n : Nat} {r : R} {env : Env} {fm fm' : Fm} {σ σ' σ₁ : S} {ρ ρ' ρ₁ : List Addr} {s : Shared} {h h' h₁ : Heap} {tk₁ : Nat} {A : Around} {E : Value → Shared → Prop}
theorem FrOk.congr (F : FrOk β B env fm ρ h) (e : ∀ y, sget fm' y = sget fm y) : FrOk β B env fm' ρ h := by
  refine ⟨F.kind, F.gl, F.bu, F.names, ?_, fun x v a b => F.cell x v (by rw [← e]; exact a) b, F.cells, F.isCell, F.apart, F.loc, F.own⟩
  obtain ⟨m, hn, hm⟩ := F.ns
  exact ⟨m, hn, fun x v a b => hm x v (by rw [← e]; exact a) b⟩
/-- a local name is stored: nothing but the locals turns -/
theorem FrOk.storeL (F : FrOk β B env fm ρ s.heap) {M : Model} {Q : Unit → Shared → Prop} {x : Str} {a : AV} {v : Value} (r : VR β ρ a v) (hx : env.kindOf x = some .local)
    (q : ∀ h' tk, FrOk β B env (sset fm x a) ρ h' → (∀ b o, b ≠ env.locals → s.heap.get? b = some o → h'.get? b = some o) → Q () { s with heap := h', toks := tk }) : wpAny M A (storeName env x v) Q E s := by
  obtain ⟨m, hn, hm⟩ := F.ns
  refine wpAny_storeName_local hx hn (fun h' hn' hs => ?_) (by rw [F.kind]; rfl)
  have k : ∀ b o, b ≠ env.locals → s.heap.get? b = some o → h'.get? b = some o := fun b o n e => (hs.2 b n).trans e
  refine q h' _ ⟨F.kind, F.gl, F.bu, F.names, ⟨_, hn', fun y b e ky => ?_⟩, fun y b e ky => ?_, F.cells, fun y c mm => ?_, F.apart, F.loc, F.own⟩ k
  · rw [sget_sset] at e
    by_cases z : y = x
    · rw [if_pos z] at e ⊢; cases e; exact ⟨v, rfl, r⟩
    · rw [if_neg z] at e ⊢; exact hm y b e ky
  · have z : ¬ y = x := fun z => by rw [z, hx] at ky; rcases ky with ky | ky <;> cases ky
    rw [sget_sset, if_neg z] at e
    obtain ⟨c, val, z1, z2, z3⟩ := F.cell y b e ky
    exact ⟨c, val, z1, z2.sameBut hs (F.loc y c (mem_of_lookup z1)), z3⟩
  · obtain ⟨v', z⟩ := F.isCell y c mm; exact ⟨v', z.sameBut hs (F.loc y c mm)⟩
theorem sget_front (x : Str) (v : AV) (y : Str) : sget ((x, v) :: fm) y = if y = x then some v else sget fm y := by
  rw [sget_cons]
  by_cases h : x = y
  · simp [h]
  · have h' : ¬ y = x := fun z => h z.symm
    simp [h, h']

/-! the cells of a comprehension -/
def closL (env : Env) : List (Str × NameKind) → List (Str × Addr) → List (Str × Addr)
  | [], acc => acc
  | (x, k) :: l, acc => closL env l (if k = .free then (match env.cells.lookup x with | some c => (x, c) :: acc | none => acc) else acc)
theorem forIn_closL {f : Str × NameKind → List (Str × Addr) → Sem (ForInStep (List (Str × Addr)))} (hf : ∀ x k acc, f (x, k) acc = if k = .free then (do let c ← cellOf env x; pure (.yield ((x, c) :: acc))) else pure (.yield acc)) :
    ∀ (l : List (Str × NameKind)) (acc : List (Str × Addr)), (∀ p ∈ l, p.2 = .free → ∃ c, env.cells.lookup p.1 = some c) → forIn l acc f = pure (closL env l acc)
  | [], acc, _ => rfl
  | (x, k) :: l, acc, h => by
    rw [List.forIn_cons, hf]
    have ih := fun acc => forIn_closL hf l acc fun p m => h p (List.mem_cons_of_mem _ m)
    by_cases hk : k = .free
    · obtain ⟨c, hc⟩ := h (x, k) List.mem_cons_self hk
      have e1 : cellOf env x = pure c := by unfold cellOf; rw [hc]
      rw [if_pos hk, e1]
      show forIn l ((x, c) :: acc) f = _
      rw [ih]
      show _ = pure (closL env l _)
      rw [if_pos hk]
      have hc' : env.cells.lookup x = some c := hc
      rw [hc']
    · rw [if_neg hk]
      show forIn l acc f = _
      rw [ih]
      show _ = pure (closL env l _)
      rw [if_neg hk]
theorem closureFor_ok {scope : Scope} (h : ∀ p ∈ scope.names, p.2 = .free → ∃ c, env.cells.lookup p.1 = some c) : closureFor scope env = pure (closL env scope.names []) := by
  simp only [closureFor]
  rw [forIn_closL (env := env) (fun x k acc => by
    by_cases hk : k = .free
    · subst hk; rfl
    · have : (k == NameKind.free) = false := beq_eq_false_iff_ne.mpr hk
      simp only [this, hk, Bool.false_eq_true, if_false]) scope.names [] h]
  rfl
theorem closL_mem : ∀ {l : List (Str × NameKind)} {acc : List (Str × Addr)} {x : Str} {c : Addr}, (x, c) ∈ closL env l acc → (x, c) ∈ acc ∨ ((x, NameKind.free) ∈ l ∧ env.cells.lookup x = some c)
  | [], acc, x, c, h => .inl h
  | (y, k) :: l, acc, x, c, h => by
    have h' : (x, c) ∈ closL env l (if k = .free then (match env.cells.lookup y with | some c => (y, c) :: acc | none => acc) else acc) := h
    rcases closL_mem h' with h1 | ⟨h1, h2⟩
    · by_cases hk : k = .free
      · rw [if_pos hk] at h1
        cases e : env.cells.lookup y with
        | none => rw [e] at h1; exact .inl h1
        | some d =>
          rw [e] at h1
          rcases List.mem_cons.mp h1 with h1 | h1
          · cases h1; exact .inr ⟨hk ▸ List.mem_cons_self, e⟩
          · exact .inl h1
      · rw [if_neg hk] at h1; exact .inl h1
    · exact .inr ⟨List.mem_cons_of_mem _ h1, h2⟩
theorem closL_lookup {x : Str} {c : Addr} (hc : env.cells.lookup x = some c) : ∀ {l : List (Str × NameKind)} {acc : List (Str × Addr)}, ((x, NameKind.free) ∈ l ∨ acc.lookup x = some c) → (∀ c', acc.lookup x = some c' → c' = c) → (closL env l acc).lookup x = some c
  | [], acc, h, _ => h.elim (fun h => (nomatch h)) fun h => h
  | (y, k) :: l, acc, h, h' => by
    show (closL env l (if k = .free then (match env.cells.lookup y with | some c => (y, c) :: acc | none => acc) else acc)).lookup x = some c
    by_cases hk : k = .free
    · rw [if_pos hk]
      cases e : env.cells.lookup y with
      | none =>
        refine closL_lookup hc ?_ h'
        rcases h with h | h
        · rcases List.mem_cons.mp h with h | h
          · cases h; rw [e] at hc; cases hc
          · exact .inl h
        · exact .inr h
      | some d =>
        by_cases z : x = y
        · subst z
          rw [e] at hc; cases hc
          refine closL_lookup e (.inr ?_) fun c' q => ?_
          · simp
          · simp at q; exact q.symm
        · have hb : (x == y) = false := beq_eq_false_iff_ne.mpr z
          refine closL_lookup hc ?_ fun c' q => ?_
          · rcases h with h | h
            · rcases List.mem_cons.mp h with h | h
              · cases h; exact (z rfl).elim
              · exact .inl h
            · exact .inr (by simp only [List.lookup_cons, hb]; exact h)
          · simp only [List.lookup_cons, hb] at q; exact h' c' q
    · rw [if_neg hk]
      refine closL_lookup hc ?_ h'
      rcases h with h | h
      · rcases List.mem_cons.mp h with h | h
        · cases h; exact (hk rfl).elim
        · exact .inl h
      · exact .inr h
theorem fresh_cons (p : Str × NameKind) (l : List (Str × NameKind)) : fresh (p :: l) = (match sget l p.1 with | none => fresh l | some _ => false) := rfl
theorem fresh_nodup : ∀ {l : List (Str × NameKind)}, fresh l = true → l.Pairwise fun x y => x.1 ≠ y.1
  | [], _ => .nil
  | p :: l, h => by
    rw [fresh_cons] at h
    split at h
    · rename_i hn
      refine List.pairwise_cons.mpr ⟨fun q m z => ?_, fresh_nodup h⟩
      rw [sget_lookup] at hn
      exact absurd hn (by rw [z]; exact lookup_ne_none m)
    · cases h
where lookup_ne_none {q : Str × NameKind} : ∀ {l : List (Str × NameKind)}, q ∈ l → l.lookup q.1 ≠ none
  | p :: l, m, e => by
    rw [List.lookup_cons] at e
    rcases List.mem_cons.mp m with rfl | m
    · simp at e
    · cases hb : q.1 == p.1 with
      | true => rw [hb] at e; cases e
      | false => rw [hb] at e; exact lookup_ne_none m e
theorem lookup_nodup {l : List (Str × NameKind)} (h : l.Pairwise fun x y => x.1 ≠ y.1) {x : Str} {k : NameKind} (m : (x, k) ∈ l) : l.lookup x = some k := by
  induction l with
  | nil => cases m
  | cons p l ih =>
    obtain ⟨h1, h2⟩ := List.pairwise_cons.mp h
    rw [List.lookup_cons]
    rcases List.mem_cons.mp m with rfl | m
    · simp
    · have : (x == p.1) = false := beq_eq_false_iff_ne.mpr fun z => h1 _ m z.symm
      rw [this]; exact ih h2 m
theorem closL_apart : ∀ {l : List (Str × NameKind)} {acc : List (Str × Addr)}, l.Pairwise (fun x y => x.1 ≠ y.1) → acc.Pairwise (fun x y => x.1 ≠ y.1) → (∀ p ∈ l, ∀ q ∈ acc, p.1 ≠ q.1) → (closL env l acc).Pairwise fun x y => x.1 ≠ y.1
  | [], acc, _, h, _ => h
  | (y, k) :: l, acc, h0, h, hd => by
    show (closL env l (if k = .free then (match env.cells.lookup y with | some c => (y, c) :: acc | none => acc) else acc)).Pairwise _
    obtain ⟨h1, h2⟩ := List.pairwise_cons.mp h0
    have hd' : ∀ p ∈ l, ∀ q ∈ acc, p.1 ≠ q.1 := fun p m => hd p (List.mem_cons_of_mem _ m)
    by_cases hk : k = .free
    · rw [if_pos hk]
      cases e : env.cells.lookup y with
      | none => exact closL_apart h2 h hd'
      | some d =>
        refine closL_apart h2 (List.pairwise_cons.mpr ⟨fun q m => hd _ List.mem_cons_self q m, h⟩) fun p m q m' => ?_
        rcases List.mem_cons.mp m' with rfl | m'
        · exact fun z => h1 p m z.symm
        · exact hd' p m q m'
    · rw [if_neg hk]; exact closL_apart h2 h hd'

/-! the frame of a comprehension -/
theorem lall_mem {α : Type} {f : α → Bool} : ∀ {l : List α}, lall f l = true → ∀ a ∈ l, f a = true
  | [], _, _, m => (nomatch m)
  | b :: l, h, a, m => by
    have h' : (match (generalizing := false) f b with | true => lall f l | false => false) = true := h
    split at h'
    · rename_i hb
      rcases List.mem_cons.mp m with rfl | m
      · exact hb
      · exact lall_mem h' a m
    · cases h'
structure CompOk (sc cs : Scope) (x : Str) (fm : Fm) : Prop where
  kind : cs.kind = .function
  hx : cs.names.lookup x = some .local
  dot : sget fm ".0" = none
  xd : x ≠ ".0"
  nd : cs.names.Pairwise fun x y => x.1 ≠ y.1
  nm : ∀ p ∈ cs.names, p.1 ≠ "__debug__" ∧ p.1 ≠ "__classdict__" ∧ (p.2 = .local ∧ (p.1 = x ∨ p.1 = ".0") ∨ (p.2 = .free ∧ (sc.names.lookup p.1 = some .cell ∨ sc.names.lookup p.1 = some .free)) ∨ p.2 = .globalImplicit)
theorem compOk_spec {sc cs : Scope} {x : Str} (h : compOk sc cs x fm = true) : CompOk sc cs x fm := by
  unfold compOk at h
  split at h
  · rename_i h1 h2 h3 h4 h5 h6
    rw [sget_lookup] at h2
    refine ⟨h1, h2, h3, ?_, fresh_nodup h5, fun p m => ?_⟩
    · intro z; rw [seq_eq, decide_eq_false_iff_not] at h4; exact h4 z
    · have hp := lall_mem h6 p m
      unfold compName at hp
      rw [seq_eq, seq_eq] at hp
      split at hp
      · rename_i q1 q2 q3
        refine ⟨of_decide_eq_false q1, of_decide_eq_false q2, .inl ⟨q3, ?_⟩⟩
        split at hp
        · rename_i q; exact .inl (seq_iff.mp q)
        · exact .inr (seq_iff.mp hp)
      · rename_i q1 q2 q3
        refine ⟨of_decide_eq_false q1, of_decide_eq_false q2, .inr (.inl ⟨q3, ?_⟩)⟩
        rw [sget_lookup] at hp
        split at hp
        · rename_i q; exact .inl q
        · rename_i q; exact .inr q
        · cases hp
      · rename_i q1 q2 q3
        exact ⟨of_decide_eq_false q1, of_decide_eq_false q2, .inr (.inr q3)⟩
      · cases hp
  · cases h
theorem compScope_eq {cs : Scope} (hk : env.scope.kind = .function) : compScope env.scope cs = relabel cs env := by
  unfold compScope relabel
  congr 1
  refine List.map_congr_left fun p _ => ?_
  obtain ⟨x, k⟩ := p
  dsimp only
  rw [sget_kindOf]
  generalize env.kindOf x = o
  cases o with
  | none => rfl
  | some k' => cases k' <;> rfl
theorem relabel_kind {cs : Scope} {y : Str} {k' : NameKind} (h : (relabel cs env).names.lookup y = some k') : ∃ k, (y, k) ∈ cs.names ∧ (k' = k ∨ (k = .free ∧ k' = .cell)) := by
  have m := mem_of_lookup h
  obtain ⟨⟨x, k⟩, m', e⟩ := List.mem_map.mp m
  dsimp only at e
  split at e
  · rename_i hc
    cases e
    simp only [Bool.and_eq_true, beq_iff_eq] at hc
    exact ⟨k, m', .inr ⟨hc.1.1, rfl⟩⟩
  · cases e; exact ⟨_, m', .inl rfl⟩
def fmDel (fm : Fm) (x : Str) : Fm := fm.filter fun p => decide (p.1 ≠ x)
theorem sget_del (x y : Str) : ∀ fm : Fm, sget (fmDel fm x) y = if y = x then none else sget fm y
  | [] => by simp [fmDel, sget_nil]
  | (z, v) :: fm => by
    have ih := sget_del x y fm
    unfold fmDel at ih ⊢
    rw [List.filter_cons]
    by_cases h : z = x
    · subst h
      simp only [ne_eq, not_true_eq_false, decide_false, Bool.false_eq_true, if_false]
      rw [ih, sget_cons]
      by_cases q : y = z
      · simp [q]
      · have q' : ¬ z = y := fun e => q e.symm
        simp [q, q']
    · simp only [ne_eq, h, not_false_eq_true, decide_true, if_true]
      rw [sget_cons, sget_cons, ih]
      by_cases q : z = y
      · subst q; simp [h]
      · simp [q]
theorem comp_frame (F : FrOk β B env fm ρ h) {cs : Scope} {x : Str} (K : CompOk env.scope cs x fm) {C : Addr} (hC : h.get? C = none) (hCB : B.get? C = none) (hCρ : C ∉ ρ) (hn : h'.Ns C fun _ => none)
    (keep : ∀ b o, h.get? b = some o → h'.get? b = some o) : FrOk β B (compEnvC cs (closL env cs.names []) C env) (fmDel fm x) ρ h' := by
  have free : ∀ y, (y, NameKind.free) ∈ cs.names → env.kindOf y = some .cell ∨ env.kindOf y = some .free := fun y m => by
    obtain ⟨_, _, h3⟩ := K.nm _ m
    rcases h3 with ⟨h3, _⟩ | ⟨_, h3⟩ | h3
    · cases h3
    · exact h3
    · cases h3
  have kinds : ∀ y, (relabel cs env).names.lookup y = some .cell ∨ (relabel cs env).names.lookup y = some .free → (y, NameKind.free) ∈ cs.names := fun y hy => by
    have : ∃ k', (k' = .cell ∨ k' = .free) ∧ (relabel cs env).names.lookup y = some k' := by
      rcases hy with hy | hy
      · exact ⟨_, .inl rfl, hy⟩
      · exact ⟨_, .inr rfl, hy⟩
    obtain ⟨k', hk', hl⟩ := this
    obtain ⟨k, m, e⟩ := relabel_kind hl
    have : k = .free := by
      rcases e with e | ⟨e, _⟩
      · subst e
        obtain ⟨_, _, h3⟩ := K.nm _ m
        rcases h3 with ⟨h3, _⟩ | ⟨h3, _⟩ | h3
        · dsimp only at h3; subst h3; rcases hk' with hk' | hk' <;> cases hk'
        · exact h3
        · dsimp only at h3; subst h3; rcases hk' with hk' | hk' <;> cases hk'
      · exact e
    exact this ▸ m
  have cl : ∀ y c, (y, c) ∈ closL env cs.names [] → env.cells.lookup y = some c := fun y c m => by
    rcases closL_mem m with m | ⟨_, e⟩
    · cases m
    · exact e
  refine ⟨?_, F.gl, F.bu, ?_, ⟨_, hn, ?_⟩, ?_, ?_, ?_, ?_, ?_, ?_⟩
  · exact K.kind
  · intro p m
    obtain ⟨⟨y, k⟩, m', e⟩ := List.mem_map.mp m
    have : p.1 = y := by
      dsimp only at e
      split at e <;> (cases e; rfl)
    obtain ⟨a, b, _⟩ := K.nm _ m'
    rw [this]; exact ⟨a, b⟩
  · intro y v e ky
    exfalso
    obtain ⟨k, m, e'⟩ := relabel_kind ky
    have hk : k = .local := by
      rcases e' with e' | ⟨_, e'⟩
      · exact e'.symm
      · cases e'
    subst hk
    obtain ⟨_, _, h3⟩ := K.nm _ m
    rw [sget_del] at e
    rcases h3 with ⟨_, h3 | h3⟩ | ⟨h3, _⟩ | h3
    · dsimp only at h3; rw [if_pos h3] at e; cases e
    · dsimp only at h3
      by_cases q : y = x
      · rw [if_pos q] at e; cases e
      · rw [if_neg q, h3, K.dot] at e; cases e
    · cases h3
    · cases h3
  · intro y v e ky
    have m := kinds y ky
    rw [sget_del] at e
    by_cases q : y = x
    · rw [if_pos q] at e; cases e
    · rw [if_neg q] at e
      obtain ⟨c, val, z1, z2, z3⟩ := F.cell y v e (free y m)
      exact ⟨c, val, closL_lookup z1 (.inl m) (fun c' h => (nomatch h)), z2.keeps keep, z3⟩
  · intro y ky
    have m := kinds y ky
    obtain ⟨c, hc⟩ := F.cells y (free y m)
    exact ⟨c, closL_lookup hc (.inl m) (fun c' h => (nomatch h))⟩
  · intro y c m
    obtain ⟨v, hv⟩ := F.isCell y c (mem_of_lookup (cl y c m))
    exact ⟨v, hv.keeps keep⟩
  · refine (closL_apart (env := env) K.nd .nil (fun _ _ _ m => (nomatch m))).imp_of_mem fun {p q} hp hq hne z => ?_
    have h1 := mem_of_lookup (cl p.1 p.2 hp)
    have h2 := mem_of_lookup (cl q.1 q.2 hq)
    rw [← z] at h2
    exact hne (name_of_addr F.apart h1 h2)
  · intro y c m z
    obtain ⟨v, o, ho, _⟩ := F.isCell y c (mem_of_lookup (cl y c m))
    have z' : c = C := z
    rw [z', hC] at ho; cases ho
  · rintro a (rfl | ⟨y, m⟩)
    · exact ⟨hCB, hCρ⟩
    · exact F.own a (.inr ⟨y, mem_of_lookup (cl y a m)⟩)
end
end Mine
end

section
open PySem PySem.W PyProof.Rows PySem.Calls PySem.SeqAt
namespace Mine
section
variable {prog : Program} {w : World} {β : Nat → Nat} {dice : List Int} {B : Heap} {Z : Tabs} {n : Nat} {r : R} {env : Env} {fm fm' : Fm} {σ σ' σ₁ : S} {ρ ρ' ρ₁ : List Addr} {s : Shared} {h h' h₁ : Heap} {tk₁ : Nat} {A : Around} {E : Value → Shared → Prop}
/-- a comprehension's loop, once -/
theorem compLoop_once {elt target iter : Expr} {ifs : List Expr} {scope : Scope} {pos : Pos} {it acc : Value} {env : Env} {R : Result → Shared → Prop}
    (turn : wpAny (model prog w) A (pyNext it) (fun r s₁ => match r with
      | none => R (.ok .next) s₁
      | some v => wpAny (model prog w) A (assign target env v) (fun _ s₂ =>
          wpAny (model prog w) A (forIn ifs true fun c r => if r = true then do let ok ← isTrue c env (eval c env); pure (ForInStep.yield ok) else pure (ForInStep.yield r)) (fun ok s₃ =>
            if ok = true then wpAny (model prog w) A (eval elt env) (fun x s₄ =>
              wpAny (model prog w) A (call (.builtin "list.append") [acc, x]) (fun _ s₅ => codeAny (model prog w) A (.compLoop (.ListComp elt [⟨target, iter, ifs, 0⟩] scope pos) 0 it acc env) R s₅) (notedBy (model prog w) A env fun e s' => R (.error e) s') s₄) (notedBy (model prog w) A env fun e s' => R (.error e) s') s₃
            else codeAny (model prog w) A (.compLoop (.ListComp elt [⟨target, iter, ifs, 0⟩] scope pos) 0 it acc env) R s₃) (notedBy (model prog w) A env fun e s' => R (.error e) s') s₂) (notedBy (model prog w) A env fun e s' => R (.error e) s') s₁) (notedBy (model prog w) A env fun e s' => R (.error e) s') s)
    (ht : ∀ v, letOwnedTupleGo target it v = pure () := by intro _; rfl) :
    codeAny (model prog w) A (.compLoop (.ListComp elt [⟨target, iter, ifs, 0⟩] scope pos) 0 it acc env) R s := by
  refine codeAny_of_tree ?_
  show wpAny _ A ((compTurn (.ListComp elt [⟨target, iter, ifs, 0⟩] scope pos) 0 it acc env).onRaise (fun x => do noteFrame x env; theTreesLotGoes x)) _ _ s
  refine wpAny_noted ?_
  rw [compTurn_list]
  refine wpAny_bind (wpAny_standAt (wpAny_bind (wpAny_mono turn (fun r s₁ h₁ => ?_) fun _ _ h' => h')))
  cases r with
  | none => exact wpAny_pure h₁
  | some v =>
    refine wpAny_bind (wpAny_of_eq (ht v) ?_)
    refine wpAny_bind (wpAny_mono h₁ (fun _ s₂ h₂ => wpAny_bind (wpAny_mono h₂ (fun ok s₃ h₃ => ?_) fun _ _ h' => h')) fun _ _ h' => h')
    cases ok with
    | false => exact wpAny_pure ⟨rfl, h₃⟩
    | true =>
      exact wpAny_bind (wpAny_bind (wpAny_mono h₃ (fun x s₄ h₄ => wpAny_bind (wpAny_mono h₄ (fun _ s₅ h₅ => wpAny_pure (wpAny_pure ⟨rfl, h₅⟩)) fun _ _ h' => h')) fun _ _ h' => h'))

theorem ifsAll_cons (sc : Scope) (e : Expr) (rest : List Expr) (fm : Fm) (s : S) : ifsAll r sc (e :: rest) fm s = (match r.ts sc e fm s with
    | some (true, s) => ifsAll r sc rest fm s
    | some (false, s) => some (false, s)
    | none => none) := rfl
theorem ifsAll_ok (H : TsOk prog w β dice B r n) : ∀ {es : List Expr} {σ : S} {ρ : List Addr} {s : Shared} {b : Bool} {Q : Bool → Shared → Prop}, Cx prog w β dice B n A env fm σ ρ s → ifsAll r env.scope es fm σ = some (b, σ') → Kb prog w β dice B σ' b ρ s Q →
    wpAny (model prog w) A (forIn es true fun c r => if r = true then do let ok ← isTrue c env (eval c env); pure (ForInStep.yield ok) else pure (ForInStep.yield r)) Q E s
  | [], σ, ρ, s, b, Q, C, e, q => by cases e; exact wpAny_pure (q s.heap s.toks ρ C.inv C.inv.refl)
  | x :: rest, σ, ρ, s, b, Q, C, e, q => by
    rw [ifsAll_cons] at e
    simp only [List.forIn_cons, if_true]
    split at e
    · rename_i σ₁ h1
      exact wpAny_bind (wpAny_bind (H C h1 fun h' tk ρ' I X => wpAny_pure (ifsAll_ok H (C.step I X tk) e (q.then X tk))))
    · rename_i σ₁ h1
      cases e
      exact wpAny_bind (wpAny_bind (H C h1 fun h' tk ρ' I X => wpAny_pure (ifs_false (q h' tk ρ' I X))))
    · cases e
theorem Ext.of_keep {T : Addr → Prop} (I : Inv prog w β dice B σ ρ h) (k : ∀ y o, ¬ T y → h.get? y = some o → h'.get? y = some o) (hT : ∀ y, T y → y ∉ ρ) : Ext T ρ h ρ h' :=
  ⟨⟨[], (List.append_nil ρ).symm, fun _ m => (nomatch m)⟩, fun b o e _ t => k b o t e, fun a m => let ⟨o, e⟩ := I.live a m; ⟨o, k a o (fun t => hT a t m) e⟩⟩
theorem Inv.of_keep {T : Addr → Prop} (I : Inv prog w β dice B σ ρ h) (k : ∀ y o, ¬ T y → h.get? y = some o → h'.get? y = some o) (hT : ∀ y, T y → y ∉ ρ) (hB : ∀ y, T y → B.get? y = none) : Inv prog w β dice B σ ρ h' :=
  I.keeps (fun a m o e => k a o (fun t => hT a t m) e) fun b o e => k b o (fun t => by rw [hB b t] at e; cases e) (I.keep b o e)
theorem FrOk.of_keep {T : Addr → Prop} (F : FrOk β B env fm ρ h) (k : ∀ y o, ¬ T y → h.get? y = some o → h'.get? y = some o) (hT : ∀ y, T y → ¬ Own env y) : FrOk β B env fm ρ h' :=
  F.at ⟨[], (List.append_nil ρ).symm⟩ (fun a o ob e => k a ob (fun t => hT a t o) e) fun a o => (F.own a o).2

def CoOk (prog : Program) (w : World) (β : Nat → Nat) (dice : List Int) (B : Heap) (r : R) (n : Nat) : Prop := ∀ {A : Around} {cenv : Env} {fm fmc : Fm} {σ σ' : S} {ρ : List Addr} {s : Shared} {elt iter : Expr} {x : Str} {px : Pos} {ifs : List Expr} {scope : Scope} {pos : Pos}
    {it : It} {a b D : Addr} {acc : Nat} {R : Result → Shared → Prop}, Bud A n → FrOk β B cenv fmc ρ s.heap → (∀ y, y ≠ x → sget fmc y = sget fm y) → cenv.kindOf x = some .local → Inv prog w β dice B σ ρ s.heap → ItAt B (Own cenv) s.heap ρ a b it →
    ρ[acc]? = some D → r.co cenv.scope elt x ifs it acc fm σ = some σ' →
    (∀ h' tk ρ' fm', FrOk β B cenv fm' ρ' h' → Inv prog w β dice B σ' ρ' h' → Ext (fun y => y = cenv.locals ∨ y = a ∨ y = b) ρ s.heap ρ' h' → R (.ok .next) { s with heap := h', toks := tk }) →
    codeAny (model prog w) A (.compLoop (.ListComp elt [⟨.Name x px, iter, ifs, 0⟩] scope pos) 0 (.ref a) (.ref D) cenv) R s
theorem co_step (G : Gd prog w β Z B) (H : EvOk prog w β dice B r n) (Ht : TsOk prog w β dice B r n) (Hc : CoOk prog w β dice B r n) {r' : R} (hr : r'.co = stepCo r) : CoOk prog w β dice B r' (n + 1) := by
  intro A cenv fm fmc σ σ' ρ s elt iter x px ifs scope pos it a b D acc R bud F hfm hx I J hD e q
  rw [hr] at e
  unfold stepCo at e
  have bud' : Bud A n := bud.less (Nat.le_succ n)
  have na : a ≠ cenv.locals := fun z => J.oa (.inl z)
  have nb : b ≠ cenv.locals := fun z => J.ob (.inl z)
  have hTρ : ∀ y, (y = a ∨ y = b) → y ∉ ρ := fun y t => by rcases t with rfl | rfl; exact J.na; exact J.nb
  have hTB : ∀ y, (y = a ∨ y = b) → B.get? y = none := fun y t => by rcases t with rfl | rfl; exact J.Ba; exact J.Bb
  have hTo : ∀ y, (y = a ∨ y = b) → ¬ Own cenv y := fun y t => by rcases t with rfl | rfl; exact J.oa; exact J.ob
  split at e
  · rename_i hn
    cases e
    refine compLoop_once (next_ok I bud.hd J hn fun h' k => ?_)
    have k' : ∀ y o, ¬ (y = a ∨ y = b) → s.heap.get? y = some o → h'.get? y = some o := fun y o t z => k y o (fun z => t (.inl z)) (fun z => t (.inr z)) z
    refine q h' s.toks ρ fmc (F.of_keep k' hTo) (I.of_keep k' hTρ hTB) ((Ext.of_keep I k' hTρ).weaken fun y t => .inr t)
  · rename_i v it' hn
    refine compLoop_once (next_ok I bud.hd J hn fun val h1 tk1 rv J1 k => ?_)
    have k' : ∀ y o, ¬ (y = a ∨ y = b) → s.heap.get? y = some o → h1.get? y = some o := fun y o t z => k y o (fun z => t (.inl z)) (fun z => t (.inr z)) z
    have F1 := F.of_keep k' hTo
    have I1 := I.of_keep k' hTρ hTB
    have X1 : Ext (fun y => y = cenv.locals ∨ y = a ∨ y = b) ρ s.heap ρ h1 := (Ext.of_keep I k' hTρ).weaken fun y t => .inr t
    refine wpAny_assign_Name (FrOk.storeL (s := { s with heap := h1, toks := tk1 }) F1 rv hx fun h2 tk2 F2 k2 => ?_)
    have hLρ : ∀ y, y = cenv.locals → y ∉ ρ := fun y t => by subst t; exact (F1.own _ (.inl rfl)).2
    have hLB : ∀ y, y = cenv.locals → B.get? y = none := fun y t => by subst t; exact (F1.own _ (.inl rfl)).1
    have k2' : ∀ y o, ¬ y = cenv.locals → h1.get? y = some o → h2.get? y = some o := fun y o t z => k2 y o t z
    have I2 := I1.of_keep k2' hLρ hLB
    have X2' : Ext (fun y => y = cenv.locals) ρ h1 ρ h2 := Ext.of_keep I1 k2' hLρ
    have J2 := J1.ext X2' fun y t => .inl t
    have live2 : ∀ y, (y = cenv.locals ∨ y = a ∨ y = b) → ∃ ob, h1.get? y = some ob := fun y t => by
      rcases t with rfl | rfl | rfl
      · exact F1.live (.inl rfl)
      · exact J1.la
      · exact J1.lb
    have X2 : Ext (fun y => y = cenv.locals ∨ y = a ∨ y = b) ρ s.heap ρ h2 := X1.trans (X2'.weaken fun y t => .inl t) live2
    have F3 : FrOk β B cenv ((x, v) :: fm) ρ h2 := F2.congr fun y => by
      rw [sget_front, sget_sset]
      by_cases z : y = x
      · rw [if_pos z, if_pos z]
      · rw [if_neg z, if_neg z, hfm y z]
    have live3 : ∀ {h3 : Heap} {ρ3 : List Addr}, Ext noT ρ h2 ρ3 h3 → ItAt B (Own cenv) h3 ρ3 a b it' → FrOk β B cenv ((x, v) :: fm) ρ3 h3 → ∀ y, (y = cenv.locals ∨ y = a ∨ y = b) → ∃ ob, h3.get? y = some ob := fun _ JJ FF y t => by
      rcases t with rfl | rfl | rfl
      · exact FF.live (.inl rfl)
      · exact JJ.la
      · exact JJ.lb
    have live2' : ∀ y, (y = cenv.locals ∨ y = a ∨ y = b) → ∃ ob, h2.get? y = some ob := fun y t => by
      rcases t with rfl | rfl | rfl
      · exact F3.live (.inl rfl)
      · exact J2.la
      · exact J2.lb
    have C2 : Cx prog w β dice B n A cenv ((x, v) :: fm) σ ρ { s with heap := h2, toks := tk2 } := ⟨bud', F3, I2⟩
    split at e
    · rename_i σ3 h3
      refine ifsAll_ok Ht C2 h3 fun H3 tk3 ρ3 I3 X3 => ?_
      rw [if_pos rfl]
      have C3 := C2.step I3 X3 tk3
      have J3 := J2.ext X3 fun _ t => t.elim
      split at e
      · rename_i wv σ4 h4
        refine H C3 h4 fun wval H4 tk4 ρ4 rw4 I4 X4 => ?_
        have J4 := J3.ext X4 fun _ t => t.elim
        have C4 := C3.step I4 X4 tk4
        have hD4 : ρ4[acc]? = some D := by
          obtain ⟨m, rfl, _⟩ := (X3.trans0 X4).pre
          exact get_app hD
        split at e
        · rename_i l g
          split at e
          · rename_i hsm
            have hm : callMe .append acc (.list l) [wv] σ4 = some (.none, σ4.put acc (.list (lapp l [wv]))) := by
              unfold callMe; dsimp only; rw [hsm]
            refine callMe_ok (m := .append) (s := { s with heap := H4, toks := tk4 }) G I4 hD4 g (.cons rw4 .nil) hm fun _ H5 tk5 ρ5 _ I5 X5 => ?_
            have J5 := J4.ext X5 fun _ t => t.elim
            have F5 := C4.fr.ext X5
            have hD5 : ρ5[acc]? = some D := by
              obtain ⟨m, rfl, _⟩ := X5.pre
              exact get_app hD4
            have X25 := (X3.trans0 X4).trans0 X5
            refine Hc (s := { s with heap := H5, toks := tk5 }) bud' F5 (fun y z => by rw [sget_front, if_neg z]) hx I5 J5 hD5 e fun h' tk ρ' fm' F' I' X' => ?_
            exact q h' tk ρ' fm' F' I' ((X2.trans (X25.weaken fun _ t => t.elim) live2').trans X' (live3 X25 J5 F5))
          · cases e
        · cases e
      · cases e
    · rename_i σ3 h3
      refine ifsAll_ok Ht C2 h3 fun H3 tk3 ρ3 I3 X3 => ?_
      rw [if_neg (by decide)]
      have J3 := J2.ext X3 fun _ t => t.elim
      have F5 := C2.fr.ext X3
      have hD5 : ρ3[acc]? = some D := by
        obtain ⟨m, rfl, _⟩ := X3.pre
        exact get_app hD
      refine Hc (s := { s with heap := H3, toks := tk3 }) bud' F5 (fun y z => by rw [sget_front, if_neg z]) hx I3 J3 hD5 e fun h' tk ρ' fm' F' I' X' => ?_
      exact q h' tk ρ' fm' F' I' ((X2.trans (X3.weaken fun _ t => t.elim) live2').trans X' (live3 X3 J3 F5))
    · cases e
  · cases e
end
end Mine
end

section
open PySem PySem.W PyProof.Rows PySem.Calls PySem.SeqAt
namespace Mine
section
variable {prog : Program} {w : World} {β : Nat → Nat} {dice : List Int} {B : Heap} {Z : Tabs} {n : Nat} {r : R} {env : Env} {fm fm' : Fm} {σ σ' σ₁ : S} {ρ ρ' ρ₁ : List Addr} {s : Shared} {h h' h₁ : Heap} {tk₁ : Nat} {A : Around} {E : Value → Shared → Prop}
theorem FrOk.notOwn (F : FrOk β B env fm ρ h) : ¬ Own env h.objs.size := fun o => by
  obtain ⟨ob, e⟩ := F.live o
  exact Nat.lt_irrefl _ (Heap.lt_size e)
/-- what lies around a comprehension's loop -/
theorem comp_tail (F : FrOk β B env fm ρ s.heap) (I : Inv prog w β dice B σ ρ s.heap) {elt iter : Expr} {x : Str} {px : Pos} {ifs : List Expr} {cs : Scope} {pos : Pos} (K : CompOk env.scope cs x fm) {it : Addr} {use : Option (Value → Sem Unit)} {Q : Value → Shared → Prop}
    (again : ∀ {h' : Heap} {tk : Nat} {Q : Value → Shared → Prop} {E : Value → Shared → Prop}, (∀ b o, s.heap.get? b = some o → h'.get? b = some o) → Q (.ref it) { s with heap := h', toks := tk } → wpAny (model prog w) A (pyIter (.ref it)) Q E { s with heap := h', toks := tk })
    (loop : ∀ D C h' tk, D = s.heap.objs.size → C = s.heap.objs.size + 1 → (∀ b o, s.heap.get? b = some o → h'.get? b = some o) → IsL h' D #[] 0 → FrOk β B (compEnvC cs (closL env cs.names []) C env) (fmDel fm x) ρ h' → h'.Ns C (fun _ => none) →
      codeAny (model prog w) A (.compLoop (.ListComp elt [⟨.Name x px, iter, ifs, 0⟩] cs pos) 0 (.ref it) (.ref D) (compEnvC cs (closL env cs.names []) C env)) (compPost (model prog w) A E use Q (.ref D) C) { s with heap := h', toks := tk }) :
    wpAny (model prog w) A (newList []) (fun acc s₃ => wpAny (model prog w) A (newFunctionEnv cs env.globals (closL env cs.names []) [] env.qual none .none (some env)) (fun cenv s₄ =>
      codeAny (model prog w) A (.compStart (.ListComp elt [⟨.Name x px, iter, ifs, 0⟩] cs pos) 0 (.ref it) acc { cenv with scope := relabel cs env }) (compPost (model prog w) A E use Q acc cenv.locals) s₄) E s₃) E s := by
  have hcell : ∀ y ∈ cs.names, y.2 ≠ .cell := fun y m z => by
    obtain ⟨_, _, h3⟩ := K.nm y m
    rcases h3 with ⟨h3, _⟩ | ⟨h3, _⟩ | h3 <;> (rw [z] at h3; cases h3)
  refine wpAny_newObj_type (wpAny_newFunctionEnv hcell (by intro y hy; simp at hy) (fun h₁ hns₁ hsb₁ => ?_) K.kind)
  dsimp only at hns₁ hsb₁ ⊢
  generalize hH2 : s.heap.push { cls := .type "list", dict := none, data := .seq ([] : List Value).toArray } = H2 at hns₁ hsb₁ ⊢
  have hC : H2.objs.size = s.heap.objs.size + 1 := by rw [← hH2, Heap.size_push]
  have old : ∀ b o, s.heap.get? b = some o → h₁.get? b = some o := fun b o e =>
    hsb₁.extBut b o (by rw [hC]; exact Nat.ne_of_lt (Nat.lt_succ_of_lt (Heap.lt_size e))) (Heap.get?_push_of_some _ (hH2 ▸ Heap.get?_push_of_some _ e))
  have hDC : s.heap.objs.size ≠ H2.objs.size := by rw [hC]; exact Nat.ne_of_lt (Nat.lt_succ_self _)
  have hacc : IsL h₁ s.heap.objs.size #[] 0 := hsb₁.extBut _ _ hDC (Heap.get?_push_of_some _ (hH2 ▸ Heap.get?_push_size _ rfl))
  have hCn : s.heap.get? H2.objs.size = none := by
    cases e : s.heap.get? H2.objs.size with
    | none => rfl
    | some o => have := Heap.lt_size e; rw [hC] at this; exact absurd (Nat.lt_of_succ_lt this) (Nat.lt_irrefl _)
  have hCρ : H2.objs.size ∉ ρ := fun m => by have := I.lt m; rw [hC] at this; exact Nat.lt_irrefl _ (Nat.lt_of_succ_lt this)
  have hCB : B.get? H2.objs.size = none := by
    cases e : B.get? H2.objs.size with
    | none => rfl
    | some o => have := I.keep _ _ e; rw [hCn] at this; cases this
  have hns₂ : h₁.Ns H2.objs.size fun _ => none := by simpa using hns₁
  have F' := comp_frame F K hCn hCB hCρ hns₂ old
  have go := fun tk => loop s.heap.objs.size H2.objs.size h₁ tk rfl hC old hacc F' hns₂
  exact codeAny_compStart_list (go _) (again old (go _))
theorem closure_of (F : FrOk β B env fm ρ h) {cs : Scope} {x : Str} (K : CompOk env.scope cs x fm) : closureFor cs env = pure (closL env cs.names []) :=
  closureFor_ok fun p m hk => by
    obtain ⟨_, _, h3⟩ := K.nm p m
    rcases h3 with ⟨h3, _⟩ | ⟨_, h3⟩ | h3
    · rw [hk] at h3; cases h3
    · exact F.cells p.1 h3
    · rw [hk] at h3; cases h3

/-- what goes on behind a comprehension's loop -/
def Kp (prog : Program) (w : World) (β : Nat → Nat) (dice : List Int) (B : Heap) (A : Around) (E : Value → Shared → Prop) (env : Env) (fm : Fm) (σ' : S) (v : AV) (ρ : List Addr) (s : Shared) (use : Option (Value → Sem Unit)) (Q : Value → Shared → Prop) : Prop :=
  ∀ val C h' tk ρ', VR β ρ' v val → Inv prog w β dice B σ' ρ' h' → Ext noT ρ s.heap ρ' h' → FrOk β B env fm ρ' h' → (∃ m, h'.Ns C m) → s.heap.get? C = none → C ∉ ρ' → B.get? C = none → ¬ Own env C → compPost (model prog w) A E use Q val C (.ok .next) { s with heap := h', toks := tk }
theorem Kp.none {v : AV} {Q : Value → Shared → Prop} (q : Kv prog w β dice B σ' v ρ s Q) : Kp prog w β dice B A E env fm σ' v ρ s none Q := by
  intro val C h' tk ρ' rv I X F hm hs hC hB ho
  obtain ⟨m, hm⟩ := hm
  refine ⟨m, hm, fun h'' hs' => ?_⟩
  have k : ∀ y o, ¬ y = C → h'.get? y = some o → h''.get? y = some o := fun y o t z => (hs'.2 y t).trans z
  have hTρ : ∀ y, y = C → y ∉ ρ' := fun y t => t ▸ hC
  have X' : Ext (fun y => y = C) ρ' h' ρ' h'' := Ext.of_keep I k hTρ
  refine q val h'' tk ρ' rv (I.of_keep k hTρ fun y t => t ▸ hB) ⟨X.pre, fun b o e nb _ => k b o (fun z => ?_) (X.keep b o e nb fun t => t), fun a m => X'.live a (X.mem m)⟩
  rw [z, hs] at e; cases e

/-! comprehensions over what is no dict -/
theorem comp_list (H : EvOk prog w β dice B r n) (Ho : CoOk prog w β dice B r n) (C : Cx prog w β dice B n A env fm σ ρ s) {elt iter : Expr} {x : Str} {px : Pos} {ifs : List Expr} {cs : Scope} {pos : Pos} {v : AV} {it : It} {acc : Nat} {σ₁ σ₂ : S}
    (hok : compOk env.scope cs x fm = true) (h1 : r.ev env.scope iter fm σ = some (v, σ₁)) (h2 : itOf v σ₁ = some it) (h3 : σ₁.new (.list []) = some (.ref acc, σ₂)) (h4 : r.co (compScope env.scope cs) elt x ifs it acc fm σ₂ = some σ')
    {use : Option (Value → Sem Unit)} {Q : Value → Shared → Prop} (q : Kp prog w β dice B A E env fm σ' (.ref acc) ρ s use Q) (hs : ∀ x, foldedSetIterable iter env x = pure x) :
    wpAny (model prog w) A (comprehension (.ListComp elt [⟨.Name x px, iter, ifs, 0⟩] cs pos) cs env iter.pos (newList []) false (eval iter env) use) Q E s := by
  have K := compOk_spec hok
  have hnames : ∀ y ∈ cs.names, y.2 = .local → cs.names.lookup y.1 = some .local := fun y m e => by
    have := lookup_nodup K.nd (x := y.1) (k := y.2) m
    rw [this, e]
  refine wpAny_comprehension_free rfl hs (closure_of C.fr K) K.kind hnames (H C h1 fun va H1 tk1 ρ1 rv I1 X1 => ?_)
  have C1 := C.step I1 X1 tk1
  refine itOf_ok (s := { s with heap := H1, toks := tk1 }) I1 (own := Own env) C1.fr.notOwn rv h2 fun H2 J2 k2 => ?_
  have kk : ∀ y o, ¬ False → H1.get? y = some o → H2.get? y = some o := fun y o _ e => k2 y o e
  have F2 : FrOk β B env fm ρ1 H2 := C1.fr.of_keep (T := noT) (fun y o _ e => k2 y o e) fun _ t => t.elim
  have I2 : Inv prog w β dice B σ₁ ρ1 H2 := I1.of_keep (T := noT) (fun y o _ e => k2 y o e) (fun _ t => t.elim) fun _ t => t.elim
  have X2 : Ext noT ρ1 H1 ρ1 H2 := Ext.of_keep I1 (fun y o _ e => k2 y o e) fun _ t => t.elim
  refine comp_tail (s := { s with heap := H2, toks := tk1 }) F2 I2 K (fun {h' tk Q E} kp q' => itAgain_ok (s := { s with heap := h', toks := tk }) (ρ := ρ1) (J2.rel.at ⟨[], (List.append_nil _).symm⟩ (fun o e => kp _ o e) fun o e => kp _ o e) q') fun D Cl H3 tk3 hD hCl k3 hL F3 hNs => ?_
  subst hD
  obtain ⟨I4, r4, X4⟩ := I2.allocAt h3 k3 (size_none _) ⟨_, hL⟩ ⟨Nat.zero_le _, [], 0, hL, .nil⟩
  obtain ⟨D', hD', e'⟩ := r4
  cases e'
  have F4 : FrOk β B (compEnvC cs (closL env cs.names []) Cl env) (fmDel fm x) (ρ1 ++ [H2.objs.size]) H3 := by
    refine F3.at ⟨_, rfl⟩ (fun _ _ _ e => e) fun a o m => ?_
    rcases List.mem_append.mp m with m | m
    · exact (F3.own a o).2 m
    · have hm := List.mem_singleton.mp m
      rcases o with o | ⟨y, o⟩
      · have : a = Cl := o
        rw [hm, hCl] at this
        exact absurd this (by show H2.objs.size ≠ H2.objs.size + 1; omega)
      · rcases closL_mem o with o | ⟨_, o⟩
        · cases o
        · obtain ⟨v', ob, ho, _⟩ := F2.isCell y a (mem_of_lookup o)
          have := Heap.lt_size ho
          rw [hm] at this; exact Nat.lt_irrefl _ this
  have hoC : ∀ y, Own (compEnvC cs (closL env cs.names []) Cl env) y → y = Cl ∨ Own env y := fun y o => by
    rcases o with o | ⟨z, o⟩
    · exact .inl o
    · rcases closL_mem o with o | ⟨_, o⟩
      · cases o
      · exact .inr (.inr ⟨z, mem_of_lookup o⟩)
  have hitC : H1.objs.size ≠ Cl := by
    obtain ⟨o, ho⟩ := J2.la
    have := Heap.lt_size ho
    rw [hCl]; exact Nat.ne_of_lt (Nat.lt_succ_of_lt this)
  have J4 : ItAt B (Own (compEnvC cs (closL env cs.names []) Cl env)) H3 (ρ1 ++ [H2.objs.size]) H1.objs.size H1.objs.size it := by
    have J3 := J2.ext X4 fun _ t => t.elim
    have no : ¬ Own (compEnvC cs (closL env cs.names []) Cl env) H1.objs.size := fun o => by
      rcases hoC _ o with z | z
      · exact hitC z
      · exact J3.oa z
    exact ⟨J3.rel, J3.na, J3.nb, J3.la, J3.lb, J3.Ba, J3.Bb, no, no, J3.ne⟩
  have hsc : (compEnvC cs (closL env cs.names []) Cl env).scope = compScope env.scope cs := (compScope_eq C.fr.kind).symm
  refine Ho (fm := fm) (s := { s with heap := H3, toks := tk3 }) C.bud F4 (fun y z => by rw [sget_del, if_neg z]) (lookup_relabel_local K.hx) I4 J4 hD' (by rw [hsc]; exact h4) fun H5 tk5 ρ5 fm5 F5 I5 X5 => ?_
  have hCs : s.heap.get? Cl = none := by
    cases e : s.heap.get? Cl with
    | none => rfl
    | some o =>
      by_cases m : Cl ∈ ρ
      · have := I2.lt ((X1.trans0 X2).mem m)
        rw [hCl] at this
        exact absurd this (by show ¬ H2.objs.size + 1 < H2.objs.size; omega)
      · have := Heap.lt_size ((X1.trans0 X2).keep _ _ e m fun t => t)
        rw [hCl] at this
        exact absurd this (by show ¬ H2.objs.size + 1 < H2.objs.size; omega)
  have X14 := (X1.trans0 X2).trans0 X4
  have hits : s.heap.get? H1.objs.size = none := by
    cases e : s.heap.get? H1.objs.size with
    | none => rfl
    | some o =>
      by_cases m : H1.objs.size ∈ ρ
      · exact absurd (I1.lt (X1.mem m)) (Nat.lt_irrefl _)
      · exact absurd (Heap.lt_size (X1.keep _ _ e m fun t => t)) (Nat.lt_irrefl _)
  have Xall : Ext noT ρ s.heap ρ5 H5 := by
    have := (X14.weaken (T' := fun y => y = Cl ∨ y = H1.objs.size ∨ y = H1.objs.size) fun _ t => t.elim).trans X5 fun y t => by
      rcases t with rfl | rfl | rfl
      · exact F4.live (.inl rfl)
      · exact J4.la
      · exact J4.lb
    refine ⟨this.pre, fun b o e nb _ => this.keep b o e nb fun t => ?_, this.live⟩
    rcases t with rfl | rfl | rfl
    · rw [hCs] at e; cases e
    · rw [hits] at e; cases e
    · rw [hits] at e; cases e
  have hD5 : ρ5[acc]? = some H2.objs.size := by
    obtain ⟨m, rfl, _⟩ := X5.pre
    exact get_app hD'
  have ho5 := F5.own Cl (.inl rfl)
  refine q (.ref H2.objs.size) Cl H5 tk5 ρ5 ⟨_, hD5, rfl⟩ I5 Xall (C.fr.ext Xall) (let ⟨m, hn, _⟩ := F5.ns; ⟨m, hn⟩) hCs ho5.2 ho5.1 fun o => ?_
  obtain ⟨ob, e⟩ := C.fr.live o
  rw [hCs] at e; cases e
end
end Mine
end

section
open PySem PySem.W PyProof.Rows PySem.Calls PySem.SeqAt
namespace Mine
section
variable {prog : Program} {w : World} {β : Nat → Nat} {dice : List Int} {B : Heap} {Z : Tabs} {n : Nat} {r : R} {env : Env} {fm fm' : Fm} {σ σ' σ₁ : S} {ρ ρ' ρ₁ : List Addr} {s : Shared} {h h' h₁ : Heap} {tk₁ : Nat} {A : Around} {E : Value → Shared → Prop}
theorem dcomp_cons (sc : Scope) (elt : Expr) (x : Str) (ifs : List Expr) (fm : Fm) (s : S) (q : Int × AV) (es : List (Int × AV)) : dcomp Z sc elt x ifs fm s (q :: es) = (match pifs (prun Z sc ((x, .int q.1) :: fm) s 9) ifs with
    | some true => (match (prun Z sc ((x, .int q.1) :: fm) s 9).ev elt, dcomp Z sc elt x ifs fm s es with | some w, some l => some (w :: l) | _, _ => none)
    | some false => dcomp Z sc elt x ifs fm s es
    | none => none) := rfl
/-- a comprehension's loop over a dict's keys -/
theorem dloop (T : Tk prog w β Z B) {cenv : Env} {elt iter : Expr} {x : Str} {px : Pos} {ifs : List Expr} {scope : Scope} {pos : Pos} {a d D ep : Nat} {kvs : List (Int × Value)} {R : Result → Shared → Prop} (bud : Bud A n) (hx : cenv.kindOf x = some .local)
    (hdρ : d ∈ ρ) (haρ : a ∉ ρ) (hDρ : D ∉ ρ) (haD : a ≠ D) (hao : ¬ Own cenv a) (hDo : ¬ Own cenv D) (haB : B.get? a = none) (hDB : B.get? D = none) {es : List (Int × AV)} (hes : DRs β ρ es kvs) :
    ∀ (rest : List (Int × AV)) (i : Nat) (s : Shared) (fmc : Fm) (done : List AV) (items : List Value) (k : Nat) (l : List AV), es.drop i = rest → dcomp Z cenv.scope elt x ifs fm σ rest = some l → s.heap.DictAt (intKind prog w) d kvs ep → s.heap.IsKeyIter a d i kvs.length ep →
      IsL s.heap D items.toArray k → VRs β ρ done items → FrOk β B cenv fmc ρ s.heap → (∀ y, y ≠ x → sget fmc y = sget fm y) → Inv prog w β dice B σ ρ s.heap → done.length + rest.length ≤ 5000 →
      (∀ h' tk items' k' fm', IsL h' D items'.toArray k' → VRs β ρ (done ++ l) items' → FrOk β B cenv fm' ρ h' → Inv prog w β dice B σ ρ h' → (∀ y o, ¬ (y = cenv.locals ∨ y = a ∨ y = D) → s.heap.get? y = some o → h'.get? y = some o) → R (.ok .next) { s with heap := h', toks := tk }) →
      codeAny (model prog w) A (.compLoop (.ListComp elt [⟨.Name x px, iter, ifs, 0⟩] scope pos) 0 (.ref a) (.ref D) cenv) R s := by
  have hda : d ≠ a := fun z => haρ (z ▸ hdρ)
  have hdD : d ≠ D := fun z => hDρ (z ▸ hdρ)
  have haC : a ≠ cenv.locals := fun z => hao (.inl z)
  have hDC : D ≠ cenv.locals := fun z => hDo (.inl z)
  intro rest
  induction rest with
  | nil =>
    intro i s fmc done items k l hr e hd hit hL hv F hfm I hsz q
    cases e
    have hlen := hes.length
    have hi : kvs[i]? = none := by
      have := List.drop_eq_nil_iff.mp hr
      rw [List.getElem?_eq_none_iff]; omega
    refine compLoop_once (wpAny_pyNext_dict_end bud.hd hit hd hi fun h' he => ?_)
    have kk : ∀ y o, ¬ y = a → s.heap.get? y = some o → h'.get? y = some o := fun y o t z => he y o t z
    exact q h' s.toks items k fmc (kk D _ (Ne.symm haD) hL) (by simpa using hv) (F.of_keep kk fun y t o => hao (t ▸ o)) (I.of_keep kk (fun y t m => haρ (t ▸ m)) fun y t => t ▸ haB) fun y o t z => kk y o (fun z => t (.inr (.inl z))) z
  | cons p rest ih =>
    intro i s fmc done items k l hr e hd hit hL hv F hfm I hsz q
    have hei : es[i]? = some (p.1, p.2) := by
      have : (es.drop i)[0]? = some p := by rw [hr]; rfl
      rw [List.getElem?_drop] at this
      exact this
    have hr' : es.drop (i + 1) = rest := by
      have : (es.drop i).drop 1 = rest := by rw [hr]; rfl
      rw [List.drop_drop] at this
      exact this
    obtain ⟨v, hkv, _⟩ := hes.get hei
    refine compLoop_once (wpAny_pyNext_dict_item hit hd hkv fun key h1 hkey hit1 hs1 => ?_)
    obtain ⟨t, rfl⟩ := Value.isInt_shape hkey
    have k1 : ∀ y o, ¬ y = a → s.heap.get? y = some o → h1.get? y = some o := fun y o t z => (hs1.2 y t).trans z
    have F1 := F.of_keep k1 fun y t o => hao (t ▸ o)
    have I1 := I.of_keep k1 (fun y t m => haρ (t ▸ m)) fun y t => t ▸ haB
    refine wpAny_assign_Name (FrOk.storeL (s := { s with heap := h1 }) F1 (a := .int p.1) ⟨t, rfl⟩ hx fun h2 tk2 F2 k2 => ?_)
    have hLρ : ∀ y, y = cenv.locals → y ∉ ρ := fun y t => by subst t; exact (F1.own _ (.inl rfl)).2
    have hLB : ∀ y, y = cenv.locals → B.get? y = none := fun y t => by subst t; exact (F1.own _ (.inl rfl)).1
    have k2' : ∀ y o, ¬ y = cenv.locals → h1.get? y = some o → h2.get? y = some o := fun y o t z => k2 y o t z
    have I2 := I1.of_keep k2' hLρ hLB
    have F3 : FrOk β B cenv ((x, .int p.1) :: fm) ρ h2 := F2.congr fun y => by
      rw [sget_front, sget_sset]
      by_cases z : y = x
      · rw [if_pos z, if_pos z]
      · rw [if_neg z, if_neg z, hfm y z]
    have kd2 : ∀ o, s.heap.get? d = some o → h2.get? d = some o := fun o z => k2' d o (fun z => hLρ d z hdρ) (k1 d o hda z)
    have hd2 : h2.DictAt (intKind prog w) d kvs ep := hd.at' kd2
    have hit2 : h2.IsKeyIter a d (i + 1) kvs.length ep := let ⟨o, ho, q⟩ := hit1; ⟨o, k2' a o haC ho, q⟩
    have hL2 : IsL h2 D items.toArray k := k2' D _ hDC (k1 D _ (Ne.symm haD) hL)
    have Hp := prun_ok T (⟨bud, F3, I2⟩ : Hx prog w β dice B n A cenv ((x, .int p.1) :: fm) σ ρ h2) 9
    rw [dcomp_cons] at e
    have hsz' : done.length + (rest.length + 1) ≤ 5000 := hsz
    split at e
    · rename_i hp
      split at e
      · rename_i wv l' he hl'
        cases e
        refine pifs_ok (s := { s with heap := h2, toks := tk2 }) Hp.2 rfl hp fun tk3 => ?_
        rw [if_pos rfl]
        refine Hp.1 (s := { s with heap := h2, toks := tk3 }) rfl he fun wval tk4 rw4 => ?_
        have hlv := hv.length
        have hu := hL2.update (fun xs => xs.push wval)
        refine call_meets PySem.F.slot_list_append ⟨_, hL2, rfl⟩ PySem.F.entry_list_append (PySem.F.args_list_append_2 _ _) (PySem.list_append D items.toArray k wval (by simp; rw [sizeLine_eq]; omega)) ⟨hL2, ?_⟩
        have k5 : ∀ y o, ¬ y = D → h2.get? y = some o → (h2.update D (Obj.mapSeq fun xs => xs.push wval)).get? y = some o := fun y o t z => (Heap.SameBut.update ..).extBut y o t z
        refine ih (i + 1) _ ((x, .int p.1) :: fm) (done ++ [wv]) (items ++ [wval]) _ l' hr' hl' (hd2.at' fun o z => k5 d o hdD z) (let ⟨o, ho, q⟩ := hit2; ⟨o, k5 a o haD ho, q⟩) (by simpa using hu) (hv.append (.cons rw4 .nil)) (F3.of_keep k5 fun y t o => hDo (t ▸ o)) (fun y z => by rw [sget_front, if_neg z])
          (I2.of_keep k5 (fun y t m => hDρ (t ▸ m)) fun y t => t ▸ hDB) (by simp; omega) fun h' tk items' k' fm' a1 a2 a3 a4 a5 => ?_
        exact q h' tk items' k' fm' a1 (by simpa using a2) a3 a4 fun y o t z => a5 y o t (k5 y o (fun z => t (.inr (.inr z))) (k2' y o (fun z => t (.inl z)) (k1 y o (fun z => t (.inr (.inl z))) z)))
      · cases e
    · rename_i hp
      refine pifs_ok (s := { s with heap := h2, toks := tk2 }) Hp.2 rfl hp fun tk3 => ?_
      rw [if_neg (by decide)]
      refine ih (i + 1) _ ((x, .int p.1) :: fm) done items _ l hr' e hd2 hit2 hL2 hv F3 (fun y z => by rw [sget_front, if_neg z]) I2 (by omega) fun h' tk items' k' fm' a1 a2 a3 a4 a5 => ?_
      exact q h' tk items' k' fm' a1 a2 a3 a4 fun y o t z => a5 y o t (k2' y o (fun z => t (.inl z)) (k1 y o (fun z => t (.inr (.inl z))) z))
    · cases e
end
end Mine
end

section
open PySem PySem.W PyProof.Rows PySem.Calls PySem.SeqAt
namespace Mine
section
variable {prog : Program} {w : World} {β : Nat → Nat} {dice : List Int} {B : Heap} {Z : Tabs} {n : Nat} {r : R} {env : Env} {fm fm' : Fm} {σ σ' σ₁ : S} {ρ ρ' ρ₁ : List Addr} {s : Shared} {h h' h₁ : Heap} {tk₁ : Nat} {A : Around} {E : Value → Shared → Prop}
theorem size_ge_none {h : Heap} {a : Addr} (e : h.objs.size ≤ a) : h.get? a = none := by
  cases q : h.get? a with
  | none => rfl
  | some o => exact absurd (Heap.lt_size q) (Nat.not_lt.mpr e)
theorem Ext.none_of {T : Addr → Prop} (X : Ext T ρ h ρ' h') (hT : ∀ y, ¬ T y) {a : Addr} (n : a ∉ ρ') (e : h'.get? a = none) : h.get? a = none := by
  cases q : h.get? a with
  | none => rfl
  | some o =>
    by_cases m : a ∈ ρ
    · exact absurd (X.mem m) n
    · rw [X.keep a o q m (hT a)] at e; cases e
theorem comp_dict (T : Tk prog w β Z B) (H : EvOk prog w β dice B r n) (C : Cx prog w β dice B n A env fm σ ρ s) {elt iter : Expr} {x : Str} {px : Pos} {ifs : List Expr} {cs : Scope} {pos : Pos} {v u : AV} {es : List (Int × AV)} {l : List AV} {σ₁ : S}
    (hok : compOk env.scope cs x fm = true) (h1 : r.ev env.scope iter fm σ = some (v, σ₁)) (h2 : dictAt v σ₁ = some es) (h3 : dcomp Z (compScope env.scope cs) elt x ifs fm σ₁ es = some l) (h4 : σ₁.newL l = some (u, σ'))
    {use : Option (Value → Sem Unit)} {Q : Value → Shared → Prop} (q : Kp prog w β dice B A E env fm σ' u ρ s use Q) (hs : ∀ x, foldedSetIterable iter env x = pure x) :
    wpAny (model prog w) A (comprehension (.ListComp elt [⟨.Name x px, iter, ifs, 0⟩] cs pos) cs env iter.pos (newList []) false (eval iter env) use) Q E s := by
  have K := compOk_spec hok
  have hnames : ∀ y ∈ cs.names, y.2 = .local → cs.names.lookup y.1 = some .local := fun y m e => by
    have := lookup_nodup K.nd (x := y.1) (k := y.2) m
    rw [this, e]
  unfold dictAt at h2
  split at h2
  · rename_i i
    split at h2
    · rename_i es' g
      cases h2
      refine wpAny_comprehension_free rfl hs (closure_of C.fr K) K.kind hnames (H C h1 fun va H1 tk1 ρ1 rv I1 X1 => ?_)
      have C1 := C.step I1 X1 tk1
      obtain ⟨d, ed, rfl, z, kvs, hd0, hv0⟩ := I1.ref rv g
      have hdρ := List.mem_of_getElem? ed
      obtain ⟨ep, hd⟩ := hd0.dictAt
      refine wpAny_pyIter_dict (s := { s with heap := H1, toks := tk1 }) (notMods (s := { s with heap := H1, toks := tk1 }) T.G I1 hdρ) hd ?_
      show wpAny _ _ _ _ _ { s with heap := H1.push _, toks := tk1 }
      generalize hH2 : H1.push { cls := .type "dict_keyiterator", data := .fields #[.ref d, .int 0 0, .int kvs.length 0, .int ep 0] } = H2
      have hsz2 : H2.objs.size = H1.objs.size + 1 := by rw [← hH2, Heap.size_push]
      have k2 : ∀ b o, H1.get? b = some o → H2.get? b = some o := fun b o e => hH2 ▸ Heap.get?_push_of_some _ e
      have hit2 : H2.IsKeyIter H1.objs.size d 0 kvs.length ep := ⟨_, hH2 ▸ Heap.get?_push_size _ rfl, rfl, rfl⟩
      have F2 : FrOk β B env fm ρ1 H2 := C1.fr.of_keep (T := noT) (fun y o _ e => k2 y o e) fun _ t => t.elim
      have I2 : Inv prog w β dice B σ₁ ρ1 H2 := I1.of_keep (T := noT) (fun y o _ e => k2 y o e) (fun _ t => t.elim) fun _ t => t.elim
      refine comp_tail (s := { s with heap := H2, toks := tk1 }) F2 I2 K (fun {h' tk Q E} kp q' => wpAny_pyIter_keyiter (s := { s with heap := h', toks := tk }) (let ⟨o, ho, q⟩ := hit2; ⟨o, kp _ o ho, q⟩) q') fun D Cl H3 tk3 hD hCl k3 hL F3 hNs => ?_
      have hD' : D = H1.objs.size + 1 := hD.trans hsz2
      have hCl' : Cl = H1.objs.size + 2 := by rw [hCl]; show H2.objs.size + 1 = _; rw [hsz2]
      have lt1 : ∀ a ∈ ρ1, a < H1.objs.size := fun a m => I1.lt m
      have haρ : H1.objs.size ∉ ρ1 := I1.fresh
      have hDρ : D ∉ ρ1 := fun m => by have := lt1 D m; rw [hD'] at this; exact Nat.lt_irrefl _ (Nat.lt_of_succ_lt this)
      have hCρ : Cl ∉ ρ1 := fun m => by have := lt1 Cl m; rw [hCl'] at this; exact Nat.lt_irrefl _ (Nat.lt_of_succ_lt (Nat.lt_of_succ_lt this))
      have hDn : H1.get? D = none := size_ge_none (by rw [hD']; exact Nat.le_succ _)
      have hCn : H1.get? Cl = none := size_ge_none (by rw [hCl']; exact Nat.le_add_right _ _)
      have han : H1.get? H1.objs.size = none := size_none _
      have hB : ∀ a, H1.get? a = none → B.get? a = none := fun a e => by
        cases q : B.get? a with
        | none => rfl
        | some o => rw [I1.keep _ _ q] at e; cases e
      have hoC : ∀ y, Own (compEnvC cs (closL env cs.names []) Cl env) y → y = Cl ∨ (∃ o, H1.get? y = some o) := fun y o => by
        rcases o with o | ⟨z, o⟩
        · exact .inl o
        · rcases closL_mem o with o | ⟨_, o⟩
          · cases o
          · obtain ⟨v', ob, ho, _⟩ := C1.fr.isCell z y (mem_of_lookup o)
            exact .inr ⟨ob, ho⟩
      have hao : ¬ Own (compEnvC cs (closL env cs.names []) Cl env) H1.objs.size := fun o => by
        rcases hoC _ o with z | ⟨ob, z⟩
        · rw [hCl'] at z; exact absurd z (Nat.ne_of_lt (Nat.lt_add_of_pos_right (by decide)))
        · rw [han] at z; cases z
      have hDo : ¬ Own (compEnvC cs (closL env cs.names []) Cl env) D := fun o => by
        rcases hoC _ o with z | ⟨ob, z⟩
        · rw [hCl', hD'] at z; exact absurd z (Nat.ne_of_lt (Nat.lt_succ_self _))
        · rw [hDn] at z; cases z
      have I3 : Inv prog w β dice B σ₁ ρ1 H3 := I2.of_keep (T := noT) (fun y o _ e => k3 y o e) (fun _ t => t.elim) fun _ t => t.elim
      have hlen := hv0.length
      have hsc : (compEnvC cs (closL env cs.names []) Cl env).scope = compScope env.scope cs := (compScope_eq C.fr.kind).symm
      refine dloop (cenv := compEnvC cs (closL env cs.names []) Cl env) (Z := Z) (σ := σ₁) (n := n) (ep := ep) T C.bud (lookup_relabel_local K.hx) hdρ haρ hDρ (by rw [hD']; exact Nat.ne_of_lt (Nat.lt_succ_self _)) hao hDo (hB _ han) (hB _ hDn) hv0 es 0 { s with heap := H3, toks := tk3 } (fmDel fm x) [] [] 0 l rfl (by rw [hsc]; exact h3)
        (hd.at' fun o e => k3 _ o (k2 _ o e)) (let ⟨o, ho, q⟩ := hit2; ⟨o, k3 _ o ho, q⟩) hL .nil F3 (fun y z => by rw [sget_del, if_neg z]) I3 (by simp; omega) fun H5 tk5 items k5 fm5 a1 a2 a3 a4 a5 => ?_
      obtain ⟨hl1, hnew⟩ := newL_new h4
      have kk : ∀ b o, H1.get? b = some o → H5.get? b = some o := fun b o e => a5 b o (fun t => by
        rcases t with t | t | t
        · have t' : b = Cl := t
          rw [t', hCn] at e; cases e
        · rw [t, han] at e; cases e
        · rw [t, hDn] at e; cases e) (k3 b o (k2 b o e))
      obtain ⟨I6, r6, X6⟩ := I1.allocAt hnew kk hDn ⟨_, a1⟩ ⟨by omega, items, _, a1, (by simpa using a2 : VRs β ρ1 l items).more _⟩
      have Xall := X1.trans0 X6
      have hCρ' : Cl ∉ ρ1 ++ [D] := fun m => by
        rcases List.mem_append.mp m with m | m
        · exact hCρ m
        · have := List.mem_singleton.mp m
          rw [hCl', hD'] at this
          exact absurd this (Ne.symm (Nat.ne_of_lt (Nat.lt_succ_self _)))
      have hCs : s.heap.get? Cl = none := X1.none_of (fun _ t => t) hCρ hCn
      refine q (.ref D) Cl H5 tk5 (ρ1 ++ [D]) r6 I6 Xall (C.fr.ext Xall) (let ⟨m, hn, _⟩ := a3.ns; ⟨m, hn⟩) hCs hCρ' (hB _ hCn) fun o => ?_
      obtain ⟨ob, e⟩ := C.fr.live o
      rw [hCs] at e; cases e
    · cases h2
  · cases h2
/-- a comprehension, with what is done with its list -/
theorem notSet_ok {e : Expr} (h : notSet e = true) (x : Value) : foldedSetIterable e env x = pure x := by
  cases e <;> first | rfl | cases h
theorem comp_any (T : Tk prog w β Z B) (H : EvOk prog w β dice B r n) (Ho : CoOk prog w β dice B r n) (C : Cx prog w β dice B n A env fm σ ρ s) {elt : Expr} {gens : List Comprehension} {cs : Scope} {pos : Pos} {v : AV}
    (e : stepLC Z r env.scope elt gens cs fm σ = some (v, σ')) {use : Option (Value → Sem Unit)} {Q : Value → Shared → Prop} (q : Kp prog w β dice B A E env fm σ' v ρ s use Q) :
    wpAny (model prog w) A (comprehension (.ListComp elt gens cs pos) cs env (firstIterPos gens pos) (newList []) (firstAsync gens) (firstIter gens env) use) Q E s := by
  unfold stepLC at e
  split at e
  · rename_i x px iter ifs
    split at e
    · rename_i hok hns
      split at e
      · rename_i v' σ₁ h1
        split at e
        · rename_i es h2
          split at e
          · rename_i l h3
            exact comp_dict T H C hok h1 h2 h3 e q (notSet_ok hns)
          · cases e
        · split at e
          · rename_i it h2
            split at e
            · rename_i acc σ₂ h3
              split at e
              · rename_i σ₃ h4
                cases e
                exact comp_list H Ho C hok h1 h2 h3 h4 q (notSet_ok hns)
              · cases e
            · cases e
          · cases e
      · cases e
    · cases e
  · cases e
theorem ev_ListComp (T : Tk prog w β Z B) (H : EvOk prog w β dice B r n) (Ho : CoOk prog w β dice B r n) (C : Cx prog w β dice B n A env fm σ ρ s) {elt : Expr} {gens : List Comprehension} {cs : Scope} {pos : Pos} {v : AV}
    (e : stepEv Z r env.scope (.ListComp elt gens cs pos) fm σ = some (v, σ')) {Q : Value → Shared → Prop} (q : Kv prog w β dice B σ' v ρ s Q) :
    wpAny (model prog w) A (eval (.ListComp elt gens cs pos) env) Q E s := by
  rw [eval_ListComp]
  exact comp_any T H Ho C e (Kp.none q)
/-- the cases of an expression -/
theorem ev_step (T : Tk prog w β Z B) (hM : ∀ C ms, nget Z.mth C = some ms → MthOk Z.K C ms) (H : EvOk prog w β dice B r n) (Ht : TsOk prog w β dice B r n) (Hk : KpOk β Z r) (Hc : ClOk prog w β dice B r n) (Ho : CoOk prog w β dice B r n)
    (C : Cx prog w β dice B n A env fm σ ρ s) {e : Expr} {v : AV} (h : stepEv Z r env.scope e fm σ = some (v, σ')) {Q : Value → Shared → Prop} (q : Kv prog w β dice B σ' v ρ s Q) : wpAny (model prog w) A (eval e env) Q E s := by
  cases e with
  | Constant c k p =>
    unfold stepEv at h
    dsimp only at h
    split at h
    · rename_i v' h1
      cases h
      exact ev_Constant C h1 q
    · cases h
  | Name x p => exact ev_Name T.G C h q
  | BinOp l op x p => exact ev_BinOp H C h q
  | UnaryOp op x p => exact ev_UnaryOp H C h q
  | BoolOp op es p => exact ev_BoolOp H C h q
  | Compare l ops es p => exact ev_Compare T H C h q
  | IfExp t a b p => exact ev_IfExp H Ht C h q
  | Attribute o x p => exact ev_Attribute T H C h q
  | Subscript o i p => exact ev_Subscript T H C h q
  | Tuple es k p => exact ev_Tuple H C h q
  | List es p => exact ev_List H C h q
  | Dict ks vs p => exact ev_Dict C h q
  | ListComp elt gens cs p => exact ev_ListComp T H Ho C h q
  | Call f es ks p => exact ev_Call T hM H Hk Hc C h q
  | _ => cases h
end
end Mine
end

section
open PySem PySem.W PyProof.Rows PySem.Calls PySem.SeqAt
namespace Mine
section
variable {prog : Program} {w : World} {β : Nat → Nat} {dice : List Int} {B : Heap} {Z : Tabs} {n : Nat} {r : R} {env : Env} {fm fm' : Fm} {σ σ' σ₁ : S} {ρ ρ' ρ₁ ρ₂ : List Addr} {s : Shared} {h h' h₁ h₂ : Heap} {tk₁ : Nat} {A : Around} {E : Value → Shared → Prop}
theorem Ext.own (X : Ext noT ρ h ρ₁ h₁) (Y : Ext (Own env) ρ₁ h₁ ρ₂ h₂) (F : FrOk β B env fm ρ₁ h₁) : Ext (Own env) ρ h ρ₂ h₂ := (X.weaken fun _ t => t.elim).trans Y fun _ o => F.live o
theorem Ext.own2 (X : Ext (Own env) ρ h ρ₁ h₁) (Y : Ext (Own env) ρ₁ h₁ ρ₂ h₂) (F : FrOk β B env fm ρ₁ h₁) : Ext (Own env) ρ h ρ₂ h₂ := X.trans Y fun _ o => F.live o
theorem Ku.then {Q : Unit → Shared → Prop} (q : Ku prog w β dice B env fm' σ' ρ s Q) (X : Ext (Own env) ρ s.heap ρ₁ h₁) (F : FrOk β B env fm ρ₁ h₁) (tk : Nat) : Ku prog w β dice B env fm' σ' ρ₁ { s with heap := h₁, toks := tk } Q :=
  fun h' tk' ρ' F' I Y => q h' tk' ρ' F' I (X.own2 Y F)
theorem Kx.then {fl : Fl} {Q : Flow → Shared → Prop} (q : Kx prog w β dice B env fl fm' σ' ρ s Q) (X : Ext (Own env) ρ s.heap ρ₁ h₁) (F : FrOk β B env fm ρ₁ h₁) (tk : Nat) : Kx prog w β dice B env fl fm' σ' ρ₁ { s with heap := h₁, toks := tk } Q :=
  fun f h' tk' ρ' r F' I Y => q f h' tk' ρ' r F' I (X.own2 Y F)
theorem Ext.toOwn (X : Ext noT ρ h ρ₁ h₁) : Ext (Own env) ρ h ρ₁ h₁ := X.weaken fun _ t => t.elim
theorem asg1_ok (T : Tk prog w β Z B) (H : EvOk prog w β dice B r n) (C : Cx prog w β dice B n A env fm σ ρ s) {t : Expr} {v : AV} {val : Value} (rv : VR β ρ v val) (e : asg1 Z r env.scope t v fm σ = some (fm', σ')) {Q : Unit → Shared → Prop}
    (q : Ku prog w β dice B env fm' σ' ρ s Q) : wpAny (model prog w) A (assign t env val) Q E s := by
  unfold asg1 at e
  split at e
  · rename_i x p
    refine wpAny_assign_Name ?_
    split at e
    · rename_i hk
      cases e
      rw [sget_kindOf] at hk
      exact C.fr.store C.inv rv (.inl hk) fun h' tk I F X => q h' tk ρ F I X
    · rename_i hk
      cases e
      rw [sget_kindOf] at hk
      exact C.fr.store C.inv rv (.inr hk) fun h' tk I F X => q h' tk ρ F I X
    · cases e
  · rename_i o x p
    split at e
    · rename_i a σ₁ h1
      split at e
      · rename_i σ₂ h2
        cases e
        rw [arm_assign_Attribute]
        refine wpAny_bind (wpAny_holding (H C h1 fun va h' tk ρ' ra I X => wpAny_bind (wpAny_standAt (wpAny_bind (wpAny_holding ?_)))))
        have C1 := C.step I X tk
        refine setAt_ok (s := { s with heap := h', toks := tk }) (fun a o e => I.keep _ _ (T.G.X a o e)) T.hO I ra (rv.ext X) h2 fun h'' tk' I' X' => wpAny_release' ?_
        have X2 := X.trans0 X'
        exact q h'' tk' ρ' (C.fr.ext X2) I' X2.toOwn
      · cases e
    · cases e
  · rename_i o i p
    split at e
    · cases e
    · rename_i hns
      split at e
      · rename_i a σ₁ h1
        split at e
        · rename_i b σ₂ h2
          split at e
          · rename_i σ₃ h3
            cases e
            rw [arm_assign_Subscript]
            refine wpAny_bind (wpAny_holding (H C h1 fun va h' tk ρ' ra I X => ?_))
            have C1 := C.step I X tk
            refine wpAny_bind (wpAny_holding (H C1 h2 fun vb h'' tk' ρ'' rb I' X' => wpAny_bind (wpAny_standAt (wpAny_bind (wpAny_holding ?_)))))
            refine setIt_ok (s := { s with heap := h'', toks := tk' }) I' (ra.ext X') rb ((rv.ext X).ext X') h3 fun h3' tk3 I3 X3 => wpAny_release' ?_
            have X2 := (X.trans0 X').trans0 X3
            exact q h3' tk3 ρ'' (C.fr.ext X2) I3 X2.toOwn
          · cases e
        · cases e
      · cases e
  · cases e
theorem asgs_cons (sc : Scope) (t : Expr) (ts : List Expr) (vs : List AV) (fm : Fm) (s : S) : asgs Z r sc (t :: ts) vs fm s = (match vs with
      | [] => none
      | v :: vs => (match asg1 Z r sc t v fm s with | some (fm, s) => asgs Z r sc ts vs fm s | none => none)) := rfl
theorem assignEach_cons {t : Expr} {ts : List Expr} {v : AV} {x : Fm × S} (h : asg1 Z r env.scope t v fm σ = some x) : assignEach (t :: ts) env = (false, assign t env) :: assignEach ts env := by
  cases t <;> first | rfl | cases h
theorem asgs_shape : ∀ {ts : List Expr} {vs : List AV} {fm : Fm} {σ : S} {x : Fm × S}, asgs Z r env.scope ts vs fm σ = some x → (assignEach ts env).length = vs.length ∧ (assignEach ts env).findIdx? (·.1) = none
  | [], vs, fm, σ, x, e => by
    cases vs with
    | nil => exact ⟨rfl, rfl⟩
    | cons => cases e
  | t :: ts, vs, fm, σ, x, e => by
    rw [asgs_cons] at e
    cases vs with
    | nil => cases e
    | cons v vs =>
      dsimp only at e
      split at e
      · rename_i fm1 σ1 h1
        rw [assignEach_cons h1]
        obtain ⟨a, b⟩ := asgs_shape e
        refine ⟨by simp [a], ?_⟩
        rw [List.findIdx?_cons]
        simp [b]
      · cases e
theorem asgs_ok (T : Tk prog w β Z B) (H : EvOk prog w β dice B r n) : ∀ {ts : List Expr} {vs : List AV} {vals : List Value} {fm : Fm} {σ : S} {ρ : List Addr} {s : Shared} {Q : Unit → Shared → Prop}, Cx prog w β dice B n A env fm σ ρ s → VRs β ρ vs vals →
    asgs Z r env.scope ts vs fm σ = some (fm', σ') → Ku prog w β dice B env fm' σ' ρ s Q → wpAny (model prog w) A (assignInOrder ((assignEach ts env).map (·.2)) vals) Q E s
  | [], vs, vals, fm, σ, ρ, s, Q, C, rv, e, q => by
    cases rv with
    | nil => cases e; exact wpAny_pure (q s.heap s.toks ρ C.fr C.inv C.inv.refl.toOwn)
    | cons => cases e
  | t :: ts, vs, vals, fm, σ, ρ, s, Q, C, rv, e, q => by
    rw [asgs_cons] at e
    cases rv with
    | nil => cases e
    | @cons a v l m r1 r2 =>
      dsimp only at e
      split at e
      · rename_i fm1 σ1 h1
        rw [assignEach_cons h1]
        refine wpAny_bind (wpAny_holding (asg1_ok T H C r1 h1 fun h' tk ρ' F I X => ?_))
        exact asgs_ok T H (s := { s with heap := h', toks := tk }) ⟨C.bud, F, I⟩ (r2.ext X) e (q.then X F tk)
      · cases e
theorem grow (I : Inv prog w β dice B σ ρ s.heap) (k : Heap.ExtBut s.heap.objs.size s.heap h') : (∀ b o, s.heap.get? b = some o → h'.get? b = some o) ∧ Inv prog w β dice B σ ρ h' ∧ Ext noT ρ s.heap ρ h' := by
  have k' : ∀ b o, s.heap.get? b = some o → h'.get? b = some o := fun b o e => k b o (Nat.ne_of_lt (Heap.lt_size e)) e
  exact ⟨k', I.of_keep (T := noT) (fun y o _ e => k' y o e) (fun _ t => t.elim) fun _ t => t.elim, Ext.of_keep I (fun y o _ e => k' y o e) fun _ t => t.elim⟩
theorem isTuple_of {t : Addr} {items : Array Value} (h : IsTup s.heap t items) : s.heap.IsTuple t items := h
/-- a target, also a tuple -/
theorem asg_ok (T : Tk prog w β Z B) (H : EvOk prog w β dice B r n) (C : Cx prog w β dice B n A env fm σ ρ s) {t : Expr} {v : AV} {val : Value} (rv : VR β ρ v val) (e : asg Z r env.scope t v fm σ = some (fm', σ')) {Q : Unit → Shared → Prop}
    (q : Ku prog w β dice B env fm' σ' ρ s Q) : wpAny (model prog w) A (assign t env val) Q E s := by
  unfold asg at e
  split at e
  · rename_i ts k p
    split at e
    · rename_i i
      split at e
      · rename_i vs g
        obtain ⟨x, ex, rfl, z, items, hl, hv⟩ := C.inv.ref rv g
        obtain ⟨a, b⟩ := asgs_shape e
        have hlen := hv.length
        refine wpAny_assign_Tuple C.bud.hd (isTuple_of hl) (by rw [a]; simp [hlen]) b fun h' k => ?_
        obtain ⟨k', I', X'⟩ := grow C.inv k
        exact asgs_ok T H (s := { s with heap := h' }) ⟨C.bud, C.fr.ext X', I'⟩ (by simpa using hv) e (q.then X'.toOwn (C.fr.ext X') s.toks)
      · cases e
    · cases e
  · exact asg1_ok T H C rv e q
end
end Mine
end

section
open PySem PySem.W PyProof.Rows PySem.Calls PySem.SeqAt
namespace Mine
section
variable {prog : Program} {w : World} {β : Nat → Nat} {dice : List Int} {B : Heap} {Z : Tabs} {n : Nat} {r : R} {env : Env} {fm fm' : Fm} {σ σ' σ₁ : S} {ρ ρ' ρ₁ ρ₂ : List Addr} {s : Shared} {h h' h₁ h₂ : Heap} {tk₁ : Nat} {A : Around} {E : Value → Shared → Prop}
theorem isVar_ok {e : Expr} (h : isVar e = true) : constantsAlone 8 e = false := by
  cases e with
  | Name x p =>
    unfold isVar at h
    dsimp only at h
    rw [seq_eq] at h
    split at h
    · cases h
    · rename_i q
      have := of_decide_eq_false q
      show (x == ("__debug__" : Str)) = false
      exact beq_eq_false_iff_ne.mpr this
  | BinOp l op x p =>
    cases l <;> first | (cases h; done) | skip
    rfl
  | _ => first | (cases h; done) | rfl
theorem anyVar_ok : ∀ {es : List Expr}, anyVar es = true → es.all (constantsAlone 8) = false
  | [], h => by cases h
  | e :: es, h => by
    have h' : (match (generalizing := false) isVar e with | true => true | false => anyVar es) = true := h
    rw [List.all_cons]
    split at h'
    · rename_i q; rw [isVar_ok q]; rfl
    · rw [anyVar_ok h']; simp
def NameT (env : Env) (t : Expr) (x : Str) : Prop := ∃ p, t = .Name x p ∧ env.kindOf x = some .local
noncomputable def nmF (env : Env) (line : Nat) : Expr → Option Str
  | .Name id pos => if env.kindOf id == some .local && pos.line == line then some id else none
  | _ => none
theorem nameOf {t : Expr} {line : Nat} {x : Str} (h : nmF env line t = some x) : NameT env t x := by
  unfold nmF at h
  split at h
  · split at h
    · rename_i hc
      cases h
      simp only [Bool.and_eq_true, beq_iff_eq] at hc
      exact ⟨_, rfl, hc.1⟩
    · cases h
  · cases h
theorem dups2 {x y : Str} (h : [x, y].eraseDups.length = 2) : x ≠ y := by
  rintro rfl
  simp [List.eraseDups_cons] at h
theorem dups3 {x y z : Str} (h : [x, y, z].eraseDups.length = 3) : x ≠ y ∧ x ≠ z ∧ y ≠ z := by
  refine ⟨?_, ?_, ?_⟩
  · rintro rfl
    simp [List.eraseDups_cons] at h
    by_cases q : z = x
    · simp [q] at h
    · simp [List.filter_cons, q, List.eraseDups_cons] at h
  · rintro rfl
    simp [List.eraseDups_cons] at h
    by_cases q : y = x
    · simp [q] at h
    · simp [List.filter_cons, q, List.eraseDups_cons] at h
  · rintro rfl
    simp [List.eraseDups_cons] at h
    by_cases q : y = x
    · simp [q] at h
    · simp [List.filter_cons, q, List.eraseDups_cons] at h
theorem swapped_of {ts vs : List Expr} {k k' : Nat} {p p' : Pos} (hv : anyVar vs = true) : swappedStores [.Tuple ts k p] (.Tuple vs k' p') env = pure none ∨
    (∃ a b x y, ts = [a, b] ∧ NameT env a x ∧ NameT env b y ∧ x ≠ y ∧ swappedStores [.Tuple ts k p] (.Tuple vs k' p') env = pure (some [x, y])) ∨
    (∃ a b c x y z, ts = [a, b, c] ∧ NameT env a x ∧ NameT env b y ∧ NameT env c z ∧ x ≠ y ∧ x ≠ z ∧ y ≠ z ∧ swappedStores [.Tuple ts k p] (.Tuple vs k' p') env = pure (some [x, y, z])) := by
  have hc := anyVar_ok hv
  have key : ∃ line, swappedStores [.Tuple ts k p] (.Tuple vs k' p') env = pure none ∨ ((ts.length = 2 ∨ ts.length = 3) ∧ (ts.filterMap (nmF env line)).length = ts.length ∧ (ts.filterMap (nmF env line)).eraseDups.length = ts.length ∧
      swappedStores [.Tuple ts k p] (.Tuple vs k' p') env = pure (some (ts.filterMap (nmF env line)))) := by
    refine ⟨(ts.head?.map (·.pos.line)).getD 0, ?_⟩
    unfold swappedStores
    dsimp only
    split
    · exact .inl rfl
    · rename_i c1
      split
      · exact .inl rfl
      · split
        · exact .inl rfl
        · rename_i c2
          split
          · exact .inl rfl
          · rw [hc]
            right
            simp only [Bool.or_eq_true, Bool.not_eq_true', Bool.or_eq_false_iff, beq_eq_false_iff_ne, bne_iff_ne, ne_eq, not_or, not_and, Decidable.not_not] at c1 c2
            refine ⟨?_, c2.1, c2.2.trans c2.1, rfl⟩
            by_cases q : ts.length = 2
            · exact .inl q
            · exact .inr (c1.1.1 q)
  obtain ⟨line, h | ⟨h1, h2, h3, h4⟩⟩ := key
  · exact .inl h
  · right
    rcases h1 with h1 | h1
    · left
      obtain ⟨a, b, rfl⟩ : ∃ a b, ts = [a, b] := by
        rcases ts with _ | ⟨a, _ | ⟨b, _ | ⟨c, ts⟩⟩⟩
        · cases h1
        · cases h1
        · exact ⟨a, b, rfl⟩
        · simp at h1
      cases ha : nmF env line a with
      | none => simp only [List.filterMap_cons, ha, List.filterMap_nil] at h2; split at h2 <;> simp at h2
      | some x =>
        cases hb : nmF env line b with
        | none => simp [List.filterMap_cons, ha, hb] at h2
        | some y =>
          simp only [List.filterMap_cons, ha, hb, List.filterMap_nil] at h3 h4
          exact ⟨a, b, x, y, rfl, nameOf ha, nameOf hb, dups2 h3, h4⟩
    · right
      obtain ⟨a, b, c, rfl⟩ : ∃ a b c, ts = [a, b, c] := by
        rcases ts with _ | ⟨a, _ | ⟨b, _ | ⟨c, _ | ⟨d, ts⟩⟩⟩⟩
        · cases h1
        · cases h1
        · cases h1
        · exact ⟨a, b, c, rfl⟩
        · simp at h1
      cases ha : nmF env line a with
      | none =>
        have := List.length_filterMap_le (nmF env line) [b, c]
        simp only [List.filterMap_cons (a := a), ha] at h2
        simp at h2 this
        omega
      | some x =>
        cases hb : nmF env line b with
        | none =>
          have := List.length_filterMap_le (nmF env line) [c]
          simp only [List.filterMap_cons (a := a), List.filterMap_cons (a := b), ha, hb] at h2
          simp at h2 this
          omega
        | some y =>
          cases hc' : nmF env line c with
          | none => simp [List.filterMap_cons, ha, hb, hc'] at h2
          | some z =>
            simp only [List.filterMap_cons, ha, hb, hc', List.filterMap_nil] at h3 h4
            obtain ⟨d1, d2, d3⟩ := dups3 h3
            exact ⟨a, b, c, x, y, z, rfl, nameOf ha, nameOf hb, nameOf hc', d1, d2, d3, h4⟩
end
end Mine
end

section
open PySem PySem.W PyProof.Rows PySem.Calls PySem.SeqAt
namespace Mine
section
variable {prog : Program} {w : World} {β : Nat → Nat} {dice : List Int} {B : Heap} {Z : Tabs} {n : Nat} {r : R} {env : Env} {fm fm' : Fm} {σ σ' σ₁ : S} {ρ ρ' ρ₁ ρ₂ : List Addr} {s : Shared} {h h' h₁ h₂ : Heap} {tk₁ : Nat} {A : Around} {E : Value → Shared → Prop}
theorem swapped_none {t e : Expr} (hs : storesOk t e = true) (h : ∀ ts k p vs k' p', t = .Tuple ts k p → e ≠ .Tuple vs k' p') : swappedStores [t] e env = pure none := by
  unfold swappedStores
  cases t with
  | Tuple ts k p =>
    cases e with
    | Tuple vs k' p' => exact (h _ _ _ _ _ _ rfl rfl).elim
    | _ => rfl
  | List => cases hs
  | _ => rfl
/-- how a comprehension is assigned -/
theorem swaps_comp {t : Expr} {elt : Expr} {gens : List Comprehension} {cs : Scope} {p : Pos} {line : Nat} (hk : env.scope.kind = .function) :
    swapsWithSole [t] (.ListComp elt gens cs p) line env = pure false ∨ (swapsWithSole [t] (.ListComp elt gens cs p) line env = pure true ∧ ∃ x q, t = .Name x q ∧ env.kindOf x = some .local) := by
  have hh : swapsWithSole [t] (.ListComp elt gens cs p) line env = swapsWith (.ListComp elt gens cs p) (some t) line env := rfl
  rw [hh]
  cases t with
  | Name x q =>
    have e : swapsWith (.ListComp elt gens cs p) (some (.Name x q)) line env = pure (env.blockKind == .function && env.kindOf x == some .local && q.line == p.line && !(cs.names.any fun (n, k) => n == x && (k == .local || k == .cell))) := rfl
    cases hb : (env.blockKind == .function && env.kindOf x == some .local && q.line == p.line && !(cs.names.any fun (n, k) => n == x && (k == .local || k == .cell))) with
    | false => rw [hb] at e; exact .inl e
    | true =>
      rw [hb] at e
      simp only [Bool.and_eq_true, beq_iff_eq] at hb
      exact .inr ⟨e, x, q, rfl, hb.1.1.2⟩
  | _ => exact .inl rfl
theorem swaps_other {t e : Expr} {line : Nat} (hs : storesOk t e = true) (h : ∀ elt gens cs p, e ≠ .ListComp elt gens cs p) : swapsWithSole [t] e line env = pure false := by
  show swapsWith e (some t) line env = _
  cases e with
  | ListComp elt gens cs p => exact (h _ _ _ _ rfl).elim
  | SetComp => exfalso; cases t <;> cases hs
  | DictComp => exfalso; cases t <;> cases hs
  | _ => rfl
def CmOk (prog : Program) (w : World) (β : Nat → Nat) (dice : List Int) (B : Heap) (r : R) (n : Nat) : Prop := ∀ {A : Around} {env : Env} {fm : Fm} {σ σ' : S} {ρ : List Addr} {s : Shared} {elt : Expr} {gens : List Comprehension} {cs : Scope} {pos : Pos} {v : AV} {E : Value → Shared → Prop} {use : Option (Value → Sem Unit)} {Q : Value → Shared → Prop},
  Cx prog w β dice B n A env fm σ ρ s → r.ev env.scope (.ListComp elt gens cs pos) fm σ = some (v, σ') → Kp prog w β dice B A E env fm σ' v ρ s use Q →
  wpAny (model prog w) A (comprehension (.ListComp elt gens cs pos) cs env (firstIterPos gens pos) (newList []) (firstAsync gens) (firstIter gens env) use) Q E s
theorem stores2 (F : FrOk β B env fm ρ s.heap) (I : Inv prog w β dice B σ ρ s.heap) {x y : Str} {a b : AV} {va vb : Value} (hx : env.kindOf x = some .local) (hy : env.kindOf y = some .local) (hne : x ≠ y) (ra : VR β ρ a va) (rb : VR β ρ b vb) {Q : Unit → Shared → Prop}
    (q : Ku prog w β dice B env (sset (sset fm x a) y b) σ ρ s Q) : wpAny (model prog w) A (assignInOrder [bindName env y, bindName env x] [vb, va]) Q E s := by
  refine wpAny_bind (wpAny_holding (wpAny_bindName (F.store I rb (.inl hy) fun h1 tk1 I1 F1 X1 => ?_)))
  refine wpAny_bind (wpAny_holding (wpAny_bindName (FrOk.store (s := { s with heap := h1, toks := tk1 }) F1 I1 ra (.inl hx) fun h2 tk2 I2 F2 X2 => ?_)))
  refine wpAny_pure (q h2 tk2 ρ (F2.congr fun z => ?_) I2 (X1.own2 X2 F1))
  rw [sget_sset, sget_sset, sget_sset, sget_sset]
  by_cases h1 : z = x
  · subst h1; simp [hne]
  · simp [h1]
theorem stores3 (F : FrOk β B env fm ρ s.heap) (I : Inv prog w β dice B σ ρ s.heap) {x y z : Str} {a b c : AV} {va vb vc : Value} (hx : env.kindOf x = some .local) (hy : env.kindOf y = some .local) (hz : env.kindOf z = some .local) (h1 : x ≠ y) (h2 : x ≠ z) (h3 : y ≠ z)
    (ra : VR β ρ a va) (rb : VR β ρ b vb) (rc : VR β ρ c vc) {Q : Unit → Shared → Prop}
    (q : Ku prog w β dice B env (sset (sset (sset fm x a) y b) z c) σ ρ s Q) : wpAny (model prog w) A (assignInOrder [bindName env z, bindName env y, bindName env x] [vc, vb, va]) Q E s := by
  refine wpAny_bind (wpAny_holding (wpAny_bindName (F.store I rc (.inl hz) fun H1 tk1 I1 F1 X1 => ?_)))
  refine wpAny_bind (wpAny_holding (wpAny_bindName (FrOk.store (s := { s with heap := H1, toks := tk1 }) F1 I1 rb (.inl hy) fun H2 tk2 I2 F2 X2 => ?_)))
  refine wpAny_bind (wpAny_holding (wpAny_bindName (FrOk.store (s := { s with heap := H2, toks := tk2 }) F2 I2 ra (.inl hx) fun H3 tk3 I3 F3 X3 => ?_)))
  refine wpAny_pure (q H3 tk3 ρ (F3.congr fun u => ?_) I3 ((X1.own2 X2 F1).own2 X3 F2))
  simp only [sget_sset]
  by_cases e1 : u = x
  · subst e1; simp [h1, h2]
  · by_cases e2 : u = y
    · subst e2; simp [e1, h3]
    · simp [e1, e2]
theorem asg1_local {x : Str} {t : Expr} {v : AV} {X : Fm × S} (N : NameT env t x) (e : asg1 Z r env.scope t v fm σ = some X) : X = (sset fm x v, σ) := by
  obtain ⟨p, rfl, hk⟩ := N
  unfold asg1 at e
  dsimp only at e
  rw [sget_kindOf, hk] at e
  cases e; rfl
theorem asgs_name {ts : List Expr} {t : Expr} {x : Str} {vs : List AV} {X : Fm × S} (N : NameT env t x) (h : asgs Z r env.scope (t :: ts) vs fm σ = some X) : ∃ v vs', vs = v :: vs' ∧ asgs Z r env.scope ts vs' (sset fm x v) σ = some X := by
  rw [asgs_cons] at h
  cases vs with
  | nil => cases h
  | cons v vs' =>
    refine ⟨v, vs', rfl, ?_⟩
    dsimp only at h
    split at h
    · rename_i g; cases asg1_local N g; exact h
    · cases h
theorem asgs_done {vs : List AV} {X : Fm × S} (h : asgs Z r env.scope [] vs fm σ = some X) : vs = [] ∧ X = (fm, σ) := by
  cases vs with
  | nil => cases h; exact ⟨rfl, rfl⟩
  | cons => cases h
theorem asg_tuple {ts : List Expr} {k : Nat} {p : Pos} {v : AV} {X : Fm × S} (h : asg Z r env.scope (.Tuple ts k p) v fm σ = some X) : ∃ i us, v = .ref i ∧ σ.get i = some (.tup us) ∧ asgs Z r env.scope ts us fm σ = some X := by
  unfold asg at h
  dsimp only at h
  split at h
  · split at h
    · rename_i g; exact ⟨_, _, rfl, g, h⟩
    · cases h
  · cases h
theorem asg_two {a b : Expr} {x y : Str} {k : Nat} {p : Pos} {v : AV} (Na : NameT env a x) (Nb : NameT env b y) (h : asg Z r env.scope (.Tuple [a, b] k p) v fm σ = some (fm', σ')) :
    ∃ i v1 v2, v = .ref i ∧ σ.get i = some (.tup [v1, v2]) ∧ fm' = sset (sset fm x v1) y v2 ∧ σ' = σ := by
  obtain ⟨i, us, rfl, g, h⟩ := asg_tuple h
  obtain ⟨v1, us1, rfl, h1⟩ := asgs_name Na h
  obtain ⟨v2, us2, rfl, h2⟩ := asgs_name Nb h1
  obtain ⟨rfl, e⟩ := asgs_done h2
  cases e
  exact ⟨i, v1, v2, rfl, g, rfl, rfl⟩
theorem asg_three {a b c : Expr} {x y z : Str} {k : Nat} {p : Pos} {v : AV} (Na : NameT env a x) (Nb : NameT env b y) (Nc : NameT env c z) (h : asg Z r env.scope (.Tuple [a, b, c] k p) v fm σ = some (fm', σ')) :
    ∃ i v1 v2 v3, v = .ref i ∧ σ.get i = some (.tup [v1, v2, v3]) ∧ fm' = sset (sset (sset fm x v1) y v2) z v3 ∧ σ' = σ := by
  obtain ⟨i, us, rfl, g, h⟩ := asg_tuple h
  obtain ⟨v1, us1, rfl, h1⟩ := asgs_name Na h
  obtain ⟨v2, us2, rfl, h2⟩ := asgs_name Nb h1
  obtain ⟨v3, us3, rfl, h3⟩ := asgs_name Nc h2
  obtain ⟨rfl, e⟩ := asgs_done h3
  cases e
  exact ⟨i, v1, v2, v3, rfl, g, rfl, rfl⟩
theorem exec_Assign_ok (T : Tk prog w β Z B) (H : EvOk prog w β dice B r n) (Hm : CmOk prog w β dice B r n) (C : Cx prog w β dice B n A env fm σ ρ s) {t e : Expr} {pos : Pos} {v : AV} (hs : storesOk t e = true) (h1 : r.ev env.scope e fm σ = some (v, σ₁))
    (h2 : asg Z r env.scope t v fm σ₁ = some (fm', σ')) {Q : Flow → Shared → Prop} (q : Kx prog w β dice B env .next fm' σ' ρ s Q) : wpAny (model prog w) A (exec (.Assign [t] e pos) env) Q E s := by
  rw [exec_Assign_arm]
  refine wpAny_bind (wpAny_standAt ?_)
  have hea : assignEach [t] env = [(false, assign t env)] := by
    cases t <;> first | rfl | skip
    exfalso; unfold asg asg1 at h2; cases h2
  have plain : swapsWithSole [t] e pos.line env = pure false → swappedStores [t] e env = pure none → wpAny (model prog w) A (do
      if ← swapsWithSole [t] e pos.line env then do
        evalThenUse e env fun v => assignAll v ((assignEach [t] env).map (·.2))
        pure .next
      else do
        let v ← eval e env
        assignStores env v (← swappedStores [t] e env) ((assignEach [t] env).map (·.2))) Q E s := fun e1 e2 => by
    rw [e1, e2, hea]
    refine wpAny_bind (wpAny_pure ?_)
    rw [if_neg (by decide)]
    refine wpAny_bind (H C h1 fun val H1 tk1 ρ1 rv I1 X1 => wpAny_bind (wpAny_pure ?_))
    have C1 := C.step I1 X1 tk1
    show wpAny (model prog w) A (do assign t env val; pure .next) Q E _
    exact wpAny_bind (asg_ok T H C1 rv h2 fun h' tk ρ' F I X => wpAny_pure (q .next h' tk ρ' rfl F I (X1.own X C1.fr)))
  by_cases hc : ∃ elt gens cs p, e = .ListComp elt gens cs p
  · obtain ⟨elt, gens, cs, p, rfl⟩ := hc
    rcases swaps_comp (t := t) (elt := elt) (gens := gens) (cs := cs) (p := p) (line := pos.line) C.fr.kind with e1 | ⟨e1, x, qq, rfl, hx⟩
    · exact plain e1 (swapped_none hs fun _ _ _ _ _ _ _ z => nomatch z)
    · rw [e1, hea]
      refine wpAny_bind (wpAny_pure ?_)
      rw [if_pos rfl]
      have hfm : (fm', σ') = (sset fm x v, σ₁) := by
        unfold asg asg1 at h2
        dsimp only at h2
        rw [sget_kindOf, hx] at h2
        cases h2; rfl
      cases hfm
      show wpAny (model prog w) A (do
        (do let _ ← comprehension (.ListComp elt gens cs p) cs env (firstIterPos gens p) (newList []) (firstAsync gens) (firstIter gens env) (some fun v => assignAll v [assign (.Name x qq) env]))
        pure .next) Q E s
      refine wpAny_bind (wpAny_bind (Hm C h1 ?_))
      intro val Cl h' tk ρ' rv I X F hm hs' hC hB ho
      show wpAny (model prog w) A (assign (.Name x qq) env val) _ E _
      refine wpAny_assign_Name (FrOk.store (s := { s with heap := h', toks := tk }) F I rv (.inl hx) fun h2' tk2 I2 F2 X2 => ?_)
      obtain ⟨m, o, es, ep, hm1, hm2⟩ := hm
      refine ⟨m, ⟨o, es, ep, X2.keep _ _ hm1 hC ho, hm2⟩, fun h3' hs3 => wpAny_pure (wpAny_pure ?_)⟩
      have k3 : ∀ y o, ¬ y = Cl → h2'.get? y = some o → h3'.get? y = some o := fun y o t z => (hs3.2 y t).trans z
      have hTρ : ∀ y, y = Cl → y ∉ ρ' := fun y t => t ▸ hC
      have F3 : FrOk β B env (sset fm x v) ρ' h3' := F2.of_keep k3 fun y t => t ▸ ho
      have X3 : Ext (fun y => y = Cl) ρ' h2' ρ' h3' := Ext.of_keep I2 k3 hTρ
      have X12 : Ext (Own env) ρ s.heap ρ' h2' := X.own X2 F
      refine q .next h3' tk2 ρ' rfl F3 (I2.of_keep k3 hTρ fun y t => t ▸ hB) ⟨X12.pre, fun b o e nb t => k3 b o (fun z => ?_) (X12.keep b o e nb t), fun a m => X3.live a (X12.mem m)⟩
      rw [z, hs'] at e; cases e
  · have e1 := swaps_other (env := env) (line := pos.line) hs fun elt gens cs p z => hc ⟨_, _, _, _, z⟩
    by_cases ht : ∃ ts k p vs k' p', t = .Tuple ts k p ∧ e = .Tuple vs k' p'
    · obtain ⟨ts, k, p, vs, k', p', rfl, rfl⟩ := ht
      rcases swapped_of (env := env) (ts := ts) (k := k) (p := p) (k' := k') (p' := p') (vs := vs) hs with e2 | ⟨a, b, x, y, rfl, Na, Nb, hne, e2⟩ | ⟨a, b, c, x, y, z, rfl, Na, Nb, Nc, d1, d2, d3, e2⟩
      · exact plain e1 e2
      · rw [e1, e2]
        refine wpAny_bind (wpAny_pure ?_)
        rw [if_neg (by decide)]
        refine wpAny_bind (H C h1 fun val H1 tk1 ρ1 rv I1 X1 => wpAny_bind (wpAny_pure ?_))
        have C1 := C.step I1 X1 tk1
        obtain ⟨i, v1, v2, rfl, g, rfl, rfl⟩ := asg_two Na Nb h2
        obtain ⟨u, eu, rfl, zz, items, hl, hv⟩ := I1.ref rv g
        obtain _ | ⟨r1, _ | ⟨r2, _ | _⟩⟩ := hv
        rename_i w1 w2
        refine wpAny_bind (wpAny_rule (wpAny_bind (wpAny_unpackItems_tuple (s := { s with heap := H1, toks := tk1 }) (items := #[w1, w2]) C.bud.hd hl fun h' kx => ?_)))
        obtain ⟨k', I', X'⟩ := grow (s := { s with heap := H1, toks := tk1 }) I1 kx
        refine wpAny_bind (stores2 (s := { s with heap := h', toks := tk1 }) (C1.fr.ext X') I' Na.choose_spec.2 Nb.choose_spec.2 hne (r1.ext X') (r2.ext X') fun h'' tk ρ' F I X => wpAny_pure (q .next h'' tk ρ' rfl F I ((X1.trans0 X').own X (C1.fr.ext X'))))
      · rw [e1, e2]
        refine wpAny_bind (wpAny_pure ?_)
        rw [if_neg (by decide)]
        refine wpAny_bind (H C h1 fun val H1 tk1 ρ1 rv I1 X1 => wpAny_bind (wpAny_pure ?_))
        have C1 := C.step I1 X1 tk1
        obtain ⟨i, v1, v2, v3, rfl, g, rfl, rfl⟩ := asg_three Na Nb Nc h2
        obtain ⟨u, eu, rfl, zz, items, hl, hv⟩ := I1.ref rv g
        obtain _ | ⟨r1, _ | ⟨r2, _ | ⟨r3, _ | _⟩⟩⟩ := hv
        rename_i w1 w2 w3
        refine wpAny_bind (wpAny_rule (wpAny_bind (wpAny_unpackItems_tuple (s := { s with heap := H1, toks := tk1 }) (items := #[w1, w2, w3]) C.bud.hd hl fun h' kx => ?_)))
        obtain ⟨k', I', X'⟩ := grow (s := { s with heap := H1, toks := tk1 }) I1 kx
        refine wpAny_bind (stores3 (s := { s with heap := h', toks := tk1 }) (C1.fr.ext X') I' Na.choose_spec.2 Nb.choose_spec.2 Nc.choose_spec.2 d1 d2 d3 (r1.ext X') (r2.ext X') (r3.ext X') fun h'' tk ρ' F I X => wpAny_pure (q .next h'' tk ρ' rfl F I ((X1.trans0 X').own X (C1.fr.ext X'))))
    · exact plain e1 (swapped_none hs fun ts k p vs k' p' z1 z2 => ht ⟨_, _, _, _, _, _, z1, z2⟩)
end
end Mine
end

section
open PySem PySem.W PyProof.Rows PySem.Calls PySem.SeqAt
namespace Mine
section
variable {prog : Program} {w : World} {β : Nat → Nat} {dice : List Int} {B : Heap} {Z : Tabs} {n : Nat} {r : R} {env : Env} {fm fm' : Fm} {σ σ' σ₁ : S} {ρ ρ' ρ₁ ρ₂ : List Addr} {s : Shared} {h h' h₁ h₂ : Heap} {tk₁ : Nat} {A : Around} {E : Value → Shared → Prop}
theorem while_once {R : Result → Shared → Prop} {test : Expr} {body orelse : List Stmt}
    (turn : wpAny (model prog w) A (isTrue test env (eval test env)) (fun b s₂ =>
        if b then wpAny (model prog w) A (execs body env) (fun f s₃ => match f with
            | .next | .cont => codeAny (model prog w) A (.whileLoop test body orelse env) R s₃
            | .brk => R (.ok .next) s₃
            | .ret v => R (.ok (.ret v)) s₃) (notedBy (model prog w) A env fun e s' => R (.error e) s') s₂
        else wpAny (model prog w) A (execs orelse env) (fun f s₃ => R (.ok f) s₃) (notedBy (model prog w) A env fun e s' => R (.error e) s') s₂)
        (notedBy (model prog w) A env fun e s' => R (.error e) s') s) : codeAny (model prog w) A (.whileLoop test body orelse env) R s := by
  refine codeAny_of_tree ?_
  show wpAny _ A ((whileTurn test body orelse env).onRaise (fun x => do noteFrame x env; theTreesLotGoes x)) _ _ s
  refine wpAny_noted ?_
  simp only [whileTurn]
  refine wpAny_bind (wpAny_mono turn (fun b s₂ h₂ => ?_) fun _ _ h' => h')
  cases b with
  | false =>
    simp only [Bool.false_eq_true, if_false] at h₂ ⊢
    exact wpAny_bind (wpAny_mono h₂ (fun f s₃ h₃ => wpAny_pure h₃) fun _ _ h' => h')
  | true =>
    simp only [if_true] at h₂ ⊢
    refine wpAny_bind (wpAny_mono h₂ (fun f s₃ h₃ => ?_) fun _ _ h' => h')
    cases f with
    | next => exact wpAny_pure ⟨rfl, h₃⟩
    | cont => exact wpAny_pure ⟨rfl, h₃⟩
    | brk => exact wpAny_pure h₃
    | ret v => exact wpAny_pure h₃
theorem for_once {R : Result → Shared → Prop} {target : Expr} {it : Value} {body orelse : List Stmt}
    (turn : wpAny (model prog w) A (pyNext it) (fun r s₁ => match r with
      | none => wpAny (model prog w) A (execs orelse env) (fun f s₃ => R (.ok f) s₃) (notedBy (model prog w) A env fun e s' => R (.error e) s') s₁
      | some v => wpAny (model prog w) A (letOwnedTupleGo target it v) (fun _ s₁ => wpAny (model prog w) A (assign target env v) (fun _ s₂ => wpAny (model prog w) A (execs body env) (fun f s₃ => match f with
          | .next | .cont => codeAny (model prog w) A (.forLoop target it body orelse env) R s₃
          | .brk => R (.ok .next) s₃
          | .ret v => R (.ok (.ret v)) s₃) (notedBy (model prog w) A env fun e s' => R (.error e) s') s₂) (notedBy (model prog w) A env fun e s' => R (.error e) s') s₁) (notedBy (model prog w) A env fun e s' => R (.error e) s') s₁) (notedBy (model prog w) A env fun e s' => R (.error e) s') s) :
    codeAny (model prog w) A (.forLoop target it body orelse env) R s := by
  refine codeAny_of_tree ?_
  show wpAny _ _ ((forTurn target it body orelse env).onRaise (fun x => do noteFrame x env; theTreesLotGoes x)) _ _ s
  refine wpAny_noted ?_
  simp only [forTurn]
  refine wpAny_bind (wpAny_standAt (wpAny_bind (wpAny_onRaise (wpAny_mono turn (fun r s₁ h₁ => ?_) fun _ _ h' => wpAny_standAt h'))))
  cases r with
  | none => exact wpAny_pure ⟨rfl, codeAny_block h₁⟩
  | some v =>
    refine wpAny_bind (wpAny_mono h₁ (fun _ s₁ h₁ => ?_) fun _ _ h' => h')
    refine wpAny_bind (wpAny_mono h₁ (fun _ s₂ h₂ => wpAny_bind (wpAny_mono h₂ (fun f s₃ h₃ => ?_) fun _ _ h' => h')) fun _ _ h' => h')
    cases f with
    | next => exact wpAny_pure ⟨rfl, h₃⟩
    | cont => exact wpAny_pure ⟨rfl, h₃⟩
    | brk => exact wpAny_pure h₃
    | ret v => exact wpAny_pure h₃

def WlOk (prog : Program) (w : World) (β : Nat → Nat) (dice : List Int) (B : Heap) (r : R) (n : Nat) : Prop := ∀ {A : Around} {env : Env} {fm fm' : Fm} {σ σ' : S} {ρ : List Addr} {s : Shared} {t : Expr} {b : List Stmt} {fl : Fl} {R : Result → Shared → Prop}, Cx prog w β dice B n A env fm σ ρ s →
  r.wl env.scope t b fm σ = some (fl, fm', σ') → Kx prog w β dice B env fl fm' σ' ρ s (fun f s' => R (.ok f) s') → codeAny (model prog w) A (.whileLoop t b [] env) R s
def FoOk (prog : Program) (w : World) (β : Nat → Nat) (dice : List Int) (B : Heap) (r : R) (n : Nat) : Prop := ∀ {A : Around} {env : Env} {fm fm' : Fm} {σ σ' : S} {ρ : List Addr} {s : Shared} {t : Expr} {b : List Stmt} {it : It} {x y : Addr} {fl : Fl} {R : Result → Shared → Prop}, Cx prog w β dice B n A env fm σ ρ s →
  ItAt B (Own env) s.heap ρ x y it → r.fo env.scope t it b fm σ = some (fl, fm', σ') →
  (∀ f h' tk ρ', FlR β ρ' fl f → FrOk β B env fm' ρ' h' → Inv prog w β dice B σ' ρ' h' → Ext (fun z => Own env z ∨ z = x ∨ z = y) ρ s.heap ρ' h' → R (.ok f) { s with heap := h', toks := tk }) →
  codeAny (model prog w) A (.forLoop t (.ref x) b [] env) R s
theorem wl_step (Ht : TsOk prog w β dice B r n) (Hx : XsOk prog w β dice B r n) (Hw : WlOk prog w β dice B r n) {r' : R} (hr : r'.wl = stepWl r) : WlOk prog w β dice B r' (n + 1) := by
  intro A env fm fm' σ σ' ρ s t b fl R C e q
  rw [hr] at e
  have C := C.less (Nat.le_succ n)
  unfold stepWl at e
  split at e
  · rename_i σ1 h1
    refine while_once (Ht C h1 fun H1 tk1 ρ1 I1 X1 => ?_)
    rw [if_pos rfl]
    have C1 := C.step I1 X1 tk1
    split at e
    · rename_i v fm2 σ2 h2
      cases e
      refine Hx C1 h2 fun f h' tk ρ' rf F I X => ?_
      obtain ⟨val, rfl, rv⟩ := rf
      exact q _ h' tk ρ' ⟨val, rfl, rv⟩ F I (X1.own X C1.fr)
    · rename_i fl2 fm2 σ2 hnr h2
      refine Hx C1 h2 fun f h' tk ρ' rf F I X => ?_
      have go : codeAny (model prog w) A (.whileLoop t b [] env) R { s with heap := h', toks := tk } := Hw (s := { s with heap := h', toks := tk }) ⟨C.bud, F, I⟩ e (q.then (X1.own X C1.fr) F tk)
      cases fl2 with
      | next => cases rf; exact go
      | cont => cases rf; exact go
      | ret v => exact (hnr _ rfl).elim
    · cases e
  · rename_i σ1 h1
    cases e
    refine while_once (Ht C h1 fun H1 tk1 ρ1 I1 X1 => ?_)
    rw [if_neg (by decide)]
    exact wpAny_execs_nil (q .next H1 tk1 ρ1 rfl (C.fr.ext X1) I1 X1.toOwn)
  · cases e
theorem assign_two (F : FrOk β B env fm ρ s.heap) (I : Inv prog w β dice B σ ρ s.heap) {x y : Str} {px py : Pos} {a b : AV} {va vb : Value} (hx : env.kindOf x = some .local ∨ env.kindOf x = some .cell) (hy : env.kindOf y = some .local ∨ env.kindOf y = some .cell) (ra : VR β ρ a va) (rb : VR β ρ b vb) {Q : Unit → Shared → Prop}
    (q : ∀ h' tk, FrOk β B env (sset (sset fm x a) y b) ρ h' → Inv prog w β dice B σ ρ h' → Ext (Own env) ρ s.heap ρ h' → Q () { s with heap := h', toks := tk }) : wpAny (model prog w) A (assignInOrder ((assignEach [.Name x px, .Name y py] env).map (·.2)) [va, vb]) Q E s := by
  show wpAny (model prog w) A (assignInOrder [assign (.Name x px) env, assign (.Name y py) env] [va, vb]) Q E s
  refine wpAny_bind (wpAny_holding (wpAny_assign_Name (F.store I ra hx fun h1 tk1 I1 F1 X1 => ?_)))
  refine wpAny_bind (wpAny_holding (wpAny_assign_Name (FrOk.store (s := { s with heap := h1, toks := tk1 }) F1 I1 rb hy fun h2 tk2 I2 F2 X2 => ?_)))
  exact wpAny_pure (q h2 tk2 F2 I2 (X1.own2 X2 F1))
theorem fo_step (Hx : XsOk prog w β dice B r n) (Hf : FoOk prog w β dice B r n) {r' : R} (hr : r'.fo = stepFo r) : FoOk prog w β dice B r' (n + 1) := by
  intro A env fm fm' σ σ' ρ s t b it x y fl R C J e q
  rw [hr] at e
  have C := C.less (Nat.le_succ n)
  have hTρ : ∀ z, (z = x ∨ z = y) → z ∉ ρ := fun z t => by rcases t with rfl | rfl; exact J.na; exact J.nb
  have hTB : ∀ z, (z = x ∨ z = y) → B.get? z = none := fun z t => by rcases t with rfl | rfl; exact J.Ba; exact J.Bb
  have hTo : ∀ z, (z = x ∨ z = y) → ¬ Own env z := fun z t => by rcases t with rfl | rfl; exact J.oa; exact J.ob
  have fin : ∀ {fm1 : Fm} {it1 : It} {h1 : Heap} {tk1 : Nat}, FrOk β B env fm1 ρ h1 → Inv prog w β dice B σ ρ h1 → Ext (fun z => Own env z ∨ z = x ∨ z = y) ρ s.heap ρ h1 → ItAt B (Own env) h1 ρ x y it1 →
      (match (generalizing := false) r.xs env.scope b fm1 σ with
      | some (.ret v, fm, s) => some (.ret v, fm, s)
      | some (_, fm, s) => r.fo env.scope t it1 b fm s
      | none => none) = some (fl, fm', σ') → ∀ {E : Value → Shared → Prop}, wpAny (model prog w) A (execs b env) (fun f s₃ => match f with
          | .next | .cont => codeAny (model prog w) A (.forLoop t (.ref x) b [] env) R s₃
          | .brk => R (.ok .next) s₃
          | .ret v => R (.ok (.ret v)) s₃) E { s with heap := h1, toks := tk1 } := by
    intro fm1 it1 h1 tk1 F1 I1 X1 J1 e E
    have C1 : Cx prog w β dice B n A env fm1 σ ρ { s with heap := h1, toks := tk1 } := ⟨C.bud, F1, I1⟩
    have live : ∀ z, (Own env z ∨ z = x ∨ z = y) → ∃ ob, h1.get? z = some ob := fun z t => by
      rcases t with t | rfl | rfl
      · exact F1.live t
      · exact J1.la
      · exact J1.lb
    split at e
    · rename_i v fm2 σ2 h2
      cases e
      refine Hx C1 h2 fun f h' tk ρ' rf F I X => ?_
      obtain ⟨val, rfl, rv⟩ := rf
      exact q _ h' tk ρ' ⟨val, rfl, rv⟩ F I (X1.trans (X.weaken fun _ t => .inl t) live)
    · rename_i fl2 fm2 σ2 hnr h2
      refine Hx C1 h2 fun f h' tk ρ' rf F I X => ?_
      have J2 := J1.ext X fun _ t => t
      have live2 : ∀ z, (Own env z ∨ z = x ∨ z = y) → ∃ ob, h'.get? z = some ob := fun z t => by
        rcases t with t | rfl | rfl
        · exact F.live t
        · exact J2.la
        · exact J2.lb
      have go : codeAny (model prog w) A (.forLoop t (.ref x) b [] env) R { s with heap := h', toks := tk } := Hf (s := { s with heap := h', toks := tk }) ⟨C.bud, F, I⟩ J2 e fun f' h'' tk' ρ'' rf' F' I' X' =>
        q f' h'' tk' ρ'' rf' F' I' ((X1.trans (X.weaken fun _ t => .inl t) live).trans X' live2)
      cases fl2 with
      | next => cases rf; exact go
      | cont => cases rf; exact go
      | ret v => exact (hnr _ rfl).elim
    · cases e
  unfold stepFo at e
  split at e
  · rename_i hn
    cases e
    refine for_once (next_ok C.inv C.bud.hd J hn fun h' k => ?_)
    have k' : ∀ z o, ¬ (z = x ∨ z = y) → s.heap.get? z = some o → h'.get? z = some o := fun z o t e => k z o (fun e => t (.inl e)) (fun e => t (.inr e)) e
    exact wpAny_execs_nil (q .next h' s.toks ρ rfl (C.fr.of_keep k' hTo) (C.inv.of_keep k' hTρ hTB) ((Ext.of_keep C.inv k' hTρ).weaken fun _ t => .inr t))
  · rename_i nx hnd hn
    split at e
    · rename_i fm1 it1 hb
      unfold bindT at hb
      split at hb
      · rename_i nm p v it2
        refine for_once (next_ok C.inv C.bud.hd J hn fun val h1 tk1 rv J1 k => ?_)
        have k' : ∀ z o, ¬ (z = x ∨ z = y) → s.heap.get? z = some o → h1.get? z = some o := fun z o t e => k z o (fun e => t (.inl e)) (fun e => t (.inr e)) e
        have F1 := C.fr.of_keep k' hTo
        have I1 := C.inv.of_keep k' hTρ hTB
        have X1 : Ext (fun z => Own env z ∨ z = x ∨ z = y) ρ s.heap ρ h1 := (Ext.of_keep C.inv k' hTρ).weaken fun _ t => .inr t
        refine wpAny_of_eq (a := ()) rfl ?_
        have st : (env.kindOf nm = some .local ∨ env.kindOf nm = some .cell) ∧ fm1 = sset fm nm v ∧ it1 = it2 := by
          rw [sget_kindOf] at hb
          split at hb
          · rename_i hk; cases hb; exact ⟨.inl hk, rfl, rfl⟩
          · rename_i hk; cases hb; exact ⟨.inr hk, rfl, rfl⟩
          · cases hb
        obtain ⟨hk, rfl, rfl⟩ := st
        refine wpAny_assign_Name (FrOk.store (s := { s with heap := h1, toks := tk1 }) F1 I1 rv hk fun h2 tk2 I2 F2 X2 => ?_)
        have live : ∀ z, (Own env z ∨ z = x ∨ z = y) → ∃ ob, h1.get? z = some ob := fun z t => by
          rcases t with t | rfl | rfl
          · exact F1.live t
          · exact J1.la
          · exact J1.lb
        exact fin F2 I2 (X1.trans (X2.weaken fun _ t => .inl t) live) (J1.ext X2 fun _ t => t) e
      · rename_i nm p mm p2 k0 p3 v1 v2 it2
        refine for_once (next_ok C.inv C.bud.hd J hn fun x1 x2 tt h1 tk1 r1 r2 htt htn hen k => ?_)
        obtain ⟨i, kk, l, rfl, hl, he, hi⟩ := hen
        refine wpAny_letOwnedTupleGo_enum (s := { s with heap := h1, toks := tk1 }) he fun h2 he2 hs2 => ?_
        have hxy : x ≠ y := by
          cases it with
          | enum i k => exact J.ne _ _ rfl
          | list i k =>
            exfalso
            unfold next at hn; dsimp only at hn
            split at hn
            · split at hn <;> cases hn
            · cases hn
          | range c hh =>
            exfalso
            unfold next at hn; dsimp only at hn
            split at hn <;> cases hn
        have hxt : x ≠ tt := fun z => by obtain ⟨o, ho⟩ := J.la; rw [z, htn] at ho; cases ho
        have k2 : ∀ z o, ¬ (z = x ∨ z = y) → s.heap.get? z = some o → h2.get? z = some o := fun z o t e => (hs2.2 z (fun e => t (.inl e))).trans (k z o (fun e => t (.inl e)) (fun e => t (.inr e)) e)
        have F2 := C.fr.of_keep k2 hTo
        have I2 := C.inv.of_keep k2 hTρ hTB
        have X2 : Ext (fun z => Own env z ∨ z = x ∨ z = y) ρ s.heap ρ h2 := (Ext.of_keep C.inv k2 hTρ).weaken fun _ t => .inr t
        have hi2 : h2.IsListIter y l kk := let ⟨o, ho, q⟩ := hi; ⟨o, (hs2.2 y (Ne.symm hxy)).trans ho, q⟩
        have J2 : ItAt B (Own env) h2 ρ x y (.enum i kk) := ⟨⟨l, _, hl, he2, hi2⟩, J.na, J.nb, ⟨_, he2⟩, (let ⟨o, ho, _⟩ := hi2; ⟨o, ho⟩), J.Ba, J.Bb, J.oa, J.ob, fun _ _ _ => hxy⟩
        have ht2 : h2.IsTuple tt #[x1, x2] := ⟨_, (hs2.2 tt (Ne.symm hxt)).trans htt, rfl, 0, rfl⟩
        have st : (env.kindOf nm = some .local ∨ env.kindOf nm = some .cell) ∧ (env.kindOf mm = some .local ∨ env.kindOf mm = some .cell) ∧ fm1 = sset (sset fm nm v1) mm v2 ∧ it1 = .enum i kk := by
          rw [sget_kindOf, sget_kindOf] at hb
          split at hb
          · rename_i hk hk'; cases hb; exact ⟨.inl hk, .inl hk', rfl, rfl⟩
          · rename_i hk hk'; cases hb; exact ⟨.inl hk, .inr hk', rfl, rfl⟩
          · cases hb
        obtain ⟨hk1, hk2, rfl, rfl⟩ := st
        refine wpAny_assign_Tuple (s := { s with heap := h2, toks := tk1 }) C.bud.hd ht2 rfl rfl fun h3 kx => ?_
        obtain ⟨k3, I3, X3⟩ := grow (s := { s with heap := h2, toks := tk1 }) I2 kx
        have F3 := F2.ext X3
        refine assign_two (s := { s with heap := h3, toks := tk1 }) F3 I3 hk1 hk2 (r1.ext X3) (r2.ext X3) fun h4 tk4 F4 I4 X4 => ?_
        have live : ∀ z, (Own env z ∨ z = x ∨ z = y) → ∃ ob, h2.get? z = some ob := fun z t => by
          rcases t with t | rfl | rfl
          · exact F2.live t
          · exact J2.la
          · exact J2.lb
        have X34 : Ext (Own env) ρ h2 ρ h4 := X3.own X4 F3
        exact fin F4 I4 (X2.trans (X34.weaken fun _ t => .inl t) live) (J2.ext X34 fun _ t => t) e
      · cases hb
    · cases e
  · cases e
end
end Mine
end

section
open PySem PySem.W PyProof.Rows PySem.Calls PySem.SeqAt
namespace Mine
section
variable {prog : Program} {w : World} {β : Nat → Nat} {dice : List Int} {B : Heap} {Z : Tabs} {n : Nat} {r : R} {env : Env} {fm fm' : Fm} {σ σ' σ₁ : S} {ρ ρ' ρ₁ ρ₂ : List Addr} {s : Shared} {h h' h₁ h₂ : Heap} {tk₁ : Nat} {A : Around} {E : Value → Shared → Prop}
/-- what a loop leaves is what the statement leaves -/
theorem for_post {x y : Addr} {fl : Fl} {R : Flow → Shared → Prop} (q : Kx prog w β dice B env fl fm' σ' ρ s R) (X : Ext noT ρ s.heap ρ₁ h₁) (hx : s.heap.get? x = none) (hy : s.heap.get? y = none) (lx : ∃ o, h₁.get? x = some o) (ly : ∃ o, h₁.get? y = some o) (F : FrOk β B env fm ρ₁ h₁) :
    ∀ f h' tk ρ', FlR β ρ' fl f → FrOk β B env fm' ρ' h' → Inv prog w β dice B σ' ρ' h' → Ext (fun z => Own env z ∨ z = x ∨ z = y) ρ₁ h₁ ρ' h' → R f { s with heap := h', toks := tk } := by
  intro f h' tk ρ' rf F' I' X'
  have Y := (X.weaken (T' := fun z => Own env z ∨ z = x ∨ z = y) fun _ t => t.elim).trans X' fun z t => by
    rcases t with t | rfl | rfl
    · exact F.live t
    · exact lx
    · exact ly
  refine q f h' tk ρ' rf F' I' ⟨Y.pre, fun b o e nb t => Y.keep b o e nb fun z => ?_, Y.live⟩
  rcases z with z | rfl | rfl
  · exact t z
  · rw [hx] at e; cases e
  · rw [hy] at e; cases e
theorem exec_For_iter (H : EvOk prog w β dice B r n) (Hf : FoOk prog w β dice B r n) (C : Cx prog w β dice B n A env fm σ ρ s) {t i : Expr} {b : List Stmt} {pos : Pos} {v : AV} {it : It} {fl : Fl} (hns : notSet i = true) (h1 : r.ev env.scope i fm σ = some (v, σ₁)) (h2 : itOf v σ₁ = some it)
    (h3 : r.fo env.scope t it b fm σ₁ = some (fl, fm', σ')) {Q : Flow → Shared → Prop} (q : Kx prog w β dice B env fl fm' σ' ρ s Q) : wpAny (model prog w) A (exec (.For t i b [] pos) env) Q E s := by
  refine wpAny_For (H C h1 fun val H1 tk1 ρ1 rv I1 X1 => ?_) (notSet_ok hns)
  have C1 := C.step I1 X1 tk1
  refine itOf_ok (s := { s with heap := H1, toks := tk1 }) I1 (own := Own env) C1.fr.notOwn rv h2 fun H2 J2 k2 => ?_
  have F2 : FrOk β B env fm ρ1 H2 := C1.fr.of_keep (T := noT) (fun y o _ e => k2 y o e) fun _ t => t.elim
  have I2 : Inv prog w β dice B σ₁ ρ1 H2 := I1.of_keep (T := noT) (fun y o _ e => k2 y o e) (fun _ t => t.elim) fun _ t => t.elim
  have X2 : Ext noT ρ1 H1 ρ1 H2 := Ext.of_keep I1 (fun y o _ e => k2 y o e) fun _ t => t.elim
  have hxs : s.heap.get? H1.objs.size = none := X1.none_of (fun _ t => t) I1.fresh (size_none _)
  exact Hf (s := { s with heap := H2, toks := tk1 }) ⟨C.bud, F2, I2⟩ J2 h3 fun f h' tk ρ' a b c d => for_post (s := s) (R := Q) q (X1.trans0 X2) hxs hxs J2.la J2.lb F2 f h' tk ρ' a b c d
theorem enumOf_spec {sc : Scope} {i e : Expr} (h : enumOf Z sc i = some e) : ∃ x p pos, i = .Call (.Name x p) [e] [] pos ∧ sget sc.names x = some .globalImplicit ∧ glob Z x = some (.bi .enumerate) := by
  unfold enumOf at h
  split at h
  · split at h
    · split at h
      · rename_i h1 _ h2
        cases h
        exact ⟨_, _, _, rfl, h1, h2⟩
      · cases h
    · cases h
  · cases h
theorem exec_For_enum (T : Tk prog w β Z B) (H : EvOk prog w β dice B r n) (Hf : FoOk prog w β dice B r n) (C : Cx prog w β dice B n A env fm σ ρ s) {t i e : Expr} {b : List Stmt} {pos : Pos} {l : Nat} {vs : List AV} {fl : Fl} (h0 : enumOf Z env.scope i = some e)
    (h1 : evs r env.scope [e] fm σ = some ([.ref l], σ₁)) (h2 : σ₁.get l = some (.list vs))
    (h3 : r.fo env.scope t (.enum l 0) b fm σ₁ = some (fl, fm', σ')) {Q : Flow → Shared → Prop} (q : Kx prog w β dice B env fl fm' σ' ρ s Q) : wpAny (model prog w) A (exec (.For t i b [] pos) env) Q E s := by
  obtain ⟨x, p, cp, rfl, hk, hg⟩ := enumOf_spec h0
  have hn : nameAV Z env.scope x fm = some (.bi .enumerate) := by unfold nameAV; rw [hk]; exact hg
  refine wpAny_For ?_
  show wpAny (model prog w) A (do callWith cp (← eval (.Name x p) env) [] (backTo cp (starEach [e] env)) []) _ E s
  refine wpAny_bind (name_ok T.G C hn fun fv tk0 rf => ?_)
  cases rf
  refine callWith_ok (s := { s with toks := tk0 }) T.G H ⟨C.bud, C.fr, C.inv⟩ (keeps2_bi _) h1 fun vals H1 tk1 ρ1 rvs I1 X1 => ?_
  cases rvs with
  | @cons _ lv _ _ rl rvs =>
    cases rvs
    obtain ⟨y, ey, rfl, z, items, k, hl, hv⟩ := I1.ref rl h2
    have C1 : Cx prog w β dice B n A env fm σ₁ ρ1 { s with heap := H1, toks := tk1 } := ⟨C.bud, C.fr.ext X1, I1⟩
    refine call_enumerate_1 (s := { s with heap := H1, toks := tk1 }) hl fun H2 he hi hsz k2 => ?_
    refine wpAny_pyIter_enum (s := { s with heap := H2, toks := tk1 }) he ?_
    have F2 : FrOk β B env fm ρ1 H2 := C1.fr.of_keep (T := noT) (fun y o _ e => k2 y o e) fun _ t => t.elim
    have I2 : Inv prog w β dice B σ₁ ρ1 H2 := I1.of_keep (T := noT) (fun y o _ e => k2 y o e) (fun _ t => t.elim) fun _ t => t.elim
    have X2 : Ext noT ρ1 H1 ρ1 H2 := Ext.of_keep I1 (fun y o _ e => k2 y o e) fun _ t => t.elim
    have hn1 : H1.get? (H1.objs.size + 1) = none := size_ge_none (Nat.le_succ _)
    have hr1 : H1.objs.size + 1 ∉ ρ1 := fun m => by have := I1.lt m; exact Nat.lt_irrefl _ (Nat.lt_of_succ_lt this)
    have hB : ∀ a, H1.get? a = none → B.get? a = none := fun a e => by
      cases q : B.get? a with
      | none => rfl
      | some o => rw [I1.keep _ _ q] at e; cases e
    have no : ∀ a, H1.get? a = none → ¬ Own env a := fun a e o => by
      obtain ⟨ob, z⟩ := C1.fr.live o
      have z' : H1.get? a = some ob := z
      rw [e] at z'; cases z'
    have J2 : ItAt B (Own env) H2 ρ1 (H1.objs.size + 1) H1.objs.size (.enum l 0) :=
      ⟨⟨y, .none, ey, he, hi⟩, hr1, I1.fresh, ⟨_, he⟩, (let ⟨o, ho, _⟩ := hi; ⟨o, ho⟩), hB _ hn1, hB _ (size_none _), no _ hn1, no _ (size_none _), fun _ _ _ z => absurd z.symm (Nat.ne_of_lt (Nat.lt_succ_self _))⟩
    exact Hf (s := { s with heap := H2, toks := tk1 }) ⟨C.bud, F2, I2⟩ J2 h3 fun f h' tk ρ' a b c d => for_post (s := s) (R := Q) q (X1.trans0 X2) (X1.none_of (fun _ t => t) hr1 hn1) (X1.none_of (fun _ t => t) I1.fresh (size_none _)) J2.la J2.lb F2 f h' tk ρ' a b c d
/-- a statement -/
theorem exec_step (T : Tk prog w β Z B) (H : EvOk prog w β dice B r n) (Ht : TsOk prog w β dice B r n) (Hx : XsOk prog w β dice B r n) (Hm : CmOk prog w β dice B r n) (Hw : WlOk prog w β dice B r n) (Hf : FoOk prog w β dice B r n)
    (C : Cx prog w β dice B n A env fm σ ρ s) {st : Stmt} {fl : Fl} (e : stepX Z r env.scope st fm σ = some (fl, fm', σ')) {Q : Flow → Shared → Prop} (q : Kx prog w β dice B env fl fm' σ' ρ s Q) : wpAny (model prog w) A (exec st env) Q E s := by
  unfold stepX at e
  split at e
  · split at e
    · rename_i v σ1 h1
      cases e
      exact wpAny_Return_some (H C h1 fun val h' tk ρ' rv I X => q _ h' tk ρ' ⟨val, rfl, rv⟩ (C.fr.ext X) I X.toOwn)
    · cases e
  · split at e
    · rename_i hs
      split at e
      · rename_i v σ1 h1
        split at e
        · rename_i fm2 σ2 h2
          cases e
          exact exec_Assign_ok T H Hm C hs h1 h2 q
        · cases e
      · cases e
    · cases e
  · split at e
    · rename_i σ1 h1
      refine wpAny_If (Ht C h1 fun h' tk ρ' I X => ?_)
      rw [if_pos rfl]
      exact Hx (C.step I X tk) e (q.then X.toOwn (C.fr.ext X) tk)
    · rename_i σ1 h1
      refine wpAny_If (Ht C h1 fun h' tk ρ' I X => ?_)
      rw [if_neg (by decide)]
      exact Hx (C.step I X tk) e (q.then X.toOwn (C.fr.ext X) tk)
    · cases e
  · exact wpAny_While (Hw C e q)
  · split at e
    · rename_i e0 h0
      split at e
      · rename_i l σ1 h1
        split at e
        · rename_i vs h2
          exact exec_For_enum T H Hf C h0 h1 h2 e q
        · cases e
      · cases e
    · split at e
      · rename_i hns
        split at e
        · rename_i v σ1 h1
          split at e
          · rename_i it h2
            exact exec_For_iter H Hf C hns h1 h2 e q
          · cases e
        · cases e
      · cases e
  · split at e
    · rename_i v σ1 h1
      cases e
      refine wpAny_Expr_any (H C h1 fun val h' tk ρ' rv I X => q .next h' tk ρ' rfl (C.fr.ext X) I X.toOwn) ?_ rfl
      unfold interactive; rw [C.fr.kind]; rfl
    · cases e
  · cases e
    exact wpAny_Continue (q .cont s.heap s.toks ρ rfl C.fr C.inv C.inv.refl.toOwn)
  · cases e
theorem stepXs_cons (sc : Scope) (st : Stmt) (l : List Stmt) (fm : Fm) (s : S) : stepXs Z r sc (st :: l) fm s = (match stepX Z r sc st fm s with
    | some (.next, fm, s) => stepXs Z r sc l fm s
    | x => x) := rfl
theorem xs_step (T : Tk prog w β Z B) (H : EvOk prog w β dice B r n) (Ht : TsOk prog w β dice B r n) (Hx : XsOk prog w β dice B r n) (Hm : CmOk prog w β dice B r n) (Hw : WlOk prog w β dice B r n) (Hf : FoOk prog w β dice B r n)
    {r' : R} (hr : r'.xs = stepXs Z r) : XsOk prog w β dice B r' (n + 1) := by
  intro A env fm fm' σ σ' ρ s l fl E Q C0 e q
  rw [hr] at e
  replace C0 := C0.less (Nat.le_succ n)
  have C := C0
  clear C0
  induction l generalizing fm σ ρ s with
  | nil => cases e; exact wpAny_execs_nil (q .next s.heap s.toks ρ rfl C.fr C.inv C.inv.refl.toOwn)
  | cons st l ih =>
    rw [stepXs_cons] at e
    split at e
    · rename_i fm1 σ1 h1
      refine wpAny_execs_cons (exec_step T H Ht Hx Hm Hw Hf C h1 fun f h' tk ρ' rf F I X => ?_)
      cases rf
      exact ih e (q.then X F tk) ⟨C.bud, F, I⟩
    · rename_i hn
      refine wpAny_execs_cons (exec_step T H Ht Hx Hm Hw Hf C e fun f h' tk ρ' rf F I X => ?_)
      have := q f h' tk ρ' rf F I X
      cases fl with
      | next => exact (hn _ _ e).elim
      | cont => cases rf; exact this
      | ret v => obtain ⟨val, rfl, _⟩ := rf; exact this
end
end Mine
end

section
open PySem PySem.W PyProof.Rows PySem.Calls PySem.SeqAt
namespace Mine
section
variable {prog : Program} {w : World} {β : Nat → Nat} {dice : List Int} {B : Heap} {Z : Tabs} {n : Nat} {r : R} {env : Env} {fm fm' : Fm} {σ σ' σ₁ : S} {ρ ρ' ρ₁ ρ₂ : List Addr} {s : Shared} {h h' h₁ h₂ : Heap} {tk₁ : Nat} {A : Around} {E : Value → Shared → Prop}
/-- the first of a list's pairs with a name -/
theorem lookup_first {α : Type} {x : Str} {v : α} : ∀ {l : List (Str × α)} {i : Nat}, l[i]? = some (x, v) → (∀ j p, j < i → l[j]? = some p → p.1 ≠ x) → l.lookup x = some v
  | [], i, h, _ => by cases h
  | p :: l, 0, h, _ => by cases h; simp
  | p :: l, i + 1, h, hn => by
    have : (x == p.1) = false := beq_eq_false_iff_ne.mpr fun z => hn 0 p (Nat.succ_pos _) rfl z.symm
    rw [List.lookup_cons, this]
    exact lookup_first (l := l) (i := i) h fun j q hj hq => hn (j + 1) q (Nat.succ_lt_succ hj) hq
theorem lookup_none_of {α : Type} {x : Str} : ∀ {l : List (Str × α)}, (∀ p ∈ l, p.1 ≠ x) → l.lookup x = none
  | [], _ => rfl
  | p :: l, h => by
    have : (x == p.1) = false := beq_eq_false_iff_ne.mpr fun z => h p List.mem_cons_self z.symm
    rw [List.lookup_cons, this]
    exact lookup_none_of fun q m => h q (List.mem_cons_of_mem _ m)
theorem lookup_append {α : Type} (x : Str) : ∀ (l m : List (Str × α)), (l ++ m).lookup x = (l.lookup x).or (m.lookup x)
  | [], m => by simp
  | p :: l, m => by
    rw [List.cons_append, List.lookup_cons, List.lookup_cons]
    cases x == p.1
    · exact lookup_append x l m
    · rfl
theorem lookup_some_first {α : Type} {x : Str} {v : α} : ∀ {l : List (Str × α)}, l.lookup x = some v → ∃ i : Nat, l[i]? = some (x, v) ∧ ∀ (j : Nat) (p : Str × α), j < i → l[j]? = some p → p.1 ≠ x
  | [], h => by cases h
  | p :: l, h => by
    rw [List.lookup_cons] at h
    cases hb : x == p.1 with
    | true =>
      rw [hb] at h; cases h
      exact ⟨0, by rw [beq_iff_eq.mp hb]; rfl, fun j _ hj => absurd hj (Nat.not_lt_zero j)⟩
    | false =>
      rw [hb] at h
      obtain ⟨i, h1, h2⟩ := lookup_some_first h
      refine ⟨i + 1, h1, fun j q hj hq => ?_⟩
      cases j with
      | zero => cases hq; exact fun z => (beq_eq_false_iff_ne.mp hb) z.symm
      | succ j => exact h2 j q (Nat.lt_of_succ_lt_succ hj) hq
/-! the frame of a call -/
theorem zipArgs_cons (x : Str) (rest : List Str) (vs ds : List AV) : zipArgs (x :: rest) vs ds = (match vs with
      | v :: vs => (match zipArgs rest vs ds with | some m => some ((x, v) :: m) | none => none)
      | [] => (match ldrop ds (Nat.sub (llen ds) (Nat.succ (llen rest))) with
        | d :: _ => (match Nat.ble (Nat.succ (llen rest)) (llen ds) with
          | true => (match zipArgs rest [] ds with | some m => some ((x, d) :: m) | none => none)
          | false => none)
        | [] => none)) := by cases vs <;> rfl
theorem zipArgs_spec : ∀ {xs : List Str} {vs ds : List AV} {fm : Fm}, zipArgs xs vs ds = some fm → vs.length ≤ xs.length ∧ fm.map (·.1) = xs ∧ (∀ (i : Nat) (v : AV), vs[i]? = some v → ∃ x, fm[i]? = some (x, v)) ∧
    (∀ (i : Nat) (x : Str) (v : AV), vs.length ≤ i → fm[i]? = some (x, v) → xs.length - i ≤ ds.length ∧ ds[ds.length - (xs.length - i)]? = some v)
  | [], vs, ds, fm, h => by
    cases vs with
    | nil => cases h; exact ⟨Nat.le_refl _, rfl, fun i v e => (nomatch e), fun i x v _ e => (nomatch e)⟩
    | cons => cases h
  | x :: rest, vs, ds, fm, h => by
    rw [zipArgs_cons] at h
    cases vs with
    | cons v vs =>
      dsimp only at h
      split at h
      · rename_i m hm
        cases h
        obtain ⟨h1, h2, h3, h4⟩ := zipArgs_spec hm
        refine ⟨Nat.succ_le_succ h1, by simp [h2], fun i w e => ?_, fun i y w hi e => ?_⟩
        · cases i with
          | zero => cases e; exact ⟨x, rfl⟩
          | succ i => exact h3 i w e
        · cases i with
          | zero => simp at hi
          | succ i =>
            have := h4 i y w (by simpa using hi) e
            simpa using this
      · cases h
    | nil =>
      dsimp only at h
      split at h
      · rename_i d ds' hd
        split at h
        · rename_i hle
          split at h
          · rename_i m hm
            cases h
            obtain ⟨h1, h2, h3, h4⟩ := zipArgs_spec hm
            rw [ldrop_eq, llen_eq, llen_eq] at hd
            rw [llen_eq, llen_eq] at hle
            have hle' : rest.length + 1 ≤ ds.length := Nat.le_of_ble_eq_true hle
            have hd' : ds.drop (ds.length - (rest.length + 1)) = d :: ds' := hd
            refine ⟨Nat.zero_le _, by simp [h2], fun i w e => (nomatch e), fun i y w hi e => ?_⟩
            cases i with
            | zero =>
              cases e
              refine ⟨by simpa using hle', ?_⟩
              have : (ds.drop (ds.length - (rest.length + 1)))[0]? = some d := by rw [hd']; rfl
              rw [List.getElem?_drop] at this
              simpa using this
            | succ i =>
              have := h4 i y w (by simp) e
              simpa using this
          · cases h
        · cases h
      · cases h
/-! how a function's arguments are bound -/
theorem bind_loop {M : Model} {Q : List (Str × Value) → Shared → Prop} : ∀ {l : List (Str × Value)} {sl : List (Str × Value)}, (∀ fin, (∀ x, fin.lookup x = (sl.lookup x).or (l.lookup x)) → Q fin s) →
    wpAny M A (forIn l sl fun x r => if (List.lookup x.1 r).isNone = true then pure (ForInStep.yield (r ++ [(x.1, x.2)])) else pure (ForInStep.yield r)) Q E s
  | [], sl, q => wpAny_pure (q sl fun x => by simp)
  | p :: l, sl, q => by
    rw [List.forIn_cons]
    by_cases h : (List.lookup p.1 sl).isNone = true
    · rw [if_pos h]
      refine wpAny_bind (wpAny_pure (bind_loop fun fin hf => q fin fun x => ?_))
      rw [hf, lookup_append, List.lookup_cons, List.lookup_cons]
      cases hb : x == p.1 with
      | true =>
        have := beq_iff_eq.mp hb
        subst this
        rw [Option.isNone_iff_eq_none.mp h]; simp
      | false => simp
    · rw [if_neg h]
      refine wpAny_bind (wpAny_pure (bind_loop fun fin hf => q fin fun x => ?_))
      rw [hf, List.lookup_cons]
      cases hb : x == p.1 with
      | true =>
        have := beq_iff_eq.mp hb
        subst this
        cases hl : List.lookup p.1 sl with
        | none => rw [hl] at h; exact (h rfl).elim
        | some v => rfl
      | false => rfl
theorem lookup_mem_ne {x : Str} {v : Value} : ∀ {l : List (Str × Value)}, (x, v) ∈ l → l.lookup x ≠ none
  | p :: l, m, e => by
    rw [List.lookup_cons] at e
    rcases List.mem_cons.mp m with rfl | m
    · simp at e
    · cases hb : x == p.1 with
      | true => rw [hb] at e; cases e
      | false => rw [hb] at e; exact lookup_mem_ne m e
theorem bindArgs_ok {fd : FuncData} {as : List Arg} {kd : List (Option Expr)} {dd : List Expr} {vals : List Value} {M : Model} {D : List Value} {Q : List (Str × Value) → Shared → Prop} (hp : fd.params = ⟨[], as, none, [], kd, none, dd⟩)
    (hd : fd.defaults = .none ∧ D = [] ∨ ∃ T items m, fd.defaults = .ref T ∧ D = items ∧ ∃ o, s.heap.get? T = some o ∧ o.data = .seq items.toArray m) (hg : vals.length ≤ as.length) (hk : as.length - D.length ≤ vals.length)
    (q : ∀ fin : List (Str × Value), (∀ x, fin.lookup x = (((as.map (·.arg)).zip vals).lookup x).or ((((as.map (·.arg)).drop (as.length - (D.drop (D.length - as.length)).length)).zip (D.drop (D.length - as.length))).lookup x)) →
      Q ((as.map (·.arg)).filterMap fun n => (fin.lookup n).map fun x => (n, x)) s) : wpAny M A (bindArgs fd ⟨vals, []⟩) Q E s := by
  unfold bindArgs
  simp only [hp, List.map_nil, List.nil_append, List.forIn_nil, List.append_nil]
  refine wpAny_bind (wpAny_pure ?_)
  have seq : ∀ {Q : Option (Array Value) → Shared → Prop}, (∀ o : Option (Array Value), (o.getD #[]).toList = D → Q o s) → wpAny M A (seqItems? fd.defaults) Q E s := fun {Q} q => by
    rcases hd with ⟨h1, h2⟩ | ⟨T, items, m, h1, h2, o, ho, hs⟩
    · rw [h1]; exact wpAny_pure (q none (by rw [h2]; rfl))
    · rw [h1]; exact wpAny_seqItems ho hs (q _ (by rw [h2]; rfl))
  refine wpAny_bind (seq fun o ho => ?_)
  rw [ho]
  rw [if_neg (by simp; omega)]
  have hmem : ∀ x, x ∈ (as.map (·.arg)).take vals.length → ((as.map (·.arg)).zip vals).lookup x ≠ none := fun x hx hn => by
    obtain ⟨i, hi⟩ := List.getElem?_of_mem hx
    have hlt := (List.getElem?_eq_some_iff.mp hi).1
    simp only [List.length_take, List.length_map] at hlt
    rw [List.getElem?_take_of_lt (by omega)] at hi
    have hv : vals[i]? = some vals[i] := List.getElem?_eq_getElem (by omega)
    have hz : ((as.map (·.arg)).zip vals)[i]? = some (x, vals[i]) := by
      rw [List.getElem?_zip_eq_some]; exact ⟨hi, hv⟩
    exact lookup_mem_ne (List.mem_of_getElem? hz) hn
  have hmiss : List.filter (fun n => (List.lookup n ((as.map (·.arg)).zip vals)).isNone) (List.take ((as.map (·.arg)).length - (List.drop (D.length - (as.map (·.arg)).length) D).length) (as.map (·.arg))) = [] := by
    rw [List.filter_eq_nil_iff]
    intro x hx
    rw [Option.isNone_iff_eq_none]
    refine hmem x ?_
    have hle : (as.map (·.arg)).length - (List.drop (D.length - (as.map (·.arg)).length) D).length ≤ vals.length := by simp; omega
    exact (List.take_subset_take_left _ hle) hx
  rw [hmiss]
  rw [if_neg (by simp)]
  refine wpAny_bind (bind_loop fun fin hf => ?_)
  refine wpAny_bind (wpAny_pure ?_)
  rw [if_neg (by simp)]
  refine wpAny_pure (q fin fun x => ?_)
  have := hf x
  simpa using this
end
end Mine
end

section
open PySem PySem.W PyProof.Rows PySem.Calls PySem.SeqAt
namespace Mine
section
variable {prog : Program} {w : World} {β : Nat → Nat} {dice : List Int} {B : Heap} {Z : Tabs} {n : Nat} {r : R} {env : Env} {fm fm' : Fm} {σ σ' σ₁ : S} {ρ ρ' ρ₁ ρ₂ : List Addr} {s : Shared} {h h' h₁ h₂ : Heap} {tk₁ : Nat} {A : Around} {E : Value → Shared → Prop}
theorem VRs.get' {l : List AV} {m : List Value} (r : VRs β ρ l m) {i : Nat} {v : Value} (e : m[i]? = some v) : ∃ a, l[i]? = some a ∧ VR β ρ a v := by
  have hl := r.length
  have hi := (List.getElem?_eq_some_iff.mp e).1
  obtain ⟨v', e', rv⟩ := r.get (List.getElem?_eq_getElem (l := l) (by omega : i < l.length))
  rw [e] at e'; cases e'
  exact ⟨_, List.getElem?_eq_getElem _, rv⟩
theorem binds_rel {xs : List Str} {args ds : List AV} {vals D : List Value} (hz : zipArgs xs args ds = some fm) (ra : VRs β ρ args vals) (rd : VRs β ρ ds D) : vals.length ≤ xs.length ∧ xs.length - D.length ≤ vals.length ∧
    ∀ x v, sget fm x = some v → ∃ val, ((xs.zip vals).lookup x).or (((xs.drop (xs.length - (D.drop (D.length - xs.length)).length)).zip (D.drop (D.length - xs.length))).lookup x) = some val ∧ VR β ρ v val := by
  obtain ⟨h1, h2, h3, h4⟩ := zipArgs_spec hz
  have la := ra.length
  have ld := rd.length
  have lf : fm.length = xs.length := by rw [← h2]; simp
  have key : ∀ i x v, fm[i]? = some (x, v) → xs[i]? = some x := fun i x v e => by
    rw [← h2, List.getElem?_map, e]; rfl
  refine ⟨by omega, ?_, fun x v e => ?_⟩
  · by_cases hlt : vals.length < xs.length
    · have hi : vals.length < fm.length := by omega
      have := h4 vals.length (fm[vals.length]'hi).1 (fm[vals.length]'hi).2 (by omega) (List.getElem?_eq_getElem hi)
      omega
    · omega
  · rw [sget_lookup] at e
    obtain ⟨i, hi, hfirst⟩ := lookup_some_first e
    have hxi := key i x v hi
    have hne : ∀ j y, j < i → xs[j]? = some y → y ≠ x := fun j y hj hy => by
      have hjl : j < fm.length := by have := (List.getElem?_eq_some_iff.mp hi).1; omega
      have := hfirst j _ hj (List.getElem?_eq_getElem hjl)
      have hk := key j _ _ (List.getElem?_eq_getElem hjl)
      rw [hy] at hk
      cases hk; exact this
    by_cases hlt : i < args.length
    · obtain ⟨val, hv, rv⟩ := ra.get (List.getElem?_eq_getElem hlt)
      obtain ⟨y, hy⟩ := h3 i _ (List.getElem?_eq_getElem hlt)
      rw [hi] at hy; cases hy
      refine ⟨val, ?_, rv⟩
      have : (xs.zip vals).lookup x = some val := lookup_first (i := i) (by rw [List.getElem?_zip_eq_some]; exact ⟨hxi, hv⟩) fun j p hj hp => by
        obtain ⟨a, b⟩ := List.getElem?_zip_eq_some.mp hp
        exact hne j p.1 hj a
      rw [this]; rfl
    · obtain ⟨h5, h6⟩ := h4 i x v (by omega) hi
      obtain ⟨val, hv, rv⟩ := rd.get h6
      have hil := (List.getElem?_eq_some_iff.mp hxi).1
      refine ⟨val, ?_, rv⟩
      have hnone : (xs.zip vals).lookup x = none := lookup_none_of fun p m => by
        obtain ⟨j, hj⟩ := List.getElem?_of_mem m
        obtain ⟨a, b⟩ := List.getElem?_zip_eq_some.mp hj
        have := (List.getElem?_eq_some_iff.mp b).1
        exact hne j p.1 (by omega) a
      rw [hnone]
      show List.lookup x _ = some val
      have hk : xs.length - (D.drop (D.length - xs.length)).length ≤ i := by
        simp only [List.length_drop]; omega
      refine lookup_first (i := i - (xs.length - (D.drop (D.length - xs.length)).length)) ?_ fun j p hj hp => ?_
      · rw [List.getElem?_zip_eq_some, List.getElem?_drop, List.getElem?_drop]
        refine ⟨by rw [show xs.length - (D.drop (D.length - xs.length)).length + (i - (xs.length - (D.drop (D.length - xs.length)).length)) = i by omega]; exact hxi, ?_⟩
        rw [← hv]
        congr 1
        simp only [List.length_drop]; omega
      · obtain ⟨a, b⟩ := List.getElem?_zip_eq_some.mp hp
        rw [List.getElem?_drop] at a
        exact hne _ p.1 (by omega) a
/-! what the cells of a call are -/
theorem cellsFrom_mem : ∀ {names : List (Str × NameKind)} {lo : Nat} {acc : List (Str × Addr)} {x : Str} {c : Addr}, (x, c) ∈ cellsFrom lo names acc → (x, c) ∈ acc ∨ (x, NameKind.cell) ∈ names
  | [], lo, acc, x, c, h => .inl h
  | (y, k) :: l, lo, acc, x, c, h => by
    unfold cellsFrom at h
    split at h
    · rename_i hk
      rcases cellsFrom_mem h with h | h
      · rcases List.mem_cons.mp h with h | h
        · cases h; exact .inr (by rw [beq_iff_eq.mp hk]; exact List.mem_cons_self)
        · exact .inl h
      · exact .inr (List.mem_cons_of_mem _ h)
    · rcases cellsFrom_mem h with h | h
      · exact .inl h
      · exact .inr (List.mem_cons_of_mem _ h)
theorem cellsFrom_some {x : Str} : ∀ {names : List (Str × NameKind)} {lo : Nat} {acc : List (Str × Addr)}, ((x, NameKind.cell) ∈ names ∨ ∃ c, acc.lookup x = some c) → ∃ c, (cellsFrom lo names acc).lookup x = some c
  | [], lo, acc, h => h.elim (fun h => (nomatch h)) fun h => h
  | (y, k) :: l, lo, acc, h => by
    unfold cellsFrom
    split
    · rename_i hk
      refine cellsFrom_some ?_
      rcases h with h | ⟨c, h⟩
      · rcases List.mem_cons.mp h with h | h
        · cases h; exact .inr ⟨lo, by simp⟩
        · exact .inl h
      · right
        rw [List.lookup_cons]
        cases x == y
        · exact ⟨c, h⟩
        · exact ⟨lo, rfl⟩
    · rename_i hk
      refine cellsFrom_some ?_
      rcases h with h | h
      · rcases List.mem_cons.mp h with h | h
        · cases h; exact (hk rfl).elim
        · exact .inl h
      · exact .inr h
theorem cellsFrom_keys : ∀ {names : List (Str × NameKind)} {lo : Nat} {acc : List (Str × Addr)}, names.Pairwise (fun x y => x.1 ≠ y.1) → acc.Pairwise (fun x y => x.1 ≠ y.1) → (∀ p ∈ names, ∀ q ∈ acc, p.1 ≠ q.1) → (cellsFrom lo names acc).Pairwise fun x y => x.1 ≠ y.1
  | [], lo, acc, _, h, _ => h
  | (y, k) :: l, lo, acc, h0, h, hd => by
    obtain ⟨h1, h2⟩ := List.pairwise_cons.mp h0
    have hd' : ∀ p ∈ l, ∀ q ∈ acc, p.1 ≠ q.1 := fun p m => hd p (List.mem_cons_of_mem _ m)
    unfold cellsFrom
    split
    · refine cellsFrom_keys h2 (List.pairwise_cons.mpr ⟨fun q m => hd _ List.mem_cons_self q m, h⟩) fun p m q m' => ?_
      rcases List.mem_cons.mp m' with rfl | m'
      · exact fun z => h1 p m z.symm
      · exact hd' p m q m'
    · exact cellsFrom_keys h2 h hd'
theorem lookup_keys {α : Type} {l : List (Str × α)} (h : l.Pairwise fun x y => x.1 ≠ y.1) {x : Str} {k : α} (m : (x, k) ∈ l) : l.lookup x = some k := by
  induction l with
  | nil => cases m
  | cons p l ih =>
    obtain ⟨h1, h2⟩ := List.pairwise_cons.mp h
    rw [List.lookup_cons]
    rcases List.mem_cons.mp m with rfl | m
    · simp
    · have : (x == p.1) = false := beq_eq_false_iff_ne.mpr fun z => h1 _ m z.symm
      rw [this]; exact ih h2 m
theorem bindL_at {kindOf : Str → Option NameKind} {x : Str} {v : Value} (hx : kindOf x = some .local) : ∀ {binds : List (Str × Value)} {m : Str → Option Value}, (∀ p ∈ binds, p.1 = x → p.2 = v) → ((∃ p ∈ binds, p.1 = x) ∨ m x = some v) → bindL kindOf binds m x = some v
  | [], m, _, h => h.elim (fun ⟨_, h, _⟩ => (nomatch h)) fun h => h
  | (y, u) :: l, m, hc, h => by
    unfold bindL
    refine bindL_at hx (fun p mm => hc p (List.mem_cons_of_mem _ mm)) ?_
    by_cases hy : y = x
    · subst hy
      rw [if_pos hx]
      right
      simp only [if_true]
      exact congrArg some (hc (y, u) List.mem_cons_self rfl)
    · rcases h with ⟨p, mm, hp⟩ | h
      · rcases List.mem_cons.mp mm with rfl | mm
        · exact (hy hp).elim
        · exact .inl ⟨p, mm, hp⟩
      · right
        split
        · have : ¬ x = y := fun z => hy z.symm
          simp [this, h]
        · exact h
theorem bindC_at {kindOf : Str → Option NameKind} {x : Str} {v : Value} (hx : ¬ kindOf x = some .local) : ∀ {binds : List (Str × Value)} {m : Str → Option Value}, (∀ p ∈ binds, p.1 = x → p.2 = v) → ((∃ p ∈ binds, p.1 = x) ∨ m x = some v) → bindC kindOf binds m x = some v
  | [], m, _, h => h.elim (fun ⟨_, h, _⟩ => (nomatch h)) fun h => h
  | (y, u) :: l, m, hc, h => by
    unfold bindC
    refine bindC_at hx (fun p mm => hc p (List.mem_cons_of_mem _ mm)) ?_
    by_cases hy : y = x
    · subst hy
      rw [if_neg hx]
      right
      simp only [if_true]
      exact congrArg some (hc (y, u) List.mem_cons_self rfl)
    · rcases h with ⟨p, mm, hp⟩ | h
      · rcases List.mem_cons.mp mm with rfl | mm
        · exact (hy hp).elim
        · exact .inl ⟨p, mm, hp⟩
      · right
        split
        · exact h
        · have : ¬ x = y := fun z => hy z.symm
          simp [this, h]
end
end Mine
end

section
open PySem PySem.W PyProof.Rows PySem.Calls PySem.SeqAt
namespace Mine
/-- what a function's text is -/
structure FnOk (K : Frag) (fd : FuncData) : Prop where
  clo : fd.closure = []
  kind : fd.scope.kind = .function
  gen : fd.scope.isGenerator = false
  co : fd.scope.isCoroutine = false
  nd : fd.scope.names.Pairwise fun x y => x.1 ≠ y.1
  nm : ∀ p ∈ fd.scope.names, p.1 ≠ "__debug__" ∧ p.1 ≠ "__classdict__" ∧ p.2 ≠ .free
  par : ∃ as kd dd, fd.params = ⟨[], as, none, [], kd, none, dd⟩ ∧ ∀ a ∈ as, fd.scope.names.lookup a.arg = some .local ∨ fd.scope.names.lookup a.arg = some .cell
  code : ∃ c, fd.code = .ref c ∧ ∃ cl d vs t sl, K.lookup c = some ⟨cl, d, .fields vs, sl⟩ ∧ vs[1]? = some (.str fd.qualname t)
  gl : fd.globals = mainGlobals
  bu : fd.builtins = builtinsNs
theorem nameOk_spec {p : Str × NameKind} (h : nameOk p = true) : p.1 ≠ "__debug__" ∧ p.1 ≠ "__classdict__" ∧ p.2 ≠ .free := by
  unfold nameOk at h
  rw [seq_eq, seq_eq] at h
  split at h
  · cases h
  · rename_i h1 h2 h3
    exact ⟨of_decide_eq_false h1, of_decide_eq_false h2, h3⟩
  · cases h
theorem fnOk_spec {Z : Tabs} {fd : FuncData} (h : fnOk Z fd = true) : FnOk Z.K fd := by
  unfold fnOk at h
  split at h
  · rename_i h1 h2 h3 h4 h5 h6
    have hs : ∃ ns more, fd.scope = ⟨.function, ns, false, false, more⟩ ∧ lall nameOk ns = true ∧ fresh ns = true := by
      unfold scopeOk at h2
      split at h2
      · rename_i ns more e
        split at h2
        · rename_i hl; exact ⟨ns, more, e, hl, h2⟩
        · cases h2
      · cases h2
    obtain ⟨ns, more, es, hl, hf⟩ := hs
    have hp : ∃ as kd dd, fd.params = ⟨[], as, none, [], kd, none, dd⟩ ∧ lall (argOk fd.scope.names) as = true := by
      unfold paramsOk at h3
      split at h3
      · rename_i l kd dd e; exact ⟨l, kd, dd, e, h3⟩
      · cases h3
    obtain ⟨as, kd, dd, ep, ha⟩ := hp
    refine ⟨h1, by rw [es], by rw [es], by rw [es], ?_, ?_, ⟨as, kd, dd, ep, fun a m => ?_⟩, ?_, Nat.eq_of_beq_eq_true h5, Nat.eq_of_beq_eq_true h6⟩
    · rw [es]; exact fresh_nodup hf
    · rw [es]; exact fun p m => nameOk_spec (lall_mem hl p m)
    · have := lall_mem ha a m
      unfold argOk at this
      rw [sget_lookup] at this
      split at this
      · rename_i e; exact .inl e
      · rename_i e; exact .inr e
      · cases this
    · unfold codeOk at h4
      split at h4
      · rename_i c ec
        split at h4
        · rename_i cl d vs sl e
          split at h4
          · rename_i a nm t rest ev
            rw [nget_lookup] at e
            refine ⟨c, ec, cl, d, vs, t, sl, e, ?_⟩
            rw [← Array.getElem?_toList, ev, ← seq_iff.mp h4]; rfl
          · cases h4
        · cases h4
      · cases h4
  · cases h
theorem bads_ok {Z : Tabs} (h : bads Z = []) : ∀ {a : Nat} {c d fd sl}, nget Z.K a = some ⟨c, d, .func fd, sl⟩ → FnOk Z.K fd := by
  intro a c d fd sl e
  rw [nget_lookup] at e
  have key : ∀ l : List (Nat × Obj), (@List.rec (Nat × Obj) (fun _ => List Nat) [] (fun p _ ih => match fnBad Z p with | true => p.1 :: ih | false => ih) l) = [] → ∀ p ∈ l, fnBad Z p = false := by
    intro l
    induction l with
    | nil => intro _ p m; cases m
    | cons q l ih =>
      intro hl p m
      have hl' : (match (generalizing := false) fnBad Z q with | true => q.1 :: (@List.rec (Nat × Obj) (fun _ => List Nat) [] (fun p _ ih => match fnBad Z p with | true => p.1 :: ih | false => ih) l) | false => (@List.rec (Nat × Obj) (fun _ => List Nat) [] (fun p _ ih => match fnBad Z p with | true => p.1 :: ih | false => ih) l)) = [] := hl
      split at hl'
      · cases hl'
      · rename_i hq
        rcases List.mem_cons.mp m with rfl | m
        · exact hq
        · exact ih hl' p m
  have m : (a, (⟨c, d, .func fd, sl⟩ : Obj)) ∈ Z.K := by
    have : ∀ l : List (Nat × Obj), l.lookup a = some ⟨c, d, .func fd, sl⟩ → (a, (⟨c, d, .func fd, sl⟩ : Obj)) ∈ l := by
      intro l
      induction l with
      | nil => intro e; cases e
      | cons q l ih =>
        intro e
        rw [List.lookup_cons] at e
        cases hb : a == q.1 with
        | true =>
          rw [hb] at e
          have h2 : q.2 = _ := Option.some.inj e
          have h3 : q = (a, (⟨c, d, .func fd, sl⟩ : Obj)) := Prod.ext (beq_iff_eq.mp hb).symm h2
          rw [← h3]; exact List.mem_cons_self
        | false => rw [hb] at e; exact List.mem_cons_of_mem _ (ih e)
    exact this _ e
  have := key _ h _ m
  unfold fnBad at this
  dsimp only at this
  split at this
  · rename_i hq; exact fnOk_spec hq
  · cases this
section
variable {prog : Program} {w : World} {β : Nat → Nat} {dice : List Int} {B : Heap} {Z : Tabs} {n : Nat} {r : R} {env : Env} {fm fm' : Fm} {σ σ' σ₁ : S} {ρ ρ' ρ₁ ρ₂ : List Addr} {s : Shared} {h h' h₁ h₂ : Heap} {tk₁ : Nat} {A : Around} {E : Value → Shared → Prop}
theorem dflts_ok (G : Gd prog w β Z B) (I : Inv prog w β dice B σ ρ s.heap) {v : Value} {ds : List AV} (e : dfltsOf Z v = some ds) : ∃ D, VRs β ρ ds D ∧ (v = .none ∧ D = [] ∨ ∃ T items m, v = .ref T ∧ D = items ∧ ∃ o, s.heap.get? T = some o ∧ o.data = .seq items.toArray m) := by
  unfold dfltsOf at e
  split at e
  · cases e; exact ⟨[], .nil, .inl ⟨rfl, rfl⟩⟩
  · rename_i a
    split at e
    · rename_i c d vs m sl hK
      rw [nget_lookup] at hK
      have ho := I.keep _ _ (G.X _ _ hK)
      refine ⟨vs.toList, ?_, .inr ⟨a, vs.toList, m, rfl, rfl, _, ho, by simp⟩⟩
      have : ∀ (l : List Value) (ds : List AV), lmap? topAV l = some ds → VRs β ρ ds l := by
        intro l
        induction l with
        | nil => intro ds e; cases e; exact .nil
        | cons v l ih =>
          intro ds e
          cases hb : topAV v with
          | none =>
            have e' : lmap? topAV (v :: l) = none := by unfold lmap?; simp only [hb]
            rw [e'] at e; cases e
          | some b =>
            cases hr : lmap? topAV l with
            | none =>
              have e' : lmap? topAV (v :: l) = none := by unfold lmap? at hr ⊢; simp only [hb, hr]
              rw [e'] at e; cases e
            | some m =>
              have e' : lmap? topAV (v :: l) = some (b :: m) := by unfold lmap? at hr ⊢; simp only [hb, hr]
              rw [e'] at e; cases e
              exact .cons (topAV_ok hb) (ih _ hr)
      exact this _ _ e
    · cases e
  · cases e
theorem call_frame (FN : FnOk Z.K fd) (I : Inv prog w β dice B σ ρ s.heap) {a : Addr} {s₁ : Shared} {binds : List (Str × Value)} {g : Str → Option Value} (hb : ∀ p ∈ binds, g p.1 = some p.2) (hg : ∀ x v, sget fm x = some v → ∃ val, g x = some val ∧ VR β ρ v val ∧ ∃ p ∈ binds, p.1 = x)
    (J : InCallC s (callEnvC fd s.heap.objs.size a).locals (bindL (callEnvC fd s.heap.objs.size a).kindOf binds fun _ => none) (callEnvC fd s.heap.objs.size a).cells (bindC (callEnvC fd s.heap.objs.size a).kindOf binds fun _ => none) s₁) :
    FrOk β B (callEnvC fd s.heap.objs.size a) fm ρ s₁.heap := by
  have hcell : ∀ x c, (x, c) ∈ (callEnvC fd s.heap.objs.size a).cells → (callEnvC fd s.heap.objs.size a).cells.lookup x = some c := fun x c m =>
    lookup_keys (cellsFrom_keys FN.nd .nil (fun _ _ _ m => (nomatch m))) m
  have hval : ∀ x v, sget fm x = some v → ∃ val, VR β ρ v val ∧ (∀ p ∈ binds, p.1 = x → p.2 = val) ∧ ∃ p ∈ binds, p.1 = x := fun x v e => by
    obtain ⟨val, h1, h2, h3⟩ := hg x v e
    refine ⟨val, h2, fun p m hp => ?_, h3⟩
    have := hb p m
    rw [hp, h1] at this
    cases this; rfl
  refine ⟨FN.kind, FN.gl, FN.bu, fun p m => ⟨(FN.nm p m).1, (FN.nm p m).2.1⟩, ⟨_, J.toInCall.ns, fun x v e hk => ?_⟩, fun x v e hk => ?_, fun x hk => ?_, fun x c m => ?_, J.apart, fun x c m => ?_, fun b o => ?_⟩
  · obtain ⟨val, h1, h2, h3⟩ := hval x v e
    exact ⟨val, bindL_at hk h2 (.inl h3), h1⟩
  · obtain ⟨val, h1, h2, h3⟩ := hval x v e
    have hkc : (callEnvC fd s.heap.objs.size a).kindOf x = some .cell := by
      rcases hk with hk | hk
      · exact hk
      · exact absurd rfl (FN.nm _ (mem_of_lookup hk)).2.2
    obtain ⟨c, hc⟩ := cellsFrom_some (lo := s.heap.objs.size + 1) (acc := []) (.inl (mem_of_lookup hkc))
    have hcv := J.cell x c hc
    rw [bindC_at (by rw [hkc]; decide) h2 (.inl h3)] at hcv
    exact ⟨c, val, hc, hcv, h1⟩
  · have hkc : (callEnvC fd s.heap.objs.size a).kindOf x = some .cell := by
      rcases hk with hk | hk
      · exact hk
      · exact absurd rfl (FN.nm _ (mem_of_lookup hk)).2.2
    exact cellsFrom_some (.inl (mem_of_lookup hkc))
  · exact ⟨_, J.cell x c (hcell x c m)⟩
  · have := J.above x c m
    exact fun z => by rw [z] at this; exact Nat.lt_irrefl _ this
  · have hge : s.heap.objs.size ≤ b := by
      rcases o with rfl | ⟨x, m⟩
      · exact Nat.le_refl _
      · exact Nat.le_of_lt (J.above x b m)
    have hn := size_ge_none hge
    refine ⟨?_, fun m => ?_⟩
    · cases q : B.get? b with
      | none => rfl
      | some o => have := I.keep _ _ q; rw [hn] at this; cases this
    · obtain ⟨ob, q⟩ := I.live b m
      rw [hn] at q; cases q
end
end Mine
end

section
open PySem PySem.W PyProof.Rows PySem.Calls PySem.SeqAt
namespace Mine
section
variable {prog : Program} {w : World} {β : Nat → Nat} {dice : List Int} {B : Heap} {Z : Tabs} {n : Nat} {r : R} {env : Env} {fm fm' : Fm} {σ σ' σ₁ : S} {ρ ρ' ρ₁ ρ₂ : List Addr} {s : Shared} {h h' h₁ h₂ : Heap} {tk₁ : Nat} {A : Around} {E : Value → Shared → Prop}
theorem filterMap_mem {xs : List Str} {fin : List (Str × Value)} {p : Str × Value} (m : p ∈ xs.filterMap fun n => (fin.lookup n).map fun x => (n, x)) : p.1 ∈ xs ∧ fin.lookup p.1 = some p.2 := by
  obtain ⟨x, hx, e⟩ := List.mem_filterMap.mp m
  cases hl : fin.lookup x with
  | none => rw [hl] at e; cases e
  | some v => rw [hl] at e; cases e; exact ⟨hx, hl⟩
theorem call_fn (G : Gd prog w β Z B) (bud : Bud A (n + 1)) (I : Inv prog w β dice B σ ρ s.heap) {a : Addr} {c : Value} {d : Option Addr} {fd : FuncData} {sl : Array (Option Value)} {body : List Stmt} {ds args : List AV} {vals : List Value}
    (hK : nget Z.K a = some ⟨c, d, .func fd, sl⟩) (FN : FnOk Z.K fd) (hbody : fd.body = .stmts body) (hds : dfltsOf Z fd.defaults = some ds) (hz : zipArgs (fd.params.args.map (·.arg)) args ds = some fm) (ra : VRs β ρ args vals) {R : Result → Shared → Prop}
    (h : ∀ h₁ tk₁, FrOk β B (callEnvC fd s.heap.objs.size a) fm ρ h₁ → Inv prog w β dice B σ ρ h₁ → Ext noT ρ s.heap ρ h₁ → (∀ b, Own (callEnvC fd s.heap.objs.size a) b → s.heap.get? b = none) → Bud (A.deeper (callEnvC fd s.heap.objs.size a)) n → ∀ {E : Value → Shared → Prop},
      wpAny (model prog w) (A.deeper (callEnvC fd s.heap.objs.size a)) (execs body (callEnvC fd s.heap.objs.size a)) (fun f s' => R (.ok (.ret (match f with | .ret v => v | _ => .none))) s') E { s with heap := h₁, toks := tk₁ }) :
    codeAny (model prog w) A (.call (.ref a) ⟨vals, []⟩) R s := by
  rw [nget_lookup] at hK
  have ho := I.keep _ _ (G.X _ _ hK)
  obtain ⟨as, kd, dd, ep, hpar⟩ := FN.par
  obtain ⟨D, rD, hD⟩ := dflts_ok G I hds
  rw [ep] at hz
  have BR := binds_rel hz ra rD
  simp only [List.length_map] at BR
  obtain ⟨b1, b2, b3⟩ := BR
  obtain ⟨cc, ec, cl, cd', cvs, ct, csl, hcK, hcv⟩ := FN.code
  have hco := I.keep _ _ (G.X _ _ hcK)
  refine codeAny_call_function (Nat.lt_of_lt_of_le (Nat.lt_of_le_of_lt (Nat.le_trans (Nat.le_add_right _ _) bud.dp) (by decide)) (Nat.le_refl 1000)) ho rfl FN.co FN.gen hbody ⟨cc, _, cvs, ct, ec, hco, rfl, hcv⟩ (bindArgs_ok (D := D) ep hD b1 (by omega) fun fin hfin => ?_)
  rw [FN.clo]
  have hbind : ∀ p ∈ (as.map (·.arg)).filterMap fun n => (fin.lookup n).map fun x => (n, x), fd.scope.names.lookup p.1 = some .local ∨ fd.scope.names.lookup p.1 = some .cell := fun p m => by
    obtain ⟨hx, _⟩ := filterMap_mem m
    obtain ⟨a', ha, e⟩ := List.mem_map.mp hx
    rw [← e]; exact hpar a' ha
  refine wpAny_newFunctionEnv_cells FN.kind (fun p m => ?_) fun env he s' J => ?_
  · rcases hbind p m with hb | hb
    · exact .inl hb
    · obtain ⟨c', hc'⟩ := cellsFrom_some (lo := s.heap.objs.size + 1) (acc := []) (.inl (mem_of_lookup hb))
      exact .inr ⟨hb, by rw [hc']; rfl⟩
  · subst he
    refine ⟨G.lim.keeps fun b o e => J.toInCall.keep b o (I.keep b o e), codeAny_func ?_⟩
    have J' : InCallC s (callEnvC fd s.heap.objs.size a).locals (bindL (callEnvC fd s.heap.objs.size a).kindOf ((as.map (·.arg)).filterMap fun n => (fin.lookup n).map fun x => (n, x)) fun _ => none) (callEnvC fd s.heap.objs.size a).cells
        (bindC (callEnvC fd s.heap.objs.size a).kindOf ((as.map (·.arg)).filterMap fun n => (fin.lookup n).map fun x => (n, x)) fun _ => none) s' := J
    have F' := call_frame (β := β) (prog := prog) (w := w) (dice := dice) (σ := σ) (fm := fm) (ρ := ρ) FN I (g := fun x => fin.lookup x) (fun p m => (filterMap_mem m).2) (fun x v e => by
      obtain ⟨val, h1, h2⟩ := b3 x v e
      have h1' : fin.lookup x = some val := by rw [hfin x]; exact h1
      refine ⟨val, h1', h2, (x, val), List.mem_filterMap.mpr ⟨x, ?_, by rw [h1']; rfl⟩, rfl⟩
      have hm := (zipArgs_spec hz).2.1
      rw [sget_lookup] at e
      rw [← hm]
      exact List.mem_map.mpr ⟨(x, v), mem_of_lookup e, rfl⟩) J'
    obtain ⟨h₁, tk, rfl⟩ := J.toInCall.same
    have k : ∀ b o, s.heap.get? b = some o → h₁.get? b = some o := J.toInCall.keep
    have hnew : ∀ b, Own (callEnvC fd s.heap.objs.size a) b → s.heap.get? b = none := fun b o => by
      refine size_ge_none ?_
      rcases o with rfl | ⟨x, m⟩
      · exact Nat.le_refl _
      · exact Nat.le_of_lt (J.above x b m)
    have bud' : Bud (A.deeper (callEnvC fd s.heap.objs.size a)) n := ⟨bud.hd, by have := bud.dp; show A.depth + 1 + n ≤ 990; omega, by have := bud.un; show A.units + 3 + 20 * n + 200 ≤ cLine; omega⟩
    exact h h₁ tk F' (I.of_keep (T := noT) (fun y o _ e => k y o e) (fun _ t => t.elim) fun _ t => t.elim) (Ext.of_keep I (fun y o _ e => k y o e) fun _ t => t.elim) hnew bud' (E := _)
/-- a call of a function, walked -/
theorem cl_fn (G : Gd prog w β Z B) (Hx : XsOk prog w β dice B r n) (bud : Bud A (n + 1)) (I : Inv prog w β dice B σ ρ s.heap) {a : Addr} {c : Value} {d : Option Addr} {fd : FuncData} {sl : Array (Option Value)} {body : List Stmt} {ds args : List AV} {vals : List Value} {v : AV}
    (hK : nget Z.K a = some ⟨c, d, .func fd, sl⟩) (FN : FnOk Z.K fd) (hbody : fd.body = .stmts body) (hds : dfltsOf Z fd.defaults = some ds) (hz : zipArgs (fd.params.args.map (·.arg)) args ds = some fm) (ra : VRs β ρ args vals)
    (e : (match (generalizing := false) r.xs fd.scope body fm σ with
              | some (.ret v, _, s) => some (v, s)
              | some (.next, _, s) => some (.none, s)
              | _ => none) = some (v, σ')) {R : Result → Shared → Prop} (q : Kv prog w β dice B σ' v ρ s fun v s' => R (.ok (.ret v)) s') : codeAny (model prog w) A (.call (.ref a) ⟨vals, []⟩) R s := by
  refine call_fn G bud I hK FN hbody hds hz ra fun h₁ tk₁ F1 I1 X1 hnew bud' {E} => ?_
  have C1 : Cx prog w β dice B n (A.deeper (callEnvC fd s.heap.objs.size a)) (callEnvC fd s.heap.objs.size a) fm σ ρ { s with heap := h₁, toks := tk₁ } := ⟨bud', F1, I1⟩
  have fin : ∀ {ρ' : List Addr} {h' : Heap}, Ext (Own (callEnvC fd s.heap.objs.size a)) ρ h₁ ρ' h' → Ext noT ρ s.heap ρ' h' := fun X => by
    have Y := (X1.toOwn (env := callEnvC fd s.heap.objs.size a)).own2 X F1
    exact ⟨Y.pre, fun b o e nb _ => Y.keep b o e nb fun t => (by rw [hnew b t] at e; cases e), Y.live⟩
  split at e
  · rename_i v' fm2 σ2 h2
    cases e
    refine Hx C1 h2 fun f h' tk ρ' rf F I X => ?_
    obtain ⟨val, rfl, rv⟩ := rf
    exact q val h' tk ρ' rv I (fin X)
  · rename_i fm2 σ2 h2
    cases e
    refine Hx C1 h2 fun f h' tk ρ' rf F I X => ?_
    cases rf
    exact q .none h' tk ρ' rfl I (fin X)
  · cases e
end
end Mine
end

section
open PySem PySem.W PyProof.Rows PySem.Calls PySem.SeqAt
namespace Mine
/-- what is known of a class that is called -/
structure ClsOk (Z : Tabs) (C g : Nat) : Prop where
  made : makesIn Z.K C = true
  init : findIn Z.K (.ref C) "__init__" = some (some (.ref g))
  isfn : typeIn Z.K (.ref g) = some (.type "function")
  fn : ∃ c d fd sl, nget Z.K g = some ⟨c, d, .func fd, sl⟩
  nr : Nat.beq g Z.rolled = false
section
variable {prog : Program} {w : World} {β : Nat → Nat} {dice : List Int} {B : Heap} {Z : Tabs} {n : Nat} {r : R} {env : Env} {fm fm' : Fm} {σ σ' σ₁ : S} {ρ ρ' ρ₁ ρ₂ : List Addr} {s : Shared} {h h' h₁ h₂ : Heap} {tk₁ : Nat} {A : Around} {E : Value → Shared → Prop}
def CcOk (prog : Program) (w : World) (β : Nat → Nat) (dice : List Int) (B : Heap) (Z : Tabs) (r : R) (n : Nat) : Prop := ∀ {A : Around} {σ σ' : S} {ρ : List Addr} {s : Shared} {g : Nat} {args : List AV} {vs : List Value} {v : AV} {R : Result → Shared → Prop}, Bud A n → Inv prog w β dice B σ ρ s.heap →
  (∃ c d fd sl, nget Z.K g = some ⟨c, d, .func fd, sl⟩) → Nat.beq g Z.rolled = false → VRs β ρ args vs → r.cl (.top g) args σ = some (v, σ') → Kv prog w β dice B σ' v ρ s (fun v s' => R (.ok (.ret v)) s') → codeAny (model prog w) A (.call (.ref g) ⟨vs, []⟩) R s
/-- the contract of the function that draws -/
def RoOk (prog : Program) (w : World) (β : Nat → Nat) (dice : List Int) (B : Heap) (Z : Tabs) : Prop := ∀ {A : Around} {σ : S} {ρ : List Addr} {s : Shared} {i j t m : Nat} {v : AV} {o : List (Nat × Nat × AV)} {vs : List Value} {Q : Value → Shared → Prop} {E : Value → Shared → Prop}, Bud A 8 → Inv prog w β dice B σ ρ s.heap →
  VRs β ρ [.ref i, .int (.ofNat m)] vs → σ.get i = some (.list [.ref j, .int (.ofNat t)]) → σ.get j = some .dice → σ.o = (t, m, v) :: o →
  Kv prog w β dice B ⟨σ.h.put (.list [.ref j, .int (.ofNat (Nat.succ t))]) i, σ.n, o⟩ v ρ s Q → wpAny (model prog w) A (call (.ref Z.rolled) vs) Q E s
theorem stepCl_fn {a : Nat} (hr : Nat.beq a Z.rolled = false) {c d fd sl} (hK : nget Z.K a = some ⟨c, d, .func fd, sl⟩) {args : List AV} {v : AV} (e : stepCl Z r (.top a) args σ = some (v, σ')) :
    ∃ body ds fm, fd.body = .stmts body ∧ dfltsOf Z fd.defaults = some ds ∧ zipArgs (fd.params.args.map (·.arg)) args ds = some fm ∧ (match (generalizing := false) r.xs fd.scope body fm σ with
              | some (.ret v, _, s) => some (v, s)
              | some (.next, _, s) => some (.none, s)
              | _ => none) = some (v, σ') := by
  unfold stepCl at e
  dsimp only at e
  rw [hr, hK] at e
  dsimp only at e
  split at e
  · rename_i body hb
    split at e
    · rename_i ds hds
      split at e
      · rename_i fm hz
        exact ⟨body, ds, fm, hb, hds, hz, e⟩
      · cases e
    · cases e
  · cases e
theorem cc_step (G : Gd prog w β Z B) (hF : bads Z = []) (Hx : XsOk prog w β dice B r n) {r' : R} (hr' : r'.cl = stepCl Z r) : CcOk prog w β dice B Z r' (n + 1) := by
  intro A σ σ' ρ s g args vs v R bud I hfn hnr ra e q
  obtain ⟨c, d, fd, sl, hK⟩ := hfn
  rw [hr'] at e
  obtain ⟨body, ds, fm, h1, h2, h3, h4⟩ := stepCl_fn hnr hK e
  exact cl_fn G Hx bud I hK (bads_ok hF hK) h1 h2 h3 ra h4 q
theorem cl_step (G : Gd prog w β Z B) (hF : bads Z = []) (hC : ∀ C g, nget Z.cls C = some g → ClsOk Z C g) (hR : RoOk prog w β dice B Z) (Hx : XsOk prog w β dice B r n) (Hc : CcOk prog w β dice B Z r n) (h8 : 8 ≤ n + 1) {r' : R} (hr' : r'.cl = stepCl Z r) : ClOk prog w β dice B r' (n + 1) := by
  intro A σ σ' ρ s f fv args vs v E Q bud I rf ra e q
  rw [hr'] at e
  have e0 := e
  unfold stepCl at e
  split at e
  · rename_i b
    cases rf
    exact callBi_ok I bud.hd ra e q
  · rename_i a
    cases rf
    split at e
    · rename_i hro
      have ha := Nat.eq_of_beq_eq_true hro
      split at e
      · rename_i i many
        split at e
        · rename_i j turn g
          split at e
          · rename_i gd
            split at e
            · rename_i t m v' o ho
              split at e
              · rename_i h1 h2
                cases e
                have h1' := Nat.eq_of_beq_eq_true h1
                have h2' := Nat.eq_of_beq_eq_true h2
                subst h1' h2' ha
                exact hR (bud.less h8) I ra g gd ho q
              · cases e
            · cases e
          · cases e
        · cases e
      · cases e
    · rename_i hnr
      split at e
      · rename_i c d fd sl hK
        exact wpAny_call (cc_step G hF Hx hr' bud I ⟨_, _, _, _, hK⟩ hnr ra (by rw [hr']; exact e0) q)
      · rename_i c d cd sl hK
        split at e
        · rename_i g hg
          split at e
          · rename_i dd σ1 h1
            split at e
            · rename_i ii σ2 h2
              split at e
              · rename_i σ3 h3
                cases e
                have CO := hC a g hg
                have X : Z.K.In s.heap := fun b o z => I.keep _ _ (G.X b o z)
                refine wpAny_call ?_
                obtain ⟨hh, gg, dr, tk, os⟩ := s
                obtain ⟨J1, r1, X1⟩ := I.alloc (ob := emptyDict) rfl h1 ⟨Nat.zero_le _, [], 0, Heap.get?_push_size _ rfl, .nil⟩
                have hsz : (hh.push emptyDict).objs.size = hh.objs.size + 1 := Heap.size_push ..
                have hr1 : (ρ ++ [hh.objs.size])[dd]? = some hh.objs.size := by
                  obtain ⟨x, e1, e2⟩ := r1
                  cases e2; exact e1
                obtain ⟨J2, r2, X2⟩ := J1.alloc (ob := instObj a hh.objs.size) rfl h2 ⟨hh.objs.size, get_app hr1, Heap.get?_push_size _ rfl⟩
                have r2' : VR β (ρ ++ [hh.objs.size] ++ [(hh.push emptyDict).objs.size]) (.ref ii) (.ref (hh.objs.size + 1)) := by
                  obtain ⟨x, e1, e2⟩ := r2
                  exact ⟨x, e1, by rw [← hsz]; exact e2⟩
                refine make_core (makes_of X CO.made) (looks_findIn X CO.init) (fun self => bind_fn X self CO.isfn) (.inl rfl) ?_
                have bud' : Bud (A.under (.builtin "type.__call__" ⟨.ref a :: vs, []⟩)) n := ⟨bud.hd, by have := bud.dp; rw [depth_under_make]; omega, by have := bud.un; have hu : (Code.builtin "type.__call__" ⟨.ref a :: vs, []⟩).cUnits = 1 := rfl; show A.units + (Code.builtin "type.__call__" ⟨.ref a :: vs, []⟩).cUnits + 20 * n + 200 ≤ cLine; rw [hu]; omega⟩
                refine Hc bud' J2 CO.fn CO.nr (.cons r2' ((ra.ext X1).ext X2)) h3 fun val h' tk' ρ' rv I' X' => ?_
                cases rv
                refine ⟨rfl, ?_⟩
                exact q (.ref (hh.objs.size + 1)) h' tk' ρ' (r2'.ext X') I' ((X1.trans0 X2).trans0 X')
              · cases e
            · cases e
          · cases e
        · cases e
      · cases e
  · cases e
end
end Mine
end

section
open PySem PySem.W PyProof.Rows PySem.Calls PySem.SeqAt
namespace Mine
section
variable {prog : Program} {w : World} {β : Nat → Nat} {dice : List Int} {B : Heap} {Z : Tabs} {n : Nat} {r : R} {env : Env} {fm fm' : Fm} {σ σ' σ₁ : S} {ρ ρ' ρ₁ ρ₂ : List Addr} {s : Shared} {h h' h₁ h₂ : Heap} {tk₁ : Nat} {A : Around} {E : Value → Shared → Prop}
/-- all that is known of the tables -/
structure Fx (prog : Program) (w : World) (β : Nat → Nat) (dice : List Int) (B : Heap) (Z : Tabs) : Prop where
  T : Tk prog w β Z B
  hM : ∀ C ms, nget Z.mth C = some ms → MthOk Z.K C ms
  hF : bads Z = []
  hC : ∀ C g, nget Z.cls C = some g → ClsOk Z C g
  hr : keepIn Z.K (.ref Z.rolled) = true
  hR : RoOk prog w β dice B Z
structure All (prog : Program) (w : World) (β : Nat → Nat) (dice : List Int) (B : Heap) (Z : Tabs) (r : R) (n : Nat) : Prop where
  ev : EvOk prog w β dice B r n
  ts : TsOk prog w β dice B r n
  xs : XsOk prog w β dice B r n
  cl : ClOk prog w β dice B r n
  wl : WlOk prog w β dice B r n
  fo : FoOk prog w β dice B r n
  co : CoOk prog w β dice B r n
  cm : CmOk prog w β dice B r n
  kp : KpOk β Z r
  cc : CcOk prog w β dice B Z r n
theorem kp_step (F : Fx prog w β dice B Z) : KpOk β Z (step Z r) := by
  intro σ σ' ρ f fv args v rf e
  replace e : stepCl Z r f args σ = some (v, σ') := e
  unfold stepCl at e
  split at e
  · cases rf; exact keeps2_bi _
  · rename_i a
    cases rf
    split at e
    · rename_i hro
      rw [Nat.eq_of_beq_eq_true hro]
      exact keeps2_K F.hr
    · split at e
      · rename_i c d fd sl hK
        rw [nget_lookup] at hK
        exact keeps2_K (by unfold keepIn; dsimp only; rw [hK])
      · rename_i c d cd sl hK
        split at e
        · rename_i g hg
          have CO := F.hC a g hg
          rw [nget_lookup] at hK
          refine keeps2_K ?_
          have hm := CO.made
          unfold makesIn at hm
          rw [hK] at hm
          simp only [Bool.and_eq_true] at hm
          unfold keepIn
          dsimp only
          rw [hK]
          exact hm.1.2
        · cases e
      · cases e
  · cases e
theorem all_zero (n : Nat) : All prog w β dice B Z none7 n :=
  ⟨fun _ e => (nomatch e), fun _ e => (nomatch e), fun _ e => (nomatch e), fun _ _ _ _ e => (nomatch e), fun _ e => (nomatch e), fun _ _ e => (nomatch e), fun _ _ _ _ _ _ _ e => (nomatch e), fun _ e => (nomatch e), fun _ e => (nomatch e), fun _ _ _ _ _ e => (nomatch e)⟩
theorem all_step (F : Fx prog w β dice B Z) (h8 : 8 ≤ n + 1) (H : All prog w β dice B Z r n) : All prog w β dice B Z (step Z r) (n + 1) where
  ev := fun C e q => ev_step F.T F.hM H.ev H.ts H.kp H.cl H.co (C.less (Nat.le_succ n)) e q
  ts := fun C e q => ts_ok F.T H.ev H.ts (C.less (Nat.le_succ n)) e q
  xs := xs_step F.T H.ev H.ts H.xs H.cm H.wl H.fo rfl
  cl := cl_step F.T.G F.hF F.hC F.hR H.xs H.cc h8 rfl
  wl := wl_step H.ts H.xs H.wl rfl
  fo := fo_step H.xs H.fo rfl
  co := co_step F.T.G H.ev H.ts H.co rfl
  cm := fun C e q => comp_any F.T H.ev H.co (C.less (Nat.le_succ n)) e (fun val Cl h' tk ρ' a b c d e f g i j => q val Cl h' tk ρ' a b c d e f g i j)
  kp := kp_step F
  cc := cc_step F.T.G F.hF H.xs rfl
theorem all_run (F : Fx prog w β dice B Z) : ∀ k, All prog w β dice B Z (run Z k) (k + 8)
  | 0 => all_zero _
  | k + 1 => all_step F (by omega) (all_run F k)
end
end Mine
end

section
open PySem PySem.W PyProof.Rows
namespace Mine
noncomputable def pick (l : List Obj) : Bool → List Obj := @List.rec Obj (fun _ => Bool → List Obj) (fun _ => []) (fun x _ ih b => @Bool.rec (fun _ => List Obj) (ih true) (x :: ih false) b) l
noncomputable def treeB (fuel : Nat) : List Obj → BT := @Nat.rec (fun _ => List Obj → BT) (fun _ => .nil) (fun _ ih l => @List.rec Obj (fun _ => BT) .nil (fun x r _ => .node x (ih (pick r true)) (ih (pick r false))) l) fuel
noncomputable def bootT (P : Params) : BT := treeB 5 (boot_heap P).objs.toList
noncomputable def bootS (w : World) (os : OsState) : SharedT := ⟨bootT w.params, 11, {}, Array.mk [], boot_drawn, boot_toks, os⟩
theorem bootS_abs (w : World) (os : OsState) : (bootS w os).abs = ⟨boot_heap w.params, Array.mk [], boot_drawn, boot_toks, os⟩ := by kernel_rfl
noncomputable def annB : Option Value := some (.ref 6)
theorem boot_size (P : Params) : ((boot_heap P).isNs mainGlobals && (Array.mk ([] : List GenState)).size == 0, (boot_heap P).objs.size, (boot_heap P).nsMap mainGlobals (Str.ofString "__annotations__")) = (true, 11, annB) := by kernel_rfl

/-! the objects that the top leaves -/
noncomputable def pg : Program := PySem.Challenge.pw_rh0166_01
noncomputable def tS (i : Nat) : Stmt := (pg.main.body[i]?).getD (.Pass default)
noncomputable def mS (i j : Nat) : Stmt := match tS i with
  | .ClassDef _ _ _ b _ _ _ _ _ _ _ => (b[j]?).getD (.Pass default)
  | s => s
noncomputable def fO (st : Stmt) (qual : Str) (dV pm cd : Value) : Obj := match st with
  | .FunctionDef n ps b _ _ _ sc _ _ _ => ⟨.type "function", none, .func { name := n, qualname := qual, params := ps, body := .stmts b, scope := sc, globals := 3, closure := [], defaults := dV, kwdefaults := .none, pyModule := pm, code := cd }, #[]⟩
  | _ => ⟨.none, none, .plain, #[]⟩
noncomputable def cO (c : Value) (l : List Value) : Obj := ⟨c, none, .fields (Array.mk l), #[]⟩
noncomputable def sO (c : Value) (l : List Value) : Obj := ⟨c, none, .seq (Array.mk l) 0, #[]⟩
noncomputable def dO (P : Params) (c : Value) (l : List (Str × Nat × Value)) (n : Nat) : Obj := ⟨c, none, .dict (Array.mk (l.map fun x => ⟨PyData.keyHash P x.1, .str x.1 x.2.1, x.2.2⟩)) n, #[]⟩
noncomputable def iO (c : Value) (l : List (Int × Nat × Value)) (n : Nat) : Obj := ⟨c, none, .dict (Array.mk (l.map fun x => ⟨x.1, .int x.1 x.2.1, x.2.2⟩)) n, #[]⟩
noncomputable def jO (st : Stmt) (qual : Str) : Obj := match st with
  | .FunctionDef n ps b _ _ _ sc _ _ _ => ⟨.none, none, .func { name := n, qualname := qual, params := ps, body := .stmts b, scope := sc, globals := 0, closure := [], defaults := .none, kwdefaults := .none }, #[]⟩
  | _ => ⟨.none, none, .plain, #[]⟩
noncomputable def envT : Env := { scope := pg.main.scope, locals := mainNs, globals := mainNs, cells := [], code := .ref 13, frame := some 14 }
noncomputable def codT : Code := .body (behindTheImports pg) envT
noncomputable def g3 : List (Str × Nat × Value) := [
  ((Str.ofString "__doc__"), 166, .none),
  ((Str.ofString "__package__"), 167, .none),
  ((Str.ofString "__loader__"), 168, (.builtin "__main__.__loader__#opaque")),
  ((Str.ofString "__spec__"), 169, .none),
  ((Str.ofString "__annotations__"), 170, (.ref 6)),
  ((Str.ofString "__builtins__"), 171, (.ref 4)),
  ((Str.ofString "__file__"), 173, (.str (Str.ofString "/claim/cut.py") 172)),
  ((Str.ofString "__cached__"), 174, .none),
  ((Str.ofString "_wall"), 193, (.ref 21)),
  ((Str.ofString "SIZE_OP"), 197, (.int 6 196)),
  ((Str.ofString "SIZE_A"), 199, (.int 8 198)),
  ((Str.ofString "SIZE_B"), 201, (.int 9 200)),
  ((Str.ofString "SIZE_C"), 203, (.int 9 202)),
  ((Str.ofString "SIZE_BX"), 205, (.int 18 204)),
  ((Str.ofString "POS_OP"), 207, (.int 0 206)),
  ((Str.ofString "POS_A"), 209, (.int 6 208)),
  ((Str.ofString "POS_C"), 211, (.int 14 210)),
  ((Str.ofString "POS_B"), 213, (.int 23 212)),
  ((Str.ofString "POS_BX"), 214, (.int 14 210)),
  ((Str.ofString "MAXARG_BX"), 219, (.int 262143 218)),
  ((Str.ofString "MAXARG_SBX"), 222, (.int 131071 221)),
  ((Str.ofString "MAX_WORD"), 228, (.int 4294967295 227)),
  ((Str.ofString "BITRK"), 233, (.int 256 232)),
  ((Str.ofString "OP_MOVE"), 235, (.int 0 234)),
  ((Str.ofString "OP_LOADK"), 237, (.int 1 236)),
  ((Str.ofString "OP_LOADBOOL"), 239, (.int 2 238)),
  ((Str.ofString "OP_LOADNIL"), 241, (.int 3 240)),
  ((Str.ofString "OP_GETUPVAL"), 243, (.int 4 242)),
  ((Str.ofString "OP_GETGLOBAL"), 245, (.int 5 244)),
  ((Str.ofString "OP_GETTABLE"), 247, (.int 6 246)),
  ((Str.ofString "OP_NEWTABLE"), 249, (.int 10 248)),
  ((Str.ofString "OP_SELF"), 251, (.int 11 250)),
  ((Str.ofString "OP_ADD"), 253, (.int 12 252)),
  ((Str.ofString "OP_SUB"), 255, (.int 13 254)),
  ((Str.ofString "OP_MUL"), 257, (.int 14 256)),
  ((Str.ofString "OP_DIV"), 259, (.int 15 258)),
  ((Str.ofString "OP_MOD"), 261, (.int 16 260)),
  ((Str.ofString "OP_POW"), 263, (.int 17 262)),
  ((Str.ofString "OP_UNM"), 265, (.int 18 264)),
  ((Str.ofString "OP_NOT"), 267, (.int 19 266)),
  ((Str.ofString "OP_LEN"), 269, (.int 20 268)),
  ((Str.ofString "OP_CONCAT"), 271, (.int 21 270)),
  ((Str.ofString "OP_JMP"), 273, (.int 22 272)),
  ((Str.ofString "OP_EQ"), 275, (.int 23 274)),
  ((Str.ofString "OP_LT"), 277, (.int 24 276)),
  ((Str.ofString "OP_LE"), 279, (.int 25 278)),
  ((Str.ofString "OP_TEST"), 281, (.int 26 280)),
  ((Str.ofString "OP_TESTSET"), 283, (.int 27 282)),
  ((Str.ofString "OP_CALL"), 285, (.int 28 284)),
  ((Str.ofString "OP_TAILCALL"), 287, (.int 29 286)),
  ((Str.ofString "OP_RETURN"), 289, (.int 30 288)),
  ((Str.ofString "OP_FORLOOP"), 291, (.int 31 290)),
  ((Str.ofString "OP_FORPREP"), 293, (.int 32 292)),
  ((Str.ofString "OP_TFORLOOP"), 295, (.int 33 294)),
  ((Str.ofString "OP_SETLIST"), 297, (.int 34 296)),
  ((Str.ofString "OP_CLOSURE"), 299, (.int 36 298)),
  ((Str.ofString "OP_VARARG"), 301, (.int 37 300)),
  ((Str.ofString "field"), 310, (.ref 28)),
  ((Str.ofString "with_field"), 321, (.ref 35)),
  ((Str.ofString "create_abc"), 331, (.ref 42)),
  ((Str.ofString "create_abx"), 340, (.ref 49)),
  ((Str.ofString "create_asbx"), 349, (.ref 56)),
  ((Str.ofString "get_op"), 356, (.ref 63)),
  ((Str.ofString "get_a"), 363, (.ref 70)),
  ((Str.ofString "get_b"), 370, (.ref 77)),
  ((Str.ofString "get_c"), 377, (.ref 84)),
  ((Str.ofString "get_bx"), 384, (.ref 91)),
  ((Str.ofString "get_sbx"), 391, (.ref 98)),
  ((Str.ofString "set_c"), 399, (.ref 105)),
  ((Str.ofString "set_bx"), 407, (.ref 112)),
  ((Str.ofString "set_sbx"), 415, (.ref 119)),
  ((Str.ofString "is_k"), 422, (.ref 126)),
  ((Str.ofString "index_k"), 429, (.ref 133)),
  ((Str.ofString "T_NONE"), 434, (.int (-1) 433)),
  ((Str.ofString "T_NIL"), 436, (.int 0 435)),
  ((Str.ofString "T_BOOLEAN"), 438, (.int 1 437)),
  ((Str.ofString "T_LIGHT"), 440, (.int 2 439)),
  ((Str.ofString "T_NUMBER"), 442, (.int 3 441)),
  ((Str.ofString "T_STRING"), 444, (.int 4 443)),
  ((Str.ofString "T_PROTO"), 446, (.int 9 445)),
  ((Str.ofString "Limits"), 517, (.ref 165)),
  ((Str.ofString "LuaError"), 548, (.ref 186)),
  ((Str.ofString "ApiError"), 577, (.ref 206)),
  ((Str.ofString "HeapObject"), 610, (.ref 226)),
  ((Str.ofString "LightValue"), 639, (.ref 247)),
  ((Str.ofString "is_number"), 646, (.ref 258)),
  ((Str.ofString "type_of"), 653, (.ref 265)),
  ((Str.ofString "is_false"), 660, (.ref 272)),
  ((Str.ofString "raw_equal"), 669, (.ref 279)),
  ((Str.ofString "wrap"), 678, (.ref 286)),
  ((Str.ofString "divide"), 687, (.ref 293)),
  ((Str.ofString "power"), 698, (.ref 300)),
  ((Str.ofString "arith"), 709, (.ref 307)),
  ((Str.ofString "LocalVar"), 744, (.ref 324)),
  ((Str.ofString "Proto"), 806, (.ref 366)),
  ((Str.ofString "TESTS"), 809, (.ref 369)),
  ((Str.ofString "WRITES_A"), 810, (.ref 370)),
  ((Str.ofString "EVENTS"), 825, (.ref 371)),
  ((Str.ofString "ALL_ABOVE"), 828, (.int (-1) 827)),
  ((Str.ofString "Block"), 861, (.ref 388)),
  ((Str.ofString "words_of"), 870, (.ref 399)),
  ((Str.ofString "starts_of"), 879, (.ref 406)),
  ((Str.ofString "is_jump"), 886, (.ref 413)),
  ((Str.ofString "target"), 894, (.ref 420)),
  ((Str.ofString "next_places"), 905, (.ref 427)),
  ((Str.ofString "reached"), 916, (.ref 434)),
  ((Str.ofString "leaders"), 922, (.ref 439)),
  ((Str.ofString "basic_blocks"), 928, (.ref 444)),
  ((Str.ofString "copied"), 934, (.ref 449)),
  ((Str.ofString "laid_out"), 940, (.ref 454)),
  ((Str.ofString "end_of_jumps"), 950, (.ref 461)),
  ((Str.ofString "thread_jumps"), 956, (.ref 467)),
  ((Str.ofString "captured"), 966, (.ref 474)),
  ((Str.ofString "written"), 975, (.ref 481)),
  ((Str.ofString "Folder"), 1120, (.ref 573)),
  ((Str.ofString "chosen"), 1127, (.ref 584)),
  ((Str.ofString "fold_constants"), 1133, (.ref 589)),
  ((Str.ofString "without_skips"), 1144, (.ref 596)),
  ((Str.ofString "drop_dead"), 1150, (.ref 601)),
  ((Str.ofString "does_nothing"), 1161, (.ref 608)),
  ((Str.ofString "drop_empty"), 1167, (.ref 613)),
  ((Str.ofString "has_like_code"), 1177, (.ref 620)),
  ((Str.ofString "run_all"), 1188, (.ref 627)),
  ((Str.ofString "_law_rolled"), 1200, (.ref 634)),
  ((Str.ofString "_law_made"), 1209, (.ref 641)),
  ((Str.ofString "_law_loop_right"), 1215, (.ref 646)),
  ((Str.ofString "_law_closure_right"), 1221, (.ref 651)),
  ((Str.ofString "_law_locals_right"), 1227, (.ref 656)),
  ((Str.ofString "law"), 1235, (.ref 663))
]
noncomputable def d3 (P : Params) (nm : Str) (tok n ep : Nat) : Obj := dO P (.type "dict") ((Str.ofString "__name__", 165, .str nm tok) :: g3.take n) ep
noncomputable def f12 : List Value := [(.int 1 0), (.int 0 0), (.ref 20), (.int 53 0), (.int 0 0), (.ref 27), (.int 55 0), (.int 0 0), (.ref 34), (.int 58 0), (.int 0 0), (.ref 41), (.int 60 0), (.int 0 0), (.ref 48), (.int 62 0), (.int 0 0), (.ref 55), (.int 64 0), (.int 0 0), (.ref 62), (.int 66 0), (.int 0 0), (.ref 69), (.int 68 0), (.int 0 0), (.ref 76), (.int 70 0), (.int 0 0), (.ref 83), (.int 72 0), (.int 0 0), (.ref 90), (.int 74 0), (.int 0 0), (.ref 97), (.int 76 0), (.int 0 0), (.ref 104), (.int 78 0), (.int 0 0), (.ref 111), (.int 80 0), (.int 0 0), (.ref 118), (.int 82 0), (.int 0 0), (.ref 125), (.int 84 0), (.int 0 0), (.ref 132), (.int 94 0), (.int 0 0), (.ref 139), (.int 113 0), (.int 0 0), (.ref 175), (.int 119 0), (.int 0 0), (.ref 195), (.int 123 0), (.int 0 0), (.ref 215), (.int 130 0), (.int 0 0), (.ref 236), (.int 134 0), (.int 0 0), (.ref 257), (.int 136 0), (.int 0 0), (.ref 264), (.int 150 0), (.int 0 0), (.ref 271), (.int 154 0), (.int 0 0), (.ref 278), (.int 163 0), (.int 0 0), (.ref 285), (.int 168 0), (.int 0 0), (.ref 292), (.int 171 0), (.int 0 0), (.ref 299), (.int 185 0), (.int 0 0), (.ref 306), (.int 205 0), (.int 0 0), (.ref 313), (.int 211 0), (.int 0 0), (.ref 334), (.int 243 0), (.int 0 0), (.ref 377), (.int 249 0), (.int 0 0), (.ref 398), (.int 256 0), (.int 0 0), (.ref 405), (.int 262 0), (.int 0 0), (.ref 412), (.int 264 0), (.int 0 0), (.ref 419), (.int 266 0), (.int 0 0), (.ref 426), (.int 280 0), (.int 0 0), (.ref 433), (.int 290 0), (.int 0 0), (.ref 438), (.int 303 0), (.int 0 0), (.ref 443), (.int 313 0), (.int 0 0), (.ref 448), (.int 329 0), (.int 0 0), (.ref 453), (.int 354 0), (.int 0 0), (.ref 460), (.int 360 0), (.int 0 0), (.ref 466), (.int 369 0), (.int 0 0), (.ref 473), (.int 377 0), (.int 0 0), (.ref 480), (.int 394 0), (.int 0 0), (.ref 487), (.int 502 0), (.int 0 0), (.ref 583), (.int 504 0), (.int 0 0), (.ref 588), (.int 514 0), (.int 0 0), (.ref 595), (.int 521 0), (.int 0 0), (.ref 600), (.int 529 0), (.int 0 0), (.ref 607), (.int 540 0), (.int 0 0), (.ref 612), (.int 548 0), (.int 0 0), (.ref 619), (.int 555 0), (.int 0 0), (.ref 626), (.int 562 0), (.int 0 0), (.ref 633), (.int 566 0), (.int 0 0), (.ref 640), (.int 570 0), (.int 0 0), (.ref 645), (.int 584 0), (.int 0 0), (.ref 650), (.int 607 0), (.int 0 0), (.ref 655), (.int 620 0), (.int 0 0), (.ref 662)]
noncomputable def ch0 (P : Params) : List Obj := [
  sO (.type "tuple") [],
  cO .none [],
  sO (.type "tuple") [(.str (Str.ofString "k") 190)],
  sO (.type "tuple") [],
  jO (tS 0) (Str.ofString "_wall"),
  cO (.type "code") [(.str (Str.ofString "_wall") 187), (.str (Str.ofString "_wall") 188), (.str (Str.ofString "/claim/cut.py") 189), (.int 1 0), (.int 1 0), (.int 0 0), (.int 0 0), (.int 3 0), (.ref 15), (.bool true), (.int 181 0), (.ref 16), .none, (.ref 17), (.ref 18), (.ref 19), (.int 191 0), (.int 1 0), (.str (Str.ofString "/claim/cut.py") 192)],
  fO (tS 0) (Str.ofString "_wall") .none (.str (Str.ofString "__main__") 164) (.ref 20)
]
noncomputable def ch1 (P : Params) : List Obj := [
  sO (.type "tuple") [],
  cO .none [],
  sO (.type "tuple") [(.str (Str.ofString "word") 305), (.str (Str.ofString "pos") 306), (.str (Str.ofString "size") 307)],
  sO (.type "tuple") [],
  jO (tS 50) (Str.ofString "field"),
  cO (.type "code") [(.str (Str.ofString "field") 302), (.str (Str.ofString "field") 303), (.str (Str.ofString "/claim/cut.py") 304), (.int 53 0), (.int 3 0), (.int 0 0), (.int 0 0), (.int 3 0), (.ref 22), (.bool true), (.int 181 0), (.ref 23), .none, (.ref 24), (.ref 25), (.ref 26), (.int 308 0), (.int 53 0), (.str (Str.ofString "/claim/cut.py") 309)],
  fO (tS 50) (Str.ofString "field") .none (.str (Str.ofString "lua.opcodes") 194) (.ref 27),
  sO (.type "tuple") [],
  cO .none [],
  sO (.type "tuple") [(.str (Str.ofString "word") 314), (.str (Str.ofString "value") 315), (.str (Str.ofString "pos") 316), (.str (Str.ofString "size") 317), (.str (Str.ofString "mask") 318)],
  sO (.type "tuple") [],
  jO (tS 51) (Str.ofString "with_field"),
  cO (.type "code") [(.str (Str.ofString "with_field") 311), (.str (Str.ofString "with_field") 312), (.str (Str.ofString "/claim/cut.py") 313), (.int 55 0), (.int 4 0), (.int 0 0), (.int 0 0), (.int 3 0), (.ref 29), (.bool true), (.int 181 0), (.ref 30), .none, (.ref 31), (.ref 32), (.ref 33), (.int 319 0), (.int 55 0), (.str (Str.ofString "/claim/cut.py") 320)],
  fO (tS 51) (Str.ofString "with_field") .none (.str (Str.ofString "lua.opcodes") 194) (.ref 34),
  sO (.type "tuple") [],
  cO .none [],
  sO (.type "tuple") [(.str (Str.ofString "op") 325), (.str (Str.ofString "a") 326), (.str (Str.ofString "b") 327), (.str (Str.ofString "c") 328)],
  sO (.type "tuple") [],
  jO (tS 52) (Str.ofString "create_abc"),
  cO (.type "code") [(.str (Str.ofString "create_abc") 322), (.str (Str.ofString "create_abc") 323), (.str (Str.ofString "/claim/cut.py") 324), (.int 58 0), (.int 4 0), (.int 0 0), (.int 0 0), (.int 3 0), (.ref 36), (.bool true), (.int 181 0), (.ref 37), .none, (.ref 38), (.ref 39), (.ref 40), (.int 329 0), (.int 58 0), (.str (Str.ofString "/claim/cut.py") 330)],
  fO (tS 52) (Str.ofString "create_abc") .none (.str (Str.ofString "lua.opcodes") 194) (.ref 41),
  sO (.type "tuple") [],
  cO .none [],
  sO (.type "tuple") [(.str (Str.ofString "op") 335), (.str (Str.ofString "a") 336), (.str (Str.ofString "bx") 337)],
  sO (.type "tuple") [],
  jO (tS 53) (Str.ofString "create_abx"),
  cO (.type "code") [(.str (Str.ofString "create_abx") 332), (.str (Str.ofString "create_abx") 333), (.str (Str.ofString "/claim/cut.py") 334), (.int 60 0), (.int 3 0), (.int 0 0), (.int 0 0), (.int 3 0), (.ref 43), (.bool true), (.int 181 0), (.ref 44), .none, (.ref 45), (.ref 46), (.ref 47), (.int 338 0), (.int 60 0), (.str (Str.ofString "/claim/cut.py") 339)],
  fO (tS 53) (Str.ofString "create_abx") .none (.str (Str.ofString "lua.opcodes") 194) (.ref 48),
  sO (.type "tuple") [],
  cO .none [],
  sO (.type "tuple") [(.str (Str.ofString "op") 344), (.str (Str.ofString "a") 345), (.str (Str.ofString "sbx") 346)],
  sO (.type "tuple") [],
  jO (tS 54) (Str.ofString "create_asbx"),
  cO (.type "code") [(.str (Str.ofString "create_asbx") 341), (.str (Str.ofString "create_asbx") 342), (.str (Str.ofString "/claim/cut.py") 343), (.int 62 0), (.int 3 0), (.int 0 0), (.int 0 0), (.int 3 0), (.ref 50), (.bool true), (.int 181 0), (.ref 51), .none, (.ref 52), (.ref 53), (.ref 54), (.int 347 0), (.int 62 0), (.str (Str.ofString "/claim/cut.py") 348)],
  fO (tS 54) (Str.ofString "create_asbx") .none (.str (Str.ofString "lua.opcodes") 194) (.ref 55),
  sO (.type "tuple") [],
  cO .none [],
  sO (.type "tuple") [(.str (Str.ofString "word") 353)],
  sO (.type "tuple") [],
  jO (tS 55) (Str.ofString "get_op"),
  cO (.type "code") [(.str (Str.ofString "get_op") 350), (.str (Str.ofString "get_op") 351), (.str (Str.ofString "/claim/cut.py") 352), (.int 64 0), (.int 1 0), (.int 0 0), (.int 0 0), (.int 3 0), (.ref 57), (.bool true), (.int 181 0), (.ref 58), .none, (.ref 59), (.ref 60), (.ref 61), (.int 354 0), (.int 64 0), (.str (Str.ofString "/claim/cut.py") 355)],
  fO (tS 55) (Str.ofString "get_op") .none (.str (Str.ofString "lua.opcodes") 194) (.ref 62),
  sO (.type "tuple") [],
  cO .none [],
  sO (.type "tuple") [(.str (Str.ofString "word") 360)],
  sO (.type "tuple") [],
  jO (tS 56) (Str.ofString "get_a"),
  cO (.type "code") [(.str (Str.ofString "get_a") 357), (.str (Str.ofString "get_a") 358), (.str (Str.ofString "/claim/cut.py") 359), (.int 66 0), (.int 1 0), (.int 0 0), (.int 0 0), (.int 3 0), (.ref 64), (.bool true), (.int 181 0), (.ref 65), .none, (.ref 66), (.ref 67), (.ref 68), (.int 361 0), (.int 66 0), (.str (Str.ofString "/claim/cut.py") 362)],
  fO (tS 56) (Str.ofString "get_a") .none (.str (Str.ofString "lua.opcodes") 194) (.ref 69),
  sO (.type "tuple") [],
  cO .none [],
  sO (.type "tuple") [(.str (Str.ofString "word") 367)],
  sO (.type "tuple") [],
  jO (tS 57) (Str.ofString "get_b"),
  cO (.type "code") [(.str (Str.ofString "get_b") 364), (.str (Str.ofString "get_b") 365), (.str (Str.ofString "/claim/cut.py") 366), (.int 68 0), (.int 1 0), (.int 0 0), (.int 0 0), (.int 3 0), (.ref 71), (.bool true), (.int 181 0), (.ref 72), .none, (.ref 73), (.ref 74), (.ref 75), (.int 368 0), (.int 68 0), (.str (Str.ofString "/claim/cut.py") 369)],
  fO (tS 57) (Str.ofString "get_b") .none (.str (Str.ofString "lua.opcodes") 194) (.ref 76),
  sO (.type "tuple") [],
  cO .none [],
  sO (.type "tuple") [(.str (Str.ofString "word") 374)],
  sO (.type "tuple") [],
  jO (tS 58) (Str.ofString "get_c"),
  cO (.type "code") [(.str (Str.ofString "get_c") 371), (.str (Str.ofString "get_c") 372), (.str (Str.ofString "/claim/cut.py") 373), (.int 70 0), (.int 1 0), (.int 0 0), (.int 0 0), (.int 3 0), (.ref 78), (.bool true), (.int 181 0), (.ref 79), .none, (.ref 80), (.ref 81), (.ref 82), (.int 375 0), (.int 70 0), (.str (Str.ofString "/claim/cut.py") 376)],
  fO (tS 58) (Str.ofString "get_c") .none (.str (Str.ofString "lua.opcodes") 194) (.ref 83),
  sO (.type "tuple") [],
  cO .none [],
  sO (.type "tuple") [(.str (Str.ofString "word") 381)],
  sO (.type "tuple") [],
  jO (tS 59) (Str.ofString "get_bx"),
  cO (.type "code") [(.str (Str.ofString "get_bx") 378), (.str (Str.ofString "get_bx") 379), (.str (Str.ofString "/claim/cut.py") 380), (.int 72 0), (.int 1 0), (.int 0 0), (.int 0 0), (.int 3 0), (.ref 85), (.bool true), (.int 181 0), (.ref 86), .none, (.ref 87), (.ref 88), (.ref 89), (.int 382 0), (.int 72 0), (.str (Str.ofString "/claim/cut.py") 383)],
  fO (tS 59) (Str.ofString "get_bx") .none (.str (Str.ofString "lua.opcodes") 194) (.ref 90),
  sO (.type "tuple") [],
  cO .none [],
  sO (.type "tuple") [(.str (Str.ofString "word") 388)],
  sO (.type "tuple") [],
  jO (tS 60) (Str.ofString "get_sbx"),
  cO (.type "code") [(.str (Str.ofString "get_sbx") 385), (.str (Str.ofString "get_sbx") 386), (.str (Str.ofString "/claim/cut.py") 387), (.int 74 0), (.int 1 0), (.int 0 0), (.int 0 0), (.int 3 0), (.ref 92), (.bool true), (.int 181 0), (.ref 93), .none, (.ref 94), (.ref 95), (.ref 96), (.int 389 0), (.int 74 0), (.str (Str.ofString "/claim/cut.py") 390)],
  fO (tS 60) (Str.ofString "get_sbx") .none (.str (Str.ofString "lua.opcodes") 194) (.ref 97),
  sO (.type "tuple") [],
  cO .none [],
  sO (.type "tuple") [(.str (Str.ofString "word") 395), (.str (Str.ofString "c") 396)],
  sO (.type "tuple") [],
  jO (tS 61) (Str.ofString "set_c"),
  cO (.type "code") [(.str (Str.ofString "set_c") 392), (.str (Str.ofString "set_c") 393), (.str (Str.ofString "/claim/cut.py") 394), (.int 76 0), (.int 2 0), (.int 0 0), (.int 0 0), (.int 3 0), (.ref 99), (.bool true), (.int 181 0), (.ref 100), .none, (.ref 101), (.ref 102), (.ref 103), (.int 397 0), (.int 76 0), (.str (Str.ofString "/claim/cut.py") 398)],
  fO (tS 61) (Str.ofString "set_c") .none (.str (Str.ofString "lua.opcodes") 194) (.ref 104),
  sO (.type "tuple") [],
  cO .none [],
  sO (.type "tuple") [(.str (Str.ofString "word") 403), (.str (Str.ofString "bx") 404)],
  sO (.type "tuple") [],
  jO (tS 62) (Str.ofString "set_bx"),
  cO (.type "code") [(.str (Str.ofString "set_bx") 400), (.str (Str.ofString "set_bx") 401), (.str (Str.ofString "/claim/cut.py") 402), (.int 78 0), (.int 2 0), (.int 0 0), (.int 0 0), (.int 3 0), (.ref 106), (.bool true), (.int 181 0), (.ref 107), .none, (.ref 108), (.ref 109), (.ref 110), (.int 405 0), (.int 78 0), (.str (Str.ofString "/claim/cut.py") 406)],
  fO (tS 62) (Str.ofString "set_bx") .none (.str (Str.ofString "lua.opcodes") 194) (.ref 111),
  sO (.type "tuple") [],
  cO .none [],
  sO (.type "tuple") [(.str (Str.ofString "word") 411), (.str (Str.ofString "sbx") 412)],
  sO (.type "tuple") [],
  jO (tS 63) (Str.ofString "set_sbx"),
  cO (.type "code") [(.str (Str.ofString "set_sbx") 408), (.str (Str.ofString "set_sbx") 409), (.str (Str.ofString "/claim/cut.py") 410), (.int 80 0), (.int 2 0), (.int 0 0), (.int 0 0), (.int 3 0), (.ref 113), (.bool true), (.int 181 0), (.ref 114), .none, (.ref 115), (.ref 116), (.ref 117), (.int 413 0), (.int 80 0), (.str (Str.ofString "/claim/cut.py") 414)],
  fO (tS 63) (Str.ofString "set_sbx") .none (.str (Str.ofString "lua.opcodes") 194) (.ref 118),
  sO (.type "tuple") [],
  cO .none [],
  sO (.type "tuple") [(.str (Str.ofString "operand") 419)],
  sO (.type "tuple") [],
  jO (tS 64) (Str.ofString "is_k"),
  cO (.type "code") [(.str (Str.ofString "is_k") 416), (.str (Str.ofString "is_k") 417), (.str (Str.ofString "/claim/cut.py") 418), (.int 82 0), (.int 1 0), (.int 0 0), (.int 0 0), (.int 3 0), (.ref 120), (.bool true), (.int 181 0), (.ref 121), .none, (.ref 122), (.ref 123), (.ref 124), (.int 420 0), (.int 82 0), (.str (Str.ofString "/claim/cut.py") 421)],
  fO (tS 64) (Str.ofString "is_k") .none (.str (Str.ofString "lua.opcodes") 194) (.ref 125),
  sO (.type "tuple") [],
  cO .none [],
  sO (.type "tuple") [(.str (Str.ofString "operand") 426)],
  sO (.type "tuple") [],
  jO (tS 65) (Str.ofString "index_k"),
  cO (.type "code") [(.str (Str.ofString "index_k") 423), (.str (Str.ofString "index_k") 424), (.str (Str.ofString "/claim/cut.py") 425), (.int 84 0), (.int 1 0), (.int 0 0), (.int 0 0), (.int 3 0), (.ref 127), (.bool true), (.int 181 0), (.ref 128), .none, (.ref 129), (.ref 130), (.ref 131), (.int 427 0), (.int 84 0), (.str (Str.ofString "/claim/cut.py") 428)],
  fO (tS 65) (Str.ofString "index_k") .none (.str (Str.ofString "lua.opcodes") 194) (.ref 132)
]
noncomputable def ch2 (P : Params) : List Obj := [
  sO (.type "tuple") [],
  cO (.type "builtin_function_or_method") [(.builtin "type.__prepare__"), (.type "type")],
  dO P (.type "dict") [((Str.ofString "__module__"), 454, (.str (Str.ofString "lua.values") 430)), ((Str.ofString "__qualname__"), 456, (.str (Str.ofString "Limits") 455)), ((Str.ofString "__firstlineno__"), 458, (.int 94 457)), ((Str.ofString "__init__"), 485, (.ref 148)), ((Str.ofString "greatest"), 492, (.ref 155)), ((Str.ofString "least"), 499, (.ref 162)), ((Str.ofString "__static_attributes__"), 510, (.ref 163))] 7,
  sO (.type "tuple") [],
  cO .none [(.int 96 0), (.int 4 0), (.ref 147), (.int 108 0), (.int 4 0), (.ref 154), (.int 111 0), (.int 4 0), (.ref 161)],
  cO (.type "code") [(.str (Str.ofString "Limits") 449), (.str (Str.ofString "Limits") 450), (.str (Str.ofString "/claim/cut.py") 451), (.int 94 0), (.int 0 0), (.int 0 0), (.int 0 0), (.int 0 0), (.ref 137), (.bool false), (.int 181 0), (.ref 138), .none, .none, .none, .none, (.int 452 0), (.int 94 0), (.str (Str.ofString "/claim/cut.py") 453)],
  ⟨(.type "frame"), none, .plain, #[(some (.ref 139)), (some (.ref 3)), (some (.ref 136)), none, (some (.str (Str.ofString "lua.values") 430)), none, (some (.ref 0))]⟩,
  sO (.type "tuple") [(.int 64 459), (.int 250 460), (.int 60 461), (.int 200 462), (.int 40 463), (.int 200 464), (.int 2000 465), (.int 50 466), (.int 1000000000 467), (.int 1000000 468)],
  sO (.type "tuple") [],
  cO .none [],
  sO (.type "tuple") [(.str (Str.ofString "self") 472), (.str (Str.ofString "width") 473), (.str (Str.ofString "registers") 474), (.str (Str.ofString "upvalues") 475), (.str (Str.ofString "local_names") 476), (.str (Str.ofString "ccalls") 477), (.str (Str.ofString "frames") 478), (.str (Str.ofString "stack") 479), (.str (Str.ofString "flush") 480), (.str (Str.ofString "steps") 481), (.str (Str.ofString "text") 482)],
  sO (.type "tuple") [],
  jO (mS 74 0) (Str.ofString "Limits.__init__"),
  cO (.type "code") [(.str (Str.ofString "__init__") 469), (.str (Str.ofString "Limits.__init__") 470), (.str (Str.ofString "/claim/cut.py") 471), (.int 96 0), (.int 11 0), (.int 0 0), (.int 0 0), (.int 3 0), (.ref 142), (.bool true), (.int 181 0), (.ref 143), .none, (.ref 144), (.ref 145), (.ref 146), (.int 483 0), (.int 96 0), (.str (Str.ofString "/claim/cut.py") 484)],
  fO (mS 74 0) (Str.ofString "Limits.__init__") (.ref 141) (.str (Str.ofString "lua.values") 430) (.ref 147),
  sO (.type "tuple") [],
  cO .none [],
  sO (.type "tuple") [(.str (Str.ofString "self") 489)],
  sO (.type "tuple") [],
  jO (mS 74 1) (Str.ofString "Limits.greatest"),
  cO (.type "code") [(.str (Str.ofString "greatest") 486), (.str (Str.ofString "Limits.greatest") 487), (.str (Str.ofString "/claim/cut.py") 488), (.int 108 0), (.int 1 0), (.int 0 0), (.int 0 0), (.int 3 0), (.ref 149), (.bool true), (.int 181 0), (.ref 150), .none, (.ref 151), (.ref 152), (.ref 153), (.int 490 0), (.int 108 0), (.str (Str.ofString "/claim/cut.py") 491)],
  fO (mS 74 1) (Str.ofString "Limits.greatest") .none (.str (Str.ofString "lua.values") 430) (.ref 154),
  sO (.type "tuple") [],
  cO .none [],
  sO (.type "tuple") [(.str (Str.ofString "self") 496)],
  sO (.type "tuple") [],
  jO (mS 74 2) (Str.ofString "Limits.least"),
  cO (.type "code") [(.str (Str.ofString "least") 493), (.str (Str.ofString "Limits.least") 494), (.str (Str.ofString "/claim/cut.py") 495), (.int 111 0), (.int 1 0), (.int 0 0), (.int 0 0), (.int 3 0), (.ref 156), (.bool true), (.int 181 0), (.ref 157), .none, (.ref 158), (.ref 159), (.ref 160), (.int 497 0), (.int 111 0), (.str (Str.ofString "/claim/cut.py") 498)],
  fO (mS 74 2) (Str.ofString "Limits.least") .none (.str (Str.ofString "lua.values") 430) (.ref 161),
  sO (.type "tuple") [(.str (Str.ofString "ccalls") 500), (.str (Str.ofString "flush") 501), (.str (Str.ofString "frames") 502), (.str (Str.ofString "local_names") 503), (.str (Str.ofString "registers") 504), (.str (Str.ofString "stack") 505), (.str (Str.ofString "steps") 506), (.str (Str.ofString "text") 507), (.str (Str.ofString "upvalues") 508), (.str (Str.ofString "width") 509)],
  dO P (.type "dict") [((Str.ofString "__module__"), 454, (.str (Str.ofString "lua.values") 430)), ((Str.ofString "__firstlineno__"), 458, (.int 94 457)), ((Str.ofString "__init__"), 485, (.ref 148)), ((Str.ofString "greatest"), 492, (.ref 155)), ((Str.ofString "least"), 499, (.ref 162)), ((Str.ofString "__static_attributes__"), 510, (.ref 163)), ((Str.ofString "__dict__"), 512, (.ref 166)), ((Str.ofString "__weakref__"), 514, (.ref 167)), ((Str.ofString "__doc__"), 515, .none)] 4,
  ⟨(.type "type"), none, .cls { name := (Str.ofString "Limits"), bases := [(.type "object")], mro := [(.ref 165), (.type "object")], ns := 164, qualname := (Str.ofString "Limits"), hasDict := true, slotNames := [], subclasses := [], abstract := false, collection := none, hasDel := false }, #[none, none, (some (.str (Str.ofString "Limits") 447)), (some (.str (Str.ofString "Limits") 455)), (some (.builtin "object.__new__")), (some (.bool true))]⟩,
  cO (.type "getset_descriptor") [(.str (Str.ofString "__dict__") 511), (.ref 165), (.builtin "function.__dict__"), (.builtin "function.__dict__#set")],
  cO (.type "getset_descriptor") [(.str (Str.ofString "__weakref__") 513), (.ref 165), (.builtin "ExceptionGroup.__weakref__"), .none],
  cO (.type "super") [(.ref 165), (.ref 165), (.ref 165)],
  cO (.type "builtin_function_or_method") [(.builtin "object.__init_subclass__"), (.ref 165)],
  sO (.type "tuple") [(.type "Exception")],
  cO (.type "builtin_function_or_method") [(.builtin "type.__prepare__"), (.type "type")],
  dO P (.type "dict") [((Str.ofString "__module__"), 525, (.str (Str.ofString "lua.values") 430)), ((Str.ofString "__qualname__"), 527, (.str (Str.ofString "LuaError") 526)), ((Str.ofString "__firstlineno__"), 529, (.int 113 528)), ((Str.ofString "__init__"), 537, (.ref 183)), ((Str.ofString "__static_attributes__"), 541, (.ref 184))] 5,
  sO (.type "tuple") [],
  cO .none [(.int 115 0), (.int 4 0), (.ref 182)],
  cO (.type "code") [(.str (Str.ofString "LuaError") 520), (.str (Str.ofString "LuaError") 521), (.str (Str.ofString "/claim/cut.py") 522), (.int 113 0), (.int 0 0), (.int 0 0), (.int 0 0), (.int 0 0), (.ref 173), (.bool false), (.int 181 0), (.ref 174), .none, .none, .none, .none, (.int 523 0), (.int 113 0), (.str (Str.ofString "/claim/cut.py") 524)],
  ⟨(.type "frame"), none, .plain, #[(some (.ref 175)), (some (.ref 3)), (some (.ref 172)), none, (some (.str (Str.ofString "lua.values") 430)), none, (some (.ref 0))]⟩,
  sO (.type "tuple") [],
  cO .none [],
  sO (.type "tuple") [(.str (Str.ofString "self") 533), (.str (Str.ofString "value") 534)],
  sO (.type "tuple") [],
  jO (mS 75 0) (Str.ofString "LuaError.__init__"),
  cO (.type "code") [(.str (Str.ofString "__init__") 530), (.str (Str.ofString "LuaError.__init__") 531), (.str (Str.ofString "/claim/cut.py") 532), (.int 115 0), (.int 2 0), (.int 0 0), (.int 0 0), (.int 3 0), (.ref 177), (.bool true), (.int 181 0), (.ref 178), .none, (.ref 179), (.ref 180), (.ref 181), (.int 535 0), (.int 115 0), (.str (Str.ofString "/claim/cut.py") 536)],
  fO (mS 75 0) (Str.ofString "LuaError.__init__") .none (.str (Str.ofString "lua.values") 430) (.ref 182),
  sO (.type "tuple") [(.str (Str.ofString "is_in_handler") 538), (.str (Str.ofString "trace") 539), (.str (Str.ofString "value") 540)],
  dO P (.type "dict") [((Str.ofString "__module__"), 525, (.str (Str.ofString "lua.values") 430)), ((Str.ofString "__firstlineno__"), 529, (.int 113 528)), ((Str.ofString "__init__"), 537, (.ref 183)), ((Str.ofString "__static_attributes__"), 541, (.ref 184)), ((Str.ofString "__weakref__"), 543, (.ref 187)), ((Str.ofString "__doc__"), 544, .none)] 3,
  ⟨(.type "type"), none, .cls { name := (Str.ofString "LuaError"), bases := [(.type "Exception")], mro := [(.ref 186), (.type "Exception"), (.type "BaseException"), (.type "object")], ns := 185, qualname := (Str.ofString "LuaError"), hasDict := true, slotNames := [], subclasses := [], abstract := false, collection := none, hasDel := false }, #[(some (.ref 170)), none, (some (.str (Str.ofString "LuaError") 518)), (some (.str (Str.ofString "LuaError") 526)), (some (.builtin "Exception.__new__")), (some (.bool true))]⟩,
  cO (.type "getset_descriptor") [(.str (Str.ofString "__weakref__") 542), (.ref 186), (.builtin "ExceptionGroup.__weakref__"), .none],
  cO (.type "super") [(.ref 186), (.ref 186), (.ref 186)],
  cO (.type "builtin_function_or_method") [(.builtin "object.__init_subclass__"), (.ref 186)],
  sO (.type "tuple") [(.type "Exception")],
  cO (.type "builtin_function_or_method") [(.builtin "type.__prepare__"), (.type "type")],
  dO P (.type "dict") [((Str.ofString "__module__"), 556, (.str (Str.ofString "lua.values") 430)), ((Str.ofString "__qualname__"), 558, (.str (Str.ofString "ApiError") 557)), ((Str.ofString "__firstlineno__"), 560, (.int 119 559)), ((Str.ofString "__init__"), 568, (.ref 203)), ((Str.ofString "__static_attributes__"), 570, (.ref 204))] 5,
  sO (.type "tuple") [],
  cO .none [(.int 121 0), (.int 4 0), (.ref 202)],
  cO (.type "code") [(.str (Str.ofString "ApiError") 551), (.str (Str.ofString "ApiError") 552), (.str (Str.ofString "/claim/cut.py") 553), (.int 119 0), (.int 0 0), (.int 0 0), (.int 0 0), (.int 0 0), (.ref 193), (.bool false), (.int 181 0), (.ref 194), .none, .none, .none, .none, (.int 554 0), (.int 119 0), (.str (Str.ofString "/claim/cut.py") 555)],
  ⟨(.type "frame"), none, .plain, #[(some (.ref 195)), (some (.ref 3)), (some (.ref 192)), none, (some (.str (Str.ofString "lua.values") 430)), none, (some (.ref 0))]⟩,
  sO (.type "tuple") [],
  cO .none [],
  sO (.type "tuple") [(.str (Str.ofString "self") 564), (.str (Str.ofString "text") 565)],
  sO (.type "tuple") [],
  jO (mS 76 0) (Str.ofString "ApiError.__init__"),
  cO (.type "code") [(.str (Str.ofString "__init__") 561), (.str (Str.ofString "ApiError.__init__") 562), (.str (Str.ofString "/claim/cut.py") 563), (.int 121 0), (.int 2 0), (.int 0 0), (.int 0 0), (.int 3 0), (.ref 197), (.bool true), (.int 181 0), (.ref 198), .none, (.ref 199), (.ref 200), (.ref 201), (.int 566 0), (.int 121 0), (.str (Str.ofString "/claim/cut.py") 567)],
  fO (mS 76 0) (Str.ofString "ApiError.__init__") .none (.str (Str.ofString "lua.values") 430) (.ref 202),
  sO (.type "tuple") [(.str (Str.ofString "text") 569)],
  dO P (.type "dict") [((Str.ofString "__module__"), 556, (.str (Str.ofString "lua.values") 430)), ((Str.ofString "__firstlineno__"), 560, (.int 119 559)), ((Str.ofString "__init__"), 568, (.ref 203)), ((Str.ofString "__static_attributes__"), 570, (.ref 204)), ((Str.ofString "__weakref__"), 572, (.ref 207)), ((Str.ofString "__doc__"), 573, .none)] 3,
  ⟨(.type "type"), none, .cls { name := (Str.ofString "ApiError"), bases := [(.type "Exception")], mro := [(.ref 206), (.type "Exception"), (.type "BaseException"), (.type "object")], ns := 205, qualname := (Str.ofString "ApiError"), hasDict := true, slotNames := [], subclasses := [], abstract := false, collection := none, hasDel := false }, #[(some (.ref 190)), none, (some (.str (Str.ofString "ApiError") 549)), (some (.str (Str.ofString "ApiError") 557)), (some (.builtin "Exception.__new__")), (some (.bool true))]⟩,
  cO (.type "getset_descriptor") [(.str (Str.ofString "__weakref__") 571), (.ref 206), (.builtin "ExceptionGroup.__weakref__"), .none],
  cO (.type "super") [(.ref 206), (.ref 206), (.ref 206)],
  cO (.type "builtin_function_or_method") [(.builtin "object.__init_subclass__"), (.ref 206)]
]
noncomputable def ch3 (P : Params) (X : List Value) : List Obj := [
  sO (.type "tuple") [],
  cO (.type "builtin_function_or_method") [(.builtin "type.__prepare__"), (.type "type")],
  dO P (.type "dict") [((Str.ofString "__module__"), 585, (.str (Str.ofString "lua.values") 430)), ((Str.ofString "__qualname__"), 587, (.str (Str.ofString "HeapObject") 586)), ((Str.ofString "__firstlineno__"), 589, (.int 123 588)), ((Str.ofString "kind"), 590, (.int (-1) 433)), ((Str.ofString "__init__"), 599, (.ref 223)), ((Str.ofString "__static_attributes__"), 603, (.ref 224))] 6,
  sO (.type "tuple") [],
  cO .none [(.int 126 0), (.int 4 0), (.ref 222)],
  cO (.type "code") [(.str (Str.ofString "HeapObject") 580), (.str (Str.ofString "HeapObject") 581), (.str (Str.ofString "/claim/cut.py") 582), (.int 123 0), (.int 0 0), (.int 0 0), (.int 0 0), (.int 0 0), (.ref 213), (.bool false), (.int 181 0), (.ref 214), .none, .none, .none, .none, (.int 583 0), (.int 123 0), (.str (Str.ofString "/claim/cut.py") 584)],
  ⟨(.type "frame"), none, .plain, #[(some (.ref 215)), (some (.ref 3)), (some (.ref 212)), none, (some (.str (Str.ofString "lua.values") 430)), none, (some (.ref 0))]⟩,
  sO (.type "tuple") [],
  cO .none [],
  sO (.type "tuple") [(.str (Str.ofString "self") 594), (.str (Str.ofString "number") 595), (.str (Str.ofString "size") 596)],
  sO (.type "tuple") [],
  jO (mS 77 1) (Str.ofString "HeapObject.__init__"),
  cO (.type "code") [(.str (Str.ofString "__init__") 591), (.str (Str.ofString "HeapObject.__init__") 592), (.str (Str.ofString "/claim/cut.py") 593), (.int 126 0), (.int 3 0), (.int 0 0), (.int 0 0), (.int 3 0), (.ref 217), (.bool true), (.int 181 0), (.ref 218), .none, (.ref 219), (.ref 220), (.ref 221), (.int 597 0), (.int 126 0), (.str (Str.ofString "/claim/cut.py") 598)],
  fO (mS 77 1) (Str.ofString "HeapObject.__init__") .none (.str (Str.ofString "lua.values") 430) (.ref 222),
  sO (.type "tuple") [(.str (Str.ofString "mark") 600), (.str (Str.ofString "number") 601), (.str (Str.ofString "size") 602)],
  dO P (.type "dict") [((Str.ofString "__module__"), 585, (.str (Str.ofString "lua.values") 430)), ((Str.ofString "__firstlineno__"), 589, (.int 123 588)), ((Str.ofString "kind"), 590, (.int (-1) 433)), ((Str.ofString "__init__"), 599, (.ref 223)), ((Str.ofString "__static_attributes__"), 603, (.ref 224)), ((Str.ofString "__dict__"), 605, (.ref 227)), ((Str.ofString "__weakref__"), 607, (.ref 228)), ((Str.ofString "__doc__"), 608, .none)] 4,
  ⟨(.type "type"), none, .cls { name := (Str.ofString "HeapObject"), bases := [(.type "object")], mro := [(.ref 226), (.type "object")], ns := 225, qualname := (Str.ofString "HeapObject"), hasDict := true, slotNames := [], subclasses := X, abstract := false, collection := none, hasDel := false }, #[none, none, (some (.str (Str.ofString "HeapObject") 578)), (some (.str (Str.ofString "HeapObject") 586)), (some (.builtin "object.__new__")), (some (.bool true))]⟩,
  cO (.type "getset_descriptor") [(.str (Str.ofString "__dict__") 604), (.ref 226), (.builtin "function.__dict__"), (.builtin "function.__dict__#set")],
  cO (.type "getset_descriptor") [(.str (Str.ofString "__weakref__") 606), (.ref 226), (.builtin "ExceptionGroup.__weakref__"), .none],
  cO (.type "super") [(.ref 226), (.ref 226), (.ref 226)],
  cO (.type "builtin_function_or_method") [(.builtin "object.__init_subclass__"), (.ref 226)],
  sO (.type "tuple") [],
  cO (.type "builtin_function_or_method") [(.builtin "type.__prepare__"), (.type "type")],
  dO P (.type "dict") [((Str.ofString "__module__"), 618, (.str (Str.ofString "lua.values") 430)), ((Str.ofString "__qualname__"), 620, (.str (Str.ofString "LightValue") 619)), ((Str.ofString "__firstlineno__"), 622, (.int 130 621)), ((Str.ofString "__init__"), 630, (.ref 244)), ((Str.ofString "__static_attributes__"), 632, (.ref 245))] 5,
  sO (.type "tuple") [],
  cO .none [(.int 132 0), (.int 4 0), (.ref 243)],
  cO (.type "code") [(.str (Str.ofString "LightValue") 613), (.str (Str.ofString "LightValue") 614), (.str (Str.ofString "/claim/cut.py") 615), (.int 130 0), (.int 0 0), (.int 0 0), (.int 0 0), (.int 0 0), (.ref 234), (.bool false), (.int 181 0), (.ref 235), .none, .none, .none, .none, (.int 616 0), (.int 130 0), (.str (Str.ofString "/claim/cut.py") 617)],
  ⟨(.type "frame"), none, .plain, #[(some (.ref 236)), (some (.ref 3)), (some (.ref 233)), none, (some (.str (Str.ofString "lua.values") 430)), none, (some (.ref 0))]⟩,
  sO (.type "tuple") [],
  cO .none [],
  sO (.type "tuple") [(.str (Str.ofString "self") 626), (.str (Str.ofString "number") 627)],
  sO (.type "tuple") [],
  jO (mS 78 0) (Str.ofString "LightValue.__init__"),
  cO (.type "code") [(.str (Str.ofString "__init__") 623), (.str (Str.ofString "LightValue.__init__") 624), (.str (Str.ofString "/claim/cut.py") 625), (.int 132 0), (.int 2 0), (.int 0 0), (.int 0 0), (.int 3 0), (.ref 238), (.bool true), (.int 181 0), (.ref 239), .none, (.ref 240), (.ref 241), (.ref 242), (.int 628 0), (.int 132 0), (.str (Str.ofString "/claim/cut.py") 629)],
  fO (mS 78 0) (Str.ofString "LightValue.__init__") .none (.str (Str.ofString "lua.values") 430) (.ref 243),
  sO (.type "tuple") [(.str (Str.ofString "number") 631)],
  dO P (.type "dict") [((Str.ofString "__module__"), 618, (.str (Str.ofString "lua.values") 430)), ((Str.ofString "__firstlineno__"), 622, (.int 130 621)), ((Str.ofString "__init__"), 630, (.ref 244)), ((Str.ofString "__static_attributes__"), 632, (.ref 245)), ((Str.ofString "__dict__"), 634, (.ref 248)), ((Str.ofString "__weakref__"), 636, (.ref 249)), ((Str.ofString "__doc__"), 637, .none)] 4,
  ⟨(.type "type"), none, .cls { name := (Str.ofString "LightValue"), bases := [(.type "object")], mro := [(.ref 247), (.type "object")], ns := 246, qualname := (Str.ofString "LightValue"), hasDict := true, slotNames := [], subclasses := [], abstract := false, collection := none, hasDel := false }, #[none, none, (some (.str (Str.ofString "LightValue") 611)), (some (.str (Str.ofString "LightValue") 619)), (some (.builtin "object.__new__")), (some (.bool true))]⟩,
  cO (.type "getset_descriptor") [(.str (Str.ofString "__dict__") 633), (.ref 247), (.builtin "function.__dict__"), (.builtin "function.__dict__#set")],
  cO (.type "getset_descriptor") [(.str (Str.ofString "__weakref__") 635), (.ref 247), (.builtin "ExceptionGroup.__weakref__"), .none],
  cO (.type "super") [(.ref 247), (.ref 247), (.ref 247)],
  cO (.type "builtin_function_or_method") [(.builtin "object.__init_subclass__"), (.ref 247)],
  sO (.type "tuple") [],
  cO .none [],
  sO (.type "tuple") [(.str (Str.ofString "value") 643)],
  sO (.type "tuple") [],
  jO (tS 79) (Str.ofString "is_number"),
  cO (.type "code") [(.str (Str.ofString "is_number") 640), (.str (Str.ofString "is_number") 641), (.str (Str.ofString "/claim/cut.py") 642), (.int 134 0), (.int 1 0), (.int 0 0), (.int 0 0), (.int 3 0), (.ref 252), (.bool true), (.int 181 0), (.ref 253), .none, (.ref 254), (.ref 255), (.ref 256), (.int 644 0), (.int 134 0), (.str (Str.ofString "/claim/cut.py") 645)],
  fO (tS 79) (Str.ofString "is_number") .none (.str (Str.ofString "lua.values") 430) (.ref 257),
  sO (.type "tuple") [],
  cO .none [],
  sO (.type "tuple") [(.str (Str.ofString "value") 650)],
  sO (.type "tuple") [],
  jO (tS 80) (Str.ofString "type_of"),
  cO (.type "code") [(.str (Str.ofString "type_of") 647), (.str (Str.ofString "type_of") 648), (.str (Str.ofString "/claim/cut.py") 649), (.int 136 0), (.int 1 0), (.int 0 0), (.int 0 0), (.int 3 0), (.ref 259), (.bool true), (.int 181 0), (.ref 260), .none, (.ref 261), (.ref 262), (.ref 263), (.int 651 0), (.int 136 0), (.str (Str.ofString "/claim/cut.py") 652)],
  fO (tS 80) (Str.ofString "type_of") .none (.str (Str.ofString "lua.values") 430) (.ref 264),
  sO (.type "tuple") [],
  cO .none [],
  sO (.type "tuple") [(.str (Str.ofString "value") 657)],
  sO (.type "tuple") [],
  jO (tS 81) (Str.ofString "is_false"),
  cO (.type "code") [(.str (Str.ofString "is_false") 654), (.str (Str.ofString "is_false") 655), (.str (Str.ofString "/claim/cut.py") 656), (.int 150 0), (.int 1 0), (.int 0 0), (.int 0 0), (.int 3 0), (.ref 266), (.bool true), (.int 181 0), (.ref 267), .none, (.ref 268), (.ref 269), (.ref 270), (.int 658 0), (.int 150 0), (.str (Str.ofString "/claim/cut.py") 659)],
  fO (tS 81) (Str.ofString "is_false") .none (.str (Str.ofString "lua.values") 430) (.ref 271),
  sO (.type "tuple") [],
  cO .none [],
  sO (.type "tuple") [(.str (Str.ofString "a") 664), (.str (Str.ofString "b") 665), (.str (Str.ofString "tag") 666)],
  sO (.type "tuple") [],
  jO (tS 82) (Str.ofString "raw_equal"),
  cO (.type "code") [(.str (Str.ofString "raw_equal") 661), (.str (Str.ofString "raw_equal") 662), (.str (Str.ofString "/claim/cut.py") 663), (.int 154 0), (.int 2 0), (.int 0 0), (.int 0 0), (.int 3 0), (.ref 273), (.bool true), (.int 181 0), (.ref 274), .none, (.ref 275), (.ref 276), (.ref 277), (.int 667 0), (.int 154 0), (.str (Str.ofString "/claim/cut.py") 668)],
  fO (tS 82) (Str.ofString "raw_equal") .none (.str (Str.ofString "lua.values") 430) (.ref 278),
  sO (.type "tuple") [],
  cO .none [],
  sO (.type "tuple") [(.str (Str.ofString "n") 673), (.str (Str.ofString "width") 674), (.str (Str.ofString "low") 675)],
  sO (.type "tuple") [],
  jO (tS 83) (Str.ofString "wrap"),
  cO (.type "code") [(.str (Str.ofString "wrap") 670), (.str (Str.ofString "wrap") 671), (.str (Str.ofString "/claim/cut.py") 672), (.int 163 0), (.int 2 0), (.int 0 0), (.int 0 0), (.int 3 0), (.ref 280), (.bool true), (.int 181 0), (.ref 281), .none, (.ref 282), (.ref 283), (.ref 284), (.int 676 0), (.int 163 0), (.str (Str.ofString "/claim/cut.py") 677)],
  fO (tS 83) (Str.ofString "wrap") .none (.str (Str.ofString "lua.values") 430) (.ref 285),
  sO (.type "tuple") [],
  cO .none [],
  sO (.type "tuple") [(.str (Str.ofString "a") 682), (.str (Str.ofString "b") 683), (.str (Str.ofString "found") 684)],
  sO (.type "tuple") [],
  jO (tS 84) (Str.ofString "divide"),
  cO (.type "code") [(.str (Str.ofString "divide") 679), (.str (Str.ofString "divide") 680), (.str (Str.ofString "/claim/cut.py") 681), (.int 168 0), (.int 2 0), (.int 0 0), (.int 0 0), (.int 3 0), (.ref 287), (.bool true), (.int 181 0), (.ref 288), .none, (.ref 289), (.ref 290), (.ref 291), (.int 685 0), (.int 168 0), (.str (Str.ofString "/claim/cut.py") 686)],
  fO (tS 84) (Str.ofString "divide") .none (.str (Str.ofString "lua.values") 430) (.ref 292),
  sO (.type "tuple") [],
  cO .none [],
  sO (.type "tuple") [(.str (Str.ofString "a") 691), (.str (Str.ofString "b") 692), (.str (Str.ofString "width") 693), (.str (Str.ofString "found") 694), (.str (Str.ofString "base") 695)],
  sO (.type "tuple") [],
  jO (tS 85) (Str.ofString "power"),
  cO (.type "code") [(.str (Str.ofString "power") 688), (.str (Str.ofString "power") 689), (.str (Str.ofString "/claim/cut.py") 690), (.int 171 0), (.int 3 0), (.int 0 0), (.int 0 0), (.int 3 0), (.ref 294), (.bool true), (.int 181 0), (.ref 295), .none, (.ref 296), (.ref 297), (.ref 298), (.int 696 0), (.int 171 0), (.str (Str.ofString "/claim/cut.py") 697)],
  fO (tS 85) (Str.ofString "power") .none (.str (Str.ofString "lua.values") 430) (.ref 299),
  sO (.type "tuple") [],
  cO .none [],
  sO (.type "tuple") [(.str (Str.ofString "op") 702), (.str (Str.ofString "a") 703), (.str (Str.ofString "b") 704), (.str (Str.ofString "limits") 705), (.str (Str.ofString "width") 706)],
  sO (.type "tuple") [],
  jO (tS 86) (Str.ofString "arith"),
  cO (.type "code") [(.str (Str.ofString "arith") 699), (.str (Str.ofString "arith") 700), (.str (Str.ofString "/claim/cut.py") 701), (.int 185 0), (.int 4 0), (.int 0 0), (.int 0 0), (.int 3 0), (.ref 301), (.bool true), (.int 181 0), (.ref 302), .none, (.ref 303), (.ref 304), (.ref 305), (.int 707 0), (.int 185 0), (.str (Str.ofString "/claim/cut.py") 708)],
  fO (tS 86) (Str.ofString "arith") .none (.str (Str.ofString "lua.values") 430) (.ref 306)
]
noncomputable def ch4 (P : Params) : List Obj := [
  sO (.type "tuple") [],
  cO (.type "builtin_function_or_method") [(.builtin "type.__prepare__"), (.type "type")],
  dO P (.type "dict") [((Str.ofString "__module__"), 719, (.str (Str.ofString "lua.protos") 710)), ((Str.ofString "__qualname__"), 721, (.str (Str.ofString "LocalVar") 720)), ((Str.ofString "__firstlineno__"), 723, (.int 205 722)), ((Str.ofString "__init__"), 733, (.ref 321)), ((Str.ofString "__static_attributes__"), 737, (.ref 322))] 5,
  sO (.type "tuple") [],
  cO .none [(.int 207 0), (.int 4 0), (.ref 320)],
  cO (.type "code") [(.str (Str.ofString "LocalVar") 714), (.str (Str.ofString "LocalVar") 715), (.str (Str.ofString "/claim/cut.py") 716), (.int 205 0), (.int 0 0), (.int 0 0), (.int 0 0), (.int 0 0), (.ref 311), (.bool false), (.int 181 0), (.ref 312), .none, .none, .none, .none, (.int 717 0), (.int 205 0), (.str (Str.ofString "/claim/cut.py") 718)],
  ⟨(.type "frame"), none, .plain, #[(some (.ref 313)), (some (.ref 3)), (some (.ref 310)), none, (some (.str (Str.ofString "lua.protos") 710)), none, (some (.ref 0))]⟩,
  sO (.type "tuple") [],
  cO .none [],
  sO (.type "tuple") [(.str (Str.ofString "self") 727), (.str (Str.ofString "name") 728), (.str (Str.ofString "start") 729), (.str (Str.ofString "end") 730)],
  sO (.type "tuple") [],
  jO (mS 88 0) (Str.ofString "LocalVar.__init__"),
  cO (.type "code") [(.str (Str.ofString "__init__") 724), (.str (Str.ofString "LocalVar.__init__") 725), (.str (Str.ofString "/claim/cut.py") 726), (.int 207 0), (.int 4 0), (.int 0 0), (.int 0 0), (.int 3 0), (.ref 315), (.bool true), (.int 181 0), (.ref 316), .none, (.ref 317), (.ref 318), (.ref 319), (.int 731 0), (.int 207 0), (.str (Str.ofString "/claim/cut.py") 732)],
  fO (mS 88 0) (Str.ofString "LocalVar.__init__") .none (.str (Str.ofString "lua.protos") 710) (.ref 320),
  sO (.type "tuple") [(.str (Str.ofString "end") 734), (.str (Str.ofString "name") 735), (.str (Str.ofString "start") 736)],
  dO P (.type "dict") [((Str.ofString "__module__"), 719, (.str (Str.ofString "lua.protos") 710)), ((Str.ofString "__firstlineno__"), 723, (.int 205 722)), ((Str.ofString "__init__"), 733, (.ref 321)), ((Str.ofString "__static_attributes__"), 737, (.ref 322)), ((Str.ofString "__dict__"), 739, (.ref 325)), ((Str.ofString "__weakref__"), 741, (.ref 326)), ((Str.ofString "__doc__"), 742, .none)] 4,
  ⟨(.type "type"), none, .cls { name := (Str.ofString "LocalVar"), bases := [(.type "object")], mro := [(.ref 324), (.type "object")], ns := 323, qualname := (Str.ofString "LocalVar"), hasDict := true, slotNames := [], subclasses := [], abstract := false, collection := none, hasDel := false }, #[none, none, (some (.str (Str.ofString "LocalVar") 712)), (some (.str (Str.ofString "LocalVar") 720)), (some (.builtin "object.__new__")), (some (.bool true))]⟩,
  cO (.type "getset_descriptor") [(.str (Str.ofString "__dict__") 738), (.ref 324), (.builtin "function.__dict__"), (.builtin "function.__dict__#set")],
  cO (.type "getset_descriptor") [(.str (Str.ofString "__weakref__") 740), (.ref 324), (.builtin "ExceptionGroup.__weakref__"), .none],
  cO (.type "super") [(.ref 324), (.ref 324), (.ref 324)],
  cO (.type "builtin_function_or_method") [(.builtin "object.__init_subclass__"), (.ref 324)],
  sO (.type "tuple") [(.ref 226)],
  cO (.type "builtin_function_or_method") [(.builtin "type.__prepare__"), (.type "type")],
  dO P (.type "dict") [((Str.ofString "__module__"), 752, (.str (Str.ofString "lua.protos") 710)), ((Str.ofString "__qualname__"), 754, (.str (Str.ofString "Proto") 753)), ((Str.ofString "__firstlineno__"), 756, (.int 211 755)), ((Str.ofString "kind"), 757, (.int 9 445)), ((Str.ofString "__init__"), 764, (.ref 342)), ((Str.ofString "line_at"), 772, (.ref 349)), ((Str.ofString "local_name"), 781, (.ref 356)), ((Str.ofString "upvalue_name"), 789, (.ref 363)), ((Str.ofString "__static_attributes__"), 803, (.ref 364))] 9,
  sO (.type "tuple") [],
  cO .none [(.int 214 0), (.int 4 0), (.ref 341), (.int 230 0), (.int 4 0), (.ref 348), (.int 233 0), (.int 4 0), (.ref 355), (.int 236 0), (.int 4 0), (.ref 362)],
  cO (.type "code") [(.str (Str.ofString "Proto") 747), (.str (Str.ofString "Proto") 748), (.str (Str.ofString "/claim/cut.py") 749), (.int 211 0), (.int 0 0), (.int 0 0), (.int 0 0), (.int 0 0), (.ref 332), (.bool false), (.int 181 0), (.ref 333), .none, .none, .none, .none, (.int 750 0), (.int 211 0), (.str (Str.ofString "/claim/cut.py") 751)],
  ⟨(.type "frame"), none, .plain, #[(some (.ref 334)), (some (.ref 3)), (some (.ref 331)), none, (some (.str (Str.ofString "lua.protos") 710)), none, (some (.ref 0))]⟩,
  sO (.type "tuple") [],
  cO .none [],
  sO (.type "tuple") [(.str (Str.ofString "self") 761)],
  sO (.type "tuple") [],
  jO (mS 89 1) (Str.ofString "Proto.__init__"),
  cO (.type "code") [(.str (Str.ofString "__init__") 758), (.str (Str.ofString "Proto.__init__") 759), (.str (Str.ofString "/claim/cut.py") 760), (.int 214 0), (.int 1 0), (.int 0 0), (.int 0 0), (.int 3 0), (.ref 336), (.bool true), (.int 181 0), (.ref 337), .none, (.ref 338), (.ref 339), (.ref 340), (.int 762 0), (.int 214 0), (.str (Str.ofString "/claim/cut.py") 763)],
  fO (mS 89 1) (Str.ofString "Proto.__init__") .none (.str (Str.ofString "lua.protos") 710) (.ref 341),
  sO (.type "tuple") [],
  cO .none [],
  sO (.type "tuple") [(.str (Str.ofString "self") 768), (.str (Str.ofString "pc") 769)],
  sO (.type "tuple") [],
  jO (mS 89 2) (Str.ofString "Proto.line_at"),
  cO (.type "code") [(.str (Str.ofString "line_at") 765), (.str (Str.ofString "Proto.line_at") 766), (.str (Str.ofString "/claim/cut.py") 767), (.int 230 0), (.int 2 0), (.int 0 0), (.int 0 0), (.int 3 0), (.ref 343), (.bool true), (.int 181 0), (.ref 344), .none, (.ref 345), (.ref 346), (.ref 347), (.int 770 0), (.int 230 0), (.str (Str.ofString "/claim/cut.py") 771)],
  fO (mS 89 2) (Str.ofString "Proto.line_at") .none (.str (Str.ofString "lua.protos") 710) (.ref 348),
  sO (.type "tuple") [],
  cO .none [],
  sO (.type "tuple") [(.str (Str.ofString "self") 776), (.str (Str.ofString "number") 777), (.str (Str.ofString "pc") 778)],
  sO (.type "tuple") [],
  jO (mS 89 3) (Str.ofString "Proto.local_name"),
  cO (.type "code") [(.str (Str.ofString "local_name") 773), (.str (Str.ofString "Proto.local_name") 774), (.str (Str.ofString "/claim/cut.py") 775), (.int 233 0), (.int 3 0), (.int 0 0), (.int 0 0), (.int 3 0), (.ref 350), (.bool true), (.int 181 0), (.ref 351), .none, (.ref 352), (.ref 353), (.ref 354), (.int 779 0), (.int 233 0), (.str (Str.ofString "/claim/cut.py") 780)],
  fO (mS 89 3) (Str.ofString "Proto.local_name") .none (.str (Str.ofString "lua.protos") 710) (.ref 355),
  sO (.type "tuple") [],
  cO .none [],
  sO (.type "tuple") [(.str (Str.ofString "self") 785), (.str (Str.ofString "index") 786)],
  sO (.type "tuple") [],
  jO (mS 89 4) (Str.ofString "Proto.upvalue_name"),
  cO (.type "code") [(.str (Str.ofString "upvalue_name") 782), (.str (Str.ofString "Proto.upvalue_name") 783), (.str (Str.ofString "/claim/cut.py") 784), (.int 236 0), (.int 2 0), (.int 0 0), (.int 0 0), (.int 3 0), (.ref 357), (.bool true), (.int 181 0), (.ref 358), .none, (.ref 359), (.ref 360), (.ref 361), (.int 787 0), (.int 236 0), (.str (Str.ofString "/claim/cut.py") 788)],
  fO (mS 89 4) (Str.ofString "Proto.upvalue_name") .none (.str (Str.ofString "lua.protos") 710) (.ref 362),
  sO (.type "tuple") [(.str (Str.ofString "code") 790), (.str (Str.ofString "constants") 791), (.str (Str.ofString "is_vararg") 792), (.str (Str.ofString "last_line") 793), (.str (Str.ofString "line_defined") 794), (.str (Str.ofString "line_info") 795), (.str (Str.ofString "locals") 796), (.str (Str.ofString "max_stack") 797), (.str (Str.ofString "param_count") 798), (.str (Str.ofString "protos") 799), (.str (Str.ofString "source") 800), (.str (Str.ofString "upvalue_count") 801), (.str (Str.ofString "upvalue_names") 802)],
  dO P (.type "dict") [((Str.ofString "__module__"), 752, (.str (Str.ofString "lua.protos") 710)), ((Str.ofString "__firstlineno__"), 756, (.int 211 755)), ((Str.ofString "kind"), 757, (.int 9 445)), ((Str.ofString "__init__"), 764, (.ref 342)), ((Str.ofString "line_at"), 772, (.ref 349)), ((Str.ofString "local_name"), 781, (.ref 356)), ((Str.ofString "upvalue_name"), 789, (.ref 363)), ((Str.ofString "__static_attributes__"), 803, (.ref 364)), ((Str.ofString "__doc__"), 804, .none)] 2,
  ⟨(.type "type"), none, .cls { name := (Str.ofString "Proto"), bases := [(.ref 226)], mro := [(.ref 366), (.ref 226), (.type "object")], ns := 365, qualname := (Str.ofString "Proto"), hasDict := true, slotNames := [], subclasses := [], abstract := false, collection := none, hasDel := false }, #[(some (.ref 329)), none, (some (.str (Str.ofString "Proto") 745)), (some (.str (Str.ofString "Proto") 753)), (some (.builtin "object.__new__")), (some (.bool true))]⟩,
  cO (.type "super") [(.ref 366), (.ref 366), (.ref 366)],
  cO (.type "builtin_function_or_method") [(.builtin "object.__init_subclass__"), (.ref 366)],
  sO (.type "tuple") [(.int 23 274), (.int 24 276), (.int 25 278), (.int 26 280), (.int 27 282)],
  sO (.type "tuple") [(.int 0 234), (.int 1 236), (.int 2 238), (.int 4 242), (.int 5 244), (.int 6 246), (.int 10 248), (.int 12 252), (.int 13 254), (.int 14 256), (.int 15 258), (.int 16 260), (.int 17 262), (.int 18 264), (.int 19 266), (.int 20 268), (.int 36 298), (.int 27 282)]
]
noncomputable def ch5 (P : Params) : List Obj := [
  iO (.type "dict") [(12, 252, (.bytes #[97, 100, 100] 811)), (13, 254, (.bytes #[115, 117, 98] 812)), (14, 256, (.bytes #[109, 117, 108] 813)), (15, 258, (.bytes #[100, 105, 118] 814)), (16, 260, (.bytes #[109, 111, 100] 815)), (17, 262, (.bytes #[112, 111, 119] 816)), (18, 264, (.bytes #[117, 110, 109] 817))] 7
]
noncomputable def ch6 (P : Params) : List Obj := [
  sO (.type "tuple") [],
  cO (.type "builtin_function_or_method") [(.builtin "type.__prepare__"), (.type "type")],
  dO P (.type "dict") [((Str.ofString "__module__"), 836, (.str (Str.ofString "lua.passes") 807)), ((Str.ofString "__qualname__"), 838, (.str (Str.ofString "Block") 837)), ((Str.ofString "__firstlineno__"), 840, (.int 243 839)), ((Str.ofString "__init__"), 850, (.ref 385)), ((Str.ofString "__static_attributes__"), 854, (.ref 386))] 5,
  sO (.type "tuple") [],
  cO .none [(.int 245 0), (.int 4 0), (.ref 384)],
  cO (.type "code") [(.str (Str.ofString "Block") 831), (.str (Str.ofString "Block") 832), (.str (Str.ofString "/claim/cut.py") 833), (.int 243 0), (.int 0 0), (.int 0 0), (.int 0 0), (.int 0 0), (.ref 375), (.bool false), (.int 181 0), (.ref 376), .none, .none, .none, .none, (.int 834 0), (.int 243 0), (.str (Str.ofString "/claim/cut.py") 835)],
  ⟨(.type "frame"), none, .plain, #[(some (.ref 377)), (some (.ref 3)), (some (.ref 374)), none, (some (.str (Str.ofString "lua.passes") 807)), none, (some (.ref 0))]⟩,
  sO (.type "tuple") [],
  cO .none [],
  sO (.type "tuple") [(.str (Str.ofString "self") 844), (.str (Str.ofString "first") 845), (.str (Str.ofString "last") 846), (.str (Str.ofString "after") 847)],
  sO (.type "tuple") [],
  jO (mS 95 0) (Str.ofString "Block.__init__"),
  cO (.type "code") [(.str (Str.ofString "__init__") 841), (.str (Str.ofString "Block.__init__") 842), (.str (Str.ofString "/claim/cut.py") 843), (.int 245 0), (.int 4 0), (.int 0 0), (.int 0 0), (.int 3 0), (.ref 379), (.bool true), (.int 181 0), (.ref 380), .none, (.ref 381), (.ref 382), (.ref 383), (.int 848 0), (.int 245 0), (.str (Str.ofString "/claim/cut.py") 849)],
  fO (mS 95 0) (Str.ofString "Block.__init__") .none (.str (Str.ofString "lua.passes") 807) (.ref 384),
  sO (.type "tuple") [(.str (Str.ofString "after") 851), (.str (Str.ofString "first") 852), (.str (Str.ofString "last") 853)],
  dO P (.type "dict") [((Str.ofString "__module__"), 836, (.str (Str.ofString "lua.passes") 807)), ((Str.ofString "__firstlineno__"), 840, (.int 243 839)), ((Str.ofString "__init__"), 850, (.ref 385)), ((Str.ofString "__static_attributes__"), 854, (.ref 386)), ((Str.ofString "__dict__"), 856, (.ref 389)), ((Str.ofString "__weakref__"), 858, (.ref 390)), ((Str.ofString "__doc__"), 859, .none)] 4,
  ⟨(.type "type"), none, .cls { name := (Str.ofString "Block"), bases := [(.type "object")], mro := [(.ref 388), (.type "object")], ns := 387, qualname := (Str.ofString "Block"), hasDict := true, slotNames := [], subclasses := [], abstract := false, collection := none, hasDel := false }, #[none, none, (some (.str (Str.ofString "Block") 829)), (some (.str (Str.ofString "Block") 837)), (some (.builtin "object.__new__")), (some (.bool true))]⟩,
  cO (.type "getset_descriptor") [(.str (Str.ofString "__dict__") 855), (.ref 388), (.builtin "function.__dict__"), (.builtin "function.__dict__#set")],
  cO (.type "getset_descriptor") [(.str (Str.ofString "__weakref__") 857), (.ref 388), (.builtin "ExceptionGroup.__weakref__"), .none],
  cO (.type "super") [(.ref 388), (.ref 388), (.ref 388)],
  cO (.type "builtin_function_or_method") [(.builtin "object.__init_subclass__"), (.ref 388)],
  sO (.type "tuple") [],
  cO .none [],
  sO (.type "tuple") [(.str (Str.ofString "p") 865), (.str (Str.ofString "pc") 866), (.str (Str.ofString "i") 867)],
  sO (.type "tuple") [],
  jO (tS 96) (Str.ofString "words_of"),
  cO (.type "code") [(.str (Str.ofString "words_of") 862), (.str (Str.ofString "words_of") 863), (.str (Str.ofString "/claim/cut.py") 864), (.int 249 0), (.int 2 0), (.int 0 0), (.int 0 0), (.int 3 0), (.ref 393), (.bool true), (.int 181 0), (.ref 394), .none, (.ref 395), (.ref 396), (.ref 397), (.int 868 0), (.int 249 0), (.str (Str.ofString "/claim/cut.py") 869)],
  fO (tS 96) (Str.ofString "words_of") .none (.str (Str.ofString "lua.passes") 807) (.ref 398),
  sO (.type "tuple") [],
  cO .none [],
  sO (.type "tuple") [(.str (Str.ofString "p") 874), (.str (Str.ofString "found") 875), (.str (Str.ofString "pc") 876)],
  sO (.type "tuple") [],
  jO (tS 97) (Str.ofString "starts_of"),
  cO (.type "code") [(.str (Str.ofString "starts_of") 871), (.str (Str.ofString "starts_of") 872), (.str (Str.ofString "/claim/cut.py") 873), (.int 256 0), (.int 1 0), (.int 0 0), (.int 0 0), (.int 3 0), (.ref 400), (.bool true), (.int 181 0), (.ref 401), .none, (.ref 402), (.ref 403), (.ref 404), (.int 877 0), (.int 256 0), (.str (Str.ofString "/claim/cut.py") 878)],
  fO (tS 97) (Str.ofString "starts_of") .none (.str (Str.ofString "lua.passes") 807) (.ref 405),
  sO (.type "tuple") [],
  cO .none [],
  sO (.type "tuple") [(.str (Str.ofString "i") 883)],
  sO (.type "tuple") [],
  jO (tS 98) (Str.ofString "is_jump"),
  cO (.type "code") [(.str (Str.ofString "is_jump") 880), (.str (Str.ofString "is_jump") 881), (.str (Str.ofString "/claim/cut.py") 882), (.int 262 0), (.int 1 0), (.int 0 0), (.int 0 0), (.int 3 0), (.ref 407), (.bool true), (.int 181 0), (.ref 408), .none, (.ref 409), (.ref 410), (.ref 411), (.int 884 0), (.int 262 0), (.str (Str.ofString "/claim/cut.py") 885)],
  fO (tS 98) (Str.ofString "is_jump") .none (.str (Str.ofString "lua.passes") 807) (.ref 412),
  sO (.type "tuple") [],
  cO .none [],
  sO (.type "tuple") [(.str (Str.ofString "p") 890), (.str (Str.ofString "pc") 891)],
  sO (.type "tuple") [],
  jO (tS 99) (Str.ofString "target"),
  cO (.type "code") [(.str (Str.ofString "target") 887), (.str (Str.ofString "target") 888), (.str (Str.ofString "/claim/cut.py") 889), (.int 264 0), (.int 2 0), (.int 0 0), (.int 0 0), (.int 3 0), (.ref 414), (.bool true), (.int 181 0), (.ref 415), .none, (.ref 416), (.ref 417), (.ref 418), (.int 892 0), (.int 264 0), (.str (Str.ofString "/claim/cut.py") 893)],
  fO (tS 99) (Str.ofString "target") .none (.str (Str.ofString "lua.passes") 807) (.ref 419),
  sO (.type "tuple") [],
  cO .none [],
  sO (.type "tuple") [(.str (Str.ofString "p") 898), (.str (Str.ofString "pc") 899), (.str (Str.ofString "i") 900), (.str (Str.ofString "op") 901), (.str (Str.ofString "later") 902)],
  sO (.type "tuple") [],
  jO (tS 100) (Str.ofString "next_places"),
  cO (.type "code") [(.str (Str.ofString "next_places") 895), (.str (Str.ofString "next_places") 896), (.str (Str.ofString "/claim/cut.py") 897), (.int 266 0), (.int 2 0), (.int 0 0), (.int 0 0), (.int 3 0), (.ref 421), (.bool true), (.int 181 0), (.ref 422), .none, (.ref 423), (.ref 424), (.ref 425), (.int 903 0), (.int 266 0), (.str (Str.ofString "/claim/cut.py") 904)],
  fO (tS 100) (Str.ofString "next_places") .none (.str (Str.ofString "lua.passes") 807) (.ref 426),
  sO (.type "tuple") [],
  cO .none [],
  sO (.type "tuple") [(.str (Str.ofString "p") 909), (.str (Str.ofString "found") 910), (.str (Str.ofString "waiting") 911), (.str (Str.ofString "pc") 912), (.str (Str.ofString "at") 913)],
  sO (.type "tuple") [],
  jO (tS 101) (Str.ofString "reached"),
  cO (.type "code") [(.str (Str.ofString "reached") 906), (.str (Str.ofString "reached") 907), (.str (Str.ofString "/claim/cut.py") 908), (.int 280 0), (.int 1 0), (.int 0 0), (.int 0 0), (.int 3 0), (.ref 428), (.bool true), (.int 181 0), (.ref 429), .none, (.ref 430), (.ref 431), (.ref 432), (.int 914 0), (.int 280 0), (.str (Str.ofString "/claim/cut.py") 915)],
  fO (tS 101) (Str.ofString "reached") .none (.str (Str.ofString "lua.passes") 807) (.ref 433),
  sO (.type "tuple") [],
  cO .none [],
  jO (tS 102) (Str.ofString "leaders"),
  cO (.type "code") [(.str (Str.ofString "leaders") 917), (.str (Str.ofString "leaders") 918), (.str (Str.ofString "/claim/cut.py") 919), (.int 290 0), (.int 1 0), (.int 0 0), (.int 0 0), (.int 3 0), (.ref 435), (.bool true), (.int 181 0), (.ref 436), .none, .none, .none, (.ref 437), (.int 920 0), (.int 290 0), (.str (Str.ofString "/claim/cut.py") 921)],
  fO (tS 102) (Str.ofString "leaders") .none (.str (Str.ofString "lua.passes") 807) (.ref 438),
  sO (.type "tuple") [],
  cO .none [],
  jO (tS 103) (Str.ofString "basic_blocks"),
  cO (.type "code") [(.str (Str.ofString "basic_blocks") 923), (.str (Str.ofString "basic_blocks") 924), (.str (Str.ofString "/claim/cut.py") 925), (.int 303 0), (.int 1 0), (.int 0 0), (.int 0 0), (.int 3 0), (.ref 440), (.bool true), (.int 181 0), (.ref 441), .none, .none, .none, (.ref 442), (.int 926 0), (.int 303 0), (.str (Str.ofString "/claim/cut.py") 927)],
  fO (tS 103) (Str.ofString "basic_blocks") .none (.str (Str.ofString "lua.passes") 807) (.ref 443),
  sO (.type "tuple") [],
  cO .none [],
  jO (tS 104) (Str.ofString "copied"),
  cO (.type "code") [(.str (Str.ofString "copied") 929), (.str (Str.ofString "copied") 930), (.str (Str.ofString "/claim/cut.py") 931), (.int 313 0), (.int 1 0), (.int 0 0), (.int 0 0), (.int 3 0), (.ref 445), (.bool true), (.int 181 0), (.ref 446), .none, .none, .none, (.ref 447), (.int 932 0), (.int 313 0), (.str (Str.ofString "/claim/cut.py") 933)],
  fO (tS 104) (Str.ofString "copied") .none (.str (Str.ofString "lua.passes") 807) (.ref 448),
  sO (.type "tuple") [],
  cO .none [],
  jO (tS 105) (Str.ofString "laid_out"),
  cO (.type "code") [(.str (Str.ofString "laid_out") 935), (.str (Str.ofString "laid_out") 936), (.str (Str.ofString "/claim/cut.py") 937), (.int 329 0), (.int 2 0), (.int 0 0), (.int 0 0), (.int 3 0), (.ref 450), (.bool true), (.int 181 0), (.ref 451), .none, .none, .none, (.ref 452), (.int 938 0), (.int 329 0), (.str (Str.ofString "/claim/cut.py") 939)],
  fO (tS 105) (Str.ofString "laid_out") .none (.str (Str.ofString "lua.passes") 807) (.ref 453),
  sO (.type "tuple") [],
  cO .none [],
  sO (.type "tuple") [(.str (Str.ofString "p") 944), (.str (Str.ofString "pc") 945), (.str (Str.ofString "seen") 946), (.str (Str.ofString "place") 947)],
  sO (.type "tuple") [],
  jO (tS 106) (Str.ofString "end_of_jumps"),
  cO (.type "code") [(.str (Str.ofString "end_of_jumps") 941), (.str (Str.ofString "end_of_jumps") 942), (.str (Str.ofString "/claim/cut.py") 943), (.int 354 0), (.int 2 0), (.int 0 0), (.int 0 0), (.int 3 0), (.ref 455), (.bool true), (.int 181 0), (.ref 456), .none, (.ref 457), (.ref 458), (.ref 459), (.int 948 0), (.int 354 0), (.str (Str.ofString "/claim/cut.py") 949)],
  fO (tS 106) (Str.ofString "end_of_jumps") .none (.str (Str.ofString "lua.passes") 807) (.ref 460),
  sO (.type "tuple") [(.int 131071 221)],
  sO (.type "tuple") [],
  cO .none [],
  jO (tS 107) (Str.ofString "thread_jumps"),
  cO (.type "code") [(.str (Str.ofString "thread_jumps") 951), (.str (Str.ofString "thread_jumps") 952), (.str (Str.ofString "/claim/cut.py") 953), (.int 360 0), (.int 2 0), (.int 0 0), (.int 0 0), (.int 3 0), (.ref 463), (.bool true), (.int 181 0), (.ref 464), .none, .none, .none, (.ref 465), (.int 954 0), (.int 360 0), (.str (Str.ofString "/claim/cut.py") 955)],
  fO (tS 107) (Str.ofString "thread_jumps") (.ref 462) (.str (Str.ofString "lua.passes") 807) (.ref 466),
  sO (.type "tuple") [],
  cO .none [],
  sO (.type "tuple") [(.str (Str.ofString "p") 960), (.str (Str.ofString "found") 961), (.str (Str.ofString "pc") 962), (.str (Str.ofString "word") 963)],
  sO (.type "tuple") [],
  jO (tS 108) (Str.ofString "captured"),
  cO (.type "code") [(.str (Str.ofString "captured") 957), (.str (Str.ofString "captured") 958), (.str (Str.ofString "/claim/cut.py") 959), (.int 369 0), (.int 1 0), (.int 0 0), (.int 0 0), (.int 3 0), (.ref 468), (.bool true), (.int 181 0), (.ref 469), .none, (.ref 470), (.ref 471), (.ref 472), (.int 964 0), (.int 369 0), (.str (Str.ofString "/claim/cut.py") 965)],
  fO (tS 108) (Str.ofString "captured") .none (.str (Str.ofString "lua.passes") 807) (.ref 473),
  sO (.type "tuple") [],
  cO .none [],
  sO (.type "tuple") [(.str (Str.ofString "i") 970), (.str (Str.ofString "op") 971), (.str (Str.ofString "a") 972)],
  sO (.type "tuple") [],
  jO (tS 109) (Str.ofString "written"),
  cO (.type "code") [(.str (Str.ofString "written") 967), (.str (Str.ofString "written") 968), (.str (Str.ofString "/claim/cut.py") 969), (.int 377 0), (.int 1 0), (.int 0 0), (.int 0 0), (.int 3 0), (.ref 475), (.bool true), (.int 181 0), (.ref 476), .none, (.ref 477), (.ref 478), (.ref 479), (.int 973 0), (.int 377 0), (.str (Str.ofString "/claim/cut.py") 974)],
  fO (tS 109) (Str.ofString "written") .none (.str (Str.ofString "lua.passes") 807) (.ref 480)
]
noncomputable def ch7 (P : Params) : List Obj := [
  sO (.type "tuple") [],
  cO (.type "builtin_function_or_method") [(.builtin "type.__prepare__"), (.type "type")],
  dO P (.type "dict") [((Str.ofString "__module__"), 983, (.str (Str.ofString "lua.passes") 807)), ((Str.ofString "__qualname__"), 985, (.str (Str.ofString "Folder") 984)), ((Str.ofString "__firstlineno__"), 987, (.int 394 986)), ((Str.ofString "__init__"), 996, (.ref 495)), ((Str.ofString "value"), 1004, (.ref 502)), ((Str.ofString "constant"), 1014, (.ref 509)), ((Str.ofString "forget"), 1020, (.ref 514)), ((Str.ofString "learn"), 1029, (.ref 521)), ((Str.ofString "step"), 1042, (.ref 528)), ((Str.ofString "folded"), 1052, (.ref 535)), ((Str.ofString "loaded"), 1062, (.ref 542)), ((Str.ofString "reckoned"), 1073, (.ref 549)), ((Str.ofString "answered"), 1082, (.ref 556)), ((Str.ofString "compared"), 1096, (.ref 563)), ((Str.ofString "tested"), 1107, (.ref 570)), ((Str.ofString "__static_attributes__"), 1113, (.ref 571))] 16,
  sO (.type "tuple") [],
  cO .none [(.int 396 0), (.int 4 0), (.ref 494), (.int 403 0), (.int 4 0), (.ref 501), (.int 408 0), (.int 4 0), (.ref 508), (.int 417 0), (.int 4 0), (.ref 513), (.int 423 0), (.int 4 0), (.ref 520), (.int 427 0), (.int 4 0), (.ref 527), (.int 443 0), (.int 4 0), (.ref 534), (.int 456 0), (.int 4 0), (.ref 541), (.int 462 0), (.int 4 0), (.ref 548), (.int 472 0), (.int 4 0), (.ref 555), (.int 480 0), (.int 4 0), (.ref 562), (.int 493 0), (.int 4 0), (.ref 569)],
  cO (.type "code") [(.str (Str.ofString "Folder") 978), (.str (Str.ofString "Folder") 979), (.str (Str.ofString "/claim/cut.py") 980), (.int 394 0), (.int 0 0), (.int 0 0), (.int 0 0), (.int 0 0), (.ref 485), (.bool false), (.int 181 0), (.ref 486), .none, .none, .none, .none, (.int 981 0), (.int 394 0), (.str (Str.ofString "/claim/cut.py") 982)],
  ⟨(.type "frame"), none, .plain, #[(some (.ref 487)), (some (.ref 3)), (some (.ref 484)), none, (some (.str (Str.ofString "lua.passes") 807)), none, (some (.ref 0))]⟩,
  sO (.type "tuple") [],
  cO .none [],
  sO (.type "tuple") [(.str (Str.ofString "self") 991), (.str (Str.ofString "p") 992), (.str (Str.ofString "limits") 993)],
  sO (.type "tuple") [],
  jO (mS 110 0) (Str.ofString "Folder.__init__"),
  cO (.type "code") [(.str (Str.ofString "__init__") 988), (.str (Str.ofString "Folder.__init__") 989), (.str (Str.ofString "/claim/cut.py") 990), (.int 396 0), (.int 3 0), (.int 0 0), (.int 0 0), (.int 3 0), (.ref 489), (.bool true), (.int 181 0), (.ref 490), .none, (.ref 491), (.ref 492), (.ref 493), (.int 994 0), (.int 396 0), (.str (Str.ofString "/claim/cut.py") 995)],
  fO (mS 110 0) (Str.ofString "Folder.__init__") .none (.str (Str.ofString "lua.passes") 807) (.ref 494),
  sO (.type "tuple") [],
  cO .none [],
  sO (.type "tuple") [(.str (Str.ofString "self") 1000), (.str (Str.ofString "arg") 1001)],
  sO (.type "tuple") [],
  jO (mS 110 1) (Str.ofString "Folder.value"),
  cO (.type "code") [(.str (Str.ofString "value") 997), (.str (Str.ofString "Folder.value") 998), (.str (Str.ofString "/claim/cut.py") 999), (.int 403 0), (.int 2 0), (.int 0 0), (.int 0 0), (.int 3 0), (.ref 496), (.bool true), (.int 181 0), (.ref 497), .none, (.ref 498), (.ref 499), (.ref 500), (.int 1002 0), (.int 403 0), (.str (Str.ofString "/claim/cut.py") 1003)],
  fO (mS 110 1) (Str.ofString "Folder.value") .none (.str (Str.ofString "lua.passes") 807) (.ref 501),
  sO (.type "tuple") [],
  cO .none [],
  sO (.type "tuple") [(.str (Str.ofString "self") 1008), (.str (Str.ofString "value") 1009), (.str (Str.ofString "at") 1010), (.str (Str.ofString "one") 1011)],
  sO (.type "tuple") [],
  jO (mS 110 2) (Str.ofString "Folder.constant"),
  cO (.type "code") [(.str (Str.ofString "constant") 1005), (.str (Str.ofString "Folder.constant") 1006), (.str (Str.ofString "/claim/cut.py") 1007), (.int 408 0), (.int 2 0), (.int 0 0), (.int 0 0), (.int 3 0), (.ref 503), (.bool true), (.int 181 0), (.ref 504), .none, (.ref 505), (.ref 506), (.ref 507), (.int 1012 0), (.int 408 0), (.str (Str.ofString "/claim/cut.py") 1013)],
  fO (mS 110 2) (Str.ofString "Folder.constant") .none (.str (Str.ofString "lua.passes") 807) (.ref 508),
  sO (.type "tuple") [],
  cO .none [],
  jO (mS 110 3) (Str.ofString "Folder.forget"),
  cO (.type "code") [(.str (Str.ofString "forget") 1015), (.str (Str.ofString "Folder.forget") 1016), (.str (Str.ofString "/claim/cut.py") 1017), (.int 417 0), (.int 2 0), (.int 0 0), (.int 0 0), (.int 3 0), (.ref 510), (.bool true), (.int 181 0), (.ref 511), .none, .none, .none, (.ref 512), (.int 1018 0), (.int 417 0), (.str (Str.ofString "/claim/cut.py") 1019)],
  fO (mS 110 3) (Str.ofString "Folder.forget") .none (.str (Str.ofString "lua.passes") 807) (.ref 513),
  sO (.type "tuple") [],
  cO .none [],
  sO (.type "tuple") [(.str (Str.ofString "self") 1024), (.str (Str.ofString "reg") 1025), (.str (Str.ofString "told") 1026)],
  sO (.type "tuple") [],
  jO (mS 110 4) (Str.ofString "Folder.learn"),
  cO (.type "code") [(.str (Str.ofString "learn") 1021), (.str (Str.ofString "Folder.learn") 1022), (.str (Str.ofString "/claim/cut.py") 1023), (.int 423 0), (.int 3 0), (.int 0 0), (.int 0 0), (.int 3 0), (.ref 515), (.bool true), (.int 181 0), (.ref 516), .none, (.ref 517), (.ref 518), (.ref 519), (.int 1027 0), (.int 423 0), (.str (Str.ofString "/claim/cut.py") 1028)],
  fO (mS 110 4) (Str.ofString "Folder.learn") .none (.str (Str.ofString "lua.passes") 807) (.ref 520),
  sO (.type "tuple") [],
  cO .none [],
  sO (.type "tuple") [(.str (Str.ofString "self") 1033), (.str (Str.ofString "pc") 1034), (.str (Str.ofString "i") 1035), (.str (Str.ofString "op") 1036), (.str (Str.ofString "a") 1037), (.str (Str.ofString "told") 1038), (.str (Str.ofString "reg") 1039)],
  sO (.type "tuple") [],
  jO (mS 110 5) (Str.ofString "Folder.step"),
  cO (.type "code") [(.str (Str.ofString "step") 1030), (.str (Str.ofString "Folder.step") 1031), (.str (Str.ofString "/claim/cut.py") 1032), (.int 427 0), (.int 2 0), (.int 0 0), (.int 0 0), (.int 3 0), (.ref 522), (.bool true), (.int 181 0), (.ref 523), .none, (.ref 524), (.ref 525), (.ref 526), (.int 1040 0), (.int 427 0), (.str (Str.ofString "/claim/cut.py") 1041)],
  fO (mS 110 5) (Str.ofString "Folder.step") .none (.str (Str.ofString "lua.passes") 807) (.ref 527),
  sO (.type "tuple") [],
  cO .none [],
  sO (.type "tuple") [(.str (Str.ofString "self") 1046), (.str (Str.ofString "pc") 1047), (.str (Str.ofString "i") 1048), (.str (Str.ofString "op") 1049)],
  sO (.type "tuple") [],
  jO (mS 110 6) (Str.ofString "Folder.folded"),
  cO (.type "code") [(.str (Str.ofString "folded") 1043), (.str (Str.ofString "Folder.folded") 1044), (.str (Str.ofString "/claim/cut.py") 1045), (.int 443 0), (.int 2 0), (.int 0 0), (.int 0 0), (.int 3 0), (.ref 529), (.bool true), (.int 181 0), (.ref 530), .none, (.ref 531), (.ref 532), (.ref 533), (.int 1050 0), (.int 443 0), (.str (Str.ofString "/claim/cut.py") 1051)],
  fO (mS 110 6) (Str.ofString "Folder.folded") .none (.str (Str.ofString "lua.passes") 807) (.ref 534),
  sO (.type "tuple") [],
  cO .none [],
  sO (.type "tuple") [(.str (Str.ofString "self") 1056), (.str (Str.ofString "i") 1057), (.str (Str.ofString "value") 1058), (.str (Str.ofString "at") 1059)],
  sO (.type "tuple") [],
  jO (mS 110 7) (Str.ofString "Folder.loaded"),
  cO (.type "code") [(.str (Str.ofString "loaded") 1053), (.str (Str.ofString "Folder.loaded") 1054), (.str (Str.ofString "/claim/cut.py") 1055), (.int 456 0), (.int 3 0), (.int 0 0), (.int 0 0), (.int 3 0), (.ref 536), (.bool true), (.int 181 0), (.ref 537), .none, (.ref 538), (.ref 539), (.ref 540), (.int 1060 0), (.int 456 0), (.str (Str.ofString "/claim/cut.py") 1061)],
  fO (mS 110 7) (Str.ofString "Folder.loaded") .none (.str (Str.ofString "lua.passes") 807) (.ref 541),
  sO (.type "tuple") [],
  cO .none [],
  sO (.type "tuple") [(.str (Str.ofString "self") 1066), (.str (Str.ofString "i") 1067), (.str (Str.ofString "op") 1068), (.str (Str.ofString "one") 1069), (.str (Str.ofString "other") 1070)],
  sO (.type "tuple") [],
  jO (mS 110 8) (Str.ofString "Folder.reckoned"),
  cO (.type "code") [(.str (Str.ofString "reckoned") 1063), (.str (Str.ofString "Folder.reckoned") 1064), (.str (Str.ofString "/claim/cut.py") 1065), (.int 462 0), (.int 2 0), (.int 0 0), (.int 0 0), (.int 3 0), (.ref 543), (.bool true), (.int 181 0), (.ref 544), .none, (.ref 545), (.ref 546), (.ref 547), (.int 1071 0), (.int 462 0), (.str (Str.ofString "/claim/cut.py") 1072)],
  fO (mS 110 8) (Str.ofString "Folder.reckoned") .none (.str (Str.ofString "lua.passes") 807) (.ref 548),
  sO (.type "tuple") [],
  cO .none [],
  sO (.type "tuple") [(.str (Str.ofString "self") 1077), (.str (Str.ofString "i") 1078), (.str (Str.ofString "told") 1079)],
  sO (.type "tuple") [],
  jO (mS 110 9) (Str.ofString "Folder.answered"),
  cO (.type "code") [(.str (Str.ofString "answered") 1074), (.str (Str.ofString "Folder.answered") 1075), (.str (Str.ofString "/claim/cut.py") 1076), (.int 472 0), (.int 2 0), (.int 0 0), (.int 0 0), (.int 3 0), (.ref 550), (.bool true), (.int 181 0), (.ref 551), .none, (.ref 552), (.ref 553), (.ref 554), (.int 1080 0), (.int 472 0), (.str (Str.ofString "/claim/cut.py") 1081)],
  fO (mS 110 9) (Str.ofString "Folder.answered") .none (.str (Str.ofString "lua.passes") 807) (.ref 555),
  sO (.type "tuple") [],
  cO .none [],
  sO (.type "tuple") [(.str (Str.ofString "self") 1086), (.str (Str.ofString "i") 1087), (.str (Str.ofString "one") 1088), (.str (Str.ofString "other") 1089), (.str (Str.ofString "op") 1090), (.str (Str.ofString "left") 1091), (.str (Str.ofString "right") 1092), (.str (Str.ofString "is_so") 1093)],
  sO (.type "tuple") [],
  jO (mS 110 10) (Str.ofString "Folder.compared"),
  cO (.type "code") [(.str (Str.ofString "compared") 1083), (.str (Str.ofString "Folder.compared") 1084), (.str (Str.ofString "/claim/cut.py") 1085), (.int 480 0), (.int 2 0), (.int 0 0), (.int 0 0), (.int 3 0), (.ref 557), (.bool true), (.int 181 0), (.ref 558), .none, (.ref 559), (.ref 560), (.ref 561), (.int 1094 0), (.int 480 0), (.str (Str.ofString "/claim/cut.py") 1095)],
  fO (mS 110 10) (Str.ofString "Folder.compared") .none (.str (Str.ofString "lua.passes") 807) (.ref 562),
  sO (.type "tuple") [],
  cO .none [],
  sO (.type "tuple") [(.str (Str.ofString "self") 1100), (.str (Str.ofString "i") 1101), (.str (Str.ofString "is_set") 1102), (.str (Str.ofString "told") 1103), (.str (Str.ofString "is_true") 1104)],
  sO (.type "tuple") [],
  jO (mS 110 11) (Str.ofString "Folder.tested"),
  cO (.type "code") [(.str (Str.ofString "tested") 1097), (.str (Str.ofString "Folder.tested") 1098), (.str (Str.ofString "/claim/cut.py") 1099), (.int 493 0), (.int 2 0), (.int 0 0), (.int 0 0), (.int 3 0), (.ref 564), (.bool true), (.int 181 0), (.ref 565), .none, (.ref 566), (.ref 567), (.ref 568), (.int 1105 0), (.int 493 0), (.str (Str.ofString "/claim/cut.py") 1106)],
  fO (mS 110 11) (Str.ofString "Folder.tested") .none (.str (Str.ofString "lua.passes") 807) (.ref 569),
  sO (.type "tuple") [(.str (Str.ofString "known") 1108), (.str (Str.ofString "limits") 1109), (.str (Str.ofString "new") 1110), (.str (Str.ofString "old") 1111), (.str (Str.ofString "shared") 1112)],
  dO P (.type "dict") [((Str.ofString "__module__"), 983, (.str (Str.ofString "lua.passes") 807)), ((Str.ofString "__firstlineno__"), 987, (.int 394 986)), ((Str.ofString "__init__"), 996, (.ref 495)), ((Str.ofString "value"), 1004, (.ref 502)), ((Str.ofString "constant"), 1014, (.ref 509)), ((Str.ofString "forget"), 1020, (.ref 514)), ((Str.ofString "learn"), 1029, (.ref 521)), ((Str.ofString "step"), 1042, (.ref 528)), ((Str.ofString "folded"), 1052, (.ref 535)), ((Str.ofString "loaded"), 1062, (.ref 542)), ((Str.ofString "reckoned"), 1073, (.ref 549)), ((Str.ofString "answered"), 1082, (.ref 556)), ((Str.ofString "compared"), 1096, (.ref 563)), ((Str.ofString "tested"), 1107, (.ref 570)), ((Str.ofString "__static_attributes__"), 1113, (.ref 571)), ((Str.ofString "__dict__"), 1115, (.ref 574)), ((Str.ofString "__weakref__"), 1117, (.ref 575)), ((Str.ofString "__doc__"), 1118, .none)] 4,
  ⟨(.type "type"), none, .cls { name := (Str.ofString "Folder"), bases := [(.type "object")], mro := [(.ref 573), (.type "object")], ns := 572, qualname := (Str.ofString "Folder"), hasDict := true, slotNames := [], subclasses := [], abstract := false, collection := none, hasDel := false }, #[none, none, (some (.str (Str.ofString "Folder") 976)), (some (.str (Str.ofString "Folder") 984)), (some (.builtin "object.__new__")), (some (.bool true))]⟩,
  cO (.type "getset_descriptor") [(.str (Str.ofString "__dict__") 1114), (.ref 573), (.builtin "function.__dict__"), (.builtin "function.__dict__#set")],
  cO (.type "getset_descriptor") [(.str (Str.ofString "__weakref__") 1116), (.ref 573), (.builtin "ExceptionGroup.__weakref__"), .none],
  cO (.type "super") [(.ref 573), (.ref 573), (.ref 573)],
  cO (.type "builtin_function_or_method") [(.builtin "object.__init_subclass__"), (.ref 573)]
]
noncomputable def ch8 (P : Params) : List Obj := [
  sO (.type "tuple") [],
  cO .none [],
  sO (.type "tuple") [(.str (Str.ofString "is_taken") 1124)],
  sO (.type "tuple") [],
  jO (tS 111) (Str.ofString "chosen"),
  cO (.type "code") [(.str (Str.ofString "chosen") 1121), (.str (Str.ofString "chosen") 1122), (.str (Str.ofString "/claim/cut.py") 1123), (.int 502 0), (.int 1 0), (.int 0 0), (.int 0 0), (.int 3 0), (.ref 578), (.bool true), (.int 181 0), (.ref 579), .none, (.ref 580), (.ref 581), (.ref 582), (.int 1125 0), (.int 502 0), (.str (Str.ofString "/claim/cut.py") 1126)],
  fO (tS 111) (Str.ofString "chosen") .none (.str (Str.ofString "lua.passes") 807) (.ref 583),
  sO (.type "tuple") [],
  cO .none [],
  jO (tS 112) (Str.ofString "fold_constants"),
  cO (.type "code") [(.str (Str.ofString "fold_constants") 1128), (.str (Str.ofString "fold_constants") 1129), (.str (Str.ofString "/claim/cut.py") 1130), (.int 504 0), (.int 2 0), (.int 0 0), (.int 0 0), (.int 3 0), (.ref 585), (.bool true), (.int 181 0), (.ref 586), .none, .none, .none, (.ref 587), (.int 1131 0), (.int 504 0), (.str (Str.ofString "/claim/cut.py") 1132)],
  fO (tS 112) (Str.ofString "fold_constants") .none (.str (Str.ofString "lua.passes") 807) (.ref 588),
  sO (.type "tuple") [],
  cO .none [],
  sO (.type "tuple") [(.str (Str.ofString "p") 1137), (.str (Str.ofString "kept") 1138), (.str (Str.ofString "found") 1139), (.str (Str.ofString "pc") 1140), (.str (Str.ofString "i") 1141)],
  sO (.type "tuple") [],
  jO (tS 113) (Str.ofString "without_skips"),
  cO (.type "code") [(.str (Str.ofString "without_skips") 1134), (.str (Str.ofString "without_skips") 1135), (.str (Str.ofString "/claim/cut.py") 1136), (.int 514 0), (.int 2 0), (.int 0 0), (.int 0 0), (.int 3 0), (.ref 590), (.bool true), (.int 181 0), (.ref 591), .none, (.ref 592), (.ref 593), (.ref 594), (.int 1142 0), (.int 514 0), (.str (Str.ofString "/claim/cut.py") 1143)],
  fO (tS 113) (Str.ofString "without_skips") .none (.str (Str.ofString "lua.passes") 807) (.ref 595),
  sO (.type "tuple") [],
  cO .none [],
  jO (tS 114) (Str.ofString "drop_dead"),
  cO (.type "code") [(.str (Str.ofString "drop_dead") 1145), (.str (Str.ofString "drop_dead") 1146), (.str (Str.ofString "/claim/cut.py") 1147), (.int 521 0), (.int 1 0), (.int 0 0), (.int 0 0), (.int 3 0), (.ref 597), (.bool true), (.int 181 0), (.ref 598), .none, .none, .none, (.ref 599), (.int 1148 0), (.int 521 0), (.str (Str.ofString "/claim/cut.py") 1149)],
  fO (tS 114) (Str.ofString "drop_dead") .none (.str (Str.ofString "lua.passes") 807) (.ref 600),
  sO (.type "tuple") [],
  cO .none [],
  sO (.type "tuple") [(.str (Str.ofString "p") 1154), (.str (Str.ofString "pc") 1155), (.str (Str.ofString "ahead") 1156), (.str (Str.ofString "i") 1157), (.str (Str.ofString "before") 1158)],
  sO (.type "tuple") [],
  jO (tS 115) (Str.ofString "does_nothing"),
  cO (.type "code") [(.str (Str.ofString "does_nothing") 1151), (.str (Str.ofString "does_nothing") 1152), (.str (Str.ofString "/claim/cut.py") 1153), (.int 529 0), (.int 3 0), (.int 0 0), (.int 0 0), (.int 3 0), (.ref 602), (.bool true), (.int 181 0), (.ref 603), .none, (.ref 604), (.ref 605), (.ref 606), (.int 1159 0), (.int 529 0), (.str (Str.ofString "/claim/cut.py") 1160)],
  fO (tS 115) (Str.ofString "does_nothing") .none (.str (Str.ofString "lua.passes") 807) (.ref 607),
  sO (.type "tuple") [],
  cO .none [],
  jO (tS 116) (Str.ofString "drop_empty"),
  cO (.type "code") [(.str (Str.ofString "drop_empty") 1162), (.str (Str.ofString "drop_empty") 1163), (.str (Str.ofString "/claim/cut.py") 1164), (.int 540 0), (.int 1 0), (.int 0 0), (.int 0 0), (.int 3 0), (.ref 609), (.bool true), (.int 181 0), (.ref 610), .none, .none, .none, (.ref 611), (.int 1165 0), (.int 540 0), (.str (Str.ofString "/claim/cut.py") 1166)],
  fO (tS 116) (Str.ofString "drop_empty") .none (.str (Str.ofString "lua.passes") 807) (.ref 612),
  sO (.type "tuple") [],
  cO .none [],
  sO (.type "tuple") [(.str (Str.ofString "p") 1171), (.str (Str.ofString "q") 1172), (.str (Str.ofString "at") 1173), (.str (Str.ofString "one") 1174)],
  sO (.type "tuple") [],
  jO (tS 117) (Str.ofString "has_like_code"),
  cO (.type "code") [(.str (Str.ofString "has_like_code") 1168), (.str (Str.ofString "has_like_code") 1169), (.str (Str.ofString "/claim/cut.py") 1170), (.int 548 0), (.int 2 0), (.int 0 0), (.int 0 0), (.int 3 0), (.ref 614), (.bool true), (.int 181 0), (.ref 615), .none, (.ref 616), (.ref 617), (.ref 618), (.int 1175 0), (.int 548 0), (.str (Str.ofString "/claim/cut.py") 1176)],
  fO (tS 117) (Str.ofString "has_like_code") .none (.str (Str.ofString "lua.passes") 807) (.ref 619),
  sO (.type "tuple") [],
  cO .none [],
  sO (.type "tuple") [(.str (Str.ofString "p") 1181), (.str (Str.ofString "limits") 1182), (.str (Str.ofString "found") 1183), (.str (Str.ofString "is_turned") 1184), (.str (Str.ofString "later") 1185)],
  sO (.type "tuple") [],
  jO (tS 118) (Str.ofString "run_all"),
  cO (.type "code") [(.str (Str.ofString "run_all") 1178), (.str (Str.ofString "run_all") 1179), (.str (Str.ofString "/claim/cut.py") 1180), (.int 555 0), (.int 2 0), (.int 0 0), (.int 0 0), (.int 3 0), (.ref 621), (.bool true), (.int 181 0), (.ref 622), .none, (.ref 623), (.ref 624), (.ref 625), (.int 1186 0), (.int 555 0), (.str (Str.ofString "/claim/cut.py") 1187)],
  fO (tS 118) (Str.ofString "run_all") .none (.str (Str.ofString "lua.passes") 807) (.ref 626),
  sO (.type "tuple") [],
  cO .none [],
  sO (.type "tuple") [(.str (Str.ofString "cup") 1194), (.str (Str.ofString "many") 1195), (.str (Str.ofString "dice") 1196), (.str (Str.ofString "turn") 1197)],
  sO (.type "tuple") [],
  jO (tS 120) (Str.ofString "_law_rolled"),
  cO (.type "code") [(.str (Str.ofString "_law_rolled") 1191), (.str (Str.ofString "_law_rolled") 1192), (.str (Str.ofString "/claim/cut.py") 1193), (.int 562 0), (.int 2 0), (.int 0 0), (.int 0 0), (.int 3 0), (.ref 628), (.bool true), (.int 181 0), (.ref 629), .none, (.ref 630), (.ref 631), (.ref 632), (.int 1198 0), (.int 562 0), (.str (Str.ofString "/claim/cut.py") 1199)],
  fO (tS 120) (Str.ofString "_law_rolled") .none (.str (Str.ofString "law_rh0166_01") 1189) (.ref 633),
  sO (.type "tuple") [],
  cO .none [],
  sO (.type "tuple") [(.str (Str.ofString "code") 1204), (.str (Str.ofString "constants") 1205), (.str (Str.ofString "found") 1206)],
  sO (.type "tuple") [],
  jO (tS 121) (Str.ofString "_law_made"),
  cO (.type "code") [(.str (Str.ofString "_law_made") 1201), (.str (Str.ofString "_law_made") 1202), (.str (Str.ofString "/claim/cut.py") 1203), (.int 566 0), (.int 2 0), (.int 0 0), (.int 0 0), (.int 3 0), (.ref 635), (.bool true), (.int 181 0), (.ref 636), .none, (.ref 637), (.ref 638), (.ref 639), (.int 1207 0), (.int 566 0), (.str (Str.ofString "/claim/cut.py") 1208)],
  fO (tS 121) (Str.ofString "_law_made") .none (.str (Str.ofString "law_rh0166_01") 1189) (.ref 640),
  sO (.type "tuple") [],
  cO .none [],
  jO (tS 122) (Str.ofString "_law_loop_right"),
  cO (.type "code") [(.str (Str.ofString "_law_loop_right") 1210), (.str (Str.ofString "_law_loop_right") 1211), (.str (Str.ofString "/claim/cut.py") 1212), (.int 570 0), (.int 1 0), (.int 0 0), (.int 0 0), (.int 3 0), (.ref 642), (.bool true), (.int 181 0), (.ref 643), .none, .none, .none, (.ref 644), (.int 1213 0), (.int 570 0), (.str (Str.ofString "/claim/cut.py") 1214)],
  fO (tS 122) (Str.ofString "_law_loop_right") .none (.str (Str.ofString "law_rh0166_01") 1189) (.ref 645),
  sO (.type "tuple") [],
  cO .none [],
  jO (tS 123) (Str.ofString "_law_closure_right"),
  cO (.type "code") [(.str (Str.ofString "_law_closure_right") 1216), (.str (Str.ofString "_law_closure_right") 1217), (.str (Str.ofString "/claim/cut.py") 1218), (.int 584 0), (.int 1 0), (.int 0 0), (.int 0 0), (.int 3 0), (.ref 647), (.bool true), (.int 181 0), (.ref 648), .none, .none, .none, (.ref 649), (.int 1219 0), (.int 584 0), (.str (Str.ofString "/claim/cut.py") 1220)],
  fO (tS 123) (Str.ofString "_law_closure_right") .none (.str (Str.ofString "law_rh0166_01") 1189) (.ref 650),
  sO (.type "tuple") [],
  cO .none [],
  jO (tS 124) (Str.ofString "_law_locals_right"),
  cO (.type "code") [(.str (Str.ofString "_law_locals_right") 1222), (.str (Str.ofString "_law_locals_right") 1223), (.str (Str.ofString "/claim/cut.py") 1224), (.int 607 0), (.int 1 0), (.int 0 0), (.int 0 0), (.int 3 0), (.ref 652), (.bool true), (.int 181 0), (.ref 653), .none, .none, .none, (.ref 654), (.int 1225 0), (.int 607 0), (.str (Str.ofString "/claim/cut.py") 1226)],
  fO (tS 124) (Str.ofString "_law_locals_right") .none (.str (Str.ofString "law_rh0166_01") 1189) (.ref 655),
  sO (.type "tuple") [],
  cO .none [],
  sO (.type "tuple") [(.str (Str.ofString "script") 1231), (.str (Str.ofString "cup") 1232)],
  sO (.type "tuple") [],
  jO (tS 125) (Str.ofString "law"),
  cO (.type "code") [(.str (Str.ofString "law") 1228), (.str (Str.ofString "law") 1229), (.str (Str.ofString "/claim/cut.py") 1230), (.int 620 0), (.int 1 0), (.int 0 0), (.int 0 0), (.int 3 0), (.ref 657), (.bool true), (.int 181 0), (.ref 658), .none, (.ref 659), (.ref 660), (.ref 661), (.int 1233 0), (.int 620 0), (.str (Str.ofString "/claim/cut.py") 1234)],
  fO (tS 125) (Str.ofString "law") .none (.str (Str.ofString "law_rh0166_01") 1189) (.ref 662)
]
noncomputable def lo (P : Params) (x2 x3 x12 : Obj) (r : List Obj) : List Obj := boot_o_0 P :: boot_o_1 P :: x2 :: x3 :: boot_o_4 P :: boot_o_5 P :: boot_o_6 P :: boot_o_7 P :: boot_o_8 P :: boot_o_9 P :: boot_o_10 P :: (sO (.type "tuple") []) :: x12 :: (cO (.type "code") [(.str (Str.ofString "<module>") 182), (.str (Str.ofString "<module>") 183), (.str (Str.ofString "/claim/cut.py") 184), (.int 1 0), (.int 0 0), (.int 0 0), (.int 0 0), (.int 0 0), (.ref 11), (.bool false), (.int 181 0), (.ref 12), .none, .none, .none, .none, (.int 185 0), (.int 1 0), (.str (Str.ofString "/claim/cut.py") 186)]) :: (⟨(.type "frame"), none, .plain, #[(some (.ref 13)), (some (.ref 3)), (some (.ref 3)), none, (some (.str (Str.ofString "__main__") 164)), none, (some (.ref 0))]⟩) :: r
noncomputable def l0 (P : Params) : List Obj := lo P (dO P .none [] 0) (d3 P (Str.ofString "__main__") 164 8 9) (cO .none (f12.take 0)) ([])
noncomputable def s0 (w : World) (os : OsState) : SharedT := ⟨treeB 11 (l0 w.params), 15, {}, Array.mk [], boot_drawn, 187, os⟩
noncomputable def l1 (P : Params) : List Obj := lo P (dO P .none [] 0) (d3 P (Str.ofString "lua.opcodes") 194 57 58) (cO .none (f12.take 3)) (ch0 P )
noncomputable def s1 (w : World) (os : OsState) : SharedT := ⟨treeB 11 (l1 w.params), 22, {}, Array.mk [], boot_drawn, 302, os⟩
noncomputable def l2 (P : Params) : List Obj := lo P (dO P .none [] 0) (d3 P (Str.ofString "lua.values") 430 80 81) (cO .none (f12.take 51)) (ch0 P  ++ (ch1 P ))
noncomputable def s2 (w : World) (os : OsState) : SharedT := ⟨treeB 11 (l2 w.params), 134, {}, Array.mk [], boot_drawn, 447, os⟩
noncomputable def l3 (P : Params) : List Obj := lo P (dO P .none [((Str.ofString "type.__subclasses__.Exception.0"), 545, (.int 186 0)), ((Str.ofString "type.__subclasses__.Exception.n"), 546, (.int 2 0)), ((Str.ofString "type.__subclasses__.Exception.1"), 574, (.int 206 0))] 3) (d3 P (Str.ofString "lua.values") 430 83 84) (cO .none (f12.take 60)) (ch0 P  ++ (ch1 P  ++ (ch2 P )))
noncomputable def s3 (w : World) (os : OsState) : SharedT := ⟨treeB 11 (l3 w.params), 210, {}, Array.mk [], boot_drawn, 578, os⟩
noncomputable def l4 (P : Params) : List Obj := lo P (dO P .none [((Str.ofString "type.__subclasses__.Exception.0"), 545, (.int 186 0)), ((Str.ofString "type.__subclasses__.Exception.n"), 546, (.int 2 0)), ((Str.ofString "type.__subclasses__.Exception.1"), 574, (.int 206 0))] 3) (d3 P (Str.ofString "lua.protos") 710 93 94) (cO .none (f12.take 90)) (ch0 P  ++ (ch1 P  ++ (ch2 P  ++ (ch3 P [] ))))
noncomputable def s4 (w : World) (os : OsState) : SharedT := ⟨treeB 11 (l4 w.params), 308, {}, Array.mk [], boot_drawn, 712, os⟩
noncomputable def l5 (P : Params) : List Obj := lo P (dO P .none [((Str.ofString "type.__subclasses__.Exception.0"), 545, (.int 186 0)), ((Str.ofString "type.__subclasses__.Exception.n"), 546, (.int 2 0)), ((Str.ofString "type.__subclasses__.Exception.1"), 574, (.int 206 0))] 3) (d3 P (Str.ofString "lua.passes") 807 97 98) (cO .none (f12.take 96)) (ch0 P  ++ (ch1 P  ++ (ch2 P  ++ (ch3 P [(.ref 366)]  ++ (ch4 P )))))
noncomputable def s5 (w : World) (os : OsState) : SharedT := ⟨treeB 11 (l5 w.params), 371, {}, Array.mk [], boot_drawn, 811, os⟩
noncomputable def l6 (P : Params) : List Obj := lo P (dO P .none [((Str.ofString "type.__subclasses__.Exception.0"), 545, (.int 186 0)), ((Str.ofString "type.__subclasses__.Exception.n"), 546, (.int 2 0)), ((Str.ofString "type.__subclasses__.Exception.1"), 574, (.int 206 0))] 3) (d3 P (Str.ofString "lua.passes") 807 98 99) (cO .none (f12.take 96)) (ch0 P  ++ (ch1 P  ++ (ch2 P  ++ (ch3 P [(.ref 366)]  ++ (ch4 P  ++ (ch5 P ))))))
noncomputable def s6 (w : World) (os : OsState) : SharedT := ⟨treeB 11 (l6 w.params), 372, {}, Array.mk [], boot_drawn, 826, os⟩
noncomputable def l7 (P : Params) : List Obj := lo P (dO P .none [((Str.ofString "type.__subclasses__.Exception.0"), 545, (.int 186 0)), ((Str.ofString "type.__subclasses__.Exception.n"), 546, (.int 2 0)), ((Str.ofString "type.__subclasses__.Exception.1"), 574, (.int 206 0))] 3) (d3 P (Str.ofString "lua.passes") 807 114 115) (cO .none (f12.take 141)) (ch0 P  ++ (ch1 P  ++ (ch2 P  ++ (ch3 P [(.ref 366)]  ++ (ch4 P  ++ (ch5 P  ++ (ch6 P )))))))
noncomputable def s7 (w : World) (os : OsState) : SharedT := ⟨treeB 11 (l7 w.params), 482, {}, Array.mk [], boot_drawn, 976, os⟩
noncomputable def l8 (P : Params) : List Obj := lo P (dO P .none [((Str.ofString "type.__subclasses__.Exception.0"), 545, (.int 186 0)), ((Str.ofString "type.__subclasses__.Exception.n"), 546, (.int 2 0)), ((Str.ofString "type.__subclasses__.Exception.1"), 574, (.int 206 0))] 3) (d3 P (Str.ofString "lua.passes") 807 115 116) (cO .none (f12.take 144)) (ch0 P  ++ (ch1 P  ++ (ch2 P  ++ (ch3 P [(.ref 366)]  ++ (ch4 P  ++ (ch5 P  ++ (ch6 P  ++ (ch7 P ))))))))
noncomputable def s8 (w : World) (os : OsState) : SharedT := ⟨treeB 11 (l8 w.params), 578, {}, Array.mk [], boot_drawn, 1121, os⟩
noncomputable def l9 (P : Params) : List Obj := lo P (dO P .none [((Str.ofString "type.__subclasses__.Exception.0"), 545, (.int 186 0)), ((Str.ofString "type.__subclasses__.Exception.n"), 546, (.int 2 0)), ((Str.ofString "type.__subclasses__.Exception.1"), 574, (.int 206 0))] 3) (d3 P (Str.ofString "law_rh0166_01") 1189 129 130) (cO .none (f12.take 186)) (ch0 P  ++ (ch1 P  ++ (ch2 P  ++ (ch3 P [(.ref 366)]  ++ (ch4 P  ++ (ch5 P  ++ (ch6 P  ++ (ch7 P  ++ (ch8 P )))))))))
noncomputable def s9 (w : World) (os : OsState) : SharedT := ⟨treeB 11 (l9 w.params), 664, {}, Array.mk [], boot_drawn, 1236, os⟩
noncomputable def z0 : Pos := ⟨0, 0, 0, 0⟩
noncomputable def z1 : Pos := ⟨52, 0, 52, 9⟩
noncomputable def z2 : Pos := ⟨93, 0, 93, 7⟩
noncomputable def z3 : Pos := ⟨119, 0, 122, 24⟩
noncomputable def z4 : Pos := ⟨204, 0, 204, 8⟩
noncomputable def z5 : Pos := ⟨240, 0, 240, 8⟩
noncomputable def z6 : Pos := ⟨241, 0, 241, 6⟩
noncomputable def z7 : Pos := ⟨377, 0, 393, 17⟩
noncomputable def z8 : Pos := ⟨394, 0, 501, 85⟩
noncomputable def z9 : Pos := ⟨620, 0, 624, 116⟩
noncomputable def t0 : List Stmt := ((behindTheImports pg).drop 0).take 50
theorem seg0 (w : World) (os : OsState) : segRunT treeTable pg w 11 annB 1 549 (s0 w os) (piecesOf t0 envT codT z0 [topFrame z0]) = some (Flow.next, s1 w os, codT, z1) := by
  rw [PySem.W.Fast.te10110043849684766642, PySem.W.Fast.te14364793385576792824]; kernel_rfl
noncomputable def t1 : List Stmt := ((behindTheImports pg).drop 50).take 24
theorem seg1 (w : World) (os : OsState) : segRunT treeTable pg w 11 annB 1 558 (s1 w os) (piecesOf t1 envT codT z1 [topFrame z0]) = some (Flow.next, s2 w os, codT, z2) := by
  rw [PySem.W.Fast.te10110043849684766642, PySem.W.Fast.te14364793385576792824]; kernel_rfl
noncomputable def t2 : List Stmt := ((behindTheImports pg).drop 74).take 3
theorem seg2 (w : World) (os : OsState) : segRunT treeTable pg w 11 annB 1 772 (s2 w os) (piecesOf t2 envT codT z2 [topFrame z0]) = some (Flow.next, s3 w os, codT, z3) := by
  rw [PySem.W.Fast.te10110043849684766642, PySem.W.Fast.te14364793385576792824]; kernel_rfl
noncomputable def t3 : List Stmt := ((behindTheImports pg).drop 77).take 11
theorem seg3 (w : World) (os : OsState) : segRunT treeTable pg w 11 annB 1 716 (s3 w os) (piecesOf t3 envT codT z3 [topFrame z0]) = some (Flow.next, s4 w os, codT, z4) := by
  rw [PySem.W.Fast.te10110043849684766642, PySem.W.Fast.te14364793385576792824]; kernel_rfl
noncomputable def t4 : List Stmt := ((behindTheImports pg).drop 88).take 5
theorem seg4 (w : World) (os : OsState) : segRunT treeTable pg w 11 annB 1 668 (s4 w os) (piecesOf t4 envT codT z4 [topFrame z0]) = some (Flow.next, s5 w os, codT, z5) := by
  rw [PySem.W.Fast.te10110043849684766642, PySem.W.Fast.te14364793385576792824]; kernel_rfl
noncomputable def t5 : List Stmt := ((behindTheImports pg).drop 93).take 1
theorem seg5_false (w : World) (os : OsState) : segRunT treeTable pg (w.withFollow "special-get-raises" false) 11 annB 1 109 (s5 (w.withFollow "special-get-raises" false) os) (piecesOf t5 envT codT z5 [topFrame z0]) = some (Flow.next, s6 (w.withFollow "special-get-raises" false) os, codT, z6) := by
  rw [PySem.W.Fast.te10110043849684766642, PySem.W.Fast.te14364793385576792824]; kernel_rfl
theorem seg5_true (w : World) (os : OsState) : segRunT treeTable pg (w.withFollow "special-get-raises" true) 11 annB 1 109 (s5 (w.withFollow "special-get-raises" true) os) (piecesOf t5 envT codT z5 [topFrame z0]) = some (Flow.next, s6 (w.withFollow "special-get-raises" true) os, codT, z6) := by
  rw [PySem.W.Fast.te10110043849684766642, PySem.W.Fast.te14364793385576792824]; kernel_rfl
theorem seg5 (w : World) (os : OsState) : segRunT treeTable pg w 11 annB 1 109 (s5 w os) (piecesOf t5 envT codT z5 [topFrame z0]) = some (Flow.next, s6 w os, codT, z6) :=
  byRow2 "special-get-raises" (P := fun w => segRunT treeTable pg w 11 annB 1 109 (s5 w os) (piecesOf t5 envT codT z5 [topFrame z0]) = some (Flow.next, s6 w os, codT, z6)) (fun w => seg5_false w os) (fun w => seg5_true w os) w
noncomputable def t6 : List Stmt := ((behindTheImports pg).drop 94).take 16
theorem seg6 (w : World) (os : OsState) : segRunT treeTable pg w 11 annB 1 656 (s6 w os) (piecesOf t6 envT codT z6 [topFrame z0]) = some (Flow.next, s7 w os, codT, z7) := by
  rw [PySem.W.Fast.te10110043849684766642, PySem.W.Fast.te14364793385576792824]; kernel_rfl
noncomputable def t7 : List Stmt := ((behindTheImports pg).drop 110).take 1
theorem seg7 (w : World) (os : OsState) : segRunT treeTable pg w 11 annB 1 601 (s7 w os) (piecesOf t7 envT codT z7 [topFrame z0]) = some (Flow.next, s8 w os, codT, z8) := by
  rw [PySem.W.Fast.te10110043849684766642, PySem.W.Fast.te14364793385576792824]; kernel_rfl
noncomputable def t8 : List Stmt := ((behindTheImports pg).drop 111).take 15
theorem seg8 (w : World) (os : OsState) : segRunT treeTable pg w 11 annB 1 419 (s8 w os) (piecesOf t8 envT codT z8 [topFrame z0]) = some (Flow.next, s9 w os, codT, z9) := by
  rw [PySem.W.Fast.te10110043849684766642, PySem.W.Fast.te14364793385576792824]; kernel_rfl
theorem body_cut : behindTheImports pg = (t0 ++ (t1 ++ (t2 ++ (t3 ++ (t4 ++ (t5 ++ (t6 ++ (t7 ++ (t8 ++ []))))))))) := by kernel_rfl
theorem fin0 (w : World) (os : OsState) : topRun treeTable pg w 11 annB 2 (s9 w os).abs ⟨doneF .next, codT, z9, [topFrame z0]⟩ = some (s9 w os).abs := by kernel_rfl
theorem pre0 (w : World) (os : OsState) : topGo treeTable pg w 11 annB 12 (bootS w os).abs (topStub pg) = some ((s0 w os).abs, ⟨denote treeTable codT, codT, z0, [topFrame z0]⟩) := by
  rw [PySem.W.Fast.te15667345088766844465, PySem.W.Fast.te14364793385576792824, PySem.W.Fast.te11892475500146522536]; kernel_rfl
theorem blk0 (w : World) (os : OsState) : segRunT treeTable pg w 11 annB 1 1 (s0 w os) (blockOf (behindTheImports pg) envT codT z0 [topFrame z0]) = some (Flow.next, s0 w os, codT, z0) := by
  rw [PySem.W.Fast.te10110043849684766642, PySem.W.Fast.te14364793385576792824]; kernel_rfl
theorem top0 (w : World) (os : OsState) : topRun treeTable pg w 11 annB (12 + (1 + (549 + (558 + (772 + (716 + (668 + (109 + (656 + (601 + (419 + 2))))))))))) (bootS w os).abs (topStub pg) = some (s9 w os).abs := by
  have k9 := piece_nil (env := envT) (fin0 w os)
  have k8 := piece_app (rest := []) (segRun_of (seg8 w os)) k9
  have k7 := piece_app (rest := (t8 ++ [])) (segRun_of (seg7 w os)) k8
  have k6 := piece_app (rest := (t7 ++ (t8 ++ []))) (segRun_of (seg6 w os)) k7
  have k5 := piece_app (rest := (t6 ++ (t7 ++ (t8 ++ [])))) (segRun_of (seg5 w os)) k6
  have k4 := piece_app (rest := (t5 ++ (t6 ++ (t7 ++ (t8 ++ []))))) (segRun_of (seg4 w os)) k5
  have k3 := piece_app (rest := (t4 ++ (t5 ++ (t6 ++ (t7 ++ (t8 ++ [])))))) (segRun_of (seg3 w os)) k4
  have k2 := piece_app (rest := (t3 ++ (t4 ++ (t5 ++ (t6 ++ (t7 ++ (t8 ++ []))))))) (segRun_of (seg2 w os)) k3
  have k1 := piece_app (rest := (t2 ++ (t3 ++ (t4 ++ (t5 ++ (t6 ++ (t7 ++ (t8 ++ [])))))))) (segRun_of (seg1 w os)) k2
  have k0 := piece_app (rest := (t1 ++ (t2 ++ (t3 ++ (t4 ++ (t5 ++ (t6 ++ (t7 ++ (t8 ++ []))))))))) (segRun_of (seg0 w os)) k1
  rw [← body_cut] at k0
  exact go_top (pre0 w os) (piece_block (segRun_of (blk0 w os)) k0)
noncomputable def tot : Nat := 12 + (1 + (549 + (558 + (772 + (716 + (668 + (109 + (656 + (601 + (419 + 2))))))))))
end Mine
end

section
open PySem PySem.W PyProof.Rows
namespace Mine
noncomputable def hpT (P : Params) : Heap := ⟨Array.mk (l9 P), {}⟩
theorem s9_abs (w : World) (os : OsState) : (s9 w os).abs = ⟨hpT w.params, Array.mk [], boot_drawn, 1236, os⟩ := by kernel_rfl
noncomputable def ka : List Nat := [1, 2, 3, 27, 28, 34, 35, 41, 42, 48, 49, 55, 56, 62, 63, 69, 70, 76, 77, 83, 84, 90, 91, 97, 98, 104, 105, 111, 112, 118, 119, 125, 126, 132, 133, 141, 147, 148, 154, 155, 161, 162, 164, 165, 222, 223, 225, 226, 257, 258, 264, 265, 271, 272, 278, 279, 285, 286, 292, 293, 299, 300, 306, 307, 320, 321, 323, 324, 341, 342, 348, 349, 355, 356, 362, 363, 365, 366, 369, 370, 371, 384, 385, 387, 388, 398, 399, 405, 406, 412, 413, 419, 420, 426, 427, 433, 434, 438, 439, 443, 444, 448, 449, 453, 454, 460, 461, 462, 466, 467, 473, 474, 480, 481, 494, 495, 501, 502, 508, 509, 513, 514, 520, 521, 527, 528, 534, 535, 541, 542, 548, 549, 555, 556, 562, 563, 569, 570, 572, 573, 583, 584, 588, 589, 595, 596, 600, 601, 607, 608, 612, 613, 619, 620, 626, 627, 633, 634, 640, 641, 645, 646, 650, 651, 655, 656, 662, 663]
noncomputable def kk (P : Params) : Frag := ka.map fun a => (a, ((l9 P)[a]?).getD ⟨.none, none, .plain, #[]⟩)
theorem ka_eq (P : Params) : ka = (kk P).map (·.1) := by kernel_rfl
noncomputable def HK : Hook := kHook kk ka ka_eq
noncomputable def qv : Program := view pg [125]
noncomputable def loose : List Str := (pg.main.body.take 125).flatMap bindsAtTop
noncomputable def XtQ : Shared → Bool := fun s => xlAt qv [] s && recOk (RowW.records PySem.Challenge.rw_rh0166_01.row.toRowW) s
noncomputable def sF (w : World) (os : OsState) : Shared := ⟨hpT w.params, Array.mk [], boot_drawn, 1236, os⟩
theorem look1 (w : World) (os : OsState) : (staticsOk (importedModules pg.main.body) (boot_heap w.params) (hpT w.params) && namesBound pg (hpT w.params) && gensDone (sF w os) && laidKept (boot_heap w.params) (hpT w.params)) = true := by kernel_rfl
theorem look2 (w : World) (os : OsState) : openSeen qv loose (importedModules pg.main.body) XtQ true (sF w os) = openGood qv loose := by kernel_rfl
theorem look3 (w : World) (os : OsState) : HK.obs (sF w os) = HK.val w := by kernel_rfl
theorem left0 : LeftO pg qv loose XtQ HK.obs HK.val 5100 := by
  refine LeftO.of_pieces (H₀ := boot_heap) (H₁ := hpT) (gs₀ := Array.mk []) (gs₁ := Array.mk []) (d₀ := boot_drawn) (d₁ := boot_drawn) (k₀ := boot_toks) (k₁ := 1236) (m₀ := 11) (ann := annB) (M := tot) ?_ (fun w => boot_size w.params) (fun w os => ?_) (by decide +kernel) (fun w => funext fun os => ?_)
  · exact boot_open (by kernel_rfl) (by decide +kernel) (fun s => by kernel_rfl)
  · have h := top0 w os
    rw [bootS_abs, s9_abs] at h
    exact h
  · exact Prod.ext (look1 w os) (Prod.ext (look2 w os) (look3 w os))
end Mine
end

section
open PySem PySem.W PyProof.Rows
namespace Mine
/-! the looks at the law, one by one -/
theorem names0 : namesResolve PySem.Challenge.rw_rh0166_01.row.prog = true := by rewrite [PySem.W.Fast.te8377067652309620493]; kernel_rfl
theorem roads0 : noRoadLSs { strict := !(importedModules PySem.Challenge.rw_rh0166_01.row.prog.main.body).all cThrough.contains, foot := none, bare := (["vars", "dir", "locals"] : List Str).filter (readsOut PySem.Challenge.rw_rh0166_01.row.prog PySem.Challenge.rw_rh0166_01.row.prog.main.body) } PySem.Challenge.rw_rh0166_01.row.prog.main.body = true := by
  rewrite [PySem.W.Fast.te8326940854005059898]; kernel_rfl
theorem meets0 : (namesMeet PySem.Challenge.rw_rh0166_01.row.prog PySem.Challenge.rw_rh0166_01.row.prog.main.body fun _ n => attrL n) = true := by
  rewrite [PySem.W.Fast.te17119622794617984870, PySem.W.Fast.te17868728402115742887]; kernel_rfl
theorem looks0 : looksOpen PySem.Challenge.rw_rh0166_01.row.prog = true := by
  unfold looksOpen
  rewrite [names0, roads0, meets0]
  kernel_rfl
theorem bound0 : (PySem.Challenge.rw_rh0166_01.bound'.all fun n => !builtinNamed n || PySem.Challenge.rw_rh0166_01.about == [n] || !PySem.Challenge.rw_rh0166_01.reads n) = true := by kernel_rfl
theorem above0 : (namesMeet PySem.Challenge.rw_rh0166_01.prog PySem.Challenge.rw_rh0166_01.above fun _ n => !PySem.Challenge.rw_rh0166_01.own.contains n) = true := by kernel_rfl
theorem row0 : PySem.Challenge.rw_rh0166_01.row.wellSaid = true := by
  unfold OpenRow.wellSaid OpenRow.partSaid
  rewrite [looks0]
  kernel_rfl
theorem said0 : PySem.Challenge.rw_rh0166_01.wellSaid = true := by
  unfold OpenLaw.wellSaid
  rewrite [row0, bound0, above0]
  kernel_rfl
theorem tables0 : PySem.Challenge.rw_rh0166_01.row.prog.tablesWhole = true := by kernel_rfl
end Mine
end

section
open PySem PySem.W PyProof.Rows
namespace Mine
noncomputable def tabs (P : Params) : Tabs where
  K := kk P
  rolled := 634
  cls := [(165, 148), (324, 321), (366, 342), (388, 385), (573, 495)]
  mth := [(226, [("__init__", 223)]), (573, [("value", 502), ("constant", 509), ("forget", 514), ("learn", 521), ("step", 528), ("folded", 535), ("loaded", 542), ("reckoned", 549), ("answered", 556), ("compared", 563), ("tested", 570)])]
  own := [(165, ["width", "registers", "upvalues", "local_names", "ccalls", "frames", "stack", "flush", "steps", "text"]),
    (324, ["name", "start", "end"]), (388, ["first", "last", "after"]), (573, ["old", "new", "limits", "shared", "known"]),
    (366, ["number", "mark", "size", "code", "constants", "protos", "line_info", "locals", "upvalue_names", "source", "line_defined", "last_line", "upvalue_count", "param_count", "is_vararg", "max_stack"])]
  tups := [(369, [23, 24, 25, 26, 27]), (370, [0, 1, 2, 4, 5, 6, 10, 12, 13, 14, 15, 16, 17, 18, 19, 20, 36, 27])]
  dcts := [(371, [(12, .bytes [97, 100, 100]), (13, .bytes [115, 117, 98]), (14, .bytes [109, 117, 108]), (15, .bytes [100, 105, 118]), (16, .bytes [109, 111, 100]), (17, .bytes [112, 111, 119]), (18, .bytes [117, 110, 109])])]
theorem tabs_bads (P : Params) : bads (tabs P) = [] := by kernel_rfl
end Mine
end

section
open PySem PySem.W PyProof.Rows PySem.Calls PySem.SeqAt
namespace Mine
section
variable {prog : Program} {w : World} {β : Nat → Nat} {dice : List Int} {B : Heap} {Z : Tabs} {n : Nat} {r : R} {env : Env} {fm fm' : Fm} {σ σ' σ₁ : S} {ρ ρ' ρ₁ ρ₂ : List Addr} {s : Shared} {h h' h₁ h₂ : Heap} {tk₁ : Nat} {A : Around} {E : Value → Shared → Prop}
/-- a list is taken apart -/
theorem draw_list {it t : Addr} {items : Array Value} (hne : t ≠ it) : ∀ (n i : Nat) (s : Shared) (Q : List Value → Shared → Prop), s.heap.IsListIter it t i → s.heap.IsList t items → i + n ≤ items.size →
    (∀ h', h'.IsListIter it t (i + n) → Heap.SameBut it s.heap h' → Q ((items.toList.drop i).take n) { s with heap := h' }) → wpAny (model prog w) A (draw (.ref it) n) Q E s
  | 0, i, s, Q, hit, _, _, hQ => by
    show wpAny _ _ (pure []) Q E s
    exact wpAny_pure (by simpa using hQ s.heap hit (Heap.SameBut.refl ..))
  | n + 1, i, s, Q, hit, ht, hle, hQ => by
    have hlt : i < items.size := by omega
    show wpAny _ _ (pyNext (.ref it) >>= _) Q E s
    refine wpAny_bind (wpAny_pyNext_list_item hit ht (x := items[i]) (by simp [hlt]) fun h₁ hit₁ hs₁ => ?_)
    refine wpAny_bind (wpAny_holding (draw_list hne n (i + 1) _ _ hit₁ (ht.at fun o e => hs₁.extBut _ o hne e) (by omega) fun h₂ hit₂ hs₂ => wpAny_pure ?_))
    have hd : items.toList.drop i = items[i] :: items.toList.drop (i + 1) := by simp [List.drop_eq_getElem_cons, hlt]
    have := hQ h₂ (by rw [show i + (n + 1) = i + 1 + n by omega]; exact hit₂) (hs₁.trans hs₂)
    rw [hd, List.take_succ_cons] at this
    exact this
theorem unpackItems_list {t : Addr} {items : Array Value} {Q : List Value → Shared → Prop} (hh : A.handled = none) (ht : s.heap.IsList t items)
    (hQ : ∀ h', Heap.ExtBut s.heap.objs.size s.heap h' → Q items.toList { s with heap := h' }) : wpAny (model prog w) A (unpackItems (.ref t) items.size none) Q E s := by
  have hlt : t ≠ s.heap.objs.size := by obtain ⟨o, ho, _⟩ := ht; exact Nat.ne_of_lt (Heap.lt_size ho)
  unfold unpackItems
  refine wpAny_bind ?_
  · unfold notIterableAtAll
    refine wpAny_bind (wpAny_specialOf ht.typeIs slot_list_iter.lookup ?_)
    refine wpAny_pure ?_
    simp only [Bool.false_eq_true, if_false]
    refine wpAny_bind (wpAny_holding (wpAny_pyIter_list ht ?_))
    have ht0 : (s.heap.push { cls := .type "list_iterator", data := .fields #[.ref t, .int 0 0] }).IsList t items := ht.at fun o e => Heap.get?_push_of_some _ e
    refine wpAny_bind (wpAny_holding (draw_list hlt items.size 0 _ _ ⟨_, Heap.get?_push_size _ rfl, rfl, rfl⟩ ht0 (by omega) fun h₁ hit₁ hs₁ => ?_))
    have hall : List.take items.size (List.drop 0 items.toList) = items.toList := by
      rw [List.drop_zero]; exact List.take_of_length_le (by simp)
    rw [hall]
    rw [if_neg (by simp)]
    have ht₁ : h₁.IsList t items := ht0.at fun o e => hs₁.extBut _ o hlt e
    refine wpAny_bind (wpAny_holding (wpAny_pyNext_list_end hh hit₁ ht₁ (by simp) fun h₂ he₂ => ?_))
    simp only [Option.isSome_none, Bool.false_eq_true, if_false]
    refine wpAny_pure (hQ h₂ fun b o hb e => he₂ b o hb (hs₁.extBut b o hb (Heap.get?_push_of_some _ e)))

/-- an expression, at one scope, one frame, one heap -/
def EvAt (prog : Program) (w : World) (β : Nat → Nat) (dice : List Int) (B : Heap) (n : Nat) (sc : Scope) (e : Expr) (fm : Fm) (σ : S) (v : AV) (σ' : S) : Prop := ∀ {A : Around} {env : Env} {ρ : List Addr} {s : Shared} {E : Value → Shared → Prop} {Q : Value → Shared → Prop}, env.scope = sc →
  Cx prog w β dice B n A env fm σ ρ s → Kv prog w β dice B σ' v ρ s Q → wpAny (model prog w) A (eval e env) Q E s
variable {sc : Scope} {e e1 e2 : Expr} {v a b : AV} {σ2 : S}
theorem EvAt.of (H : EvOk prog w β dice B r n) (h : r.ev sc e fm σ = some (v, σ')) : EvAt prog w β dice B n sc e fm σ v σ' := fun hs C q => H C (by rw [hs]; exact h) q
theorem EvAt.binop (h1 : EvAt prog w β dice B n sc e1 fm σ a σ) (h2 : EvAt prog w β dice B n sc e2 fm σ b σ) {op : Operator} {pos : Pos}
    (h : ∀ {A : Around} {ρ : List Addr} {s : Shared} {va vb : Value} {E : Value → Shared → Prop} {Q : Value → Shared → Prop}, Inv prog w β dice B σ ρ s.heap → VR β ρ a va → VR β ρ b vb → Kv prog w β dice B σ v ρ s Q → wpAny (model prog w) A (binaryOp op va vb) Q E s) :
    EvAt prog w β dice B n sc (.BinOp e1 op e2 pos) fm σ v σ := fun hs C q => by
  refine wpAny_BinOp (h1 hs C fun va h' tk ρ' ra I X => h2 hs (C.step I X tk) fun vb h'' tk' ρ'' rb I' X' => ?_)
  exact h (s := { toks := tk', heap := h'', gens := _, drawn := _, os := _ }) I' (ra.ext X') rb ((q.then X tk).then X' tk')
open Classical in
noncomputable def rAt (sc : Scope) (e1 : Expr) (fm : Fm) (σ : S) (a : AV) (e2 : Expr) (b : AV) : R :=
  { none7 with ev := fun sc' e' fm' σ' => if e' = e1 ∧ sc' = sc ∧ fm' = fm ∧ σ' = σ then some (a, σ) else if e' = e2 ∧ sc' = sc ∧ fm' = fm ∧ σ' = σ then some (b, σ) else none }
theorem rAt_ok (h1 : EvAt prog w β dice B n sc e1 fm σ a σ) (h2 : EvAt prog w β dice B n sc e2 fm σ b σ) : EvOk prog w β dice B (rAt sc e1 fm σ a e2 b) n := by
  intro A env fm' σ₀ σ' ρ s e v E Q C h q
  replace h : (open Classical in if e = e1 ∧ env.scope = sc ∧ fm' = fm ∧ σ₀ = σ then some (a, σ) else if e = e2 ∧ env.scope = sc ∧ fm' = fm ∧ σ₀ = σ then some (b, σ) else none) = some (v, σ') := h
  split at h
  · rename_i g; obtain ⟨rfl, g2, rfl, rfl⟩ := g; cases h; exact h1 g2 C q
  · split at h
    · rename_i g; obtain ⟨rfl, g2, rfl, rfl⟩ := g; cases h; exact h2 g2 C q
    · cases h
theorem EvAt.call (F : Tk prog w β Z B) {x : Str} {p pos : Pos} {bi : Bi} (hn : EvAt prog w β dice B n sc (.Name x p) fm σ (.bi bi) σ) (h1 : EvAt prog w β dice B n sc e1 fm σ a σ) (hst : ∀ y q, e1 ≠ .Starred y q)
    (h : ∀ {A : Around} {ρ : List Addr} {s : Shared} {va : Value} {E : Value → Shared → Prop} {Q : Value → Shared → Prop}, Bud A n → Inv prog w β dice B σ ρ s.heap → VR β ρ a va → Kv prog w β dice B σ v ρ s Q → wpAny (model prog w) A (call bi.val [va]) Q E s) :
    EvAt prog w β dice B n sc (.Call (.Name x p) [e1] [] pos) fm σ v σ := fun {A env ρ s E Q} hs C q => by
  show wpAny (model prog w) A (do callWith pos (← eval (.Name x p) env) [] (backTo pos (starEach [e1] env)) []) Q E s
  refine wpAny_bind (hn hs C fun fv h' tk ρ' rf I X => ?_)
  cases rf
  have hr : (rAt sc e1 fm σ a e1 a).ev env.scope e1 fm σ = some (a, σ) := if_pos ⟨rfl, hs, rfl, rfl⟩
  refine callWith_ok F.G (rAt_ok h1 h1) (C.step I X tk) (keeps2_bi bi) (vs := [a]) (σ' := σ) ?_ fun vals h'' tk' ρ'' rvs I' X' => ?_
  · rw [evs_cons]
    split
    · exact (hst _ _ rfl).elim
    · rw [hr]; rfl
  · obtain _ | ⟨r1, _ | _⟩ := rvs
    exact h (s := { s with heap := h'', toks := tk' }) C.bud I' r1 (q.then (X.trans0 X') tk')
end
end Mine
end

section
open PySem PySem.W PyProof.Rows PySem.Calls PySem.SeqAt
namespace Mine
section
variable {prog : Program} {w : World} {β : Nat → Nat} {dice : List Int} {B : Heap} {Z : Tabs} {n : Nat} {r : R} {env : Env} {fm fm' : Fm} {σ σ' σ₁ : S} {ρ ρ' ρ₁ ρ₂ : List Addr} {s : Shared} {h h' h₁ h₂ : Heap} {tk₁ : Nat} {A : Around} {E : Value → Shared → Prop}
variable {sc : Scope} {e e1 e2 : Expr} {v a b : AV} {σ2 : S} {i j t m : Nat}
theorem ints_len {vs : List Value} {ns : List Int} (h : IntsAre vs ns) : vs.length = ns.length := by
  induction h with
  | nil => rfl
  | cons _ _ _ ih => simp [ih]
theorem ints_at {vs : List Value} {ns : List Int} (h : IntsAre vs ns) : ∀ {t : Nat}, t < ns.length → ∃ k, vs[t]? = some (.int (ns.getD t 0) k) := by
  induction h with
  | nil => intro t h; cases h
  | cons x k _ ih =>
    intro t h
    cases t with
    | zero => exact ⟨k, rfl⟩
    | succ t =>
      obtain ⟨k, q⟩ := ih (t := t) (by simpa using h)
      exact ⟨k, by simpa using q⟩
/-- one of the dice -/
theorem EvAt.die {x y : Str} {px py p : Pos} (hd : dice.length ≤ 63) (hx : EvAt prog w β dice B n sc (.Name x px) fm σ (.ref j) σ) (hy : EvAt prog w β dice B n sc (.Name y py) fm σ (.int (.ofNat t)) σ) (g : σ.get j = some .dice) (ht : t < dice.length) :
    EvAt prog w β dice B n sc (.Subscript (.Name x px) (.Name y py) p) fm σ (.int (dice.getD t 0)) σ := fun {A env ρ s E Q} hs C q => by
  refine Subscript_ (hx hs C fun va h' tk ρ' ra I X => hy hs (C.step I X tk) fun vb h'' tk' ρ'' rb I' X' => ?_)
  obtain ⟨u, rfl⟩ := rb
  obtain ⟨x, ex, rfl, vs, hl, hv⟩ := I'.ref (ra.ext X') g
  obtain ⟨k, hk⟩ := ints_at hv ht
  refine tail_any (s := { toks := tk', heap := h'', gens := _, drawn := _, os := _ }) hl.typeIs slot_list_getitem.lookup ?_ (subscripted_plain rfl _ _)
  refine wpAny_getItem_list (s := { toks := tk', heap := h'', gens := _, drawn := _, os := _ }) hl (Int.natCast_nonneg t) ?_ (x := .int (dice.getD t 0) k) ?_ ?_
  · have : (Int.ofNat t) < 63 := by simp only [Int.ofNat_eq_natCast]; omega
    omega
  · simpa using hk
  · exact ((q.then X tk).then X' tk') _ h'' tk' ρ'' ⟨k, rfl⟩ I' I'.refl
/-- how many dice -/
theorem EvAt.diceLen (F : Tk prog w β Z B) {x : Str} {px p q : Pos} {y : Str} (hd : dice.length ≤ 63) (hn : EvAt prog w β dice B n sc (.Name y p) fm σ (.bi .len) σ) (hx : EvAt prog w β dice B n sc (.Name x px) fm σ (.ref j) σ) (g : σ.get j = some .dice) :
    EvAt prog w β dice B n sc (.Call (.Name y p) [.Name x px] [] q) fm σ (.int (.ofNat dice.length)) σ :=
  EvAt.call F hn hx (fun _ _ e => nomatch e) fun {A ρ s va E Q} bud I ra k => by
    obtain ⟨x, ex, rfl, vs, hl, hv⟩ := I.ref ra g
    have hz := ints_len hv
    refine PyProof.Rows.len_list hl (by simp; omega) ?_
    exact k _ s.heap _ ρ ⟨s.toks + 1, by simp [hz]⟩ I I.refl
theorem EvAt.bi (F : Tk prog w β Z B) {y : Str} {p q : Pos} {b : Bi} (hn : EvAt prog w β dice B n sc (.Name y p) fm σ (.bi b) σ) (h1 : EvAt prog w β dice B n sc e1 fm σ a σ) (hst : ∀ y q, e1 ≠ .Starred y q) (hb : callBi b [a] σ = some (v, σ)) :
    EvAt prog w β dice B n sc (.Call (.Name y p) [e1] [] q) fm σ v σ :=
  EvAt.call F hn h1 hst fun bud I ra k => callBi_ok I bud.hd (.cons ra .nil) hb k
theorem EvAt.mod {pos : Pos} {x : Int} (h1 : EvAt prog w β dice B n sc e1 fm σ (.int x) σ) (h2 : EvAt prog w β dice B n sc e2 fm σ (.int (.ofNat m)) σ) (hm : 0 < m) : EvAt prog w β dice B n sc (.BinOp e1 .Mod e2 pos) fm σ (.int (x.fmod m)) σ :=
  EvAt.binop h1 h2 fun {A ρ s va vb E Q} I ra rb k => by
    obtain ⟨t, rfl⟩ := ra; obtain ⟨u, rfl⟩ := rb
    exact PyProof.Rows.mod_int (by simp only [Int.ofNat_eq_natCast]; omega) (k _ s.heap _ ρ ⟨_, rfl⟩ I I.refl)
theorem pylong_small : ∀ t < 64, ¬ (Builtin.divisionGoesByPylong (Int.ofNat t) 2 = true) := by decide +kernel
theorem EvAt.half {pos : Pos} (h1 : EvAt prog w β dice B n sc e1 fm σ (.int (.ofNat t)) σ) (h2 : EvAt prog w β dice B n sc e2 fm σ (.int 2) σ) (ht : t < 64) : EvAt prog w β dice B n sc (.BinOp e1 .FloorDiv e2 pos) fm σ (.int ((t : Int).fdiv 2)) σ :=
  EvAt.binop h1 h2 fun {A ρ s va vb E Q} I ra rb k => by
    obtain ⟨t', rfl⟩ := ra; obtain ⟨u, rfl⟩ := rb
    exact AutoIntOps.floordiv_1 (by decide) (pylong_small t ht) (k _ s.heap _ ρ ⟨_, rfl⟩ I I.refl)
theorem EvAt.mul3 {pos : Pos} (h1 : EvAt prog w β dice B n sc e1 fm σ (.int 3) σ) (h2 : EvAt prog w β dice B n sc e2 fm σ (.int (.ofNat t)) σ) (ht : t < 64) : EvAt prog w β dice B n sc (.BinOp e1 .Mult e2 pos) fm σ (.int (3 * (t : Int))) σ :=
  EvAt.binop h1 h2 fun {A ρ s va vb E Q} I ra rb k => by
    obtain ⟨t', rfl⟩ := ra; obtain ⟨u, rfl⟩ := rb
    exact mul_int (k _ s.heap _ ρ ⟨_, rfl⟩ I I.refl) (.of_left (intBits_le_64 (by decide) (by decide)))
theorem EvAt.add {pos : Pos} {x y : Int} (h1 : EvAt prog w β dice B n sc e1 fm σ (.int x) σ) (h2 : EvAt prog w β dice B n sc e2 fm σ (.int y) σ) : EvAt prog w β dice B n sc (.BinOp e1 .Add e2 pos) fm σ (.int (x + y)) σ :=
  EvAt.binop h1 h2 fun I ra rb k => binop_ok I ra rb (v := .int (x + y)) rfl k
theorem EvAt.ifexp (F : Tk prog w β Z B) (hm : behindInMarks .Lt e2 = false) {x : Int} {y : Int} {p q : Pos} {eb eo : Expr} (h1 : EvAt prog w β dice B n sc e1 fm σ (.int x) σ) (h2 : EvAt prog w β dice B n sc e2 fm σ (.int y) σ) 
    (hb : x < y → EvAt prog w β dice B n sc eb fm σ v σ) (ho : ¬ x < y → EvAt prog w β dice B n sc eo fm σ v σ) : EvAt prog w β dice B n sc (.IfExp (.Compare e1 [.Lt] [e2] p) eb eo q) fm σ v σ := fun {A env ρ s E Q} hs C k => by
  refine wpAny_IfExp (wpAny_isTrue_Compare1 (h1 hs C fun va h' tk ρ' ra I X => h2 hs (C.step I X tk) fun vb h'' tk' ρ'' rb I' X' => ?_) hm)
  refine cmp_ok (s := { toks := tk', heap := h'', gens := _, drawn := _, os := _ }) F.G F.hZ I' C.bud.cmp (ra.ext X') rb (r := ilt x y) rfl fun tk2 => wpAny_truthy_bool ?_
  have C' := (C.step I X tk).step I' X' tk2
  have k' := (k.then X tk).then X' tk2
  by_cases hc : x < y
  · rw [if_pos (by rw [ilt_eq]; exact decide_eq_true hc)]
    exact hb hc hs C' k'
  · rw [if_neg (by rw [ilt_eq]; simp [hc])]
    exact ho hc hs C' k'
end
end Mine
end

section
open PySem PySem.W PyProof.Rows PySem.Calls PySem.SeqAt
namespace Mine
section
variable {prog : Program} {w : World} {β : Nat → Nat} {dice : List Int} {B : Heap} {Z : Tabs} {n : Nat} {r : R} {env : Env} {fm fm' : Fm} {σ σ' σ₁ : S} {ρ ρ' ρ₁ ρ₂ : List Addr} {s : Shared} {h h' h₁ h₂ : Heap} {tk₁ : Nat} {A : Around} {E : Value → Shared → Prop}
variable {sc : Scope} {e e1 e2 : Expr} {v a b : AV} {σ2 : S} {i j t m : Nat}
theorem assign_plain {t e : Expr} {pos : Pos} {Q : Flow → Shared → Prop} (hs : storesOk t e = true) (hnt : ∀ ts k p vs k' p', t = .Tuple ts k p → e ≠ .Tuple vs k' p') (hnc : ∀ elt gens cs p, e ≠ .ListComp elt gens cs p)
    (hea : assignEach [t] env = [(false, assign t env)]) (h : wpAny (model prog w) A (eval e env) (fun v s' => wpAny (model prog w) A (assign t env v) (fun _ s₂ => Q .next s₂) E s') E s) : wpAny (model prog w) A (exec (.Assign [t] e pos) env) Q E s := by
  rw [exec_Assign_arm]
  refine wpAny_bind (wpAny_standAt ?_)
  rw [swaps_other hs hnc, swapped_none hs hnt, hea]
  refine wpAny_bind (wpAny_pure ?_)
  rw [if_neg (by decide)]
  refine wpAny_bind (wpAny_mono h (fun v s' h' => wpAny_bind (wpAny_pure ?_)) fun _ _ x => x)
  show wpAny (model prog w) A (do assign t env v; pure .next) Q E _
  exact wpAny_bind (wpAny_mono h' (fun _ s₂ h₂ => wpAny_pure h₂) fun _ _ x => x)
theorem EvAt.name (G : Gd prog w β Z B) {x : Str} {p : Pos} (h : nameAV Z sc x fm = some v) : EvAt prog w β dice B n sc (.Name x p) fm σ v σ := fun {A env ρ s E Q} hs C q =>
  name_ok G C (by rw [hs]; exact h) fun val tk rv => q.now C.inv rv
theorem EvAt.const {c : Const} {k : Nat} {p : Pos} (h : constAV c = some v) : EvAt prog w β dice B n sc (.Constant c k p) fm σ v σ := fun hs C q => ev_Constant C h q
theorem drawn_vr {v : AV} {x : Int} (h : Drawn β v x) (ρ : List Addr) (t : Tok) : VR β ρ v (.int x t) := by
  cases v <;> first | cases h; done | skip
  · cases h; exact ⟨t, rfl⟩
  · exact ⟨x, t, h, rfl⟩
end
end Mine
end

section
open PySem PySem.W PyProof.Rows PySem.Calls PySem.SeqAt
namespace Mine
section
variable {prog : Program} {w : World} {β : Nat → Nat} {dice : List Int} {B : Heap} {Z : Tabs} {n : Nat} {r : R} {env : Env} {fm fm' : Fm} {σ σ' σ₁ : S} {ρ ρ' ρ₁ ρ₂ : List Addr} {s : Shared} {h h' h₁ h₂ : Heap} {tk₁ : Nat} {A : Around} {E : Value → Shared → Prop}
variable {sc : Scope} {e e1 e2 : Expr} {v a b : AV} {σ2 : S} {i j t m : Nat}
noncomputable def fmA (i m : Nat) : Fm := [("cup", .ref i), ("many", .int (.ofNat m))]
noncomputable def fmB (i m j t : Nat) : Fm := sset (sset (fmA i m) "dice" (.ref j)) "turn" (.int (.ofNat t))
/-- the names' kinds in the scope of the function that draws -/
structure RollSc (Z : Tabs) (sc : Scope) : Prop where
  cup : ∀ i m, nameAV Z sc "cup" (fmA i m) = some (.ref i)
  cup' : ∀ i m j t, nameAV Z sc "cup" (fmB i m j t) = some (.ref i)
  many : ∀ i m j t, nameAV Z sc "many" (fmB i m j t) = some (.int (.ofNat m))
  dice : ∀ i m j t, nameAV Z sc "dice" (fmB i m j t) = some (.ref j)
  turn : ∀ i m j t, nameAV Z sc "turn" (fmB i m j t) = some (.int (.ofNat t))
  len : ∀ i m j t, nameAV Z sc "len" (fmB i m j t) = some (.bi .len)
  abs : ∀ i m j t, nameAV Z sc "abs" (fmB i m j t) = some (.bi .abs)
  int : ∀ i m j t, nameAV Z sc "int" (fmB i m j t) = some (.bi .int)
  kd : sget sc.names "dice" = some .local
  kt : sget sc.names "turn" = some .local
theorem roll_last (F : Tk prog w β Z B) (W : RollSc Z sc) (hd : dice.length ≤ 63) (g : σ.get j = some .dice) (hm : 0 < m) (ht : t < 64) {p1 p2 p3 p4 p5 p6 p7 p8 p9 q1 q2 q3 q4 q5 q6 q7 q8 q9 r1 r2 r3 r4 s1 s2 s3 s4 : Pos} {k1 k2 k3 : Nat} :
    EvAt prog w β dice B n sc (.IfExp (.Compare (.Name "turn" p1) [.Lt] [.Call (.Name "len" p2) [.Name "dice" p3] [] p4] p5)
      (.BinOp (.Call (.Name "abs" p6) [.Call (.Name "int" p7) [.Subscript (.Name "dice" p8) (.Name "turn" p9) q1] [] q2] [] q3) .Mod (.Name "many" q4) q5)
      (.BinOp (.BinOp (.BinOp (.BinOp (.Constant (.int 3) k1 q6) .Mult (.Name "turn" q7) q8) .Add (.BinOp (.Name "turn" q9) .FloorDiv (.Constant (.int 2) k2 r1) r2) r3) .Add (.Constant (.int 1) k3 r4) s1) .Mod (.Name "many" s2) s3) s4) (fmB i m j t) σ (.int (rolledVal dice t m)) σ := by
  refine EvAt.ifexp F rfl (EvAt.name F.G (W.turn i m j t)) (EvAt.diceLen F hd (EvAt.name F.G (W.len i m j t)) (EvAt.name F.G (W.dice i m j t)) g) (fun hlt => ?_) fun hge => ?_
  · have ht' : t < dice.length := by simp only [Int.ofNat_eq_natCast] at hlt; omega
    have e : rolledVal dice t m = (((dice.getD t 0).natAbs : Nat) : Int).fmod m := by unfold rolledVal; rw [if_pos ht']
    rw [e]
    have h1 : EvAt prog w β dice B n sc (.Subscript (.Name "dice" p8) (.Name "turn" p9) q1) (fmB i m j t) σ (.int (dice.getD t 0)) σ := EvAt.die hd (EvAt.name F.G (W.dice i m j t)) (EvAt.name F.G (W.turn i m j t)) g ht'
    have h2 : EvAt prog w β dice B n sc (.Call (.Name "int" p7) [.Subscript (.Name "dice" p8) (.Name "turn" p9) q1] [] q2) (fmB i m j t) σ (.int (dice.getD t 0)) σ := EvAt.call F (EvAt.name F.G (W.int i m j t)) h1 (fun _ _ e => nomatch e) fun {A ρ s va E Q} bud I ra k => by
      obtain ⟨u, rfl⟩ := ra
      exact call_int_int (k _ s.heap s.toks ρ ⟨u, rfl⟩ I I.refl)
    have h3 : EvAt prog w β dice B n sc (.Call (.Name "abs" p6) [.Call (.Name "int" p7) [.Subscript (.Name "dice" p8) (.Name "turn" p9) q1] [] q2] [] q3) (fmB i m j t) σ (.int (((dice.getD t 0).natAbs : Nat) : Int)) σ := EvAt.call F (EvAt.name F.G (W.abs i m j t)) h2 (fun _ _ e => nomatch e) fun {A ρ s va E Q} bud I ra k => by
      obtain ⟨u, rfl⟩ := ra
      refine call_abs_int fun z tk => k _ s.heap tk ρ ⟨z, ?_⟩ I I.refl
      congr 1
      split <;> omega
    intro A env ρ s E Q a1 a2 a3
    exact EvAt.mod h3 (EvAt.name F.G (W.many i m j t)) hm a1 a2 a3
  · have ht' : ¬ t < dice.length := by simp only [Int.ofNat_eq_natCast] at hge; omega
    have e : rolledVal dice t m = (3 * (t : Int) + (t : Int).fdiv 2 + 1).fmod m := by unfold rolledVal; rw [if_neg ht']
    rw [e]
    have h1 : EvAt prog w β dice B n sc (.BinOp (.Constant (.int 3) k1 q6) .Mult (.Name "turn" q7) q8) (fmB i m j t) σ (.int (3 * (t : Int))) σ := EvAt.mul3 (EvAt.const rfl) (EvAt.name F.G (W.turn i m j t)) ht
    have h2 : EvAt prog w β dice B n sc (.BinOp (.Name "turn" q9) .FloorDiv (.Constant (.int 2) k2 r1) r2) (fmB i m j t) σ (.int ((t : Int).fdiv 2)) σ := EvAt.half (EvAt.name F.G (W.turn i m j t)) (EvAt.const rfl) ht
    have h3 : EvAt prog w β dice B n sc (.Constant (.int 1) k3 r4) (fmB i m j t) σ (.int 1) σ := EvAt.const rfl
    have h4 : EvAt prog w β dice B n sc (.BinOp (.BinOp (.BinOp (.Constant (.int 3) k1 q6) .Mult (.Name "turn" q7) q8) .Add (.BinOp (.Name "turn" q9) .FloorDiv (.Constant (.int 2) k2 r1) r2) r3) .Add (.Constant (.int 1) k3 r4) s1) (fmB i m j t) σ (.int (3 * (t : Int) + (t : Int).fdiv 2 + 1)) σ := EvAt.add (EvAt.add h1 h2) h3
    intro A env ρ s E Q a1 a2 a3
    exact EvAt.mod h4 (EvAt.name F.G (W.many i m j t)) hm a1 a2 a3
theorem roll_body (F : Tk prog w β Z B) (W : RollSc Z sc) (hd : dice.length ≤ 63) (hs : env.scope = sc) (C : Cx prog w β dice B n A env (fmA i m) σ ρ s) (g : σ.get i = some (.list [.ref j, .int (.ofNat t)])) (gd : σ.get j = some .dice) {o : List (Nat × Nat × AV)} (ho : σ.o = (t, m, v) :: o)
    {p1 p2 p3 p4 p5 p6 p7 p8 p9 q1 q2 q3 q4 : Pos} {k1 k2 k3 : Nat} {last : Expr}
    (hl : ∀ σ : S, σ.get j = some .dice → 0 < m → t < 64 → EvAt prog w β dice B n sc last (fmB i m j t) σ (.int (rolledVal dice t m)) σ)
    {Q : Flow → Shared → Prop} (q : Kx prog w β dice B env (.ret v) (fmB i m j t) ⟨σ.h.put (.list [.ref j, .int (.ofNat (Nat.succ t))]) i, σ.n, o⟩ ρ s Q) :
    wpAny (model prog w) A (execs [.Assign [.Tuple [.Name "dice" p1, .Name "turn" p2] k1 p3] (.Name "cup" p4) p5,
      .Assign [.Subscript (.Name "cup" p6) (.Constant (.int 1) k2 p7) p8] (.BinOp (.Name "turn" p9) .Add (.Constant (.int 1) k3 q1) q2) q3, .Return (some last) q4] env) Q E s := by
  subst hs
  obtain ⟨hdr, hm, ht⟩ := C.inv.orc t m v (by rw [ho]; exact List.mem_cons_self ..)
  refine wpAny_execs_cons (assign_plain rfl (by intros; intro h; cases h) (by intros; intro h; cases h) rfl ?_)
  refine EvAt.name F.G (W.cup i m) rfl C fun va h1 tk1 ρ1 ra I X => ?_
  obtain ⟨x, ex, rfl, hz, items, nn, hli, hv⟩ := I.ref ra g
  obtain _ | ⟨r1, _ | ⟨r2, _ | _⟩⟩ := hv
  rename_i vd vt
  rw [arm_assign_Tuple]
  refine wpAny_bind (wpAny_standAt ?_)
  show wpAny (model prog w) _ (do assignInOrder ((assignEach [.Name "dice" p1, .Name "turn" p2] env).map (·.2)) (← holding [.ref x] (unpackItems (.ref x) 2 none))) _ _ _
  refine wpAny_bind (wpAny_holding (unpackItems_list (items := [vd, vt].toArray) (s := { s with heap := h1, toks := tk1 }) C.bud.hd hli.isList fun h2 kx => ?_))
  have C1 := C.step I X tk1
  obtain ⟨k', I2, X2⟩ := grow (s := { s with heap := h1, toks := tk1 }) I kx
  have kd : env.kindOf "dice" = some .local := by rw [← sget_kindOf]; exact W.kd
  have kt : env.kindOf "turn" = some .local := by rw [← sget_kindOf]; exact W.kt
  refine assign_two (s := { s with heap := h2, toks := tk1 }) (C1.fr.ext X2) I2 (.inl kd) (.inl kt) (r1.ext X2) (r2.ext X2) fun h3 tk3 F3 I3 X3 => ?_
  have F1 : FrOk β B env (fmB i m j t) ρ1 h3 := F3
  have X3' : Ext (Own env) ρ s.heap ρ1 h3 := (X.trans0 X2).own X3 (C1.fr.ext X2)
  clear F3
  have C3 : Cx prog w β dice B n A env (fmB i m j t) σ ρ1 { s with heap := h3, toks := tk3 } := ⟨C.bud, F1, I3⟩
  -- the turn
  refine wpAny_execs_cons (assign_plain rfl (by intros; intro h; cases h) (by intros; intro h; cases h) rfl ?_)
  have h11 : EvAt prog w β dice B n env.scope (.Constant (.int 1) k3 q1) (fmB i m j t) σ (.int 1) σ := EvAt.const rfl
  refine EvAt.add (EvAt.name F.G (W.turn i m j t)) h11 rfl C3 fun vb h4 tk4 ρ4 rb I4 X4 => ?_
  have C4 := C3.step I4 X4 tk4
  have hn1 : EvAt prog w β dice B n env.scope (.Name "cup" p6) (fmB i m j t) σ (.ref i) σ := EvAt.name F.G (W.cup' i m j t)
  have hn2 : EvAt prog w β dice B n env.scope (.Constant (.int 1) k2 p7) (fmB i m j t) σ (.int 1) σ := EvAt.const rfl
  have e1 : (rAt env.scope (.Name "cup" p6) (fmB i m j t) σ (.ref i) (.Constant (.int 1) k2 p7) (.int 1)).ev env.scope (.Name "cup" p6) (fmB i m j t) σ = some (.ref i, σ) := if_pos ⟨rfl, rfl, rfl, rfl⟩
  have e2 : (rAt env.scope (.Name "cup" p6) (fmB i m j t) σ (.ref i) (.Constant (.int 1) k2 p7) (.int 1)).ev env.scope (.Constant (.int 1) k2 p7) (fmB i m j t) σ = some (.int 1, σ) := (if_neg (by rintro ⟨h, _⟩; cases h)).trans (if_pos ⟨rfl, rfl, rfl, rfl⟩)
  have e3 : asg1 Z (rAt env.scope (.Name "cup" p6) (fmB i m j t) σ (.ref i) (.Constant (.int 1) k2 p7) (.int 1)) env.scope (.Subscript (.Name "cup" p6) (.Constant (.int 1) k2 p7) p8) (.int (Int.ofNat t + 1)) (fmB i m j t) σ =
      some (fmB i m j t, σ.put i (.list [.ref j, .int (Int.ofNat t + 1)])) := by
    unfold asg1
    dsimp only
    rw [e1]
    dsimp only
    rw [e2]
    dsimp only
    unfold setIt
    dsimp only
    rw [g]
    rfl
  refine asg1_ok F (rAt_ok hn1 hn2) C4 rb e3 fun h5 tk5 ρ5 F5 I5 X5 => ?_
  have hj : j ≠ i := fun h => by subst h; rw [g] at gd; cases gd
  have gd5 : (σ.put i (.list [.ref j, .int (Int.ofNat t + 1)])).get j = some .dice := by rw [S.get_put g, if_neg hj]; exact gd
  have C5 : Cx prog w β dice B n A env (fmB i m j t) (σ.put i (.list [.ref j, .int (Int.ofNat t + 1)])) ρ5 { s with heap := h5, toks := tk5 } := ⟨C.bud, F5, I5⟩
  have X5' : Ext (Own env) ρ s.heap ρ5 h5 := (X3'.own2 (X4.own X5 (F1.ext X4)) F1)
  refine wpAny_execs_cons (wpAny_Return_some (hl _ gd5 hm ht rfl C5 fun val h6 tk6 ρ6 rv I6 X6 => ?_))
  obtain ⟨u, rfl⟩ := rv
  refine q _ h6 tk6 ρ6 ⟨_, rfl, drawn_vr hdr ρ6 u⟩ (F5.ext X6) ⟨I6.len, I6.nd, I6.new, I6.live, I6.has, I6.keep, fun t' m' v' hmem => ?_⟩ (X5'.own2 X6.toOwn F5)
  exact C.inv.orc t' m' v' (by rw [ho]; exact List.mem_cons_of_mem _ hmem)
end
end Mine
end

section
open PySem PySem.W PyProof.Rows PySem.Calls PySem.SeqAt
namespace Mine
noncomputable def fdO (st : Stmt) (qual : Str) (dV pm cd : Value) : FuncData := match st with
  | .FunctionDef n ps b _ _ _ sc _ _ _ => { name := n, qualname := qual, params := ps, body := .stmts b, scope := sc, globals := 3, closure := [], defaults := dV, kwdefaults := .none, pyModule := pm, code := cd }
  | _ => { name := qual, qualname := qual, params := ⟨[], [], none, [], [], none, []⟩, body := .stmts [], scope := pg.main.scope, globals := 3, closure := [], defaults := dV, kwdefaults := .none, pyModule := pm, code := cd }
noncomputable def fdR : FuncData := fdO (tS 120) (Str.ofString "_law_rolled") .none (.str (Str.ofString "law_rh0166_01") 1189) (.ref 633)
theorem roll_K (P : Params) : nget (tabs P).K 634 = some ⟨.type "function", none, .func fdR, #[]⟩ := by kernel_rfl
/-- the body of the function that draws -/
def RollBody (fd : FuncData) : Prop := ∃ (p1 p2 p3 p4 p5 p6 p7 p8 p9 q1 q2 q3 q4 a1 a2 a3 a4 a5 a6 a7 a8 a9 b1 b2 b3 b4 b5 b6 b7 b8 b9 c1 c2 c3 c4 d1 d2 d3 d4 : Pos) (k1 k2 k3 k4 k5 k6 : Nat), fd.body = .stmts [.Assign [.Tuple [.Name "dice" p1, .Name "turn" p2] k1 p3] (.Name "cup" p4) p5,
      .Assign [.Subscript (.Name "cup" p6) (.Constant (.int 1) k2 p7) p8] (.BinOp (.Name "turn" p9) .Add (.Constant (.int 1) k3 q1) q2) q3, .Return (some (.IfExp (.Compare (.Name "turn" a1) [.Lt] [.Call (.Name "len" a2) [.Name "dice" a3] [] a4] a5)
      (.BinOp (.Call (.Name "abs" a6) [.Call (.Name "int" a7) [.Subscript (.Name "dice" a8) (.Name "turn" a9) b1] [] b2] [] b3) .Mod (.Name "many" b4) b5)
      (.BinOp (.BinOp (.BinOp (.BinOp (.Constant (.int 3) k4 b6) .Mult (.Name "turn" b7) b8) .Add (.BinOp (.Name "turn" b9) .FloorDiv (.Constant (.int 2) k5 c1) c2) c3) .Add (.Constant (.int 1) k6 c4) d1) .Mod (.Name "many" d2) d3) d4)) q4]
set_option maxHeartbeats 4000000 in
theorem roll_stmts : RollBody fdR := ⟨_, _, _, _, _, _, _, _, _, _, _, _, _, _, _, _, _, _, _, _, _, _, _, _, _, _, _, _, _, _, _, _, _, _, _, _, _, _, _, _, _, _, _, _, _, rfl⟩
theorem roll_scope (P : Params) : RollSc (tabs P) fdR.scope where
  cup i m := by kernel_rfl
  cup' i m j t := by kernel_rfl
  many i m j t := by kernel_rfl
  dice i m j t := by kernel_rfl
  turn i m j t := by kernel_rfl
  len i m j t := by kernel_rfl
  abs i m j t := by kernel_rfl
  int i m j t := by kernel_rfl
  kd := by kernel_rfl
  kt := by kernel_rfl
theorem roll_args (P : Params) (i m : Nat) : dfltsOf (tabs P) fdR.defaults = some [] ∧ zipArgs (fdR.params.args.map (·.arg)) [.ref i, .int (.ofNat m)] [] = some (fmA i m) := ⟨by kernel_rfl, by kernel_rfl⟩
section
variable {prog : Program} {w : World} {β : Nat → Nat} {dice : List Int} {B : Heap} {Z : Tabs}
theorem roll_any (T : Tk prog w β Z B) {c : Value} {d : Option Addr} {fd : FuncData} {sl : Array (Option Value)} (hK : nget Z.K Z.rolled = some ⟨c, d, .func fd, sl⟩) (FN : FnOk Z.K fd) (hb : RollBody fd) (W : RollSc Z fd.scope)
    (hargs : ∀ i m, dfltsOf Z fd.defaults = some [] ∧ zipArgs (fd.params.args.map (·.arg)) [.ref i, .int (.ofNat m)] [] = some (fmA i m)) (hd : dice.length ≤ 63) : RoOk prog w β dice B Z := by
  intro A σ ρ s i j t m v o vs Q E bud I ra g gd ho q
  obtain ⟨p1, p2, p3, p4, p5, p6, p7, p8, p9, q1, q2, q3, q4, a1, a2, a3, a4, a5, a6, a7, a8, a9, b1, b2, b3, b4, b5, b6, b7, b8, b9, c1, c2, c3, c4, d1, d2, d3, d4, k1, k2, k3, k4, k5, k6, hb⟩ := hb
  obtain ⟨e1, e2⟩ := hargs i m
  refine wpAny_call (call_fn (n := 7) T.G bud I hK FN hb e1 e2 ra fun h₁ tk₁ F1 I1 X1 hnew bud' {E} => ?_)
  have C1 : Cx prog w β dice B 7 (A.deeper (callEnvC fd s.heap.objs.size Z.rolled)) (callEnvC fd s.heap.objs.size Z.rolled) (fmA i m) σ ρ { s with heap := h₁, toks := tk₁ } := ⟨bud', F1, I1⟩
  refine roll_body T W hd rfl C1 g gd ho (fun σ g hm ht => roll_last T W hd g hm ht) fun f h' tk ρ' rf F I X => ?_
  obtain ⟨val, rfl, rv⟩ := rf
  have Y := (X1.toOwn (env := callEnvC fd s.heap.objs.size Z.rolled)).own2 X F1
  exact q val h' tk ρ' rv I ⟨Y.pre, fun b o e nb _ => Y.keep b o e nb fun t => (by rw [hnew b t] at e; cases e), Y.live⟩
theorem roll_ok {P : Params} (T : Tk prog w β (tabs P) B) (hd : dice.length ≤ 63) : RoOk prog w β dice B (tabs P) :=
  roll_any T (roll_K P) (bads_ok (tabs_bads P) (roll_K P)) roll_stmts (roll_scope P) (roll_args P) hd
end
end Mine
end

section
open PySem PySem.W PyProof.Rows PySem.Calls
namespace Mine
theorem nget_mem {α : Type} {x : Nat} {v : α} : ∀ {l : List (Nat × α)}, nget l x = some v → (x, v) ∈ l
  | [], h => by cases h
  | p :: l, h => by
    replace h : (match Nat.beq p.1 x with | true => some p.2 | false => nget l x) = some v := h
    split at h
    · rename_i e
      cases h
      rw [← Nat.eq_of_beq_eq_true e]; exact List.mem_cons_self ..
    · exact List.mem_cons_of_mem _ (nget_mem h)
def v369 : List Value := [(.int 23 274), (.int 24 276), (.int 25 278), (.int 26 280), (.int 27 282)]
def v370 : List Value := [(.int 0 234), (.int 1 236), (.int 2 238), (.int 4 242), (.int 5 244), (.int 6 246), (.int 10 248), (.int 12 252), (.int 13 254), (.int 14 256), (.int 15 258), (.int 16 260), (.int 17 262), (.int 18 264), (.int 19 266), (.int 20 268), (.int 36 298), (.int 27 282)]
def v371 : List (Int × Nat × Value) := [(12, 252, (.bytes #[97, 100, 100] 811)), (13, 254, (.bytes #[115, 117, 98] 812)), (14, 256, (.bytes #[109, 117, 108] 813)), (15, 258, (.bytes #[100, 105, 118] 814)), (16, 260, (.bytes #[109, 111, 100] 815)), (17, 262, (.bytes #[112, 111, 119] 816)), (18, 264, (.bytes #[117, 110, 109] 817))]
theorem kk_1 (P : Params) : (kk P).lookup 1 = some (boot_o_1 P) := by kernel_rfl
theorem kk_369 (P : Params) : (kk P).lookup 369 = some ⟨.type "tuple", none, .seq (Array.mk v369) 0, #[]⟩ := by kernel_rfl
theorem kk_370 (P : Params) : (kk P).lookup 370 = some ⟨.type "tuple", none, .seq (Array.mk v370) 0, #[]⟩ := by kernel_rfl
theorem kk_371 (P : Params) : (kk P).lookup 371 = some ⟨.type "dict", none, .dict (Array.mk (v371.map fun x => ⟨x.1, .int x.1 x.2.1, x.2.2⟩)) 7, #[]⟩ := by kernel_rfl
noncomputable def noneB (K : Frag) (C : Nat) (x : Str) : Bool := match findIn K (.ref C) x with | some none => true | _ => false
theorem noneB_ok {K : Frag} {C : Nat} {l : List Str} (h : l.all (noneB K C) = true) : ∀ x ∈ l, findIn K (.ref C) x = some none := fun x m => by
  have := List.all_eq_true.mp h x m
  unfold noneB at this
  split at this
  · assumption
  · cases this
noncomputable def mthB (K : Frag) (C : Nat) (p : Str × Nat) : Bool := match findIn K (.ref C) p.1, typeIn K (.ref p.2), findCls K (.ref C) (.type "type") p.1 with
  | some (some (.ref g)), some (.type t), some (.val (.ref g')) => Nat.beq g p.2 && (decide (t = "function") && Nat.beq g' p.2)
  | _, _, _ => false
theorem mthB_ok {K : Frag} {C : Nat} {l : List (Str × Nat)} (h : l.all (mthB K C) = true) : ∀ x f, (x, f) ∈ l → findIn K (.ref C) x = some (some (.ref f)) ∧ typeIn K (.ref f) = some (.type "function") ∧ findCls K (.ref C) (.type "type") x = some (.val (.ref f)) := fun x f m => by
  have := List.all_eq_true.mp h (x, f) m
  unfold mthB at this
  split at this
  · rename_i g t g' e1 e2 e3
    simp only [Bool.and_eq_true, decide_eq_true_eq] at this
    obtain ⟨a, rfl, b⟩ := this
    rw [Nat.eq_of_beq_eq_true a] at e1
    rw [Nat.eq_of_beq_eq_true b] at e3
    exact ⟨e1, e2, e3⟩
  · cases this
noncomputable def isFn (K : Frag) (g : Nat) : Bool := match nget K g with | some ⟨_, _, .func _, _⟩ => true | _ => false
theorem isFn_ok {K : Frag} {g : Nat} (h : isFn K g = true) : ∃ c d fd sl, nget K g = some ⟨c, d, .func fd, sl⟩ := by
  unfold isFn at h
  split at h
  · rename_i c d fd sl e; exact ⟨c, d, fd, sl, e⟩
  · cases h
theorem own_ok (P : Params) : ∀ C names, nget (tabs P).own C = some names → OwnOk (kk P) C names := by
  intro C names h
  have h := nget_mem h
  simp only [tabs, List.mem_cons, Prod.mk.injEq, List.not_mem_nil, or_false] at h
  rcases h with ⟨rfl, rfl⟩ | ⟨rfl, rfl⟩ | ⟨rfl, rfl⟩ | ⟨rfl, rfl⟩ | ⟨rfl, rfl⟩ <;> exact ⟨by kernel_rfl, by kernel_rfl, by kernel_rfl, by kernel_rfl, by kernel_rfl, noneB_ok (by kernel_rfl)⟩
theorem mth_ok (P : Params) : ∀ C ms, nget (tabs P).mth C = some ms → MthOk (kk P) C ms := by
  intro C ms h
  have h := nget_mem h
  simp only [tabs, List.mem_cons, Prod.mk.injEq, List.not_mem_nil, or_false] at h
  rcases h with ⟨rfl, rfl⟩ | ⟨rfl, rfl⟩
  · have q := mthB_ok (K := kk P) (C := 226) (l := [("__init__", 223)]) (by kernel_rfl)
    exact ⟨by kernel_rfl, by kernel_rfl, fun x f m => ⟨(q x f m).1, (q x f m).2.1⟩, by kernel_rfl, by kernel_rfl, fun x f m => (q x f m).2.2⟩
  · have q := mthB_ok (K := kk P) (C := 573) (l := [("value", 502), ("constant", 509), ("forget", 514), ("learn", 521), ("step", 528), ("folded", 535), ("loaded", 542), ("reckoned", 549), ("answered", 556), ("compared", 563), ("tested", 570)]) (by kernel_rfl)
    exact ⟨by kernel_rfl, by kernel_rfl, fun x f m => ⟨(q x f m).1, (q x f m).2.1⟩, by kernel_rfl, by kernel_rfl, fun x f m => (q x f m).2.2⟩
theorem cls_ok (P : Params) : ∀ C g, nget (tabs P).cls C = some g → ClsOk (tabs P) C g := by
  intro C g h
  have h := nget_mem h
  simp only [tabs, List.mem_cons, Prod.mk.injEq, List.not_mem_nil, or_false] at h
  rcases h with ⟨rfl, rfl⟩ | ⟨rfl, rfl⟩ | ⟨rfl, rfl⟩ | ⟨rfl, rfl⟩ | ⟨rfl, rfl⟩ <;> exact ⟨by kernel_rfl, by kernel_rfl, by kernel_rfl, isFn_ok (by kernel_rfl), by kernel_rfl⟩
theorem ints369 : IntsAre v369 [23, 24, 25, 26, 27] := by repeat' constructor
theorem ints370 : IntsAre v370 [0, 1, 2, 4, 5, 6, 10, 12, 13, 14, 15, 16, 17, 18, 19, 20, 36, 27] := by repeat' constructor
section
variable {prog : Program} {w : World} {β : Nat → Nat} {dice : List Int} {B : Heap}
theorem h371 : ∀ x ∈ v371, x.1 = (intKind prog w).hash x.1 := fun x m => by
  show x.1 = hashInt x.1
  revert x; decide +kernel
theorem pairs371 : ∀ l : List (Int × Nat × Value), Pairs (intKind prog w) ((l.map fun x => (⟨x.1, .int x.1 x.2.1, x.2.2⟩ : DictEntry)).toArray.toList) (l.map fun x => (x.1, x.2.2))
  | [] => .nil
  | x :: l => .cons (by simp [intKind, Value.isInt]) rfl (by simpa using pairs371 l)
theorem drs371 : DRs β [] [(12, .bytes [97, 100, 100]), (13, .bytes [115, 117, 98]), (14, .bytes [109, 117, 108]), (15, .bytes [100, 105, 118]), (16, .bytes [109, 111, 100]), (17, .bytes [112, 111, 119]), (18, .bytes [117, 110, 109])] (v371.map fun x => (x.1, x.2.2)) := by
  repeat' (first | exact ⟨_, rfl⟩ | constructor)
theorem gd_ok (X : (kk w.params).In B) (lim : B.NoLimit) (g : ∃ mg, B.Ns mainGlobals mg) (b : ∃ mb, B.Ns builtinsNs mb ∧ ∀ x : Str, x ≠ "__name__" → mb x = bootBuiltins x) : Gd prog w β (tabs w.params) B where
  X := X
  lim := lim
  g := g
  b := b
  mods := ⟨_, X _ _ (kk_1 w.params)⟩
  tups a l h := by
    have h := nget_mem h
    simp only [tabs, List.mem_cons, Prod.mk.injEq, List.not_mem_nil, or_false] at h
    rcases h with ⟨rfl, rfl⟩ | ⟨rfl, rfl⟩
    · exact ⟨v369, ⟨_, X _ _ (kk_369 w.params), rfl, _, rfl⟩, ints369⟩
    · exact ⟨v370, ⟨_, X _ _ (kk_370 w.params), rfl, _, rfl⟩, ints370⟩
  dcts a es h := by
    have h := nget_mem h
    simp only [tabs, List.mem_cons, Prod.mk.injEq, List.not_mem_nil, or_false] at h
    obtain ⟨rfl, rfl⟩ := h
    refine ⟨v371.map fun x => (x.1, x.2.2), ⟨_, _, _, X _ _ (kk_371 w.params), ⟨rfl, rfl, rfl⟩, rfl, ?_, ?_, by decide +kernel⟩, ?_⟩
    · intro e he
      have he : e ∈ v371.map fun x => (⟨x.1, .int x.1 x.2.1, x.2.2⟩ : DictEntry) := by simpa using he
      obtain ⟨x, m, rfl⟩ := List.mem_map.mp he
      exact ⟨x.1, by simp [intKind, Value.isInt], h371 x m⟩
    · exact pairs371 v371
    · exact drs371
theorem fx_ok (X : (kk w.params).In B) (lim : B.NoLimit) (g : ∃ mg, B.Ns mainGlobals mg) (b : ∃ mb, B.Ns builtinsNs mb ∧ ∀ x : Str, x ≠ "__name__" → mb x = bootBuiltins x) (hd : dice.length ≤ 63) : Fx prog w β dice B (tabs w.params) := by
  have T : Tk prog w β (tabs w.params) B := ⟨gd_ok X lim g b, fun t es h => (by
    have h := nget_mem h
    simp only [tabs, List.mem_cons, Prod.mk.injEq, List.not_mem_nil, or_false] at h
    obtain ⟨rfl, _⟩ := h
    rfl), own_ok _⟩
  exact ⟨T, mth_ok _, tabs_bads _, cls_ok _, by kernel_rfl, roll_ok T hd⟩
end
end Mine
end

section
open PySem PySem.W PyProof.Rows PySem.Calls
namespace Mine
/-- dice, cup -/
def sD (turn : Nat) (o : List (Nat × Nat × AV)) : S := ⟨.node .dice (.node (.list [.ref 0, .int (.ofNat turn)]) .nil .nil) .nil, 2, o⟩
theorem sD_get {t : Nat} {o : List (Nat × Nat × AV)} {i : Nat} {x : AO} (h : (sD t o).get i = some x) : (i = 0 ∧ x = .dice) ∨ (i = 1 ∧ x = .list [.ref 0, .int (.ofNat t)]) := by
  replace h : T.get (.node .dice (.node (.list [.ref 0, .int (.ofNat t)]) .nil .nil) .nil) i = some x := h
  rw [T.get_node] at h
  split at h
  · rename_i e; cases h; exact .inl ⟨e, rfl⟩
  · split at h
    · rw [T.get_node] at h
      split at h
      · cases h; exact .inr ⟨by omega, rfl⟩
      · split at h <;> cases h
    · cases h
/-- what a part of the law leaves: True, the cup's turn -/
noncomputable def okS (turn' : Nat) (x : Option (AV × S)) : Bool := match x with
  | some (.bool true, σ) => (match σ.get 0, σ.get 1, σ.o with
    | some .dice, some (.list [.ref 0, .int (.ofNat t)]), [] => Nat.beq t turn'
    | _, _, _ => false)
  | _ => false
theorem okS_spec {t' : Nat} {x : Option (AV × S)} (h : okS t' x = true) : ∃ σ, x = some (.bool true, σ) ∧ σ.get 0 = some .dice ∧ σ.get 1 = some (.list [.ref 0, .int (.ofNat t')]) ∧ σ.o = [] := by
  unfold okS at h
  split at h
  · rename_i σ
    split at h
    · rename_i t e1 e2 e3
      refine ⟨σ, rfl, e1, ?_, e3⟩
      rw [← Nat.eq_of_beq_eq_true h]; exact e2
    · cases h
  · cases h
noncomputable def ok (P : Params) (n f turn turn' : Nat) (o : List (Nat × Nat × AV)) : Bool := okS turn' ((run (tabs P) n).cl (.top f) [.ref 1] (sD turn o))
section
variable {prog : Program} {w : World} {β : Nat → Nat} {dice : List Int} {B : Heap} {ρ : List Addr} {s : Shared} {A : Around}
theorem part_ok' (F : Fx prog w β dice B (tabs w.params)) {f t t' : Nat} {o : List (Nat × Nat × AV)} (hrun : ok w.params 100 f t t' o = true) (hfn : isFn (kk w.params) f = true) (hr : Nat.beq f 634 = false)
    (ho : ∀ t m v, (t, m, v) ∈ o → Drawn β v (rolledVal dice t m) ∧ 0 < m ∧ t < 64) (bud : Bud A 108) (I : Inv prog w β dice B (sD t []) ρ s.heap) {v : Value} (rv : VR β ρ (.ref 1) v) {R : Result → Shared → Prop}
    (q : Kv prog w β dice B (sD t' []) (.bool true) ρ s fun v s' => R (.ok (.ret v)) s') :
    codeAny (model prog w) A (.call (.ref f) ⟨[v], []⟩) R s := by
  have I1 : Inv prog w β dice B (sD t o) ρ s.heap := ⟨I.len, I.nd, I.new, I.live, I.has, I.keep, ho⟩
  obtain ⟨σ, e, g0, g1, eo⟩ := okS_spec hrun
  refine (all_run F 100).cc bud I1 (isFn_ok hfn) hr (.cons rv .nil) e fun val h' tk ρ' rv' I2 X2 => ?_
  have len : ρ.length = 2 := I.len.symm
  obtain ⟨more, hm, _⟩ := X2.pre
  have at0 : ∀ (i : Nat) a, i < 2 → ρ'[i]? = some a → ρ[i]? = some a := fun i a hi e => by
    rw [hm, List.getElem?_append_left (by omega)] at e; exact e
  refine q val h' tk ρ rv' ⟨I.len, I.nd, I.new, X2.live, fun i x hx => ?_, I2.keep, fun _ _ _ h => nomatch h⟩ ⟨⟨[], (List.append_nil ρ).symm, fun _ h => nomatch h⟩, X2.keep, X2.live⟩
  rcases sD_get hx with ⟨rfl, rfl⟩ | ⟨rfl, rfl⟩
  · obtain ⟨a, e1, e2⟩ := I2.has 0 _ g0
    exact ⟨a, at0 0 a (by omega) e1, e2⟩
  · obtain ⟨a, e1, z, items, n, hl, hv⟩ := I2.has 1 _ g1
    refine ⟨a, at0 1 a (by omega) e1, z, items, n, hl, ?_⟩
    obtain _ | ⟨⟨b, b1, b2⟩, _ | ⟨r2, _ | _⟩⟩ := hv
    exact .cons ⟨b, at0 0 b (by omega) b1, b2⟩ (.cons r2 .nil)
end
/-! the draws -/
theorem rolled_lt (dice : List Int) (t m : Nat) (hm : 0 < m) : ∃ k, k < m ∧ rolledVal dice t m = (k : Int) := by
  have key : ∀ x : Int, ∃ k, k < m ∧ x.fmod m = (k : Int) := fun x => by
    have h1 := Int.fmod_nonneg_of_pos x (show (0 : Int) < (m : Int) by omega)
    have h2 := Int.fmod_lt_of_pos x (show (0 : Int) < (m : Int) by omega)
    exact ⟨(x.fmod m).toNat, by omega, by omega⟩
  unfold rolledVal
  split <;> exact key _
def idl (k : Nat) : List Nat → List (Nat × Nat × AV)
  | [] => []
  | b :: l => (k, 2, .int (.ofNat b)) :: idl (k + 1) l
def eight : List Int := [0, 1, 2, 3, 4, 5, 6, 7]
def oA (k : Nat) : List (Nat × Nat × AV) := [(0, 3, .int (.ofNat k))]
def oB (k g : Nat) : List (Nat × Nat × AV) := [(1, 3, .int (.ofNat k)), (2, k + 4, .int (.ofNat g))]
def oC (v : Nat) (l : List Nat) : List (Nat × Nat × AV) := (3, 4, .int (.ofNat v)) :: (idl 4 l ++ [(5 + v, 8, .tab 0 eight), (6 + v, 8, .tab 1 eight)])
def bits : Nat → List (List Nat)
  | 0 => [[]]
  | n + 1 => (bits n).flatMap fun l => [0 :: l, 1 :: l]
theorem runA0 (P : Params) : ok P 100 646 0 1 (oA 0) = true := by kernel_rfl
theorem runA1 (P : Params) : ok P 100 646 0 1 (oA 1) = true := by kernel_rfl
theorem runA2 (P : Params) : ok P 100 646 0 1 (oA 2) = true := by kernel_rfl
theorem runsA (P : Params) : ∀ k, k < 3 → ok P 100 646 0 1 (oA k) = true
  | 0, _ => runA0 P
  | 1, _ => runA1 P
  | 2, _ => runA2 P
theorem runB00 (P : Params) : ok P 100 651 1 3 (oB 0 0) = true := by kernel_rfl
theorem runB01 (P : Params) : ok P 100 651 1 3 (oB 0 1) = true := by kernel_rfl
theorem runB02 (P : Params) : ok P 100 651 1 3 (oB 0 2) = true := by kernel_rfl
theorem runB03 (P : Params) : ok P 100 651 1 3 (oB 0 3) = true := by kernel_rfl
theorem runB10 (P : Params) : ok P 100 651 1 3 (oB 1 0) = true := by kernel_rfl
theorem runB11 (P : Params) : ok P 100 651 1 3 (oB 1 1) = true := by kernel_rfl
theorem runB12 (P : Params) : ok P 100 651 1 3 (oB 1 2) = true := by kernel_rfl
theorem runB13 (P : Params) : ok P 100 651 1 3 (oB 1 3) = true := by kernel_rfl
theorem runB14 (P : Params) : ok P 100 651 1 3 (oB 1 4) = true := by kernel_rfl
theorem runB20 (P : Params) : ok P 100 651 1 3 (oB 2 0) = true := by kernel_rfl
theorem runB21 (P : Params) : ok P 100 651 1 3 (oB 2 1) = true := by kernel_rfl
theorem runB22 (P : Params) : ok P 100 651 1 3 (oB 2 2) = true := by kernel_rfl
theorem runB23 (P : Params) : ok P 100 651 1 3 (oB 2 3) = true := by kernel_rfl
theorem runB24 (P : Params) : ok P 100 651 1 3 (oB 2 4) = true := by kernel_rfl
theorem runB25 (P : Params) : ok P 100 651 1 3 (oB 2 5) = true := by kernel_rfl
theorem runsB0 (P : Params) : ∀ g, g < 4 → ok P 100 651 1 3 (oB 0 g) = true
  | 0, _ => runB00 P
  | 1, _ => runB01 P
  | 2, _ => runB02 P
  | 3, _ => runB03 P
theorem runsB1 (P : Params) : ∀ g, g < 5 → ok P 100 651 1 3 (oB 1 g) = true
  | 0, _ => runB10 P
  | 1, _ => runB11 P
  | 2, _ => runB12 P
  | 3, _ => runB13 P
  | 4, _ => runB14 P
theorem runsB2 (P : Params) : ∀ g, g < 6 → ok P 100 651 1 3 (oB 2 g) = true
  | 0, _ => runB20 P
  | 1, _ => runB21 P
  | 2, _ => runB22 P
  | 3, _ => runB23 P
  | 4, _ => runB24 P
  | 5, _ => runB25 P
theorem runsB (P : Params) : ∀ k g, k < 3 → g < k + 4 → ok P 100 651 1 3 (oB k g) = true
  | 0, g, _, h => runsB0 P g h
  | 1, g, _, h => runsB1 P g h
  | 2, g, _, h => runsB2 P g h
theorem runC0 (P : Params) : ((bits 1).all fun l => ok P 100 656 3 7 (oC 0 l)) = true := by kernel_rfl
theorem runC1 (P : Params) : ((bits 2).all fun l => ok P 100 656 3 8 (oC 1 l)) = true := by kernel_rfl
theorem runC2 (P : Params) : ((bits 3).all fun l => ok P 100 656 3 9 (oC 2 l)) = true := by kernel_rfl
theorem runC30 (P : Params) : ((bits 3).all fun l => ok P 100 656 3 10 (oC 3 (0 :: l))) = true := by kernel_rfl
theorem runC31 (P : Params) : ((bits 3).all fun l => ok P 100 656 3 10 (oC 3 (1 :: l))) = true := by kernel_rfl
theorem runsC (P : Params) : ∀ v, v < 4 → ∀ l ∈ bits (v + 1), ok P 100 656 3 (v + 7) (oC v l) = true
  | 0, _, l, h => List.all_eq_true.mp (runC0 P) l h
  | 1, _, l, h => List.all_eq_true.mp (runC1 P) l h
  | 2, _, l, h => List.all_eq_true.mp (runC2 P) l h
  | 3, _, l, h => by
    obtain ⟨m, hm, h⟩ := List.mem_flatMap.mp (show l ∈ (bits 3).flatMap fun l => [0 :: l, 1 :: l] from h)
    rcases List.mem_cons.mp h with rfl | h
    · exact List.all_eq_true.mp (runC30 P) m hm
    · rcases List.mem_singleton.mp h with rfl
      exact List.all_eq_true.mp (runC31 P) m hm
end Mine
end

section
open PySem PySem.W PyProof.Rows PySem.Calls PySem.SeqAt
namespace Mine
theorem bits_mem : ∀ l : List Nat, (∀ b ∈ l, b < 2) → l ∈ bits l.length
  | [], _ => List.mem_singleton.mpr rfl
  | b :: l, h => by
    have ih := bits_mem l fun x m => h x (List.mem_cons_of_mem _ m)
    have hb := h b (List.mem_cons_self ..)
    refine List.mem_flatMap.mpr ⟨l, ih, ?_⟩
    match b, hb with
    | 0, _ => exact List.mem_cons_self ..
    | 1, _ => exact List.mem_cons_of_mem _ (List.mem_cons_self ..)
/-- the bits drawn -/
noncomputable def drawn2 (dice : List Int) (k : Nat) : Nat → List Nat
  | 0 => []
  | n + 1 => (rolledVal dice k 2).toNat :: drawn2 dice (k + 1) n
theorem drawn2_len (dice : List Int) : ∀ n k, (drawn2 dice k n).length = n
  | 0, _ => rfl
  | n + 1, k => congrArg (· + 1) (drawn2_len dice n (k + 1))
theorem drawn2_lt (dice : List Int) : ∀ n k, ∀ b ∈ drawn2 dice k n, b < 2
  | 0, _, _, h => nomatch h
  | n + 1, k, b, h => by
    rcases List.mem_cons.mp h with rfl | h
    · obtain ⟨x, hx, e⟩ := rolled_lt dice k 2 (by omega); rw [e]; simpa using hx
    · exact drawn2_lt dice n (k + 1) b h
theorem drawn2_ok (β : Nat → Nat) (dice : List Int) : ∀ n k, k + n ≤ 64 → ∀ t m v, (t, m, v) ∈ idl k (drawn2 dice k n) → Drawn β v (rolledVal dice t m) ∧ 0 < m ∧ t < 64
  | 0, _, _, _, _, _, h => nomatch h
  | n + 1, k, hk, t, m, v, h => by
    rcases List.mem_cons.mp h with h | h
    · cases h
      obtain ⟨x, hx, e⟩ := rolled_lt dice k 2 (by omega)
      refine ⟨?_, by omega, by omega⟩
      show (Int.ofNat (rolledVal dice k 2).toNat) = _
      rw [e]; rfl
    · exact drawn2_ok β dice n (k + 1) (by omega) t m v h
/-- how many locals, less one -/
noncomputable def manyOf (dice : List Int) : Nat := (rolledVal dice 3 4).toNat
noncomputable def betaOf (dice : List Int) (i : Nat) : Nat := match i with
  | 0 => (rolledVal dice (5 + manyOf dice) 8).toNat
  | _ => (rolledVal dice (6 + manyOf dice) 8).toNat
theorem eight_at {k : Nat} (h : k < 8) : eight[k]? = some (k : Int) := by
  match k, h with
  | 0, _ => rfl
  | 1, _ => rfl
  | 2, _ => rfl
  | 3, _ => rfl
  | 4, _ => rfl
  | 5, _ => rfl
  | 6, _ => rfl
  | 7, _ => rfl
section
variable {prog : Program} {w : World} {β : Nat → Nat} {dice : List Int} {B : Heap} {ρ : List Addr} {s : Shared} {A : Around}
def PartOk (prog : Program) (w : World) (β : Nat → Nat) (dice : List Int) (B : Heap) (f t t' : Nat) : Prop := ∀ {A : Around} {ρ : List Addr} {s : Shared} {v : Value} {R : Result → Shared → Prop}, Bud A 108 → Inv prog w β dice B (sD t []) ρ s.heap → VR β ρ (.ref 1) v →
  Kv prog w β dice B (sD t' []) (.bool true) ρ s (fun v s' => R (.ok (.ret v)) s') → codeAny (model prog w) A (.call (.ref f) ⟨[v], []⟩) R s
theorem partA (F : Fx prog w β dice B (tabs w.params)) : PartOk prog w β dice B 646 0 1 := fun bud I rv q => by
  obtain ⟨k, hk, e⟩ := rolled_lt dice 0 3 (by omega)
  refine part_ok' F (runsA w.params k hk) (by kernel_rfl) rfl (fun t m v h => ?_) bud I rv q
  rcases List.mem_singleton.mp h with h
  cases h
  exact ⟨e.symm, by omega, by omega⟩
theorem partB (F : Fx prog w β dice B (tabs w.params)) : PartOk prog w β dice B 651 1 3 := fun bud I rv q => by
  obtain ⟨k, hk, e⟩ := rolled_lt dice 1 3 (by omega)
  obtain ⟨g, hg, e'⟩ := rolled_lt dice 2 (k + 4) (by omega)
  have hrun : ok w.params 100 651 1 3 (oB k g) = true := runsB w.params k g hk hg
  refine part_ok' F hrun (by kernel_rfl) rfl (fun t m v h => ?_) bud I rv q
  rcases List.mem_cons.mp h with h | h
  · cases h
    exact ⟨e.symm, by omega, by omega⟩
  · rcases List.mem_singleton.mp h with h
    cases h
    exact ⟨e'.symm, by omega, by omega⟩
theorem partC (F : Fx prog w (betaOf dice) dice B (tabs w.params)) : PartOk prog w (betaOf dice) dice B 656 3 (manyOf dice + 7) := fun bud I rv q => by
  obtain ⟨v, hv, e⟩ := rolled_lt dice 3 4 (by omega)
  have hm : manyOf dice = v := by unfold manyOf; rw [e]; rfl
  rw [hm] at q
  have hl := bits_mem _ (drawn2_lt dice (v + 1) 4)
  rw [drawn2_len] at hl
  have hrun : ok w.params 100 656 3 (v + 7) (oC v (drawn2 dice 4 (v + 1))) = true := runsC w.params v hv _ hl
  refine part_ok' F hrun (by kernel_rfl) rfl (fun t m x h => ?_) bud I rv q
  rcases List.mem_cons.mp h with h | h
  · cases h
    exact ⟨e.symm, by omega, by omega⟩
  · rcases List.mem_append.mp h with h | h
    · exact drawn2_ok _ dice (v + 1) 4 (by omega) t m x h
    · rcases List.mem_cons.mp h with h | h
      · cases h
        obtain ⟨k, hk, e2⟩ := rolled_lt dice (5 + v) 8 (by omega)
        refine ⟨?_, by omega, by omega⟩
        show eight[(rolledVal dice (5 + manyOf dice) 8).toNat]? = _
        rw [hm, e2]; exact eight_at hk
      · rcases List.mem_singleton.mp h with h
        cases h
        obtain ⟨k, hk, e2⟩ := rolled_lt dice (6 + v) 8 (by omega)
        refine ⟨?_, by omega, by omega⟩
        show eight[(rolledVal dice (6 + manyOf dice) 8).toNat]? = _
        rw [hm, e2]; exact eight_at hk
end
/-! the three parts as contracts -/
noncomputable def isD (σ : S) (t : Nat) : Bool := okS t (some (.bool true, σ)) && Nat.beq σ.n 2
theorem isD_inv {prog : Program} {w : World} {β : Nat → Nat} {dice : List Int} {B : Heap} {σ : S} {t : Nat} {ρ : List Addr} {h : Heap} (e : isD σ t = true) (I : Inv prog w β dice B σ ρ h) : Inv prog w β dice B (sD t []) ρ h := by
  obtain ⟨e1, e2⟩ := Bool.and_eq_true_iff.mp e
  obtain ⟨σ', e3, g0, g1, _⟩ := okS_spec e1
  cases e3
  refine ⟨(Nat.eq_of_beq_eq_true e2).symm.trans I.len, I.nd, I.new, I.live, fun i o ho => ?_, I.keep, fun _ _ _ h => (nomatch h)⟩
  rcases sD_get ho with ⟨rfl, rfl⟩ | ⟨rfl, rfl⟩
  · exact I.has _ _ g0
  · exact I.has _ _ g1
noncomputable def clC (vC : Nat) (f : AV) (args : List AV) (σ : S) : Option (AV × S) := match f with
  | .top a => (match args with
    | [.ref i] => (match Nat.beq i 1 with
      | true => (match Nat.beq a 646 && isD σ 0 with
        | true => some (.bool true, sD 1 [])
        | false => (match Nat.beq a 651 && isD σ 1 with
          | true => some (.bool true, sD 3 [])
          | false => (match Nat.beq a 656 && isD σ 3 with
            | true => some (.bool true, sD (vC + 7) [])
            | false => none)))
      | false => none)
    | _ => none)
  | _ => none
theorem clC_spec {vC : Nat} {f : AV} {args : List AV} {σ σ' : S} {v : AV} (h : clC vC f args σ = some (v, σ')) : ∃ a t t', f = .top a ∧ args = [.ref 1] ∧ isD σ t = true ∧ v = .bool true ∧ σ' = sD t' [] ∧ ((a = 646 ∧ t = 0 ∧ t' = 1) ∨ (a = 651 ∧ t = 1 ∧ t' = 3) ∨ (a = 656 ∧ t = 3 ∧ t' = vC + 7)) := by
  unfold clC at h
  split at h
  · rename_i a
    split at h
    · rename_i i
      split at h
      · rename_i hi
        have hi := Nat.eq_of_beq_eq_true hi
        subst hi
        split at h
        · rename_i h1
          obtain ⟨h1, h2⟩ := Bool.and_eq_true_iff.mp h1
          cases h
          exact ⟨a, 0, 1, rfl, rfl, h2, rfl, rfl, .inl ⟨Nat.eq_of_beq_eq_true h1, rfl, rfl⟩⟩
        · split at h
          · rename_i h1
            obtain ⟨h1, h2⟩ := Bool.and_eq_true_iff.mp h1
            cases h
            exact ⟨a, 1, 3, rfl, rfl, h2, rfl, rfl, .inr (.inl ⟨Nat.eq_of_beq_eq_true h1, rfl, rfl⟩)⟩
          · split at h
            · rename_i h1
              obtain ⟨h1, h2⟩ := Bool.and_eq_true_iff.mp h1
              cases h
              exact ⟨a, 3, vC + 7, rfl, rfl, h2, rfl, rfl, .inr (.inr ⟨Nat.eq_of_beq_eq_true h1, rfl, rfl⟩)⟩
            · cases h
      · cases h
    · cases h
  · cases h
noncomputable def P0 (Z : Tabs) (vC : Nat) : R := { run Z 2 with cl := clC vC }
section
variable {prog : Program} {w : World} {dice : List Int} {B : Heap} {ρ : List Addr} {s : Shared} {A : Around}
theorem all_P0 (F : Fx prog w (betaOf dice) dice B (tabs w.params)) : All prog w (betaOf dice) dice B (tabs w.params) (P0 (tabs w.params) (manyOf dice)) 108 := by
  have H : All prog w (betaOf dice) dice B (tabs w.params) (run (tabs w.params) 2) 108 := all_step F (by omega) (all_step F (by omega) (all_zero 106))
  have cc : CcOk prog w (betaOf dice) dice B (tabs w.params) (P0 (tabs w.params) (manyOf dice)) 108 := by
    intro A σ σ' ρ s g args vs v R bud I _ _ ra e q
    obtain ⟨a, t, t', h1, rfl, h2, rfl, rfl, hc⟩ := clC_spec (show clC (manyOf dice) (.top g) args σ = some (v, σ') from e)
    cases h1
    replace I := isD_inv h2 I
    obtain _ | ⟨r1, _ | _⟩ := ra
    rcases hc with ⟨rfl, rfl, rfl⟩ | ⟨rfl, rfl, rfl⟩ | ⟨rfl, rfl, rfl⟩
    · exact partA F bud I r1 q
    · exact partB F bud I r1 q
    · exact partC F bud I r1 q
  have fns : ∀ {a t t' vC : Nat}, ((a = 646 ∧ t = 0 ∧ t' = 1) ∨ (a = 651 ∧ t = 1 ∧ t' = 3) ∨ (a = 656 ∧ t = 3 ∧ t' = vC + 7)) → isFn (kk w.params) a = true ∧ keepIn (kk w.params) (.ref a) = true ∧ Nat.beq a 634 = false := fun h => by
    rcases h with ⟨rfl, _⟩ | ⟨rfl, _⟩ | ⟨rfl, _⟩ <;> exact ⟨by kernel_rfl, by kernel_rfl, rfl⟩
  refine ⟨H.ev, H.ts, H.xs, ?_, H.wl, H.fo, H.co, H.cm, ?_, cc⟩
  · intro A σ σ' ρ s f fv args vs v E Q bud I rf ra e q
    have e' : clC (manyOf dice) f args σ = some (v, σ') := e
    obtain ⟨a, t, t', rfl, _, _, _, _, hc⟩ := clC_spec e'
    cases rf
    exact wpAny_call (cc bud I (isFn_ok (fns hc).1) (fns hc).2.2 ra e q)
  · intro σ σ' ρ f fv args v rf e
    obtain ⟨a, t, t', rfl, _, _, _, _, hc⟩ := clC_spec (show clC (manyOf dice) f args σ = some (v, σ') from e)
    cases rf
    exact keeps2_K (fns hc).2.1
theorem all_P3 (F : Fx prog w (betaOf dice) dice B (tabs w.params)) : All prog w (betaOf dice) dice B (tabs w.params) (step (tabs w.params) (step (tabs w.params) (step (tabs w.params) (step (tabs w.params) (P0 (tabs w.params) (manyOf dice)))))) 112 :=
  all_step F (by omega) (all_step F (by omega) (all_step F (by omega) (all_step F (by omega) (all_P0 F))))
end
end Mine
end

section
open PySem PySem.W PyProof.Rows PySem.Calls PySem.SeqAt
namespace Mine
noncomputable def fdL : FuncData := fdO (tS 125) (Str.ofString "law") .none (.str (Str.ofString "law_rh0166_01") 1189) (.ref 662)
theorem law_K (P : Params) : nget (tabs P).K 663 = some ⟨.type "function", none, .func fdL, #[]⟩ := by kernel_rfl
noncomputable def lawS (i : Nat) : Stmt := (match fdL.body with | .stmts l => l[i]? | _ => none).getD (.Pass default)
noncomputable def lawT : Expr := match lawS 1 with | .If t _ _ _ => t | _ => .Constant .none 0 default
noncomputable def lawR : Expr := match lawS 2 with | .Return (some e) _ => e | _ => .Constant .none 0 default
def LawBody (fd : FuncData) (T R : Expr) : Prop := ∃ (p1 p2 p3 p4 p5 p6 p7 p8 p9 q1 : Pos) (k1 k2 : Nat) (th : List Stmt), fd.body = .stmts [.Assign [.Name "cup" p1] (.List [.Subscript (.Name "script" p2) (.Slice none (some (.Constant (.int 16) k1 p3)) none p4) p5, .Constant (.int 0) k2 p6] p7) p8,
  .If T th [] p9, .Return (some R) q1]
theorem law_body : LawBody fdL lawT lawR := ⟨_, _, _, _, _, _, _, _, _, _, _, _, _, rfl⟩
noncomputable def fm0 (a : Nat) : Fm := [("script", .top a)]
noncomputable def fm1 (a : Nat) : Fm := sset (fm0 a) "cup" (.ref 1)
theorem law_args (P : Params) (a : Nat) : dfltsOf (tabs P) fdL.defaults = some [] ∧ zipArgs (fdL.params.args.map (·.arg)) [.top a] [] = some (fm0 a) := ⟨by kernel_rfl, by kernel_rfl⟩
structure LawSc (Z : Tabs) (sc : Scope) : Prop where
  script : ∀ a, nameAV Z sc "script" (fm0 a) = some (.top a)
  cup : sget sc.names "cup" = some .local
theorem law_scope (P : Params) : LawSc (tabs P) fdL.scope := ⟨fun a => by kernel_rfl, by kernel_rfl⟩
theorem law_test (P : Params) (a v : Nat) : (step (tabs P) (step (tabs P) (step (tabs P) (step (tabs P) (P0 (tabs P) v))))).ts fdL.scope lawT (fm1 a) (sD 0 []) = some (false, sD (v + 7) []) := by kernel_rfl
noncomputable def isT (x : Option (AV × S)) : Bool := match x with | some (.bool true, _) => true | _ => false
theorem isT_spec {x : Option (AV × S)} (h : isT x = true) : ∃ σ, x = some (.bool true, σ) := by
  unfold isT at h
  split at h
  · exact ⟨_, rfl⟩
  · cases h
theorem law_ret (P : Params) (a t : Nat) : isT ((run (tabs P) 60).ev fdL.scope lawR (fm1 a) (sD t [])) = true := by kernel_rfl
end Mine
end

section
open PySem PySem.W PyProof.Rows PySem.Calls PySem.SeqAt
namespace Mine
section
variable {prog : Program} {w : World} {β : Nat → Nat} {dice : List Int} {B : Heap} {Z : Tabs} {n : Nat} {r : R} {env : Env} {fm fm' : Fm} {σ σ' σ₁ σa σb : S} {ρ ρ' ρ₁ ρ₂ : List Addr} {s : Shared} {h h' h₁ h₂ : Heap} {tk₁ : Nat} {A : Around} {E : Value → Shared → Prop}
variable {sc : Scope} {e e1 e2 : Expr} {v a b : AV}
open Classical in
noncomputable def rL (sc : Scope) (fm : Fm) (e1 : Expr) (σa : S) (a : AV) (σb : S) (e2 : Expr) (b : AV) : R :=
  { none7 with ev := fun sc' e' fm' σ' => if e' = e1 ∧ sc' = sc ∧ fm' = fm ∧ σ' = σa then some (a, σb) else if e' = e2 ∧ sc' = sc ∧ fm' = fm ∧ σ' = σb then some (b, σb) else none }
theorem rL_ok (h1 : EvAt prog w β dice B n sc e1 fm σa a σb) (h2 : EvAt prog w β dice B n sc e2 fm σb b σb) : EvOk prog w β dice B (rL sc fm e1 σa a σb e2 b) n := by
  intro A env fm' σ₀ σ' ρ s e v E Q C h g
  replace h : (open Classical in if e = e1 ∧ env.scope = sc ∧ fm' = fm ∧ σ₀ = σa then some (a, σb) else if e = e2 ∧ env.scope = sc ∧ fm' = fm ∧ σ₀ = σb then some (b, σb) else none) = some (v, σ') := h
  split at h
  · rename_i x; obtain ⟨rfl, g2, rfl, rfl⟩ := x; cases h; exact h1 g2 C g
  · split at h
    · rename_i x; obtain ⟨rfl, g2, rfl, rfl⟩ := x; cases h; exact h2 g2 C g
    · cases h
/-- the empty heap of one's own -/
def sE : S := ⟨.nil, 0, []⟩
/-- the dice alone -/
def sO1 : S := ⟨.node .dice .nil .nil, 1, []⟩
/-- the dice are cut from the script -/
theorem cut_ok {x : Addr} {vs : List Value} {ns : List Int} (hx : B.IsList x vs.toArray) (hi : IntsAre vs ns) (hn : ns.length ≤ 63) (G : Gd prog w β Z B) {y : Str} (hy : nameAV Z sc y fm = some (.top x)) {p1 p2 p3 p4 : Pos} {k : Nat} :
    EvAt prog w β (ns.take 16) B n sc (.Subscript (.Name y p1) (.Slice none (some (.Constant (.int 16) k p2)) none p3) p4) fm sE (.ref 0) sO1 := fun {A env ρ s E Q} hs C q => by
  refine Subscript_ (EvAt.name G hy hs C fun va h' tk ρ' ra I X => ?_)
  cases ra
  have C1 := C.step I X tk
  refine wpAny_Slice (wpAny_pure ?_)
  have hc : EvAt prog w β (ns.take 16) B n sc (.Constant (.int 16) k p2) fm sE (.int 16) sE := EvAt.const rfl
  show wpAny (model prog w) A (evalPart (some (.Constant (.int 16) k p2)) env) _ E _
  refine hc hs C1 fun vu h2 tk2 ρ2 ru I2 X2 => ?_
  obtain ⟨u, rfl⟩ := ru
  refine wpAny_pure ?_
  obtain ⟨J, Y⟩ := Inv.pushX (s := { s with heap := h2, toks := tk2 }) I2 { cls := .type "slice", data := .fields #[.none, .int 16 u, .none] }
  have hl : (h2.push { cls := .type "slice", data := .fields #[.none, .int 16 u, .none] }).IsList x vs.toArray := hx.at fun o e => J.keep _ _ e
  have hlen := ints_len hi
  refine tail_any (ops := [.ref h2.objs.size, .ref x]) (s := { s with heap := h2.push { cls := .type "slice", data := .fields #[.none, .int 16 u, .none] }, toks := tk2 }) hl.typeIs slot_list_getitem.lookup ?_ rfl
  refine wpAny_getItem_list_slice hl (Heap.IsSliceOf.new _ _ _ _) .none (.int 16 u) .none (by simp) ?_ (by simp; rw [sizeLine_eq]; omega)
  have hv : VRs β ρ2 ((ns.take 16).map AV.int) (vs.take 16) := by
    rw [List.map_take]; exact (of_ints hi).take 16
  have hlt : ((ns.take 16).map AV.int).length ≤ 16 := by simp; omega
  have ee : sE.newL ((ns.take 16).map AV.int) = some (.ref 0, ⟨.node (.list ((ns.take 16).map AV.int)) .nil .nil, 1, []⟩) := by
    unfold S.newL
    rw [show small ((ns.take 16).map AV.int) = true from by unfold small; rw [llen_eq]; exact Nat.ble_eq_true_of_le (by omega)]
    rfl
  rw [slice_list vs none (some 16) 0 16 (.inl ⟨rfl, rfl⟩) (.inr rfl), List.drop_zero]
  refine newL_ok (s := { s with heap := h2.push { cls := .type "slice", data := .fields #[.none, .int 16 u, .none] }, toks := tk2 }) J hv ee (fun val h3 tk3 ρ3 rv I3 X3 => ?_) tk2
  refine ((q.then X tk).then X2 tk2) val h3 tk3 ρ3 rv ⟨I3.len, I3.nd, I3.new, I3.live, fun i o ho => ?_, I3.keep, fun _ _ _ h => nomatch h⟩ (Y.trans0 X3)
  replace ho : T.get (.node .dice .nil .nil) i = some o := ho
  rw [T.get_node] at ho
  split at ho
  · rename_i hi0
    cases ho
    subst hi0
    obtain ⟨z, e1, _, items, nn, hl3, hv3⟩ := I3.has 0 (.list ((ns.take 16).map AV.int)) rfl
    exact ⟨z, e1, items, hl3.isList, ints_of hv3 rfl⟩
  · split at ho <;> cases ho
/-- the cup is made -/
theorem cup_ok {x : Addr} {vs : List Value} {ns : List Int} (hx : B.IsList x vs.toArray) (hi : IntsAre vs ns) (hn : ns.length ≤ 63) (G : Gd prog w β Z B) {y : Str} (hy : nameAV Z sc y fm = some (.top x)) {p1 p2 p3 p4 p5 p6 : Pos} {k k2 : Nat} :
    EvAt prog w β (ns.take 16) B n sc (.List [.Subscript (.Name y p1) (.Slice none (some (.Constant (.int 16) k p2)) none p3) p4, .Constant (.int 0) k2 p5] p6) fm sE (.ref 1) (sD 0 []) := fun {A env ρ s E Q} hs C q => by
  have h1 : EvAt prog w β (ns.take 16) B n sc (.Subscript (.Name y p1) (.Slice none (some (.Constant (.int 16) k p2)) none p3) p4) fm sE (.ref 0) sO1 := cut_ok hx hi hn G hy
  have h2 : EvAt prog w β (ns.take 16) B n sc (.Constant (.int 0) k2 p5) fm sO1 (.int 0) sO1 := EvAt.const rfl
  have e1 : (rL sc fm (.Subscript (.Name y p1) (.Slice none (some (.Constant (.int 16) k p2)) none p3) p4) sE (.ref 0) sO1 (.Constant (.int 0) k2 p5) (.int 0)).ev env.scope (.Subscript (.Name y p1) (.Slice none (some (.Constant (.int 16) k p2)) none p3) p4) fm sE = some (.ref 0, sO1) := if_pos ⟨rfl, hs, rfl, rfl⟩
  have e2 : (rL sc fm (.Subscript (.Name y p1) (.Slice none (some (.Constant (.int 16) k p2)) none p3) p4) sE (.ref 0) sO1 (.Constant (.int 0) k2 p5) (.int 0)).ev env.scope (.Constant (.int 0) k2 p5) fm sO1 = some (.int 0, sO1) := (if_neg (by rintro ⟨h, _⟩; cases h)).trans (if_pos ⟨rfl, hs, rfl, rfl⟩)
  refine ev_List (Z := Z) (rL_ok h1 h2) C (v := .ref 1) (σ' := sD 0 []) ?_ q
  have e3 : evs (rL sc fm (.Subscript (.Name y p1) (.Slice none (some (.Constant (.int 16) k p2)) none p3) p4) sE (.ref 0) sO1 (.Constant (.int 0) k2 p5) (.int 0)) env.scope [.Subscript (.Name y p1) (.Slice none (some (.Constant (.int 16) k p2)) none p3) p4, .Constant (.int 0) k2 p5] fm sE = some ([.ref 0, .int 0], sO1) := by
    rw [evs_cons]
    dsimp only
    rw [e1]
    dsimp only
    rw [evs_cons]
    dsimp only
    rw [e2]
    rfl
  unfold stepEv
  dsimp only
  rw [e3]
  rfl
end
section
variable {prog : Program} {w : World} {ns : List Int} {B : Heap} {s : Shared} {A : Around}
theorem law_ok (F : Fx prog w (betaOf (ns.take 16)) (ns.take 16) B (tabs w.params)) (bud : Bud A 113) {x : Addr} {vs : List Value} (hx : B.IsList x vs.toArray) (hi : IntsAre vs ns) (hn : ns.length ≤ 63) (hB : ∀ b o, B.get? b = some o → s.heap.get? b = some o) {R : Result → Shared → Prop}
    (q : ∀ h' tk, (∀ b o, B.get? b = some o → h'.get? b = some o) → R (.ok (.ret (.bool true))) { s with heap := h', toks := tk }) : codeAny (model prog w) A (.call (.ref 663) ⟨[.ref x], []⟩) R s := by
  obtain ⟨p1, p2, p3, p4, p5, p6, p7, p8, p9, q1, k1, k2, th, hb⟩ := law_body
  obtain ⟨e1, e2⟩ := law_args w.params x
  have W := law_scope w.params
  have hK := law_K w.params
  have FN := bads_ok (tabs_bads w.params) hK
  have I0 : Inv prog w (betaOf (ns.take 16)) (ns.take 16) B sE [] s.heap := ⟨rfl, .nil, (fun _ h => (nomatch h)), (fun _ h => (nomatch h)), (fun _ _ h => (nomatch h)), hB, (fun _ _ _ h => (nomatch h))⟩
  have hT := law_test w.params x (manyOf (ns.take 16))
  obtain ⟨σR, hR⟩ := isT_spec (law_ret w.params x (manyOf (ns.take 16) + 7))
  generalize fdL = fd at *
  refine call_fn (n := 112) F.T.G bud I0 hK FN hb e1 e2 (.cons rfl .nil) fun h₁ tk₁ F1 I1 X1 hnew bud' {E} => ?_
  have hs : (callEnvC fd s.heap.objs.size 663).scope = fd.scope := rfl
  have C1 : Cx prog w (betaOf (ns.take 16)) (ns.take 16) B 112 (A.deeper (callEnvC fd s.heap.objs.size 663)) (callEnvC fd s.heap.objs.size 663) (fm0 x) sE [] { s with heap := h₁, toks := tk₁ } := ⟨bud', F1, I1⟩
  refine wpAny_execs_cons (assign_plain rfl (by intros; intro h; cases h) (by intros; intro h; cases h) rfl ?_)
  refine cup_ok hx hi hn F.T.G (W.script x) rfl C1 fun vc h2 tk2 ρ2 rc I2 X2 => ?_
  have C2 := C1.step I2 X2 tk2
  have kc : (callEnvC fd s.heap.objs.size 663).kindOf "cup" = some .local := by rw [← sget_kindOf]; exact W.cup
  refine wpAny_assign_Name (FrOk.store (s := { s with heap := h2, toks := tk2 }) C2.fr I2 rc (.inl kc) fun h3 tk3 I3 F3 X3 => ?_)
  have C3 : Cx prog w (betaOf (ns.take 16)) (ns.take 16) B 112 (A.deeper (callEnvC fd s.heap.objs.size 663)) (callEnvC fd s.heap.objs.size 663) (fm1 x) (sD 0 []) ρ2 { s with heap := h3, toks := tk3 } := ⟨bud', F3, I3⟩
  refine wpAny_execs_cons (wpAny_If ((all_P3 F).ts C3 hT fun h4 tk4 ρ4 I4 X4 => ?_))
  rw [if_neg (by decide)]
  refine wpAny_execs_nil ?_
  have C4 := C3.step I4 X4 tk4
  have H60 : All prog w (betaOf (ns.take 16)) (ns.take 16) B (tabs w.params) (run (tabs w.params) 60) 68 := all_run F 60
  refine wpAny_execs_cons (wpAny_Return_some (H60.ev (C4.less (by omega)) hR fun val h5 tk5 ρ5 rv I5 X5 => ?_))
  cases rv
  exact q h5 tk5 I5.keep
end
end Mine
end

open PySem PySem.W PyProof.Rows PySem.Calls
namespace Mine
noncomputable def lawB (P : Params) : Bool := match nget (kk P) 3 with
  | some ⟨_, _, .dict es _, _⟩ => (match efind es.toList "law" with | some (.ref a) => Nat.beq a 663 | _ => false)
  | _ => false
theorem law_at {P : Params} {B : Heap} {mg : Str → Option Value} (X : (kk P).In B) (g : B.Ns mainGlobals mg) : mg "law" = some (.ref 663) := by
  have h : lawB P = true := by kernel_rfl
  unfold lawB at h
  split at h
  · rename_i c d es ep sl hK
    split at h
    · rename_i a ha
      rw [Nat.eq_of_beq_eq_true h] at ha
      rw [nget_lookup] at hK
      obtain ⟨o, es', ep', ho, hd, _, hf⟩ := g
      have := X _ _ hK
      rw [show (3 : Nat) = mainGlobals from rfl, ho] at this
      cases this
      cases hd
      rw [← hf, ← ha, efind_eq]
      unfold nsFind findBy
      rw [← Array.find?_toList]
    · cases h
  · cases h
theorem ok0 : (chainsOk qv && opensWell pg && (frees PySem.Challenge.rw_rh0166_01.row.toRowW && PySem.Challenge.rw_rh0166_01.row.within.isEmpty)) = true := by kernel_rfl
theorem bud0 : Bud callerA 113 := ⟨rfl, by decide, by decide⟩
end Mine
theorem PySem.Challenge.cw_rh0166_01_holds : PySem.Challenge.rw_rh0166_01.Holds := by
  refine holds_law Mine.said0 fun said => ?_
  refine holds_open (q := Mine.qv) (loose := Mine.loose) (Xt := Mine.XtQ) (XP := XL Mine.qv []) (Yf := Mine.HK.obs) (Ya := Mine.HK.val) (YP := Mine.HK.says) (N := 5100) Mine.left0 Mine.HK.of Mine.HK.keeps (fun s e => xl_of s (Bool.and_eq_true_iff.mp e).1) XL.keeps (by rfl) (by rfl) (by rfl) (fun s e => recFacts_of (Bool.and_eq_true_iff.mp e).2) (by rfl) said Mine.ok0 ⟨rfl, rfl, rfl, rfl, rfl, Mine.tables0⟩ ?hw ?hc
  case hw => w_witness2
  case hc =>
    intro w s₀ s₁ mg mb G Y fa o pm cd doc dV kV ho hd hcd hD hmg hg args vals as hpre hlay hrd hwl hlo
    clear ho hd hcd hD
    have KX := kIn_of Y
    have T := G.T
    clear G Y
    have hfa := Mine.law_at KX T.g
    replace hmg : mg "law" = some (.ref fa) := hmg
    rw [hfa] at hmg
    cases hmg
    wrow_args hpre hlay hrd hwl hlo
    rename_i ns hs0 h1 h2 h3 h4 l1 l2 x vs l3 hL ra w1 r0 hI hr hlen htr
    refine enter_call ?_
    have hn : ns.length ≤ 63 := by omega
    have F : Mine.Fx PySem.Challenge.rw_rh0166_01.row.prog w (Mine.betaOf (ns.take 16)) (ns.take 16) s₁.heap (Mine.tabs w.params) :=
      Mine.fx_ok KX T.nolimit ⟨mg, T.g⟩ ⟨mb, T.b, T.builtins⟩ (by simp; omega)
    refine Mine.law_ok F Mine.bud0 hL hI hn (fun b o e => e) fun h' tk keep => ?_
    have hp : PySem.Challenge.rw_rh0166_01.row.claim.post [ofPy (PyData.list (List.map PyData.int ns))] (.bool true) [ofPy (PyData.list (List.map PyData.int ns))] = true := by wrow_post
    exact GoodW.toG ⟨.inl ⟨.bool true, .bool true, [], rfl, raisesW_false (by wrow_none_raised), .bool true, hp, unshared_nil⟩, keep, rfl, hg⟩
