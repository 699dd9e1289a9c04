import PyProof.Rows.All
import Wide.All
import OpenK.AllK
import PyProof.Rows.Chain
import KE.KDictLaws
import KE.LcSums
import PyProof.CompFree
import PyProof.WalksMore
import PyProof.StrWalks
import PyProof.Rows.Range3
import KE.KRevIter
import PyProof.ZipIter
import OpenK.KCls
import PyProof.Rows.Nodes
import KE.KSuper
import KE.LcTurns
import PyProof.Rows.SeqSliceW
import Lean
import PySem.Challenge.RW_rg0219_01

set_option Elab.async false
namespace Mine
open PySem

/-! ## our own interpreter over the text's trees: abstract values, abstract heap -/

noncomputable def codeL : List Nat → Nat
  | [] => 1
  | c :: r => match Nat.ble 1 (codeL r) && Nat.blt c 256 with
    | true => Nat.add c (Nat.mul 256 (codeL r))
    | false => 0
noncomputable def nm (x : Str) : Nat := codeL x.cps.toList
noncomputable def nmS (x : String) : Nat := nm (Str.ofString x)

inductive AV where
  | none
  | bool (b : Bool)
  | int (i : Int)
  | isym (k : Nat)
  | str (cs : List Nat)
  | ssym (k : Nat)
  | strU
  | tup (vs : List AV)
  | loc (i : Nat)
  | fn (k : Nat)
  | cls (k : Nat)
  | bi (k : Nat)
  | ext (k : Nat)
  | any
  deriving Inhabited

noncomputable def strF : Nat → List Nat → Bool
  | 0, _ => false
  | f + 1, l => match l with
    | [] => true
    | c :: r => match Nat.blt c 1114112 with | true => strF f r | false => false
/-- a str's signs, few enough -/
noncomputable def strB (cs : List Nat) : Bool := strF 100000 cs
noncomputable def mkS (cs : List Nat) : Option AV := match strB cs with | true => some (.str cs) | false => Option.none
noncomputable def short {α : Type} : Nat → List α → Bool
  | 0, _ => false
  | f + 1, l => match l with
    | [] => true
    | _ :: r => short f r
inductive AO where
  | list (vs : List AV)
  | dict (kvs : List (AV × AV))
  | inst (c : Nat) (fs : List (Nat × AV))
  deriving Inhabited

structure H where
  nx : Nat
  os : List (Nat × AO)
  deriving Inhabited

noncomputable abbrev L := List (Nat × AV)

noncomputable def look {α : Type} (k : Nat) (l : List (Nat × α)) : Option α := List.rec (motive := fun _ => Option α) Option.none (fun p _ ih => Bool.rec ih (some p.2) (Nat.beq p.1 k)) l
noncomputable def put {α : Type} (k : Nat) (v : α) (l : List (Nat × α)) : List (Nat × α) := List.rec (motive := fun _ => List (Nat × α)) [(k, v)] (fun p r ih => Bool.rec (p :: ih) ((p.1, v) :: r) (Nat.beq p.1 k)) l
noncomputable def H.get (h : H) (i : Nat) : Option AO := look i h.os
noncomputable def H.set (h : H) (i : Nat) (o : AO) : H := ⟨h.nx, put i o h.os⟩
noncomputable def H.new (h : H) (o : AO) : AV × H := (.loc h.nx, ⟨Nat.succ h.nx, (h.nx, o) :: h.os⟩)
noncomputable def dropTo (k : Nat) : List (Nat × AO) → List (Nat × AO)
  | [] => []
  | p :: r => match Nat.ble k p.1 with | true => dropTo k r | false => p :: dropTo k r
noncomputable def H.newL (h : H) (vs : List AV) : Option (AV × H) := match short 100000 vs with | true => some (h.new (.list vs)) | false => Option.none
noncomputable def H.cut (h : H) (k : Nat) : H := ⟨h.nx, dropTo k h.os⟩

inductive Fl where
  | next | cont
  | ret (v : AV)
  deriving Inhabited

set_option genInjectivity false in
structure Fn where
  params : List Nat
  body : List Stmt
  scope : Scope
  gc : Bool

set_option genInjectivity false in
structure Cfg where
  gl : List (Nat × AV)
  fns : List Fn
  mth : Nat → List (Nat × Nat)
  atr : Nat → List Nat
  ini : Nat → Option Nat
  sup : Nat → Option (Nat × Nat)
  hbin : Operator → AV → AV → Option AV
  hcmp : CmpOp → AV → AV → Option Bool
  hsub : AV → AV → Option AV
  hfmt : AV → Option AV
  hcall : Nat → List AV → H → Option (AV × H)

noncomputable def nth {α : Type} : List α → Nat → Option α
  | [], _ => Option.none
  | x :: r, n => match n with | 0 => some x | n + 1 => nth r n
noncomputable def len {α : Type} : List α → Nat
  | [] => 0
  | _ :: r => Nat.succ (len r)

noncomputable def deps (f : AV → Bool) : List AV → Bool
  | [] => true
  | v :: r => match f v with | true => deps f r | false => false
/-- how deep tuples lie in tuples -/
noncomputable def dep : Nat → AV → Bool
  | 0, _ => false
  | n + 1, v => match v with
    | .tup vs => deps (dep n) vs
    | _ => true
noncomputable def mkTup (vs : List AV) : Option AV := match dep 8 (.tup vs) && short 100000 vs with | true => some (.tup vs) | false => Option.none
/-- a longer list, as long as it stays short -/
noncomputable def snoc {α : Type} (x : α) : Nat → List α → Option (List α)
  | 0, _ => Option.none
  | f + 1, l => match l with
    | [] => some [x]
    | a :: r => match snoc x f r with | some q => some (a :: q) | Option.none => Option.none
noncomputable def ibeq (a b : Int) : Bool := match a, b with
  | .ofNat m, .ofNat n => Nat.beq m n
  | .negSucc m, .negSucc n => Nat.beq m n
  | _, _ => false
noncomputable def strBeq : List Nat → List Nat → Bool
  | [], [] => true
  | a :: r, b :: t => match Nat.beq a b with | true => strBeq r t | false => false
  | _, _ => false

/-- plain data, all through -/
noncomputable def isD : Nat → AV → Bool
  | 0, _ => false
  | n + 1, v => match v with
    | .bool _ | .int _ | .isym _ | .str _ => true
    | .tup vs => deps (isD n) vs
    | _ => false
noncomputable def eqvL (f : AV → AV → Option Bool) : List AV → List AV → Option Bool
  | [], [] => some true
  | a :: r, b :: t => match f a b with
    | some true => eqvL f r t
    | some false => (match deps (isD 8) r && deps (isD 8) t with | true => some false | false => Option.none)
    | Option.none => Option.none
  | [], b :: t => (match deps (isD 8) (b :: t) with | true => some false | false => Option.none)
  | a :: r, [] => (match deps (isD 8) (a :: r) with | true => some false | false => Option.none)

section
variable (C : Cfg)

/-- == of two values; none: not decided here -/
noncomputable def eqv : Nat → AV → AV → Option Bool
  | 0, _, _ => Option.none
  | n + 1, a, b => match a with
    | .bool x => match b with
      | .bool y => some (x == y)
      | .tup vs => (match deps (isD 7) vs with | true => some false | false => Option.none)
      | _ => Option.none
    | .int x => match b with
      | .int y => some (ibeq x y)
      | .str _ => some false
      | _ => Option.none
    | .isym i => match b with
      | .isym j => (match Nat.beq i j with | true => some true | false => C.hcmp .Eq (.isym i) (.isym j))
      | .int y => C.hcmp .Eq (.isym i) (.int y)
      | _ => Option.none
    | .str x => match b with
      | .str y => some (strBeq x y)
      | _ => Option.none
    | .ssym i => match b with
      | .ssym j => (match Nat.beq i j with | true => some true | false => Option.none)
      | _ => Option.none
    | .tup x => match b with
      | .tup y => eqvL (eqv n) x y
      | _ => Option.none
    | _ => Option.none

noncomputable def eqD (a b : AV) : Option Bool := eqv C 8 a b

/-- data that a dict may have as keys, all through -/
noncomputable def goodB : Nat → AV → Bool
  | 0, _ => false
  | n + 1, v => match v with
    | .bool _ | .int _ | .isym _ | .str _ => true
    | .tup vs => deps (goodB n) vs
    | _ => false
/-- keys' kinds: ints, tuples -/
noncomputable def kk : AV → Nat
  | .int _ | .isym _ => 1
  | .tup _ => 2
  | _ => 0
noncomputable def dfindG (c : Nat) (k : AV) : List (AV × AV) → Option (Option AV)
  | [] => some Option.none
  | p :: r => match Nat.beq (kk p.1) c with
    | true => (match eqD C p.1 k with
      | some true => some (some p.2)
      | some false => dfindG c k r
      | Option.none => Option.none)
    | false => Option.none
noncomputable def keyOk (k : AV) : Bool := match k with
  | .int _ | .isym _ => true
  | .tup _ => goodB 8 k
  | _ => false
noncomputable def dfind (k : AV) (l : List (AV × AV)) : Option (Option AV) := match keyOk k with | true => dfindG C (kk k) k l | false => Option.none
/-- a dict with ints as keys -/
noncomputable def dfindI (k : AV) (l : List (AV × AV)) : Option (Option AV) := match Nat.beq (kk k) 1 with | true => dfindG C 1 k l | false => Option.none
noncomputable def truthy : AV → Option Bool
  | .bool b => some b
  | _ => Option.none

/-- items of a list or a tuple -/
noncomputable def items (h : H) : AV → Option (List AV)
  | .tup vs => some vs
  | .loc i => match h.get i with
    | some (.list vs) => some vs
    | _ => Option.none
  | _ => Option.none

noncomputable def idx (i : Int) (n : Nat) : Option Nat := match i with
  | .ofNat k => match Nat.blt k n && Nat.blt k 1152921504606846976 with | true => some k | false => Option.none
  | .negSucc _ => Option.none

noncomputable def memL (k : AV) : List AV → Option Bool
  | [] => (match isD 8 k with | true => some false | false => Option.none)
  | v :: r => match eqD C v k with
    | some true => (match deps (isD 8) r with | true => some true | false => Option.none)
    | some false => memL k r
    | Option.none => Option.none

noncomputable def strIn (x y : List Nat) : Bool := !(Builtin.Str.occurrences ⟨y.toArray⟩ ⟨x.toArray⟩ 0 (⟨y.toArray⟩ : Str).length 1).isEmpty

noncomputable def digits (n : Nat) : List Nat := (Str.ofString (toString (Int.ofNat n))).cps.toList
noncomputable def fmtV : AV → Option AV
  | .str cs => some (.str cs)
  | .int (.ofNat n) => (match Nat.blt n 1000000 with | true => mkS (digits n) | false => Option.none)
  | .isym k => C.hfmt (.isym k)
  | _ => Option.none
noncomputable def flat : List AV → Option (List Nat)
  | [] => some []
  | v :: r => match v with
    | .str a => (match flat r with | some b => some (a ++ b) | Option.none => Option.none)
    | _ => Option.none
noncomputable def catS (l : List AV) : Option AV := match flat l with
  | some cs => mkS cs
  | Option.none => some .strU
noncomputable def textsOf : List AV → Option (List Str)
  | [] => some []
  | v :: r => match v, textsOf r with
    | .str a, some b => some (⟨a.toArray⟩ :: b)
    | _, _ => Option.none
noncomputable def joinS (sep : List Nat) (vs : List AV) : Option (List Nat) := match short 150 sep && short 150 vs with
  | true => (match textsOf vs with
    | some ts => some (Txt.join ⟨sep.toArray⟩ ts).cps.toList
    | Option.none => Option.none)
  | false => Option.none

noncomputable def rep {α : Type} (x : List α) : Nat → List α
  | 0 => []
  | n + 1 => x ++ rep x n
noncomputable def rev {α : Type} : List α → List α → List α
  | [], y => y
  | x :: r, y => rev r (x :: y)
noncomputable def take {α : Type} : Nat → List α → List α
  | 0, _ => []
  | _ + 1, [] => []
  | n + 1, x :: r => x :: take n r
noncomputable def drop {α : Type} : Nat → List α → List α
  | 0, l => l
  | _ + 1, [] => []
  | n + 1, _ :: r => drop n r

noncomputable def binI (op : Operator) (a b : Int) : Option Int := match op with
  | .Add => some (a + b)
  | .Sub => some (a - b)
  | .Mult => (match Nat.blt (Int.natAbs a) 18446744073709551616 with | true => some (a * b) | false => Option.none)
  | .Mod => (match ibeq b 0 with | true => Option.none | false => some (Int.fmod a b))
  | .LShift => (match a, b with | .ofNat m, .ofNat n => (match Nat.blt n 200 && Nat.blt m 18446744073709551616 with | true => some (.ofNat (Nat.shiftLeft m n)) | false => Option.none) | _, _ => Option.none)
  | .RShift => (match a, b with | .ofNat m, .ofNat n => some (.ofNat (Nat.shiftRight m n)) | _, _ => Option.none)
  | .BitAnd => (match a, b with | .ofNat m, .ofNat n => some (.ofNat (Nat.land m n)) | _, _ => Option.none)
  | .BitOr => (match a, b with | .ofNat m, .ofNat n => some (.ofNat (Nat.lor m n)) | _, _ => Option.none)
  | _ => Option.none

noncomputable def bin (op : Operator) (a b : AV) (h : H) : Option (AV × H) := match a with
  | .int x => match b with
    | .int y => (match binI op x y with | some z => some (.int z, h) | Option.none => Option.none)
    | b => (match C.hbin op (.int x) b with | some v => some (v, h) | Option.none => Option.none)
  | .str x => match b with
    | .str y => (match op with | .Add => (match mkS (x ++ y) with | some v => some (v, h) | Option.none => Option.none) | _ => Option.none)
    | b => (match C.hbin op (.str x) b with | some v => some (v, h) | Option.none => Option.none)
  | .loc i => match op with
    | .Add => (match h.get i with
      | some (.list x) => (match b with
        | .loc j => (match h.get j with | some (.list y) => h.newL (x ++ y) | _ => Option.none)
        | _ => Option.none)
      | _ => Option.none)
    | .Mult => (match h.get i with
      | some (.list x) => (match b with
        | .int (.ofNat n) => (match Nat.blt n 2000 with | true => h.newL (rep x n) | false => Option.none)
        | _ => Option.none)
      | _ => Option.none)
    | _ => Option.none
  | a => (match C.hbin op a b with | some v => some (v, h) | Option.none => Option.none)

noncomputable def ile (a b : Int) : Bool := match a, b with
  | .ofNat m, .ofNat n => Nat.ble m n
  | .negSucc m, .negSucc n => Nat.ble n m
  | .negSucc _, .ofNat _ => true
  | .ofNat _, .negSucc _ => false

/-- == on values that may be lists -/
noncomputable def eqO (h : H) (a b : AV) : Option Bool := match a with
  | .loc i => match b with
    | .loc j => (match h.get i with
      | some (.list x) => (match h.get j with | some (.list y) => eqvL (eqD C) x y | _ => Option.none)
      | _ => Option.none)
    | _ => Option.none
  | a => eqD C a b

noncomputable def inV (h : H) (k c : AV) : Option Bool := match c with
  | .tup vs => memL C k vs
  | .str y => (match k with | .str x => some (strIn x y) | _ => Option.none)
  | .loc i => (match h.get i with
    | some (.dict kvs) => (match dfindI C k kvs with | some (some _) => some true | some Option.none => some false | Option.none => Option.none)
    | _ => Option.none)
  | _ => Option.none

noncomputable def cmpV (op : CmpOp) (a b : AV) (h : H) : Option Bool := match op with
  | .Eq => eqO C h a b
  | .NotEq => (match eqO C h a b with | some r => some (!r) | Option.none => Option.none)
  | .In => inV C h a b
  | .NotIn => (match inV C h a b with | some r => some (!r) | Option.none => Option.none)
  | .Lt => (match a, b with | .int x, .int y => some (!(ile y x)) | a, b => C.hcmp .Lt a b)
  | .Gt => (match a, b with | .int x, .int y => some (!(ile x y)) | a, b => C.hcmp .Gt a b)
  | .GtE => (match a, b with | .int x, .int y => some (ile y x) | a, b => C.hcmp .GtE a b)
  | .Is => (match b with
    | .none => (match a with | .bool _ => some false | _ => Option.none)
    | _ => Option.none)
  | _ => Option.none

noncomputable def sub (o i : AV) (h : H) : Option AV := match o with
  | .tup vs => (match i with
    | .int k => (match idx k (len vs) with | some n => nth vs n | Option.none => Option.none)
    | i => C.hsub (.tup vs) i)
  | .str cs => (match i with
    | .int k => (match idx k (len cs) with | some n => (match nth cs n with | some c => mkS [c] | Option.none => Option.none) | Option.none => Option.none)
    | _ => Option.none)
  | .loc j => (match h.get j with
    | some (.list vs) => (match i with
      | .int k => (match idx k (len vs) with | some n => nth vs n | Option.none => Option.none)
      | _ => Option.none)
    | some (.dict kvs) => (match dfindI C i kvs with | some (some v) => some v | _ => Option.none)
    | _ => Option.none)
  | _ => Option.none

noncomputable def boolsOf : List AV → Option (List Bool)
  | [] => some []
  | v :: r => match v, boolsOf r with
    | .bool b, some q => some (b :: q)
    | _, _ => Option.none

noncomputable def lenV (h : H) : AV → Option Nat
  | .tup vs => some (len vs)
  | .str cs => some (len cs)
  | .loc i => match h.get i with
    | some (.list vs) => some (len vs)
    | _ => Option.none
  | _ => Option.none

/-- built-in functions: 0 len 1 min 2 max 3 abs 4 str 5 int 6 list 7 tuple 8 isinstance 9 all 10 any 11 bool -/
noncomputable def builtin (k : Nat) (as : List AV) (h : H) : Option (AV × H) := match k with
  | 0 => (match as with | [v] => (match lenV h v with | some n => (match Nat.blt n 1152921504606846976 with | true => some (.int (.ofNat n), h) | false => Option.none) | Option.none => Option.none) | _ => Option.none)
  | 1 => (match as with | [.int a, .int b] => some (.int (match ile a b with | true => a | false => b), h) | _ => Option.none)
  | 2 => (match as with | [.int a, .int b] => some (.int (match ile b a with | true => a | false => b), h) | _ => Option.none)
  | 3 => (match as with | [.int a] => some (.int (.ofNat (Int.natAbs a)), h) | _ => Option.none)
  | 4 => (match as with | [.int i] => (match fmtV C (.int i) with | some s => some (s, h) | Option.none => Option.none) | _ => Option.none)
  | 7 => (match as with | [v] => (match items h v with | some vs => (match mkTup vs with | some t => some (t, h) | Option.none => Option.none) | Option.none => Option.none) | _ => Option.none)
  | 8 => (match as with
    | [v, .bi 11] => (match v with
      | .bool _ => some (.bool true, h)
      | .tup _ => some (.bool false, h)
      | _ => Option.none)
    | _ => Option.none)
  | 9 => (match as with | [.loc i] => (match h.get i with | some (.list vs) => (match boolsOf vs with | some bs => some (.bool (bs.all id), h) | Option.none => Option.none) | _ => Option.none) | _ => Option.none)
  | 10 => (match as with | [.loc i] => (match h.get i with | some (.list vs) => (match boolsOf vs with | some bs => some (.bool (bs.any id), h) | Option.none => Option.none) | _ => Option.none) | _ => Option.none)
  | _ => Option.none

noncomputable def lastOf : List AV → Option (List AV × AV)
  | [] => Option.none
  | v :: r => match r with
    | [] => some ([], v)
    | _ :: _ => match lastOf r with | some (q, w) => some (v :: q, w) | Option.none => Option.none

/-- whose method: a function of the class, a built-in kind's (0 list, 1 dict, 2 str) -/
inductive MT where
  | user (k : Nat)
  | bl (k : Nat)
/-- methods of the built-in kinds -/
noncomputable def mList (i : Nat) (vs : List AV) (name : Nat) (as : List AV) (h : H) : Option (AV × H) := match Nat.beq name (nmS "append") with
  | true => (match as with | [x] => (match snoc x 100000 vs with | some q => some (.none, h.set i (.list q)) | Option.none => Option.none) | _ => Option.none)
  | false => (match Nat.beq name (nmS "pop") with
    | true => (match as with | [] => (match lastOf vs with | some (q, w) => some (w, h.set i (.list q)) | Option.none => Option.none) | _ => Option.none)
    | false => Option.none)
noncomputable def mDict (i : Nat) (kvs : List (AV × AV)) (name : Nat) (as : List AV) (h : H) : Option (AV × H) := match as with
  | [k, d] => (match Nat.beq name (nmS "get") with
    | true => (match dfind C k kvs with | some (some w) => some (w, h) | some Option.none => some (d, h) | Option.none => Option.none)
    | false => (match Nat.beq name (nmS "setdefault") with
      | true => (match dfind C k kvs with
        | some (some _) => Option.none
        | some Option.none => (match snoc (k, d) 100000 kvs with | some q => some (d, h.set i (.dict q)) | Option.none => Option.none)
        | Option.none => Option.none)
      | false => Option.none))
  | _ => Option.none
noncomputable def mStr (cs : List Nat) (name : Nat) (as : List AV) (h : H) : Option (AV × H) := match Nat.beq name (nmS "join") with
  | true => (match as with
    | [.loc j] => (match h.get j with
      | some (.list vs) => (match joinS cs vs with | some r => (match mkS r with | some v => some (v, h) | Option.none => Option.none) | Option.none => Option.none)
      | _ => Option.none)
    | _ => Option.none)
  | false => (match Nat.beq name (nmS "startswith") with
    | true => (match as with | [.str p] => some (.bool (Txt.startswith ⟨cs.toArray⟩ ⟨p.toArray⟩), h) | _ => Option.none)
    | false => Option.none)
noncomputable def bmeth (kd : Nat) (v : AV) (name : Nat) (as : List AV) (h : H) : Option (AV × H) := match v with
  | .loc i => (match h.get i with
    | some (.list vs) => (match Nat.beq kd 0 with | true => mList i vs name as h | false => Option.none)
    | some (.dict kvs) => (match Nat.beq kd 1 with | true => mDict C i kvs name as h | false => Option.none)
    | _ => Option.none)
  | .str cs => (match Nat.beq kd 2 with | true => mStr cs name as h | false => Option.none)
  | _ => Option.none

/-- what a loop runs over -/
inductive Src where
  | seq (v : AV)
  | rng (a : Int) (n : Nat) (st : Int)
  | zip (a b : AV)
  | rev (vs : List AV)

noncomputable def itemOf (h : H) (v : AV) (n : Nat) : Option (Option AV) := match v with
  | .str cs => (match nth cs n with | some c => (match mkS [c] with | some v => some (some v) | Option.none => Option.none) | Option.none => some Option.none)
  | v => match items h v with
    | some vs => some (nth vs n)
    | Option.none => Option.none
noncomputable def Src.item (h : H) (n : Nat) : Src → Option (Option AV)
  | .seq v => itemOf h v n
  | .rng a m st => some (match Nat.blt n m with | true => some (.int (a + st * .ofNat n)) | false => Option.none)
  | .zip a b => match itemOf h a n with
    | some (some x) => (match itemOf h b n with
      | some (some y) => (match mkTup [x, y] with | some t => some (some t) | Option.none => Option.none)
      | some Option.none => Option.none
      | Option.none => Option.none)
    | some Option.none => some Option.none
    | Option.none => Option.none
  | .rev vs => some (match Nat.blt n (len vs) with | true => nth vs (Nat.sub (len vs) (Nat.succ n)) | false => Option.none)

set_option genInjectivity false in
/-- records of the recursive parts -/
structure R where
  ev : Scope → Expr → L → H → Option (AV × H)
  tr : Scope → Expr → L → H → Option (Bool × H)
  ex : Scope → List Stmt → L → H → Option (Fl × L × H)
  wh : Scope → Expr → List Stmt → L → H → Option (Fl × L × H)
  cl : Nat → List AV → H → Option (AV × H)

/-- an expression as the interpreter looks at it: worked out once for each place of the text -/
inductive V where
  | const (c : Const)
  | name (x : Str)
  | bool (op : BoolOp) (vs : List Expr)
  | bin (a : Expr) (op : Operator) (b : Expr)
  | un (op : UnaryOp) (a : Expr)
  | ifx (t a b : Expr)
  | cmp (a : Expr) (ops : List CmpOp) (bs : List Expr)
  | call (f : Expr) (as : List Expr) (ks : List Keyword) (p : Pos)
  | attr (o : Expr) (n : Str) (p : Pos)
  | sub (o i : Expr)
  | slice (lo hi st : Option Expr)
  | tup (es : List Expr)
  | list (es : List Expr)
  | dict (ks : List (Option Expr))
  | comp (elt : Expr) (gens : List Comprehension) (csc : Scope)
  | join (vs : List Expr)
  | other
noncomputable def vw (e : Expr) : V := match e with
  | .Constant c _ _ => .const c
  | .Name x _ => .name x
  | .BoolOp op vs _ => .bool op vs
  | .BinOp a op b _ => .bin a op b
  | .UnaryOp op a _ => .un op a
  | .IfExp t a b _ => .ifx t a b
  | .Compare a ops bs _ => .cmp a ops bs
  | .Call f as ks p => .call f as ks p
  | .Attribute o n p => .attr o n p
  | .Subscript o i _ => .sub o i
  | .Slice lo hi st _ => .slice lo hi st
  | .Tuple es _ _ => .tup es
  | .List es _ => .list es
  | .Dict ks _ _ => .dict ks
  | .ListComp elt gens csc _ => .comp elt gens csc
  | .JoinedStr vs _ => .join vs
  | _ => .other

variable (r : R)

noncomputable def notStar : Expr → Bool
  | .Starred _ _ => false
  | _ => true
noncomputable def notSet : Expr → Bool
  | .Set _ _ _ => false
  | _ => true
noncomputable def notSup : Expr → Bool
  | .Call (.Name _ _) [] [] _ => false
  | _ => true
noncomputable def notComp : Expr → Bool
  | .ListComp _ _ _ _ => false
  | .SetComp _ _ _ _ => false
  | .DictComp _ _ _ _ _ => false
  | _ => true
noncomputable def notConst : Expr → Bool
  | .Tuple vs _ _ => !(vs.all (constantsAlone 8))
  | _ => true
noncomputable def evs (sc : Scope) : List Expr → L → H → Option (List AV × H)
  | [], _, h => some ([], h)
  | e :: t, l, h => match notStar e with
    | true => (match r.ev sc e l h with
      | some (v, h1) => (match evs sc t l h1 with | some (vs, h2) => some (v :: vs, h2) | Option.none => Option.none)
      | Option.none => Option.none)
    | false => Option.none
noncomputable def evo (sc : Scope) : Option Expr → L → H → Option (AV × H)
  | Option.none, _, h => some (.none, h)
  | some e, l, h => r.ev sc e l h

noncomputable def okName (x : Str) : Bool := Nat.blt 0 (nm x) && !(Nat.beq (nm x) (nmS "__debug__")) && !(Nat.beq (nm x) (nmS "__classdict__"))
noncomputable def isLocal (sc : Scope) (x : Str) : Bool := match sc.names.lookup x with
  | some .local => okName x
  | some .cell => okName x
  | _ => false
noncomputable def isGlobal (sc : Scope) (x : Str) : Bool := match sc.names.lookup x with
  | some .globalImplicit => true
  | _ => false

noncomputable def nameOf (e : Expr) : Option Str := match vw e with
  | .name x => some x
  | _ => Option.none
/-- a target's names -/
inductive Tg where
  | one (x : Str)
  | two (x y : Str)
  | three (x y z : Str)
  | other
noncomputable def tgs2 (x y : Str) (es : List Expr) : Tg := match es with
  | [] => .two x y
  | c :: es => (match nameOf c with
    | some z => (match es with | [] => .three x y z | _ :: _ => .other)
    | Option.none => .other)
noncomputable def tgs1 (x : Str) (es : List Expr) : Tg := match es with
  | [] => .other
  | b :: es => (match nameOf b with
    | some y => tgs2 x y es
    | Option.none => .other)
noncomputable def tgs (es : List Expr) : Tg := match es with
  | [] => .other
  | a :: es => (match nameOf a with
    | some x => tgs1 x es
    | Option.none => .other)
noncomputable def tgOf (t : Expr) : Tg := match vw t with
  | .name x => .one x
  | .tup es => tgs es
  | _ => .other
noncomputable def bind1 (sc : Scope) (x : Str) (v : AV) (l : L) : Option L := match isLocal sc x with | true => some (put (nm x) v l) | false => Option.none
noncomputable def bindT2 (sc : Scope) (x y : Str) (v : AV) (l : L) : Option L := match v with
  | .tup [a, b] => (match isLocal sc x && isLocal sc y with | true => some (put (nm y) b (put (nm x) a l)) | false => Option.none)
  | _ => Option.none
noncomputable def bindT3 (sc : Scope) (x y z : Str) (v : AV) (l : L) : Option L := match v with
  | .tup [a, b, c] => (match isLocal sc x && isLocal sc y && isLocal sc z with | true => some (put (nm z) c (put (nm y) b (put (nm x) a l))) | false => Option.none)
  | _ => Option.none
noncomputable def bindG (sc : Scope) (g : Tg) (v : AV) (l : L) : Option L := match g with
  | .one x => bind1 sc x v l
  | .two x y => bindT2 sc x y v l
  | .three x y z => bindT3 sc x y z v l
  | .other => Option.none
noncomputable def bindT (sc : Scope) (t : Expr) (v : AV) (l : L) : Option L := bindG sc (tgOf t) v l

noncomputable def callV (f : AV) (as : List AV) (h : H) : Option (AV × H) := match f with
  | .fn k => (match nth C.fns k with | some _ => r.cl k as h | Option.none => Option.none)
  | .bi k => builtin C k as h
  | .cls c => (match h.new (.inst c []) with
    | (.loc i, h1) => (match C.ini c with
      | some k => (match r.cl k (.loc i :: as) h1 with
        | some (.none, h2) => some (.loc i, h2)
        | _ => Option.none)
      | Option.none => Option.none)
    | _ => Option.none)
  | _ => Option.none

noncomputable def methR (v : AV) (name : Nat) (h : H) : Option MT := match v with
  | .loc i => (match h.get i with
    | some (.inst c fs) => (match look name fs with
      | some _ => Option.none
      | Option.none => (match look name (C.mth c) with
        | some k => some (.user k)
        | Option.none => Option.none))
    | some (.list _) => some (.bl 0)
    | some (.dict _) => some (.bl 1)
    | Option.none => Option.none)
  | .str _ => some (.bl 2)
  | _ => Option.none
noncomputable def methV (m : MT) (v : AV) (name : Nat) (as : List AV) (h : H) : Option (AV × H) := match m with
  | .user k => (match nth C.fns k with | some _ => r.cl k (v :: as) h | Option.none => Option.none)
  | .bl kd => bmeth C kd v name as h

noncomputable def memN (k : Nat) : List Nat → Bool
  | [] => false
  | a :: r => match Nat.beq a k with | true => true | false => memN k r
noncomputable def attrV (v : AV) (name : Nat) (h : H) : Option AV := match v with
  | .loc i => (match h.get i with
    | some (.inst c fs) => (match memN name (C.atr c) with | true => look name fs | false => Option.none)
    | _ => Option.none)
  | _ => Option.none

noncomputable def conjV (sc : Scope) : List Expr → L → H → Option (AV × H)
  | [], _, _ => Option.none
  | e :: t, l, h => match t with
    | [] => r.ev sc e l h
    | _ :: _ => match r.ev sc e l h with
      | some (v, h1) => (match truthy v with
        | some true => conjV sc t l h1
        | some false => Option.none
        | Option.none => Option.none)
      | Option.none => Option.none
noncomputable def disjV (sc : Scope) : List Expr → L → H → Option (AV × H)
  | [], _, _ => Option.none
  | e :: t, l, h => match t with
    | [] => r.ev sc e l h
    | _ :: _ => match r.ev sc e l h with
      | some (v, h1) => (match truthy v with
        | some false => disjV sc t l h1
        | some true => some (v, h1)
        | Option.none => Option.none)
      | Option.none => Option.none
noncomputable def conjT (sc : Scope) : List Expr → L → H → Option (Bool × H)
  | [], _, h => some (true, h)
  | e :: t, l, h => match r.tr sc e l h with
    | some (true, h1) => conjT sc t l h1
    | some (false, h1) => some (false, h1)
    | Option.none => Option.none
noncomputable def disjT (sc : Scope) : List Expr → L → H → Option (Bool × H)
  | [], _, h => some (false, h)
  | e :: t, l, h => match r.tr sc e l h with
    | some (false, h1) => disjT sc t l h1
    | some (true, h1) => some (true, h1)
    | Option.none => Option.none

noncomputable def partE (sc : Scope) (e : Expr) (l : L) (h : H) : Option (AV × H) := match e with
  | .Constant (.str x) _ _ => (match strB x.cps.toList with | true => some (AV.str x.cps.toList, h) | false => Option.none)
  | .FormattedValue e conv Option.none _ => (match ibeq conv (-1) with
    | true => (match r.ev sc e l h with
      | some (v, h1) => (match fmtV C v with | some s => some (s, h1) | Option.none => Option.none)
      | Option.none => Option.none)
    | false => Option.none)
  | _ => Option.none
noncomputable def fstrs (sc : Scope) : List Expr → L → H → Option (List AV × H)
  | [], _, h => some ([], h)
  | e :: t, l, h => match partE C r sc e l h with
    | some (v, h1) => (match fstrs sc t l h1 with | some (vs, h2) => some (v :: vs, h2) | Option.none => Option.none)
    | Option.none => Option.none

noncomputable def twoTg : Expr → Bool
  | .Tuple _ _ _ => true
  | _ => false
noncomputable def seqSrc (v : AV) (h : H) : Option (Src × H) := match v with
  | .str cs => some (.seq (.str cs), h)
  | .tup vs => some (.seq (.tup vs), h)
  | .loc i => (match h.get i with | some (.list _) => some (.seq (.loc i), h) | _ => Option.none)
  | _ => Option.none
noncomputable def mkSrc (sc : Scope) (tg e : Expr) (l : L) (h : H) : Option (Src × H) := match e with
  | .Call (.Name f fp) as [] cp => (match Nat.beq (nm f) (nmS "range") && isGlobal sc f with
    | true => (match evs r sc as l h with
      | some ([.int (.ofNat b)], h1) => (match Nat.blt b 1048576 with | true => some (.rng 0 b 1, h1) | false => Option.none)
      | some ([.int (.ofNat a), .int (.negSucc 0), .int (.negSucc 0)], h1) => (match Nat.blt a 1048576 with | true => some (.rng (.ofNat a) (Nat.succ a) (.negSucc 0), h1) | false => Option.none)
      | _ => Option.none)
    | false => (match Nat.beq (nm f) (nmS "zip") && isGlobal sc f with
      | true => (match evs r sc as l h with
        | some ([.loc i, .tup vs], h1) => (match h1.get i, twoTg tg with | some (.list _), true => some (.zip (.loc i) (.tup vs), h1) | _, _ => Option.none)
        | _ => Option.none)
      | false => (match Nat.beq (nm f) (nmS "reversed") && isGlobal sc f with
        | true => (match evs r sc as l h with
          | some ([.tup vs], h1) => (match short 100000 vs with | true => some (.rev vs, h1) | false => Option.none)
          | _ => Option.none)
        | false => (match r.ev sc (.Call (.Name f fp) as [] cp) l h with | some (v, h1) => seqSrc v h1 | Option.none => Option.none))))
  | e => (match notSet e with
    | true => (match r.ev sc e l h with | some (v, h1) => seqSrc v h1 | Option.none => Option.none)
    | false => Option.none)

noncomputable def testAll (sc : Scope) : List Expr → L → H → Option (Bool × H)
  | [], _, h => some (true, h)
  | e :: t, l, h => match r.tr sc e l h with
    | some (true, h1) => testAll sc t l h1
    | some (false, h1) => some (false, h1)
    | Option.none => Option.none

/-- a comprehension's turns: its own names lie in a scope of its own, the frame's others behind it -/
noncomputable def compGo (sc : Scope) (elt tg : Expr) (ifs : List Expr) (s : Src) : Nat → Nat → L → H → Option (List AV × H)
  | 0, _, _, _ => Option.none
  | f + 1, n, l, h => match s.item h n with
    | some (some v) => (match bindT sc tg v l with
      | some l1 => (match testAll r sc ifs l1 h with
        | some (true, h1) => (match r.ev sc elt l1 h1 with
          | some (x, h2) => (match compGo sc elt tg ifs s f (Nat.succ n) l1 h2 with
            | some (xs, h3) => some (x :: xs, h3)
            | Option.none => Option.none)
          | Option.none => Option.none)
        | some (false, h1) => compGo sc elt tg ifs s f (Nat.succ n) l1 h1
        | Option.none => Option.none)
      | Option.none => Option.none)
    | some Option.none => some ([], h)
    | Option.none => Option.none

noncomputable def isLoc : List (Str × NameKind) → Nat → Bool
  | [], _ => false
  | p :: t, c => match p.2 with
    | .local => (match Nat.beq (nm p.1) c with | true => true | false => isLoc t c)
    | _ => isLoc t c
/-- the names at hand but those of the comprehension's own -/
noncomputable def stripL (names : List (Str × NameKind)) : L → L
  | [] => []
  | p :: r => match isLoc names p.1 with | true => stripL names r | false => p :: stripL names r
noncomputable def compOk (sc csc : Scope) : Bool := (match csc.kind with | .function => true | _ => false) && csc.names.all fun p => match p.2 with
  | .cell => false
  | .local => (match csc.names.lookup p.1 with | some .local => true | _ => false)
  | .free => (match sc.names.lookup p.1 with | some .cell => true | some .free => true | _ => false)
  | _ => true
noncomputable def compV (sc : Scope) (elt : Expr) (gens : List Comprehension) (csc : Scope) (l : L) (h : H) : Option (AV × H) := match gens with
  | [⟨tg, it, ifs, asy⟩] => (match compOk sc csc && ibeq asy 0 && notSet it with
    | true => (match mkSrc r sc tg it l h with
      | some (s, h1) => (match compGo r csc elt tg ifs s 4000 0 (stripL csc.names l) h1 with
        | some (xs, h2) => h2.newL xs
        | Option.none => Option.none)
      | Option.none => Option.none)
    | false => Option.none)
  | _ => Option.none

/-- the value of an assignment to names -/
noncomputable def evA (sc : Scope) (e : Expr) (l : L) (h : H) : Option (AV × H) := match vw e with
  | .comp elt gens csc => compV r sc elt gens csc l h
  | _ => (match notComp e with | true => r.ev sc e l h | false => Option.none)

noncomputable def ev.part : AV → Option (Option Int)
  | .none => some Option.none
  | .int i => some (some i)
  | _ => Option.none
noncomputable def ev.sliceV (v a b c : AV) (h : H) : Option (AV × H) := match v with
  | .str cs => (match a with
    | .int i => (match b with
      | .int j => (match c with
        | .none => (match Nat.beq (Builtin.Str.strSliceIndices (some i) (some j) 1 cs.length).length cs.length with
          | true => Option.none
          | false => (match mkS ((Builtin.Str.strSliceIndices (some i) (some j) 1 cs.length).filterMap (fun i => cs[i]?)) with | some v => some (v, h) | Option.none => Option.none))
        | _ => Option.none)
      | _ => Option.none)
    | _ => Option.none)
  | .loc i => (match b with
    | .none => (match ev.part a with
      | some lo => (match ev.part c with
        | some st => (match ibeq (st.getD 1) 0 with
          | true => Option.none
          | false => (match h.get i with
            | some (.list vs) => h.newL ((sliceRange (sliceBounds lo Option.none st vs.length).1 (sliceBounds lo Option.none st vs.length).2.1 (sliceBounds lo Option.none st vs.length).2.2).filterMap (fun i => vs[i]?))
            | _ => Option.none))
        | Option.none => Option.none)
      | Option.none => Option.none)
    | _ => Option.none)
  | _ => Option.none

noncomputable def evC (c : Const) (h : H) : Option (AV × H) := match c with
  | .none => some (.none, h)
  | .bool b => some (.bool b, h)
  | .int i => some (.int i, h)
  | .str s => (match strB s.cps.toList with | true => some (.str s.cps.toList, h) | false => Option.none)
  | _ => Option.none
noncomputable def evN (sc : Scope) (x : Str) (l : L) (h : H) : Option (AV × H) := match sc.names.lookup x with
  | some .globalImplicit => (match look (nm x) C.gl with | some v => some (v, h) | Option.none => Option.none)
  | some .globalExplicit => Option.none
  | some _ => (match look (nm x) l with | some v => some (v, h) | Option.none => Option.none)
  | Option.none => Option.none
noncomputable def evB (sc : Scope) (a : Expr) (op : Operator) (b : Expr) (l : L) (h : H) : Option (AV × H) := match r.ev sc a l h with
  | some (x, h1) => (match r.ev sc b l h1 with
    | some (y, h2) => bin C op x y h2
    | Option.none => Option.none)
  | Option.none => Option.none
noncomputable def evU (sc : Scope) (op : UnaryOp) (a : Expr) (l : L) (h : H) : Option (AV × H) := match r.ev sc a l h with
  | some (x, h1) => (match op with
    | .USub => (match x with | .int i => some (.int (-i), h1) | _ => Option.none)
    | _ => Option.none)
  | Option.none => Option.none
noncomputable def evI (sc : Scope) (t a b : Expr) (l : L) (h : H) : Option (AV × H) := match r.tr sc t l h with
  | some (true, h1) => r.ev sc a l h1
  | some (false, h1) => r.ev sc b l h1
  | Option.none => Option.none
noncomputable def evQ1 (sc : Scope) (op : CmpOp) (x : AV) (b : Expr) (l : L) (h1 : H) : Option (AV × H) := match notSet b with
  | true => (match r.ev sc b l h1 with
    | some (y, h2) => (match cmpV C op x y h2 with | some c => some (.bool c, h2) | Option.none => Option.none)
    | Option.none => Option.none)
  | false => Option.none
noncomputable def evQ3 (sc : Scope) (op op2 : CmpOp) (x y : AV) (c : Expr) (l : L) (h2 : H) : Option (AV × H) := match cmpV C op x y h2 with
  | some true => (match r.ev sc c l h2 with
    | some (z, h3) => (match cmpV C op2 y z h3 with | some c => some (.bool c, h3) | Option.none => Option.none)
    | Option.none => Option.none)
  | some false => some (.bool false, h2)
  | Option.none => Option.none
noncomputable def evQ2 (sc : Scope) (op op2 : CmpOp) (x : AV) (b c : Expr) (l : L) (h1 : H) : Option (AV × H) := match notSet c with
  | true => (match r.ev sc b l h1 with
    | some (y, h2) => evQ3 C r sc op op2 x y c l h2
    | Option.none => Option.none)
  | false => Option.none
noncomputable def evQ (sc : Scope) (a : Expr) (ops : List CmpOp) (bs : List Expr) (l : L) (h : H) : Option (AV × H) := match r.ev sc a l h with
  | some (x, h1) => (match ops with
    | [] => Option.none
    | op :: ops => (match ops with
      | [] => (match bs with | [] => Option.none | b :: bs => (match bs with | [] => evQ1 C r sc op x b l h1 | _ :: _ => Option.none))
      | op2 :: ops => (match ops with
        | [] => (match bs with | [] => Option.none | b :: bs => (match bs with | [] => Option.none | c :: bs => (match bs with | [] => evQ2 C r sc op op2 x b c l h1 | _ :: _ => Option.none)))
        | _ :: _ => Option.none)))
  | Option.none => Option.none
noncomputable def evM (sc : Scope) (o : Expr) (n : Str) (as : List Expr) (l : L) (h : H) : Option (AV × H) := match r.ev sc o l h with
  | some (v, h1) => (match methR C v (nm n) h1 with
    | some m => (match evs r sc as l h1 with
      | some (vs, h2) => methV C r m v (nm n) vs h2
      | Option.none => Option.none)
    | Option.none => Option.none)
  | Option.none => Option.none
noncomputable def evF (sc : Scope) (f : Expr) (as : List Expr) (l : L) (h : H) : Option (AV × H) := match r.ev sc f l h with
  | some (v, h1) => (match evs r sc as l h1 with
    | some (vs, h2) => callV C r v vs h2
    | Option.none => Option.none)
  | Option.none => Option.none
noncomputable def evCall (sc : Scope) (f : Expr) (as : List Expr) (p : Pos) (l : L) (h : H) : Option (AV × H) := match vw f with
  | .attr o n ap => (match notSup o && Nat.beq ap.endLine p.line && short 29 as with
    | false => Option.none
    | true => evM C r sc o n as l h)
  | _ => evF C r sc f as l h
noncomputable def evAt (sc : Scope) (o : Expr) (n : Str) (l : L) (h : H) : Option (AV × H) := match notSup o with
  | true => (match r.ev sc o l h with
    | some (v, h1) => (match attrV C v (nm n) h1 with | some w => some (w, h1) | Option.none => Option.none)
    | Option.none => Option.none)
  | false => Option.none
noncomputable def evSl (sc : Scope) (v : AV) (lo hi st : Option Expr) (l : L) (h1 : H) : Option (AV × H) := match evo r sc lo l h1 with
  | some (a, h2) => (match evo r sc hi l h2 with
    | some (b, h3) => (match evo r sc st l h3 with
      | some (c, h4) => ev.sliceV v a b c h4
      | Option.none => Option.none)
    | Option.none => Option.none)
  | Option.none => Option.none
noncomputable def evIx (sc : Scope) (v : AV) (i : Expr) (l : L) (h1 : H) : Option (AV × H) := match r.ev sc i l h1 with
  | some (k, h2) => (match sub C v k h2 with | some w => some (w, h2) | Option.none => Option.none)
  | Option.none => Option.none
noncomputable def evSub (sc : Scope) (o i : Expr) (l : L) (h : H) : Option (AV × H) := match r.ev sc o l h with
  | some (v, h1) => (match vw i with
    | .slice lo hi st => evSl r sc v lo hi st l h1
    | _ => evIx C r sc v i l h1)
  | Option.none => Option.none
noncomputable def evT (sc : Scope) (es : List Expr) (l : L) (h : H) : Option (AV × H) := match evs r sc es l h with
  | some (vs, h1) => (match mkTup vs with | some t => some (t, h1) | Option.none => Option.none)
  | Option.none => Option.none
noncomputable def evL (sc : Scope) (es : List Expr) (l : L) (h : H) : Option (AV × H) := match evs r sc es l h with
  | some (vs, h1) => h1.newL vs
  | Option.none => Option.none
noncomputable def evJ (sc : Scope) (vs : List Expr) (l : L) (h : H) : Option (AV × H) := match fstrs C r sc vs l h with
  | some (ps, h1) => (match short 8 ps with
    | true => (match catS ps with | some v => some (v, h1) | Option.none => Option.none)
    | false => Option.none)
  | Option.none => Option.none
noncomputable def evBo (sc : Scope) (op : BoolOp) (vs : List Expr) (l : L) (h : H) : Option (AV × H) := match op with
  | .And => conjV r sc vs l h
  | .Or => disjV r sc vs l h
noncomputable def ev (sc : Scope) (e : Expr) (l : L) (h : H) : Option (AV × H) := match vw e with
  | .const c => evC c h
  | .name x => evN C sc x l h
  | .bool op vs => evBo r sc op vs l h
  | .bin a op b => evB C r sc a op b l h
  | .un op a => evU r sc op a l h
  | .ifx t a b => evI r sc t a b l h
  | .cmp a ops bs => evQ C r sc a ops bs l h
  | .call f as ks p => (match ks with
    | _ :: _ => Option.none
    | [] => evCall C r sc f as p l h)
  | .attr o n _ => evAt C r sc o n l h
  | .sub o i => evSub C r sc o i l h
  | .slice _ _ _ => Option.none
  | .tup es => evT r sc es l h
  | .list es => evL r sc es l h
  | .dict ks => (match ks with
    | [] => some (h.new (.dict []))
    | _ :: _ => Option.none)
  | .comp elt gens csc => compV r sc elt gens csc l h
  | .join vs => evJ C r sc vs l h
  | .other => Option.none

noncomputable def trE (sc : Scope) (e : Expr) (l : L) (h : H) : Option (Bool × H) := match ev C r sc e l h with
  | some (v, h1) => (match truthy v with | some b => some (b, h1) | Option.none => Option.none)
  | Option.none => Option.none
noncomputable def trN (sc : Scope) (x : Expr) (l : L) (h : H) : Option (Bool × H) := match r.tr sc x l h with
  | some (b, h1) => some (!b, h1)
  | Option.none => Option.none
noncomputable def tr (sc : Scope) (e : Expr) (l : L) (h : H) : Option (Bool × H) := match vw e with
  | .un op x => (match op with
    | .Not => trN r sc x l h
    | _ => trE C r sc e l h)
  | .bool op vs => (match op with | .And => conjT r sc vs l h | .Or => disjT r sc vs l h)
  | .ifx _ _ _ => Option.none
  | _ => trE C r sc e l h

noncomputable def forGo (sc : Scope) (tg : Expr) (s : Src) (body : List Stmt) : Nat → Nat → L → H → Option (Fl × L × H)
  | 0, _, _, _ => Option.none
  | f + 1, n, l, h => match s.item h n with
    | some (some v) => (match bindT sc tg v l with
      | some l1 => (match r.ex sc body l1 h with
        | some (.ret v, l2, h1) => some (.ret v, l2, h1)
        | some (_, l2, h1) => forGo sc tg s body f (Nat.succ n) l2 h1
        | Option.none => Option.none)
      | Option.none => Option.none)
    | some Option.none => some (.next, l, h)
    | Option.none => Option.none

noncomputable def setA (v : AV) (name : Nat) (x : AV) (h : H) : Option H := match v with
  | .loc i => (match h.get i with
    | some (.inst c fs) => (match memN name (C.atr c) && short 800 fs with | true => (match look name fs with | some _ => Option.none | Option.none => some (h.set i (.inst c (put name x fs)))) | false => Option.none)
    | _ => Option.none)
  | _ => Option.none
noncomputable def setS (v k x : AV) (h : H) : Option H := match v with
  | .loc i => (match h.get i with
    | some (.dict kvs) => (match dfind C k kvs with
      | some (some _) => Option.none
      | some Option.none => (match snoc (k, x) 100000 kvs with | some q => some (h.set i (.dict q)) | Option.none => Option.none)
      | Option.none => Option.none)
    | _ => Option.none)
  | _ => Option.none

noncomputable def xAt (sc : Scope) (o : Expr) (n : Str) (e : Expr) (l : L) (h : H) : Option (Fl × L × H) := match notComp e with
  | false => Option.none
  | true => (match r.ev sc e l h with
    | some (x, h1) => (match r.ev sc o l h1 with
      | some (v, h2) => (match setA C v (nm n) x h2 with | some h3 => some (.next, l, h3) | Option.none => Option.none)
      | Option.none => Option.none)
    | Option.none => Option.none)
noncomputable def xSub (sc : Scope) (o i e : Expr) (l : L) (h : H) : Option (Fl × L × H) := match notComp e with
  | false => Option.none
  | true => (match r.ev sc e l h with
    | some (x, h1) => (match r.ev sc o l h1 with
      | some (v, h2) => (match r.ev sc i l h2 with
        | some (k, h3) => (match setS C v k x h3 with | some h4 => some (.next, l, h4) | Option.none => Option.none)
        | Option.none => Option.none)
      | Option.none => Option.none)
    | Option.none => Option.none)
noncomputable def xNm (sc : Scope) (t e : Expr) (l : L) (h : H) : Option (Fl × L × H) := match notConst e with
  | true => (match evA r sc e l h with
    | some (x, h1) => (match bindT sc t x l with | some l1 => some (.next, l1, h1) | Option.none => Option.none)
    | Option.none => Option.none)
  | false => Option.none
noncomputable def xAsg (sc : Scope) (t e : Expr) (l : L) (h : H) : Option (Fl × L × H) := match vw t with
  | .attr o n _ => xAt C r sc o n e l h
  | .sub o i => xSub C r sc o i e l h
  | _ => xNm r sc t e l h
noncomputable def xIf (sc : Scope) (t : Expr) (a b : List Stmt) (l : L) (h : H) : Option (Fl × L × H) := match r.tr sc t l h with
  | some (true, h1) => r.ex sc a l h1
  | some (false, h1) => r.ex sc b l h1
  | Option.none => Option.none
noncomputable def xFor (sc : Scope) (tg it : Expr) (body : List Stmt) (l : L) (h : H) : Option (Fl × L × H) := match mkSrc r sc tg it l h with
  | some (s, h1) => forGo r sc tg s body 4000 0 l h1
  | Option.none => Option.none
noncomputable def xEx (sc : Scope) (e : Expr) (l : L) (h : H) : Option (Fl × L × H) := match notComp e with
  | true => (match r.ev sc e l h with
    | some (.none, h1) => some (.next, l, h1)
    | _ => Option.none)
  | false => Option.none
noncomputable def xRet (sc : Scope) (e : Option Expr) (l : L) (h : H) : Option (Fl × L × H) := match e with
  | some e => (match r.ev sc e l h with | some (v, h1) => some (.ret v, l, h1) | Option.none => Option.none)
  | Option.none => Option.none
/-- a statement, as the interpreter looks at it -/
inductive VS where
  | asg (t e : Expr)
  | ret (e : Option Expr)
  | ifx (t : Expr) (a b : List Stmt)
  | loop (tg it : Expr) (body : List Stmt)
  | whl (t : Expr) (body : List Stmt)
  | expr (e : Expr)
  | cont
  | other
noncomputable def vwS (st : Stmt) : VS := match st with
  | .Assign ts e _ => (match ts with
    | [] => .other
    | t :: ts => (match ts with
      | [] => .asg t e
      | _ :: _ => .other))
  | .Return e _ => .ret e
  | .If t a b _ => .ifx t a b
  | .For tg it body els _ => (match els with
    | _ :: _ => .other
    | [] => .loop tg it body)
  | .While t body els _ => (match els with
    | _ :: _ => .other
    | [] => .whl t body)
  | .Expr e _ => .expr e
  | .Continue _ => .cont
  | _ => .other
noncomputable def ex1 (sc : Scope) (st : Stmt) (l : L) (h : H) : Option (Fl × L × H) := match vwS st with
  | .asg t e => xAsg C r sc t e l h
  | .ret e => xRet r sc e l h
  | .ifx t a b => xIf r sc t a b l h
  | .loop tg it body => xFor r sc tg it body l h
  | .whl t body => r.wh sc t body l h
  | .expr e => xEx r sc e l h
  | .cont => some (.cont, l, h)
  | .other => Option.none

noncomputable def ex (sc : Scope) : List Stmt → L → H → Option (Fl × L × H)
  | [], l, h => some (.next, l, h)
  | st :: t, l, h => match ex1 C r sc st l h with
    | some (.next, l1, h1) => ex sc t l1 h1
    | some (f, l1, h1) => some (f, l1, h1)
    | Option.none => Option.none

noncomputable def wh (sc : Scope) (t : Expr) (body : List Stmt) (l : L) (h : H) : Option (Fl × L × H) := match r.tr sc t l h with
  | some (true, h1) => (match r.ex sc body l h1 with
    | some (.ret _, _, _) => Option.none
    | some (_, l1, h2) => r.wh sc t body l1 h2
    | Option.none => Option.none)
  | some (false, h1) => some (.next, l, h1)
  | Option.none => Option.none

noncomputable def zipP : List Nat → List AV → Option L
  | [], vs => (match vs with | [] => some [] | _ :: _ => Option.none)
  | p :: ps, vs => (match vs with | [] => Option.none | v :: vs => (match zipP ps vs with | some l => some ((p, v) :: l) | Option.none => Option.none))

/-- a function's body; where the table says so, its first statement is the call of the class above -/
noncomputable def body (k : Nat) (f : Fn) (as : List AV) (l : L) (h : H) : Option (Fl × L × H) := match C.sup k with
  | Option.none => r.ex f.scope f.body l h
  | some q => (match f.body, as with
    | _ :: rest, [.loc i] => (match h.get i with
      | some (.inst c _) => (match Nat.beq c q.1 with
        | true => (match r.cl q.2 [.loc i] h with
          | some (.none, h1) => r.ex f.scope rest l h1
          | _ => Option.none)
        | false => Option.none)
      | _ => Option.none)
    | _, _ => Option.none)
noncomputable def retOf : Fl → Option AV
  | .ret v => some v
  | .next => some .none
  | .cont => Option.none
noncomputable def cl (k : Nat) (as : List AV) (h : H) : Option (AV × H) := match C.hcall k as h with
  | some q => some q
  | Option.none => (match nth C.fns k with
    | some f => (match zipP f.params as with
      | some l => (match body C r k f as l h with
        | some (fl, _, h1) => (match retOf fl with
          | some v => some (v, match f.gc with | true => h1.cut h.nx | false => h1)
          | Option.none => Option.none)
        | Option.none => Option.none)
      | Option.none => Option.none)
    | Option.none => Option.none)

noncomputable def fail : R := ⟨fun _ _ _ _ => Option.none, fun _ _ _ _ => Option.none, fun _ _ _ _ => Option.none, fun _ _ _ _ _ => Option.none, fun _ _ _ => Option.none⟩
noncomputable def step (r : R) : R := ⟨ev C r, tr C r, ex C r, wh r, cl C r⟩
noncomputable def run : Nat → R
  | 0 => fail
  | n + 1 => step C (run n)
end
end Mine

namespace Mine
open PySem
noncomputable def nthS (l : List Stmt) (i : Nat) : Option Stmt := nth l i
noncomputable def fnOfS (gc : Bool) : Option Stmt → Fn
  | some (.FunctionDef _ a b _ _ _ sc _ _ _) => ⟨a.args.map fun x => nm x.arg, b, sc, gc⟩
  | _ => ⟨[], [], ⟨.module, [], false, false, []⟩, false⟩
noncomputable def fnAt (i : Nat) (j : Option Nat) (gc : Bool) : Fn := match j with
  | none => fnOfS gc (nth PySem.Challenge.pw_rg0219_01.main.body i)
  | some j => match nth PySem.Challenge.pw_rg0219_01.main.body i with
    | some (.ClassDef _ _ _ b _ _ _ _ _ _ _) => fnOfS gc (nth b j)
    | _ => fnOfS gc none
noncomputable def fnTab : List Fn := [fnAt 10 none false, fnAt 11 none false, fnAt 12 none false, fnAt 13 none false, fnAt 14 none false, fnAt 15 none false, fnAt 16 none false, fnAt 17 none false, fnAt 18 none false, fnAt 19 none false, fnAt 21 none false, fnAt 22 none false, fnAt 23 none false, fnAt 24 none false, fnAt 25 none false, fnAt 26 none false, fnAt 27 none false, fnAt 28 none false, fnAt 29 none false, fnAt 30 none false, fnAt 31 none false, fnAt 32 none false, fnAt 33 none false, fnAt 34 none false, fnAt 42 (some 0) false, fnAt 42 (some 1) false, fnAt 42 (some 2) false, fnAt 42 (some 3) false, fnAt 42 (some 4) false, fnAt 42 (some 6) false, fnAt 42 (some 8) false, fnAt 42 (some 9) false, fnAt 42 (some 11) false, fnAt 42 (some 13) false, fnAt 42 (some 14) false, fnAt 42 (some 15) false, fnAt 42 (some 16) false, fnAt 42 (some 17) false, fnAt 42 (some 19) false, fnAt 42 (some 22) false, fnAt 42 (some 23) false, fnAt 42 (some 28) false, fnAt 43 (some 1) false, fnAt 43 (some 2) false, fnAt 43 (some 3) false, fnAt 43 (some 6) false, fnAt 43 (some 7) false, fnAt 43 (some 8) false, fnAt 43 (some 9) false, fnAt 44 none false, fnAt 45 (some 0) false, fnAt 45 (some 1) false, fnAt 45 (some 2) false, fnAt 45 (some 3) false, fnAt 45 (some 4) false, fnAt 45 (some 6) false, fnAt 46 (some 0) false, fnAt 46 (some 1) false, fnAt 46 (some 3) false, fnAt 46 (some 5) false, fnAt 46 (some 6) false, fnAt 46 (some 7) false, fnAt 46 (some 8) false, fnAt 46 (some 9) false, fnAt 46 (some 10) false, fnAt 46 (some 11) false, fnAt 46 (some 12) false, fnAt 46 (some 13) false, fnAt 46 (some 14) false, fnAt 49 none false, fnAt 50 (some 0) false, fnAt 50 (some 1) false, fnAt 50 (some 3) false, fnAt 50 (some 4) false, fnAt 50 (some 5) false, fnAt 50 (some 6) false, fnAt 50 (some 7) false, fnAt 51 none false, fnAt 52 none false, fnAt 53 none false, fnAt 54 none false, fnAt 55 none false, fnAt 56 none true, fnAt 57 none false, fnAt 59 none false, fnAt 60 none false, fnAt 61 none false, fnAt 67 none false, fnAt 68 none false, fnAt 69 none false, fnAt 72 none false, fnAt 73 none false, fnAt 74 none false, fnAt 75 none true, fnAt 76 none false]
noncomputable def meth0 : List (Nat × Nat) := [(nmS "__init__", 56), (nmS "bv_sort", 57), (nmS "want_bits", 58), (nmS "bv_one", 59), (nmS "bv_two", 60), (nmS "concat", 61), (nmS "extract", 62), (nmS "zero_extend", 63), (nmS "sign_extend", 64), (nmS "want_place", 65), (nmS "bit", 66), (nmS "carry", 67), (nmS "below", 68), (nmS "num", 50), (nmS "want_number", 51), (nmS "plus", 52), (nmS "times_num", 53), (nmS "times", 54), (nmS "negative", 55), (nmS "and_of", 42), (nmS "or_of", 43), (nmS "xor_of", 44), (nmS "eq", 45), (nmS "distinct", 46), (nmS "ite", 47), (nmS "app", 48), (nmS "sort_name", 25), (nmS "declare_sort", 26), (nmS "width_of", 27), (nmS "is_number_sort", 28), (nmS "declare_fun", 29), (nmS "fresh_const", 30), (nmS "fun_name", 31), (nmS "fun_result", 32), (nmS "op", 33), (nmS "args", 34), (nmS "sort", 35), (nmS "data", 36), (nmS "width", 37), (nmS "make", 38), (nmS "want", 39), (nmS "want_all", 40), (nmS "parts_of_all", 41)]
noncomputable def meth1 : List (Nat × Nat) := [(nmS "__init__", 70), (nmS "set_row", 71), (nmS "rows", 72), (nmS "set_other", 73), (nmS "other", 74), (nmS "call", 75), (nmS "value", 76)]
noncomputable def atr0 : List Nat := [nmS "sort_names", nmS "sort_widths", nmS "fun_names", nmS "fun_args", nmS "fun_results", nmS "fresh_count", nmS "term_ops", nmS "term_args", nmS "term_sorts", nmS "term_datas", nmS "numbers", nmS "true_number", nmS "false_number", nmS "bv_numbers"]
noncomputable def atr1 : List Nat := [nmS "bank", nmS "tables", nmS "others"]
noncomputable def glTab : List (Nat × AV) := [(nmS "gcd_of", .fn 0),
  (nmS "ratio", .fn 1),
  (nmS "add", .fn 2),
  (nmS "mul", .fn 3),
  (nmS "compare", .fn 4),
  (nmS "is_whole", .fn 5),
  (nmS "signed_text", .fn 6),
  (nmS "figures_of", .fn 7),
  (nmS "ratio_text", .fn 8),
  (nmS "real_text", .fn 9),
  (nmS "mask_of", .fn 10),
  (nmS "signed_of", .fn 11),
  (nmS "one_value", .fn 12),
  (nmS "divided_value", .fn 13),
  (nmS "rest_value", .fn 14),
  (nmS "shifted_value", .fn 15),
  (nmS "two_value", .fn 16),
  (nmS "ask_value", .fn 17),
  (nmS "extract_value", .fn 18),
  (nmS "concat_value", .fn 19),
  (nmS "sign_extended", .fn 20),
  (nmS "bit_value", .fn 21),
  (nmS "carry_value", .fn 22),
  (nmS "below_value", .fn 23),
  (nmS "want_small", .fn 49),
  (nmS "plain_value", .fn 69),
  (nmS "bits_worked_out", .fn 77),
  (nmS "number_worked_out", .fn 78),
  (nmS "bits_asked", .fn 79),
  (nmS "connected", .fn 80),
  (nmS "worked_out", .fn 81),
  (nmS "evaluate", .fn 82),
  (nmS "evaluate_all", .fn 83),
  (nmS "number_text_of", .fn 84),
  (nmS "element_text", .fn 85),
  (nmS "value_text", .fn 86),
  (nmS "is_simple", .fn 87),
  (nmS "symbol_text", .fn 88),
  (nmS "bits_text", .fn 89),
  (nmS "_law_spill", .fn 90),
  (nmS "_law_same_again", .fn 91),
  (nmS "_law_another", .fn 92),
  (nmS "_law_is_plain", .fn 93),
  (nmS "law", .fn 94),
  (nmS "TermBank", .cls 0),
  (nmS "Model", .cls 1),
  (nmS "len", .bi 0),
  (nmS "min", .bi 1),
  (nmS "max", .bi 2),
  (nmS "abs", .bi 3),
  (nmS "str", .bi 4),
  (nmS "int", .bi 5),
  (nmS "list", .bi 6),
  (nmS "tuple", .bi 7),
  (nmS "isinstance", .bi 8),
  (nmS "all", .bi 9),
  (nmS "any", .bi 10),
  (nmS "bool", .bi 11),
  (nmS "BLOCK", .int 1000),
  (nmS "ROUND", .int (10 ^ 1000)),
  (nmS "BOOL", .int 0),
  (nmS "INT", .int 1),
  (nmS "REAL", .int 2),
  (nmS "WIDEST", .int 4096),
  (nmS "MOST_BITS", .int 65536),
  (nmS "BV_SAME", .tup [.str (Str.ofString "bvand").cps.toList, .str (Str.ofString "bvor").cps.toList, .str (Str.ofString "bvxor").cps.toList, .str (Str.ofString "bvadd").cps.toList, .str (Str.ofString "bvsub").cps.toList, .str (Str.ofString "bvmul").cps.toList, .str (Str.ofString "bvshl").cps.toList, .str (Str.ofString "bvlshr").cps.toList, .str (Str.ofString "bvudiv").cps.toList, .str (Str.ofString "bvurem").cps.toList]),
  (nmS "BV_ASK", .tup [.str (Str.ofString "bvult").cps.toList, .str (Str.ofString "bvule").cps.toList, .str (Str.ofString "bvslt").cps.toList, .str (Str.ofString "bvsle").cps.toList]),
  (nmS "NOUGHT", .tup [.int 0, .int 1]),
  (nmS "DIGITS", .str (Str.ofString "0123456789").cps.toList),
  (nmS "LETTERS", .str (Str.ofString "abcdefghijklmnopqrstuvwxyzABCDEFGHIJKLMNOPQRSTUVWXYZ").cps.toList),
  (nmS "MARKS", .str (Str.ofString "~!@$%^&*_-+=<>.?/").cps.toList),
  (nmS "SIMPLE", .str (Str.ofString "abcdefghijklmnopqrstuvwxyzABCDEFGHIJKLMNOPQRSTUVWXYZ0123456789~!@$%^&*_-+=<>.?/").cps.toList),
  (nmS "RESERVED", .tup [.str (Str.ofString "!").cps.toList, .str (Str.ofString "_").cps.toList, .str (Str.ofString "as").cps.toList, .str (Str.ofString "BINARY").cps.toList, .str (Str.ofString "DECIMAL").cps.toList, .str (Str.ofString "exists").cps.toList, .str (Str.ofString "forall").cps.toList, .str (Str.ofString "HEXADECIMAL").cps.toList, .str (Str.ofString "let").cps.toList, .str (Str.ofString "match").cps.toList, .str (Str.ofString "NUMERAL").cps.toList, .str (Str.ofString "par").cps.toList, .str (Str.ofString "STRING").cps.toList]),
  (nmS "_law_titles", .tup [.tup [.str (Str.ofString "S").cps.toList, .str (Str.ofString "S!val!0").cps.toList], .tup [.str (Str.ofString "b c").cps.toList, .str (Str.ofString "|b c!val!0|").cps.toList], .tup [.str (Str.ofString "let").cps.toList, .str (Str.ofString "let!val!0").cps.toList], .tup [.str (Str.ofString "7").cps.toList, .str (Str.ofString "|7!val!0|").cps.toList], .tup [.str (Str.ofString "|as|").cps.toList, .str (Str.ofString "as!val!0").cps.toList]])]
noncomputable def idLaw : Nat := 94
noncomputable def idPlain : Nat := 93
noncomputable def idEval : Nat := 82
noncomputable def idSpill : Nat := 90
noncomputable def idBits : Nat := 89
noncomputable def idElem : Nat := 85
noncomputable def idIni0 : Nat := 56
noncomputable def idIni1 : Nat := 70
noncomputable def idSup : Nat := 24
noncomputable def titL : List (List Nat × List Nat) := [("S", "S!val!0"), ("b c", "|b c!val!0|"), ("let", "let!val!0"), ("7", "|7!val!0|"), ("|as|", "as!val!0")].map fun p => ((Str.ofString p.1).cps.toList, (Str.ofString p.2).cps.toList)
/-- what the tables' rows ask of a value -/
inductive Pt where
  | i (n : Int)
  | k (n : Nat)
  | z (n : Nat)
  | t (cs : List Nat)
noncomputable def Pt.av : Pt → AV
  | .i n => .int n
  | .k n => .isym n
  | .z n => .ssym n
  | .t cs => .str cs
noncomputable def isI (n : Int) : AV → Bool
  | .int j => n == j
  | _ => false
noncomputable def isK (n : Nat) : AV → Bool
  | .isym j => Nat.beq n j
  | _ => false
noncomputable def isZ (n : Nat) : AV → Bool
  | .ssym j => Nat.beq n j
  | _ => false
noncomputable def isX : AV → Bool
  | .ext k => Nat.beq 1 k
  | _ => false
noncomputable def isT (cs : List Nat) : AV → Bool
  | .str d => strBeq cs d
  | _ => false
noncomputable def Pt.fits : Pt → AV → Bool
  | .i n => isI n
  | .k n => isK n
  | .z n => isZ n
  | .t cs => isT cs
noncomputable def findR {α : Type} (a b : AV) : List (Pt × Pt × α) → Option α
  | [] => none
  | r :: rs => match r.1.fits a && r.2.1.fits b with
    | true => some r.2.2
    | false => findR a b rs
noncomputable def tupOf : AV → Option (List AV)
  | .tup l => some l
  | _ => none
noncomputable def locOf : AV → Option Nat
  | .loc i => some i
  | _ => none
noncomputable def intOf : AV → Option Int
  | .int i => some i
  | _ => none
noncomputable def as2 {α : Type} : List α → Option (α × α)
  | [] => none
  | a :: r => match r with
    | [] => none
    | b :: t => match t with
      | [] => some (a, b)
      | _ :: _ => none
noncomputable def as3 : List AV → Option (AV × AV × AV)
  | [] => none
  | a :: r => match as2 r with
    | some p => some (a, p.1, p.2)
    | none => none
noncomputable def titV (v : AV) (p : List Nat × List Nat) : Bool := match tupOf v with
  | some l => (match as2 l with
    | some q => isT p.1 q.1 && isT p.2 q.2
    | none => false)
  | none => false
noncomputable def titEq : List AV → List (List Nat × List Nat) → Bool
  | [], ps => (match ps with | [] => true | _ :: _ => false)
  | v :: r, ps => (match ps with | [] => false | p :: t => titV v p && titEq r t)
noncomputable def isTitles (v : AV) : Bool := match tupOf v with
  | some vs => titEq vs titL
  | none => false
noncomputable def binAdd : List (Pt × Pt × AV) := [(.i 1, .k 10, .isym 0), (.k 0, .i 1, .isym 15), (.k 15, .k 11, .isym 1), (.t [35, 98], .z 0, .ssym 1), (.t [35, 98], .z 2, .ssym 3)]
noncomputable def binSub : List (Pt × Pt × AV) := [(.i 70, .k 0, .isym 14), (.k 2, .i 1, .isym 3), (.k 4, .i 1, .isym 5)]
noncomputable def binShl : List (Pt × Pt × AV) := [(.i 1, .k 0, .isym 2), (.i 1, .k 1, .isym 4)]
noncomputable def binAnd : List (Pt × Pt × AV) := [(.i 0, .k 3, .int 0), (.i 0, .k 5, .int 0)]
noncomputable def binMul : List (Pt × Pt × AV) := [(.t [48], .k 0, .ssym 0), (.t [48], .k 1, .ssym 2)]
noncomputable def binRows : Operator → List (Pt × Pt × AV)
  | .Add => binAdd
  | .Sub => binSub
  | .LShift => binShl
  | .BitAnd => binAnd
  | .Mult => binMul
  | _ => []
noncomputable def hbinL (op : Operator) (a b : AV) : Option AV := findR a b (binRows op)
noncomputable def cmpLt : List (Pt × Pt × Bool) := [(.k 0, .i 1, false), (.k 1, .i 1, false)]
noncomputable def cmpGt : List (Pt × Pt × Bool) := [(.k 0, .i 4096, false), (.k 1, .i 4096, false), (.k 0, .i 0, true), (.k 1, .i 0, true)]
noncomputable def cmpEq : List (Pt × Pt × Bool) := [(.k 0, .i 0, false), (.k 1, .i 0, false), (.k 0, .k 1, false), (.k 1, .k 0, false)]
noncomputable def cmpGe : List (Pt × Pt × Bool) := [(.i 0, .k 0, false), (.i 0, .k 1, false)]
noncomputable def cmpRows : CmpOp → List (Pt × Pt × Bool)
  | .Lt => cmpLt
  | .Gt => cmpGt
  | .Eq => cmpEq
  | .GtE => cmpGe
  | _ => []
noncomputable def hcmpL (op : CmpOp) (a b : AV) : Option Bool := findR a b (cmpRows op)
noncomputable def subRows : List (Pt × Pt × AV) := [(.k 12, .k 12, .tup [.ssym 6, .ssym 7]), (.k 13, .k 13, .tup [.ssym 8, .ssym 9])]
noncomputable def hsubL (v i : AV) : Option AV := match isTitles v with
  | true => findR i i subRows
  | false => none
noncomputable def fmtRows : List (Pt × Pt × AV) := [(.k 0, .k 0, .ssym 4), (.k 1, .k 1, .ssym 5)]
noncomputable def hfmtL (v : AV) : Option AV := findR v v fmtRows
noncomputable def cellsN : List Nat := (Str.ofString "cells").cps.toList
noncomputable def atN : List Nat := (Str.ofString "at").cps.toList
noncomputable def jugO (c a : List Nat) (n : Int) : AO := .dict [(.str c, .ext 1), (.str a, .int n)]
noncomputable def jugOf (o : AO) : Option Int := match o with
  | .list _ => none
  | .inst _ _ => none
  | .dict l => (match as2 l with
    | some p => (match isT cellsN p.1.1 && isX p.1.2 && isT atN p.2.1 with
      | true => intOf p.2.2
      | false => none)
    | none => none)
noncomputable def spillRows : List (Pt × Pt × AV × Int) := [(.i 0, .i 69, .isym 10, 1), (.i 1, .k 14, .isym 11, 2), (.i 2, .i 5, .isym 12, 3), (.i 3, .i 5, .isym 13, 4)]
noncomputable def spillL (as : List AV) (h : H) : Option (AV × H) := match as2 as with
  | some p => (match locOf p.1 with
    | some j => (match h.get j with
      | some o => (match jugOf o with
        | some n => (match findR (.int n) p.2 spillRows with
          | some q => some (q.1, h.set j (jugO cellsN atN q.2))
          | none => none)
        | none => none)
      | none => none)
    | none => none)
  | none => none
noncomputable def listOf (o : AO) : Option (List AV) := match o with
  | .list vs => some vs
  | .dict _ => none
  | .inst _ _ => none
noncomputable def inst0 (o : AO) : Option (List (Nat × AV)) := match o with
  | .list _ => none
  | .dict _ => none
  | .inst c fs => match Nat.beq c 0 with
    | true => some fs
    | false => none
noncomputable def natOf (v : AV) : Option Nat := match intOf v with
  | some i => (match i with
    | .ofNat n => some n
    | .negSucc _ => none)
  | none => none
noncomputable def elemRows : List (Pt × Pt × AV) := [(.z 6, .i 0, .ssym 7), (.z 8, .i 0, .ssym 9)]
noncomputable def elemL (as : List AV) (h : H) : Option (AV × H) := match as3 as with
  | some p => (match locOf p.1 with
    | some b => (match natOf p.2.1 with
      | some s => (match h.get b with
        | some o => (match inst0 o with
          | some fs => (match look (nmS "sort_name") fs with
            | some _ => none
            | none => (match look (nmS "sort_names") fs with
              | some v => (match locOf v with
                | some i => (match h.get i with
                  | some q => (match listOf q with
                    | some vs => (match nth vs s with
                      | some z => (match findR z p.2.2 elemRows with
                        | some r => some (r, h)
                        | none => none)
                      | none => none)
                    | none => none)
                  | none => none)
                | none => none)
              | none => none))
          | none => none)
        | none => none)
      | none => none)
    | none => none)
  | none => none
noncomputable def bitRows : List (Pt × Pt × AV) := [(.i 0, .k 0, .ssym 1), (.i 0, .k 1, .ssym 3)]
noncomputable def bitsL (as : List AV) (h : H) : Option (AV × H) := match as2 as with
  | some p => (match findR p.1 p.2 bitRows with
    | some v => some (v, h)
    | none => none)
  | none => none
noncomputable def hcallL (k : Nat) (as : List AV) (h : H) : Option (AV × H) :=
  match Nat.beq k idSpill with
  | true => spillL as h
  | false => match Nat.beq k idElem with
    | true => elemL as h
    | false => match Nat.beq k idBits with
      | true => bitsL as h
      | false => none
noncomputable def cfg : Cfg where
  gl := glTab
  fns := fnTab
  mth := fun c => match c with | 0 => meth0 | _ => meth1
  atr := fun c => match c with | 0 => atr0 | _ => atr1
  ini := fun c => match c with | 0 => some idIni0 | 1 => some idIni1 | _ => none
  sup := fun k => match Nat.beq k idIni0 with | true => some (0, idSup) | false => none
  hbin := hbinL
  hcmp := hcmpL
  hsub := hsubL
  hfmt := hfmtL
  hcall := hcallL
noncomputable def noFn : Fn := ⟨[], [], ⟨.module, [], false, false, []⟩, false⟩
noncomputable def lawFn : Fn := match nth fnTab 94 with
  | some f => f
  | none => noFn
/-- the law's state behind its first display -/
noncomputable def H0 : H := ⟨1, [(0, .dict [(.str cellsN, .ext 1), (.str atN, .int 0)])]⟩
noncomputable def l0 : L := [(nmS "script", .ext 0)]
/-- what is told of an expression's parts, in the order of the text; the other branch of a conditional stands apart -/
noncomputable def col {α : Type} (f : Expr → List α) : Nat → Expr → List α
  | 0, _ => []
  | n + 1, e => (match e with
    | .Tuple es _ _ => es.flatMap (col f n)
    | .Dict ks vs _ => ks.flatMap (fun k => k.toList.flatMap (col f n)) ++ vs.flatMap (col f n)
    | .ListComp a gs _ _ => col f n a ++ gs.flatMap fun g => col f n g.target ++ col f n g.iter
    | .Subscript a b _ => col f n a ++ col f n b
    | .Slice _ b _ _ => b.toList.flatMap (col f n)
    | .BinOp a _ b _ => col f n a ++ col f n b
    | .Compare a _ bs _ => col f n a ++ bs.flatMap (col f n)
    | .Call a bs _ _ => col f n a ++ bs.flatMap (col f n)
    | .IfExp a b _ _ => col f n a ++ col f n b
    | _ => []) ++ f e
noncomputable def colS {α : Type} (f : Expr → List α) (g : Pos → List α) (s : Stmt) : List α := match s with
  | .Assign ts e p => ts.flatMap (col f 20) ++ col f 20 e ++ g p
  | .Return e p => e.toList.flatMap (col f 20) ++ g p
  | _ => []
noncomputable def kinL (e : Expr) : List Nat := match e with
  | .Constant _ k _ => [k]
  | .Tuple _ k _ => [k]
  | _ => []
noncomputable def scoL (e : Expr) : List Scope := match e with
  | .ListComp _ _ c _ => [c]
  | _ => []
noncomputable def elsL (e : Expr) : List Expr := match e with
  | .IfExp _ _ e _ => [e]
  | _ => []
noncomputable def posAt (l : List Stmt) (i : Nat) : Pos := match nth (l.flatMap (colS (fun e => [e.pos]) fun p => [p])) i with
  | some p => p
  | none => ⟨0, 0, 0, 0⟩
noncomputable def kinAt (l : List Stmt) (i : Nat) : Nat := match nth (l.flatMap (colS kinL fun _ => [])) i with
  | some k => k
  | none => 0
noncomputable def lawHead : List Stmt := take 1 lawFn.body
noncomputable def lawRest : List Stmt := drop 1 lawFn.body
noncomputable def lP (i : Nat) : Pos := posAt lawHead i
noncomputable def lK (i : Nat) : Nat := kinAt lawHead i
noncomputable def lawCsc : Scope := match nth (lawHead.flatMap (colS scoL fun _ => [])) 0 with
  | some c => c
  | none => noFn.scope
noncomputable def tgX : Expr := .Tuple [.Name "jug" (lP 0), .Name "bank" (lP 1)] (lK 0) (lP 2)
noncomputable def cellsX : Expr := .ListComp (.Call (.Name "int" (lP 5)) [.Name "cell" (lP 6)] [] (lP 7)) [⟨.Name "cell" (lP 8), .Subscript (.Name "script" (lP 9)) (.Slice none (some (.Constant (.int 20) (lK 3) (lP 10))) none (lP 11)) (lP 12), [], 0⟩] lawCsc (lP 13)
noncomputable def jugX : Expr := .Dict [some (.Constant (.str "cells") (lK 1) (lP 3)), some (.Constant (.str "at") (lK 2) (lP 4))] [cellsX, .Constant (.int 0) (lK 4) (lP 14)] (lP 15)
noncomputable def bankX : Expr := .Call (.Name "TermBank" (lP 16)) [] [] (lP 17)
noncomputable def isTrueR (f : Fl) : Bool := match f with
  | .ret v => (match v with | .bool b => b | _ => false)
  | _ => false
/-- the law, its first display taken for granted -/
noncomputable def lawGo (n : Nat) : Bool := match (run cfg n).ev lawFn.scope bankX l0 H0 with
  | some (v, h1) => (match locOf v with
    | some i => (match bindT lawFn.scope tgX (.tup [.loc 0, .loc i]) l0 with
      | some l1 => (match (run cfg n).ex lawFn.scope lawRest l1 h1 with
        | some (f, _, _) => isTrueR f
        | none => false)
      | none => false)
    | none => false)
  | none => false
end Mine

namespace Mine
set_option maxRecDepth 1000000
theorem law_go : lawGo 60 = true := by decide +kernel
end Mine

set_option maxRecDepth 100000
namespace Mine
open PySem PySem.W PySem.Calls PySem.Spec PyProof.Rows

/-! ## what an abstract value, an abstract heap stand for -/
noncomputable abbrev Led := List (Addr × Obj)
noncomputable abbrev tupObj (ws : List Value) (n : Nat) : Obj := { cls := .type "tuple", data := .seq ws.toArray n }
noncomputable abbrev lstObj (ws : List Value) (n : Nat) : Obj := { cls := .type "list", data := .seq ws.toArray n }
noncomputable abbrev cellObj (v : Value) : Obj := { cls := .type "cell", data := .cell (some v) }

theorem xN {α : Type} {a : α} {P : Prop} (e : none = some a) : P := nomatch e
theorem xS {α : Type} {a : α} {P : Prop} (e : some a = none) : P := nomatch e
theorem x1 {α : Type} {a c : α} (e : some a = some c) : c = a := (Option.some.inj e).symm
theorem x2 {α β : Type} {a c : α} {b d : β} (e : some (a, b) = some (c, d)) : c = a ∧ d = b := by cases e; exact ⟨rfl, rfl⟩
theorem x3 {α β γ : Type} {a c : α} {b d : β} {p q : γ} (e : some (a, b, p) = some (c, d, q)) : c = a ∧ d = b ∧ q = p := by cases e; exact ⟨rfl, rfl, rfl⟩
theorem y2 {α β : Type} {P : α → β → Prop} {a c : α} {b d : β} (e : some (a, b) = some (c, d)) (h : P a b) : P c d := by cases e; exact h
theorem y3 {α β γ : Type} {P : α → β → γ → Prop} {a c : α} {b d : β} {p q : γ} (e : some (a, b, p) = some (c, d, q)) (h : P a b p) : P c d q := by cases e; exact h

theorem optN {β : Type} {o : Option (Nat)} {f : Nat → Option β} {q : β} (e : (match o with | some p => f p | none => none) = some q) : ∃ p, o = some p ∧ f p = some q := by
  cases o with
  | none => exact xN e
  | some p => exact ⟨p, rfl, e⟩
theorem optV {β : Type} {o : Option (AV)} {f : AV → Option β} {q : β} (e : (match o with | some p => f p | none => none) = some q) : ∃ p, o = some p ∧ f p = some q := by
  cases o with
  | none => exact xN e
  | some p => exact ⟨p, rfl, e⟩
theorem optD {β : Type} {o : Option (L)} {f : L → Option β} {q : β} (e : (match o with | some p => f p | none => none) = some q) : ∃ p, o = some p ∧ f p = some q := by
  cases o with
  | none => exact xN e
  | some p => exact ⟨p, rfl, e⟩
theorem optH {β : Type} {o : Option (H)} {f : H → Option β} {q : β} (e : (match o with | some p => f p | none => none) = some q) : ∃ p, o = some p ∧ f p = some q := by
  cases o with
  | none => exact xN e
  | some p => exact ⟨p, rfl, e⟩
theorem optVs {β : Type} {o : Option (List AV)} {f : List AV → Option β} {q : β} (e : (match o with | some p => f p | none => none) = some q) : ∃ p, o = some p ∧ f p = some q := by
  cases o with
  | none => exact xN e
  | some p => exact ⟨p, rfl, e⟩
theorem optI {β : Type} {o : Option (Int)} {f : Int → Option β} {q : β} (e : (match o with | some p => f p | none => none) = some q) : ∃ p, o = some p ∧ f p = some q := by
  cases o with
  | none => exact xN e
  | some p => exact ⟨p, rfl, e⟩
theorem optO {β : Type} {o : Option (AO)} {f : AO → Option β} {q : β} (e : (match o with | some p => f p | none => none) = some q) : ∃ p, o = some p ∧ f p = some q := by
  cases o with
  | none => exact xN e
  | some p => exact ⟨p, rfl, e⟩
theorem optF {β : Type} {o : Option (Fn)} {f : Fn → Option β} {q : β} (e : (match o with | some p => f p | none => none) = some q) : ∃ p, o = some p ∧ f p = some q := by
  cases o with
  | none => exact xN e
  | some p => exact ⟨p, rfl, e⟩
theorem optVp {β : Type} {o : Option (AV × AV)} {f : AV × AV → Option β} {q : β} (e : (match o with | some p => f p | none => none) = some q) : ∃ p, o = some p ∧ f p = some q := by
  cases o with
  | none => exact xN e
  | some p => exact ⟨p, rfl, e⟩
theorem optFs {β : Type} {o : Option (List (Nat × AV))} {f : List (Nat × AV) → Option β} {q : β} (e : (match o with | some p => f p | none => none) = some q) : ∃ p, o = some p ∧ f p = some q := by
  cases o with
  | none => exact xN e
  | some p => exact ⟨p, rfl, e⟩
theorem optVH {β : Type} {o : Option (AV × H)} {f : AV → H → Option β} {q : β} (e : (match o with | some (a, b) => f a b | none => none) = some q) : ∃ a b, o = some (a, b) ∧ f a b = some q := by
  cases o with
  | none => exact xN e
  | some p => exact ⟨p.1, p.2, rfl, e⟩
theorem optVsH {β : Type} {o : Option (List AV × H)} {f : List AV → H → Option β} {q : β} (e : (match o with | some (a, b) => f a b | none => none) = some q) : ∃ a b, o = some (a, b) ∧ f a b = some q := by
  cases o with
  | none => exact xN e
  | some p => exact ⟨p.1, p.2, rfl, e⟩
theorem optSH {β : Type} {o : Option (Src × H)} {f : Src → H → Option β} {q : β} (e : (match o with | some (a, b) => f a b | none => none) = some q) : ∃ a b, o = some (a, b) ∧ f a b = some q := by
  cases o with
  | none => exact xN e
  | some p => exact ⟨p.1, p.2, rfl, e⟩
theorem bool_inv {α : Type} {b : Bool} {f : Option α} {q : α} (e : (match b with | true => f | false => none) = some q) : b = true ∧ f = some q := by
  first | exact xN b | exact xS b | (obtain rfl := x1 b; clear b) | (obtain ⟨rfl, rfl⟩ := x2 b; clear b) | (obtain ⟨rfl, rfl, rfl⟩ := x3 b; clear b) | (exfalso; cases b; done) | cases b
  · exact xN e
  · exact ⟨rfl, e⟩
theorem true_inv {α : Type} {b : Bool} {f q : α} (e : (match b with | true => some f | false => none) = some q) : b = true ∧ q = f := by
  first | exact xN b | exact xS b | (obtain rfl := x1 b; clear b) | (obtain ⟨rfl, rfl⟩ := x2 b; clear b) | (obtain ⟨rfl, rfl, rfl⟩ := x3 b; clear b) | (exfalso; cases b; done) | cases b
  · exact xN e
  · exact ⟨rfl, x1 e⟩
theorem list_inv {α : Type} {o : Option AO} {f : List AV → Option α} {q : α} (e : (match o with | some (.list vs) => f vs | _ => none) = some q) : ∃ vs, o = some (.list vs) ∧ f vs = some q := by
  rcases o with _ | o
  · exact xN e
  cases o <;> first | exact xN e | exact ⟨_, rfl, e⟩
theorem dict_inv {α : Type} {o : Option AO} {f : List (AV × AV) → Option α} {q : α} (e : (match o with | some (.dict vs) => f vs | _ => none) = some q) : ∃ vs, o = some (.dict vs) ∧ f vs = some q := by
  rcases o with _ | o
  · exact xN e
  cases o <;> first | exact xN e | exact ⟨_, rfl, e⟩
theorem inst_inv {α : Type} {o : Option AO} {f : Nat → List (Nat × AV) → Option α} {q : α} (e : (match o with | some (.inst c fs) => f c fs | _ => none) = some q) : ∃ c fs, o = some (.inst c fs) ∧ f c fs = some q := by
  rcases o with _ | o
  · exact xN e
  cases o <;> first | exact xN e | exact ⟨_, _, rfl, e⟩
theorem loc_inv {α : Type} {v : AV} {f : Nat → Option α} {q : α} (e : (match v with | .loc i => f i | _ => none) = some q) : ∃ i, v = .loc i ∧ f i = some q := by
  cases v <;> first | exact xN e | exact ⟨_, rfl, e⟩
theorem int_inv {α : Type} {v : AV} {f : Int → Option α} {q : α} (e : (match v with | .int i => f i | _ => none) = some q) : ∃ i, v = .int i ∧ f i = some q := by
  cases v <;> first | exact xN e | exact ⟨_, rfl, e⟩
theorem str_inv {α : Type} {v : AV} {f : List Nat → Option α} {q : α} (e : (match v with | .str i => f i | _ => none) = some q) : ∃ i, v = .str i ∧ f i = some q := by
  cases v <;> first | exact xN e | exact ⟨_, rfl, e⟩
theorem tup_inv {α : Type} {v : AV} {f : List AV → Option α} {q : α} (e : (match v with | .tup i => f i | _ => none) = some q) : ∃ i, v = .tup i ∧ f i = some q := by
  cases v <;> first | exact xN e | exact ⟨_, rfl, e⟩

set_option genInjectivity false in
structure G where
  prog : Program
  w : World
  K : Frag
  rho : Nat → Int
  sig : Nat → Str
  fa : Nat → Addr
  ca : Nat → Addr
  bv : Nat → Value
  xt : Nat → List Int
  sc : Addr × List Value × Nat

structure Wd where
  X : Led
  mp : List (Nat × Addr)
noncomputable def Wd.le (a b : Wd) : Prop := (∀ p ∈ a.X, p ∈ b.X) ∧ ∀ p ∈ a.mp, p ∈ b.mp
theorem Wd.le.refl (a : Wd) : a.le a := ⟨fun _ h => h, fun _ h => h⟩
theorem Wd.le.trans {a b c : Wd} (h : a.le b) (k : b.le c) : a.le c := ⟨fun _ x => k.1 _ (h.1 _ x), fun _ x => k.2 _ (h.2 _ x)⟩

noncomputable def TupIn (g : G) (W : Wd) (a : Addr) (ws : List Value) : Prop := (∃ n, (a, tupObj ws n) ∈ W.X) ∨ ∃ n, g.K.lookup a = some (tupObj ws n)
theorem TupIn.mono {g : G} {W W' : Wd} {a : Addr} {ws : List Value} (h : TupIn g W a ws) (l : W.le W') : TupIn g W' a ws := h.imp (fun ⟨n, x⟩ => ⟨n, l.1 _ x⟩) id

noncomputable def ExtIn (g : G) (W : Wd) (k : Nat) (v : Value) : Prop := ∃ a ws n, v = .ref a ∧ ((a, lstObj ws n) ∈ W.X ∨ (k = 0 ∧ (a, ws, n) = g.sc)) ∧ IntsAre ws (g.xt k)

mutual
inductive VR (g : G) (W : Wd) : AV → Value → Prop
  | none : VR g W .none .none
  | bool (b : Bool) : VR g W (.bool b) (.bool b)
  | int (i : Int) (t : Tok) : VR g W (.int i) (.int i t)
  | isym (k : Nat) (t : Tok) : VR g W (.isym k) (.int (g.rho k) t)
  | str (cs : List Nat) (t : Tok) : strB cs = true → VR g W (.str cs) (.str ⟨cs.toArray⟩ t)
  | ssym (k : Nat) (t : Tok) : VR g W (.ssym k) (.str (g.sig k) t)
  | strU (x : Str) (t : Tok) : x.length ≤ 1048576 → VR g W .strU (.str x t)
  | tup {vs : List AV} {a : Addr} {ws : List Value} : TupIn g W a ws → VRs g W vs ws → dep 8 (.tup vs) = true → VR g W (.tup vs) (.ref a)
  | loc {i : Nat} {a : Addr} : (2 * i, a) ∈ W.mp → VR g W (.loc i) (.ref a)
  | fn (k : Nat) : VR g W (.fn k) (.ref (g.fa k))
  | cls (k : Nat) : VR g W (.cls k) (.ref (g.ca k))
  | bi (k : Nat) : VR g W (.bi k) (g.bv k)
  | ext {k : Nat} {v : Value} : ExtIn g W k v → VR g W (.ext k) v
inductive VRs (g : G) (W : Wd) : List AV → List Value → Prop
  | nil : VRs g W [] []
  | cons {v : AV} {vs : List AV} {u : Value} {us : List Value} : VR g W v u → VRs g W vs us → VRs g W (v :: vs) (u :: us)
end
section
variable {g : G} {W W' : Wd}
theorem VRs.c {a : AV} {as : List AV} {us : List Value} (h : VRs g W (a :: as) us) : ∃ u w, us = u :: w ∧ VR g W a u ∧ VRs g W as w := by cases h with | cons r1 r2 => exact ⟨_, _, rfl, r1, r2⟩
theorem VRs.n0 {us : List Value} (h : VRs g W [] us) : us = [] := by cases h; rfl
theorem VRs.n1 {a : AV} {us : List Value} (h : VRs g W [a] us) : ∃ u, us = [u] ∧ VR g W a u := by cases h with | cons r1 r2 => cases r2; exact ⟨_, rfl, r1⟩
theorem VRs.n2 {a b : AV} {us : List Value} (h : VRs g W [a, b] us) : ∃ u v, us = [u, v] ∧ VR g W a u ∧ VR g W b v := by
  obtain ⟨u, w, rfl, r1, r2⟩ := h.c
  obtain ⟨v, rfl, q2⟩ := r2.n1
  exact ⟨u, v, rfl, r1, q2⟩
theorem VRs.n3 {a b c : AV} {us : List Value} (h : VRs g W [a, b, c] us) : ∃ u v w, us = [u, v, w] ∧ VR g W a u ∧ VR g W b v ∧ VR g W c w := by
  obtain ⟨u, w, rfl, r1, r2⟩ := h.c
  obtain ⟨v, w, rfl, q2, q3⟩ := r2.n2
  exact ⟨u, v, w, rfl, r1, q2, q3⟩
theorem VR.isN {u : Value} (h : VR g W .none u) : u = .none := by cases h; rfl
theorem VR.isB {b : Bool} {u : Value} (h : VR g W (.bool b) u) : u = .bool b := by cases h; rfl
theorem VR.isI {i : Int} {u : Value} (h : VR g W (.int i) u) : ∃ t, u = .int i t := by cases h; exact ⟨_, rfl⟩
theorem VR.isS {cs : List Nat} {u : Value} (h : VR g W (.str cs) u) : ∃ t, u = .str ⟨cs.toArray⟩ t ∧ strB cs = true := by cases h; exact ⟨_, rfl, by assumption⟩
theorem VR.isT {vs : List AV} {u : Value} (h : VR g W (.tup vs) u) : ∃ a ws, u = .ref a ∧ TupIn g W a ws ∧ VRs g W vs ws ∧ dep 8 (.tup vs) = true := by cases h; exact ⟨_, _, rfl, by assumption, by assumption, by assumption⟩
theorem VR.isL {i : Nat} {u : Value} (h : VR g W (.loc i) u) : ∃ a, u = .ref a ∧ (2 * i, a) ∈ W.mp := by cases h; exact ⟨_, rfl, by assumption⟩
theorem VR.isF {i : Nat} {u : Value} (h : VR g W (.fn i) u) : u = .ref (g.fa i) := by cases h; rfl
theorem VR.isC {i : Nat} {u : Value} (h : VR g W (.cls i) u) : u = .ref (g.ca i) := by cases h; rfl
theorem VR.isBi {i : Nat} {u : Value} (h : VR g W (.bi i) u) : u = g.bv i := by cases h; rfl
theorem VR.isX {i : Nat} {u : Value} (h : VR g W (.ext i) u) : ExtIn g W i u := by cases h; assumption
theorem VR.isZ {i : Nat} {u : Value} (h : VR g W (.ssym i) u) : ∃ t, u = .str (g.sig i) t := by cases h; exact ⟨_, rfl⟩
theorem VR.isK {i : Nat} {u : Value} (h : VR g W (.isym i) u) : ∃ t, u = .int (g.rho i) t := by cases h; exact ⟨_, rfl⟩
/-- by what a value is made of -/
theorem VR.ind {P : AV → Value → Prop} {Q : List AV → List Value → Prop} (a1 : P .none .none) (a2 : ∀ b, P (.bool b) (.bool b)) (a3 : ∀ i t, P (.int i) (.int i t)) (a4 : ∀ k t, P (.isym k) (.int (g.rho k) t))
    (a5 : ∀ cs t, strB cs = true → P (.str cs) (.str ⟨cs.toArray⟩ t)) (a6 : ∀ k t, P (.ssym k) (.str (g.sig k) t)) (a7 : ∀ x t, x.length ≤ 1048576 → P .strU (.str x t))
    (a8 : ∀ {vs a ws}, TupIn g W a ws → Q vs ws → dep 8 (.tup vs) = true → P (.tup vs) (.ref a)) (a9 : ∀ {i a}, (2 * i, a) ∈ W.mp → P (.loc i) (.ref a)) (a10 : ∀ k, P (.fn k) (.ref (g.fa k))) (a11 : ∀ k, P (.cls k) (.ref (g.ca k)))
    (a12 : ∀ k, P (.bi k) (g.bv k)) (a13 : ∀ {k v}, ExtIn g W k v → P (.ext k) v) (a14 : Q [] []) (a15 : ∀ {v vs u us}, P v u → Q vs us → Q (v :: vs) (u :: us)) :
    (∀ {v u}, VR g W v u → P v u) ∧ ∀ {vs us}, VRs g W vs us → Q vs us :=
  ⟨fun h => VR.rec (motive_1 := fun v u _ => P v u) (motive_2 := fun v u _ => Q v u) a1 a2 a3 a4 a5 a6 a7 (fun h _ d ih => a8 h ih d) (fun h => a9 h) a10 a11 a12 (fun h => a13 h) a14 (fun _ _ p q => a15 p q) h,
   fun h => VRs.rec (motive_1 := fun v u _ => P v u) (motive_2 := fun v u _ => Q v u) a1 a2 a3 a4 a5 a6 a7 (fun h _ d ih => a8 h ih d) (fun h => a9 h) a10 a11 a12 (fun h => a13 h) a14 (fun _ _ p q => a15 p q) h⟩
theorem VR.monos (l : W.le W') : (∀ {v : AV} {u : Value}, VR g W v u → VR g W' v u) ∧ ∀ {v : List AV} {u : List Value}, VRs g W v u → VRs g W' v u :=
  VR.ind .none .bool .int .isym .str .ssym .strU (fun h r d => .tup (h.mono l) r d) (fun h => .loc (l.2 _ h)) .fn .cls .bi (fun h => .ext (by
    obtain ⟨a, ws, n, e, h, q⟩ := h
    exact ⟨a, ws, n, e, h.imp (l.1 _) id, q⟩)) .nil .cons
theorem VR.mono (l : W.le W') {v : AV} {u : Value} (h : VR g W v u) : VR g W' v u := (VR.monos l).1 h
theorem VRs.mono (l : W.le W') {v : List AV} {u : List Value} (h : VRs g W v u) : VRs g W' v u := (VR.monos l).2 h
theorem VRs.length {vs : List AV} {us : List Value} (h : VRs g W vs us) : us.length = vs.length := by
  induction vs generalizing us with
  | nil => cases h; rfl
  | cons v vs ih => cases h with | cons _ r => simp [ih r]
theorem VRs.append {vs xs : List AV} {us ys : List Value} (h : VRs g W vs us) (k : VRs g W xs ys) : VRs g W (vs ++ xs) (us ++ ys) := by
  induction vs generalizing us with
  | nil => cases h; exact k
  | cons v vs ih => cases h with | cons h r => exact .cons h (ih r)
theorem VRs.get {vs : List AV} {us : List Value} (h : VRs g W vs us) {n : Nat} {v : AV} (e : nth vs n = some v) : ∃ u, us[n]? = some u ∧ VR g W v u := by
  induction vs generalizing us n with
  | nil => cases e
  | cons v vs ih =>
    cases h with
    | cons h r =>
      cases n with
      | zero => cases e; exact ⟨_, rfl, h⟩
      | succ n => exact ih r e
theorem nth_none {α : Type} {vs : List α} {n : Nat} : nth vs n = none ↔ vs.length ≤ n := by
  induction vs generalizing n with
  | nil => simp [nth]
  | cons v vs ih => cases n with
    | zero => simp [nth]
    | succ n => simp [nth, ih]
theorem nth_eq {α : Type} {vs : List α} {n : Nat} : nth vs n = vs[n]? := by
  induction vs generalizing n with
  | nil => simp [nth]
  | cons v vs ih => cases n with
    | zero => simp [nth]
    | succ n => simp [nth, ih]
theorem len_eq {α : Type} (vs : List α) : len vs = vs.length := by
  induction vs with
  | nil => rfl
  | cons v vs ih => simp [len, ih]
theorem VRs.none {vs : List AV} {us : List Value} (h : VRs g W vs us) {n : Nat} (e : nth vs n = Option.none) : us[n]? = Option.none := by
  rw [nth_none] at e
  rw [List.getElem?_eq_none]
  rw [h.length]; exact e
end
end Mine

set_option maxRecDepth 100000
namespace Mine
open PySem PySem.W PySem.Calls PySem.Spec PyProof.Rows

/-! ## keys of dicts: ints, truths, strs and tuples of them, at any depth below eight -/
inductive KD where
  | junk
  | int (i : Int)
  | str (x : Str)
  | tup (ks : List KD)

mutual
noncomputable def nk : PyData → KD
  | .none => .junk
  | .bool b => .int (if b then 1 else 0)
  | .int i => .int i
  | .str x => .str x
  | .tuple xs => .tup (nks xs)
  | .list _ => .junk
  | .dict _ => .junk
noncomputable def nks : List PyData → List KD
  | [] => []
  | x :: r => nk x :: nks r
end
mutual
noncomputable def goodK : PyData → Bool
  | .none => false
  | .bool _ => true
  | .int _ => true
  | .str x => PyData.strOk x
  | .tuple xs => goodKs xs
  | .list _ => false
  | .dict _ => false
noncomputable def goodKs : List PyData → Bool
  | [] => true
  | x :: r => goodK x && goodKs r
end
mutual
theorem eqv_nk : ∀ (d e : PyData), goodK d = true → goodK e = true → (PyData.eqv d e = true ↔ nk d = nk e)
  | .bool a, e, _, he => by cases e <;> simp_all [goodK, nk, PyData.eqv] <;> (cases a <;> simp_all) <;> rename_i b <;> cases b <;> simp_all
  | .int a, e, _, he => by cases e <;> simp_all [goodK, nk, PyData.eqv]
  | .str x, e, _, he => by cases e <;> simp_all [goodK, nk, PyData.eqv]
  | .tuple xs, e, hd, he => by
    cases e with
    | tuple ys => simp only [nk, PyData.eqv, KD.tup.injEq]; exact eqvAll_nk xs ys (by simpa [goodK] using hd) (by simpa [goodK] using he)
    | _ => simp_all [goodK, nk, PyData.eqv]
  | .none, _, h, _ => by simp [goodK] at h
  | .list _, _, h, _ => by simp [goodK] at h
  | .dict _, _, h, _ => by simp [goodK] at h
theorem eqvAll_nk : ∀ (xs ys : List PyData), goodKs xs = true → goodKs ys = true → (PyData.eqvAll xs ys = true ↔ nks xs = nks ys)
  | [], ys, _, _ => by cases ys <;> simp [PyData.eqvAll, nks]
  | x :: xs, ys, hx, hy => by
    cases ys with
    | nil => simp [PyData.eqvAll, nks]
    | cons y ys =>
      simp only [goodKs, Bool.and_eq_true] at hx hy
      simp only [PyData.eqvAll, Bool.and_eq_true, nks, List.cons.injEq, eqv_nk x y hx.1 hy.1, eqvAll_nk xs ys hx.2 hy.2]
end
mutual
theorem good_lay : ∀ d : PyData, goodK d = true → d.canLay0 = true
  | .bool _, _ => rfl
  | .int _, _ => rfl
  | .str _, h => h
  | .tuple xs, h => goods_lay xs (by simpa [goodK] using h)
  | .none, h => by simp [goodK] at h
  | .list _, h => by simp [goodK] at h
  | .dict _, h => by simp [goodK] at h
theorem goods_lay : ∀ xs : List PyData, goodKs xs = true → PyData.canLayAll0 xs = true
  | [], _ => rfl
  | x :: xs, h => by
    simp only [goodKs, Bool.and_eq_true] at h
    simp [PyData.canLayAll0, good_lay x h.1, goods_lay xs h.2]
end

section
variable {prog : Program} {w : World} {A : Around} {E : Value → Shared → Prop} {s : Shared}
mutual
noncomputable def hashK (w : World) : KD → Int
  | .junk => 0
  | .int i => hashInt i
  | .str x => hashStr w x
  | .tup ks => reduceHash (Builtin.Tuple.tupleHashOf (hashKs w ks))
noncomputable def hashKs (w : World) : List KD → List Int
  | [] => []
  | k :: r => hashK w k :: hashKs w r
end
mutual
noncomputable def drawsK : KD → Nat
  | .junk => 1
  | .int _ => 1
  | .str _ => 1
  | .tup ks => drawsKs ks + 1
noncomputable def drawsKs : List KD → Nat
  | [] => 0
  | k :: r => drawsK k + drawsKs r
end

theorem pyHash_bool {b : Bool} {Q : Int → Shared → Prop} (h : Q (hashInt (if b then 1 else 0)) { s with toks := s.toks + 1 }) : wpAny (model prog w) A (pyHash (.bool b)) Q E s := by
  have hT : s.TypeIs (.bool b) "bool" := rfl
  unfold pyHash
  have hv : [Value.bool b].any Value.onHeap = false := rfl
  refine wpAny_bind ?_
  rw [cRoomFor, if_neg (by rw [hv]; exact Bool.false_ne_true)]; refine wpAny_pure ?_
  refine wpAny_bind (wpAny_specialOf hT F.slot_bool_hash.lookup ?_)
  show wpAny _ _ (if (some (Value.builtin "int.__hash__") == some Value.none) = true then _ else _) Q E s
  rw [if_neg (by rw [beq_builtin_none]; exact Bool.false_ne_true)]
  refine wpAny_bind (wpAny_specialOf hT F.slot_bool_hash.lookup ?_)
  show wpAny _ _ (callSpecialIfBoundUnlessNone? (.bool b) "__hash__" _ >>= _) Q E s
  refine wpAny_bind (wpAny_callSpecialIfBoundUnlessNone?_slot hT F.slot_bool_hash
    (wpAny_call_entry F.slot_bool_hash hT F.entry_int_hash ?_ (F.args_int_hash_1 _)))
  first | exact xN b | exact xS b | (obtain rfl := x1 b; clear b) | (obtain ⟨rfl, rfl⟩ := x2 b; clear b) | (obtain ⟨rfl, rfl, rfl⟩ := x3 b; clear b) | (exfalso; cases b; done) | cases b
  · show wpAny _ _ (do ret (← mkInt (rawHash 0))) _ _ s
    refine wpAny_ret_mkInt ?_
    have hr := rawHash_range 0
    show wpAny _ _ (if (decide (-(2 : Int) ^ 63 ≤ rawHash 0) && decide (rawHash 0 < 2 ^ 63)) = true then _ else _) Q E _
    rw [if_pos (by rw [decide_eq_true hr.1, decide_eq_true hr.2]; rfl)]
    exact wpAny_pure h
  · show wpAny _ _ (do ret (← mkInt (rawHash 1))) _ _ s
    refine wpAny_ret_mkInt ?_
    have hr := rawHash_range 1
    show wpAny _ _ (if (decide (-(2 : Int) ^ 63 ≤ rawHash 1) && decide (rawHash 1 < 2 ^ 63)) = true then _ else _) Q E _
    rw [if_pos (by rw [decide_eq_true hr.1, decide_eq_true hr.2]; rfl)]
    exact wpAny_pure h
end
section
variable {prog : Program} {w : World}

noncomputable def HashAt (prog : Program) (w : World) (d : PyData) : Prop := ∀ (A : Around) (E : Value → Shared → Prop) (s : Shared) (v : Value) (as : List Addr) (Q : Int → Shared → Prop),
  Reads s.heap v d as → goodK d = true → A.units + d.depth < cLine → Q (hashK w (nk d)) { s with toks := s.toks + drawsK (nk d) } → wpAny (model prog w) A (pyHash v) Q E s

theorem nks_append (xs ys : List PyData) : nks (xs ++ ys) = nks xs ++ nks ys := by
  induction xs with
  | nil => rfl
  | cons x xs ih => simp [nks, ih]
theorem hashKs_append (xs ys : List KD) : hashKs w (xs ++ ys) = hashKs w xs ++ hashKs w ys := by
  induction xs with
  | nil => rfl
  | cons x xs ih => simp [hashKs, ih]
theorem drawsKs_append (xs ys : List KD) : drawsKs (xs ++ ys) = drawsKs xs + drawsKs ys := by
  induction xs with
  | nil => simp [drawsKs]
  | cons x xs ih => simp [drawsKs, ih, Nat.add_assoc]
theorem goodKs_mem {xs : List PyData} (h : goodKs xs = true) : ∀ x ∈ xs, goodK x = true := by
  induction xs with
  | nil => intro x hx; cases hx
  | cons y ys ih =>
    simp only [goodKs, Bool.and_eq_true] at h
    intro x hx
    rcases List.mem_cons.mp hx with rfl | hx
    · exact h.1
    · exact ih h.2 x hx
theorem depth_mem {xs : List PyData} : ∀ x ∈ xs, x.depth ≤ PyData.depthAll xs := by
  induction xs with
  | nil => intro x hx; cases hx
  | cons y ys ih =>
    intro x hx
    rcases List.mem_cons.mp hx with rfl | hx
    · exact Nat.le_max_left _ _
    · exact Nat.le_trans (ih x hx) (Nat.le_max_right _ _)

theorem hash_tuple {xs : List PyData} (ih : ∀ x ∈ xs, HashAt prog w x) : HashAt prog w (.tuple xs) := by
  intro A E s v as Q r hg hu h
  cases r with
  | @tuple a o vs n _ _ ho hc hd hr =>
  have hT : s.TypeIs (.ref a) "tuple" := ⟨o, ho, hc⟩
  have hg' : goodKs xs = true := by simpa [goodK] using hg
  have hdep : (PyData.tuple xs).depth = PyData.depthAll xs + 1 := by simp [PyData.depth]
  unfold pyHash
  first | unfold pyHashByItsType | skip
  first | refine wpAny_bind (wpAny_cRoomFor_or (.inr (by omega)) ?_) | skip
  refine wpAny_bind (wpAny_specialOf hT F.slot_tuple_hash.lookup ?_)
  show wpAny _ _ (if (some (Value.builtin "tuple.__hash__") == some Value.none) = true then _ else _) Q E s
  rw [if_neg (by rw [beq_builtin_none]; exact Bool.false_ne_true)]
  refine wpAny_bind (wpAny_specialOf hT F.slot_tuple_hash.lookup ?_)
  show wpAny _ _ (callSpecialIfBoundUnlessNone? (.ref a) "__hash__" _ >>= _) Q E s
  refine wpAny_bind (wpAny_callSpecialIfBoundUnlessNone?_slot hT F.slot_tuple_hash (wpAny_call_entry F.slot_tuple_hash hT F.entry_tuple_hash ?_ (F.args_tuple_hash_1 _)))
  show wpAny _ _ (Builtin.Tuple.tupleItemsOf (.ref a) >>= _) _ _ s
  refine wpAny_bind (wpAny_tupleItemsOf ho hd ?_)
  refine wpAny_bind ?_
  rw [← Array.forIn_toList]
  refine wpAny_forIn_list _
    (fun rest (b : Array Int) s' => ∃ done left bs, xs = done ++ left ∧ ReadsAll s.heap rest left bs ∧ b.toList = hashKs w (nks done) ∧ s' = { s with toks := s.toks + drawsKs (nks done) })
    _ ?_ ?_ _ _ ⟨[], xs, as, rfl, hr, rfl, rfl⟩
  · rintro x rest b s' ⟨done, left, bs, hxs, hl, hb, rfl⟩
    cases hl with
    | @cons _ _ d ds as' bs' h1 h2 =>
      have hm : d ∈ xs := by rw [hxs]; simp
      have hdm := depth_mem d hm
      refine wpAny_bind (ih d hm _ _ _ _ _ _ h1 (goodKs_mem hg' d hm) (by show A.units + 1 + d.depth < cLine; omega) ?_)
      have key : ∃ done left bs, xs = done ++ left ∧ ReadsAll s.heap rest left bs ∧ (b.push (hashK w (nk d))).toList = hashKs w (nks done) ∧
          ({ s with toks := s.toks + drawsKs (nks done) } : Shared) = { s with toks := s.toks + drawsKs (nks done) } := ⟨done ++ [d], ds, bs', by rw [hxs]; simp, h2, by simp [hb, nks_append, hashKs_append, nks, hashKs], rfl⟩
      first
        | exact wpAny_pure ⟨done ++ [d], ds, bs', by rw [hxs]; simp, h2, by simp [hb, nks_append, hashKs_append, nks, hashKs], by simp [nks_append, drawsKs_append, nks, drawsKs, Nat.add_assoc]⟩
        | exact wpAny_bind (wpAny_pure (wpAny_pure ⟨done ++ [d], ds, bs', by rw [hxs]; simp, h2, by simp [hb, nks_append, hashKs_append, nks, hashKs], by simp [nks_append, drawsKs_append, nks, drawsKs, Nat.add_assoc]⟩))
  · rintro b s' ⟨done, left, bs, hxs, hl, hb, rfl⟩
    first | exact xN hl | exact xS hl | (obtain rfl := x1 hl; clear hl) | (obtain ⟨rfl, rfl⟩ := x2 hl; clear hl) | (obtain ⟨rfl, rfl, rfl⟩ := x3 hl; clear hl) | (exfalso; cases hl; done) | cases hl
    rw [List.append_nil] at hxs
    subst hxs
    show wpAny _ _ (retInt (Builtin.Tuple.tupleHashOf b.toList)) _ _ _
    rw [hb]
    simp only [nk, hashK, drawsK] at h
    refine wpAny_ret_mkInt ?_
    show wpAny _ _ (if (decide (-(2 : Int) ^ 63 ≤ Builtin.Tuple.tupleHashOf (hashKs w (nks xs))) && decide (Builtin.Tuple.tupleHashOf (hashKs w (nks xs)) < 2 ^ 63)) = true then _ else _) Q E _
    unfold reduceHash at h
    by_cases hr : (decide (-(2 : Int) ^ 63 ≤ Builtin.Tuple.tupleHashOf (hashKs w (nks xs))) && decide (Builtin.Tuple.tupleHashOf (hashKs w (nks xs)) < 2 ^ 63)) = true
    · rw [if_pos hr]
      rw [if_pos hr] at h
      exact wpAny_pure (by simpa [Nat.add_assoc] using h)
    · rw [if_neg hr]
      rw [if_neg hr] at h
      exact wpAny_bind (wpAny_rule (wpAny_pure (by simpa [Nat.add_assoc] using h)))
mutual
theorem hash_data : ∀ d : PyData, HashAt prog w d
  | .bool b => fun A E s v as Q r hg hu h => by cases r; exact pyHash_bool h
  | .int i => fun A E s v as Q r hg hu h => by cases r; exact wpAny_pyHash_int h
  | .str x => fun A E s v as Q r hg hu h => by cases r; exact wpAny_pyHash_str h
  | .tuple xs => hash_tuple (hash_datas xs)
  | .none => fun A E s v as Q r hg => by simp [goodK] at hg
  | .list _ => fun A E s v as Q r hg => by simp [goodK] at hg
  | .dict _ => fun A E s v as Q r hg => by simp [goodK] at hg
theorem hash_datas : ∀ xs : List PyData, ∀ x ∈ xs, HashAt prog w x
  | [], _, h => nomatch h
  | x :: xs, y, h => (List.mem_cons.mp h).elim (fun e => e ▸ hash_data x) (fun h => hash_datas xs y h)
end

theorem quiet_data : ∀ (n : Nat) (d : PyData) (A : Around) (E : Value → Shared → Prop) (s : Shared) (v : Value) (as : List Addr) (Q : Bool → Shared → Prop),
    Reads s.heap v d as → goodK d = true → d.depth ≤ n → Q true s → wpAny (model prog w) A (eqIsQuiet n v) Q E s := by
  intro n
  induction n with
  | zero =>
    intro d A E s v as Q r hg hd h
    cases r with
    | tuple => simp [PyData.depth] at hd
    | list => simp [goodK] at hg
    | dict => simp [goodK] at hg
    | _ => rw [eqIsQuiet_byValue _ rfl]; exact wpAny_pure h
  | succ n ih =>
    intro d A E s v as Q r hg hd h
    cases r with
    | list => simp [goodK] at hg
    | dict => simp [goodK] at hg
    | @tuple a o vs k xs _ ho hc hdt hr =>
      have hT : s.TypeIs (.ref a) "tuple" := ⟨o, ho, hc⟩
      have hg' : goodKs xs = true := by simpa [goodK] using hg
      have hdd : PyData.depthAll xs ≤ n := by simp only [PyData.depth] at hd; omega
      unfold eqIsQuiet
      refine wpAny_bind (wpAny_specialOf hT F.slot_tuple_eq.lookup ?_)
      show wpAny _ _ (isInstance (.ref a) (.type "tuple") >>= _) _ _ s
      refine wpAny_bind (wpAny_isInstance hT isSubtype_tuple_tuple ?_)
      (try simp only [Bool.not_true, Bool.false_eq_true, if_false])
      refine wpAny_bind (wpAny_seqItems ho hdt ?_)
      refine wpAny_bind ?_
      show wpAny _ _ (forIn vs _ _) _ _ s
      rw [← Array.forIn_toList]
      refine wpAny_forIn_list _ (fun rest r s' => r.1 = none ∧ s' = s ∧ ∃ ds bs, ReadsAll s.heap rest ds bs ∧ (∀ x ∈ ds, x ∈ xs)) _ ?_ ?_ _ _ ⟨rfl, rfl, xs, _, hr, fun _ hx => hx⟩
      · rintro v rest r s' ⟨hr, rfl, ds, bs, hra, hsub⟩
        cases hra with
        | cons h1 h2 =>
          have hm := hsub _ List.mem_cons_self
          refine wpAny_bind (ih _ _ _ _ _ _ _ h1 (goodKs_mem hg' _ hm) (Nat.le_trans (depth_mem _ hm) hdd) ?_)
          (try simp only [Bool.not_true, Bool.false_eq_true, if_false])
          exact wpAny_pure ⟨rfl, rfl, _, _, h2, fun x hx => hsub x (List.mem_cons_of_mem _ hx)⟩
      · rintro ⟨r1, r2⟩ s' ⟨hr1, rfl, _⟩
        have hr2 : r1 = none := hr1
        subst hr2
        exact wpAny_pure h
    | _ => rw [eqIsQuiet_byValue _ rfl]; exact wpAny_pure h
end
section
theorem reads_keeps {h h' : Heap} (k : ∀ b o vs n, h.get? b = some o → o.cls = .type "tuple" → o.data = .seq vs n → h'.get? b = some o) {d : PyData} {v : Value} {as : List Addr} (r : Reads h v d as) (hg : goodK d = true) : Reads h' v d as := by
  have no : ∀ {d : PyData} {v : Value} {as : List Addr}, goodK d = false → goodK d = true → Reads h' v d as := fun a b => absurd (a.symm.trans b) Bool.false_ne_true
  refine Reads.rec (motive_1 := fun v d as _ => goodK d = true → Reads h' v d as) (motive_2 := fun vs ds as _ => goodKs ds = true → ReadsAll h' vs ds as) (fun _ => .none) (fun b _ => .bool b) (fun i t _ => .int i t) (fun x t _ => .str x t) ?_ ?_ ?_ (fun _ => .nil) ?_ r hg
  · intros; exact no rfl (by assumption)
  · intro a o vs n xs as h1 h2 h3 _ ih hg
    exact .tuple (k _ _ _ _ h1 h2 h3) h2 h3 (ih (by simpa [goodK] using hg))
  · intros; exact no rfl (by assumption)
  · intro v vs d ds as bs _ _ ih1 ih2 hg
    simp only [goodKs, Bool.and_eq_true] at hg
    exact .cons (ih1 hg.1) (ih2 hg.2)
noncomputable instance : DecidableEq KD := fun a b => Classical.propDecidable (a = b)

noncomputable def KIs (h : Heap) (k : KD) (a : Addr) : Prop := ∃ d as, Reads h (.ref a) d as ∧ goodK d = true ∧ d.depth ≤ 8 ∧ nk d = k
theorem KIs.tuple {h : Heap} {k : KD} {a : Addr} (x : KIs h k a) : ∃ o, h.get? a = some o ∧ o.cls = .type "tuple" := by
  obtain ⟨d, as, r, hg, _⟩ := x
  cases r with
  | tuple h1 h2 h3 h4 => exact ⟨_, h1, h2⟩
  | list => simp [goodK] at hg
  | dict => simp [goodK] at hg

noncomputable def keyKind (prog : Program) (w : World) : HeapKind prog w KD where
  is := KIs
  hash := hashK w
  draws := drawsK
  room := fun A => A.units + 64 < cLine
  inj := by
    rintro h a x y ⟨d, as, r, hg, _, rfl⟩ ⟨d', as', r', hg', _, rfl⟩
    rw [SeqAt.Reads.unique d d' _ _ _ (good_lay d hg) r r']
  keeps := by
    rintro h h' k a b o es ep ⟨d, as, r, hg, hd, rfl⟩ ho hdat hs
    refine ⟨d, as, reads_keeps (fun c oc vs n hc hcl hsq => ?_) r hg, hg, hd, rfl⟩
    by_cases e : c = b
    · subst e
      rw [ho] at hc
      first | exact xN hc | exact xS hc | (obtain rfl := x1 hc; clear hc) | (obtain ⟨rfl, rfl⟩ := x2 hc; clear hc) | (obtain ⟨rfl, rfl, rfl⟩ := x3 hc; clear hc) | (exfalso; cases hc; done) | cases hc
      rw [hdat] at hsq
      first | exact xN hsq | exact xS hsq | (obtain rfl := x1 hsq; clear hsq) | (obtain ⟨rfl, rfl⟩ := x2 hsq; clear hsq) | (obtain ⟨rfl, rfl, rfl⟩ := x3 hsq; clear hsq) | (exfalso; cases hsq; done) | cases hsq
    · exact (hs.2 c e).trans hc
  pyHash := by
    rintro A E s k a Q hu ⟨d, as, r, hg, hd, rfl⟩ h
    exact hash_data d A E s _ as Q r hg (by omega) h
  eqBool := by
    rintro A E s x y a b Q hu ⟨d, as, r, hg, hd, rfl⟩ ⟨d', as', r', hg', hd', rfl⟩ h
    refine SeqAt.eqBoolOverData prog w A E s _ _ d d' as as' Q r r' (good_lay d hg) (good_lay d' hg') (by have := Nat.min_le_left d.depth d'.depth; omega) ?_
    have e : PyData.eqv d d' = decide (nk d = nk d') := by
      by_cases q : nk d = nk d'
      · rw [decide_eq_true q]; exact (eqv_nk d d' hg hg').mpr q
      · rw [decide_eq_false q]; exact Bool.eq_false_iff.mpr fun z => q ((eqv_nk d d' hg hg').mp z)
    rw [e]; exact h
  quiet := by
    rintro A E s k a Q ⟨d, as, r, hg, hd, rfl⟩ h
    exact quiet_data 8 d A E s _ as Q r hg hd h
end
end Mine

set_option maxRecDepth 100000
namespace Mine
open PySem PySem.W PySem.Calls PySem.Spec PyProof.Rows

/-! ## values as data; equality -/
theorem strF_ok : ∀ {f : Nat} {cs : List Nat}, strF f cs = true → (∀ c ∈ cs, c < 1114112) ∧ cs.length < f
  | 0, _, h => by cases h
  | f + 1, [], _ => ⟨(fun _ h => nomatch h), Nat.succ_pos _⟩
  | f + 1, c :: r, h => by
    have h' : (match Nat.blt c 1114112 with | true => strF f r | false => false) = true := h
    split at h'
    · rename_i q
      obtain ⟨a, b⟩ := strF_ok h'
      refine ⟨fun x hx => ?_, Nat.succ_lt_succ b⟩
      rcases List.mem_cons.mp hx with rfl | hx
      · exact Nat.le_of_ble_eq_true q
      · exact a x hx
    · first | exact xN h' | exact xS h' | (obtain rfl := x1 h'; clear h') | (obtain ⟨rfl, rfl⟩ := x2 h'; clear h') | (obtain ⟨rfl, rfl, rfl⟩ := x3 h'; clear h') | (exfalso; cases h'; done) | cases h'
theorem strB_ok {cs : List Nat} (h : strB cs = true) : PyData.strOk ⟨cs.toArray⟩ = true := by
  obtain ⟨a, _⟩ := strF_ok h
  unfold PyData.strOk
  rw [← Array.all_toList, List.all_eq_true]
  intro c hc
  exact decide_eq_true (a c hc)
theorem strB_len {cs : List Nat} (h : strB cs = true) : cs.length < 100000 := (strF_ok h).2
theorem short_len {α : Type} : ∀ {f : Nat} {l : List α}, short f l = true → l.length < f
  | 0, _, h => by cases h
  | f + 1, [], _ => Nat.succ_pos _
  | f + 1, _ :: r, h => Nat.succ_lt_succ (short_len (l := r) h)

/-- the int a value stands for -/
noncomputable def iv (g : G) : AV → Option Int
  | .int i => some i
  | .isym k => some (g.rho k)
  | _ => none
/-- the str a value stands for -/
noncomputable def sv (g : G) : AV → Option Str
  | .str cs => some ⟨cs.toArray⟩
  | .ssym k => some (g.sig k)
  | _ => none
noncomputable def cmpI : CmpOp → Int → Int → Option Bool
  | .Eq, i, j => some (i == j)
  | .Lt, i, j => some (decide (i < j))
  | .LtE, i, j => some (decide (i ≤ j))
  | .Gt, i, j => some (decide (j < i))
  | .GtE, i, j => some (decide (j ≤ i))
  | _, _, _ => none
inductive OpI : Operator → Int → Int → Int → Prop
  | add (i j : Int) : OpI .Add i j (i + j)
  | sub (i j : Int) : OpI .Sub i j (i - j)
  | mul (i j : Int) : i.natAbs < 18446744073709551616 → OpI .Mult i j (i * j)
  | fmod (i j : Int) : j ≠ 0 → OpI .Mod i j (i.fmod j)
  | shl (m n : Nat) : n < 200 → m < 18446744073709551616 → OpI .LShift (.ofNat m) (.ofNat n) (.ofNat (m <<< n))
  | shr (m n : Nat) : OpI .RShift (.ofNat m) (.ofNat n) (.ofNat (m >>> n))
  | and (m n : Nat) : OpI .BitAnd (.ofNat m) (.ofNat n) (.ofNat (m &&& n))
  | or (m n : Nat) : OpI .BitOr (.ofNat m) (.ofNat n) (.ofNat (m ||| n))

/-- what a hint for an operation may say -/
inductive HintB (g : G) (op : Operator) (a b v : AV) : Prop
  | int (i j k : Int) : iv g a = some i → iv g b = some j → iv g v = some k → OpI op i j k → HintB g op a b v
  | cat (x y : Str) (n : Nat) : op = .Add → sv g a = some x → sv g b = some y → v = .ssym n → g.sig n = x ++ y → HintB g op a b v
  | rep (x : Str) (k n : Nat) : op = .Mult → sv g a = some x → iv g b = some (k : Int) → 1 ≤ k → k ≤ 100 → x.length = 1 → v = .ssym n → g.sig n = ⟨(List.replicate k x.cps).foldl (· ++ ·) #[]⟩ → HintB g op a b v
structure OkV (C : Cfg) (g : G) : Prop where
  sig : ∀ k, PyData.strOk (g.sig k) = true ∧ (g.sig k).length ≤ 100
  bin : ∀ op a b v, C.hbin op a b = some v → HintB g op a b v
  sub : ∀ v i w, C.hsub v i = some w → ∃ vs k el, v = .tup vs ∧ iv g i = some ((k : Nat) : Int) ∧ k < 1000 ∧ nth vs k = some el ∧ ∀ W u, VR g W el u → VR g W w u
  fmt : ∀ v w, C.hfmt v = some w → ∃ k j, v = .isym k ∧ w = .ssym j ∧ g.sig j = Str.ofString (toString (g.rho k)) ∧ (g.rho k).natAbs < 1000000
  cmp : ∀ op a b r, C.hcmp op a b = some r → ∃ i j, iv g a = some i ∧ iv g b = some j ∧ cmpI op i j = some r

mutual
noncomputable def pd (g : G) : AV → Option PyData
  | .none => some .none
  | .bool b => some (.bool b)
  | .int i => some (.int i)
  | .isym k => some (.int (g.rho k))
  | .str cs => some (.str ⟨cs.toArray⟩)
  | .ssym k => some (.str (g.sig k))
  | .tup vs => (pds g vs).map .tuple
  | _ => none
noncomputable def pds (g : G) : List AV → Option (List PyData)
  | [] => some []
  | v :: r => match pd g v, pds g r with
    | some d, some ds => some (d :: ds)
    | _, _ => none
end
section
variable {g : G} {W : Wd} {h : Heap}
/-- what is asked of a heap so that the world's tuples stand in it -/
noncomputable def Tups (g : G) (W : Wd) (h : Heap) : Prop := ∀ a ws, TupIn g W a ws → IsTup h a ws.toArray
theorem none_some {α : Type} {a : α} {P : Prop} (e : Option.none = some a) : P := nomatch e
theorem VR.readsB {C : Cfg} (O : OkV C g) (T : Tups g W h) : (∀ {v : AV} {u : Value}, VR g W v u → ∀ d, pd g v = some d → (∃ as, Reads h u d as) ∧ d.canLay0 = true) ∧ ∀ {v : List AV} {u : List Value}, VRs g W v u → ∀ d, pds g v = some d → (∃ as, ReadsAll h u d as) ∧ PyData.canLayAll0 d = true := by
  have one : ∀ {v : AV} {u : Value} {x : PyData}, pd g v = some x → ((∃ as, Reads h u x as) ∧ x.canLay0 = true) → ∀ d, pd g v = some d → (∃ as, Reads h u d as) ∧ d.canLay0 = true := fun e k d e' => by
    rw [← Option.some.inj (e.symm.trans e')]; exact k
  have no : ∀ {v : AV} {u : Value}, pd g v = Option.none → ∀ d, pd g v = some d → (∃ as, Reads h u d as) ∧ d.canLay0 = true := fun e d e' => none_some (e.symm.trans e')
  refine VR.ind (one rfl ⟨⟨_, .none⟩, rfl⟩) (fun b => one rfl ⟨⟨_, .bool b⟩, rfl⟩) (fun i t => one rfl ⟨⟨_, .int i t⟩, rfl⟩) (fun k t => one rfl ⟨⟨_, .int _ t⟩, rfl⟩) (fun c t q => one rfl ⟨⟨_, .str _ t⟩, strB_ok q⟩) (fun k t => one rfl ⟨⟨_, .str _ t⟩, (O.sig k).1⟩)
    (fun _ _ _ => no rfl) (fun ht ih _ d e => ?_) (fun _ => no rfl) (fun _ => no rfl) (fun _ => no rfl) (fun _ => no rfl) (fun _ => no rfl) (fun d e => ?_) (fun ih1 ih2 d e => ?_)
  · simp only [pd, Option.map_eq_some_iff] at e
    obtain ⟨ds, e, rfl⟩ := e
    obtain ⟨⟨as, q⟩, l⟩ := ih ds e
    obtain ⟨o, ho, hc, n, hd⟩ := T _ _ ht
    exact ⟨⟨as, .tuple ho hc hd (by simpa using q)⟩, l⟩
  · rw [← Option.some.inj (show some [] = some d from e)]; exact ⟨⟨_, .nil⟩, rfl⟩
  · simp only [pds] at e
    split at e
    · rename_i d ds e1 e2
      first | exact xN e | exact xS e | (obtain rfl := x1 e; clear e) | (obtain ⟨rfl, rfl⟩ := x2 e; clear e) | (obtain ⟨rfl, rfl, rfl⟩ := x3 e; clear e) | (exfalso; cases e; done) | cases e
      obtain ⟨⟨as, x⟩, l⟩ := ih1 _ e1
      obtain ⟨⟨bs, y⟩, l'⟩ := ih2 _ e2
      exact ⟨⟨_, .cons x y⟩, by simp [PyData.canLayAll0, l, l']⟩
    · first | exact xN e | exact xS e | (obtain rfl := x1 e; clear e) | (obtain ⟨rfl, rfl⟩ := x2 e; clear e) | (obtain ⟨rfl, rfl, rfl⟩ := x3 e; clear e) | (exfalso; cases e; done) | cases e
theorem VR.reads {C : Cfg} (O : OkV C g) (T : Tups g W h) {v : AV} {u : Value} {d : PyData} (r : VR g W v u) (e : pd g v = some d) : (∃ as, Reads h u d as) ∧ d.canLay0 = true := (VR.readsB O T).1 r d e
theorem VRs.reads {C : Cfg} (O : OkV C g) (T : Tups g W h) {v : List AV} {u : List Value} {d : List PyData} (r : VRs g W v u) (e : pds g v = some d) : (∃ as, ReadsAll h u d as) ∧ PyData.canLayAll0 d = true := (VR.readsB O T).2 r d e
theorem deps_iff {f : AV → Bool} : ∀ {vs : List AV}, deps f vs = true ↔ ∀ v ∈ vs, f v = true
  | [] => by simp [deps]
  | v :: r => by
    have := @deps_iff f r
    unfold deps
    split
    · rename_i q; rw [this]; simp [q]
    · rename_i q; simp [q]
mutual
theorem pd_depth : ∀ {v : AV} {d : PyData} {n : Nat}, pd g v = some d → dep n v = true → d.depth ≤ n
  | .none, _, _, e, _ => by simp only [pd, Option.some.injEq] at e; subst e; simp [PyData.depth]
  | .bool _, _, _, e, _ => by simp only [pd, Option.some.injEq] at e; subst e; simp [PyData.depth]
  | .int _, _, _, e, _ => by simp only [pd, Option.some.injEq] at e; subst e; simp [PyData.depth]
  | .isym _, _, _, e, _ => by simp only [pd, Option.some.injEq] at e; subst e; simp [PyData.depth]
  | .str _, _, _, e, _ => by simp only [pd, Option.some.injEq] at e; subst e; simp [PyData.depth]
  | .ssym _, _, _, e, _ => by simp only [pd, Option.some.injEq] at e; subst e; simp [PyData.depth]
  | .tup vs, _, 0, _, q => by cases q
  | .tup vs, _, n + 1, e, q => by
    simp only [pd, Option.map_eq_some_iff] at e
    obtain ⟨ds, e, rfl⟩ := e
    have q' : deps (dep n) vs = true := q
    simp only [PyData.depth]
    have := pds_depth (n := n) e (deps_iff.mp q')
    omega
  | .strU, _, _, e, _ | .loc _, _, _, e, _ | .fn _, _, _, e, _ | .cls _, _, _, e, _ | .bi _, _, _, e, _ | .ext _, _, _, e, _ | .any, _, _, e, _ => by simp [pd] at e
theorem pds_depth : ∀ {v : List AV} {d : List PyData} {n : Nat}, pds g v = some d → (∀ x ∈ v, dep n x = true) → PyData.depthAll d ≤ n
  | [], _, _, e, _ => by simp only [pds, Option.some.injEq] at e; subst e; simp [PyData.depthAll]
  | v :: r, _, n, e, q => by
    simp only [pds] at e
    split at e
    · rename_i d ds e1 e2
      first | exact xN e | exact xS e | (obtain rfl := x1 e; clear e) | (obtain ⟨rfl, rfl⟩ := x2 e; clear e) | (obtain ⟨rfl, rfl, rfl⟩ := x3 e; clear e) | (exfalso; cases e; done) | cases e
      simp only [PyData.depthAll]
      exact Nat.max_le.mpr ⟨pd_depth e1 (q _ List.mem_cons_self), pds_depth e2 fun x hx => q x (List.mem_cons_of_mem _ hx)⟩
    · first | exact xN e | exact xS e | (obtain rfl := x1 e; clear e) | (obtain ⟨rfl, rfl⟩ := x2 e; clear e) | (obtain ⟨rfl, rfl, rfl⟩ := x3 e; clear e) | (exfalso; cases e; done) | cases e
end
theorem VR.deep {v : AV} {u : Value} {d : PyData} (r : VR g W v u) (e : pd g v = some d) : d.depth ≤ 8 := by
  cases r with
  | tup _ _ q => exact pd_depth e q
  | _ => exact pd_depth e rfl
end
theorem ibeq_eq (a b : Int) : ibeq a b = (a == b) := by
  cases a <;> cases b <;> simp [ibeq] <;> (rw [Bool.eq_iff_iff]; simp) <;> omega
theorem strBeq_eq : ∀ a b : List Nat, strBeq a b = (a == b)
  | [], [] => rfl
  | [], _ :: _ => rfl
  | _ :: _, [] => rfl
  | a :: r, b :: t => by
    show (match Nat.beq a b with | true => strBeq r t | false => false) = _
    rw [strBeq_eq r t, List.cons_beq_cons]
    cases q : Nat.beq a b with
    | true => rw [Nat.eq_of_beq_eq_true q]; simp
    | false => have := Nat.ne_of_beq_eq_false q; simp [this]
section
variable {g : G} {C : Cfg}
theorem iv_pd {v : AV} {i : Int} (e : iv g v = some i) : pd g v = some (.int i) := by
  cases v <;> simp only [iv, Option.some.injEq, reduceCtorEq] at e <;> subst e <;> rfl
mutual
theorem isD_pd : ∀ {n : Nat} {v : AV}, isD n v = true → ∃ d, pd g v = some d
  | 0, _, h => by cases h
  | n + 1, .bool _, _ => ⟨_, rfl⟩
  | n + 1, .int _, _ => ⟨_, rfl⟩
  | n + 1, .isym _, _ => ⟨_, rfl⟩
  | n + 1, .str _, _ => ⟨_, rfl⟩
  | n + 1, .tup vs, h => by
    obtain ⟨ds, e⟩ := isDs_pd (n := n) (vs := vs) h
    exact ⟨.tuple ds, by simp [pd, e]⟩
  | n + 1, .none, h | n + 1, .ssym _, h | n + 1, .strU, h | n + 1, .loc _, h | n + 1, .fn _, h | n + 1, .cls _, h | n + 1, .bi _, h | n + 1, .ext _, h | n + 1, .any, h => by cases h
theorem isDs_pd : ∀ {n : Nat} {vs : List AV}, deps (isD n) vs = true → ∃ d, pds g vs = some d
  | _, [], _ => ⟨_, rfl⟩
  | n, v :: r, h => by
    have h' := deps_iff.mp h
    obtain ⟨d, e⟩ := isD_pd (h' v List.mem_cons_self)
    obtain ⟨ds, e'⟩ := isDs_pd (deps_iff.mpr fun x hx => h' x (List.mem_cons_of_mem _ hx))
    exact ⟨d :: ds, by simp [pds, e, e']⟩
end
theorem pds_cons {v : AV} {r : List AV} {d : PyData} {ds : List PyData} (e : pd g v = some d) (e' : pds g r = some ds) : pds g (v :: r) = some (d :: ds) := by simp [pds, e, e']
noncomputable def EqP (g : G) (a b : AV) (r : Bool) : Prop := ∃ da db, pd g a = some da ∧ pd g b = some db ∧ PyData.eqv da db = r
theorem eqvL_ok {f : AV → AV → Option Bool} : ∀ {x y : List AV} {r : Bool},
    (∀ a ∈ x, ∀ b r, f a b = some r → EqP g a b r) → eqvL f x y = some r → ∃ dx dy, pds g x = some dx ∧ pds g y = some dy ∧ PyData.eqvAll dx dy = r
  | [], [], _, _, e => by cases e; exact ⟨[], [], rfl, rfl, rfl⟩
  | [], b :: t, _, _, e => by
    unfold eqvL at e
    split at e
    · rename_i q
      first | exact xN e | exact xS e | (obtain rfl := x1 e; clear e) | (obtain ⟨rfl, rfl⟩ := x2 e; clear e) | (obtain ⟨rfl, rfl, rfl⟩ := x3 e; clear e) | (exfalso; cases e; done) | cases e
      obtain ⟨d, e'⟩ := isDs_pd (g := g) q
      refine ⟨[], d, rfl, e', ?_⟩
      cases d with
      | nil => simp only [pds] at e'; split at e' <;> cases e'
      | cons => rfl
    · first | exact xN e | exact xS e | (obtain rfl := x1 e; clear e) | (obtain ⟨rfl, rfl⟩ := x2 e; clear e) | (obtain ⟨rfl, rfl, rfl⟩ := x3 e; clear e) | (exfalso; cases e; done) | cases e
  | a :: t, [], _, _, e => by
    unfold eqvL at e
    split at e
    · rename_i q
      first | exact xN e | exact xS e | (obtain rfl := x1 e; clear e) | (obtain ⟨rfl, rfl⟩ := x2 e; clear e) | (obtain ⟨rfl, rfl, rfl⟩ := x3 e; clear e) | (exfalso; cases e; done) | cases e
      obtain ⟨d, e'⟩ := isDs_pd (g := g) q
      refine ⟨d, [], e', rfl, ?_⟩
      cases d with
      | nil => simp only [pds] at e'; split at e' <;> cases e'
      | cons => rfl
    · first | exact xN e | exact xS e | (obtain rfl := x1 e; clear e) | (obtain ⟨rfl, rfl⟩ := x2 e; clear e) | (obtain ⟨rfl, rfl, rfl⟩ := x3 e; clear e) | (exfalso; cases e; done) | cases e
  | a :: q, b :: t, r, hf, e => by
    unfold eqvL at e
    split at e
    · rename_i z
      obtain ⟨da, db, ea, eb, w⟩ := hf a List.mem_cons_self b _ z
      obtain ⟨dx, dy, ex, ey, w'⟩ := eqvL_ok (fun x hx => hf x (List.mem_cons_of_mem _ hx)) e
      exact ⟨_, _, pds_cons ea ex, pds_cons eb ey, by simp [PyData.eqvAll, w, w']⟩
    · rename_i z
      split at e
      · rename_i y
        first | exact xN e | exact xS e | (obtain rfl := x1 e; clear e) | (obtain ⟨rfl, rfl⟩ := x2 e; clear e) | (obtain ⟨rfl, rfl, rfl⟩ := x3 e; clear e) | (exfalso; cases e; done) | cases e
        rw [Bool.and_eq_true] at y
        obtain ⟨da, db, ea, eb, w⟩ := hf a List.mem_cons_self b _ z
        obtain ⟨dx, ex⟩ := isDs_pd (g := g) y.1
        obtain ⟨dy, ey⟩ := isDs_pd (g := g) y.2
        exact ⟨_, _, pds_cons ea ex, pds_cons eb ey, by simp [PyData.eqvAll, w]⟩
      · first | exact xN e | exact xS e | (obtain rfl := x1 e; clear e) | (obtain ⟨rfl, rfl⟩ := x2 e; clear e) | (obtain ⟨rfl, rfl, rfl⟩ := x3 e; clear e) | (exfalso; cases e; done) | cases e
    · first | exact xN e | exact xS e | (obtain rfl := x1 e; clear e) | (obtain ⟨rfl, rfl⟩ := x2 e; clear e) | (obtain ⟨rfl, rfl, rfl⟩ := x3 e; clear e) | (exfalso; cases e; done) | cases e
theorem cmp_EqP (O : OkV C g) {a b : AV} {r : Bool} (e : C.hcmp .Eq a b = some r) : EqP g a b r := by
  obtain ⟨i', j', p, q, z⟩ := O.cmp _ _ _ _ e
  first | exact xN z | exact xS z | (obtain rfl := x1 z; clear z) | (obtain ⟨rfl, rfl⟩ := x2 z; clear z) | (obtain ⟨rfl, rfl, rfl⟩ := x3 z; clear z) | (exfalso; cases z; done) | cases z
  exact ⟨_, _, iv_pd p, iv_pd q, rfl⟩
theorem eqB {n : Nat} {x : Bool} {b : AV} {r : Bool} (e : eqv C (n + 1) (.bool x) b = some r) : EqP g (.bool x) b r := by
  cases b <;> first | exact xN e | skip
  · cases e; exact ⟨_, _, rfl, rfl, rfl⟩
  · rename_i vs
    have e' : (match deps (isD 7) vs with | true => some false | false => none) = some r := e
    cases hq : deps (isD 7) vs with
    | false => rw [hq] at e'; exact xN e'
    | true =>
      rw [hq] at e'
      first | exact xN e' | exact xS e' | (obtain rfl := x1 e'; clear e') | (obtain ⟨rfl, rfl⟩ := x2 e'; clear e') | (obtain ⟨rfl, rfl, rfl⟩ := x3 e'; clear e') | (exfalso; cases e'; done) | cases e'
      obtain ⟨ds, h⟩ := isDs_pd (g := g) hq
      exact ⟨_, .tuple ds, rfl, by simp [pd, h], rfl⟩
theorem eqI (O : OkV C g) {n : Nat} {x : Int} {b : AV} {r : Bool} (e : eqv C (n + 1) (.int x) b = some r) : EqP g (.int x) b r := by
  cases b <;> first | exact xN e | skip
  · cases e; exact ⟨_, _, rfl, rfl, (ibeq_eq _ _).symm⟩
  · cases e; exact ⟨_, _, rfl, rfl, rfl⟩
theorem eqK (O : OkV C g) {n i : Nat} {b : AV} {r : Bool} (e : eqv C (n + 1) (.isym i) b = some r) : EqP g (.isym i) b r := by
  cases b <;> first | exact xN e | skip
  · exact cmp_EqP O e
  · rename_i j
    have e' : (match Nat.beq i j with | true => some true | false => C.hcmp .Eq (.isym i) (.isym j)) = some r := e
    cases q : Nat.beq i j with
    | true => rw [q] at e'; cases e'; exact ⟨_, _, rfl, rfl, by rw [Nat.eq_of_beq_eq_true q]; simp [PyData.eqv]⟩
    | false => rw [q] at e'; exact cmp_EqP O e'
theorem eqS {n : Nat} {x : List Nat} {b : AV} {r : Bool} (e : eqv C (n + 1) (.str x) b = some r) : EqP g (.str x) b r := by
  cases b <;> first | exact xN e | skip
  first | exact xN e | exact xS e | (obtain rfl := x1 e; clear e) | (obtain ⟨rfl, rfl⟩ := x2 e; clear e) | (obtain ⟨rfl, rfl, rfl⟩ := x3 e; clear e) | (exfalso; cases e; done) | cases e
  refine ⟨_, _, rfl, rfl, ?_⟩
  rw [strBeq_eq]
  simp only [PyData.eqv]
  rw [Bool.eq_iff_iff, beq_iff_eq, beq_iff_eq]
  exact ⟨fun z => by injection z with z; simpa using congrArg Array.toList z, fun z => by rw [z]⟩
theorem eqZ {n i : Nat} {b : AV} {r : Bool} (e : eqv C (n + 1) (.ssym i) b = some r) : EqP g (.ssym i) b r := by
  cases b <;> first | exact xN e | skip
  rename_i j
  have e' : (match Nat.beq i j with | true => some true | false => none) = some r := e
  cases q : Nat.beq i j with
  | true => rw [q] at e'; cases e'; exact ⟨_, _, rfl, rfl, by rw [Nat.eq_of_beq_eq_true q]; simp [PyData.eqv]⟩
  | false => rw [q] at e'; exact xN e'
theorem eqT {n : Nat} (ih : ∀ {a b : AV} {r : Bool}, eqv C n a b = some r → EqP g a b r) {x : List AV} {b : AV} {r : Bool} (e : eqv C (n + 1) (.tup x) b = some r) : EqP g (.tup x) b r := by
  cases b <;> first | exact xN e | skip
  obtain ⟨dx, dy, ex, ey, w⟩ := eqvL_ok (fun a _ b r z => ih z) e
  exact ⟨.tuple dx, .tuple dy, by simp [pd, ex], by simp [pd, ey], by simpa [PyData.eqv] using w⟩
theorem eqv_ok (O : OkV C g) {n : Nat} : ∀ {a b : AV} {r : Bool}, eqv C n a b = some r → EqP g a b r := by
  induction n with
  | zero => intro a b r e; exact xN e
  | succ n ih =>
    intro a b r e
    cases a with
    | bool x => exact eqB e
    | int x => exact eqI O e
    | isym i => exact eqK O e
    | str x => exact eqS e
    | ssym i => exact eqZ e
    | tup x => exact eqT ih e
    | _ => exact xN e
end
end Mine

set_option maxRecDepth 100000
namespace Mine
open PySem PySem.W PySem.Calls PySem.Spec PyProof.Rows

/-! ## names as numbers -/
theorem codeL_inj : ∀ {a b : List Nat}, codeL a ≠ 0 → codeL a = codeL b → a = b
  | [], [], _, _ => rfl
  | [], c :: r, _, e => by
    unfold codeL at e
    split at e
    · rename_i q
      rw [Bool.and_eq_true] at q
      have := Nat.le_of_ble_eq_true q.1
      simp only [Nat.add_eq, Nat.mul_eq] at e
      omega
    · first | exact xN e | exact xS e | (obtain rfl := x1 e; clear e) | (obtain ⟨rfl, rfl⟩ := x2 e; clear e) | (obtain ⟨rfl, rfl, rfl⟩ := x3 e; clear e) | (exfalso; cases e; done) | cases e
  | c :: r, [], h, e => by
    unfold codeL at e
    split at e
    · rename_i q
      rw [Bool.and_eq_true] at q
      have := Nat.le_of_ble_eq_true q.1
      simp only [Nat.add_eq, Nat.mul_eq] at e
      omega
    · first | exact xN e | exact xS e | (obtain rfl := x1 e; clear e) | (obtain ⟨rfl, rfl⟩ := x2 e; clear e) | (obtain ⟨rfl, rfl, rfl⟩ := x3 e; clear e) | (exfalso; cases e; done) | cases e
  | c :: r, d :: t, h, e => by
    unfold codeL at e h
    split at e
    · rename_i q
      rw [Bool.and_eq_true] at q
      have q1 := Nat.le_of_ble_eq_true q.1
      have q2 : c + 1 ≤ 256 := Nat.le_of_ble_eq_true q.2
      simp only [Nat.add_eq, Nat.mul_eq] at e
      split at e
      · rename_i p
        rw [Bool.and_eq_true] at p
        have p1 := Nat.le_of_ble_eq_true p.1
        have p2 : d + 1 ≤ 256 := Nat.le_of_ble_eq_true p.2
        have e1 : codeL r = codeL t := by omega
        have e2 : c = d := by omega
        rw [e2, codeL_inj (by omega) e1]
      · omega
    · rename_i q; rw [q] at h; exact absurd rfl h
theorem nm_inj {x y : Str} (h : nm x ≠ 0) (e : nm x = nm y) : x = y := by
  have := codeL_inj h e
  cases x; cases y
  simpa using this

theorem look_cons {α : Type} {k j : Nat} {a : α} {r : List (Nat × α)} : look k ((j, a) :: r) = if j = k then some a else look k r := by
  show (Bool.rec (look k r) (some a) (Nat.beq j k) : Option α) = _
  cases q : Nat.beq j k with
  | true => rw [if_pos (Nat.eq_of_beq_eq_true q)]
  | false => rw [if_neg (Nat.ne_of_beq_eq_false q)]
theorem look_match {α : Type} {k : Nat} {p : Nat × α} {r : List (Nat × α)} : look k (p :: r) = (match Nat.beq p.1 k with | true => some p.2 | false => look k r) := by
  show (Bool.rec (look k r) (some p.2) (Nat.beq p.1 k) : Option α) = _
  cases Nat.beq p.1 k <;> rfl
theorem put_cons {α : Type} {k j : Nat} {a v : α} {r : List (Nat × α)} : put k v ((j, a) :: r) = if j = k then (j, v) :: r else (j, a) :: put k v r := by
  show (Bool.rec ((j, a) :: put k v r) ((j, v) :: r) (Nat.beq j k) : List (Nat × α)) = _
  cases q : Nat.beq j k with
  | true => rw [if_pos (Nat.eq_of_beq_eq_true q)]
  | false => rw [if_neg (Nat.ne_of_beq_eq_false q)]
theorem look_put {α : Type} (k j : Nat) (v : α) : ∀ l : List (Nat × α), look j (put k v l) = if j = k then some v else look j l
  | [] => by
    show look j [(k, v)] = _
    rw [look_cons]
    by_cases h : k = j
    · rw [if_pos h, if_pos h.symm]
    · rw [if_neg h, if_neg (Ne.symm h)]
  | (a, w) :: r => by
    rw [put_cons, look_cons]
    by_cases h : a = k
    · rw [if_pos h, look_cons]
      subst h
      by_cases h2 : a = j
      · rw [if_pos h2, if_pos h2.symm]
      · rw [if_neg h2, if_neg (Ne.symm h2), if_neg h2]
    · rw [if_neg h, look_cons, look_put k j v r]
      by_cases h2 : a = j
      · rw [if_pos h2, if_pos h2, if_neg (fun e => h (h2.trans e))]
      · rw [if_neg h2, if_neg h2]
structure Cx where
  A₀ : Around
  A : Around
  base : Heap
  h₀ : Heap
  outer : List Env
  L : Addr
  fe : Env
  env : Env
  fm : Option (Str → Option Value)
  out : Led
structure Sg where
  m : Str → Option Value
  own : Led

structure CxOk (g : G) (x : Cx) (n : Nat) : Prop where
  B : Below x.A₀ x.base x.outer x.h₀
  hA : x.A.frames = some (x.fe :: x.outer)
  hf : x.fe.frame = some x.L
  hk : x.fe.scope.kind = .function
  X : g.K.In x.h₀
  T : ∃ p loose mg mb, TopRead p loose mg mb x.h₀
  hand : x.A.handled = none
  dp : x.A.depth + n < recursionLimit
  un : x.A.units + 16 * n + 200 < cLine
  ek : x.env.scope.kind = .function
  eg : x.env.globals = mainGlobals
  eb : x.env.builtins = builtinsNs
  sm : ∃ o, x.h₀.get? sysModules = some o
  cf : ∀ y, x.env.kindOf y = some .cell ∨ x.env.kindOf y = some .free → ∃ c, x.env.cells.lookup y = some c
  ci : ∀ y z c, x.env.cells.lookup y = some c → x.env.cells.lookup z = some c → y = z

noncomputable def Cx.in1 (x : Cx) : Cx := { x with A := x.A.in1 }

noncomputable def okN (x : Str) : Prop := nm x ≠ 0 ∧ (x == ("__debug__" : Str)) = false ∧ (x == ("__classdict__" : Str)) = false
/-- the names at hand stand in the env -/
noncomputable def LR (g : G) (W : Wd) (env : Env) (σ : Sg) (out : Led) (l : L) : Prop :=
  look 0 l = none ∧ ∀ x v, nm x ≠ 0 → look (nm x) l = some v → okN x ∧ (env.kindOf x = some .local → ∃ u, σ.m x = some u ∧ VR g W v u) ∧
    (env.kindOf x = some .cell ∨ env.kindOf x = some .free → ∃ c o u, env.cells.lookup x = some c ∧ (c, o) ∈ σ.own ++ out ∧ o.data = .cell (some u) ∧ VR g W v u)

/-- a dict's rows: keys that are ints, or keys on the heap -/
inductive KVI (g : G) (W : Wd) : List (AV × AV) → List (Int × Value) → Prop
  | nil : KVI g W [] []
  | cons {k : AV} {i : Int} {v : AV} {u : Value} {r : List (AV × AV)} {q : List (Int × Value)} : iv g k = some i → VR g W v u → KVI g W r q → KVI g W ((k, v) :: r) ((i, u) :: q)
inductive KVT (g : G) (W : Wd) : List (AV × AV) → List (KD × Addr × Value) → Prop
  | nil : KVT g W [] []
  | cons {k : AV} {d : PyData} {a : Addr} {v : AV} {u : Value} {r : List (AV × AV)} {q : List (KD × Addr × Value)} : VR g W k (.ref a) → pd g k = some d → goodK d = true → VR g W v u → KVT g W r q → KVT g W ((k, v) :: r) ((nk d, a, u) :: q)
noncomputable def DRI (g : G) (W : Wd) (kvs : List (AV × AV)) (o : Obj) : Prop := ∃ q, KVI g W kvs q ∧ o.IsDictOf (intKind g.prog g.w) q
noncomputable def DRT (g : G) (W : Wd) (kvs : List (AV × AV)) (o : Obj) : Prop := ∃ q es ep, KVT g W kvs q ∧ o.ExactDict ∧ o.data = .dict es ep ∧ es.toList = q.map (entryOfKey (keyKind g.prog g.w)) ∧ (q.map (·.1)).Nodup
/-- the law's own jug -/
noncomputable def DRS (g : G) (W : Wd) (kvs : List (AV × AV)) (o : Obj) : Prop := ∃ (c a : Str) (v w : AV) (u z : Value), kvs = [(.str c.cps.toList, v), (.str a.cps.toList, w)] ∧ VR g W v u ∧ VR g W w z ∧ o.IsDictOf (strKind g.prog g.w) [(c, u), (a, z)]
/-- an instance's own dict -/
noncomputable def FR (g : G) (W : Wd) (fs : List (Nat × AV)) (o : Obj) : Prop :=
  look 0 fs = none ∧ ∃ es n, o = dictOf es n ∧ es.length ≤ fs.length ∧ (∀ e ∈ es, ∃ y t, e.key = .str y t) ∧ ∀ x, nm x ≠ 0 → (match look (nm x) fs with | some v => ∃ u, getL x es = some (some u) ∧ VR g W v u | none => getL x es = some none)

noncomputable def OAt (g : G) (W : Wd) (led : Led) (i : Nat) : AO → Prop
  | .list vs => ∃ a ws n, (2 * i, a) ∈ W.mp ∧ (a, lstObj ws n) ∈ led ∧ VRs g W vs ws ∧ vs.length ≤ 400000
  | .dict kvs => ∃ a o, (2 * i, a) ∈ W.mp ∧ (a, o) ∈ led ∧ (DRI g W kvs o ∨ DRT g W kvs o ∨ DRS g W kvs o) ∧ kvs.length ≤ 400000
  | .inst c fs => ∃ a da od, (2 * i, a) ∈ W.mp ∧ (2 * i + 1, da) ∈ W.mp ∧ (a, instObj (g.ca c) da) ∈ led ∧ (da, od) ∈ led ∧ FR g W fs od ∧ fs.length ≤ 900

/-- the ledger holds what the heap's objects stand for, and every address that was given a number -/
noncomputable def LedOk (g : G) (W : Wd) (H : H) (led : Led) : Prop := (∀ i ao, look i H.os = some ao → OAt g W led i ao) ∧ ∀ q ∈ W.mp, ∃ o, (q.2, o) ∈ led
structure St (g : G) (x : Cx) (W : Wd) (l : L) (H : H) (σ : Sg) (h : Heap) : Prop where
  F : Fr x.h₀ x.L h (x.fm.getD σ.m)
  md : (x.fm = none ∧ x.env.locals = x.L) ∨ ((∃ m, x.fm = some m) ∧ h.Ns x.env.locals σ.m ∧ ∃ oC, (x.env.locals, oC) ∈ σ.own)
  led : ∃ led : Led, News x.h₀ x.L h (led ++ σ.own ++ x.out ++ W.X) ∧ LedOk g W H led
  fn : ∀ p ∈ W.mp, ∀ q ∈ W.mp, p.1 = q.1 ↔ p.2 = q.2
  ap : ∀ q ∈ W.mp, ∀ p ∈ σ.own ++ x.out ++ W.X, p.1 ≠ q.2
  nx : ∀ q ∈ W.mp, q.1 < 2 * H.nx
  xo : ∀ p ∈ W.X, ∀ q ∈ σ.own ++ x.out, p.1 ≠ q.1
  oo : ∀ p ∈ σ.own, ∀ q ∈ x.out, p.1 ≠ q.1
  ce : x.fm = none → ∀ y, x.env.kindOf y = some .cell → ∃ c o v, x.env.cells.lookup y = some c ∧ (c, o) ∈ σ.own ∧ o.data = .cell v
  lr : LR g W x.env σ x.out l
theorem St.there {g : G} {x : Cx} {W : Wd} {l : L} {H : H} {σ : Sg} {h : Heap} (S : St g x W l H σ h) : ∀ q ∈ W.mp, q.2 < h.objs.size := fun q hq => by
  obtain ⟨led, N, hl⟩ := S.led
  obtain ⟨o, ho⟩ := hl.2 q hq
  exact Heap.lt_size (N _ (List.mem_append_left _ (List.mem_append_left _ (List.mem_append_left _ ho)))).1
theorem St.ns {g : G} {x : Cx} {W : Wd} {l : L} {H : H} {σ : Sg} {h : Heap} (S : St g x W l H σ h) : h.Ns x.env.locals σ.m := by
  rcases S.md with ⟨a, b⟩ | ⟨_, a, _⟩
  · have := S.F.ns; rw [a] at this; rw [b]; exact this
  · exact a

section
variable {g : G} {W W' : Wd}
theorem KVI.mono (l : W.le W') {kvs : List (AV × AV)} {q : List (Int × Value)} (h : KVI g W kvs q) : KVI g W' kvs q := by
  induction h with
  | nil => exact .nil
  | cons a b _ ih => exact .cons a (b.mono l) ih
theorem KVT.mono (l : W.le W') {kvs : List (AV × AV)} {q : List (KD × Addr × Value)} (h : KVT g W kvs q) : KVT g W' kvs q := by
  induction h with
  | nil => exact .nil
  | cons a b c d _ ih => exact .cons (a.mono l) b c (d.mono l) ih
theorem DRI.mono (l : W.le W') {kvs : List (AV × AV)} {o : Obj} (h : DRI g W kvs o) : DRI g W' kvs o := let ⟨q, a, b⟩ := h; ⟨q, a.mono l, b⟩
theorem DRT.mono (l : W.le W') {kvs : List (AV × AV)} {o : Obj} (h : DRT g W kvs o) : DRT g W' kvs o := let ⟨q, es, ep, a, b⟩ := h; ⟨q, es, ep, a.mono l, b⟩
theorem DRS.mono (l : W.le W') {kvs : List (AV × AV)} {o : Obj} (h : DRS g W kvs o) : DRS g W' kvs o := let ⟨c, a, v, w, u, z, e, p, q, r⟩ := h; ⟨c, a, v, w, u, z, e, p.mono l, q.mono l, r⟩
theorem FR.mono (l : W.le W') {fs : List (Nat × AV)} {o : Obj} (h : FR g W fs o) : FR g W' fs o := by
  obtain ⟨z, es, n, a, b, c, d⟩ := h
  refine ⟨z, es, n, a, b, c, fun x hx => ?_⟩
  have := d x hx
  split
  · rename_i e; rw [e] at this; obtain ⟨u, p, q⟩ := this; exact ⟨u, p, q.mono l⟩
  · rename_i e; rw [e] at this; exact this
theorem OAt.mono (l : W.le W') {led led' : Led} {j : Nat} {ao : AO} (hk : ∀ p ∈ led, (2 * j, p.1) ∈ W.mp ∨ (2 * j + 1, p.1) ∈ W.mp → p ∈ led') (h : OAt g W led j ao) : OAt g W' led' j ao := by
  cases ao with
  | list vs =>
    obtain ⟨a, ws, n, h1, h2, h3, h4⟩ := h
    exact ⟨a, ws, n, l.2 _ h1, hk _ h2 (.inl h1), h3.mono l, h4⟩
  | dict kvs =>
    obtain ⟨a, o, h1, h2, h3, h4⟩ := h
    exact ⟨a, o, l.2 _ h1, hk _ h2 (.inl h1), h3.imp (DRI.mono l) (Or.imp (DRT.mono l) (DRS.mono l)), h4⟩
  | inst c fs =>
    obtain ⟨a, da, od, h1, h2, h3, h4, h5, h6⟩ := h
    exact ⟨a, da, od, l.2 _ h1, l.2 _ h2, hk _ h3 (.inl h1), hk _ h4 (.inr h2), h5.mono l, h6⟩
theorem LR.mono (l : W.le W') {env : Env} {σ : Sg} {out : Led} {ls : L} (h : LR g W env σ out ls) : LR g W' env σ out ls := by
  refine ⟨h.1, fun x v hx e => ?_⟩
  obtain ⟨a, b, c⟩ := h.2 x v hx e
  exact ⟨a, (fun k => let ⟨u, p, q⟩ := b k; ⟨u, p, q.mono l⟩), fun k => let ⟨cc, o, u, p, q, d, r⟩ := c k; ⟨cc, o, u, p, q, d, r.mono l⟩⟩

variable {x : Cx} {l : L} {H : H} {σ : Sg} {h h' : Heap}
theorem ne_of_none {h : Heap} {a b : Addr} (p : ∃ o, h.get? a = some o) (q : h.get? b = none) : a ≠ b := fun e => by obtain ⟨o, p⟩ := p; rw [e, q] at p; cases p

theorem St.upd (S : St g x W l H σ h) {led : Led} (N : News x.h₀ x.L h (led ++ σ.own ++ x.out ++ W.X)) (hl : LedOk g W H led)
    {i k : Nat} {d : Addr} {o o' : Obj} {ao' : AO} (hk : k = 2 * i ∨ k = 2 * i + 1) (hm : (k, d) ∈ W.mp) (ho : (d, o) ∈ led) (hs : Heap.SameBut d h h') (ho' : h'.get? d = some o')
    (hn : ∀ led' : Led, (∀ p ∈ led, p.1 ≠ d → p ∈ led') → (d, o') ∈ led' → OAt g W led' i ao') : St g x W l (H.set i ao') σ h' := by
  have hd := N (d, o) (by simp [ho])
  have F' : Fr x.h₀ x.L h' (x.fm.getD σ.m) := S.F.change hs hd.2.1 hd.2.2
  have same : ∀ l : Led, (∀ p ∈ l, p.1 ≠ d) → l.map (fun p => if p.1 = d then (d, o') else p) = l := fun l hl => by
    conv => rhs; rw [← List.map_id l]
    refine List.map_congr_left fun p hp => ?_
    rw [if_neg (hl p hp)]; rfl
  have hap : ∀ p ∈ σ.own ++ x.out ++ W.X, p.1 ≠ d := fun p hp => S.ap _ hm p hp
  refine ⟨F', ?_, ⟨led.map (fun p => if p.1 = d then (d, o') else p), ?_, ?_, ?_⟩, S.fn, S.ap, S.nx, S.xo, S.oo, S.ce, S.lr⟩
  · rcases S.md with e | ⟨e, nsC, oC, hC⟩
    · exact .inl e
    · exact .inr ⟨e, nsC.sameBut hs (hap (x.env.locals, oC) (by simp [hC])), oC, hC⟩
  · have := N.replace hs ho'
    rw [List.map_append, List.map_append, List.map_append, same σ.own (fun p hp => hap p (by simp [hp])), same x.out (fun p hp => hap p (by simp [hp])), same W.X (fun p hp => hap p (by simp [hp]))] at this
    exact this
  · have k1 : ∀ p ∈ led, p.1 ≠ d → p ∈ led.map (fun p => if p.1 = d then (d, o') else p) := fun p hp q => List.mem_map.mpr ⟨p, hp, if_neg q⟩
    have k2 : (d, o') ∈ led.map (fun p => if p.1 = d then (d, o') else p) := List.mem_map.mpr ⟨(d, o), ho, if_pos rfl⟩
    intro j ao e
    have e' : look j (put i ao' H.os) = some ao := e
    rw [look_put] at e'
    split at e'
    · rename_i q; cases e'; subst q; exact hn _ k1 k2
    · rename_i q
      refine (hl.1 j ao e').mono (Wd.le.refl W) fun p hp hj => k1 p hp fun z => ?_
      rcases hj with hj | hj
      · have := (S.fn _ hj _ hm).mpr z; simp only at this; omega
      · have := (S.fn _ hj _ hm).mpr z; simp only at this; omega
  · intro q hq
    obtain ⟨oq, hoq⟩ := hl.2 q hq
    by_cases z : q.2 = d
    · exact ⟨o', List.mem_map.mpr ⟨(q.2, oq), hoq, by simp [z]⟩⟩
    · exact ⟨oq, List.mem_map.mpr ⟨(q.2, oq), hoq, if_neg z⟩⟩

theorem St.fresh (S : St g x W l H σ h) {a : Addr} (ha : h.objs.size ≤ a) : a ≠ x.L ∧ x.h₀.get? a = none := by
  refine ⟨?_, ?_⟩
  · intro e; rw [e] at ha; exact Nat.lt_irrefl _ (Nat.lt_of_lt_of_le S.F.ns.lt ha)
  · cases q : x.h₀.get? a with
    | none => rfl
    | some o => exact absurd (Heap.lt_size (S.F.keep _ _ q)) (Nat.not_lt.mpr ha)
theorem St.old (S : St g x W l H σ h) : ∀ p ∈ σ.own ++ x.out ++ W.X, p.1 < h.objs.size := fun p hp => by
  obtain ⟨led, N, _⟩ := S.led
  exact Heap.lt_size (N p (by rw [List.append_assoc, List.append_assoc, ← List.append_assoc σ.own]; exact List.mem_append_right _ hp)).1
theorem St.ext (S : St g x W l H σ h) (hk : ∀ b o, h.get? b = some o → h'.get? b = some o) : St g x W l H σ h' := by
  refine ⟨⟨S.F.ns.keeps hk, fun b o e => hk b o (S.F.keep b o e), S.F.above⟩, ?_, ?_, S.fn, S.ap, S.nx, S.xo, S.oo, S.ce, S.lr⟩
  · rcases S.md with e | ⟨e, nsC, oC⟩
    · exact .inl e
    · exact .inr ⟨e, nsC.keeps hk, oC⟩
  · obtain ⟨led, N, hl⟩ := S.led
    exact ⟨led, fun p hp => ⟨hk _ _ (N p hp).1, (N p hp).2⟩, hl⟩

theorem St.grow (S : St g x W l H σ h) (hk : ∀ b o, h.get? b = some o → h'.get? b = some o) (new : List (Nat × Addr × Obj))
    (h1 : ∀ p ∈ new, h.objs.size ≤ p.2.1 ∧ h'.get? p.2.1 = some p.2.2 ∧ 2 * H.nx ≤ p.1 ∧ p.1 < 2 * H.nx + 2) (h2 : ∀ p ∈ new, ∀ q ∈ new, p.1 = q.1 ↔ p.2.1 = q.2.1) {ao : AO}
    (hn : ∀ led' : Led, (∀ p ∈ new, (p.2.1, p.2.2) ∈ led') → OAt g ⟨W.X, new.map (fun p => (p.1, p.2.1)) ++ W.mp⟩ led' H.nx ao) :
    St g x ⟨W.X, new.map (fun p => (p.1, p.2.1)) ++ W.mp⟩ l (H.new ao).2 σ h' := by
  have S' := S.ext hk
  have hw : W.le ⟨W.X, new.map (fun p => (p.1, p.2.1)) ++ W.mp⟩ := ⟨fun _ h => h, fun _ h => List.mem_append_right _ h⟩
  have hmem : ∀ q ∈ new.map (fun p => (p.1, p.2.1)), ∃ o, (q.1, q.2, o) ∈ new := fun q hq => by
    obtain ⟨p, hp, rfl⟩ := List.mem_map.mp hq
    exact ⟨p.2.2, hp⟩
  refine ⟨S'.F, S'.md, ?_, ?_, ?_, ?_, S'.xo, S'.oo, S'.ce, S'.lr.mono hw⟩
  · obtain ⟨led, N, hl⟩ := S'.led
    refine ⟨new.map (fun p => (p.2.1, p.2.2)) ++ led, ?_, ?_, ?_⟩
    · intro p hp
      have hp' : p ∈ new.map (fun p => (p.2.1, p.2.2)) ∨ p ∈ led ++ σ.own ++ x.out ++ W.X := by
        simp only [List.mem_append] at hp ⊢
        rcases hp with ((((a | b) | c) | d) | e) <;> simp_all
      rcases hp' with hp | hp
      · obtain ⟨q, hq, rfl⟩ := List.mem_map.mp hp
        have := h1 q hq
        exact ⟨this.2.1, S.fresh this.1⟩
      · exact N p hp
    · intro j ao' e
      have e' : (match Nat.beq H.nx j with | true => some ao | false => look j H.os) = some ao' := look_match.symm.trans e
      split at e'
      · rename_i q
        first | exact xN e' | exact xS e' | (obtain rfl := x1 e'; clear e') | (obtain ⟨rfl, rfl⟩ := x2 e'; clear e') | (obtain ⟨rfl, rfl, rfl⟩ := x3 e'; clear e') | (exfalso; cases e'; done) | cases e'
        rw [← Nat.eq_of_beq_eq_true q]
        exact hn _ fun p hp => List.mem_append_left _ (List.mem_map.mpr ⟨p, hp, rfl⟩)
      · exact (hl.1 j ao' e').mono hw fun p hp _ => List.mem_append_right _ hp
    · intro q hq
      rcases List.mem_append.mp hq with hq | hq
      · obtain ⟨o, a⟩ := hmem q hq
        exact ⟨o, List.mem_append_left _ (List.mem_map.mpr ⟨_, a, rfl⟩)⟩
      · obtain ⟨o, ho⟩ := hl.2 q hq
        exact ⟨o, List.mem_append_right _ ho⟩
  · intro p hp q hq
    rcases List.mem_append.mp hp with hp | hp <;> rcases List.mem_append.mp hq with hq | hq
    · obtain ⟨o, a⟩ := hmem p hp
      obtain ⟨o', b⟩ := hmem q hq
      exact h2 _ a _ b
    · obtain ⟨o, a⟩ := hmem p hp
      have := h1 _ a
      have u := S.nx q hq
      have v := S.there q hq
      simp only at this
      exact ⟨fun z => absurd u (by omega), fun z => absurd v (by rw [← z]; exact Nat.not_lt.mpr this.1)⟩
    · obtain ⟨o, a⟩ := hmem q hq
      have := h1 _ a
      have u := S.nx p hp
      have v := S.there p hp
      simp only at this
      exact ⟨fun z => absurd u (by omega), fun z => absurd v (by rw [z]; exact Nat.not_lt.mpr this.1)⟩
    · exact S.fn p hp q hq
  · intro q hq p hp
    rcases List.mem_append.mp hq with hq | hq
    · obtain ⟨o, a⟩ := hmem q hq
      have := h1 _ a
      have v := S.old p hp
      exact Nat.ne_of_lt (Nat.lt_of_lt_of_le v this.1)
    · exact S.ap q hq p hp
  · intro q hq
    show q.1 < 2 * Nat.succ H.nx
    rcases List.mem_append.mp hq with hq | hq
    · obtain ⟨o, a⟩ := hmem q hq
      have := h1 _ a
      simp only at this
      omega
    · have := S.nx q hq; omega

theorem St.imm (S : St g x W l H σ h) (hk : ∀ b o, h.get? b = some o → h'.get? b = some o) {a : Addr} {o : Obj} (ha : h.objs.size ≤ a) (ho : h'.get? a = some o) :
    St g x ⟨(a, o) :: W.X, W.mp⟩ l H σ h' := by
  have S' := S.ext hk
  have hw : W.le ⟨(a, o) :: W.X, W.mp⟩ := ⟨fun _ h => List.mem_cons_of_mem _ h, fun _ h => h⟩
  refine ⟨S'.F, S'.md, ?_, S'.fn, ?_, S'.nx, ?_, S'.oo, S'.ce, S'.lr.mono hw⟩
  · obtain ⟨led, N, hl⟩ := S'.led
    refine ⟨led, fun p hp => ?_, fun j ao e => (hl.1 j ao e).mono hw fun p hp _ => hp, hl.2⟩
    have hp' : p = (a, o) ∨ p ∈ led ++ σ.own ++ x.out ++ W.X := by
      simp only [List.mem_append, List.mem_cons] at hp ⊢
      rcases hp with ((a | b) | c) | (d | e) <;> simp_all
    rcases hp' with rfl | hp
    · exact ⟨ho, S.fresh ha⟩
    · exact N p hp
  · intro q hq p hp
    have hp' : p = (a, o) ∨ p ∈ σ.own ++ x.out ++ W.X := by
      simp only [List.mem_append, List.mem_cons] at hp ⊢
      rcases hp with (a | b) | (d | e) <;> simp_all
    rcases hp' with rfl | hp
    · exact (Nat.ne_of_lt (Nat.lt_of_lt_of_le (S.there q hq) ha)).symm
    · exact S.ap q hq p hp
  · intro p hp q hq
    rcases List.mem_cons.mp hp with rfl | hp
    · exact (Nat.ne_of_lt (Nat.lt_of_lt_of_le (S.old q (List.mem_append_left _ hq)) ha)).symm
    · exact S.xo p hp q hq
end
end Mine

set_option maxRecDepth 100000
namespace Mine
open PySem PySem.W PySem.Calls PySem.Spec PyProof.Rows

/-! ## what it says that the interpreter is sound -/
noncomputable def ScOk (sc : Scope) (env : Env) : Prop := ∀ x k, sc.names.lookup x = some k → env.kindOf x = some k ∨ (k = .free ∧ env.kindOf x = some .cell)

noncomputable abbrev PV (g : G) (x : Cx) (W : Wd) (l : L) (H : Mine.H) (σ : Sg) (v : AV) (Q : Value → Shared → Prop) (s : Shared) : Prop :=
  ∀ W' h' tk u, W.le W' → St g x W' l H σ h' → VR g W' v u → Q u { s with heap := h', toks := tk }
noncomputable abbrev PB (g : G) (x : Cx) (W : Wd) (l : L) (H : Mine.H) (σ : Sg) (b : Bool) (Q : Bool → Shared → Prop) (s : Shared) : Prop :=
  ∀ W' h' tk, W.le W' → St g x W' l H σ h' → Q b { s with heap := h', toks := tk }
noncomputable def EvOk (g : G) (x : Cx) (e : Expr) (l : L) (H : Mine.H) (v : AV) (H' : Mine.H) : Prop :=
  ∀ W σ s Q E, St g x W l H σ s.heap → PV g x W l H' σ v Q s → wpAny (model g.prog g.w) x.A (eval e x.env) Q E s
noncomputable def TrOk (g : G) (x : Cx) (e : Expr) (l : L) (H : Mine.H) (b : Bool) (H' : Mine.H) : Prop :=
  ∀ W σ s Q E, St g x W l H σ s.heap → PB g x W l H' σ b Q s → wpAny (model g.prog g.w) x.A (isTrue e x.env (eval e x.env)) Q E s
inductive FlR (g : G) (W : Wd) : Fl → Flow → Prop
  | next : FlR g W .next .next
  | cont : FlR g W .cont .cont
  | ret {v : AV} {u : Value} : VR g W v u → FlR g W (.ret v) (.ret u)
theorem FlR.isN {g : G} {W : Wd} {f : Flow} (h : FlR g W .next f) : f = .next := by cases h; rfl
theorem FlR.isC {g : G} {W : Wd} {f : Flow} (h : FlR g W .cont f) : f = .cont := by cases h; rfl
theorem FlR.isR {g : G} {W : Wd} {v : AV} {f : Flow} (h : FlR g W (.ret v) f) : ∃ u, f = .ret u ∧ VR g W v u := by cases h; exact ⟨_, rfl, by assumption⟩
theorem FlR.go {g : G} {W : Wd} {fl : Fl} {f : Flow} (h : FlR g W fl f) (hn : ∀ v, fl ≠ .ret v) : f = .next ∨ f = .cont := by
  cases h with
  | next => exact .inl rfl
  | cont => exact .inr rfl
  | ret _ => exact absurd rfl (hn _)
noncomputable abbrev PF (g : G) (x : Cx) (W : Wd) (l : L) (H : Mine.H) (fl : Fl) (Q : Flow → Shared → Prop) (s : Shared) : Prop :=
  ∀ W' σ' h' tk f, W.le W' → St g x W' l H σ' h' → FlR g W' fl f → Q f { s with heap := h', toks := tk }
noncomputable def ExOk (g : G) (x : Cx) (body : List Stmt) (l : L) (H : Mine.H) (fl : Fl) (l' : L) (H' : Mine.H) : Prop :=
  ∀ W σ s Q E, St g x W l H σ s.heap → PF g x W l' H' fl Q s → wpAny (model g.prog g.w) x.A (execs body x.env) Q E s
noncomputable def Ex1Ok (g : G) (x : Cx) (st : Stmt) (l : L) (H : Mine.H) (fl : Fl) (l' : L) (H' : Mine.H) : Prop :=
  ∀ W σ s Q E, St g x W l H σ s.heap → PF g x W l' H' fl Q s → wpAny (model g.prog g.w) x.A (exec st x.env) Q E s
noncomputable def WhOk (g : G) (x : Cx) (t : Expr) (body : List Stmt) (l : L) (H : Mine.H) (fl : Fl) (l' : L) (H' : Mine.H) : Prop :=
  ∀ W σ s R, St g x W l H σ s.heap → PF g x W l' H' fl (fun f => R (.ok f)) s → codeAny (model g.prog g.w) x.A (.whileLoop t body [] x.env) R s
noncomputable def ClOk (g : G) (x : Cx) (k : Nat) (as : List AV) (H : Mine.H) (v : AV) (H' : Mine.H) : Prop :=
  ∀ W l σ s R us, St g x W l H σ s.heap → VRs g W as us → PV g x W l H' σ v (fun u => R (.ok (.ret u))) s → codeAny (model g.prog g.w) x.A (.call (.ref (g.fa k)) ⟨us, []⟩) R s

structure Sound (g : G) (n : Nat) (r : R) : Prop where
  ev : ∀ x sc e l H v H', CxOk g x n → ScOk sc x.env → r.ev sc e l H = some (v, H') → EvOk g x e l H v H'
  tr : ∀ x sc e l H b H', CxOk g x n → ScOk sc x.env → r.tr sc e l H = some (b, H') → TrOk g x e l H b H'
  ex : ∀ x sc body l H fl l' H', CxOk g x n → x.fm = none → ScOk sc x.env → r.ex sc body l H = some (fl, l', H') → ExOk g x body l H fl l' H'
  wh : ∀ x sc t body l H fl l' H', CxOk g x n → x.fm = none → ScOk sc x.env → r.wh sc t body l H = some (fl, l', H') → WhOk g x t body l H fl l' H'
  cl : ∀ x k as H v H', CxOk g x n → r.cl k as H = some (v, H') → ClOk g x k as H v H'

theorem CxOk.le {g : G} {x : Cx} {m n : Nat} (h : CxOk g x n) (hm : m ≤ n) : CxOk g x m :=
  { h with dp := by have := h.dp; omega, un := by have := h.un; omega }
theorem CxOk.in1 {g : G} {x : Cx} {n : Nat} (h : CxOk g x (n + 1)) : CxOk g x.in1 n :=
  { B := h.B, hA := h.hA, hf := h.hf, hk := h.hk, X := h.X, T := h.T, hand := h.hand, ek := h.ek, eg := h.eg, eb := h.eb, sm := h.sm, ci := h.ci, cf := h.cf,
    dp := by have := h.dp; show x.A.depth + n < _; omega
    un := by have := h.un; show x.A.units + 1 + 16 * n + 200 < _; omega }
theorem St.in1 {g : G} {x : Cx} {W : Wd} {l : L} {H : Mine.H} {σ : Sg} {h : Heap} (S : St g x W l H σ h) : St g x.in1 W l H σ h := ⟨S.F, S.md, S.led, S.fn, S.ap, S.nx, S.xo, S.oo, S.ce, S.lr⟩
theorem St.of_in1 {g : G} {x : Cx} {W : Wd} {l : L} {H : Mine.H} {σ : Sg} {h : Heap} (S : St g x.in1 W l H σ h) : St g x W l H σ h := ⟨S.F, S.md, S.led, S.fn, S.ap, S.nx, S.xo, S.oo, S.ce, S.lr⟩

theorem St.at {g : G} {x : Cx} {W : Wd} {l : L} {H : Mine.H} {σ : Sg} {h : Heap} (S : St g x W l H σ h) {p : Addr × Obj} (hp : p ∈ σ.own ++ x.out ++ W.X) : h.get? p.1 = some p.2 := by
  obtain ⟨led, N, _⟩ := S.led
  exact (N p (by rw [List.append_assoc, List.append_assoc, ← List.append_assoc σ.own]; exact List.mem_append_right _ hp)).1
/-- the given program's parts, as the tables tell them -/
structure OkG (C : Cfg) (g : G) : Prop extends OkV C g where
  gl0 : look 0 C.gl = none
  gl : ∀ x v, nm x ≠ 0 → look (nm x) C.gl = some v → (x == ("__debug__" : Str)) = false ∧ ∃ u, (∀ W, VR g W v u) ∧ (nsIn g.K mainGlobals x = some (some u) ∨ (nsIn g.K mainGlobals x = some none ∧ bootBuiltins x = some u ∧ x ≠ "__name__"))

  hga : ∀ c, findIn g.K (.ref (g.ca c)) "__getattribute__" = some (some (.builtin "object.__getattribute__"))
  hgt : ∀ c, findIn g.K (.ref (g.ca c)) "__getattr__" = some none
  hst : ∀ c, findIn g.K (.ref (g.ca c)) "__setattr__" = some (some (.builtin "object.__setattr__"))
  po : ∀ c, plainOver g.K (g.ca c) = true
  hdi : ∀ c, hasDictIn g.K (g.ca c) = true
  atr : ∀ c y, memN (nm y) (C.atr c) = true → nm y ≠ 0 ∧ findIn g.K (.ref (g.ca c)) y = some none
  mth : ∀ c y k, look (nm y) (C.mth c) = some k → nm y ≠ 0 ∧ findIn g.K (.ref (g.ca c)) y = some (some (.ref (g.fa k))) ∧ typeIn g.K (.ref (g.fa k)) = some (.type "function")
  bvh : ∀ k, handedIn (g.bv k) = true
  kfn : ∀ k f, nth C.fns k = some f → keepIn g.K (.ref (g.fa k)) = true
  kcl : ∀ c, keepIn g.K (.ref (g.ca c)) = true
  mak : ∀ c k, C.ini c = some k → makesIn g.K (g.ca c) = true ∧ findIn g.K (.ref (g.ca c)) "__init__" = some (some (.ref (g.fa k))) ∧ typeIn g.K (.ref (g.fa k)) = some (.type "function")
  itn : nsIn g.K mainGlobals "range" = some none ∧ nsIn g.K mainGlobals "zip" = some none ∧ nsIn g.K mainGlobals "reversed" = some none
  bvs : [g.bv 0, g.bv 1, g.bv 2, g.bv 3, g.bv 4, g.bv 7, g.bv 8, g.bv 9, g.bv 10, g.bv 11] = [.builtin "len", .builtin "min", .builtin "max", .builtin "abs", .type "str", .type "tuple", .builtin "isinstance", .builtin "all", .builtin "any", .type "bool"]

section
variable {g : G} {C : Cfg} {x : Cx} {n : Nat}

theorem ev_name (O : OkG C g) (c : CxOk g x n) {sc : Scope} {y : Str} {pos : Pos} {l : L} {H H' : Mine.H} {v : AV} (k : ScOk sc x.env)
    (e : (match sc.names.lookup y with
      | some .globalImplicit => (match look (nm y) C.gl with | some v => some (v, H) | Option.none => Option.none)
      | some .globalExplicit => Option.none
      | some _ => (match look (nm y) l with | some v => some (v, H) | Option.none => Option.none)
      | Option.none => Option.none) = some (v, H')) : EvOk g x (.Name y pos) l H v H' := by
  intro W σ s Q E S hQ
  split at e
  · rename_i q
    split at e
    · rename_i w hw
      first | exact xN e | exact xS e | (obtain rfl := x1 e; clear e) | (obtain ⟨rfl, rfl⟩ := x2 e; clear e) | (obtain ⟨rfl, rfl, rfl⟩ := x3 e; clear e) | (exfalso; cases e; done) | cases e
      have hk : x.env.kindOf y = some .globalImplicit := by
        rcases k _ _ q with h | ⟨h, _⟩
        · exact h
        · first | exact xN h | exact xS h | (obtain rfl := x1 h; clear h) | (obtain ⟨rfl, rfl⟩ := x2 h; clear h) | (obtain ⟨rfl, rfl, rfl⟩ := x3 h; clear h) | (exfalso; cases h; done) | cases h
      have hy : nm y ≠ 0 := fun z => by rw [z, O.gl0] at hw; cases hw
      obtain ⟨hd, u, hv, hu⟩ := O.gl y _ hy hw
      obtain ⟨p, loose, mg, mb, T⟩ := c.T
      have fin := hQ W s.heap s.toks u (Wd.le.refl W) S (hv W)
      refine Name_function_global c.ek hk ?_ hd
      rcases hu with hu | ⟨h1, h2, h3⟩
      · exact loadGlobal_global (by rw [c.eg]; exact T.g.keeps S.F.keep) (mg_of c.X T.g hu) fin
      · exact loadGlobal_builtin (by rw [c.eg]; exact T.g.keeps S.F.keep) (mg_none_of c.X T.g h1) (by rw [c.eb]; exact T.b.keeps S.F.keep) ((T.builtins y h3).trans h2) fin
    · first | exact xN e | exact xS e | (obtain rfl := x1 e; clear e) | (obtain ⟨rfl, rfl⟩ := x2 e; clear e) | (obtain ⟨rfl, rfl, rfl⟩ := x3 e; clear e) | (exfalso; cases e; done) | cases e
  · first | exact xN e | exact xS e | (obtain rfl := x1 e; clear e) | (obtain ⟨rfl, rfl⟩ := x2 e; clear e) | (obtain ⟨rfl, rfl, rfl⟩ := x3 e; clear e) | (exfalso; cases e; done) | cases e
  · rename_i kd _ _ q
    split at e
    · rename_i w hw
      first | exact xN e | exact xS e | (obtain rfl := x1 e; clear e) | (obtain ⟨rfl, rfl⟩ := x2 e; clear e) | (obtain ⟨rfl, rfl, rfl⟩ := x3 e; clear e) | (exfalso; cases e; done) | cases e
      have hy : nm y ≠ 0 := fun z => by rw [z, S.lr.1] at hw; cases hw
      obtain ⟨⟨_, hd, hn⟩, hl, hc⟩ := S.lr.2 y _ hy hw
      have hkd : x.env.kindOf y = some .local ∨ x.env.kindOf y = some .cell ∨ x.env.kindOf y = some .free := by
        rcases k _ _ q with h | ⟨h, h'⟩
        · cases kd <;> simp_all
        · exact .inr (.inl h')
      refine wpAny_Name ?_ hd
      rcases hkd with hk | hk | hk
      · obtain ⟨u, hu, hv⟩ := hl hk
        exact wpAny_loadName_local c.ek hk S.ns hu (hQ W s.heap s.toks u (Wd.le.refl W) S hv)
      · obtain ⟨cc, oc, u, h1, h2, h3, hv⟩ := hc (.inl hk)
        exact wpAny_loadName_cell c.ek hk h1 ⟨_, S.at (List.mem_append_left _ h2), h3⟩ (hQ W s.heap s.toks u (Wd.le.refl W) S hv)
      · obtain ⟨cc, oc, u, h1, h2, h3, hv⟩ := hc (.inr hk)
        exact wpAny_loadName_free c.ek hk h1 ⟨_, S.at (List.mem_append_left _ h2), h3⟩ (hQ W s.heap s.toks u (Wd.le.refl W) S hv) hn
    · first | exact xN e | exact xS e | (obtain rfl := x1 e; clear e) | (obtain ⟨rfl, rfl⟩ := x2 e; clear e) | (obtain ⟨rfl, rfl, rfl⟩ := x3 e; clear e) | (exfalso; cases e; done) | cases e
  · first | exact xN e | exact xS e | (obtain rfl := x1 e; clear e) | (obtain ⟨rfl, rfl⟩ := x2 e; clear e) | (obtain ⟨rfl, rfl, rfl⟩ := x3 e; clear e) | (exfalso; cases e; done) | cases e

theorem truthy_ok {M : Model} {A : Around} {E : Value → Shared → Prop} {Q : Bool → Shared → Prop} {s : Shared} {W : Wd} {v : AV} {u : Value} {b : Bool} (e : truthy v = some b) (r : VR g W v u) (h : Q b s) : wpAny M A (PySem.truthy u) Q E s := by
  cases r <;> first | (cases e; done) | (cases e; first | exact wpAny_truthy_bool h | exact truthy_none h)
end
end Mine

set_option maxRecDepth 100000
namespace Mine
open PySem PySem.W PySem.Calls PySem.Spec PyProof.Rows

theorem binI_op {op : Operator} {i j k : Int} (e : binI op i j = some k) : OpI op i j k := by
  unfold binI at e
  split at e
  · cases e; exact .add i j
  · cases e; exact .sub i j
  · split at e
    · rename_i q; cases e; exact .mul i j (Nat.le_of_ble_eq_true q)
    · first | exact xN e | exact xS e | (obtain rfl := x1 e; clear e) | (obtain ⟨rfl, rfl⟩ := x2 e; clear e) | (obtain ⟨rfl, rfl, rfl⟩ := x3 e; clear e) | (exfalso; cases e; done) | cases e
  · split at e
    · first | exact xN e | exact xS e | (obtain rfl := x1 e; clear e) | (obtain ⟨rfl, rfl⟩ := x2 e; clear e) | (obtain ⟨rfl, rfl, rfl⟩ := x3 e; clear e) | (exfalso; cases e; done) | cases e
    · rename_i q
      first | exact xN e | exact xS e | (obtain rfl := x1 e; clear e) | (obtain ⟨rfl, rfl⟩ := x2 e; clear e) | (obtain ⟨rfl, rfl, rfl⟩ := x3 e; clear e) | (exfalso; cases e; done) | cases e
      rw [ibeq_eq] at q
      exact .fmod i j (by simpa using q)
  · split at e
    · split at e
      · rename_i q; cases e; rw [Bool.and_eq_true] at q; exact .shl _ _ (Nat.le_of_ble_eq_true q.1) (Nat.le_of_ble_eq_true q.2)
      · first | exact xN e | exact xS e | (obtain rfl := x1 e; clear e) | (obtain ⟨rfl, rfl⟩ := x2 e; clear e) | (obtain ⟨rfl, rfl, rfl⟩ := x3 e; clear e) | (exfalso; cases e; done) | cases e
    · first | exact xN e | exact xS e | (obtain rfl := x1 e; clear e) | (obtain ⟨rfl, rfl⟩ := x2 e; clear e) | (obtain ⟨rfl, rfl, rfl⟩ := x3 e; clear e) | (exfalso; cases e; done) | cases e
  · split at e
    · cases e; exact .shr _ _
    · first | exact xN e | exact xS e | (obtain rfl := x1 e; clear e) | (obtain ⟨rfl, rfl⟩ := x2 e; clear e) | (obtain ⟨rfl, rfl, rfl⟩ := x3 e; clear e) | (exfalso; cases e; done) | cases e
  · split at e
    · cases e; exact .and _ _
    · first | exact xN e | exact xS e | (obtain rfl := x1 e; clear e) | (obtain ⟨rfl, rfl⟩ := x2 e; clear e) | (obtain ⟨rfl, rfl, rfl⟩ := x3 e; clear e) | (exfalso; cases e; done) | cases e
  · split at e
    · cases e; exact .or _ _
    · first | exact xN e | exact xS e | (obtain rfl := x1 e; clear e) | (obtain ⟨rfl, rfl⟩ := x2 e; clear e) | (obtain ⟨rfl, rfl, rfl⟩ := x3 e; clear e) | (exfalso; cases e; done) | cases e
  · first | exact xN e | exact xS e | (obtain rfl := x1 e; clear e) | (obtain ⟨rfl, rfl⟩ := x2 e; clear e) | (obtain ⟨rfl, rfl, rfl⟩ := x3 e; clear e) | (exfalso; cases e; done) | cases e
theorem intBits_le {m : Nat} (h : m < 18446744073709551616) : Builtin.Int.intBits (Int.ofNat m) ≤ 64 := PySem.intBits_le_64 (by show -(2^64) < (m : Int); omega) (by show (m : Int) < 2^64; omega)

section
variable {prog : Program} {w : World} {A : Around} {E : Value → Shared → Prop} {s : Shared} {t u : Tok} {Q : Value → Shared → Prop} {op : Operator} {i j k : Int}
theorem op_int (o : OpI op i j k) (h : Q (.int k s.toks) { s with toks := s.toks + 1 }) : wpAny (model prog w) A (binaryOp op (.int i t) (.int j u)) Q E s := by
  cases o with
  | add => exact P.add_int h
  | sub => exact P.sub_int h
  | mul _ _ q => exact P.mul_int h (.of_left (PySem.intBits_le_64 (by omega) (by omega)))
  | fmod _ _ q => exact mod_int' q h
  | shl m n q q2 =>
    refine lshift_int (by exact Int.natCast_nonneg n) ?_ ?_
    · have := intBits_le q2
      show ((Builtin.Int.intBits (Int.ofNat m) : Nat) : Int) + (n : Int) ≤ 2 ^ 27
      omega
    · have : (Int.ofNat m) * 2 ^ (Int.ofNat n).toNat = Int.ofNat (m <<< n) := by
        show (m : Int) * 2 ^ n = ((m <<< n : Nat) : Int)
        rw [Nat.shiftLeft_eq]; simp
      rw [this]; exact h
  | shr m n =>
    refine rshift_int (by exact Int.natCast_nonneg n) ?_
    have : (Int.ofNat m).fdiv (2 ^ (Int.ofNat n).toNat) = Int.ofNat (m >>> n) := by
      show (m : Int).fdiv (2 ^ n) = ((m >>> n : Nat) : Int)
      rw [Nat.shiftRight_eq_div_pow, two_pow_cast, Int.fdiv_eq_ediv_of_nonneg _ (Int.natCast_nonneg _)]
      rfl
    rw [this]; exact h
  | and m n =>
    refine and_int ?_
    exact h
  | or m n =>
    refine or_int ?_
    have : Builtin.bitOr (Int.ofNat m) (Int.ofNat n) = Int.ofNat (m ||| n) := by
      have e : ∀ k : Nat, Builtin.bitNot (k : Int) = -(k : Int) - 1 := fun _ => rfl
      have d : ∀ k : Nat, decide (0 ≤ -(k : Int) - 1) = false := fun k => decide_eq_false (by omega)
      have f : ∀ k : Nat, Builtin.bitNot (-(k : Int) - 1) = (k : Int) := fun k => by show -(-(k : Int) - 1) - 1 = _; omega
      show Builtin.bitNot (Builtin.bitAnd (Builtin.bitNot (m : Int)) (Builtin.bitNot (n : Int))) = ((m ||| n : Nat) : Int)
      rw [e, e]
      unfold Builtin.bitAnd
      rw [d, d]
      show Builtin.bitNot (Builtin.bitNot _) = _
      rw [f, f]
      show Builtin.bitNot (Builtin.bitNot ((m ||| n : Nat) : Int)) = _
      rw [e, f]
    rw [this]; exact h

theorem list_times {l : Addr} {items : Array Value} {k : Nat} {x : Int} {u : Tok} (hl : s.heap.get? l = some { cls := .type "list", dict := none, data := .seq items k, slots := #[] })
    (hlo : -(2 ^ 63 : Int) ≤ x) (hhi : x < 2 ^ 63) (hsz : items.size * x.toNat ≤ 2 ^ 24)
    (h : Q (.ref s.heap.objs.size) { s with heap := s.heap.push { cls := .type "list", data := .seq (List.foldl (fun x1 x2 => x1 ++ x2) #[] (List.replicate (if items.isEmpty = true then 0 else x.toNat) items)) } }) :
    wpAny (model prog w) A (binaryOp .Mult (.ref l) (.int x u)) Q E s :=
  wpAny_binaryOp_repeat_ref (T := "list") (U := "int") (by decide) ⟨_, hl, rfl⟩ (fun s' => typeIs_int s' x u) noFill_list_mul F.fills_int_mul F.slot_int_rmul repeat_list F.slot_int_index.lookup
    (call_meets F.slot_int_rmul (typeIs_int s x u) F.entry_int_rmul (F.args_int_rmul_2 _ _) (int___rmul___int_list x u l items k)
      ⟨hl, rfl, ⟨_, hl, rfl⟩, call_meets F.slot_list_mul ⟨_, hl, rfl⟩ F.entry_list_mul (F.args_list_mul_2 _ _)
        (AutoListH.list___mul___list_int_3 l items k x u (by simp [Builtin.List.listFitsIndex]; omega) (by omega) (by simp [Builtin.List.listTooLong, sizeLine]; omega))
        ⟨hl, h⟩⟩)
end

section
variable {g : G} {C : Cfg} {x : Cx} {n : Nat} {W : Wd} {l : L} {H H' : Mine.H} {σ : Sg} {s : Shared} {E : Value → Shared → Prop}
theorem VR.iv {v : AV} {u : Value} {i : Int} (r : VR g W v u) (e : iv g v = some i) : ∃ t, u = .int i t := by
  cases r <;> first | (cases e; done) | (cases e; exact ⟨_, rfl⟩)
theorem VR.of_iv {v : AV} {i : Int} (e : Mine.iv g v = some i) (t : Tok) : VR g W v (.int i t) := by
  cases v <;> first | (cases e; done) | (cases e; first | exact .int _ _ | exact .isym _ _)
theorem VR.sv {v : AV} {u : Value} {i : Str} (r : VR g W v u) (e : sv g v = some i) : ∃ t, u = .str i t := by
  cases r <;> first | (cases e; done) | (cases e; exact ⟨_, rfl⟩)
theorem VR.svlen (O : OkV C g) {v : AV} {u : Value} {i : Str} (r : VR g W v u) (e : Mine.sv g v = some i) : i.length ≤ 100000 := by
  cases r with
  | str cs t h => cases e; have := strB_len h; simp only [Str.length, List.size_toArray]; omega
  | ssym k t => cases e; have := (O.sig k).2; omega
  | _ => cases e
theorem mkS_some {cs : List Nat} {v : AV} (e : mkS cs = some v) : v = .str cs ∧ strB cs = true := by
  unfold mkS at e
  split at e
  · rename_i q; cases e; exact ⟨rfl, q⟩
  · first | exact xN e | exact xS e | (obtain rfl := x1 e; clear e) | (obtain ⟨rfl, rfl⟩ := x2 e; clear e) | (obtain ⟨rfl, rfl, rfl⟩ := x3 e; clear e) | (exfalso; cases e; done) | cases e
theorem VRs.rep {vs : List AV} {us : List Value} (h : VRs g W vs us) : ∀ k, VRs g W (Mine.rep vs k) (Mine.rep us k)
  | 0 => .nil
  | k + 1 => h.append (VRs.rep h k)
theorem foldl_rep (a : Array Value) : ∀ k (b : Array Value), (List.foldl (fun x1 x2 => x1 ++ x2) b (List.replicate k a)).toList = b.toList ++ rep a.toList k
  | 0, b => by simp [rep]
  | k + 1, b => by rw [List.replicate_succ, List.foldl_cons, foldl_rep a k]; simp [rep]
theorem rep_nil {α : Type} : ∀ k, rep ([] : List α) k = []
  | 0 => rfl
  | k + 1 => by show [] ++ rep ([] : List α) k = []; rw [rep_nil k]; rfl
theorem rep_length {α : Type} (a : List α) : ∀ k, (rep a k).length = a.length * k
  | 0 => by simp [rep]
  | k + 1 => by show (a ++ rep a k).length = _; rw [List.length_append, rep_length a k, Nat.mul_succ]; omega

theorem St.getO (S : St g x W l H σ s.heap) {i : Nat} {ao : AO} (e : H.get i = some ao) : ∃ led : Led, News x.h₀ x.L s.heap (led ++ σ.own ++ x.out ++ W.X) ∧ OAt g W led i ao ∧ LedOk g W H led := by
  obtain ⟨led, N, hl⟩ := S.led
  exact ⟨led, N, hl.1 _ _ e, hl⟩
theorem inLed {led own out X : Led} {p : Addr × Obj} (h : p ∈ led) : p ∈ led ++ own ++ out ++ X := List.mem_append_left _ (List.mem_append_left _ (List.mem_append_left _ h))
theorem VR.at {i : Nat} {u : Value} (S : St g x W l H σ s.heap) (r : VR g W (.loc i) u) {a : Addr} (h : (2 * i, a) ∈ W.mp) : u = .ref a := by
  cases r with
  | loc h' => exact congrArg Value.ref ((S.fn _ h' _ h).mp rfl)
theorem St.getL (S : St g x W l H σ s.heap) {i : Nat} {vs : List AV} (e : H.get i = some (.list vs)) {u : Value} (r : VR g W (.loc i) u) : ∃ a ws k, u = .ref a ∧ s.heap.get? a = some (lstObj ws k) ∧ VRs g W vs ws ∧ vs.length ≤ 400000 := by
  obtain ⟨led, N, ⟨a, ws, k, h1, h2, h3, h4⟩, _⟩ := S.getO e
  exact ⟨a, ws, k, r.at S h1, (N _ (inLed h2)).1, h3, h4⟩
theorem newL_some {vs : List AV} {v : AV} (e : H.newL vs = some (v, H')) : v = .loc H.nx ∧ H' = (H.new (.list vs)).2 ∧ vs.length < 100000 := by
  unfold Mine.H.newL at e
  split at e
  · rename_i q; cases e; exact ⟨rfl, rfl, short_len q⟩
  · first | exact xN e | exact xS e | (obtain rfl := x1 e; clear e) | (obtain ⟨rfl, rfl⟩ := x2 e; clear e) | (obtain ⟨rfl, rfl, rfl⟩ := x3 e; clear e) | (exfalso; cases e; done) | cases e
theorem Wd.le_obj (nw : List (Nat × Addr)) : W.le ⟨W.X, nw ++ W.mp⟩ := ⟨fun _ h => h, fun _ h => List.mem_append_right _ h⟩
theorem Wd.le_imm (p : Addr × Obj) : W.le ⟨p :: W.X, W.mp⟩ := ⟨fun _ h => List.mem_cons_of_mem _ h, fun _ h => h⟩
/-- a new list -/
theorem St.newL (S : St g x W l H σ s.heap) {vs : List AV} {ws : List Value} {arr : Array Value} (r : VRs g W vs ws) (ha : arr.toList = ws) (hl : vs.length ≤ 400000) :
    St g x ⟨W.X, (2 * H.nx, s.heap.objs.size) :: W.mp⟩ l (H.new (.list vs)).2 σ (s.heap.push { cls := .type "list", data := .seq arr }) := by
  have := S.grow (h' := s.heap.push { cls := .type "list", data := .seq arr }) (fun b o e => Heap.get?_push_of_some _ e) [(2 * H.nx, s.heap.objs.size, { cls := .type "list", data := .seq arr })] (ao := .list vs)
    (fun p hp => by
      rw [List.mem_singleton] at hp; subst hp
      exact ⟨Nat.le_refl _, Heap.get?_push_size _ rfl, Nat.le_refl _, by simp only; omega⟩)
    (fun p hp q hq => by rw [List.mem_singleton] at hp hq; subst hp hq; simp)
    (fun led' hl' => ⟨s.heap.objs.size, ws, 0, List.mem_cons_self, by
      have := hl' _ (List.mem_singleton.mpr rfl)
      have e : arr = ws.toArray := by rw [← ha]
      rw [e] at this; exact this, r.mono (Wd.le_obj [(2 * H.nx, s.heap.objs.size)]), hl⟩)
  exact this
/-- a new tuple -/
theorem St.newT (S : St g x W l H σ s.heap) {ws : List Value} : St g x ⟨(s.heap.objs.size, tupObj ws 0) :: W.X, W.mp⟩ l H σ (s.heap.push { cls := .type "tuple", data := .seq ws.toArray }) :=
  S.imm (fun b o e => Heap.get?_push_of_some _ e) (Nat.le_refl _) (Heap.get?_push_size _ rfl)
theorem VR.newT {vs : List AV} {ws : List Value} {a : Addr} (r : VRs g W vs ws) (hd : dep 8 (.tup vs) = true) : VR g ⟨(a, tupObj ws 0) :: W.X, W.mp⟩ (.tup vs) (.ref a) :=
  .tup (.inl ⟨0, List.mem_cons_self⟩) (r.mono (Wd.le_imm _)) hd
theorem mkTup_some {vs : List AV} {v : AV} (e : mkTup vs = some v) : v = .tup vs ∧ dep 8 (.tup vs) = true ∧ vs.length < 100000 := by
  unfold mkTup at e
  split at e
  · rename_i q; cases e; rw [Bool.and_eq_true] at q; exact ⟨rfl, q.1, short_len q.2⟩
  · first | exact xN e | exact xS e | (obtain rfl := x1 e; clear e) | (obtain ⟨rfl, rfl⟩ := x2 e; clear e) | (obtain ⟨rfl, rfl, rfl⟩ := x3 e; clear e) | (exfalso; cases e; done) | cases e

theorem bin_hint (O : OkV C g) {op : Operator} {a b v : AV} {ua ub : Value} (e : C.hbin op a b = some v) (ra : VR g W a ua) (rb : VR g W b ub) {Q : Value → Shared → Prop}
    (hQ : ∀ u tk, VR g W v u → Q u { s with toks := tk }) : wpAny (model g.prog g.w) x.A (binaryOp op ua ub) Q E s := by
  cases O.bin _ _ _ _ e with
  | int i j k h1 h2 h3 h4 =>
    obtain ⟨t, rfl⟩ := ra.iv h1
    obtain ⟨u, rfl⟩ := rb.iv h2
    exact op_int h4 (hQ _ _ (VR.of_iv h3 _))
  | cat p q m h0 h1 h2 h3 h4 =>
    have l1 := ra.svlen O h1
    have l2 := rb.svlen O h2
    obtain ⟨t, rfl⟩ := ra.sv h1
    obtain ⟨u, rfl⟩ := rb.sv h2
    subst h0 h3
    refine PyProof.Rows.add_str (fun t' tk => ?_) (by simp only [sizeLine_eq]; omega)
    rw [← h4]; exact hQ _ _ (.ssym _ _)
  | rep p k m h0 h1 h2 h3 h4 h5 h6 h7 =>
    obtain ⟨t, rfl⟩ := ra.sv h1
    obtain ⟨u, rfl⟩ := rb.iv h2
    subst h0 h6
    refine P.mul_str (by simp; omega) (fun _ _ => ?_) (fun _ _ => ?_) ?_
    · rw [h5]
      have : (1 : Int) ≤ (2 ^ 63 - 1) / (k : Int) := by
        rw [Int.le_ediv_iff_mul_le (by omega)]; omega
      omega
    · rw [h5]
      show decide (1 * (k : Int).toNat > sizeLine) = false
      exact decide_eq_false (by rw [sizeLine_eq]; omega)
    · rw [if_neg (by omega)]
      by_cases hk : k = 1
      · subst hk
        rw [if_pos (by simp)]
        have : g.sig m = p := by rw [h7]; simp
        have := hQ (.str p t) s.toks (by rw [← this]; exact .ssym m t)
        exact this
      · rw [if_neg (by simp [h5]; omega)]
        show _ ∧ Q (.str ⟨(List.replicate k p.cps).foldl (· ++ ·) #[]⟩ _) _
        rw [Int.toNat_natCast, ← h7]
        exact ⟨by have := (O.sig m).2; rw [sizeLine_eq]; omega, hQ _ _ (.ssym m _)⟩
theorem bin_hb (O : OkV C g) (S : St g x W l H σ s.heap) {op : Operator} {a b v : AV} {ua ub : Value} (e : (match C.hbin op a b with | some v => some (v, H) | none => none) = some (v, H')) (ra : VR g W a ua) (rb : VR g W b ub) {Q : Value → Shared → Prop}
    (hQ : PV g x W l H' σ v Q s) : wpAny (model g.prog g.w) x.A (binaryOp op ua ub) Q E s := by
  obtain ⟨v', h, e⟩ := optV e
  obtain ⟨rfl, rfl⟩ := x2 e
  exact bin_hint O h ra rb fun u tk r => hQ W s.heap tk u (Wd.le.refl W) S r
theorem bin_str (S : St g x W l H σ s.heap) {cs ds : List Nat} {w : AV} {ua ub : Value} (hw : mkS (cs ++ ds) = some w) (ra : VR g W (.str cs) ua) (rb : VR g W (.str ds) ub) {Q : Value → Shared → Prop}
    (hQ : PV g x W l H σ w Q s) : wpAny (model g.prog g.w) x.A (binaryOp .Add ua ub) Q E s := by
  obtain ⟨rfl, hb⟩ := mkS_some hw
  obtain ⟨t, rfl, ha⟩ := ra.isS
  obtain ⟨t', rfl, hb'⟩ := rb.isS
  refine PyProof.Rows.add_str (fun t'' tk => ?_) ?_
  · have := hQ W s.heap tk (.str ⟨(cs ++ ds).toArray⟩ t'') (Wd.le.refl W) S (.str _ _ hb)
    have e : (⟨cs.toArray⟩ : Str) ++ ⟨ds.toArray⟩ = ⟨(cs ++ ds).toArray⟩ := by show (⟨cs.toArray ++ ds.toArray⟩ : Str) = _; simp
    rw [e]; exact this
  · have := strB_len ha; have := strB_len hb'
    simp only [Str.length, List.size_toArray, sizeLine_eq]; omega
theorem bin_cat (S : St g x W l H σ s.heap) {i j : Nat} {vs ys : List AV} {v : AV} {ua ub : Value} (hv : H.get i = some (.list vs)) (hy : H.get j = some (.list ys)) (e : H.newL (vs ++ ys) = some (v, H')) (ra : VR g W (.loc i) ua) (rb : VR g W (.loc j) ub) {Q : Value → Shared → Prop}
    (hQ : PV g x W l H' σ v Q s) : wpAny (model g.prog g.w) x.A (binaryOp .Add ua ub) Q E s := by
  obtain ⟨rfl, rfl, hl⟩ := newL_some e
  obtain ⟨a1, w1, k1, rfl, g1, r1, l1⟩ := S.getL hv ra
  obtain ⟨a2, w2, k2, rfl, g2, r2, l2⟩ := S.getL hy rb
  refine P.add_list g1 g2 (hQ _ _ _ _ (Wd.le_obj [(2 * H.nx, s.heap.objs.size)]) (S.newL (r1.append r2) (by simp) (by omega)) (.loc List.mem_cons_self)) ?_
  have := r1.length; have := r2.length
  simp only [List.size_toArray, sizeLine_eq]; omega
theorem bin_rep (S : St g x W l H σ s.heap) {i k : Nat} {vs : List AV} {v : AV} {ua ub : Value} (hv : H.get i = some (.list vs)) (hk : Nat.blt k 2000 = true) (e : H.newL (rep vs k) = some (v, H')) (ra : VR g W (.loc i) ua) (rb : VR g W (.int (.ofNat k)) ub) {Q : Value → Shared → Prop}
    (hQ : PV g x W l H' σ v Q s) : wpAny (model g.prog g.w) x.A (binaryOp .Mult ua ub) Q E s := by
  obtain ⟨rfl, rfl, hl⟩ := newL_some e
  obtain ⟨a1, w1, k1, rfl, g1, r1, l1⟩ := S.getL hv ra
  obtain ⟨t, rfl⟩ := rb.isI
  have hk := Nat.le_of_ble_eq_true hk
  have hl1 := r1.length
  have hlr := rep_length vs k
  refine list_times g1 (by show -(2 ^ 63 : Int) ≤ (k : Int); omega) (by show (k : Int) < 2 ^ 63; omega) ?_ (hQ _ _ _ _ (Wd.le_obj [(2 * H.nx, s.heap.objs.size)]) (S.newL (r1.rep k) ?_ (by omega)) (.loc List.mem_cons_self))
  · show w1.toArray.size * k ≤ 2 ^ 24
    rw [List.size_toArray, hl1]; omega
  · rw [foldl_rep]
    cases w1 with
    | nil => rw [rep_nil, rep_nil]; simp
    | cons a r => simp
theorem bin_loc (S : St g x W l H σ s.heap) {op : Operator} {i : Nat} {b v : AV} {ua ub : Value} (e : bin C op (.loc i) b H = some (v, H')) (ra : VR g W (.loc i) ua) (rb : VR g W b ub) {Q : Value → Shared → Prop}
    (hQ : PV g x W l H' σ v Q s) : wpAny (model g.prog g.w) x.A (binaryOp op ua ub) Q E s := by
  cases op <;> first | exact xN e | skip
  · obtain ⟨vs, hv, e⟩ := list_inv (o := H.get i) e
    obtain ⟨j, rfl, e⟩ := loc_inv e
    obtain ⟨ys, hy, e⟩ := list_inv e
    exact bin_cat S hv hy e ra rb hQ
  · obtain ⟨vs, hv, e1⟩ := list_inv (o := H.get i) e
    clear e
    cases b with
    | int k =>
      cases k with
      | negSucc m => exact xN e1
      | ofNat k =>
        obtain ⟨hk, e⟩ := bool_inv (b := Nat.blt k 2000) e1
        exact bin_rep S hv hk e ra rb hQ
    | _ => exact xN e1
theorem bin_ok (O : OkV C g) {op : Operator} {a b v : AV} {ua ub : Value} (S : St g x W l H σ s.heap) (e : bin C op a b H = some (v, H')) (ra : VR g W a ua) (rb : VR g W b ub) {Q : Value → Shared → Prop}
    (hQ : PV g x W l H' σ v Q s) : wpAny (model g.prog g.w) x.A (binaryOp op ua ub) Q E s := by
  cases a <;> first | exact bin_hb O S e ra rb hQ | skip
  · rename_i i
    cases b <;> first | exact bin_hb O S e ra rb hQ | skip
    rename_i j
    obtain ⟨k, hk, e⟩ := optI (o := binI op i j) e
    obtain ⟨rfl, rfl⟩ := x2 e
    obtain ⟨t1, rfl⟩ := ra.isI
    obtain ⟨t2, rfl⟩ := rb.isI
    exact op_int (binI_op hk) (hQ W s.heap _ _ (Wd.le.refl W) S (.int _ _))
  · rename_i cs
    cases b <;> first | exact bin_hb O S e ra rb hQ | skip
    rename_i ds
    cases op <;> first | exact xN e | skip
    obtain ⟨w, hw, e⟩ := optV (o := mkS (cs ++ ds)) e
    obtain ⟨rfl, rfl⟩ := x2 e
    exact bin_str S hw ra rb hQ
  · exact bin_loc S e ra rb hQ
end
end Mine

set_option maxRecDepth 100000
namespace Mine
open PySem PySem.W PySem.Calls PySem.Spec PyProof.Rows

section
variable {g : G} {C : Cfg} {x : Cx} {n : Nat} {W : Wd} {l : L} {H H' : Mine.H} {σ : Sg} {s : Shared} {E : Value → Shared → Prop}

theorem St.tups {h : Heap} (c : CxOk g x n) (S : St g x W l H σ h) : Tups g W h := by
  intro a ws t
  rcases t with ⟨k, hm⟩ | ⟨k, hk⟩
  · exact ⟨_, S.at (List.mem_append_right _ hm), rfl, k, rfl⟩
  · exact ⟨_, S.F.keep _ _ (c.X _ _ hk), rfl, k, rfl⟩
theorem St.notMods {h : Heap} (c : CxOk g x n) (S : St g x W l H σ h) {led : Led} (N : News x.h₀ x.L h (led ++ σ.own ++ x.out ++ W.X)) {a : Addr} {o : Obj} (ha : (a, o) ∈ led) : (a == sysModules) = false := by
  have := (N _ (inLed ha)).2.2
  obtain ⟨z, hz⟩ := c.sm
  rw [beq_eq_false_iff_ne]
  intro e
  simp only at this
  rw [e, hz] at this; cases this

theorem eqD_ints (O : OkV C g) {a b : AV} {i j : Int} {r : Bool} (e : eqD C a b = some r) (ha : iv g a = some i) (hb : iv g b = some j) : (i == j) = r := by
  obtain ⟨da, db, ea, eb, w⟩ := eqv_ok O e
  rw [iv_pd ha] at ea; rw [iv_pd hb] at eb
  cases ea; cases eb
  exact w
noncomputable def FindI (g : G) (W : Wd) (q : List (Int × Value)) (i : Int) : Option AV → Prop
  | some v => ∃ u, valueAt q i = some u ∧ VR g W v u
  | none => valueAt q i = none
noncomputable def FindT (g : G) (W : Wd) (q : List (KD × Addr × Value)) (k : KD) : Option AV → Prop
  | some v => ∃ a u, atKey q k = some (a, u) ∧ VR g W v u
  | none => atKey q k = none
theorem KVI.find (O : OkV C g) {kvs : List (AV × AV)} {q : List (Int × Value)} (h : KVI g W kvs q) {k : AV} {i : Int} (hk : iv g k = some i) {r : Option AV} (e : dfindG C 1 k kvs = some r) :
    FindI g W q i r := by
  induction h with
  | nil => cases e; rfl
  | @cons k' j v u kvs q h1 h2 h3 ih =>
    unfold dfindG at e
    split at e
    · split at e
      · rename_i z
        first | exact xN e | exact xS e | (obtain rfl := x1 e; clear e) | (obtain ⟨rfl, rfl⟩ := x2 e; clear e) | (obtain ⟨rfl, rfl, rfl⟩ := x3 e; clear e) | (exfalso; cases e; done) | cases e
        have := eqD_ints O z h1 hk
        refine ⟨u, ?_, h2⟩
        simp only [beq_iff_eq] at this
        subst this
        simp [valueAt]
      · rename_i z
        have := eqD_ints O z h1 hk
        have e' : valueAt ((j, u) :: q) i = valueAt q i := by
          simp only [beq_eq_false_iff_ne] at this
          simp [valueAt, this]
        have := ih e
        cases r with
        | none => exact e'.trans this
        | some v => obtain ⟨u, p, q⟩ := this; exact ⟨u, e'.trans p, q⟩
      · first | exact xN e | exact xS e | (obtain rfl := x1 e; clear e) | (obtain ⟨rfl, rfl⟩ := x2 e; clear e) | (obtain ⟨rfl, rfl, rfl⟩ := x3 e; clear e) | (exfalso; cases e; done) | cases e
    · first | exact xN e | exact xS e | (obtain rfl := x1 e; clear e) | (obtain ⟨rfl, rfl⟩ := x2 e; clear e) | (obtain ⟨rfl, rfl, rfl⟩ := x3 e; clear e) | (exfalso; cases e; done) | cases e
theorem eqD_keys (O : OkV C g) {a b : AV} {da db : PyData} {r : Bool} (e : eqD C a b = some r) (ha : pd g a = some da) (hb : pd g b = some db) (ga : goodK da = true) (gb : goodK db = true) : decide (nk da = nk db) = r := by
  obtain ⟨da', db', ea, eb, w⟩ := eqv_ok O e
  rw [ha] at ea; rw [hb] at eb
  cases ea; cases eb
  cases r with
  | true => exact decide_eq_true ((eqv_nk da db ga gb).mp w)
  | false => exact decide_eq_false fun z => by rw [(eqv_nk da db ga gb).mpr z] at w; cases w
theorem KVT.find (O : OkV C g) {kvs : List (AV × AV)} {q : List (KD × Addr × Value)} (h : KVT g W kvs q) {k : AV} {d : PyData} (hk : pd g k = some d) (gk : goodK d = true) {r : Option AV} (e : dfindG C 2 k kvs = some r) :
    FindT g W q (nk d) r := by
  induction h with
  | nil => cases e; rfl
  | @cons k' d' a v u kvs q h1 h2 h3 h4 h5 ih =>
    unfold dfindG at e
    split at e
    · split at e
      · rename_i z
        first | exact xN e | exact xS e | (obtain rfl := x1 e; clear e) | (obtain ⟨rfl, rfl⟩ := x2 e; clear e) | (obtain ⟨rfl, rfl, rfl⟩ := x3 e; clear e) | (exfalso; cases e; done) | cases e
        have := eqD_keys O z h2 hk h3 gk
        refine ⟨a, u, ?_, h4⟩
        simp only [decide_eq_true_eq] at this
        simp [atKey, this]
      · rename_i z
        have := eqD_keys O z h2 hk h3 gk
        have e' : atKey ((nk d', a, u) :: q) (nk d) = atKey q (nk d) := by
          simp only [decide_eq_false_iff_not] at this
          simp [atKey, this]
        have := ih e
        cases r with
        | none => exact e'.trans this
        | some v => obtain ⟨a, u, p, q⟩ := this; exact ⟨a, u, e'.trans p, q⟩
      · first | exact xN e | exact xS e | (obtain rfl := x1 e; clear e) | (obtain ⟨rfl, rfl⟩ := x2 e; clear e) | (obtain ⟨rfl, rfl, rfl⟩ := x3 e; clear e) | (exfalso; cases e; done) | cases e
    · first | exact xN e | exact xS e | (obtain rfl := x1 e; clear e) | (obtain ⟨rfl, rfl⟩ := x2 e; clear e) | (obtain ⟨rfl, rfl, rfl⟩ := x3 e; clear e) | (exfalso; cases e; done) | cases e
theorem VR.goodB (O : OkV C g) : (∀ {v : AV} {u : Value}, VR g W v u → ∀ n, Mine.goodB n v = true → ∃ d, pd g v = some d ∧ goodK d = true) ∧ ∀ {v : List AV} {u : List Value}, VRs g W v u → ∀ n, deps (Mine.goodB n) v = true → ∃ d, pds g v = some d ∧ goodKs d = true := by
  have yes : ∀ {v : AV} {d : PyData}, pd g v = some d → goodK d = true → ∀ n, Mine.goodB n v = true → ∃ d, pd g v = some d ∧ goodK d = true := fun a b _ _ => ⟨_, a, b⟩
  have no : ∀ {v : AV}, (∀ n, Mine.goodB n v = false) → ∀ n, Mine.goodB n v = true → ∃ d, pd g v = some d ∧ goodK d = true := fun a n b => absurd ((a n).symm.trans b) Bool.false_ne_true
  have z : ∀ {v : AV}, (∀ n, Mine.goodB (n + 1) v = false) → ∀ n, Mine.goodB n v = false := fun h n => match n with | 0 => rfl | n + 1 => h n
  refine VR.ind (no (z fun _ => rfl)) (fun b => yes rfl rfl) (fun i t => yes rfl rfl) (fun k t => yes rfl rfl) (fun c t q => yes rfl (strB_ok q)) (fun _ _ => no (z fun _ => rfl)) (fun _ _ _ => no (z fun _ => rfl))
    (fun {vs a ws} _ ih _ n h => ?_) (fun _ => no (z fun _ => rfl)) (fun _ => no (z fun _ => rfl)) (fun _ => no (z fun _ => rfl)) (fun _ => no (z fun _ => rfl)) (fun _ => no (z fun _ => rfl)) (fun _ _ => ⟨[], rfl, rfl⟩) (fun ih1 ih2 n h => ?_)
  · cases n with
    | zero => exact absurd (show false = true from h) Bool.false_ne_true
    | succ n =>
      obtain ⟨ds, e, q⟩ := ih n h
      exact ⟨.tuple ds, by simp [pd, e], by simpa [goodK] using q⟩
  · have h' := deps_iff.mp h
    obtain ⟨d, e, q⟩ := ih1 n (h' _ List.mem_cons_self)
    obtain ⟨ds, e', q'⟩ := ih2 n (deps_iff.mpr fun x hx => h' x (List.mem_cons_of_mem _ hx))
    exact ⟨_, pds_cons e e', by simp [goodKs, q, q']⟩
theorem VR.good (O : OkV C g) {v : AV} {u : Value} {n : Nat} (r : VR g W v u) (h : Mine.goodB n v = true) : ∃ d, pd g v = some d ∧ goodK d = true := (VR.goodB O).1 r n h
theorem VRs.good (O : OkV C g) {v : List AV} {u : List Value} {n : Nat} (r : VRs g W v u) (h : deps (Mine.goodB n) v = true) : ∃ d, pds g v = some d ∧ goodKs d = true := (VR.goodB O).2 r n h

/-- a dict's rows are of the key's kind -/
theorem drI {kvs : List (AV × AV)} {o : Obj} (h : DRI g W kvs o ∨ DRT g W kvs o ∨ DRS g W kvs o) (hd : ∀ p r, kvs = p :: r → kk p.1 = 1) : DRI g W kvs o := by
  rcases h with h | ⟨q, es, ep, h1, h2, h3, h4, h5⟩ | ⟨c, a, v, w, u, z, e, _⟩
  · exact h
  · cases h1 with
    | nil =>
      have : es.toList = [] := h4
      refine ⟨[], .nil, es, ep, h2, h3, fun e he => ?_, ?_, by simp⟩
      · rw [← Array.mem_toList_iff, this] at he; cases he
      · rw [this]; exact .nil
    | @cons k _ _ _ _ _ _ r1 =>
      have := hd _ _ rfl
      cases k <;> first | (cases this; done) | (cases r1; done)
  · have := hd _ _ e
    first | exact xN this | exact xS this | (obtain rfl := x1 this; clear this) | (obtain ⟨rfl, rfl⟩ := x2 this; clear this) | (obtain ⟨rfl, rfl, rfl⟩ := x3 this; clear this) | (exfalso; cases this; done) | cases this
theorem drT {kvs : List (AV × AV)} {o : Obj} (h : DRI g W kvs o ∨ DRT g W kvs o ∨ DRS g W kvs o) (hd : ∀ p r, kvs = p :: r → kk p.1 = 2) : DRT g W kvs o := by
  rcases h with ⟨q, h1, es, ep, h2, h3, h4, h5, h6⟩ | h | ⟨c, a, v, w, u, z, e, _⟩
  · cases h1 with
    | nil =>
      have : es.toList = [] := by cases hq : es.toList with | nil => rfl | cons => rw [hq] at h5; cases h5
      exact ⟨[], es, ep, .nil, h2, h3, this, by simp⟩
    | @cons k _ _ _ _ _ r1 =>
      have := hd _ _ rfl
      cases k <;> first | (cases this; done) | (simp [iv] at r1; done)
  · exact h
  · have := hd _ _ e
    first | exact xN this | exact xS this | (obtain rfl := x1 this; clear this) | (obtain ⟨rfl, rfl⟩ := x2 this; clear this) | (obtain ⟨rfl, rfl, rfl⟩ := x3 this; clear this) | (exfalso; cases this; done) | cases this
theorem dfindG_head {c : Nat} {k : AV} {kvs : List (AV × AV)} {r : Option AV} (e : dfindG C c k kvs = some r) : ∀ p q, kvs = p :: q → kk p.1 = c := by
  rintro p q rfl
  unfold dfindG at e
  split at e
  · rename_i z; exact Nat.eq_of_beq_eq_true z
  · first | exact xN e | exact xS e | (obtain rfl := x1 e; clear e) | (obtain ⟨rfl, rfl⟩ := x2 e; clear e) | (obtain ⟨rfl, rfl, rfl⟩ := x3 e; clear e) | (exfalso; cases e; done) | cases e
theorem DRT.at {h : Heap} {O : OkV C g} (T : Tups g W h) {kvs : List (AV × AV)} {o : Obj} {d : Addr} (r : DRT g W kvs o) (ho : h.get? d = some o) : ∃ q, KVT g W kvs q ∧ h.DictOfH (keyKind g.prog g.w) d q := by
  obtain ⟨q, es, ep, h1, h2, h3, h4, h5⟩ := r
  refine ⟨q, h1, o, es, ep, ho, h2, h3, h4, ?_, h5⟩
  clear h4 h5
  induction h1 with
  | nil => intro x hx; cases hx
  | @cons k dd a v u kvs q r1 r2 r3 r4 r5 ih =>
    intro x hx
    rcases List.mem_cons.mp hx with rfl | hx
    · obtain ⟨⟨as, rd⟩, _⟩ := r1.reads O T r2
      exact ⟨dd, as, rd, r3, r1.deep r2, rfl⟩
    · exact ih x hx
end
end Mine

set_option maxRecDepth 100000
namespace Mine
open PySem PySem.W PySem.Calls PySem.Spec PyProof.Rows

section
variable {g : G} {C : Cfg} {x : Cx} {n : Nat} {W : Wd} {l : L} {H H' : Mine.H} {σ : Sg} {s : Shared} {E : Value → Shared → Prop}

theorem VRs.deep : ∀ {vs : List AV} {us : List Value} {ds : List PyData}, VRs g W vs us → pds g vs = some ds → PyData.depthAll ds ≤ 8
  | _, _, _, .nil, e => by simp only [pds, Option.some.injEq] at e; subst e; simp [PyData.depthAll]
  | _, _, _, .cons a b, e => by
    simp only [pds] at e
    split at e
    · rename_i e1 e2
      first | exact xN e | exact xS e | (obtain rfl := x1 e; clear e) | (obtain ⟨rfl, rfl⟩ := x2 e; clear e) | (obtain ⟨rfl, rfl, rfl⟩ := x3 e; clear e) | (exfalso; cases e; done) | cases e
      simp only [PyData.depthAll]
      exact Nat.max_le.mpr ⟨a.deep e1, VRs.deep b e2⟩
    · first | exact xN e | exact xS e | (obtain rfl := x1 e; clear e) | (obtain ⟨rfl, rfl⟩ := x2 e; clear e) | (obtain ⟨rfl, rfl, rfl⟩ := x3 e; clear e) | (exfalso; cases e; done) | cases e
inductive EqR (g : G) (s : Shared) (ua ub : Value) (r : Bool) : Prop
  | mk (da db : PyData) (as bs : List Addr) : Reads s.heap ua da as → Reads s.heap ub db bs → da.canLay0 = true → db.canLay0 = true → da.depth ≤ 9 → PyData.eqv da db = r → EqR g s ua ub r
theorem eqD_ok (O : OkV C g) (T : Tups g W s.heap) {a b : AV} {ua ub : Value} {r : Bool} (e : eqD C a b = some r) (ra : VR g W a ua) (rb : VR g W b ub) : EqR g s ua ub r := by
  obtain ⟨da, db, ea, eb, w⟩ := eqv_ok O e
  obtain ⟨⟨as, h1⟩, h2⟩ := ra.reads O T ea
  obtain ⟨⟨bs, h3⟩, h4⟩ := rb.reads O T eb
  exact ⟨da, db, as, bs, h1, h3, h2, h4, Nat.le_succ_of_le (ra.deep ea), w⟩
theorem eqO_list (O : OkV C g) (T : Tups g W s.heap) (S : St g x W l H σ s.heap) {i : Nat} {b : AV} {ua ub : Value} {r : Bool} (e : eqO C H (.loc i) b = some r) (ra : VR g W (.loc i) ua) (rb : VR g W b ub) : EqR g s ua ub r := by
  obtain ⟨j, rfl, e'⟩ := loc_inv e
  obtain ⟨vs, hv, e'⟩ := list_inv e'
  obtain ⟨ys, hy, e'⟩ := list_inv e'
  obtain ⟨a1, w1, k1, rfl, g1, r1, l1⟩ := S.getL hv ra
  obtain ⟨a2, w2, k2, rfl, g2, r2, l2⟩ := S.getL hy rb
  obtain ⟨dx, dy, ex, ey, w⟩ := eqvL_ok (fun a _ b r z => eqv_ok O z) e'
  obtain ⟨⟨as, h1⟩, h2⟩ := r1.reads O T ex
  obtain ⟨⟨bs, h3⟩, h4⟩ := r2.reads O T ey
  have := r1.deep ex
  exact ⟨.list dx, .list dy, _, _, .list g1 rfl rfl h1, .list g2 rfl rfl h3, h2, h4, by simp only [PyData.depth]; omega, by simpa [PyData.eqv] using w⟩
theorem eqO_ok (O : OkV C g) (c : CxOk g x n) (S : St g x W l H σ s.heap) {a b : AV} {ua ub : Value} {r : Bool} (e : eqO C H a b = some r) (ra : VR g W a ua) (rb : VR g W b ub) : EqR g s ua ub r := by
  have T := S.tups c
  cases a with
  | loc i => exact eqO_list O T S e ra rb
  | _ => exact eqD_ok O T e ra rb
theorem memL_ok (O : OkV C g) {k : AV} : ∀ {vs : List AV} {r : Bool}, memL C k vs = some r → ∃ ds d, pds g vs = some ds ∧ pd g k = some d ∧ ds.any (fun y => PyData.eqv y d) = r
  | [], r, e => by
    unfold memL at e
    split at e
    · rename_i q
      first | exact xN e | exact xS e | (obtain rfl := x1 e; clear e) | (obtain ⟨rfl, rfl⟩ := x2 e; clear e) | (obtain ⟨rfl, rfl, rfl⟩ := x3 e; clear e) | (exfalso; cases e; done) | cases e
      obtain ⟨d, h⟩ := isD_pd (g := g) q
      exact ⟨[], d, rfl, h, rfl⟩
    · first | exact xN e | exact xS e | (obtain rfl := x1 e; clear e) | (obtain ⟨rfl, rfl⟩ := x2 e; clear e) | (obtain ⟨rfl, rfl, rfl⟩ := x3 e; clear e) | (exfalso; cases e; done) | cases e
  | v :: vs, r, e => by
    unfold memL at e
    split at e
    · rename_i z
      split at e
      · rename_i q
        first | exact xN e | exact xS e | (obtain rfl := x1 e; clear e) | (obtain ⟨rfl, rfl⟩ := x2 e; clear e) | (obtain ⟨rfl, rfl, rfl⟩ := x3 e; clear e) | (exfalso; cases e; done) | cases e
        obtain ⟨dv, dk, e1, e2, w⟩ := eqv_ok O z
        obtain ⟨ds, h⟩ := isDs_pd (g := g) q
        exact ⟨dv :: ds, dk, pds_cons e1 h, e2, by simp [w]⟩
      · first | exact xN e | exact xS e | (obtain rfl := x1 e; clear e) | (obtain ⟨rfl, rfl⟩ := x2 e; clear e) | (obtain ⟨rfl, rfl, rfl⟩ := x3 e; clear e) | (exfalso; cases e; done) | cases e
    · rename_i z
      obtain ⟨dv, dk, e1, e2, w⟩ := eqv_ok O z
      obtain ⟨ds, d, h1, h2, h3⟩ := memL_ok O e
      rw [e2] at h2; cases h2
      exact ⟨dv :: ds, dk, pds_cons e1 h1, e2, by simp [w, h3]⟩
    · first | exact xN e | exact xS e | (obtain rfl := x1 e; clear e) | (obtain ⟨rfl, rfl⟩ := x2 e; clear e) | (obtain ⟨rfl, rfl, rfl⟩ := x3 e; clear e) | (exfalso; cases e; done) | cases e
inductive DictR (g : G) (x : Cx) (W : Wd) (H : Mine.H) (σ : Sg) (s : Shared) (i : Nat) (kvs : List (AV × AV)) : Value → Prop
  | mk (led : Led) (a : Addr) (o : Obj) : News x.h₀ x.L s.heap (led ++ σ.own ++ x.out ++ W.X) → LedOk g W H led → (a, o) ∈ led → s.heap.get? a = some o → (2 * i, a) ∈ W.mp → (DRI g W kvs o ∨ DRT g W kvs o ∨ DRS g W kvs o) → kvs.length ≤ 400000 → DictR g x W H σ s i kvs (.ref a)
theorem getDict (S : St g x W l H σ s.heap) {i : Nat} {kvs : List (AV × AV)} (e : H.get i = some (.dict kvs)) {u : Value} (r : VR g W (.loc i) u) : DictR g x W H σ s i kvs u := by
  obtain ⟨led, N, ⟨a, o, h1, h2, h3, h4⟩, hl⟩ := S.getO e
  rw [r.at S h1]
  exact ⟨led, a, o, N, hl, h2, (N _ (inLed h2)).1, h1, h3, h4⟩
theorem keyOk_cases {k : AV} (e : keyOk k = true) : (∃ i, k = .int i) ∨ (∃ i, k = .isym i) ∨ (∃ vs, k = .tup vs ∧ goodB 8 (.tup vs) = true) := by
  cases k <;> first | (cases e; done) | exact .inl ⟨_, rfl⟩ | exact .inr (.inl ⟨_, rfl⟩) | exact .inr (.inr ⟨_, rfl, e⟩)
/-- a key, as the two kinds of dicts take it -/
theorem key_cases (O : OkV C g) (c : CxOk g x n) (S : St g x W l H σ s.heap) {k : AV} {u : Value} (e : keyOk k = true) (r : VR g W k u) :
    (∃ i t, iv g k = some i ∧ u = .int i t ∧ kk k = 1) ∨ (∃ a d, u = .ref a ∧ pd g k = some d ∧ goodK d = true ∧ KIs s.heap (nk d) a ∧ kk k = 2) := by
  rcases keyOk_cases e with ⟨i, rfl⟩ | ⟨i, rfl⟩ | ⟨vs, rfl, hg⟩
  · obtain ⟨t, rfl⟩ := r.isI; exact .inl ⟨_, _, rfl, rfl, rfl⟩
  · obtain ⟨t, rfl⟩ := r.isK; exact .inl ⟨_, _, rfl, rfl, rfl⟩
  · obtain ⟨d, e1, e2⟩ := r.good O hg
    obtain ⟨⟨as, rd⟩, _⟩ := r.reads O (S.tups c) e1
    have hd := r.deep e1
    obtain ⟨a, ws, rfl, _, _, _⟩ := r.isT
    exact .inr ⟨_, d, rfl, e1, e2, ⟨d, as, rd, e2, hd, rfl⟩, rfl⟩
theorem dfind_some {k : AV} {kvs : List (AV × AV)} {w : Option AV} (e : dfind C k kvs = some w) : keyOk k = true ∧ dfindG C (kk k) k kvs = some w := by
  unfold dfind at e
  split at e
  · rename_i q; exact ⟨q, e⟩
  · first | exact xN e | exact xS e | (obtain rfl := x1 e; clear e) | (obtain ⟨rfl, rfl⟩ := x2 e; clear e) | (obtain ⟨rfl, rfl, rfl⟩ := x3 e; clear e) | (exfalso; cases e; done) | cases e
theorem units_ok (c : CxOk g x n) : x.A.units + 190 < cLine := by have := c.un; omega

theorem dfindI_some {k : AV} {kvs : List (AV × AV)} {w : Option AV} (e : dfindI C k kvs = some w) : kk k = 1 ∧ dfindG C 1 k kvs = some w := by
  obtain ⟨h, e⟩ := bool_inv e
  exact ⟨Nat.eq_of_beq_eq_true h, e⟩
theorem VR.key1 {k : AV} {u : Value} (r : VR g W k u) (e : kk k = 1) : ∃ i t, Mine.iv g k = some i ∧ u = .int i t := by
  cases r <;> first | exact absurd (show 0 = 1 from e) Nat.zero_ne_one | exact ⟨_, _, rfl, rfl⟩ | exact absurd (show 2 = 1 from e) (by decide)
/-- a value found in a dict of ints, or not -/
inductive FoundI (g : G) (x : Cx) (W : Wd) (H : Mine.H) (σ : Sg) (s : Shared) (w : Option AV) : Value → Value → Prop
  | mk (led : Led) (d : Addr) (i : Int) (t : Tok) (q : List (Int × Value)) : (d == sysModules) = false → s.heap.DictOf (intKind g.prog g.w) d q → FindI g W q i w → FoundI g x W H σ s w (.ref d) (.int i t)
theorem found1 (O : OkV C g) (c : CxOk g x n) (S : St g x W l H σ s.heap) {j : Nat} {kvs : List (AV × AV)} {k : AV} {uo uk : Value} {w : Option AV} (hv : H.get j = some (.dict kvs)) (e : dfindI C k kvs = some w) (ro : VR g W (.loc j) uo) (rk : VR g W k uk) : FoundI g x W H σ s w uo uk := by
  obtain ⟨led, d, o, N, hl, hm, ho, hmp, hr, _⟩ := getDict S hv ro
  obtain ⟨h, e⟩ := dfindI_some e
  obtain ⟨i, t, h1, rfl⟩ := rk.key1 h
  obtain ⟨q, hq, hdi⟩ := drI hr (dfindG_head e)
  exact ⟨led, d, i, t, q, S.notMods c N hm, Heap.dictOf_iff.mpr ⟨o, ho, hdi⟩, hq.find O h1 e⟩
inductive InC (C : Cfg) (H : Mine.H) (k : AV) : AV → Bool → Prop
  | tup {vs : List AV} {r : Bool} : memL C k vs = some r → InC C H k (.tup vs) r
  | str {a b : List Nat} : k = .str a → InC C H k (.str b) (strIn a b)
  | dict {i : Nat} {kvs : List (AV × AV)} {w : Option AV} : H.get i = some (.dict kvs) → dfindI C k kvs = some w → InC C H k (.loc i) w.isSome
theorem inV_inv {k b : AV} {r : Bool} (e : inV C H k b = some r) : InC C H k b r := by
  cases b <;> first | exact xN e | skip
  · obtain ⟨a, h, e⟩ := str_inv e
    first | exact xN e | exact xS e | (obtain rfl := x1 e; clear e) | (obtain ⟨rfl, rfl⟩ := x2 e; clear e) | (obtain ⟨rfl, rfl, rfl⟩ := x3 e; clear e) | (exfalso; cases e; done) | cases e
    exact .str h
  · exact .tup e
  · obtain ⟨kvs, h, e⟩ := dict_inv e
    cases hw : dfindI C k kvs with
    | none => rw [hw] at e; exact xN e
    | some w =>
      rw [hw] at e
      have := InC.dict h hw
      cases w <;> (cases e; exact this)
theorem in_tup (O : OkV C g) (c : CxOk g x n) (T : Tups g W s.heap) {a : AV} {vs : List AV} {ua ub : Value} {r : Bool} (e : memL C a vs = some r) (ra : VR g W a ua) (rb : VR g W (.tup vs) ub) {Q : Value → Shared → Prop} (neg : Bool)
    (hQ : Q (.bool (if neg then !r else r)) s) : wpAny (model g.prog g.w) x.A (compareOp (if neg then .NotIn else .In) ua ub) Q E s := by
  obtain ⟨ds, d, h1, h2, rfl⟩ := memL_ok O e
  obtain ⟨⟨as, rd⟩, lay⟩ := ra.reads O T h2
  have e' : pd g (.tup vs) = some (.tuple ds) := by simp [pd, h1]
  obtain ⟨⟨bs, rd'⟩, lay'⟩ := rb.reads O T e'
  have un := units_ok c
  have dd : min (PyData.depthAll ds) d.depth ≤ 8 := Nat.le_trans (Nat.min_le_right _ _) (ra.deep h2)
  cases neg with
  | true => exact SeqAt.notIn_tuple_reads rd' rd lay' lay (by omega) hQ
  | false => exact SeqAt.in_tuple_reads rd' rd lay' lay (by omega) hQ
theorem in_ok (O : OkV C g) (c : CxOk g x n) (S : St g x W l H σ s.heap) {a b : AV} {ua ub : Value} {r : Bool} (e : inV C H a b = some r) (ra : VR g W a ua) (rb : VR g W b ub) {Q : Value → Shared → Prop} (neg : Bool)
    (hQ : ∀ tk, Q (.bool (if neg then !r else r)) { s with toks := tk }) : wpAny (model g.prog g.w) x.A (compareOp (if neg then .NotIn else .In) ua ub) Q E s := by
  cases inV_inv e with
  | tup h => exact in_tup O c (S.tups c) h ra rb neg (hQ s.toks)
  | str h =>
    subst h
    obtain ⟨t1, rfl, _⟩ := ra.isS
    obtain ⟨t2, rfl, _⟩ := rb.isS
    cases neg with
    | true => exact PyProof.Rows.notIn_str (hQ s.toks)
    | false => exact PyProof.Rows.in_str (hQ s.toks)
  | @dict _ _ w h1 h2 =>
    obtain ⟨_, d, i, t, q, nm, hD, F⟩ := found1 O c S h1 h2 rb ra
    have hs : (valueAt q i).isSome = w.isSome := by
      cases w with
      | none => rw [show valueAt q i = none from F]; rfl
      | some v => obtain ⟨u, p, _⟩ := F; rw [p]; rfl
    cases neg with
    | true => exact wpAny_notIn_of (intKind_is _ _ i t) nm hD.mapOf (by rw [hs]; exact hQ _)
    | false => exact wpAny_in_of (intKind_is _ _ i t) nm hD.mapOf (by rw [hs]; exact hQ _)
theorem cmpI_ok {op : CmpOp} {i j : Int} {r : Bool} {prog : Program} {w : World} {A : Around} {t u : Tok} {Q : Value → Shared → Prop} (e : cmpI op i j = some r) (h : Q (.bool r) s) : wpAny (model prog w) A (compareOp op (.int i t) (.int j u)) Q E s := by
  cases op <;> first | (cases e; done) | cases e
  · exact P.eq_int h
  · exact P.lt_int h
  · exact P.le_int h
  · exact P.gt_int h
  · exact P.ge_int h
theorem ile_eq (a b : Int) : ile a b = decide (a ≤ b) := by
  rw [Bool.eq_iff_iff, decide_eq_true_iff]
  cases a with
  | ofNat m =>
    cases b with
    | ofNat n => show Nat.ble m n = true ↔ _; rw [Nat.ble_eq]; exact Int.ofNat_le.symm
    | negSucc n => exact ⟨(fun h => by cases h), (fun h => by rw [Int.negSucc_eq] at h; have : Int.ofNat m = (m : Int) := rfl; omega)⟩
  | negSucc m =>
    cases b with
    | ofNat n => exact ⟨(fun _ => by rw [Int.negSucc_eq]; have : Int.ofNat n = (n : Int) := rfl; omega), (fun _ => rfl)⟩
    | negSucc n => show Nat.ble n m = true ↔ _; rw [Nat.ble_eq, Int.negSucc_eq, Int.negSucc_eq]; omega
theorem cmp_viaI {op : CmpOp} {a b : AV} {ua ub : Value} {r : Bool} (ra : VR g W a ua) (rb : VR g W b ub) {Q : Value → Shared → Prop} (hQ : Q (.bool r) s) {i j : Int} (h1 : iv g a = some i) (h2 : iv g b = some j) (h3 : cmpI op i j = some r) : wpAny (model g.prog g.w) x.A (compareOp op ua ub) Q E s := by
  obtain ⟨t, rfl⟩ := ra.iv h1
  obtain ⟨u, rfl⟩ := rb.iv h2
  exact cmpI_ok h3 hQ
theorem cmp_int {op : CmpOp} {a b : AV} {r : Bool} (k : Int → Int → Bool) (hk : ∀ i j, cmpI op i j = some (k i j)) (e : (match a, b with | .int x, .int y => some (k x y) | a, b => C.hcmp op a b) = some r) : (∃ i j, iv g a = some i ∧ iv g b = some j ∧ cmpI op i j = some r) ∨ C.hcmp op a b = some r := by
  cases a <;> first | exact .inr e | (cases b <;> first | exact .inr e | exact .inl ⟨_, _, rfl, rfl, (hk _ _).trans e⟩)
theorem cmp_via (O : OkV C g) {op : CmpOp} {a b : AV} {ua ub : Value} {r : Bool} (ra : VR g W a ua) (rb : VR g W b ub) {Q : Value → Shared → Prop} (hQ : Q (.bool r) s) (e : (∃ i j, iv g a = some i ∧ iv g b = some j ∧ cmpI op i j = some r) ∨ C.hcmp op a b = some r) : wpAny (model g.prog g.w) x.A (compareOp op ua ub) Q E s := by
  rcases e with ⟨i, j, h1, h2, h3⟩ | h
  · exact cmp_viaI ra rb hQ h1 h2 h3
  · obtain ⟨i, j, h1, h2, h3⟩ := O.cmp _ _ _ _ h
    exact cmp_viaI ra rb hQ h1 h2 h3
theorem cmp_is {a b : AV} {ua ub : Value} {r : Bool} (e : cmpV C .Is a b H = some r) (ra : VR g W a ua) (rb : VR g W b ub) {Q : Value → Shared → Prop} (hQ : Q (.bool r) s) : wpAny (model g.prog g.w) x.A (compareOp .Is ua ub) Q E s := by
  obtain ⟨y, rfl, rfl, rfl⟩ : ∃ y, b = .none ∧ a = .bool y ∧ r = false := by
    cases b <;> first | exact xN e | skip
    cases a <;> first | exact xN e | exact ⟨_, rfl, rfl, x1 e⟩
  obtain rfl := ra.isB
  obtain rfl := rb.isN
  exact wpAny_is_other rfl (by intro z; cases z) hQ
theorem not_some {o : Option Bool} {r : Bool} (e : (match o with | some r => some (!r) | none => none) = some r) : ∃ q, o = some q ∧ r = !q := by
  cases o with
  | none => exact xN e
  | some q => exact ⟨q, rfl, (Option.some.inj e).symm⟩
theorem cmp_eq (O : OkV C g) (c : CxOk g x n) (S : St g x W l H σ s.heap) {a b : AV} {ua ub : Value} {r : Bool} (e : eqO C H a b = some r) (ra : VR g W a ua) (rb : VR g W b ub) {Q : Value → Shared → Prop} (hQ : Q (.bool r) s) : wpAny (model g.prog g.w) x.A (compareOp .Eq ua ub) Q E s := by
  have un := units_ok c
  obtain ⟨da, db, as, bs, h1, h2, l1, l2, dd, w⟩ := eqO_ok O c S e ra rb
  show wpAny _ _ (richCompare .Eq ua ub) Q E s
  exact SeqAt.eqOverData _ _ _ _ _ _ _ _ _ _ _ _ h1 h2 l1 l2 (by have := Nat.min_le_left da.depth db.depth; omega) (by rw [w]; exact hQ)
theorem cmp_ne (O : OkV C g) (c : CxOk g x n) (S : St g x W l H σ s.heap) {a b : AV} {ua ub : Value} {r : Bool} (e : eqO C H a b = some r) (ra : VR g W a ua) (rb : VR g W b ub) {Q : Value → Shared → Prop} (hQ : Q (.bool (!r)) s) : wpAny (model g.prog g.w) x.A (compareOp .NotEq ua ub) Q E s := by
  have un := units_ok c
  obtain ⟨da, db, as, bs, h1, h2, l1, l2, dd, w⟩ := eqO_ok O c S e ra rb
  show wpAny _ _ (richCompare .NotEq ua ub) Q E s
  exact SeqAt.neOverData _ _ _ _ _ _ _ _ _ _ _ _ h1 h2 l1 l2 (by have := Nat.min_le_left da.depth db.depth; omega) (by rw [w]; exact hQ)
theorem cmp_ok (O : OkV C g) (c : CxOk g x n) (S : St g x W l H σ s.heap) {op : CmpOp} {a b : AV} {ua ub : Value} {r : Bool} (e : cmpV C op a b H = some r) (ra : VR g W a ua) (rb : VR g W b ub) {Q : Value → Shared → Prop}
    (hQ : ∀ tk, Q (.bool r) { s with toks := tk }) : wpAny (model g.prog g.w) x.A (compareOp op ua ub) Q E s := by
  cases op with
  | Eq => exact cmp_eq O c S e ra rb (hQ s.toks)
  | NotEq =>
    obtain ⟨q, hq, hr⟩ := not_some e
    exact cmp_ne O c S hq ra rb (hr ▸ hQ s.toks)
  | In => exact in_ok O c S e ra rb false hQ
  | NotIn =>
    obtain ⟨q, hq, rfl⟩ := not_some e
    exact in_ok O c S hq ra rb true hQ
  | Lt => exact cmp_via O ra rb (hQ s.toks) (cmp_int (fun x y => !(ile y x)) (fun i j => by simp only [cmpI, ile_eq]; congr 1; rw [Bool.eq_iff_iff]; simp) e)
  | Gt => exact cmp_via O ra rb (hQ s.toks) (cmp_int (fun x y => !(ile x y)) (fun i j => by simp only [cmpI, ile_eq]; congr 1; rw [Bool.eq_iff_iff]; simp) e)
  | GtE => exact cmp_via O ra rb (hQ s.toks) (cmp_int (fun x y => ile y x) (fun i j => by simp only [cmpI, ile_eq]) e)
  | Is => exact cmp_is e ra rb (hQ s.toks)
  | _ => exact xN e
end
end Mine

set_option maxRecDepth 100000
namespace Mine
open PySem PySem.W PySem.Calls PySem.Spec PyProof.Rows

section
variable {g : G} {C : Cfg} {x : Cx} {n : Nat} {W : Wd} {l : L} {H H' : Mine.H} {σ : Sg} {s : Shared} {E : Value → Shared → Prop}

theorem idx_lt {k : Int} {n m : Nat} (e : idx k n = some m) : k = (m : Int) ∧ m < n ∧ m < 1152921504606846976 := by
  cases k with
  | negSucc j => exact xN e
  | ofNat j =>
    obtain ⟨q, h⟩ := true_inv e
    subst h
    rw [Bool.and_eq_true] at q
    exact ⟨rfl, Nat.le_of_ble_eq_true q.1, Nat.le_of_ble_eq_true q.2⟩
theorem idx_seq {n m : Nat} (h : m < n) : seqIndex? (m : Int) n = some m := by
  unfold seqIndex?
  simp only
  rw [if_neg (by omega : ¬ (m : Int) < 0), if_pos (by rw [Bool.and_eq_true]; exact ⟨decide_eq_true (by omega), decide_eq_true (by omega)⟩)]
  rfl
theorem VRs.at {vs : List AV} {us : List Value} (r : VRs g W vs us) {m : Nat} {v : AV} (e : nth vs m = some v) : ∃ u, us.toArray[m]? = some u ∧ VR g W v u := by
  obtain ⟨u, h1, h2⟩ := r.get e
  exact ⟨u, by simpa using h1, h2⟩

theorem tup_at (T : Tups g W s.heap) {vs : List AV} {m : Nat} {v : AV} {t : Tok} {uo : Value} {value slice : Expr} (ro : VR g W (.tup vs) uo) (h1 : m < vs.length) (h2 : m < 1152921504606846976) (hn : nth vs m = some v) (hsl : ∀ a b, subscripted slice false a b = operate [a, b] (getItem a b)) {Q : Value → Shared → Prop}
    (hQ : ∀ tk u, VR g W v u → Q u { s with toks := tk }) : wpAny (model g.prog g.w) x.A (subscriptTail value slice uo (.int (m : Int) t)) Q E s := by
  obtain ⟨a, ws, rfl, q1, q2, q3⟩ := ro.isT
  have hT := T _ _ q1
  obtain ⟨ob, ho, hc, _⟩ := id hT
  have len := q2.length
  obtain ⟨u, hu, hv⟩ := q2.at hn
  exact tail_any (T := "tuple") ⟨ob, ho, hc⟩ F.slot_tuple_getitem.lookup (PyProof.Rows.getItem_tuple hT (by omega) (by omega) (by rw [List.size_toArray, len]; exact idx_seq h1) hu (hQ s.toks u hv)) (hsl _ _)
theorem nth_lt {α : Type} {vs : List α} {k : Nat} {v : α} (h : nth vs k = some v) : k < vs.length := by
  rw [nth_eq] at h
  exact (List.getElem?_eq_some_iff.mp h).1
theorem sub_tup (O : OkV C g) (T : Tups g W s.heap) {vs : List AV} {i v : AV} {uo ui : Value} {value slice : Expr} (e : sub C (.tup vs) i H = some v) (ro : VR g W (.tup vs) uo) (ri : VR g W i ui) (hsl : ∀ a b, subscripted slice false a b = operate [a, b] (getItem a b)) {Q : Value → Shared → Prop}
    (hQ : ∀ tk u, VR g W v u → Q u { s with toks := tk }) : wpAny (model g.prog g.w) x.A (subscriptTail value slice uo ui) Q E s := by
  have h : (∃ (m : Nat) (t : Tok), ui = .int (m : Int) t ∧ m < vs.length ∧ m < 1152921504606846976 ∧ nth vs m = some v) ∨ C.hsub (.tup vs) i = some v := by
    cases i <;> first | exact .inr e | skip
    rename_i k
    obtain ⟨m, hm, e'⟩ := optN (o := idx k (len vs)) e
    rw [len_eq] at hm
    obtain ⟨rfl, h1, h2⟩ := idx_lt hm
    obtain ⟨t, h⟩ := ri.isI
    exact .inl ⟨m, t, h, h1, h2, e'⟩
  rcases h with ⟨m, t, rfl, h1, h2, h3⟩ | h
  · exact tup_at T ro h1 h2 h3 hsl hQ
  · obtain ⟨vs', k, el, h1, h2, hk, h3, h4⟩ := O.sub _ _ _ h
    first | exact xN h1 | exact xS h1 | (obtain rfl := x1 h1; clear h1) | (obtain ⟨rfl, rfl⟩ := x2 h1; clear h1) | (obtain ⟨rfl, rfl, rfl⟩ := x3 h1; clear h1) | (exfalso; cases h1; done) | cases h1
    obtain ⟨t, rfl⟩ := ri.iv h2
    exact tup_at T ro (nth_lt h3) (by omega) h3 hsl fun tk u r => hQ tk u (h4 W u r)
theorem sub_str {cs : List Nat} {i v : AV} {uo ui : Value} {value slice : Expr} (e : sub C (.str cs) i H = some v) (ro : VR g W (.str cs) uo) (ri : VR g W i ui) (hsl : ∀ a b, subscripted slice false a b = operate [a, b] (getItem a b)) {Q : Value → Shared → Prop}
    (hQ : ∀ tk u, VR g W v u → Q u { s with toks := tk }) : wpAny (model g.prog g.w) x.A (subscriptTail value slice uo ui) Q E s := by
  have e : (match (generalizing := false) i with | .int k => (match idx k (len cs) with | some n => (match nth cs n with | some c => mkS [c] | none => none) | none => none) | _ => none) = some v := e
  obtain ⟨k, rfl, e⟩ := int_inv e
  obtain ⟨m, hm, e⟩ := optN e
  obtain ⟨ch, hc, e'⟩ := optN e
  clear e
  obtain ⟨rfl, hb⟩ := mkS_some e'
  rw [len_eq] at hm
  obtain ⟨rfl, h1, h2⟩ := idx_lt hm
  obtain ⟨t, rfl⟩ := ri.isI
  obtain ⟨t2, rfl, hs⟩ := ro.isS
  have hl := strB_len hs
  refine tail_any (T := "str") (typeIs_str s _ _) F.slot_str_getitem.lookup (PyProof.Rows.getItem_str (c := ch) ?_ ?_ (hQ _ _ (.str [ch] _ hb))) (hsl _ _)
  · rw [decide_eq_false (by omega), decide_eq_false (by omega)]; rfl
  · have : (⟨cs.toArray⟩ : Str).length = cs.length := by simp [Str.length]
    rw [this, idx_seq h1]
    rw [nth_eq] at hc
    simpa using hc
theorem sub_list (S : St g x W l H σ s.heap) {j : Nat} {vs : List AV} {i v : AV} {uo ui : Value} {value slice : Expr} (hv : H.get j = some (.list vs)) (e : (match i with | .int k => (match idx k (len vs) with | some n => nth vs n | none => none) | _ => none) = some v) (ro : VR g W (.loc j) uo) (ri : VR g W i ui) (hsl : ∀ a b, subscripted slice false a b = operate [a, b] (getItem a b)) {Q : Value → Shared → Prop}
    (hQ : ∀ tk u, VR g W v u → Q u { s with toks := tk }) : wpAny (model g.prog g.w) x.A (subscriptTail value slice uo ui) Q E s := by
  obtain ⟨k, rfl, e1⟩ := int_inv e
  obtain ⟨m, hm, e'⟩ := optN e1
  rw [len_eq] at hm
  obtain ⟨rfl, h1, h2⟩ := idx_lt hm
  obtain ⟨t, rfl⟩ := ri.isI
  obtain ⟨a1, w1, k1, rfl, g1, r1, l1⟩ := S.getL hv ro
  have len := r1.length
  obtain ⟨u, hu, hv⟩ := r1.at e'
  have hL : s.heap.IsList a1 w1.toArray := ⟨_, g1, rfl, k1, rfl⟩
  refine tail_any (T := "list") hL.typeIs F.slot_list_getitem.lookup ?_ (hsl _ _)
  exact wpAny_getItem_list hL (by omega) (by omega) (by rw [Int.toNat_natCast]; exact hu) (hQ s.toks u hv)
theorem sub_dict (O : OkV C g) (c : CxOk g x n) (S : St g x W l H σ s.heap) {j : Nat} {kvs : List (AV × AV)} {i v : AV} {uo ui : Value} {value slice : Expr} (hv : H.get j = some (.dict kvs)) (e : dfindI C i kvs = some (some v)) (ro : VR g W (.loc j) uo) (ri : VR g W i ui) (hsl : ∀ a b, subscripted slice false a b = operate [a, b] (getItem a b)) {Q : Value → Shared → Prop}
    (hQ : ∀ tk u, VR g W v u → Q u { s with toks := tk }) : wpAny (model g.prog g.w) x.A (subscriptTail value slice uo ui) Q E s := by
  obtain ⟨_, d, i, t, q, nm, hD, F⟩ := found1 O c S hv e ro ri
  obtain ⟨u, hu, hvu⟩ := F
  exact tail_any (T := "dict") hD.typeIs F.slot_dict_getitem.lookup (wpAny_getItem_of (intKind_is _ _ i t) hD.mapOf hu (hQ _ u hvu)) (hsl _ _)
theorem sub_ok (O : OkV C g) (c : CxOk g x n) (S : St g x W l H σ s.heap) {o i v : AV} {uo ui : Value} {value slice : Expr} (e : sub C o i H = some v) (ro : VR g W o uo) (ri : VR g W i ui) (hsl : ∀ a b, subscripted slice false a b = operate [a, b] (getItem a b)) {Q : Value → Shared → Prop}
    (hQ : ∀ tk u, VR g W v u → Q u { s with toks := tk }) : wpAny (model g.prog g.w) x.A (subscriptTail value slice uo ui) Q E s := by
  cases o <;> first | exact xN e | skip
  · exact sub_str e ro ri hsl hQ
  · exact sub_tup O (S.tups c) e ro ri hsl hQ
  · rename_i j
    unfold sub at e
    dsimp only at e
    cases hg : H.get j with
    | none => rw [hg] at e; exact xN e
    | some ao =>
      rw [hg] at e
      cases ao with
      | list vs => exact sub_list S hg e ro ri hsl hQ
      | dict kvs =>
        dsimp only at e
        cases hd : dfindI C i kvs with
        | none => rw [hd] at e; exact xN e
        | some w =>
          rw [hd] at e
          cases w with
          | none => exact xN e
          | some w =>
            rw [x1 e] at hQ
            exact sub_dict O c S hg hd ro ri hsl hQ
      | inst c fs => exact xN e
end
end Mine

set_option maxRecDepth 100000
namespace Mine
open PySem PySem.W PySem.Calls PySem.Spec PyProof.Rows

section
variable {g : G} {C : Cfg} {x : Cx} {n : Nat} {W : Wd} {l : L} {H H' : Mine.H} {σ : Sg} {s : Shared} {E : Value → Shared → Prop} {r : R} {sc : Scope}

theorem evs_ok (IH : Sound g n r) (c : CxOk g x n) (k : ScOk sc x.env) : ∀ {es : List Expr} {H : Mine.H} {vs : List AV} {H' : Mine.H}, evs r sc es l H = some (vs, H') → ∀ {W : Wd} {s : Shared} {Q : List Value → Shared → Prop} {pos : Pos}, St g x W l H σ s.heap →
    (∀ W' h' tk us, W.le W' → St g x W' l H' σ h' → VRs g W' vs us → Q us { s with heap := h', toks := tk }) → wpAny (model g.prog g.w) x.A (spliced (backTo pos (starEach es x.env))) Q E s
  | [], H, vs, H', e, W, s, Q, pos, S, hQ => by
    first | exact xN e | exact xS e | (obtain rfl := x1 e; clear e) | (obtain ⟨rfl, rfl⟩ := x2 e; clear e) | (obtain ⟨rfl, rfl, rfl⟩ := x3 e; clear e) | (exfalso; cases e; done) | cases e
    exact args_nil (hQ W s.heap s.toks [] (Wd.le.refl W) S .nil)
  | e :: t, H, vs, H', h, W, s, Q, pos, S, hQ => by
    unfold evs at h
    split at h
    · rename_i hns
      split at h
      · rename_i v H1 h1
        split at h
        · rename_i ws H2 h2
          first | exact xN h | exact xS h | (obtain rfl := x1 h; clear h) | (obtain ⟨rfl, rfl⟩ := x2 h; clear h) | (obtain ⟨rfl, rfl, rfl⟩ := x3 h; clear h) | (exfalso; cases h; done) | cases h
          refine args_cons (IH.ev x sc e l H v H1 c k h1 W σ s _ E S fun W1 h1 tk1 u le1 S1 r1 => evs_ok IH c k h2 S1 fun W2 h2 tk2 us le2 S2 rs => hQ W2 h2 tk2 (u :: us) (le1.trans le2) S2 (.cons (r1.mono le2) rs)) ?_
          cases e <;> first | rfl | cases hns
        · first | exact xN h | exact xS h | (obtain rfl := x1 h; clear h) | (obtain ⟨rfl, rfl⟩ := x2 h; clear h) | (obtain ⟨rfl, rfl, rfl⟩ := x3 h; clear h) | (exfalso; cases h; done) | cases h
      · first | exact xN h | exact xS h | (obtain rfl := x1 h; clear h) | (obtain ⟨rfl, rfl⟩ := x2 h; clear h) | (obtain ⟨rfl, rfl, rfl⟩ := x3 h; clear h) | (exfalso; cases h; done) | cases h
    · first | exact xN h | exact xS h | (obtain rfl := x1 h; clear h) | (obtain ⟨rfl, rfl⟩ := x2 h; clear h) | (obtain ⟨rfl, rfl, rfl⟩ := x3 h; clear h) | (exfalso; cases h; done) | cases h
theorem evo_ok (IH : Sound g n r) (c : CxOk g x n) (k : ScOk sc x.env) {o : Option Expr} {v : AV} (e : evo r sc o l H = some (v, H')) {Q : Value → Shared → Prop} (S : St g x W l H σ s.heap)
    (hQ : PV g x W l H' σ v Q s) : wpAny (model g.prog g.w) x.A (evalPart o x.env) Q E s := by
  cases o with
  | none => cases e; exact wpAny_pure (hQ W s.heap s.toks _ (Wd.le.refl W) S .none)
  | some a => exact IH.ev x sc a l H v H' c k e W σ s Q E S hQ
theorem part_ok {v : AV} {u : Value} {p : Option Int} (e : ev.part v = some p) (r : VR g W v u) : IsPart u p := by
  cases r <;> first | exact xN e | (rw [x1 e]; exact .none) | (rw [x1 e]; exact .int _ _)
theorem VRs.pick {vs : List AV} {us : List Value} (h : VRs g W vs us) : ∀ is : List Nat, VRs g W (is.filterMap fun i => vs[i]?) (is.filterMap fun i => us[i]?)
  | [] => .nil
  | i :: is => by
    have ih := VRs.pick h is
    rw [List.filterMap_cons, List.filterMap_cons]
    cases q : nth vs i with
    | none => rw [← nth_eq, q, h.none q]; exact ih
    | some v =>
      obtain ⟨u, h1, h2⟩ := h.get q
      rw [← nth_eq, q, h1]
      exact .cons h2 ih
inductive SlC (H : Mine.H) : AV → AV → AV → AV → AV → Mine.H → Prop
  | str {cs : List Nat} {i j : Int} {w : AV} : Nat.beq (Builtin.Str.strSliceIndices (some i) (some j) 1 cs.length).length cs.length = false → mkS ((Builtin.Str.strSliceIndices (some i) (some j) 1 cs.length).filterMap (fun i => cs[i]?)) = some w → SlC H (.str cs) (.int i) (.int j) .none w H
  | list {i : Nat} {a d v : AV} {lo st : Option Int} {vs : List AV} {H' : Mine.H} : ev.part a = some lo → ev.part d = some st → ibeq (st.getD 1) 0 = false → H.get i = some (.list vs) → H.newL ((sliceRange (sliceBounds lo none st vs.length).1 (sliceBounds lo none st vs.length).2.1 (sliceBounds lo none st vs.length).2.2).filterMap (fun i => vs[i]?)) = some (v, H') → SlC H (.loc i) a .none d v H'
theorem optP {β : Type} {o : Option (Option Int)} {f : Option Int → Option β} {q : β} (e : (match o with | some p => f p | none => none) = some q) : ∃ p, o = some p ∧ f p = some q := by
  cases o with
  | none => exact xN e
  | some p => exact ⟨p, rfl, e⟩
theorem false_inv {α : Type} {b : Bool} {f : Option α} {q : α} (e : (match b with | true => none | false => f) = some q) : b = false ∧ f = some q := by
  first | exact xN b | exact xS b | (obtain rfl := x1 b; clear b) | (obtain ⟨rfl, rfl⟩ := x2 b; clear b) | (obtain ⟨rfl, rfl, rfl⟩ := x3 b; clear b) | (exfalso; cases b; done) | cases b
  · exact ⟨rfl, e⟩
  · exact xN e
theorem none_inv {α : Type} {v : AV} {f : Option α} {q : α} (e : (match v with | .none => f | _ => none) = some q) : v = .none ∧ f = some q := by
  cases v <;> first | exact xN e | exact ⟨rfl, e⟩
theorem slV_str {cs : List Nat} {a b d v : AV} (e : ev.sliceV (.str cs) a b d H = some (v, H')) : SlC H (.str cs) a b d v H' := by
  obtain ⟨i, rfl, e⟩ := int_inv e
  obtain ⟨j, rfl, e⟩ := int_inv e
  obtain ⟨rfl, e⟩ := none_inv e
  obtain ⟨hc, e⟩ := false_inv e
  obtain ⟨w, hw, e⟩ := optV e
  exact y2 e (.str hc hw)
theorem slV_list {i : Nat} {a b d v : AV} (e : ev.sliceV (.loc i) a b d H = some (v, H')) : SlC H (.loc i) a b d v H' := by
  obtain ⟨rfl, e⟩ := none_inv e
  obtain ⟨lo, h1, e⟩ := optP e
  obtain ⟨st, h2, e⟩ := optP e
  obtain ⟨hz, e⟩ := false_inv e
  obtain ⟨vs, h3, e⟩ := list_inv e
  exact .list h1 h2 hz h3 e
theorem slV_inv {o a b d v : AV} (e : ev.sliceV o a b d H = some (v, H')) : SlC H o a b d v H' := by
  cases o <;> first | exact xN e | skip
  · exact slV_str e
  · exact slV_list e
theorem sl_tail {o : Expr} {lo hi st : Option Expr} {p : Pos} {T id : String} {uo sl : Value} {Q : Value → Shared → Prop} (a1 : s.TypeIs uo T) (a2 : typeLookup (.type T) "__getitem__" = pure (some (.builtin id))) (a3 : wpAny (model g.prog g.w) x.A (getItem uo sl) Q E s) : wpAny (model g.prog g.w) x.A (subscriptTail o (.Slice lo hi st p) uo sl) Q E s := by
  cases st with
  | none => exact tail_any (ops := [sl, uo]) a1 a2 a3 rfl
  | some st => exact tail_any (ops := [uo, sl]) a1 a2 a3 rfl
theorem sl_str {o : Expr} {lo hi st : Option Expr} {p : Pos} {cs : List Nat} {i j : Int} {w : AV} {t ti tj : Tok} {sl : Addr} (hs : s.heap.IsSlice sl (some (i, ti)) (some (j, tj)) none) (hc : Nat.beq (Builtin.Str.strSliceIndices (some i) (some j) 1 cs.length).length cs.length = false) (hw : mkS ((Builtin.Str.strSliceIndices (some i) (some j) 1 cs.length).filterMap (fun i => cs[i]?)) = some w) {Q : Value → Shared → Prop}
    (hQ : ∀ tk u, VR g W w u → Q u { s with toks := tk }) : wpAny (model g.prog g.w) x.A (subscriptTail o (.Slice lo hi st p) (.str ⟨cs.toArray⟩ t) (.ref sl)) Q E s := by
  refine sl_tail (T := "str") (typeIs_str _ _ _) F.slot_str_getitem.lookup (wpAny_getItem_str_slice (l := some (i, ti)) (u := some (j, tj)) (st := none) hs (by decide) ?_)
  have hlen : (⟨cs.toArray⟩ : Str).length = cs.length := by simp [Str.length]
  unfold sliceMade slicePicked
  simp only [Option.map_some, Option.map_none, Option.getD_none]
  rw [hlen]
  obtain ⟨rfl, hb2⟩ := mkS_some hw
  have hl2 := strB_len hb2
  rw [if_neg ?_]
  · have e1 : ((Builtin.Str.strSliceIndices (some i) (some j) 1 cs.length).filterMap fun i => (⟨cs.toArray⟩ : Str).cps[i]?) = (Builtin.Str.strSliceIndices (some i) (some j) 1 cs.length).filterMap (fun i => cs[i]?) := by
      simp
    rw [e1]
    exact ⟨by simp only [Str.length, List.size_toArray, sizeLine_eq]; omega, hQ (s.toks + 1) _ (.str _ _ hb2)⟩
  · intro z
    rw [Bool.and_eq_true, beq_iff_eq (α := Nat)] at z
    exact Nat.ne_of_beq_eq_false hc z.2
theorem sl_list {o : Expr} {lo hi st : Option Expr} {p : Pos} {i : Nat} {uo ua ub ud : Value} {pa pd : Option Int} {vs : List AV} {v : AV} {sl : Addr} (S : St g x W l H σ s.heap) (hs : s.heap.IsSliceOf sl ua ub ud) (ha : IsPart ua pa) (hb : IsPart ub none) (hd : IsPart ud pd) (hz : ibeq (pd.getD 1) 0 = false) (hv : H.get i = some (.list vs)) (e : H.newL ((sliceRange (sliceBounds pa none pd vs.length).1 (sliceBounds pa none pd vs.length).2.1 (sliceBounds pa none pd vs.length).2.2).filterMap (fun i => vs[i]?)) = some (v, H')) (ro : VR g W (.loc i) uo) {Q : Value → Shared → Prop}
    (hQ : PV g x W l H' σ v Q s) : wpAny (model g.prog g.w) x.A (subscriptTail o (.Slice lo hi st p) uo (.ref sl)) Q E s := by
  obtain ⟨rfl, rfl, hlt⟩ := newL_some e
  clear e
  obtain ⟨a1, w1, k1, rfl, g1, r1, l1⟩ := S.getL hv ro
  have hL : s.heap.IsList a1 w1.toArray := ⟨_, g1, rfl, k1, rfl⟩
  have len := r1.length
  refine sl_tail (T := "list") hL.typeIs F.slot_list_getitem.lookup (wpAny_getItem_list_slice hL hs ha hb hd ?_ ?_ (by rw [List.size_toArray, sizeLine_eq]; omega))
  · intro z; rw [z, ibeq_eq] at hz; simp at hz
  · refine hQ _ _ _ _ (Wd.le_obj [(2 * _, _)]) (S.newL (r1.pick _) ?_ (by omega)) (.loc List.mem_cons_self)
    unfold slicePick
    rw [List.size_toArray, len]
    simp
theorem slice_ok (IH : Sound g n r) (c : CxOk g x n) (k : ScOk sc x.env) {o : Expr} {lo hi st : Option Expr} {p pos : Pos} {v : AV}
    (e : ev C r sc (.Subscript o (.Slice lo hi st p) pos) l H = some (v, H')) : EvOk g x (.Subscript o (.Slice lo hi st p) pos) l H v H' := by
  obtain ⟨vo, H1, e1, e⟩ := optVH (o := r.ev sc o l H) e
  obtain ⟨a, H2, e2, e⟩ := optVH (o := evo r sc lo l H1) e
  obtain ⟨b, H3, e3, e⟩ := optVH (o := evo r sc hi l H2) e
  obtain ⟨d, H4, e4, e⟩ := optVH (o := evo r sc st l H3) e
  have e5 := slV_inv e
  clear e
  intro W σ s Q E S hQ
  refine Subscript_ (IH.ev x sc o l H vo H1 c k e1 W σ s _ E S fun W1 h1 tk1 uo le1 S1 r1 => wpAny_Slice ?_)
  refine evo_ok IH c k e2 S1 fun W2 h2 tk2 ua le2 S2 r2 => ?_
  refine evo_ok IH c k e3 S2 fun W3 h3 tk3 ub le3 S3 r3 => ?_
  refine evo_ok IH c k e4 S3 fun W4 h4 tk4 ud le4 S4 r4 => ?_
  have ro := ((r1.mono le2).mono le3).mono le4
  have ra := (r2.mono le3).mono le4
  have rb := r3.mono le4
  have le := ((le1.trans le2).trans le3).trans le4
  clear r1 r2 r3 le1 le2 le3 le4 S S1 S2 S3 e1 e2 e3 e4
  have S5 : St g x W4 l H4 σ (h4.push { cls := .type "slice", data := .fields #[ua, ub, ud] }) := S4.ext (fun b o e => Heap.get?_push_of_some _ e)
  cases e5 with
  | str hc hw =>
    obtain ⟨ti, rfl⟩ := ra.isI
    obtain ⟨tj, rfl⟩ := rb.isI
    obtain rfl := r4.isN
    obtain ⟨t, rfl, _⟩ := ro.isS
    exact sl_str (s := { s with heap := _, toks := tk4 }) ⟨_, Heap.get?_push_size _ rfl, rfl, rfl⟩ hc hw fun tk u ru => hQ W4 _ tk u le S5 ru
  | list q1 q3 hz hv hn =>
    obtain rfl := rb.isN
    exact sl_list (s := { s with heap := _, toks := tk4 }) S5 (Heap.IsSliceOf.new _ _ _ _) (part_ok q1 ra) .none (part_ok q3 r4) hz hv hn ro fun W' h' tk u le' S' ru => hQ W' h' tk u (le.trans le') S' ru
end
end Mine

set_option maxRecDepth 100000
namespace Mine
open PySem PySem.W PySem.Calls PySem.Spec PyProof.Rows Builtin Builtin.ObjectAttr Builtin.Getset_descriptor

section
variable {prog : Program} {w : World} {A : Around} {K : Frag} {a D da : Addr} {s : Shared} {E : Value → Shared → Prop} {name : Str} {v : Value} {es : List DictEntry} {n : Nat}
theorem osa_own {tk : Tok} {R : Result → Shared → Prop} (X : K.In s.heap) (hx : s.heap.get? a = some (instObj D da)) (hda : s.heap.get? da = some (dictOf es n))
    (hp : plainOver K D = true) (ht : takerIn K D name = some none) (hh : hasDictIn K D = true) (hl : (getL name es).isSome = true)
    (hz : (putL name (PyData.keyHash w.params name) (.str name s.toks) v es).length ≤ 1000)
    (h : R (.ok (.ret .none)) { s with heap := s.heap.update da (Obj.putName name (PyData.keyHash w.params name) (.str name s.toks) v), toks := s.toks + 1 }) :
    codeAny (model prog w) A (.call (.builtin "object.__setattr__") ⟨[.ref a, .str name tk, v], []⟩) R s := by
  have I : InstAt s.heap a (instObj D da) D (some (dictOf es n)) := ⟨hx, rfl, rfl, hda⟩
  refine osa_open X I hp ht fun b => ?_
  obtain ⟨cd, hc, hd'⟩ := any_some hh
  have D' : (s.heap.update da (Obj.putName name (PyData.keyHash w.params name) (.str name s.toks) v)).get? da = some (dictOf (putL name (PyData.keyHash w.params name) (.str name s.toks) v es) (putN name es n)) := by
    rw [← putName_dict]; exact Heap.get?_update_self _ hda (by rw [putName_dict]; rfl)
  refine wpAny_bind (wpAny_pure (wpAny_bind (wpAny_bind (wpAny_loadPart hx (wpAny_bind ((looks_clsIn X hc).here ?_))))))
  rw [hd']
  refine wpAny_pure (a := some da) (wpAny_bind (wpAny_pure (wpAny_bind ?_)))
  unfold nsSet
  refine wpAny_bind (wpAny_bind (wpAny_askSetting (wpAny_pure (wpAny_bind (wpAny_mkText (wpAny_bind (wpAny_loadPart hda ?_)))))))
  dsimp only
  have c : (!es.toArray.any (·.key.isStr name) && es.toArray.any (·.refKey)) = false := by
    rw [← Array.any_toList, ← Array.any_toList]
    unfold getL at hl
    split at hl
    · rename_i en he
      rw [List.any_eq_true.mpr ⟨en, List.mem_of_find?_eq_some he, List.find?_some he⟩]; rfl
    · split at hl
      · first | exact xN hl | exact xS hl | (obtain rfl := x1 hl; clear hl) | (obtain ⟨rfl, rfl⟩ := x2 hl; clear hl) | (obtain ⟨rfl, rfl, rfl⟩ := x3 hl; clear hl) | (exfalso; cases hl; done) | cases hl
      · rename_i z; rw [Bool.not_eq_true] at z; rw [z, Bool.and_false]
  rw [aRefKeyMayBeTheName_at, c]
  refine wpAny_updatePart hda ?_
  refine wpAny_bind (wpAny_lookBehind D' (pastItsLine_dict (by rw [List.size_toArray, sizeLine_eq]; omega)) ?_)
  exact wpAny_pure h
/-- a name of an instance's own dict set, the heap told outright -/
theorem set_attr {Q : Unit → Shared → Prop} (X : K.In s.heap) (hx : s.heap.get? a = some (instObj D da)) (hda : s.heap.get? da = some (dictOf es n))
    (hs : findIn K (.ref D) "__setattr__" = some (some (.builtin "object.__setattr__"))) (hp : plainOver K D = true) (ht : takerIn K D name = some none) (hh : hasDictIn K D = true) (hl : (getL name es).isSome = true)
    (hz : (putL name (PyData.keyHash w.params name) (.str name (s.toks + 1)) v es).length ≤ 1000)
    (h : Q () { s with heap := s.heap.update da (Obj.putName name (PyData.keyHash w.params name) (.str name (s.toks + 1)) v), toks := s.toks + 2 }) :
    wpAny (model prog w) A (setAttr (.ref a) name v) Q E s :=
  set_plain (ox := instObj D da) (od := some (dictOf es n)) X ⟨hx, rfl, rfl, hda⟩ hs (osa_own (s := { s with toks := s.toks + 1 }) X hx hda hp ht hh hl hz h)
end

theorem noRef {l : List DictEntry} (hl : ∀ e ∈ l, ∃ z t, e.key = .str z t) : l.any (·.refKey) = false := by
  rw [List.any_eq_false]; intro e he; obtain ⟨z, t, h⟩ := hl e he; simp [DictEntry.refKey, h]
theorem getL_new {name : Str} {es : List DictEntry} (h : getL name es = some none) : es.find? (·.key.isStr name) = none := by
  unfold getL at h
  split at h
  · first | exact xN h | exact xS h | (obtain rfl := x1 h; clear h) | (obtain ⟨rfl, rfl⟩ := x2 h; clear h) | (obtain ⟨rfl, rfl, rfl⟩ := x3 h; clear h) | (exfalso; cases h; done) | cases h
  · assumption
theorem putL_new {name : Str} {hsh : Int} {k v : Value} : ∀ {es : List DictEntry}, es.find? (·.key.isStr name) = none → putL name hsh k v es = es ++ [⟨hsh, k, v⟩]
  | [], _ => rfl
  | e :: r, h => by
    rw [List.find?_cons] at h
    unfold putL
    split at h
    · first | exact xN h | exact xS h | (obtain rfl := x1 h; clear h) | (obtain ⟨rfl, rfl⟩ := x2 h; clear h) | (obtain ⟨rfl, rfl, rfl⟩ := x3 h; clear h) | (exfalso; cases h; done) | cases h
    · rename_i q
      rw [q, if_neg Bool.false_ne_true, putL_new h]; rfl
theorem getL_app {name y : Str} {hsh : Int} {t : Tok} {v : Value} {es : List DictEntry} (hk : ∀ e ∈ es, ∃ z t, e.key = .str z t) (h : es.find? (·.key.isStr name) = none) : getL y (es ++ [⟨hsh, .str name t, v⟩]) = if y = name then some (some v) else getL y es := by
  unfold getL
  rw [List.find?_append, List.any_append, noRef hk]
  by_cases q : y = name
  · subst q
    rw [h, if_pos rfl]
    simp [Value.isStr]
  · have q' : ¬ name = y := fun z => q z.symm
    rw [if_neg q]
    cases es.find? (·.key.isStr y) with
    | none => simp [Value.isStr, q', DictEntry.refKey]
    | some e => rfl
theorem put_new {α : Type} {k : Nat} {v : α} : ∀ {l : List (Nat × α)}, look k l = none → put k v l = l ++ [(k, v)]
  | [], _ => rfl
  | p :: r, h => by
    obtain ⟨j, a⟩ := p
    rw [look_cons] at h
    rw [put_cons]
    by_cases q : j = k
    · rw [if_pos q] at h; cases h
    · rw [if_neg q] at h ⊢; rw [put_new h]; rfl

section
variable {g : G} {C : Cfg} {x : Cx} {n : Nat} {W : Wd} {l : L} {H H' : Mine.H} {σ : Sg} {s : Shared} {E : Value → Shared → Prop} {r : R} {sc : Scope}
theorem VR.handed (O : OkG C g) {v : AV} {u : Value} (r : VR g W v u) : handedIn u = true := by
  cases r <;> first | rfl | exact O.bvh _ | skip
  rename_i h
  obtain ⟨a, ws, n, rfl, _⟩ := h
  rfl
theorem St.KIn {h : Heap} (c : CxOk g x n) (S : St g x W l H σ h) : g.K.In h := fun a o e => S.F.keep _ _ (c.X _ _ e)
inductive InstR (g : G) (x : Cx) (W : Wd) (H : Mine.H) (σ : Sg) (s : Shared) (i c : Nat) (fs : List (Nat × AV)) : Value → Prop
  | mk (led : Led) (a da : Addr) (es : List DictEntry) (k : Nat) : News x.h₀ x.L s.heap (led ++ σ.own ++ x.out ++ W.X) → LedOk g W H led → (2 * i, a) ∈ W.mp → (2 * i + 1, da) ∈ W.mp → (a, instObj (g.ca c) da) ∈ led → (da, dictOf es k) ∈ led →
      s.heap.get? a = some (instObj (g.ca c) da) → s.heap.get? da = some (dictOf es k) → FR g W fs (dictOf es k) → fs.length ≤ 900 → es.length ≤ fs.length → (∀ e ∈ es, ∃ y t, e.key = .str y t) →
      look 0 fs = none → (∀ x, nm x ≠ 0 → (match look (nm x) fs with | some v => ∃ u, PySem.W.getL x es = some (some u) ∧ VR g W v u | none => PySem.W.getL x es = some none)) → InstR g x W H σ s i c fs (.ref a)
theorem St.inst (S : St g x W l H σ s.heap) {i c : Nat} {fs : List (Nat × AV)} (e : H.get i = some (.inst c fs)) {u : Value} (r : VR g W (.loc i) u) : InstR g x W H σ s i c fs u := by
  obtain ⟨led, N, ⟨a, da, od, h1, h2, h3, h4, h5, h6⟩, hl⟩ := S.getO e
  obtain ⟨z, es, k, rfl, q1, q2, q3⟩ := id h5
  rw [r.at S h1]
  exact ⟨led, a, da, es, k, N, hl, h1, h2, h3, h4, (N _ (inLed h3)).1, (N _ (inLed h4)).1, h5, h6, q1, q2, z, q3⟩
theorem attr_ok (O : OkG C g) (c : CxOk g x n) (S : St g x W l H σ s.heap) {y : Str} {o v : AV} {uo : Value} (e : attrV C o (nm y) H = some v) (ro : VR g W o uo) {Q : Value → Shared → Prop} {expr : Bool}
    (hQ : ∀ tk u, VR g W v u → Q u { s with toks := tk }) : wpAny (model g.prog g.w) x.A (getAttr uo y expr) Q E s := by
  obtain ⟨i, rfl, e⟩ := loc_inv e
  obtain ⟨cc, fs, hv, e⟩ := inst_inv e
  obtain ⟨ha, e⟩ := bool_inv e
  obtain ⟨hy, hf⟩ := O.atr _ _ ha
  obtain ⟨led, a, da, es, k, N, hl, m1, m2, i1, i2, g1, g2, F, b1, b2, b3, b4, hget⟩ := S.inst hv ro
  have := hget y hy
  rw [e] at this
  obtain ⟨u, hu, hr⟩ := this
  exact get_value (S.KIn c) ⟨g1, rfl, rfl, g2⟩ (O.hga cc) (findObj_own (O.hdi cc) hf rfl (by rw [lookIn_dict]; exact hu)) (hr.handed O) (hQ _ u hr)
theorem setA_ok (O : OkG C g) (c : CxOk g x n) (S : St g x W l H σ s.heap) {y : Str} {o v : AV} {uo u : Value} (e : setA C o (nm y) v H = some H') (ro : VR g W o uo) (rv : VR g W v u) {Q : Unit → Shared → Prop}
    (hQ : ∀ h' tk, St g x W l H' σ h' → Q () { s with heap := h', toks := tk }) : wpAny (model g.prog g.w) x.A (setAttr uo y u) Q E s := by
  obtain ⟨i, rfl, e⟩ := loc_inv e
  obtain ⟨cc, fs, hv, e⟩ := inst_inv e
  obtain ⟨ha, e⟩ := bool_inv e
  have hn : look (nm y) fs = none ∧ H' = H.set i (.inst cc (put (nm y) v fs)) := by
    cases q : look (nm y) fs with
    | none => rw [q] at e; exact ⟨rfl, x1 e⟩
    | some w => rw [q] at e; exact xN e
  obtain ⟨hn, rfl⟩ := hn
  clear e
  rw [Bool.and_eq_true] at ha
  obtain ⟨hy, hf⟩ := O.atr _ _ ha.1
  have hsh := short_len ha.2
  obtain ⟨led, a, da, es, k, N, hl, m1, m2, i1, i2, g1, g2, F, b1, b2, b3, b4, hget⟩ := S.inst hv ro
  have hnew := hget y hy
  rw [hn] at hnew
  have hfind := getL_new hnew
  have htk : takerIn g.K (g.ca cc) y = some none := by unfold takerIn; rw [hf]; rfl
  have hlen : ∀ {h : Int} {k v : Value}, (putL y h k v es).length = es.length + 1 := by intro h k v; rw [putL_new hfind, List.length_append]; rfl
  have plen : (put (nm y) v fs).length = fs.length + 1 := by rw [put_new hn, List.length_append]; rfl
  refine set_attr (S.KIn c) g1 g2 (O.hst cc) (O.po cc) htk (O.hdi cc) (by rw [hnew]; rfl) (by rw [hlen]; omega) (hQ _ _ ?_)
  refine S.upd N hl (i := i) (k := 2 * i + 1) (.inr rfl) m2 i2 (Heap.SameBut.update _ _ _) (o' := dictOf (putL y (PyData.keyHash g.w.params y) (.str y (s.toks + 1)) u es) (putN y es k)) (by rw [← putName_dict]; exact Heap.get?_update_self _ g2 (by rw [putName_dict]; rfl)) fun led' k1 k2 => ?_
  refine ⟨a, da, _, m1, m2, k1 _ i1 ?_, k2, ⟨?_, _, _, rfl, by rw [hlen, plen]; omega, ?_, ?_⟩, by rw [plen]; omega⟩
  · intro z
    have := (S.fn _ m1 _ m2).mpr z
    simp only at this; omega
  · rw [look_put, if_neg (Ne.symm hy)]; exact b4
  · rw [putL_new hfind]
    intro e he
    rcases List.mem_append.mp he with he | he
    · exact b3 e he
    · rw [List.mem_singleton] at he; subst he; exact ⟨_, _, rfl⟩
  · intro z hz
    rw [look_put, putL_new hfind, getL_app b3 hfind]
    by_cases hzy : z = y
    · subst hzy; rw [if_pos rfl, if_pos rfl]; exact ⟨u, rfl, rv⟩
    · rw [if_neg (fun q => hzy (nm_inj hz q)), if_neg hzy]; exact hget z hz
end
end Mine

set_option maxRecDepth 100000
namespace Mine
open PySem PySem.W PySem.Calls PySem.Spec PyProof.Rows

section
variable {g : G} {C : Cfg} {x : Cx} {n : Nat} {W : Wd} {l : L} {H H' : Mine.H} {σ : Sg} {s : Shared} {E : Value → Shared → Prop}

/-! ## rows of dicts, put -/
theorem stored_new {q : List (Int × Value)} {j : Int} {u : Value} (hn : valueAt q j = none) : stored q j u = q ++ [(j, u)] := by
  unfold stored
  rw [if_neg]
  rw [List.any_eq_true]
  rintro ⟨p, hp, hpj⟩
  unfold valueAt at hn
  rw [Option.map_eq_none_iff, List.find?_eq_none] at hn
  exact hn p hp hpj
theorem KVI.snoc {kvs : List (AV × AV)} {q : List (Int × Value)} (h : KVI g W kvs q) {k v : AV} {i : Int} {u : Value} (hk : iv g k = some i) (hv : VR g W v u) : KVI g W (kvs ++ [(k, v)]) (q ++ [(i, u)]) := by
  induction h with
  | nil => exact .cons hk hv .nil
  | cons a b _ ih => exact .cons a b ih
theorem KVT.snoc {kvs : List (AV × AV)} {q : List (KD × Addr × Value)} (h : KVT g W kvs q) {k v : AV} {d : PyData} {a : Addr} {u : Value} (hr : VR g W k (.ref a)) (hk : pd g k = some d) (gk : goodK d = true) (hv : VR g W v u) : KVT g W (kvs ++ [(k, v)]) (q ++ [(nk d, a, u)]) := by
  induction h with
  | nil => exact .cons hr hk gk hv .nil
  | cons a b c d _ ih => exact .cons a b c d ih
theorem snoc_some {α : Type} {y : α} : ∀ {f : Nat} {l q : List α}, snoc y f l = some q → q = l ++ [y] ∧ l.length < f
  | 0, _, _, e => by cases e
  | f + 1, [], q, e => by cases e; exact ⟨rfl, Nat.succ_pos _⟩
  | f + 1, a :: r, q, e => by
    have e' : (match snoc y f r with | some q => some (a :: q) | none => none) = some q := e
    split at e'
    · rename_i q' hq
      first | exact xN e' | exact xS e' | (obtain rfl := x1 e'; clear e') | (obtain ⟨rfl, rfl⟩ := x2 e'; clear e') | (obtain ⟨rfl, rfl, rfl⟩ := x3 e'; clear e') | (exfalso; cases e'; done) | cases e'
      obtain ⟨h1, h2⟩ := snoc_some hq
      exact ⟨by rw [h1]; rfl, Nat.succ_lt_succ h2⟩
    · first | exact xN e' | exact xS e' | (obtain rfl := x1 e'; clear e') | (obtain ⟨rfl, rfl⟩ := x2 e'; clear e') | (obtain ⟨rfl, rfl, rfl⟩ := x3 e'; clear e') | (exfalso; cases e'; done) | cases e'
theorem KVI.length {kvs : List (AV × AV)} {q : List (Int × Value)} (h : KVI g W kvs q) : q.length = kvs.length := by
  induction h with
  | nil => rfl
  | cons _ _ _ ih => simp [ih]
theorem KVT.length {kvs : List (AV × AV)} {q : List (KD × Addr × Value)} (h : KVT g W kvs q) : q.length = kvs.length := by
  induction h with
  | nil => rfl
  | cons _ _ _ _ _ ih => simp [ih]
/-- a dict's object, changed -/
theorem DRT.of {h : Heap} {kvs : List (AV × AV)} {q : List (KD × Addr × Value)} {d : Addr} (r : KVT g W kvs q) (hD : h.DictOfH (keyKind g.prog g.w) d q) : ∃ o, h.get? d = some o ∧ DRT g W kvs o := by
  obtain ⟨o, es, ep, ho, h2, h3, h4, _, h5⟩ := hD
  exact ⟨o, ho, q, es, ep, r, h2, h3, h4, h5⟩

inductive LAt (g : G) (x : Cx) (W : Wd) (H : Mine.H) (σ : Sg) (s : Shared) (i : Nat) (d : Addr) : Prop
  | mk (led : Led) (o : Obj) : News x.h₀ x.L s.heap (led ++ σ.own ++ x.out ++ W.X) → LedOk g W H led → (d, o) ∈ led → (2 * i, d) ∈ W.mp → LAt g x W H σ s i d
/-- a dict looked through for a key -/
inductive FoundD (g : G) (x : Cx) (W : Wd) (H : Mine.H) (σ : Sg) (s : Shared) (i : Nat) (kvs : List (AV × AV)) (k : AV) (w : Option AV) : Value → Value → Prop
  | int {d : Addr} {j : Int} {t : Tok} (q : List (Int × Value)) : LAt g x W H σ s i d → (d == sysModules) = false → s.heap.DictOf (intKind g.prog g.w) d q → KVI g W kvs q → iv g k = some j → FindI g W q j w → FoundD g x W H σ s i kvs k w (.ref d) (.int j t)
  | tup {d ad : Addr} (dd : PyData) (q : List (KD × Addr × Value)) : LAt g x W H σ s i d → (d == sysModules) = false → s.heap.DictOfH (keyKind g.prog g.w) d q → KVT g W kvs q → pd g k = some dd → goodK dd = true → KIs s.heap (nk dd) ad → FindT g W q (nk dd) w → FoundD g x W H σ s i kvs k w (.ref d) (.ref ad)
theorem foundD (O : OkV C g) (c : CxOk g x n) (S : St g x W l H σ s.heap) {i : Nat} {kvs : List (AV × AV)} {k : AV} {uo uk : Value} {w : Option AV} (hv : H.get i = some (.dict kvs)) (e : dfind C k kvs = some w) (ro : VR g W (.loc i) uo) (rk : VR g W k uk) : FoundD g x W H σ s i kvs k w uo uk := by
  obtain ⟨led, d, o, N, hl, hm, ho, hmp, hr, _⟩ := getDict S hv ro
  obtain ⟨hk, e⟩ := dfind_some e
  have nm := S.notMods c N hm
  have L : LAt g x W H σ s i d := ⟨led, o, N, hl, hm, hmp⟩
  clear N hl hm hmp
  rcases key_cases O c S hk rk with ⟨j, t, h1, rfl, h3⟩ | ⟨ad, dd, rfl, h2, h3, h4, h5⟩
  · rw [h3] at e
    obtain ⟨q, hq, hdi⟩ := drI hr (dfindG_head e)
    exact .int q L nm (Heap.dictOf_iff.mpr ⟨o, ho, hdi⟩) hq h1 (hq.find O h1 e)
  · rw [h5] at e
    obtain ⟨q, hq, hD⟩ := (drT hr (dfindG_head e)).at (O := O) (S.tups c) ho
    exact .tup dd q L nm hD hq h2 h3 h4 (hq.find O h2 h3 e)
theorem add1 (S : St g x W l H σ s.heap) {i : Nat} {d : Addr} {kvs : List (AV × AV)} {q : List (Int × Value)} {k v : AV} {j : Int} {u : Value} {h' : Heap} (L : LAt g x W H σ s i d) (hD : h'.DictOf (intKind g.prog g.w) d (q ++ [(j, u)])) (hs : Heap.SameBut d s.heap h') (hq : KVI g W kvs q) (hk : iv g k = some j) (rv : VR g W v u) (hlen : kvs.length < 100000) : St g x W l (H.set i (.dict (kvs ++ [(k, v)]))) σ h' := by
  obtain ⟨led, o, N, hl, hm, hmp⟩ := L
  obtain ⟨o', ho', hdi'⟩ := Heap.dictOf_iff.mp hD
  exact S.upd N hl (.inl rfl) hmp hm hs ho' fun led' k1 k2 => ⟨d, o', hmp, k2, .inl ⟨_, hq.snoc hk rv, hdi'⟩, by rw [List.length_append, List.length_singleton]; omega⟩
theorem add2 (S : St g x W l H σ s.heap) {i : Nat} {d ad : Addr} {kvs : List (AV × AV)} {q : List (KD × Addr × Value)} {k v : AV} {dd : PyData} {u : Value} {h' : Heap} (L : LAt g x W H σ s i d) (hD : h'.DictOfH (keyKind g.prog g.w) d (q ++ [(nk dd, ad, u)])) (hs : Heap.SameBut d s.heap h') (hq : KVT g W kvs q) (rk : VR g W k (.ref ad)) (hk : pd g k = some dd) (gk : goodK dd = true) (rv : VR g W v u) (hlen : kvs.length < 100000) : St g x W l (H.set i (.dict (kvs ++ [(k, v)]))) σ h' := by
  obtain ⟨led, o, N, hl, hm, hmp⟩ := L
  obtain ⟨o', ho', hdt⟩ := DRT.of (hq.snoc rk hk gk rv) hD
  exact S.upd N hl (.inl rfl) hmp hm hs ho' fun led' k1 k2 => ⟨d, o', hmp, k2, .inr (.inl hdt), by rw [List.length_append, List.length_singleton]; omega⟩
theorem room_ok (c : CxOk g x n) : (keyKind g.prog g.w).room x.A.in1 := by
  have := units_ok c
  show x.A.units + 1 + 64 < cLine
  omega
theorem room_ok' (c : CxOk g x n) : (keyKind g.prog g.w).room x.A := by
  have := units_ok c
  show x.A.units + 64 < cLine
  omega
theorem new_inv {k v : AV} {kvs : List (AV × AV)} {o : Option (Option AV)} {β : Type} {f : List (AV × AV) → Option β} {q : β} (e : (match o with | some (some _) => none | some none => (match snoc (k, v) 100000 kvs with | some q => f q | none => none) | none => none) = some q) : o = some none ∧ kvs.length < 100000 ∧ f (kvs ++ [(k, v)]) = some q := by
  rcases o with _ | _ | w
  · exact xN e
  · have e : (match snoc (k, v) 100000 kvs with | some q => f q | none => none) = some q := e
    cases hq : snoc (k, v) 100000 kvs with
    | none => rw [hq] at e; exact xN e
    | some q' =>
      rw [hq] at e
      obtain ⟨rfl, h2⟩ := snoc_some hq
      exact ⟨rfl, h2, e⟩
  · exact xN e
theorem setItem_ok (O : OkV C g) (c : CxOk g x n) (S : St g x W l H σ s.heap) {o k v : AV} {uo uk uv : Value} (e : setS C o k v H = some H') (ro : VR g W o uo) (rk : VR g W k uk) (rv : VR g W v uv) {Q : Unit → Shared → Prop}
    (hQ : ∀ h' tk, St g x W l H' σ h' → Q () { s with heap := h', toks := tk }) : wpAny (model g.prog g.w) x.A (setItem uo uk uv) Q E s := by
  obtain ⟨i, rfl, e⟩ := loc_inv e
  obtain ⟨kvs, hv, e⟩ := dict_inv e
  obtain ⟨hf, hlen, e⟩ := new_inv e
  obtain rfl := x1 e
  clear e
  cases foundD O c S hv hf ro rk with
  | int q L nm hD hq h1 F =>
    exact wpAny_setItem_pairs (intKind_is _ _ _ _) hD (fun h' hD' hs => hQ _ _ (add1 S L (stored_new F ▸ hD') hs hq h1 rv hlen)) (by rw [hq.length, sizeLine_eq]; omega)
  | tup dd q L nm hD hq h2 h3 h4 F =>
    exact wpAny_setItem_heap (room_ok c) h4 hD (fun h' hD' hs => hQ _ _ (add2 S L (storedH_new F _ _ ▸ hD') hs hq rk h2 h3 rv hlen)) (by rw [hq.length, sizeLine_eq]; omega)
end
end Mine

set_option maxRecDepth 100000
namespace Mine
open PySem PySem.W PySem.Calls PySem.Spec PyProof.Rows

/-! ## a dict's setdefault where the keys lie on the heap -/
section
variable {prog : Program} {w : World} {K : Type} [DecidableEq K] {knd : HeapKind prog w K} {A : Around} {E : Value → Shared → Prop} {s : Shared}
theorem dictSetDefault_heap {d a : Addr} {xs : List (K × Addr × Value)} {k : K} {dflt : Value} {Q : Value → Shared → Prop} (hu : knd.room A) (hkey : knd.is s.heap k a) (hm : s.heap.DictOfH knd d xs)
    (h1 : ∀ p, atKey xs k = some p → Q p.2 { s with toks := s.toks + knd.draws k })
    (h2 : atKey xs k = none → ∀ h', h'.DictOfH knd d (xs ++ [(k, a, dflt)]) → Heap.SameBut d s.heap h' → Q dflt { s with heap := h', toks := s.toks + knd.draws k })
    (hsz : xs.length ≤ sizeLine := by size_fits) : wpAny (model prog w) A (dictSetDefault d (.ref a) dflt) Q E s := by
  obtain ⟨o, es, ep, ho, hc, hd, he, his, hn⟩ := hm
  unfold dictSetDefault
  try with_reducible refine wpAny_holding ?_
  refine wpAny_bind (knd.pyHash hu hkey ?_)
  refine wpAny_bind (wpAny_dictFind_heap (s := { s with toks := s.toks + knd.draws k }) hu hkey ho hd he his hn ?_ ?_)
  · intro hno
    have hnot : k ∉ xs.map (·.1) := not_mem_keys_of_get hno
    refine wpAny_bind (wpAny_rule (wpAny_bind (wpAny_updateDictKeys (hz := by have e := size_of_entries he; omega) (s := { s with toks := s.toks + knd.draws k }) ho hd (wpAny_pure (h2 (atKey_none_of_get hno) _ ⟨_, _, ep + 1, Heap.get?_update_self _ ho (Obj.isFreed_of_dict (Obj.data_mapDictKeys hd _)),
      hc.mapDictKeys _, Obj.data_mapDictKeys hd _, ?_, ?_, ?_⟩ (Heap.SameBut.update ..))))))
    · simp [he, entryOfKey]
    · intro x hx
      rcases List.mem_append.mp hx with hx | hx
      · exact knd.keeps (his x hx) ho hd (Heap.SameBut.update ..)
      · simp only [List.mem_singleton] at hx
        subst hx
        exact knd.keeps hkey ho hd (Heap.SameBut.update ..)
    · rw [List.map_append, List.nodup_append]
      refine ⟨hn, by simp, ?_⟩
      intro x hx y hy
      simp only [List.map_cons, List.map_nil, List.mem_singleton] at hy
      subst hy
      exact fun e => hnot (e ▸ hx)
  · intro j p hj
    refine wpAny_bind (wpAny_dictEntries (s := { s with toks := s.toks + knd.draws k }) ho hd ?_)
    rw [entry_at he j, hj]
    exact wpAny_bind (wpAny_rule (wpAny_pure (h1 p (atKey_of_get hn hj))))
theorem meetsH_setdefault (d a : Addr) (hd : (d == sysModules) = false) (dflt : Value) :
    MeetsIn prog w (Builtin.«dict.setdefault» ⟨[.ref d, .ref a, dflt], []⟩) (fun A R s => knd.room A.in1 ∧ ∃ k xs, knd.is s.heap k a ∧ s.heap.DictOfH knd d xs ∧ xs.length ≤ sizeLine ∧
      (∀ p, atKey xs k = some p → R (.ok (.ret p.2)) { s with toks := s.toks + knd.draws k }) ∧
      (atKey xs k = none → ∀ h', h'.DictOfH knd d (xs ++ [(k, a, dflt)]) → Heap.SameBut d s.heap h' → R (.ok (.ret dflt)) { s with heap := h', toks := s.toks + knd.draws k })) :=
  .of_wp fun A R s ⟨hu, k, xs, hkey, hm, hz, h1, h2⟩ => by
    unfold Builtin.«dict.setdefault»
    refine wpAny_bind ?_
    unfold Builtin.Dict.keyAndDefault
    refine wpAny_bind (wpAny_notOrdered_dict hm.typeIs ?_)
    show wpAny _ _ (pure (d, Value.ref a, some dflt)) _ _ s
    refine wpAny_pure ?_
    show wpAny _ _ (if (d == sysModules) = true then _ else (dictSetDefault d (.ref a) dflt >>= _)) _ _ s
    rw [if_neg (by rw [hd]; exact Bool.false_ne_true)]
    exact wpAny_bind (dictSetDefault_heap (hsz := hz) hu hkey hm (fun v hv => wpAny_pure ⟨v.2, rfl, h1 v hv⟩) fun hn h' hm' hs' => wpAny_pure ⟨dflt, rfl, h2 hn h' hm' hs'⟩)
end

section
variable {g : G} {C : Cfg} {x : Cx} {n : Nat} {W : Wd} {l : L} {H H' : Mine.H} {σ : Sg} {s : Shared} {E : Value → Shared → Prop}
theorem optQ {β : Type} {o : Option (List AV × AV)} {f : List AV → AV → Option β} {q : β} (e : (match o with | some (a, b) => f a b | none => none) = some q) : ∃ a b, o = some (a, b) ∧ f a b = some q := by
  cases o with
  | none => exact xN e
  | some p => exact ⟨p.1, p.2, rfl, e⟩
theorem optNs {β : Type} {o : Option (List Nat)} {f : List Nat → Option β} {q : β} (e : (match o with | some p => f p | none => none) = some q) : ∃ p, o = some p ∧ f p = some q := by
  cases o with
  | none => exact xN e
  | some p => exact ⟨p, rfl, e⟩
theorem as0_inv {α : Type} {as : List AV} {f : Option α} {q : α} (e : (match as with | [] => f | _ => none) = some q) : as = [] ∧ f = some q := by
  cases as with
  | nil => exact ⟨rfl, e⟩
  | cons a as => exact xN e
theorem as1_inv {α : Type} {as : List AV} {f : AV → Option α} {q : α} (e : (match as with | [k] => f k | _ => none) = some q) : ∃ k, as = [k] ∧ f k = some q := by
  rcases as with _ | ⟨a, _ | ⟨b, as⟩⟩
  · exact xN e
  · exact ⟨a, rfl, e⟩
  · exact xN e
/-- a built-in method found by its name, its call -/
inductive MethR (g : G) (x : Cx) (T : String) (y : Str) (us : List Value) (Q E : Value → Shared → Prop) (s : Shared) : Prop
  | mk (id : String) : Slot T y id → typeOf (.builtin id) = pure (.type "method_descriptor") → wpAny (model g.prog g.w) x.A (call (.builtin id) us) Q E s → MethR g x T y us Q E s
theorem name_eq {y : Str} {T : String} (h0 : nm (Str.ofString T) ≠ 0) (q : nm y = nmS T) : y = Str.ofString T := (nm_inj h0 q.symm).symm
theorem name2_inv {α : Type} {n a b : Nat} {f k : Option α} {q : α} (e : (match Nat.beq n a with | true => f | false => (match Nat.beq n b with | true => k | false => none)) = some q) : (n = a ∧ f = some q) ∨ (n = b ∧ k = some q) := by
  cases h : Nat.beq n a with
  | true => rw [h] at e; exact .inl ⟨Nat.eq_of_beq_eq_true h, e⟩
  | false =>
    rw [h] at e
    obtain ⟨h2, e⟩ := bool_inv e
    exact .inr ⟨Nat.eq_of_beq_eq_true h2, e⟩
theorem lastOf_eq : ∀ {vs q : List AV} {w : AV}, lastOf vs = some (q, w) → vs = q ++ [w]
  | [], _, _, e => xN e
  | v :: r, q, w, e => by
    cases r with
    | nil => obtain ⟨rfl, rfl⟩ := x2 e; rfl
    | cons v' r =>
      obtain ⟨q', w', hq, e'⟩ := optQ (o := lastOf (v' :: r)) e
      obtain ⟨rfl, rfl⟩ := x2 e'
      rw [lastOf_eq hq]; rfl
theorem VRs.last {w : AV} : ∀ {q : List AV} {us : List Value}, VRs g W (q ++ [w]) us → ∃ ws u, us = ws ++ [u] ∧ VRs g W q ws ∧ VR g W w u
  | [], us, h => by
    obtain ⟨u, rfl, r⟩ := h.n1
    exact ⟨[], u, rfl, .nil, r⟩
  | v :: q, us, h => by
    obtain ⟨u, us', rfl, r1, r2⟩ := h.c
    obtain ⟨ws, u', rfl, r3, r4⟩ := VRs.last r2
    exact ⟨u :: ws, u', rfl, .cons r1 r3, r4⟩
inductive ListR (g : G) (x : Cx) (W : Wd) (H : Mine.H) (σ : Sg) (s : Shared) (i : Nat) (vs : List AV) : Value → Prop
  | mk (a : Addr) (ws : List Value) (k : Nat) : LAt g x W H σ s i a → s.heap.get? a = some (lstObj ws k) → VRs g W vs ws → vs.length ≤ 400000 → ListR g x W H σ s i vs (.ref a)
theorem getList (S : St g x W l H σ s.heap) {i : Nat} {vs : List AV} (e : H.get i = some (.list vs)) {u : Value} (r : VR g W (.loc i) u) : ListR g x W H σ s i vs u := by
  obtain ⟨led, N, ⟨a, ws, k, h1, h2, h3, h4⟩, hl⟩ := S.getO e
  rw [r.at S h1]
  exact ⟨a, ws, k, ⟨led, _, N, hl, h2, h1⟩, (N _ (inLed h2)).1, h3, h4⟩
theorem list_set (S : St g x W l H σ s.heap) {i : Nat} {a : Addr} {vs : List AV} {ws : List Value} {k : Nat} {h' : Heap} (L : LAt g x W H σ s i a) (hs : Heap.SameBut a s.heap h') (ho : h'.get? a = some (lstObj ws k)) (r : VRs g W vs ws) (hl : vs.length ≤ 400000) : St g x W l (H.set i (.list vs)) σ h' := by
  obtain ⟨led, o, N, hl', hm, hmp⟩ := L
  exact S.upd N hl' (.inl rfl) hmp hm hs ho fun led' k1 k2 => ⟨a, ws, k, hmp, k2, r, hl⟩
theorem mList_app (S : St g x W l H σ s.heap) {i : Nat} {vs : List AV} {v : AV} {uo u : Value} (hv : H.get i = some (.list vs)) (hlt : vs.length < 100000) (ro : VR g W (.loc i) uo) (r1 : VR g W v u) {Q : Value → Shared → Prop}
    (hQ : PV g x W l (H.set i (.list (vs ++ [v]))) σ .none Q s) : wpAny (model g.prog g.w) x.A (call (.builtin "list.append") [uo, u]) Q E s := by
  obtain ⟨a, ws, k, L, ha, h3, h4⟩ := getList S hv ro
  have len := h3.length
  refine call_meets F.slot_list_append ⟨_, ha, rfl⟩ F.entry_list_append (F.args_list_append_2 _ _) (list_append a ws.toArray k u (by rw [List.size_toArray, sizeLine_eq]; omega)) ⟨ha, ?_⟩
  have up := IsL.update (items := ws.toArray) ha (fun xs => xs.push u)
  have e1 : ws.toArray.push u = (ws ++ [u]).toArray := by simp
  rw [e1] at up
  exact hQ W _ _ _ (Wd.le.refl W) (list_set S L (Heap.SameBut.update _ _ _) up (h3.append (.cons r1 .nil)) (by rw [List.length_append, List.length_singleton]; omega)) .none
theorem mList_pop (S : St g x W l H σ s.heap) {i : Nat} {vs : List AV} {v : AV} {uo : Value} (hv : H.get i = some (.list (vs ++ [v]))) (ro : VR g W (.loc i) uo) {Q : Value → Shared → Prop}
    (hQ : PV g x W l (H.set i (.list vs)) σ v Q s) : wpAny (model g.prog g.w) x.A (call (.builtin "list.pop") [uo]) Q E s := by
  obtain ⟨a, ws, k, L, ha, h3, h4⟩ := getList S hv ro
  obtain ⟨ws', u, rfl, r1, r2⟩ := h3.last
  have len := r1.length
  rw [List.length_append, List.length_singleton] at h4
  have e0 : (ws' ++ [u]).toArray.size - 1 = ws'.length := by simp
  refine call_meets F.slot_list_pop ⟨_, ha, rfl⟩ F.entry_list_pop (F.args_list_pop_1 _) (MeetsSeq.list_pop_last a (ws' ++ [u]).toArray k u (by rw [e0]; simp) (by rw [List.size_toArray, sizeLine_eq, List.length_append, List.length_singleton]; omega)) ⟨ha, ?_⟩
  have e1 : (ws' ++ [u]).toArray.eraseIdxIfInBounds ((ws' ++ [u]).toArray.size - 1) = ws'.toArray := by
    rw [e0]
    apply Array.toList_inj.mp
    have e2 : (ws' ++ [u]).eraseIdx ws'.length = ws' := by rw [List.eraseIdx_append_of_length_le (Nat.le_refl _)]; simp
    simp [Array.eraseIdxIfInBounds, e2]
  have up := IsL.update (items := (ws' ++ [u]).toArray) ha (fun xs => xs.eraseIdxIfInBounds ((ws' ++ [u]).toArray.size - 1))
  rw [e1] at up
  exact hQ W _ _ _ (Wd.le.refl W) (list_set S L (Heap.SameBut.update _ _ _) up r1 (by omega)) r2
theorem mList_ok (c : CxOk g x n) (S : St g x W l H σ s.heap) {i : Nat} {vs as : List AV} {y : Str} {uo : Value} {us : List Value} {v : AV} (hv : H.get i = some (.list vs)) (e : mList i vs (nm y) as H = some (v, H')) (ro : VR g W (.loc i) uo) (rs : VRs g W as us) {Q : Value → Shared → Prop}
    (hQ : PV g x W l H' σ v Q s) : MethR g x "list" y (uo :: us) Q E s := by
  rcases name2_inv e with ⟨q, e⟩ | ⟨q, e⟩
  · obtain rfl := name_eq (T := "append") (by decide +kernel) q
    obtain ⟨z, rfl, e⟩ := as1_inv e
    obtain ⟨q', hq, e⟩ := optVs e
    obtain ⟨rfl, rfl⟩ := x2 e
    obtain ⟨rfl, hlt⟩ := snoc_some hq
    obtain ⟨u, rfl, r1⟩ := rs.n1
    exact ⟨_, F.slot_list_append, F.type_list_append, mList_app S hv hlt ro r1 hQ⟩
  · obtain rfl := name_eq (T := "pop") (by decide +kernel) q
    obtain ⟨rfl, e⟩ := as0_inv e
    obtain ⟨q', w', hq, e⟩ := optQ e
    obtain ⟨rfl, rfl⟩ := x2 e
    obtain rfl := lastOf_eq hq
    obtain rfl := rs.n0
    exact ⟨_, F.slot_list_pop, F.type_list_pop, mList_pop S hv ro hQ⟩
theorem get_inv {d v : AV} {o : Option (Option AV)} (e : (match o with | some (some w) => some (w, H) | some none => some (d, H) | none => none) = some (v, H')) : ∃ w, o = some w ∧ v = w.getD d ∧ H' = H := by
  rcases o with _ | _ | w
  · exact xN e
  · exact ⟨_, rfl, (x2 e).1, (x2 e).2⟩
  · exact ⟨_, rfl, (x2 e).1, (x2 e).2⟩
theorem mDict_get (O : OkV C g) (c : CxOk g x n) (S : St g x W l H σ s.heap) {i : Nat} {kvs : List (AV × AV)} {k d v : AV} {uo uk ud : Value} (hv : H.get i = some (.dict kvs)) (e : (match dfind C k kvs with | some (some w) => some (w, H) | some none => some (d, H) | none => none) = some (v, H')) (ro : VR g W (.loc i) uo) (rk : VR g W k uk) (rd : VR g W d ud) {Q : Value → Shared → Prop}
    (hQ : PV g x W l H' σ v Q s) : wpAny (model g.prog g.w) x.A (call (.builtin "dict.get") [uo, uk, ud]) Q E s := by
  obtain ⟨w, hw, rfl, rfl⟩ := get_inv e
  clear e
  cases foundD O c S hv hw ro rk with
  | int q L nm hD hq h1 Fd =>
    refine call_meetsIn F.slot_dict_get hD.typeIs F.entry_dict_get (F.args_dict_get_3 _ _ _) (meets_dict_get_default (intKind g.prog g.w) _ (intKind_is _ _ _ _) nm ud) ⟨_, hD.mapOf, ?_⟩
    cases w with
    | some z =>
      obtain ⟨u, hu, hvu⟩ := Fd
      rw [hu]; exact hQ W _ _ _ (Wd.le.refl W) S hvu
    | none => rw [show valueAt q _ = none from Fd]; exact hQ W _ _ _ (Wd.le.refl W) S rd
  | tup dd q L nm hD hq h2 h3 h4 Fd =>
    refine call_meetsIn F.slot_dict_get hD.typeIs F.entry_dict_get (F.args_dict_get_3 _ _ _) (meetsH_dict_get_default _ _ _ nm ud) ⟨room_ok c, _, _, h4, hD, ?_⟩
    cases w with
    | some z =>
      obtain ⟨a, u, hu, hvu⟩ := Fd
      rw [hu]; exact hQ W _ _ _ (Wd.le.refl W) S hvu
    | none => rw [show atKey q (nk dd) = none from Fd]; exact hQ W _ _ _ (Wd.le.refl W) S rd
theorem mDict_put (O : OkV C g) (c : CxOk g x n) (S : St g x W l H σ s.heap) {i : Nat} {kvs : List (AV × AV)} {k d : AV} {uo uk ud : Value} (hv : H.get i = some (.dict kvs)) (hf : dfind C k kvs = some none) (hlen : kvs.length < 100000) (ro : VR g W (.loc i) uo) (rk : VR g W k uk) (rd : VR g W d ud) {Q : Value → Shared → Prop}
    (hQ : PV g x W l (H.set i (.dict (kvs ++ [(k, d)]))) σ d Q s) : wpAny (model g.prog g.w) x.A (call (.builtin "dict.setdefault") [uo, uk, ud]) Q E s := by
  cases foundD O c S hv hf ro rk with
  | int q L nm hD hq h1 Fd =>
    have hql := hq.length
    refine call_meetsIn F.slot_dict_setdefault hD.typeIs F.entry_dict_setdefault (F.args_dict_setdefault_3 _ _ _) (kt_meets_setdefault (intKind g.prog g.w) _ (intKind_is _ _ _ _) nm ud) ⟨q, hD, by rw [hql, sizeLine_eq]; omega, fun v' hv' => ?_, fun hn h' hD' hs => ?_⟩
    · rw [show valueAt q _ = none from Fd] at hv'; cases hv'
    · exact hQ W _ _ _ (Wd.le.refl W) (add1 S L (stored_new Fd ▸ hD') hs hq h1 rd hlen) rd
  | tup dd q L nm hD hq h2 h3 h4 Fd =>
    have hql := hq.length
    refine call_meetsIn F.slot_dict_setdefault hD.typeIs F.entry_dict_setdefault (F.args_dict_setdefault_3 _ _ _) (meetsH_setdefault _ _ nm ud) ⟨room_ok c, _, q, h4, hD, by rw [hql, sizeLine_eq]; omega, fun v' hv' => ?_, fun hn h' hD' hs => ?_⟩
    · rw [show atKey q (nk dd) = none from Fd] at hv'; cases hv'
    · exact hQ W _ _ _ (Wd.le.refl W) (add2 S L hD' hs hq rk h2 h3 rd hlen) rd
theorem as2_inv {α : Type} {as : List AV} {f : AV → AV → Option α} {q : α} (e : (match as with | [k, d] => f k d | _ => none) = some q) : ∃ k d, as = [k, d] ∧ f k d = some q := by
  rcases as with _ | ⟨a, _ | ⟨b, _ | ⟨c, as⟩⟩⟩
  · exact xN e
  · exact xN e
  · exact ⟨a, b, rfl, e⟩
  · exact xN e
theorem mDict_ok (O : OkV C g) (c : CxOk g x n) (S : St g x W l H σ s.heap) {i : Nat} {kvs : List (AV × AV)} {as : List AV} {y : Str} {uo : Value} {us : List Value} {v : AV} (hv : H.get i = some (.dict kvs)) (e : mDict C i kvs (nm y) as H = some (v, H')) (ro : VR g W (.loc i) uo) (rs : VRs g W as us) {Q : Value → Shared → Prop}
    (hQ : PV g x W l H' σ v Q s) : MethR g x "dict" y (uo :: us) Q E s := by
  obtain ⟨k, d, rfl, e1⟩ := as2_inv e
  clear e
  obtain ⟨uk, ud, rfl, rk, rd⟩ := rs.n2
  clear rs
  rcases name2_inv e1 with ⟨q, e⟩ | ⟨q, e⟩
  · obtain rfl := name_eq (T := "get") (by decide +kernel) q
    exact ⟨_, F.slot_dict_get, F.type_dict_get, mDict_get O c S hv e ro rk rd hQ⟩
  · obtain ⟨h1, h2, e⟩ := new_inv e
    obtain rfl := name_eq (T := "setdefault") (by decide +kernel) q
    obtain ⟨rfl, rfl⟩ := x2 e
    exact ⟨_, F.slot_dict_setdefault, F.type_dict_setdefault, mDict_put O c S hv h1 h2 ro rk rd hQ⟩
theorem optTs {β : Type} {o : Option (List Str)} {f : List Str → Option β} {q : β} (e : (match o with | some p => f p | none => none) = some q) : ∃ p, o = some p ∧ f p = some q := by
  cases o with
  | none => exact xN e
  | some p => exact ⟨p, rfl, e⟩
theorem texts_ok : ∀ {vs : List AV} {us : List Value} {ts : List Str}, VRs g W vs us → textsOf vs = some ts → ∃ l : List (Str × Tok), us = strValues l ∧ l.map (·.1) = ts ∧ ∀ t ∈ ts, t.length ≤ 100000
  | [], _, _, r, e => by
    obtain rfl := r.n0
    first | exact xN e | exact xS e | (obtain rfl := x1 e; clear e) | (obtain ⟨rfl, rfl⟩ := x2 e; clear e) | (obtain ⟨rfl, rfl, rfl⟩ := x3 e; clear e) | (exfalso; cases e; done) | cases e
    exact ⟨[], rfl, rfl, fun _ h => nomatch h⟩
  | v :: vs, _, _, r, e => by
    obtain ⟨u, us, rfl, a, b⟩ := r.c
    cases v <;> first | exact xN e | skip
    rename_i z
    obtain ⟨ts', hz, rfl⟩ : ∃ b, textsOf vs = some b ∧ _ = (⟨z.toArray⟩ : Str) :: b := by
      unfold textsOf at e
      cases hz : textsOf vs with
      | none => rw [hz] at e; exact xN e
      | some b => rw [hz] at e; exact ⟨b, rfl, x1 e⟩
    obtain ⟨l, rfl, rfl, h3⟩ := texts_ok b hz
    obtain ⟨t, rfl, hb⟩ := a.isS
    refine ⟨(⟨z.toArray⟩, t) :: l, rfl, rfl, fun t' ht => ?_⟩
    rcases List.mem_cons.mp ht with rfl | ht
    · have := strB_len hb; simp only [Str.length, List.size_toArray]; omega
    · exact h3 _ ht
theorem mStr_join (S : St g x W l H σ s.heap) {cs r : List Nat} {j : Nat} {vs : List AV} {u1 : Value} {t : Tok} {z : AV} (hv : H.get j = some (.list vs)) (hj : joinS cs vs = some r) (hz : mkS r = some z) (r1 : VR g W (.loc j) u1) {Q : Value → Shared → Prop}
    (hQ : PV g x W l H σ z Q s) : wpAny (model g.prog g.w) x.A (call (.builtin "str.join") [.str ⟨cs.toArray⟩ t, u1]) Q E s := by
  obtain ⟨rfl, hb2⟩ := mkS_some hz
  obtain ⟨a, ws, k, rfl, ha, rws, _⟩ := S.getL hv r1
  obtain ⟨hsh, hj⟩ := bool_inv hj
  obtain ⟨ts, hts, hj⟩ := optTs hj
  obtain rfl := x1 hj
  rw [Bool.and_eq_true] at hsh
  have s1 := short_len hsh.1
  have s2 := short_len hsh.2
  obtain ⟨ll, rfl, ht, hlen⟩ := texts_ok rws hts
  have hL : s.heap.IsList a (strValues ll).toArray := ⟨_, ha, rfl, k, rfl⟩
  have len := rws.length
  have tl : ts.length = vs.length := by rw [← ht, List.length_map, ← len, strValues, List.length_map]
  refine SC.join hL ht ?_ fun t' k => ?_
  · unfold JoinOk
    rw [Bool.not_eq_true']
    exact StrLaws.joinFits hlen (by
      have a1 : ts.length * 100000 ≤ 150 * 100000 := Nat.mul_le_mul_right _ (by omega)
      have a2 : (⟨cs.toArray⟩ : Str).length = cs.length := by simp [Str.length]
      have a3 : ts.length * (⟨cs.toArray⟩ : Str).length ≤ 150 * 150 := by rw [a2]; exact Nat.mul_le_mul (by omega) (by omega)
      exact Nat.le_trans (Nat.add_le_add a1 a3) (Nat.le_of_ble_eq_true rfl))
  · have := hQ W s.heap k _ (Wd.le.refl W) S (.str _ t' hb2)
    simpa using this
theorem locs_inv {α : Type} {as : List AV} {f : Nat → Option α} {q : α} (e : (match as with | [.loc j] => f j | _ => none) = some q) : ∃ j, as = [.loc j] ∧ f j = some q := by
  rcases as with _ | ⟨a, as⟩
  · exact xN e
  cases a <;> first | exact xN e | skip
  rcases as with _ | ⟨b, as⟩
  · exact ⟨_, rfl, e⟩
  · exact xN e
theorem strs_inv {α : Type} {as : List AV} {f : List Nat → Option α} {q : α} (e : (match as with | [.str j] => f j | _ => none) = some q) : ∃ j, as = [.str j] ∧ f j = some q := by
  rcases as with _ | ⟨a, as⟩
  · exact xN e
  cases a <;> first | exact xN e | skip
  rcases as with _ | ⟨b, as⟩
  · exact ⟨_, rfl, e⟩
  · exact xN e
theorem mStr_ok (c : CxOk g x n) (S : St g x W l H σ s.heap) {cs : List Nat} {as : List AV} {y : Str} {uo : Value} {us : List Value} {v : AV} (e : mStr cs (nm y) as H = some (v, H')) (ro : VR g W (.str cs) uo) (rs : VRs g W as us) {Q : Value → Shared → Prop}
    (hQ : PV g x W l H' σ v Q s) : MethR g x "str" y (uo :: us) Q E s := by
  obtain ⟨t, rfl, hb⟩ := ro.isS
  clear ro
  rcases name2_inv e with ⟨q, e⟩ | ⟨q, e⟩
  · obtain rfl := name_eq (T := "join") (by decide +kernel) q
    obtain ⟨j, rfl, e⟩ := locs_inv e
    obtain ⟨vs, hv, e⟩ := list_inv e
    obtain ⟨r, hj, e⟩ := optNs e
    obtain ⟨z, hz, e⟩ := optV e
    obtain ⟨rfl, rfl⟩ := x2 e
    obtain ⟨u, rfl, r1⟩ := rs.n1
    exact ⟨_, F.slot_str_join, F.type_str_join, mStr_join S hv hj hz r1 hQ⟩
  · obtain rfl := name_eq (T := "startswith") (by decide +kernel) q
    obtain ⟨p, rfl, e⟩ := strs_inv e
    obtain ⟨rfl, rfl⟩ := x2 e
    obtain ⟨u, rfl, r1⟩ := rs.n1
    obtain ⟨t', rfl, hp⟩ := r1.isS
    exact ⟨_, F.slot_str_startswith, F.type_str_startswith, SC.startswith (hQ W s.heap s.toks _ (Wd.le.refl W) S (.bool _))⟩
end
end Mine

set_option maxRecDepth 100000
namespace Mine
open PySem PySem.W PySem.Calls PySem.Spec PyProof.Rows

section
variable {g : G} {C : Cfg} {x : Cx} {n : Nat} {W : Wd} {l : L} {H H' : Mine.H} {σ : Sg} {s : Shared} {E : Value → Shared → Prop} {r : R} {sc : Scope}

theorem log2_small {n : Nat} (h : n < 1000000) : n.log2 < 1920 := by
  rcases Nat.eq_zero_or_pos n with h0 | hp
  · rw [h0]; decide
  · refine (Nat.log2_lt (Nat.ne_of_gt hp)).mpr (Nat.lt_of_lt_of_le h ?_)
    exact Nat.le_trans (show (1000000 : Nat) ≤ 2 ^ 20 by decide) (Nat.pow_le_pow_right (by omega) (by omega))
theorem fmt_nat {m : Nat} {w : AV} (e : (match Nat.blt m 1000000 with | true => mkS (digits m) | false => none) = some w) : m.log2 < 1920 ∧ ∀ W t, VR g W w (.str (Str.ofString (toString (Int.ofNat m))) t) := by
  obtain ⟨q, e⟩ := bool_inv e
  obtain ⟨rfl, hb⟩ := mkS_some e
  refine ⟨log2_small (Nat.le_of_ble_eq_true q), fun W t => ?_⟩
  have : VR g W (.str (digits m)) (.str ⟨(digits m).toArray⟩ t) := .str _ t hb
  simpa [digits] using this
theorem fmt_int {v w : AV} {i : Int} (O : OkV C g) (hv : iv g v = some i) (e : fmtV C v = some w) : i.natAbs.log2 < 1920 ∧ ∀ W t, VR g W w (.str (Str.ofString (toString i)) t) := by
  cases v <;> first | exact xN hv | skip
  · obtain rfl := x1 hv
    cases i with
    | ofNat m => exact fmt_nat e
    | negSucc m => exact xN e
  · obtain rfl := x1 hv
    obtain ⟨k', j, h1, rfl, h2, h3⟩ := O.fmt _ _ e
    first | exact xN h1 | exact xS h1 | (obtain rfl := x1 h1; clear h1) | (obtain ⟨rfl, rfl⟩ := x2 h1; clear h1) | (obtain ⟨rfl, rfl, rfl⟩ := x3 h1; clear h1) | (exfalso; cases h1; done) | cases h1
    exact ⟨log2_small h3, fun W t => by rw [← h2]; exact .ssym j t⟩

theorem items_ok (c : CxOk g x n) (S : St g x W l H σ s.heap) {v : AV} {vs : List AV} {u : Value} (e : items H v = some vs) (rv : VR g W v u) :
    (∃ a ws, u = .ref a ∧ IsTup s.heap a ws.toArray ∧ VRs g W vs ws ∧ v = .tup vs) ∨ (∃ a ws k, u = .ref a ∧ s.heap.get? a = some (lstObj ws k) ∧ VRs g W vs ws ∧ vs.length ≤ 400000) := by
  unfold items at e
  split at e
  · first | exact xN e | exact xS e | (obtain rfl := x1 e; clear e) | (obtain ⟨rfl, rfl⟩ := x2 e; clear e) | (obtain ⟨rfl, rfl, rfl⟩ := x3 e; clear e) | (exfalso; cases e; done) | cases e
    obtain ⟨a, ws, rfl, h1, h2, h3⟩ := rv.isT
    exact .inl ⟨_, _, rfl, S.tups c _ _ h1, h2, rfl⟩
  · split at e
    · rename_i hv
      first | exact xN e | exact xS e | (obtain rfl := x1 e; clear e) | (obtain ⟨rfl, rfl⟩ := x2 e; clear e) | (obtain ⟨rfl, rfl, rfl⟩ := x3 e; clear e) | (exfalso; cases e; done) | cases e
      exact .inr (S.getL hv rv)
    · first | exact xN e | exact xS e | (obtain rfl := x1 e; clear e) | (obtain ⟨rfl, rfl⟩ := x2 e; clear e) | (obtain ⟨rfl, rfl, rfl⟩ := x3 e; clear e) | (exfalso; cases e; done) | cases e
  · first | exact xN e | exact xS e | (obtain rfl := x1 e; clear e) | (obtain ⟨rfl, rfl⟩ := x2 e; clear e) | (obtain ⟨rfl, rfl, rfl⟩ := x3 e; clear e) | (exfalso; cases e; done) | cases e
theorem bools_ok : ∀ {vs : List AV} {us : List Value} {bs : List Bool}, VRs g W vs us → boolsOf vs = some bs → us = bs.map .bool
  | _, _, _, .nil, e => by cases e; rfl
  | _, _, _, .cons a b, e => by
    unfold boolsOf at e
    split at e
    · rename_i hz
      first | exact xN e | exact xS e | (obtain rfl := x1 e; clear e) | (obtain ⟨rfl, rfl⟩ := x2 e; clear e) | (obtain ⟨rfl, rfl, rfl⟩ := x3 e; clear e) | (exfalso; cases e; done) | cases e
      first | exact xN a | exact xS a | (obtain rfl := x1 a; clear a) | (obtain ⟨rfl, rfl⟩ := x2 a; clear a) | (obtain ⟨rfl, rfl, rfl⟩ := x3 a; clear a) | (exfalso; cases a; done) | cases a
      rw [bools_ok b hz]; rfl
    · first | exact xN e | exact xS e | (obtain rfl := x1 e; clear e) | (obtain ⟨rfl, rfl⟩ := x2 e; clear e) | (obtain ⟨rfl, rfl, rfl⟩ := x3 e; clear e) | (exfalso; cases e; done) | cases e
theorem kept_iter' {h h' : Heap} {o : Obj} (hk : ∀ b x, b ∉ [h.objs.size] → (h.push o).get? b = some x → h'.get? b = some x) : ∀ b x, h.get? b = some x → h'.get? b = some x :=
  fun b x e => hk b x (fun hm => by rw [List.mem_singleton.mp hm] at e; exact Nat.lt_irrefl _ (Heap.lt_size e)) (Heap.get?_push_of_some _ e)
theorem map_range (bs : List Bool) (d : Bool) : (List.range bs.length).map (fun i => (bs[i]?).getD d) = bs := by
  apply List.ext_getElem
  · simp
  · intro i h1 h2
    simp only [List.length_map, List.length_range] at h1
    simp [h1]
theorem all_ok {A : Around} {prog : Program} {w : World} {a : Addr} {bs : List Bool} {k : Nat} {Q : Value → Shared → Prop} (hh : A.handled = none) (hl : s.heap.get? a = some (lstObj (bs.map .bool) k))
    (h : ∀ h' tk, (∀ b o, s.heap.get? b = some o → h'.get? b = some o) → Q (.bool (bs.all id)) { s with heap := h', toks := tk }) : wpAny (model prog w) A (call (.builtin "all") [.ref a]) Q E s := by
  have hL : s.heap.IsList a (bs.map Value.bool).toArray := ⟨_, hl, rfl, k, rfl⟩
  have hlt : a < s.heap.objs.size := Heap.lt_size hl
  refine call_all_walk (wpAny_pyIter_list hL ?_)
  refine ⟨s.heap.objs.size, [s.heap.objs.size, a], [s.heap.objs.size], _, _, _, fun i => (bs[i]?).getD true, rfl, Walks.list (A := A.in1) hh _ a (Nat.ne_of_lt hlt) (bs.map Value.bool).toArray,
    ⟨⟨_, Heap.get?_push_size _ rfl, rfl, rfl⟩, hL.push _⟩, fun i v s' Q' E' hP hQ => ?_, fun h' tk hk => ?_⟩
  · have hP' : bs[i]?.map Value.bool = some v := by simpa using hP
    obtain ⟨b, e, rfl⟩ := Option.map_eq_some_iff.mp hP'
    simp only [e, Option.getD_some] at hQ
    exact wpAny_truthy_bool hQ
  · have e : ((List.range (bs.map Value.bool).toArray.size).all fun i => (bs[i]?).getD true) = bs.all id := by
      have := map_range bs true
      conv => rhs; rw [← this, List.all_map]
      simp only [List.size_toArray, List.length_map]; rfl
    rw [e]
    exact h h' tk (kept_iter' hk)
theorem any_ok {A : Around} {prog : Program} {w : World} {a : Addr} {bs : List Bool} {k : Nat} {Q : Value → Shared → Prop} (hh : A.handled = none) (hl : s.heap.get? a = some (lstObj (bs.map .bool) k))
    (h : ∀ h' tk, (∀ b o, s.heap.get? b = some o → h'.get? b = some o) → Q (.bool (bs.any id)) { s with heap := h', toks := tk }) : wpAny (model prog w) A (call (.builtin "any") [.ref a]) Q E s := by
  have hL : s.heap.IsList a (bs.map Value.bool).toArray := ⟨_, hl, rfl, k, rfl⟩
  have hlt : a < s.heap.objs.size := Heap.lt_size hl
  refine call_any_walk (wpAny_pyIter_list hL ?_)
  refine ⟨s.heap.objs.size, [s.heap.objs.size, a], [s.heap.objs.size], _, _, _, fun i => (bs[i]?).getD true, rfl, Walks.list (A := A.in1) hh _ a (Nat.ne_of_lt hlt) (bs.map Value.bool).toArray,
    ⟨⟨_, Heap.get?_push_size _ rfl, rfl, rfl⟩, hL.push _⟩, fun i v s' Q' E' hP hQ => ?_, fun h' tk hk => ?_⟩
  · have hP' : bs[i]?.map Value.bool = some v := by simpa using hP
    obtain ⟨b, e, rfl⟩ := Option.map_eq_some_iff.mp hP'
    simp only [e, Option.getD_some] at hQ
    exact wpAny_truthy_bool hQ
  · have e : ((List.range (bs.map Value.bool).toArray.size).any fun i => (bs[i]?).getD true) = bs.any id := by
      have := map_range bs true
      conv => rhs; rw [← this, List.any_map]
      simp only [List.size_toArray, List.length_map]; rfl
    rw [e]
    exact h h' tk (kept_iter' hk)

theorem len_fit {m : Nat} (h : m < 2 ^ 60) : ((m : Nat) : Int) < 2 ^ 63 := by omega
theorem one_inv {as : List AV} {f : AV → Option (AV × Mine.H)} {q : AV × Mine.H} (e : (match as with | [v] => f v | _ => none) = some q) : ∃ a, as = [a] ∧ f a = some q := by
  rcases as with _ | ⟨a, _ | ⟨b, as⟩⟩
  · exact xN e
  · exact ⟨a, rfl, e⟩
  · exact xN e
theorem two_inv {as : List AV} {f : Int → Int → Int} {v : AV} (e : (match as with | [.int a, .int b] => some (AV.int (f a b), H) | _ => none) = some (v, H')) : ∃ a b, as = [.int a, .int b] ∧ v = .int (f a b) ∧ H' = H := by
  rcases as with _ | ⟨a, as⟩
  · exact xN e
  cases a <;> first | exact xN e | skip
  rcases as with _ | ⟨b, as⟩
  · exact xN e
  cases b <;> first | exact xN e | skip
  rcases as with _ | ⟨b, as⟩
  · obtain ⟨h1, h2⟩ := x2 e
    exact ⟨_, _, rfl, h1, h2⟩
  · exact xN e
theorem bools_inv {as : List AV} {f : List Bool → Bool} {v : AV} (e : (match as with | [.loc i] => (match H.get i with | some (.list vs) => (match boolsOf vs with | some bs => some (AV.bool (f bs), H) | none => none) | _ => none) | _ => none) = some (v, H')) : ∃ i vs bs, as = [.loc i] ∧ H.get i = some (.list vs) ∧ boolsOf vs = some bs ∧ v = .bool (f bs) ∧ H' = H := by
  rcases as with _ | ⟨a, as⟩
  · exact xN e
  cases a <;> first | exact xN e | skip
  rename_i i
  rcases as with _ | ⟨b, as⟩
  · dsimp only at e
    cases hg : H.get i with
    | none => rw [hg] at e; exact xN e
    | some o =>
      rw [hg] at e
      cases o <;> first | exact xN e | skip
      rename_i vs
      dsimp only at e
      cases hb : boolsOf vs with
      | none => rw [hb] at e; exact xN e
      | some bs =>
        rw [hb] at e
        obtain ⟨h1, h2⟩ := x2 e
        exact ⟨i, vs, bs, rfl, hg, hb, h1, h2⟩
  · exact xN e
theorem bi_len (c : CxOk g x n) (S : St g x W l H σ s.heap) {as : List AV} {us : List Value} {v : AV} (e : builtin C 0 as H = some (v, H')) (rs : VRs g W as us) {Q : Value → Shared → Prop}
    (hQ : PV g x W l H' σ v Q s) : wpAny (model g.prog g.w) x.A (call (.builtin "len") us) Q E s := by
  obtain ⟨a, rfl, e'⟩ := one_inv e
  clear e
  have e := e'
  clear e'
  obtain ⟨u, rfl, r1⟩ := rs.n1
  clear rs
  split at e
  · rename_i m hm
    split at e
    · rename_i hlt
      have hlt : m < 1152921504606846976 := Nat.le_of_ble_eq_true hlt
      obtain ⟨rfl, rfl⟩ := x2 e
      clear e
      unfold lenV at hm
      split at hm
      · obtain rfl := x1 hm
        rw [len_eq] at hQ hlt
        obtain ⟨a, ws, rfl, h1, h2, h3⟩ := r1.isT
        have len := h2.length
        refine PyProof.Rows.len_tuple (S.tups c _ _ h1) (by rw [List.size_toArray, len]; omega) ?_
        rw [List.size_toArray, len]
        exact hQ W s.heap _ _ (Wd.le.refl W) S (.int _ _)
      · obtain rfl := x1 hm
        rename_i cs _
        rw [len_eq] at hQ hlt
        obtain ⟨t, rfl, hb⟩ := r1.isS
        have e1 : (⟨cs.toArray⟩ : Str).length = cs.length := by simp [Str.length]
        refine PyProof.Rows.len_str (by rw [e1]; omega) ?_
        rw [e1]
        exact hQ W s.heap _ _ (Wd.le.refl W) S (.int _ _)
      · split at hm
        · rename_i vs hv
          obtain rfl := x1 hm
          rw [len_eq] at hQ hlt
          obtain ⟨a1, w1, k1, rfl, g1, r1, l1⟩ := S.getL hv r1
          have hL : s.heap.IsList a1 w1.toArray := ⟨_, g1, rfl, k1, rfl⟩
          have len := r1.length
          refine Calls.call_len_list hL (by rw [List.size_toArray, len]; omega) ?_
          rw [List.size_toArray, len]
          exact hQ W s.heap _ _ (Wd.le.refl W) S (.int _ _)
        · exact xN hm
      · exact xN hm
    · exact xN e
  · exact xN e
theorem bi_min (c : CxOk g x n) (S : St g x W l H σ s.heap) {as : List AV} {us : List Value} {v : AV} (e : builtin C 1 as H = some (v, H')) (rs : VRs g W as us) {Q : Value → Shared → Prop}
    (hQ : PV g x W l H' σ v Q s) : wpAny (model g.prog g.w) x.A (call (.builtin "min") us) Q E s := by
  obtain ⟨a, b, rfl, rfl, rfl⟩ := two_inv (f := fun a b => match ile a b with | true => a | false => b) e
  clear e
  obtain ⟨u1, u2, rfl, r1, r2⟩ := rs.n2
  obtain ⟨t1, rfl⟩ := r1.isI
  obtain ⟨t2, rfl⟩ := r2.isI
  clear rs r1 r2
  refine min_two_ints c.hand fun h' tk hk => ?_
  by_cases hc : b < a
  · rw [if_pos hc]
    have : ile a b = false := by rw [ile_eq]; exact decide_eq_false (by omega)
    rw [this] at hQ
    exact hQ W h' tk _ (Wd.le.refl W) (S.ext hk) (.int _ _)
  · rw [if_neg hc]
    have : ile a b = true := by rw [ile_eq]; exact decide_eq_true (by omega)
    rw [this] at hQ
    exact hQ W h' tk _ (Wd.le.refl W) (S.ext hk) (.int _ _)
theorem bi_max (c : CxOk g x n) (S : St g x W l H σ s.heap) {as : List AV} {us : List Value} {v : AV} (e : builtin C 2 as H = some (v, H')) (rs : VRs g W as us) {Q : Value → Shared → Prop}
    (hQ : PV g x W l H' σ v Q s) : wpAny (model g.prog g.w) x.A (call (.builtin "max") us) Q E s := by
  obtain ⟨a, b, rfl, rfl, rfl⟩ := two_inv (f := fun a b => match ile b a with | true => a | false => b) e
  clear e
  obtain ⟨u1, u2, rfl, r1, r2⟩ := rs.n2
  obtain ⟨t1, rfl⟩ := r1.isI
  obtain ⟨t2, rfl⟩ := r2.isI
  clear rs r1 r2
  refine max_two_ints c.hand fun h' tk hk => ?_
  by_cases hc : b > a
  · rw [if_pos hc]
    have : ile b a = false := by rw [ile_eq]; exact decide_eq_false (by omega)
    rw [this] at hQ
    exact hQ W h' tk _ (Wd.le.refl W) (S.ext hk) (.int _ _)
  · rw [if_neg hc]
    have : ile b a = true := by rw [ile_eq]; exact decide_eq_true (by omega)
    rw [this] at hQ
    exact hQ W h' tk _ (Wd.le.refl W) (S.ext hk) (.int _ _)
theorem bi_abs (c : CxOk g x n) (S : St g x W l H σ s.heap) {as : List AV} {us : List Value} {v : AV} (e : builtin C 3 as H = some (v, H')) (rs : VRs g W as us) {Q : Value → Shared → Prop}
    (hQ : PV g x W l H' σ v Q s) : wpAny (model g.prog g.w) x.A (call (.builtin "abs") us) Q E s := by
  rcases as with _ | ⟨a, as⟩
  · exact xN e
  cases a <;> first | exact xN e | skip
  rename_i a
  rcases as with _ | ⟨b, as⟩
  · obtain ⟨rfl, rfl⟩ := x2 e
    clear e
    obtain ⟨u1, rfl, r1⟩ := rs.n1
    obtain ⟨t1, rfl⟩ := r1.isI
    refine call_abs_int fun u tk => ?_
    have : (if a < 0 then -a else a) = Int.ofNat (Int.natAbs a) := by
      show _ = ((Int.natAbs a : Nat) : Int)
      split <;> omega
    rw [this]
    exact hQ W s.heap tk _ (Wd.le.refl W) S (.int _ _)
  · exact xN e
theorem bi_str (O : OkV C g) (c : CxOk g x n) (S : St g x W l H σ s.heap) {as : List AV} {us : List Value} {v : AV} (e : builtin C 4 as H = some (v, H')) (rs : VRs g W as us) {Q : Value → Shared → Prop}
    (hQ : PV g x W l H' σ v Q s) : wpAny (model g.prog g.w) x.A (call (.type "str") us) Q E s := by
  rcases as with _ | ⟨a, as⟩
  · exact xN e
  cases a <;> first | exact xN e | skip
  rename_i a
  rcases as with _ | ⟨b, as⟩
  · have e : (match fmtV C (.int a) with | some s => some (s, H) | none => none) = some (v, H') := e
    obtain ⟨u1, rfl, r1⟩ := rs.n1
    obtain ⟨t1, rfl⟩ := r1.isI
    cases hz : fmtV C (.int a) with
    | none => rw [hz] at e; exact xN e
    | some z =>
      rw [hz] at e
      obtain ⟨rfl, rfl⟩ := x2 e
      obtain ⟨h1, h2⟩ := fmt_int O (v := .int a) rfl hz
      exact P.str_of_int h1 (hQ W s.heap _ _ (Wd.le.refl W) S (h2 _ _))
  · exact xN e
theorem bi_tuple (c : CxOk g x n) (S : St g x W l H σ s.heap) {as : List AV} {us : List Value} {v : AV} (e : builtin C 7 as H = some (v, H')) (rs : VRs g W as us) {Q : Value → Shared → Prop}
    (hQ : PV g x W l H' σ v Q s) : wpAny (model g.prog g.w) x.A (call (.type "tuple") us) Q E s := by
  obtain ⟨a, rfl, e'⟩ := one_inv e
  clear e
  have e := e'
  clear e'
  obtain ⟨u, rfl, r1⟩ := rs.n1
  clear rs
  split at e
  · rename_i vs hv
    split at e
    · rename_i z hz
      obtain ⟨rfl, rfl⟩ := x2 e
      clear e
      obtain ⟨rfl, hd, hlen⟩ := mkTup_some hz
      rcases items_ok c S hv r1 with ⟨a, ws, rfl, hT, h2, rfl⟩ | ⟨a, ws, k, rfl, ha, h2, h3⟩
      · exact call_tuple_tup hT (hQ W s.heap s.toks _ (Wd.le.refl W) S r1)
      · have hL : s.heap.IsList a ws.toArray := ⟨_, ha, rfl, k, rfl⟩
        have len := h2.length
        refine call_tuple_list hL (fun h' hk => ?_) (by rw [List.size_toArray, sizeLine_eq]; omega)
        have S' := S.ext hk
        exact hQ _ _ _ _ (Wd.le_imm _) (S'.newT (s := { s with heap := h' })) (VR.newT h2 hd)
    · exact xN e
  · exact xN e
theorem isi_inv {as : List AV} {q : AV × Mine.H} (e : builtin C 8 as H = some q) : ∃ a, as = [a, .bi 11] ∧ (match a with | .bool _ => some (AV.bool true, H) | .tup _ => some (.bool false, H) | _ => none) = some q := by
  rcases as with _ | ⟨a, _ | ⟨b, as⟩⟩
  · exact xN e
  · exact xN e
  cases b <;> first | exact xN e | skip
  rename_i k
  match k, e with
  | 0, e => exact xN e
  | 1, e => exact xN e
  | 2, e => exact xN e
  | 3, e => exact xN e
  | 4, e => exact xN e
  | 5, e => exact xN e
  | 6, e => exact xN e
  | 7, e => exact xN e
  | 8, e => exact xN e
  | 9, e => exact xN e
  | 10, e => exact xN e
  | 11, e =>
    rcases as with _ | ⟨b, as⟩
    · exact ⟨a, rfl, e⟩
    · exact xN e
  | k + 12, e => exact xN e
theorem bi_isi (O : g.bv 11 = .type "bool") (c : CxOk g x n) (S : St g x W l H σ s.heap) {as : List AV} {us : List Value} {v : AV} (e : builtin C 8 as H = some (v, H')) (rs : VRs g W as us) {Q : Value → Shared → Prop}
    (hQ : PV g x W l H' σ v Q s) : wpAny (model g.prog g.w) x.A (call (.builtin "isinstance") us) Q E s := by
  obtain ⟨a, rfl, e'⟩ := isi_inv e
  clear e
  have e := e'
  clear e'
  obtain ⟨u1, u2, rfl, r1, r2⟩ := rs.n2
  obtain rfl := r2.isBi
  clear rs r2
  rw [O]
  cases a <;> first | exact xN e | skip
  · obtain ⟨rfl, rfl⟩ := x2 e
    obtain rfl := r1.isB
    exact IsiPair.bool_bool (hQ W s.heap _ _ (Wd.le.refl W) S (.bool _))
  · obtain ⟨rfl, rfl⟩ := x2 e
    obtain ⟨a, ws, rfl, h1, h2, h3⟩ := r1.isT
    obtain ⟨o, ho, hc, _⟩ := S.tups c _ _ h1
    exact IsiPair.tuple_bool ho hc (hQ W s.heap _ _ (Wd.le.refl W) S (.bool _))
theorem bi_all (c : CxOk g x n) (S : St g x W l H σ s.heap) {as : List AV} {us : List Value} {v : AV} (e : builtin C 9 as H = some (v, H')) (rs : VRs g W as us) {Q : Value → Shared → Prop}
    (hQ : PV g x W l H' σ v Q s) : wpAny (model g.prog g.w) x.A (call (.builtin "all") us) Q E s := by
  obtain ⟨i, vs, bs, rfl, hv, hb, rfl, rfl⟩ := bools_inv (f := fun bs => bs.all id) e
  obtain ⟨u, rfl, r1⟩ := rs.n1
  clear rs e
  obtain ⟨a1, w1, k1, rfl, g1, r1, l1⟩ := S.getL hv r1
  rw [bools_ok r1 hb] at g1
  exact all_ok c.hand g1 fun h' tk hk => hQ W h' tk _ (Wd.le.refl W) (S.ext hk) (.bool _)
theorem bi_any (c : CxOk g x n) (S : St g x W l H σ s.heap) {as : List AV} {us : List Value} {v : AV} (e : builtin C 10 as H = some (v, H')) (rs : VRs g W as us) {Q : Value → Shared → Prop}
    (hQ : PV g x W l H' σ v Q s) : wpAny (model g.prog g.w) x.A (call (.builtin "any") us) Q E s := by
  obtain ⟨i, vs, bs, rfl, hv, hb, rfl, rfl⟩ := bools_inv (f := fun bs => bs.any id) e
  obtain ⟨u, rfl, r1⟩ := rs.n1
  clear rs e
  obtain ⟨a1, w1, k1, rfl, g1, r1, l1⟩ := S.getL hv r1
  rw [bools_ok r1 hb] at g1
  exact any_ok c.hand g1 fun h' tk hk => hQ W h' tk _ (Wd.le.refl W) (S.ext hk) (.bool _)
theorem builtin_ok (O : OkG C g) (c : CxOk g x n) (S : St g x W l H σ s.heap) {k : Nat} {as : List AV} {us : List Value} {v : AV} (e : builtin C k as H = some (v, H')) (rs : VRs g W as us) {Q : Value → Shared → Prop}
    (hQ : PV g x W l H' σ v Q s) : wpAny (model g.prog g.w) x.A (call (g.bv k) us) Q E s := by
  have bv := O.bvs
  simp only [List.cons.injEq, and_true] at bv
  obtain ⟨b0, b1, b2, b3, b4, b7, b8, b9, b10, b11⟩ := bv
  match k, e with
  | 0, e => exact b0 ▸ bi_len c S e rs hQ
  | 1, e => exact b1 ▸ bi_min c S e rs hQ
  | 2, e => exact b2 ▸ bi_max c S e rs hQ
  | 3, e => exact b3 ▸ bi_abs c S e rs hQ
  | 4, e => exact b4 ▸ bi_str O.toOkV c S e rs hQ
  | 5, e => exact xN e
  | 6, e => exact xN e
  | 7, e => exact b7 ▸ bi_tuple c S e rs hQ
  | 8, e => exact b8 ▸ bi_isi b11 c S e rs hQ
  | 9, e => exact b9 ▸ bi_all c S e rs hQ
  | 10, e => exact b10 ▸ bi_any c S e rs hQ
  | k + 11, e => exact xN e
end
end Mine

set_option maxRecDepth 100000
namespace Mine
open PySem PySem.W PySem.Calls PySem.Spec PyProof.Rows

noncomputable def Cx.making (x : Cx) (c : Code) : Cx := { x with A := x.A.under c }
section
variable {M : Model} {A : Around} {E : Value → Shared → Prop} {s : Shared} {env : Env}
theorem notStar_each {e : Expr} {rest : List Expr} (h : notStar e = true) : starEach (e :: rest) env = (false, eval e env) :: starEach rest env := by
  cases e <;> first | rfl | cases h
theorem each_plain : ∀ {es : List Expr} {pos : Pos}, (∀ e ∈ es, notStar e = true) → (backTo pos (starEach es env)).any (·.1) = false
  | [], _, _ => rfl
  | e :: r, pos, h => by
    rw [notStar_each (h e List.mem_cons_self)]
    show (false || (backTo pos (starEach r env)).any (·.1)) = false
    rw [each_plain fun x hx => h x (List.mem_cons_of_mem _ hx)]; rfl
theorem evalArgs_of {f : Value} {es : List Expr} {pos : Pos} {Q : Args → Shared → Prop} (hs : ∀ e ∈ es, notStar e = true) (h : wpAny M A (spliced (backTo pos (starEach es env))) (fun vs s' => Q ⟨vs, []⟩ s') E s) : wpAny M A (evalArgs f true (backTo pos (starEach es env)) []) Q E s := by
  cases es with
  | nil =>
    show wpAny M A (evalArgs f true [] []) Q E s
    have h' : wpAny M A (spliced []) (fun vs s' => Q ⟨vs, []⟩ s') E s := h
    have : wpAny M A (evalArgs f true [] []) Q E s := by
      unfold evalArgs
      refine wpAny_bind (wpAny_mono h' (fun vs s' hq => ?_) fun _ _ x => x)
      exact wpAny_holding (wpAny_bind (wpAny_pure (wpAny_bind (wpAny_pure (wpAny_pure hq)))))
    exact this
  | cons e r =>
    have he := notStar_each (rest := r) (env := env) (hs e List.mem_cons_self)
    rw [he] at h ⊢
    exact evalArgs_plain h
/-- a call of a known thing with plain arguments -/
theorem call_args {P : Heap → Prop} {pos : Pos} {f : Value} {first : List Value} {es : List Expr} {Q : Value → Shared → Prop} (hs : ∀ e ∈ es, notStar e = true)
    (hk : ∀ h, P h → ∃ k, (k = Keeper.frame ∨ k = Keeper.machine ∨ k = Keeper.boundFrame) ∧ Looks M h (keeperOf f) k)
    (h : wpAny M A (spliced (backTo pos (starEach es env))) (fun vs s₁ => P s₁.heap ∧ wpAny M A (call f (first ++ vs)) Q E s₁) E s) : wpAny M A (callWith pos f first (backTo pos (starEach es env)) []) Q E s :=
  callWith_of (by rw [each_plain hs]; rfl) hk (evalArgs_of hs (wpAny_mono h (fun _ _ x => x) fun _ _ x => x))
theorem keeps_bi {f : Value} (hf : ∀ a, f ≠ .ref a) (h : Heap) (_ : True) : ∃ k, (k = Keeper.frame ∨ k = Keeper.machine ∨ k = Keeper.boundFrame) ∧ Looks M h (keeperOf f) k := by
  refine ⟨.machine, .inr (.inl rfl), ?_⟩
  cases f <;> first | exact absurd rfl (hf _) | exact Looks.now
theorem base_plain {o : Expr} {name : Str} {w : Sem Value} (h : notSup o = true) : attributeBase o name env w = w := by
  unfold attributeBase
  split
  · first | exact xN h | exact xS h | (obtain rfl := x1 h; clear h) | (obtain ⟨rfl, rfl⟩ := x2 h; clear h) | (obtain ⟨rfl, rfl, rfl⟩ := x3 h; clear h) | (exfalso; cases h; done) | cases h
  · rfl
theorem mcall {o : Expr} {name : Str} {apos pos : Pos} {args : List Expr} {Q : Value → Shared → Prop} (hb : notSup o = true) (hline : (apos.endLine == pos.line) = true) (hlen : args.length < 30) (hs : ∀ e ∈ args, notStar e = true)
    (h : wpAny M A (eval o env) (fun ov s₁ => ∀ pl, wpAny M A (getMethod ov name pl) (fun fx s₂ => wpAny M A (callWith pos fx.1 fx.2 (backTo pos (starEach args env)) []) Q E s₂) E s₁) E s) :
    wpAny M A (eval (.Call (.Attribute o name apos) args [] pos) env) Q E s := by
  rw [arm_eval_Call, base_plain hb]
  refine wpAny_bind (wpAny_mono h (fun ov s₁ h₁ => wpAny_bind (wpAny_standAt ?_)) fun _ _ x => x)
  have hform : methodCallForm (args.length + ([] : List Keyword).length) (backTo pos (starEach args env)) (backToKw pos (keywordEach [] env)) = true := by
    unfold methodCallForm
    have e1 : (backTo pos (starEach args env)).all (fun x => !x.1) = true := by
      have := each_plain (env := env) (pos := pos) hs
      rw [List.all_eq_true]
      rw [List.any_eq_false] at this
      intro y hy
      have := this y hy
      simpa using this
    rw [e1]
    show (true && true && decide (args.length + 0 + 0 < 30)) = true
    rw [decide_eq_true (by omega)]; rfl
  have hpos : methodCallPos true o env apos pos = pure pos := by unfold methodCallPos; simp [hline]
  unfold methodCall
  rw [hform]
  refine wpAny_bind (wpAny_holding (wpAny_mono (h₁ _) (fun fx s₂ h₂ => ?_) fun _ _ x => x))
  exact wpAny_bind (wpAny_of_eq hpos h₂)
theorem fcall {f : Expr} {args : List Expr} {pos : Pos} {Q : Value → Shared → Prop} (hf : ∀ o n p, f ≠ .Attribute o n p)
    (h : wpAny M A (eval f env) (fun fv s₁ => wpAny M A (callWith pos fv [] (backTo pos (starEach args env)) []) Q E s₁) E s) : wpAny M A (eval (.Call f args [] pos) env) Q E s := by
  refine Call_ h ?_
  cases f <;> first | rfl | exact absurd rfl (hf _ _ _)
end

section
variable {g : G} {C : Cfg} {x : Cx} {n : Nat} {W : Wd} {l : L} {H H' : Mine.H} {σ : Sg} {s : Shared} {E : Value → Shared → Prop} {r : R} {sc : Scope}
theorem evs_star : ∀ {es : List Expr} {H : Mine.H} {q}, evs r sc es l H = some q → ∀ e ∈ es, notStar e = true
  | [], _, _, _ => fun _ h => nomatch h
  | e :: t, H, q, h => by
    unfold evs at h
    split at h
    · rename_i hs
      split at h
      · split at h
        · rename_i h2
          intro y hy
          rcases List.mem_cons.mp hy with rfl | hy
          · exact hs
          · exact evs_star h2 y hy
        · first | exact xN h | exact xS h | (obtain rfl := x1 h; clear h) | (obtain ⟨rfl, rfl⟩ := x2 h; clear h) | (obtain ⟨rfl, rfl, rfl⟩ := x3 h; clear h) | (exfalso; cases h; done) | cases h
      · first | exact xN h | exact xS h | (obtain rfl := x1 h; clear h) | (obtain ⟨rfl, rfl⟩ := x2 h; clear h) | (obtain ⟨rfl, rfl, rfl⟩ := x3 h; clear h) | (exfalso; cases h; done) | cases h
    · first | exact xN h | exact xS h | (obtain rfl := x1 h; clear h) | (obtain ⟨rfl, rfl⟩ := x2 h; clear h) | (obtain ⟨rfl, rfl, rfl⟩ := x3 h; clear h) | (exfalso; cases h; done) | cases h
theorem cl_call (IH : Sound g n r) (c : CxOk g x n) {k : Nat} {as : List AV} {us : List Value} {v : AV} (S : St g x W l H σ s.heap) (e : r.cl k as H = some (v, H')) (rs : VRs g W as us) {Q : Value → Shared → Prop} (hQ : PV g x W l H' σ v Q s) :
    wpAny (model g.prog g.w) x.A (call (.ref (g.fa k)) us) Q E s :=
  wpAny_call (IH.cl x k as H v H' c e W l σ s _ us S rs hQ)
theorem CxOk.making (h : CxOk g x (n + 1)) {C : Addr} {us : List Value} : CxOk g (x.making (.builtin "type.__call__" ⟨.ref C :: us, []⟩)) n :=
  { B := h.B, hA := h.hA, hf := h.hf, hk := h.hk, X := h.X, T := h.T, hand := h.hand, ek := h.ek, eg := h.eg, eb := h.eb, sm := h.sm, ci := h.ci, cf := h.cf,
    dp := by have := h.dp; show x.A.depth + 1 + n < _; omega
    un := by
      have := h.un
      have e : (x.A.under (.builtin "type.__call__" ⟨.ref C :: us, []⟩)).units ≤ x.A.units + 16 := by
        show x.A.units + Code.cUnits (.builtin "type.__call__" ⟨.ref C :: us, []⟩) ≤ _
        have : Code.cUnits (.builtin "type.__call__" ⟨.ref C :: us, []⟩) ≤ 16 := Nat.le_of_ble_eq_true rfl
        omega
      show (x.A.under _).units + 16 * n + 200 < _
      omega }
theorem St.making (S : St g x W l H σ s.heap) (c : Code) : St g (x.making c) W l H σ s.heap := ⟨S.F, S.md, S.led, S.fn, S.ap, S.nx, S.xo, S.oo, S.ce, S.lr⟩
theorem St.of_making {c : Code} {h : Heap} (S : St g (x.making c) W l H σ h) : St g x W l H σ h := ⟨S.F, S.md, S.led, S.fn, S.ap, S.nx, S.xo, S.oo, S.ce, S.lr⟩
theorem make_ok (O : OkG C g) (IH : Sound g n r) (c : CxOk g x (n + 1)) {k cc : Nat} {as : List AV} {us : List Value} (S : St g x W l H σ s.heap) (hi : C.ini cc = some k) (e : r.cl k (.loc H.nx :: as) (H.new (.inst cc [])).2 = some (.none, H')) (rs : VRs g W as us)
    {Q : Value → Shared → Prop} (hQ : PV g x W l H' σ (.loc H.nx) Q s) : wpAny (model g.prog g.w) x.A (call (.ref (g.ca cc)) us) Q E s := by
  obtain ⟨m1, m2, m3⟩ := O.mak _ _ hi
  have X := S.KIn c
  obtain ⟨hh, gg, d, t, os⟩ := s
  refine wpAny_call (make_core (makes_of X m1) (looks_findIn X m2) (fun self => bind_fn X self m3) (.inl rfl) ?_)
  have k0 : ∀ b o, hh.get? b = some o → ((hh.push emptyDict).push (instObj (g.ca cc) hh.objs.size)).get? b = some o := fun b o e => Heap.get?_push_of_some _ (Heap.get?_push_of_some _ e)
  have hz : (hh.push emptyDict).objs.size = hh.objs.size + 1 := Heap.size_push _ _
  have S1 := S.grow (h' := (hh.push emptyDict).push (instObj (g.ca cc) hh.objs.size)) k0 [(2 * H.nx, hh.objs.size + 1, instObj (g.ca cc) hh.objs.size), (2 * H.nx + 1, hh.objs.size, emptyDict)] (ao := .inst cc [])
    (fun p hp => by
      rcases List.mem_cons.mp hp with rfl | hp
      · exact ⟨Nat.le_succ _, by simp only; rw [← hz]; exact Heap.get?_push_size _ rfl, Nat.le_refl _, by simp only; omega⟩
      · rw [List.mem_singleton] at hp; subst hp
        exact ⟨Nat.le_refl _, Heap.get?_push_of_some _ (Heap.get?_push_size _ rfl), Nat.le_succ _, by simp only; omega⟩)
    (fun p hp q hq => by
      simp only [List.mem_cons, List.not_mem_nil, or_false] at hp hq
      rcases hp with rfl | rfl <;> rcases hq with rfl | rfl <;> simp)
    (fun led' hl' => ⟨hh.objs.size + 1, hh.objs.size, emptyDict, List.mem_cons_self, List.mem_cons_of_mem _ List.mem_cons_self, hl' _ List.mem_cons_self, hl' _ (List.mem_cons_of_mem _ List.mem_cons_self),
      ⟨rfl, [], 0, rfl, Nat.le_refl _, (fun _ h => nomatch h), fun x _ => rfl⟩, Nat.zero_le _⟩)
  refine IH.cl _ k _ _ _ _ c.making e _ l σ ⟨_, gg, d, t, os⟩ _ (.ref (hh.objs.size + 1) :: us) (S1.making (s := ⟨_, gg, d, t, os⟩) _) (.cons (.loc List.mem_cons_self) (rs.mono (Wd.le_obj _))) ?_
  intro W' h' tk u hle S' ru
  obtain rfl := ru.isN
  exact ⟨rfl, hQ W' h' tk _ ((Wd.le_obj _).trans hle) S'.of_making (.loc (hle.2 _ List.mem_cons_self))⟩
theorem bv_ref (O : OkG C g) {kb : Nat} {as : List AV} {q : AV × Mine.H} (e : builtin C kb as H = some q) (a : Addr) : g.bv kb ≠ .ref a := by
  have bv := O.bvs
  simp only [List.cons.injEq, and_true] at bv
  obtain ⟨b0, b1, b2, b3, b4, b7, b8, b9, b10, b11⟩ := bv
  match kb, e with
  | 0, e => rw [b0]; exact Value.noConfusion
  | 1, e => rw [b1]; exact Value.noConfusion
  | 2, e => rw [b2]; exact Value.noConfusion
  | 3, e => rw [b3]; exact Value.noConfusion
  | 4, e => rw [b4]; exact Value.noConfusion
  | 5, e => exact xN e
  | 6, e => exact xN e
  | 7, e => rw [b7]; exact Value.noConfusion
  | 8, e => rw [b8]; exact Value.noConfusion
  | 9, e => rw [b9]; exact Value.noConfusion
  | 10, e => rw [b10]; exact Value.noConfusion
  | k + 11, e => exact xN e
theorem callV_ok (O : OkG C g) (IH : Sound g n r) (c : CxOk g x (n + 1)) (k : ScOk sc x.env) {fv v : AV} {uf : Value} {es : List Expr} {as : List AV} {H1 H2 : Mine.H} {pos : Pos} (e1 : evs r sc es l H1 = some (as, H2)) (e2 : callV C r fv as H2 = some (v, H')) (S : St g x W l H1 σ s.heap) (rf : VR g W fv uf)
    {Q : Value → Shared → Prop} (hQ : PV g x W l H' σ v Q s) : wpAny (model g.prog g.w) x.A (callWith pos uf [] (backTo pos (starEach es x.env)) []) Q E s := by
  have c' := c.le (Nat.le_succ n)
  have hs := evs_star e1
  cases fv with
  | fn kf =>
    obtain rfl := rf.isF
    obtain ⟨f, hf, e2'⟩ := optF (o := nth C.fns kf) e2
    · refine call_args (P := fun h => g.K.In h) hs (keeps_K (O.kfn _ _ hf)) (evs_ok IH c' k e1 S fun W1 h1 tk1 us le1 S1 rs => ⟨S1.KIn c, ?_⟩)
      exact cl_call IH c' S1 e2' rs fun W2 h2 tk2 u le2 S2 ru => hQ W2 h2 tk2 u (le1.trans le2) S2 ru
  | bi kb =>
    obtain rfl := rf.isBi
    have hb : ∀ a, g.bv kb ≠ .ref a := by
      exact bv_ref O e2
    exact call_args (P := fun _ => True) hs (keeps_bi hb) (evs_ok IH c' k e1 S fun W1 h1 tk1 us le1 S1 rs => ⟨trivial, builtin_ok O c S1 e2 rs fun W2 h2 tk2 u le2 S2 ru => hQ W2 h2 tk2 u (le1.trans le2) S2 ru⟩)
  | cls cc =>
    obtain rfl := rf.isC
    have e2' : (match C.ini cc with
      | some k => (match r.cl k (.loc H2.nx :: as) (H2.new (.inst cc [])).2 with
        | some (.none, h2) => some (AV.loc H2.nx, h2)
        | _ => none)
      | none => none) = some (v, H') := e2
    split at e2'
    · rename_i ki hki
      split at e2'
      · rename_i h2 hcl
        first | exact xN e2' | exact xS e2' | (obtain rfl := x1 e2'; clear e2') | (obtain ⟨rfl, rfl⟩ := x2 e2'; clear e2') | (obtain ⟨rfl, rfl, rfl⟩ := x3 e2'; clear e2') | (exfalso; cases e2'; done) | cases e2'
        refine call_args (P := fun h => g.K.In h) hs (keeps_K (O.kcl _)) (evs_ok IH c' k e1 S fun W1 h1 tk1 us le1 S1 rs => ⟨S1.KIn c, ?_⟩)
        exact make_ok O IH c S1 hki hcl rs fun W2 h2 tk2 u le2 S2 ru => hQ W2 h2 tk2 u (le1.trans le2) S2 ru
      · first | exact xN e2' | exact xS e2' | (obtain rfl := x1 e2'; clear e2') | (obtain ⟨rfl, rfl⟩ := x2 e2'; clear e2') | (obtain ⟨rfl, rfl, rfl⟩ := x3 e2'; clear e2') | (exfalso; cases e2'; done) | cases e2'
    · first | exact xN e2' | exact xS e2' | (obtain rfl := x1 e2'; clear e2') | (obtain ⟨rfl, rfl⟩ := x2 e2'; clear e2') | (obtain ⟨rfl, rfl, rfl⟩ := x3 e2'; clear e2') | (exfalso; cases e2'; done) | cases e2'
  | _ => cases e2
end
end Mine

set_option maxRecDepth 100000
namespace Mine
open PySem PySem.W PySem.Calls PySem.Spec PyProof.Rows

theorem Str.app_nil (x : Str) : x ++ Str.empty = x := by
  show (⟨x.cps ++ #[]⟩ : Str) = x
  simp
theorem Str.nil_app (x : Str) : Str.empty ++ x = x := by
  show (⟨#[] ++ x.cps⟩ : Str) = x
  simp
theorem Str.app_assoc (x y z : Str) : x ++ y ++ z = x ++ (y ++ z) := by
  show (⟨x.cps ++ y.cps ++ z.cps⟩ : Str) = ⟨x.cps ++ (y.cps ++ z.cps)⟩
  rw [Array.append_assoc]
noncomputable def catT : List Str → Str
  | [] => Str.empty
  | t :: r => t ++ catT r
theorem catT_foldl : ∀ (ts : List Str) (a : Str), ts.foldl (· ++ ·) a = a ++ catT ts
  | [], a => (Str.app_nil a).symm
  | t :: r, a => by rw [List.foldl_cons, catT_foldl r, Str.app_assoc]; rfl

section
variable {g : G} {C : Cfg} {x : Cx} {n : Nat} {W : Wd} {l : L} {H H' : Mine.H} {σ : Sg} {s : Shared} {E : Value → Shared → Prop} {r : R} {sc : Scope}

/-- parts of an f-string and the texts they stand for -/
inductive PS (g : G) : List AV → List Str → Prop
  | nil : PS g [] []
  | cons {p : AV} {t : Str} {ps : List AV} {ts : List Str} : (∀ W, VR g W p (.str t 0)) → t.length ≤ 100000 → PS g ps ts → PS g (p :: ps) (t :: ts)
theorem PS.len {ps : List AV} {ts : List Str} (h : PS g ps ts) : (catT ts).length ≤ 100000 * ps.length := by
  induction h with
  | nil => simp [catT, Str.empty, Str.length]
  | cons _ a _ ih =>
    show (_ ++ catT _ : Str).length ≤ _
    rw [strLen_append, List.length_cons]; omega
theorem flat_ok {ps : List AV} {ts : List Str} (h : PS g ps ts) : ∀ {cs : List Nat}, flat ps = some cs → catT ts = ⟨cs.toArray⟩ := by
  induction h with
  | nil => intro v e; cases e; rfl
  | @cons p t ps ts a b c ih =>
    intro v e
    obtain ⟨a1, rfl, e⟩ := str_inv e
    obtain ⟨cs, h, e⟩ := optNs e
    obtain rfl := x1 e
    obtain ⟨t', q, _⟩ := (a ⟨[], []⟩).isS
    first | exact xN q | exact xS q | (obtain rfl := x1 q; clear q) | (obtain ⟨rfl, rfl⟩ := x2 q; clear q) | (obtain ⟨rfl, rfl, rfl⟩ := x3 q; clear q) | (exfalso; cases q; done) | cases q
    show _ ++ catT ts = _
    rw [ih h]
    show (⟨a1.toArray ++ cs.toArray⟩ : Str) = _
    simp
theorem cat_ok {ps : List AV} {ts : List Str} (h : PS g ps ts) {v : AV} (e : catS ps = some v) (hl : (catT ts).length ≤ 1000000) (t : Tok) : VR g W v (.str (catT ts) t) := by
  unfold catS at e
  cases hf : flat ps with
  | none =>
    rw [hf] at e
    obtain rfl := x1 e
    exact .strU _ _ (by omega)
  | some cs =>
    rw [hf] at e
    obtain ⟨rfl, hb⟩ := mkS_some e
    rw [flat_ok h hf]
    exact .str _ _ hb
theorem fmt_len {w : AV} {t : Str} (O : OkV C g) (h : VR g W w (.str t 0)) (hw : (∃ cs, w = .str cs) ∨ ∃ k, w = .ssym k) : t.length ≤ 100000 := by
  rcases hw with ⟨cs, rfl⟩ | ⟨k, rfl⟩
  · obtain ⟨t', q, hb⟩ := h.isS
    first | exact xN q | exact xS q | (obtain rfl := x1 q; clear q) | (obtain ⟨rfl, rfl⟩ := x2 q; clear q) | (obtain ⟨rfl, rfl, rfl⟩ := x3 q; clear q) | (exfalso; cases q; done) | cases q
    have := strB_len hb; simp only [Str.length, List.size_toArray]; omega
  · cases h; have := (O.sig k).2; omega
theorem fmtV_out (O : OkV C g) {v w : AV} (e : fmtV C v = some w) : (∃ cs, w = .str cs) ∨ ∃ k, w = .ssym k := by
  cases v <;> first | exact xN e | exact .inl ⟨_, x1 e⟩ | skip
  · rename_i i
    cases i with
    | negSucc m => exact xN e
    | ofNat m =>
      obtain ⟨_, e⟩ := bool_inv (b := Nat.blt m 1000000) e
      exact .inl ⟨_, (mkS_some e).1⟩
  · obtain ⟨_, j, _, h, _⟩ := O.fmt _ _ e
    exact .inr ⟨j, h⟩
theorem fmtV_ok (O : OkV C g) {v w : AV} {u : Value} (e : fmtV C v = some w) (rv : VR g W v u) {Q : Value → Shared → Prop} {A : Around} (hQ : ∀ t k tk, (∀ W, VR g W w (.str t 0)) → t.length ≤ 100000 → Q (.str t k) { s with toks := tk }) :
    wpAny (model g.prog g.w) A (formatField u Str.empty) Q E s := by
  have h : (∃ i, iv g v = some i) ∨ ∃ cs, v = .str cs := by
    cases v <;> first | exact .inl ⟨_, rfl⟩ | exact .inr ⟨_, rfl⟩ | exact xN e
  rcases h with ⟨i, hi⟩ | ⟨cs, rfl⟩
  · obtain ⟨h1, h2⟩ := fmt_int O hi e
    obtain ⟨t, rfl⟩ := rv.iv hi
    exact wpAny_formatField_int h1 (hQ _ _ _ (fun W => h2 W 0) (fmt_len O (h2 W 0) (fmtV_out O e)))
  · obtain rfl := x1 e
    obtain ⟨t, rfl, hb⟩ := rv.isS
    have hr : ∀ W, VR g W (.str cs) (.str ⟨cs.toArray⟩ 0) := fun W => .str cs 0 hb
    have hl := fmt_len O (hr W) (.inl ⟨_, rfl⟩)
    exact wpAny_formatField_str (hQ _ _ _ hr hl) (hQ _ _ _ hr hl) (by rw [sizeLine_eq]; omega)
inductive FpC (C : Cfg) (r : R) (sc : Scope) (l : L) (H : Mine.H) : Expr → AV → Mine.H → Prop
  | str {y : Str} {k : Nat} {p : Pos} : strB y.cps.toList = true → FpC C r sc l H (.Constant (.str y) k p) (.str y.cps.toList) H
  | fv {e : Expr} {v w : AV} {H1 : Mine.H} {p : Pos} : r.ev sc e l H = some (v, H1) → fmtV C v = some w → FpC C r sc l H (.FormattedValue e (-1) none p) w H1
theorem partE_inv {e : Expr} {p : AV} (h : partE C r sc e l H = some (p, H')) : FpC C r sc l H e p H' := by
  cases e <;> first | exact xN h | skip
  · rename_i conv spec _
    cases spec with
    | some _ => exact xN h
    | none =>
      obtain ⟨hc, h⟩ := bool_inv h
      rw [ibeq_eq, beq_iff_eq] at hc
      subst hc
      obtain ⟨v, H1, h1, h⟩ := optVH h
      obtain ⟨w, hw, h⟩ := optV h
      exact y2 h (.fv h1 hw)
  · rename_i c _ _
    cases c <;> first | exact xN h | skip
    obtain ⟨hb, h⟩ := bool_inv h
    exact y2 h (.str hb)
theorem partE_ok (O : OkV C g) (IH : Sound g n r) (c : CxOk g x n) (k : ScOk sc x.env) {e : Expr} {p : AV} (h : partE C r sc e l H = some (p, H')) (S : St g x W l H σ s.heap) {Q : Value → Shared → Prop}
    (hQ : ∀ W' h' tk t k, W.le W' → St g x W' l H' σ h' → (∀ W, VR g W p (.str t 0)) → t.length ≤ 100000 → Q (.str t k) { s with heap := h', toks := tk }) : wpAny (model g.prog g.w) x.A (eval e x.env) Q E s := by
  cases partE_inv h with
  | @str y _ _ hb =>
    refine wpAny_Constant_str ?_
    have e1 : (⟨y.cps.toList.toArray⟩ : Str) = y := by simp
    have hr : ∀ W, VR g W (.str y.cps.toList) (.str y 0) := fun W => by
      have : VR g W (.str y.cps.toList) (.str ⟨y.cps.toList.toArray⟩ 0) := .str _ _ hb
      rwa [e1] at this
    exact hQ W s.heap _ y _ (Wd.le.refl W) S hr (fmt_len O (hr W) (.inl ⟨_, rfl⟩))
  | fv h1 hw =>
    refine wpAny_FormattedValue_plain (IH.ev x sc _ l H _ _ c k h1 W σ s _ E S fun W1 h1 tk1 u le1 S1 r1 => ?_)
    exact fmtV_ok O hw r1 fun t k tk a b => hQ W1 h1 tk t k le1 S1 a b
theorem fstrs_joins (O : OkV C g) (IH : Sound g n r) (c : CxOk g x n) (k : ScOk sc x.env) : ∀ {es : List Expr} {H : Mine.H} {ps : List AV} {H' : Mine.H} {W : Wd} {s : Shared} {acc : Str} {Q : Str → Shared → Prop}, fstrs C r sc es l H = some (ps, H') → St g x W l H σ s.heap →
    acc.length + 100000 * ps.length ≤ 1000000 → (∀ W' h' tk ts, W.le W' → St g x W' l H' σ h' → PS g ps ts → Q (acc ++ catT ts) { s with heap := h', toks := tk }) → Joins (model g.prog g.w) x.A E (evalEach es x.env) acc Q s
  | [], H, ps, H', W, s, acc, Q, h, S, hl, hQ => by
    first | exact xN h | exact xS h | (obtain rfl := x1 h; clear h) | (obtain ⟨rfl, rfl⟩ := x2 h; clear h) | (obtain ⟨rfl, rfl, rfl⟩ := x3 h; clear h) | (exfalso; cases h; done) | cases h
    have := hQ W s.heap s.toks [] (Wd.le.refl W) S .nil
    show Q acc s
    rw [show acc ++ catT [] = acc from Str.app_nil acc] at this
    exact this
  | e :: t, H, ps, H', W, s, acc, Q, h, S, hl, hQ => by
    obtain ⟨v, H1, h1, h⟩ := optVH (o := partE C r sc e l H) h
    obtain ⟨vs, H2, h2, h⟩ := optVsH (o := fstrs C r sc t l H1) h
    obtain ⟨rfl, rfl⟩ := x2 h
    rw [List.length_cons] at hl
    show wpAny _ _ (eval e x.env) _ _ _
    refine partE_ok O IH c k h1 S fun W1 h1 tk1 y kk le1 S1 a b => ⟨y, kk, rfl, ?_, ?_⟩
    · rw [strLen_append, sizeLine_eq]; omega
    · refine fstrs_joins O IH c k h2 S1 (by rw [strLen_append]; omega) fun W2 h2 tk2 ts le2 S2 p => ?_
      have := hQ W2 h2 tk2 (y :: ts) (le1.trans le2) S2 (.cons a b p)
      rw [Str.app_assoc]; exact this
theorem fstr_ok (O : OkV C g) (IH : Sound g n r) (c : CxOk g x n) (k : ScOk sc x.env) {es : List Expr} {ps : List AV} {v : AV} {pos : Pos} (h : fstrs C r sc es l H = some (ps, H')) (h8 : short 8 ps = true)
    (hv : catS ps = some v) : EvOk g x (.JoinedStr es pos) l H v H' := by
  intro W σ s Q E S hQ
  have h8 := short_len h8
  have fin : ∀ W' ts t, PS g ps ts → VR g W' v (.str (catT ts) t) := fun W' ts t p => by
    have hlen := p.len
    exact cat_ok p hv (by omega) t
  by_cases h1 : ∃ e, es = [e]
  · obtain ⟨e, rfl⟩ := h1
    obtain ⟨p, H1, h1, h⟩ := optVH (o := partE C r sc e l H) h
    obtain ⟨rfl, rfl⟩ := x2 h
    refine wpAny_JoinedStr_one (partE_ok O IH c k h1 S fun W1 h1 tk1 y kk le1 S1 a b => hQ W1 h1 tk1 _ le1 S1 ?_)
    have := fin W1 [y] kk (.cons a b .nil)
    rw [show catT [y] = y from Str.app_nil y] at this
    exact this
  · have hj := fstrs_joins (acc := Str.empty) (E := E) (Q := fun out s₁ => out.length ≤ sizeLine ∧ Q (.str out s₁.toks) { s₁ with toks := s₁.toks + 1 }) O IH c k h S (by show 0 + 100000 * ps.length ≤ 1000000; omega) fun W' h' tk ts le S' p => by
      rw [Str.nil_app]
      refine ⟨by have := p.len; rw [sizeLine_eq]; omega, hQ W' h' (tk + 1) _ le S' (fin W' ts tk p)⟩
    rw [arm_eval_JoinedStr]
    have : joinedStr (evalEach es x.env) = joinParts Str.empty (evalEach es x.env) := by
      cases es with
      | nil => rfl
      | cons e t =>
        cases t with
        | nil => exact absurd ⟨e, rfl⟩ h1
        | cons e' t => rfl
    rw [this]
    exact wpAny_joinPartsRec _ _ _ _ hj
end
end Mine

set_option maxRecDepth 100000
namespace Mine
open PySem PySem.W PySem.Calls PySem.Spec PyProof.Rows

section
variable {g : G} {C : Cfg} {x : Cx} {n : Nat} {W : Wd} {l : L} {H H' : Mine.H} {σ : Sg} {s : Shared} {E : Value → Shared → Prop} {r : R} {sc : Scope}
noncomputable def repl (d : Addr) (o' : Obj) (l : Led) : Led := l.map fun p => if p.1 = d then (d, o') else p
theorem repl_same {d : Addr} {o' : Obj} {l : Led} (h : ∀ p ∈ l, p.1 ≠ d) : repl d o' l = l := by
  unfold repl
  conv => rhs; rw [← List.map_id l]
  refine List.map_congr_left fun p hp => ?_
  rw [if_neg (h p hp)]; rfl
theorem repl_mem {d : Addr} {o' : Obj} {l : Led} {p : Addr × Obj} (h : p ∈ l) (hne : p.1 ≠ d) : p ∈ repl d o' l := List.mem_map.mpr ⟨p, h, if_neg hne⟩
theorem repl_self {d : Addr} {o o' : Obj} {l : Led} (h : (d, o) ∈ l) : (d, o') ∈ repl d o' l := List.mem_map.mpr ⟨(d, o), h, if_pos rfl⟩
theorem repl_addr {d : Addr} {o' : Obj} {l : Led} {p : Addr × Obj} (h : p ∈ repl d o' l) : ∃ q ∈ l, q.1 = p.1 := by
  obtain ⟨q, hq, rfl⟩ := List.mem_map.mp h
  refine ⟨q, hq, ?_⟩
  split
  · rename_i e; exact e
  · rfl
/-- one of the frame's own things changed -/
theorem St.own (S : St g x W l H σ s.heap) {d : Addr} {o o' : Obj} {h' : Heap} (hd : (d, o) ∈ σ.own) (hs : Heap.SameBut d s.heap h') (ho' : h'.get? d = some o') :
    d ≠ x.L ∧ x.h₀.get? d = none ∧ ∃ led, News x.h₀ x.L h' (led ++ repl d o' σ.own ++ x.out ++ W.X) ∧ LedOk g W H led := by
  obtain ⟨led, N, hl⟩ := S.led
  have hm := N (d, o) (by simp [hd])
  refine ⟨hm.2.1, hm.2.2, repl d o' led, ?_, ?_⟩
  · have := N.replace hs ho'
    have e1 : repl d o' x.out = x.out := repl_same fun p hp => (S.oo _ hd p hp).symm
    have e2 : repl d o' W.X = W.X := repl_same fun p hp => S.xo p hp _ (List.mem_append_left _ hd)
    rw [List.map_append, List.map_append, List.map_append] at this
    show News _ _ _ (repl d o' led ++ repl d o' σ.own ++ x.out ++ W.X)
    rw [← e1, ← e2]
    conv at this => skip
    have e3 : repl d o' (repl d o' x.out) = repl d o' x.out := by rw [e1, e1]
    rw [e1, e2]
    have h1 : x.out.map (fun p => if p.1 = d then (d, o') else p) = x.out := e1
    have h2 : W.X.map (fun p => if p.1 = d then (d, o') else p) = W.X := e2
    rw [h1, h2] at this
    exact this
  · have ne : ∀ q ∈ W.mp, q.2 ≠ d := fun q hq => (S.ap q hq (d, o) (by simp [hd])).symm
    refine ⟨fun j ao e => (hl.1 j ao e).mono (Wd.le.refl W) fun p hp hj => repl_mem hp ?_, fun q hq => ?_⟩
    · rcases hj with hj | hj
      · exact ne _ hj
      · exact ne _ hj
    · obtain ⟨oq, hoq⟩ := hl.2 q hq
      exact ⟨oq, repl_mem hoq (ne q hq)⟩
theorem okName_ok {y : Str} (h : okName y = true) : okN y := by
  unfold okName at h
  simp only [Bool.and_eq_true, Bool.not_eq_true'] at h
  obtain ⟨⟨a, b⟩, c⟩ := h
  have a : 0 < nm y := Nat.le_of_ble_eq_true a
  refine ⟨by omega, ?_, ?_⟩
  · rw [beq_eq_false_iff_ne]; rintro rfl; exact Nat.ne_of_beq_eq_false b rfl
  · rw [beq_eq_false_iff_ne]; rintro rfl; exact Nat.ne_of_beq_eq_false c rfl
theorem isLocal_ok {y : Str} (h : isLocal sc y = true) : okN y ∧ (sc.names.lookup y = some .local ∨ sc.names.lookup y = some .cell) := by
  unfold isLocal at h
  split at h
  · rename_i q; exact ⟨okName_ok h, .inl q⟩
  · rename_i q; exact ⟨okName_ok h, .inr q⟩
  · first | exact xN h | exact xS h | (obtain rfl := x1 h; clear h) | (obtain ⟨rfl, rfl⟩ := x2 h; clear h) | (obtain ⟨rfl, rfl, rfl⟩ := x3 h; clear h) | (exfalso; cases h; done) | cases h
theorem store_ok (c : CxOk g x n) (S : St g x W l H σ s.heap) (k : ScOk sc x.env) {y : Str} {v : AV} {u : Value} (hy : isLocal sc y = true) (hcl : x.fm = none ∨ ∀ z, sc.names.lookup z ≠ some .cell) (rv : VR g W v u) {Q : Unit → Shared → Prop}
    (hQ : ∀ σ' h' tk, St g x W (put (nm y) v l) H σ' h' → Q () { s with heap := h', toks := tk }) : wpAny (model g.prog g.w) x.A (storeName x.env y u) Q E s := by
  obtain ⟨hok, hkd⟩ := isLocal_ok hy
  have hy0 := hok.1
  have l0 : look 0 (put (nm y) v l) = none := by rw [look_put, if_neg (Ne.symm hy0)]; exact S.lr.1
  rcases hkd with hkd | hkd
  · have hkind : x.env.kindOf y = some .local := by
      rcases k _ _ hkd with h | ⟨h, _⟩
      · exact h
      · first | exact xN h | exact xS h | (obtain rfl := x1 h; clear h) | (obtain ⟨rfl, rfl⟩ := x2 h; clear h) | (obtain ⟨rfl, rfl, rfl⟩ := x3 h; clear h) | (exfalso; cases h; done) | cases h
    refine wpAny_storeName_local hkind S.ns (fun h' hn hs => ?_) (by rw [c.ek]; rfl)
    rcases S.md with ⟨e1, e2⟩ | ⟨⟨m0, e1⟩, hns, oC, hC⟩
    · obtain ⟨led, N, hl⟩ := S.led
      refine hQ ⟨fun z => if z = y then some u else σ.m z, σ.own⟩ h' _ ⟨?_, .inl ⟨e1, e2⟩, ⟨led, N.set (by rw [← e2]; exact hs), hl⟩, S.fn, S.ap, S.nx, S.xo, S.oo, S.ce, l0, ?_⟩
      · have := S.F
        rw [e1] at this ⊢
        exact this.set (by rw [← e2]; exact hn) (by rw [← e2]; exact hs)
      · intro z w hz e
        rw [look_put] at e
        split at e
        · rename_i q
          first | exact xN e | exact xS e | (obtain rfl := x1 e; clear e) | (obtain ⟨rfl, rfl⟩ := x2 e; clear e) | (obtain ⟨rfl, rfl, rfl⟩ := x3 e; clear e) | (exfalso; cases e; done) | cases e
          have : z = y := nm_inj hz q
          subst this
          exact ⟨hok, fun _ => ⟨u, if_pos rfl, rv⟩, fun h => by rw [hkind] at h; simp at h⟩
        · rename_i q
          obtain ⟨a, b, d⟩ := S.lr.2 z w hz e
          have hne : z ≠ y := fun h => q (by rw [h])
          exact ⟨a, fun h => by obtain ⟨u', p1, p2⟩ := b h; exact ⟨u', by show (if z = y then some u else σ.m z) = _; rw [if_neg hne]; exact p1, p2⟩, d⟩
    · obtain ⟨o', ho'⟩ : ∃ o', h'.get? x.env.locals = some o' := by obtain ⟨o', _, _, h, _⟩ := hn; exact ⟨o', h⟩
      obtain ⟨dL, d0, led, N', hl'⟩ := S.own hC hs ho'
      have hat := S.at (p := (x.env.locals, oC)) (by simp [hC])
      refine hQ ⟨fun z => if z = y then some u else σ.m z, repl x.env.locals o' σ.own⟩ h' _ ⟨?_, .inr ⟨⟨m0, e1⟩, hn, o', repl_self hC⟩, ⟨led, N', hl'⟩, S.fn, ?_, S.nx, ?_, ?_, ?_, l0, ?_⟩
      · have := S.F.change hs dL d0
        rw [e1] at this ⊢
        exact this
      · intro q hq p hp
        simp only [List.mem_append] at hp
        rcases hp with (hp | hp) | hp
        · obtain ⟨p', hp', e⟩ := repl_addr hp; rw [← e]; exact S.ap q hq p' (by simp [hp'])
        · exact S.ap q hq p (by simp [hp])
        · exact S.ap q hq p (by simp [hp])
      · intro p hp q hq
        rcases List.mem_append.mp hq with hq | hq
        · obtain ⟨q', hq', e⟩ := repl_addr hq; rw [← e]; exact S.xo p hp q' (List.mem_append_left _ hq')
        · exact S.xo p hp q (List.mem_append_right _ hq)
      · intro p hp q hq
        obtain ⟨p', hp', e⟩ := repl_addr hp; rw [← e]; exact S.oo p' hp' q hq
      · intro e; rw [e1] at e; cases e
      · intro z w hz e
        rw [look_put] at e
        split at e
        · rename_i q
          first | exact xN e | exact xS e | (obtain rfl := x1 e; clear e) | (obtain ⟨rfl, rfl⟩ := x2 e; clear e) | (obtain ⟨rfl, rfl, rfl⟩ := x3 e; clear e) | (exfalso; cases e; done) | cases e
          have : z = y := nm_inj hz q
          subst this
          exact ⟨hok, fun _ => ⟨u, if_pos rfl, rv⟩, fun h => by rw [hkind] at h; simp at h⟩
        · rename_i q
          obtain ⟨a, b, d⟩ := S.lr.2 z w hz e
          have hne : z ≠ y := fun h => q (by rw [h])
          refine ⟨a, fun h => by obtain ⟨u', p1, p2⟩ := b h; exact ⟨u', by show (if z = y then some u else σ.m z) = _; rw [if_neg hne]; exact p1, p2⟩, fun h => ?_⟩
          obtain ⟨cc, oc, u', p1, p2, p3, p4⟩ := d h
          refine ⟨cc, oc, u', p1, ?_, p3, p4⟩
          rcases List.mem_append.mp p2 with p2 | p2
          · refine List.mem_append_left _ (repl_mem p2 fun q => ?_)
            have h1 := S.at (p := (cc, oc)) (by simp [p2])
            simp only at q h1
            obtain ⟨oN, es, ep, h2, h3, _⟩ := hns
            rw [q, h2] at h1
            first | exact xN h1 | exact xS h1 | (obtain rfl := x1 h1; clear h1) | (obtain ⟨rfl, rfl⟩ := x2 h1; clear h1) | (obtain ⟨rfl, rfl, rfl⟩ := x3 h1; clear h1) | (exfalso; cases h1; done) | cases h1
            rw [h3] at p3; cases p3
          · exact List.mem_append_right _ p2
  · have hfm : x.fm = none := hcl.resolve_right fun h => h y hkd
    have hkind : x.env.kindOf y = some .cell := by
      rcases k _ _ hkd with h | ⟨h, _⟩
      · exact h
      · first | exact xN h | exact xS h | (obtain rfl := x1 h; clear h) | (obtain ⟨rfl, rfl⟩ := x2 h; clear h) | (obtain ⟨rfl, rfl, rfl⟩ := x3 h; clear h) | (exfalso; cases h; done) | cases h
    obtain ⟨cc, oc, v₀, hc, hm, hdat⟩ := S.ce hfm y hkind
    have hat := S.at (p := (cc, oc)) (by simp [hm])
    refine wpAny_storeName_cell c.ek hkind hc ⟨oc, hat, hdat⟩ fun h' hcell hs => ?_
    obtain ⟨o', ho', hd'⟩ := hcell
    obtain ⟨dL, d0, led, N', hl'⟩ := S.own hm hs ho'
    have hmd : x.env.locals = x.L := by
      rcases S.md with ⟨_, e2⟩ | ⟨⟨m0, e1⟩, _⟩
      · exact e2
      · rw [hfm] at e1; cases e1
    have F' := S.F.change hs dL d0
    refine hQ ⟨σ.m, repl cc o' σ.own⟩ h' _ ⟨F', .inl ⟨hfm, hmd⟩, ⟨led, N', hl'⟩, S.fn, ?_, S.nx, ?_, ?_, ?_, l0, ?_⟩
    · intro q hq p hp
      simp only [List.mem_append] at hp
      rcases hp with (hp | hp) | hp
      · obtain ⟨p', hp', e⟩ := repl_addr hp; rw [← e]; exact S.ap q hq p' (by simp [hp'])
      · exact S.ap q hq p (by simp [hp])
      · exact S.ap q hq p (by simp [hp])
    · intro p hp q hq
      rcases List.mem_append.mp hq with hq | hq
      · obtain ⟨q', hq', e⟩ := repl_addr hq; rw [← e]; exact S.xo p hp q' (List.mem_append_left _ hq')
      · exact S.xo p hp q (List.mem_append_right _ hq)
    · intro p hp q hq
      obtain ⟨p', hp', e⟩ := repl_addr hp; rw [← e]; exact S.oo p' hp' q hq
    · intro e z hz
      obtain ⟨c2, o2, v2, h1, h2, h3⟩ := S.ce e z hz
      by_cases q : c2 = cc
      · subst q
        exact ⟨c2, o', _, h1, repl_self hm, hd'⟩
      · exact ⟨c2, o2, v2, h1, repl_mem h2 q, h3⟩
    · intro z w hz e
      rw [look_put] at e
      split at e
      · rename_i q
        first | exact xN e | exact xS e | (obtain rfl := x1 e; clear e) | (obtain ⟨rfl, rfl⟩ := x2 e; clear e) | (obtain ⟨rfl, rfl, rfl⟩ := x3 e; clear e) | (exfalso; cases e; done) | cases e
        have : z = y := nm_inj hz q
        subst this
        exact ⟨hok, (fun h => by rw [hkind] at h; simp at h), fun _ => ⟨cc, o', u, hc, List.mem_append_left _ (repl_self hm), hd', rv⟩⟩
      · rename_i q
        obtain ⟨a, b, d⟩ := S.lr.2 z w hz e
        have hne : z ≠ y := fun h => q (by rw [h])
        refine ⟨a, b, fun h => ?_⟩
        obtain ⟨c2, o2, u', p1, p2, p3, p4⟩ := d h
        refine ⟨c2, o2, u', p1, ?_, p3, p4⟩
        rcases List.mem_append.mp p2 with p2 | p2
        · refine List.mem_append_left _ (repl_mem p2 fun q => ?_)
          simp only at q
          subst q
          exact hne (c.ci _ _ _ p1 hc)
        · exact List.mem_append_right _ p2
end
end Mine

set_option maxRecDepth 100000
namespace Mine
open PySem PySem.W PySem.Calls PySem.Spec PyProof.Rows

noncomputable def Cx.plus (x : Cx) (own : Led) : Cx := { x with out := own ++ x.out }
section
variable {g : G} {C : Cfg} {x : Cx} {n : Nat} {W : Wd} {l l' : L} {H H' : Mine.H} {σ : Sg} {s : Shared} {E : Value → Shared → Prop} {r : R} {sc : Scope}
theorem St.lcongr {h : Heap} (S : St g x W l H σ h) (e : ∀ k, look k l' = look k l) : St g x W l' H σ h :=
  { S with lr := ⟨(e 0).trans S.lr.1, fun z v hz q => S.lr.2 z v hz ((e _).symm.trans q)⟩ }
noncomputable abbrev PU (g : G) (x : Cx) (W : Wd) (l : L) (H : Mine.H) (Q : Unit → Shared → Prop) (s : Shared) : Prop := ∀ σ' h' tk, St g x W l H σ' h' → Q () { s with heap := h', toks := tk }
theorem assign_name (c : CxOk g x n) (S : St g x W l H σ s.heap) (k : ScOk sc x.env) {y : Str} {p : Pos} {v : AV} {u : Value} (hy : isLocal sc y = true) (hcl : x.fm = none ∨ ∀ z, sc.names.lookup z ≠ some .cell) (rv : VR g W v u) {Q : Unit → Shared → Prop}
    (hQ : PU g x W (put (nm y) v l) H Q s) : wpAny (model g.prog g.w) x.A (assign (.Name y p) x.env u) Q E s := wpAny_assign_Name (store_ok c S k hy hcl rv hQ)
inductive BindC (sc : Scope) (l : L) : AV → Expr → L → Prop
  | one {x : Str} {p : Pos} {v : AV} : isLocal sc x = true → BindC sc l v (.Name x p) (put (nm x) v l)
  | two {x y : Str} {p q tp : Pos} {a b : AV} {k : Nat} : isLocal sc x = true ∧ isLocal sc y = true → BindC sc l (.tup [a, b]) (.Tuple [.Name x p, .Name y q] k tp) (put (nm y) b (put (nm x) a l))
  | three {x y z : Str} {p q r tp : Pos} {a b c : AV} {k : Nat} : (isLocal sc x = true ∧ isLocal sc y = true) ∧ isLocal sc z = true → BindC sc l (.tup [a, b, c]) (.Tuple [.Name x p, .Name y q, .Name z r] k tp) (put (nm z) c (put (nm y) b (put (nm x) a l)))
theorem tup2_inv {α : Type} {v : AV} {f : AV → AV → Option α} {q : α} (e : (match v with | .tup [a, b] => f a b | _ => none) = some q) : ∃ a b, v = .tup [a, b] ∧ f a b = some q := by
  cases v <;> first | exact xN e | skip
  rename_i vs
  rcases vs with _ | ⟨a, _ | ⟨b, _ | ⟨c, vs⟩⟩⟩
  · exact xN e
  · exact xN e
  · exact ⟨a, b, rfl, e⟩
  · exact xN e
theorem tup3_inv {α : Type} {v : AV} {f : AV → AV → AV → Option α} {q : α} (e : (match v with | .tup [a, b, c] => f a b c | _ => none) = some q) : ∃ a b c, v = .tup [a, b, c] ∧ f a b c = some q := by
  cases v <;> first | exact xN e | skip
  rename_i vs
  rcases vs with _ | ⟨a, _ | ⟨b, _ | ⟨c, _ | ⟨d, vs⟩⟩⟩⟩
  · exact xN e
  · exact xN e
  · exact xN e
  · exact ⟨a, b, c, rfl, e⟩
  · exact xN e
theorem nameOf_eq {t : Expr} {x : Str} (e : nameOf t = some x) : ∃ p, t = .Name x p := by
  cases t <;> first | exact xN e | exact ⟨_, congrArg (fun x => Expr.Name x _) (x1 e).symm⟩
inductive TgL : List Expr → Tg → Prop
  | two {x y : Str} {p q : Pos} : TgL [.Name x p, .Name y q] (.two x y)
  | three {x y z : Str} {p q r : Pos} : TgL [.Name x p, .Name y q, .Name z r] (.three x y z)
  | other {es : List Expr} : TgL es .other
theorem tgs2_ok {x y : Str} {p q : Pos} (es : List Expr) : TgL (.Name x p :: .Name y q :: es) (tgs2 x y es) := by
  cases es with
  | nil => exact .two
  | cons a es =>
    unfold tgs2
    dsimp only
    cases ha : nameOf a with
    | none => exact .other
    | some z =>
      obtain ⟨r, rfl⟩ := nameOf_eq ha
      cases es with
      | nil => exact .three
      | cons => exact .other
theorem tgs_ok (es : List Expr) : TgL es (tgs es) := by
  cases es with
  | nil => exact .other
  | cons a es =>
    unfold tgs
    dsimp only
    cases ha : nameOf a with
    | none => exact .other
    | some x =>
      obtain ⟨p, rfl⟩ := nameOf_eq ha
      cases es with
      | nil => exact .other
      | cons b es =>
        unfold tgs1
        dsimp only
        cases hb : nameOf b with
        | none => exact .other
        | some y =>
          obtain ⟨q, rfl⟩ := nameOf_eq hb
          exact tgs2_ok es
theorem bindT_inv {t : Expr} {v : AV} (e : bindT sc t v l = some l') : BindC sc l v t l' := by
  cases t with
  | Name x p =>
    obtain ⟨h, rfl⟩ := true_inv (b := isLocal sc x) e
    exact .one h
  | Tuple es k tp =>
    have h := tgs_ok es
    have e : bindG sc (tgs es) v l = some l' := e
    generalize tgs es = g at h e
    cases h with
    | two =>
      obtain ⟨a, b, rfl, e⟩ := tup2_inv e
      obtain ⟨h, rfl⟩ := true_inv e
      exact .two (Bool.and_eq_true _ _ ▸ h :)
    | three =>
      obtain ⟨a, b, c, rfl, e⟩ := tup3_inv e
      obtain ⟨h, rfl⟩ := true_inv e
      rw [Bool.and_eq_true, Bool.and_eq_true] at h
      exact .three h
    | other => exact xN e
  | _ => exact xN e
theorem bindT_ok (c : CxOk g x n) (S : St g x W l H σ s.heap) (k : ScOk sc x.env) {t : Expr} {v : AV} {u : Value} (e : bindT sc t v l = some l') (hcl : x.fm = none ∨ ∀ z, sc.names.lookup z ≠ some .cell) (rv : VR g W v u) {Q : Unit → Shared → Prop}
    (hQ : PU g x W l' H Q s) : wpAny (model g.prog g.w) x.A (assign t x.env u) Q E s := by
  cases bindT_inv e with
  | one hy => exact assign_name c S k hy hcl rv hQ
  | two hy =>
    obtain ⟨aa, ws, rfl, h1, h2, h3⟩ := rv.isT
    obtain ⟨u1, u2, rfl, r1, r2⟩ := h2.n2
    clear rv h2 h3 e
    rw [arm_assign_Tuple]
    refine wpAny_bind (wpAny_standAt (unpack_tuple c.hand (S.tups c _ _ h1) rfl rfl fun h' hk => ?_))
    have S' := S.ext (h' := h') fun b o e => hk b o (Nat.ne_of_lt (Heap.lt_size e)) e
    clear S h1
    show wpAny _ _ (do holding _ (assign _ _ _); assignInOrder _ _) _ _ _
    refine wpAny_bind (wpAny_holding (assign_name c (s := { s with heap := h' }) S' k hy.1 hcl r1 fun σ1 h1 tk1 S1 => ?_))
    show wpAny _ _ (do holding _ (assign _ _ _); assignInOrder _ _) _ _ _
    refine wpAny_bind (wpAny_holding (assign_name c (s := { s with heap := h1, toks := tk1 }) S1 k hy.2 hcl r2 fun σ2 h2 tk2 S2 => ?_))
    exact wpAny_pure (hQ σ2 h2 tk2 S2)
  | three hy =>
    obtain ⟨aa, ws, rfl, h1, h2, h3⟩ := rv.isT
    obtain ⟨u1, u2, u3, rfl, r1, r2, r3⟩ := h2.n3
    clear rv h2 h3 e
    rw [arm_assign_Tuple]
    refine wpAny_bind (wpAny_standAt (unpack_tuple c.hand (S.tups c _ _ h1) rfl rfl fun h' hk => ?_))
    have S' := S.ext (h' := h') fun b o e => hk b o (Nat.ne_of_lt (Heap.lt_size e)) e
    clear S h1
    show wpAny _ _ (do holding _ (assign _ _ _); assignInOrder _ _) _ _ _
    refine wpAny_bind (wpAny_holding (assign_name c (s := { s with heap := h' }) S' k hy.1.1 hcl r1 fun σ1 h1 tk1 S1 => ?_))
    show wpAny _ _ (do holding _ (assign _ _ _); assignInOrder _ _) _ _ _
    refine wpAny_bind (wpAny_holding (assign_name c (s := { s with heap := h1, toks := tk1 }) S1 k hy.1.2 hcl r2 fun σ2 h2 tk2 S2 => ?_))
    show wpAny _ _ (do holding _ (assign _ _ _); assignInOrder _ _) _ _ _
    refine wpAny_bind (wpAny_holding (assign_name c (s := { s with heap := h2, toks := tk2 }) S2 k hy.2 hcl r3 fun σ3 h3 tk3 S3 => ?_))
    exact wpAny_pure (hQ σ3 h3 tk3 S3)

/-! ## things that a loop goes over -/
theorem CxOk.plus (c : CxOk g x n) (own : Led) : CxOk g (x.plus own) n := { B := c.B, hA := c.hA, hf := c.hf, hk := c.hk, X := c.X, T := c.T, hand := c.hand, dp := c.dp, un := c.un, ek := c.ek, eg := c.eg, eb := c.eb, sm := c.sm, ci := c.ci, cf := c.cf }
theorem noCell_dummy : True := trivial
noncomputable def noCell (own : Led) : Prop := ∀ p ∈ own, ∀ u, p.2.data ≠ .cell (some u)
/-- laid aside: what the loop holds -/
theorem St.plus {h : Heap} (S : St g x W l H σ h) {own : Led} (ho : ∀ p ∈ own, h.get? p.1 = some p.2) (hf : ∀ p ∈ own, p.1 ≠ x.L ∧ x.h₀.get? p.1 = none) (h1 : ∀ p ∈ own, ∀ q ∈ W.mp, p.1 ≠ q.2) (h2 : ∀ p ∈ own, ∀ q ∈ σ.own ++ W.X, p.1 ≠ q.1) :
    St g (x.plus own) W l H σ h := by
  refine ⟨S.F, S.md, ?_, S.fn, ?_, S.nx, ?_, ?_, S.ce, ⟨S.lr.1, fun z v hz e => ?_⟩⟩
  · obtain ⟨led, N, hl⟩ := S.led
    refine ⟨led, fun p hp => ?_, hl⟩
    have hp' : p ∈ own ∨ p ∈ led ++ σ.own ++ x.out ++ W.X := by
      simp only [Cx.plus, List.mem_append] at hp ⊢
      rcases hp with ((a | b) | (c | d)) | e <;> simp_all
    rcases hp' with hp | hp
    · exact ⟨ho p hp, hf p hp⟩
    · exact N p hp
  · intro q hq p hp
    have hp' : p ∈ own ∨ p ∈ σ.own ++ x.out ++ W.X := by
      simp only [Cx.plus, List.mem_append] at hp ⊢
      rcases hp with (b | (c | d)) | e <;> simp_all
    rcases hp' with hp | hp
    · exact h1 p hp q hq
    · exact S.ap q hq p hp
  · intro p hp q hq
    have hq' : q ∈ own ∨ q ∈ σ.own ++ x.out := by
      simp only [Cx.plus, List.mem_append] at hq ⊢
      rcases hq with b | (c | d) <;> simp_all
    rcases hq' with hq | hq
    · exact (h2 q hq p (List.mem_append_right _ hp)).symm
    · exact S.xo p hp q hq
  · intro p hp q hq
    rcases List.mem_append.mp hq with hq | hq
    · exact (h2 q hq p (List.mem_append_left _ hp)).symm
    · exact S.oo p hp q hq
  · obtain ⟨a, b, d⟩ := S.lr.2 z v hz e
    refine ⟨a, b, fun hh => ?_⟩
    obtain ⟨cc, oc, u, p1, p2, p3, p4⟩ := d hh
    refine ⟨cc, oc, u, p1, ?_, p3, p4⟩
    simp only [Cx.plus, List.mem_append] at p2 ⊢
    rcases p2 with p2 | p2 <;> simp [p2]
theorem St.drop {h : Heap} {own : Led} (S : St g (x.plus own) W l H σ h) (hc : noCell own) : St g x W l H σ h := by
  refine ⟨S.F, S.md, ?_, S.fn, ?_, S.nx, ?_, ?_, S.ce, ⟨S.lr.1, fun z v hz e => ?_⟩⟩
  · obtain ⟨led, N, hl⟩ := S.led
    refine ⟨led, fun p hp => N p ?_, hl⟩
    simp only [Cx.plus, List.mem_append] at hp ⊢
    rcases hp with ((a | b) | c) | d <;> simp_all
  · intro q hq p hp
    refine S.ap q hq p ?_
    simp only [Cx.plus, List.mem_append] at hp ⊢
    rcases hp with (a | b) | c <;> simp_all
  · intro p hp q hq
    refine S.xo p hp q ?_
    simp only [Cx.plus, List.mem_append] at hq ⊢
    rcases hq with a | b <;> simp_all
  · intro p hp q hq
    exact S.oo p hp q (List.mem_append_right _ hq)
  · obtain ⟨a, b, d⟩ := S.lr.2 z v hz e
    refine ⟨a, b, fun hh => ?_⟩
    obtain ⟨cc, oc, u, p1, p2, p3, p4⟩ := d hh
    refine ⟨cc, oc, u, p1, ?_, p3, p4⟩
    simp only [Cx.plus, List.mem_append] at p2 ⊢
    rcases p2 with p2 | p2 | p2
    · exact .inl p2
    · exact absurd p3 (hc _ p2 u)
    · exact .inr p2
/-- what was laid aside is gone or changed: other things stand -/
theorem St.gone {h h' : Heap} {own : Led} (S : St g (x.plus own) W l H σ h) (hoo : ∀ p ∈ own, ∀ q ∈ x.out, p.1 ≠ q.1) (hc : noCell own) (hk : ∀ b o, b ∉ own.map (·.1) → h.get? b = some o → h'.get? b = some o) : St g x W l H σ h' := by
  obtain ⟨led, N, hl⟩ := S.led
  have Nown : ∀ p ∈ own, p.1 ≠ x.L ∧ x.h₀.get? p.1 = none := fun p hp => (N p (by simp [Cx.plus, hp])).2
  have S₀ := S.drop hc
  have offL : x.L ∉ own.map (·.1) := fun q => by obtain ⟨p, hp, e⟩ := List.mem_map.mp q; exact (Nown p hp).1 e
  have kp : ∀ b o, h.get? b = some o → b ∉ own.map (·.1) → h'.get? b = some o := fun b o e q => hk b o q e
  have offmp : ∀ q ∈ W.mp, q.2 ∉ own.map (·.1) := fun q hq z => by
    obtain ⟨p, hp, e⟩ := List.mem_map.mp z
    exact S.ap q hq p (by simp [Cx.plus, hp]) e
  have offown : ∀ p ∈ σ.own, p.1 ∉ own.map (·.1) := fun p hp z => by
    obtain ⟨q, hq, e⟩ := List.mem_map.mp z
    exact S.oo p hp q (List.mem_append_left _ hq) e.symm
  have offX : ∀ p ∈ W.X, p.1 ∉ own.map (·.1) := fun p hp z => by
    obtain ⟨q, hq, e⟩ := List.mem_map.mp z
    exact S.xo p hp q (by simp [Cx.plus, hq]) e.symm
  have offout : ∀ p ∈ x.out, p.1 ∉ own.map (·.1) := fun p hp z => by
    obtain ⟨q, hq, e⟩ := List.mem_map.mp z
    exact hoo q hq p hp e
  have off0 : ∀ b o, x.h₀.get? b = some o → b ∉ own.map (·.1) := fun b o e z => by
    obtain ⟨p, hp, q⟩ := List.mem_map.mp z
    have := (Nown p hp).2
    rw [q, e] at this; cases this
  have nsm : ∀ {a m}, h.Ns a m → a ∉ own.map (·.1) → h'.Ns a m := fun {a m} hn ha => by
    obtain ⟨o, es, ep, h1, h2⟩ := hn
    exact ⟨o, es, ep, kp a o h1 ha, h2⟩
  have S1 : St g x W l H σ h' := by
    refine ⟨⟨nsm S₀.F.ns offL, fun b o e => kp b o (S₀.F.keep b o e) (off0 b o e), S₀.F.above⟩, ?_, ?_, S₀.fn, S₀.ap, S₀.nx, S₀.xo, S₀.oo, S₀.ce, S₀.lr⟩
    · rcases S₀.md with e | ⟨e, hns, oC, hC⟩
      · exact .inl e
      · exact .inr ⟨e, nsm hns (offown _ hC), oC, hC⟩
    · classical
      refine ⟨led.filter (fun p => decide (∃ q ∈ W.mp, q.2 = p.1)), fun p hp => ?_, fun j ao e => (hl.1 j ao e).mono (Wd.le.refl W) fun p hp hj => ?_, fun q hq => ?_⟩
      · have hN : p ∈ led ++ σ.own ++ (x.plus own).out ++ W.X ∧ p.1 ∉ own.map (·.1) := by
          simp only [List.mem_append, List.mem_filter, decide_eq_true_eq] at hp
          rcases hp with ((⟨a, q, hq, e⟩ | b) | c) | d
          · exact ⟨by simp [a], e ▸ offmp q hq⟩
          · exact ⟨by simp [b], offown p b⟩
          · exact ⟨by simp [Cx.plus, c], offout p c⟩
          · exact ⟨by simp [d], offX p d⟩
        exact ⟨kp _ _ (N p hN.1).1 hN.2, (N p hN.1).2⟩
      · rw [List.mem_filter, decide_eq_true_eq]
        refine ⟨hp, ?_⟩
        rcases hj with hj | hj
        · exact ⟨_, hj, rfl⟩
        · exact ⟨_, hj, rfl⟩
      · obtain ⟨o, ho⟩ := hl.2 q hq
        exact ⟨o, List.mem_filter.mpr ⟨ho, decide_eq_true ⟨q, hq, rfl⟩⟩⟩
  exact S1
/-- a step forward of an iterator: other things stand -/
theorem St.move {h h' : Heap} {own own' : Led} (S : St g (x.plus own) W l H σ h) (hoo : ∀ p ∈ own, ∀ q ∈ x.out, p.1 ≠ q.1) (ha : own'.map (·.1) = own.map (·.1)) (hc : noCell own) (ho : ∀ p ∈ own', h'.get? p.1 = some p.2) (hk : ∀ b o, b ∉ own.map (·.1) → h.get? b = some o → h'.get? b = some o) : St g (x.plus own') W l H σ h' := by
  have S1 := S.gone hoo hc hk
  have addr : ∀ p ∈ own', ∃ q ∈ own, q.1 = p.1 := fun p hp => by
    have : p.1 ∈ own.map (·.1) := ha ▸ List.mem_map_of_mem hp
    obtain ⟨q, hq, e⟩ := List.mem_map.mp this
    exact ⟨q, hq, e⟩
  obtain ⟨led, N, hl⟩ := S.led
  have Nown : ∀ p ∈ own, p.1 ≠ x.L ∧ x.h₀.get? p.1 = none := fun p hp => (N p (by simp [Cx.plus, hp])).2
  refine S1.plus ho (fun p hp => ?_) (fun p hp q hq => ?_) fun p hp q hq => ?_
  · obtain ⟨p', hp', e⟩ := addr p hp
    rw [← e]; exact Nown p' hp'
  · obtain ⟨p', hp', e⟩ := addr p hp
    rw [← e]; exact S.ap q hq p' (by simp [Cx.plus, hp'])
  · obtain ⟨p', hp', e⟩ := addr p hp
    rw [← e]
    rcases List.mem_append.mp hq with hq | hq
    · exact (S.oo q hq p' (List.mem_append_left _ hp')).symm
    · exact (S.xo q hq p' (by simp [Cx.plus, hp'])).symm
end
end Mine

set_option maxRecDepth 100000
namespace Mine
open PySem PySem.W PySem.Calls PySem.Spec PyProof.Rows

/-- an iterator, step by step -/
structure IterOk (g : G) (x : Cx) (tg : Expr) (src : Src) (it : Value) (Pos : Nat → Wd → Led → Prop) : Prop where
  mono : ∀ {k W W' own}, W.le W' → Pos k W own → Pos k W' own
  nc : ∀ {k W own}, Pos k W own → noCell own
  next : ∀ {k : Nat} {W : Wd} {l : L} {H : Mine.H} {σ : Sg} {s : Shared} {E : Value → Shared → Prop} {own : Led} {v : AV} {Q : Value → Shared → Prop}, Pos k W own → St g (x.plus own) W l H σ s.heap → (∀ p ∈ own, ∀ q ∈ x.out, p.1 ≠ q.1) → src.item H k = some (some v) →
    (∀ W' h' tk u own', W.le W' → Pos (k + 1) W' own' → (∀ p ∈ own', ∀ q ∈ x.out, p.1 ≠ q.1) → St g (x.plus own') W' l H σ h' → VR g W' v u → Q u { s with heap := h', toks := tk }) →
    wpAny (model g.prog g.w) x.A (pyNext it) (fun r s₁ => ∃ u, r = some u ∧ wpAny (model g.prog g.w) x.A (letOwnedTupleGo tg it u) (fun _ s₂ => Q u s₂) E s₁) E s
  done : ∀ {k : Nat} {W : Wd} {l : L} {H : Mine.H} {σ : Sg} {s : Shared} {E : Value → Shared → Prop} {own : Led} {Q : Shared → Prop}, Pos k W own → St g (x.plus own) W l H σ s.heap → (∀ p ∈ own, ∀ q ∈ x.out, p.1 ≠ q.1) → src.item H k = some none →
    (∀ h' tk, St g x W l H σ h' → Q { s with heap := h', toks := tk }) → wpAny (model g.prog g.w) x.A (pyNext it) (fun r s₁ => r = none ∧ Q s₁) E s
  self : ∀ {W : Wd} {l : L} {H : Mine.H} {σ : Sg} {s : Shared} {E : Value → Shared → Prop} {own : Led} {Q : Value → Shared → Prop}, Pos 0 W own → St g (x.plus own) W l H σ s.heap → Q it s → wpAny (model g.prog g.w) x.A (pyIter it) Q E s

section
variable {g : G} {C : Cfg} {x : Cx} {n : Nat} {W : Wd} {l l' : L} {H H' : Mine.H} {σ : Sg} {s : Shared} {E : Value → Shared → Prop} {r : R} {sc : Scope}

inductive ForC (r : R) (sc : Scope) (tg : Expr) (src : Src) (body : List Stmt) (m kk : Nat) (l : L) (H : Mine.H) : Fl → L → Mine.H → Prop
  | stop : src.item H kk = some none → ForC r sc tg src body m kk l H .next l H
  | ret {v v1 : AV} {l1 l2 : L} {H1 : Mine.H} : src.item H kk = some (some v) → bindT sc tg v l = some l1 → r.ex sc body l1 H = some (.ret v1, l2, H1) → ForC r sc tg src body m kk l H (.ret v1) l2 H1
  | turn {v : AV} {f fl : Fl} {l1 l2 l' : L} {H1 H' : Mine.H} : src.item H kk = some (some v) → bindT sc tg v l = some l1 → r.ex sc body l1 H = some (f, l2, H1) → (∀ v, f ≠ .ret v) → forGo r sc tg src body m (kk + 1) l2 H1 = some (fl, l', H') → ForC r sc tg src body m kk l H fl l' H'
theorem forGo_inv {tg : Expr} {src : Src} {body : List Stmt} {m kk : Nat} {fl : Fl} (e : forGo r sc tg src body (m + 1) kk l H = some (fl, l', H')) : ForC r sc tg src body m kk l H fl l' H' := by
  unfold forGo at e
  rcases hv : src.item H kk with _ | _ | v
  · rw [hv] at e; exact xN e
  · rw [hv] at e; exact y3 e (.stop hv)
  · rw [hv] at e
    obtain ⟨l1, hb, e⟩ := optD (o := bindT sc tg v l) e
    rcases he : r.ex sc body l1 H with _ | ⟨f, l2, H1⟩
    · rw [he] at e; exact xN e
    · rw [he] at e
      cases f with
      | ret v1 => exact y3 e (.ret hv hb he)
      | next => exact .turn hv hb he (fun _ => Fl.noConfusion) e
      | cont => exact .turn hv hb he (fun _ => Fl.noConfusion) e
/-- between two turns of a loop -/
inductive ForI (g : G) (x : Cx) (W : Wd) (r : R) (sc : Scope) (tg : Expr) (src : Src) (body : List Stmt) (Pos : Nat → Wd → Led → Prop) (fl : Fl) (l' : L) (H' : Mine.H) (s : Shared) (m : Nat) : Shared → Prop
  | mk (kk : Nat) (l1 : L) (H1 : Mine.H) (W1 : Wd) (σ1 : Sg) (own : Led) (h1 : Heap) (tk1 : Nat) : W.le W1 → Pos kk W1 own → (∀ p ∈ own, ∀ q ∈ x.out, p.1 ≠ q.1) → St g (x.plus own) W1 l1 H1 σ1 h1 → forGo r sc tg src body m kk l1 H1 = some (fl, l', H') → ForI g x W r sc tg src body Pos fl l' H' s m { s with heap := h1, toks := tk1 }
theorem forGo_ok (IH : Sound g n r) (c : CxOk g x n) (hfm : x.fm = none) (k : ScOk sc x.env) {tg : Expr} {src : Src} {it : Value} {Pos : Nat → Wd → Led → Prop} (I : IterOk g x tg src it Pos) {body : List Stmt} {fl : Fl} {f kk : Nat}
    (e : forGo r sc tg src body f kk l H = some (fl, l', H')) {R : Result → Shared → Prop} {own : Led} (hp : Pos kk W own) (hoo : ∀ p ∈ own, ∀ q ∈ x.out, p.1 ≠ q.1) (S : St g (x.plus own) W l H σ s.heap)
    (hQ : PF g x W l' H' fl (fun f => R (.ok f)) s) : codeAny (model g.prog g.w) x.A (.forLoop tg it body [] x.env) R s := by
  refine codeAny_forLoop_any (ForI g x W r sc tg src body Pos fl l' H' s) ?_ f (.mk kk l H W σ own s.heap s.toks (Wd.le.refl W) hp hoo S e)
  clear e hp hoo S
  rintro m s' ⟨kk, l1, H1, W1, σ1, own, h1, tk1, le1, hp, hoo, S, e⟩
  cases m with
  | zero => exact xN e
  | succ m =>
    have e := forGo_inv e
    cases e with
    | stop hv =>
      refine wpAny_mono (I.done (Q := fun s₁ => R (.ok .next) s₁) hp S hoo hv fun h' tk S' => hQ W1 σ1 h' tk _ le1 S' .next) ?_ fun _ _ z => z
      rintro rr s₁ ⟨rfl, hh⟩
      exact wpAny_execs_nil hh
    | ret hv hb he =>
      refine wpAny_mono (I.next (Q := fun u s₂ => wpAny (model g.prog g.w) x.A (assign tg x.env u) _ _ s₂) hp S hoo hv fun W2 h2 tk2 u own2 le2 hp2 hoo2 S2 ru => ?_) (fun rr s₁ hh => by obtain ⟨u, rfl, hh⟩ := hh; exact hh) fun _ _ z => z
      refine bindT_ok (x := x.plus own2) (c.plus own2) S2 k hb (.inl hfm) ru fun σ3 h3 tk3 S3 => ?_
      refine IH.ex (x.plus own2) sc body _ H1 _ _ _ (c.plus own2) hfm k he W2 σ3 { s with heap := h3, toks := tk3 } _ _ S3 fun W4 σ4 h4 tk4 f4 le4 S4 rf => ?_
      obtain ⟨u, rfl, ru'⟩ := rf.isR
      exact hQ W4 σ4 h4 tk4 _ ((le1.trans le2).trans le4) (S4.drop (I.nc hp2)) (.ret ru')
    | turn hv hb he hne e =>
      refine wpAny_mono (I.next (Q := fun u s₂ => wpAny (model g.prog g.w) x.A (assign tg x.env u) _ _ s₂) hp S hoo hv fun W2 h2 tk2 u own2 le2 hp2 hoo2 S2 ru => ?_) (fun rr s₁ hh => by obtain ⟨u, rfl, hh⟩ := hh; exact hh) fun _ _ z => z
      refine bindT_ok (x := x.plus own2) (c.plus own2) S2 k hb (.inl hfm) ru fun σ3 h3 tk3 S3 => ?_
      refine IH.ex (x.plus own2) sc body _ H1 _ _ _ (c.plus own2) hfm k he W2 σ3 { s with heap := h3, toks := tk3 } _ _ S3 fun W4 σ4 h4 tk4 f4 le4 S4 rf => ?_
      have next : ∃ m', m' < m + 1 ∧ ForI g x W r sc tg src body Pos fl l' H' s m' { s with heap := h4, toks := tk4 } := ⟨m, Nat.lt_succ_self m, .mk _ _ _ W4 σ4 _ _ _ ((le1.trans le2).trans le4) (I.mono le4 hp2) hoo2 S4 e⟩
      rcases rf.go hne with rfl | rfl <;> exact next
end
end Mine

set_option maxRecDepth 100000
namespace Mine
open PySem PySem.W PySem.Calls PySem.Spec PyProof.Rows

noncomputable def Cx.comp (x : Cx) (σ : Sg) (cenv : Env) : Cx := { x with env := cenv, fm := some (x.fm.getD σ.m), out := σ.own ++ x.out }
section
variable {g : G} {C : Cfg} {x : Cx} {n : Nat} {W W₀ : Wd} {l l₀ l' : L} {H H₀ H' : Mine.H} {σ : Sg} {s : Shared} {E : Value → Shared → Prop} {r : R} {sc : Scope}
/-- the frame taken up again -/
theorem St.back {h₀ h : Heap} (S₀ : St g x W₀ l H₀ σ h₀) (le : W₀.le W) (F : Fr x.h₀ x.L h (x.fm.getD σ.m)) {led : Led} (N : News x.h₀ x.L h (led ++ σ.own ++ x.out ++ W.X)) (hl : LedOk g W H led)
    (fn : ∀ p ∈ W.mp, ∀ q ∈ W.mp, p.1 = q.1 ↔ p.2 = q.2) (ap : ∀ q ∈ W.mp, ∀ p ∈ σ.own ++ x.out ++ W.X, p.1 ≠ q.2) (nx : ∀ q ∈ W.mp, q.1 < 2 * H.nx) (xo : ∀ p ∈ W.X, ∀ q ∈ σ.own ++ x.out, p.1 ≠ q.1) : St g x W l H σ h := by
  refine ⟨F, ?_, ⟨led, N, hl⟩, fn, ap, nx, xo, S₀.oo, S₀.ce, S₀.lr.mono le⟩
  rcases S₀.md with e | ⟨e, hns, oC, hC⟩
  · exact .inl e
  · refine .inr ⟨e, ?_, oC, hC⟩
    have h1 := S₀.at (p := (x.env.locals, oC)) (by simp [hC])
    have h2 := (N (x.env.locals, oC) (by simp [hC])).1
    obtain ⟨o, es, ep, h3, h4⟩ := hns
    simp only at h1 h2
    rw [h3] at h1
    have e1 := Option.some.inj h1
    subst e1
    exact ⟨_, es, ep, h2, h4⟩
/-- only what has a number is asked of the ledger -/
theorem LedOk.cut {led : Led} (hl : LedOk g W H led) : ∃ led', LedOk g W H led' ∧ (∀ p ∈ led', p ∈ led ∧ ∃ q ∈ W.mp, q.2 = p.1) := by
  classical
  refine ⟨led.filter (fun p => decide (∃ q ∈ W.mp, q.2 = p.1)), ⟨fun j ao e => (hl.1 j ao e).mono (Wd.le.refl W) fun p hp hj => ?_, fun q hq => ?_⟩, fun p hp => ?_⟩
  · rw [List.mem_filter, decide_eq_true_eq]
    refine ⟨hp, ?_⟩
    rcases hj with hj | hj
    · exact ⟨_, hj, rfl⟩
    · exact ⟨_, hj, rfl⟩
  · obtain ⟨o, ho⟩ := hl.2 q hq
    exact ⟨o, List.mem_filter.mpr ⟨ho, decide_eq_true ⟨q, hq, rfl⟩⟩⟩
  · rw [List.mem_filter, decide_eq_true_eq] at hp
    exact hp

/-- the context of a comprehension -/
theorem closure_loop {env : Env} : ∀ (names : List (Str × NameKind)) (acc : List (Str × Addr)), (∀ p ∈ names, p.2 = .free → ∃ c, env.cells.lookup p.1 = some c) → (∀ p ∈ acc, env.cells.lookup p.1 = some p.2) →
    ∃ cl, (forIn names acc fun x r => (match x with | (name, kind) => if (kind == NameKind.free) = true then (do let a ← cellOf env name; pure (ForInStep.yield ((name, a) :: r))) else (do pure PUnit.unit; pure (ForInStep.yield r)) : Sem (ForInStep (List (Str × Addr))))) = (pure cl : Sem _) ∧
      (∀ p ∈ cl, env.cells.lookup p.1 = some p.2) ∧ (∀ p ∈ acc, p ∈ cl) ∧ ∀ p ∈ names, p.2 = .free → ∃ c, (p.1, c) ∈ cl
  | [], acc, _, ha => ⟨acc, rfl, ha, fun _ h => h, fun _ h => nomatch h⟩
  | (name, kind) :: r, acc, hn, ha => by
    have hr := fun p hp => hn p (List.mem_cons_of_mem _ hp)
    by_cases hk : kind = .free
    · subst hk
      obtain ⟨c, hc⟩ := hn (name, .free) List.mem_cons_self rfl
      obtain ⟨cl, e, h1, h2, h3⟩ := closure_loop r ((name, c) :: acc) hr (fun p hp => by
        rcases List.mem_cons.mp hp with rfl | hp
        · exact hc
        · exact ha p hp)
      refine ⟨cl, ?_, h1, fun p hp => h2 p (List.mem_cons_of_mem _ hp), fun p hp hf => ?_⟩
      · rw [List.forIn_cons]
        have : cellOf env name = pure c := by unfold cellOf; simp only at hc; rw [hc]
        simp only [beq_self_eq_true, if_true, this, pure_bind]
        exact e
      · rcases List.mem_cons.mp hp with rfl | hp
        · exact ⟨c, h2 _ List.mem_cons_self⟩
        · exact h3 p hp hf
    · obtain ⟨cl, e, h1, h2, h3⟩ := closure_loop r acc hr ha
      refine ⟨cl, ?_, h1, h2, fun p hp hf => ?_⟩
      · rw [List.forIn_cons]
        have : (kind == NameKind.free) = false := by simpa using hk
        simp only [this, Bool.false_eq_true, if_false, pure_bind]
        exact e
      · rcases List.mem_cons.mp hp with rfl | hp
        · exact absurd hf hk
        · exact h3 p hp hf
theorem lookup_of_mem' {α : Type} {y : Str} : ∀ {l : List (Str × α)} {c : α}, (y, c) ∈ l → ∃ c', l.lookup y = some c' ∧ (y, c') ∈ l
  | (z, d) :: r, c, h => by
    by_cases e : y = z
    · subst e; exact ⟨d, by simp, List.mem_cons_self⟩
    · rcases List.mem_cons.mp h with h | h
      · cases h; exact absurd rfl e
      · obtain ⟨c', h1, h2⟩ := lookup_of_mem' h
        have : (y == z) = false := by simpa using e
        exact ⟨c', by simp [List.lookup_cons, this, h1], List.mem_cons_of_mem _ h2⟩
theorem mem_of_lookup' {α : Type} {y : Str} : ∀ {l : List (Str × α)} {c : α}, l.lookup y = some c → (y, c) ∈ l
  | [], _, h => by simp at h
  | (z, d) :: r, c, h => by
    rw [List.lookup_cons] at h
    split at h
    · rename_i e
      have : y = z := by simpa using e
      subst this
      first | exact xN h | exact xS h | (obtain rfl := x1 h; clear h) | (obtain ⟨rfl, rfl⟩ := x2 h; clear h) | (obtain ⟨rfl, rfl, rfl⟩ := x3 h; clear h) | (exfalso; cases h; done) | cases h
      exact List.mem_cons_self
    · exact List.mem_cons_of_mem _ (mem_of_lookup' h)
theorem closureFor_ok {scope : Scope} {env : Env} (h : ∀ p ∈ scope.names, p.2 = .free → ∃ c, env.cells.lookup p.1 = some c) :
    ∃ cl, closureFor scope env = pure cl ∧ (∀ y c, cl.lookup y = some c → env.cells.lookup y = some c) ∧ ∀ p ∈ scope.names, p.2 = .free → ∃ c, cl.lookup p.1 = some c := by
  obtain ⟨cl, e, h1, _, h3⟩ := closure_loop scope.names [] h (fun _ h => nomatch h)
  refine ⟨cl, ?_, fun y c hc => h1 _ (mem_of_lookup' hc), fun p hp hf => ?_⟩
  · simp only [closureFor]
    have := e
    simp only [pure_bind] at this
    rw [this]; rfl
  · obtain ⟨c, hc⟩ := h3 p hp hf
    obtain ⟨c', h4, _⟩ := lookup_of_mem' hc
    exact ⟨c', h4⟩
end
end Mine

set_option maxRecDepth 100000
namespace Mine
open PySem PySem.W PySem.Calls PySem.Spec PyProof.Rows

section
variable {prog : Program} {w : World} {A : Around} {R : Result → Shared → Prop} {s : Shared}
theorem compLoop_any {elt target iter : Expr} {ifs : List Expr} {scope : Scope} {pos : Pos} {it acc : Value} {env : Env} (I : Nat → Shared → Prop)
    (turn : ∀ n s, I n s → wpAny (model prog w) A (pyNext it) (fun r s₁ => match r with
      | none => R (.ok .next) s₁
      | some v => wpAny (model prog w) A (letOwnedTupleGo target it v) (fun _ s₁' => wpAny (model prog w) A (assign target env v) (fun _ s₂ =>
          wpAny (model prog w) A (forIn ifs true fun c r => if r = true then do let ok ← isTrue c env (eval c env); pure (ForInStep.yield ok) else pure (ForInStep.yield r)) (fun ok s₃ =>
            if ok = true then wpAny (model prog w) A (eval elt env) (fun x s₄ =>
              wpAny (model prog w) A (call (.builtin "list.append") [acc, x]) (fun _ s₅ => ∃ m, m < n ∧ I m s₅) (notedBy (model prog w) A env fun e s' => R (.error e) s') s₄) (notedBy (model prog w) A env fun e s' => R (.error e) s') s₃
            else ∃ m, m < n ∧ I m s₃) (notedBy (model prog w) A env fun e s' => R (.error e) s') s₂) (notedBy (model prog w) A env fun e s' => R (.error e) s') s₁') (notedBy (model prog w) A env fun e s' => R (.error e) s') s₁) (notedBy (model prog w) A env fun e s' => R (.error e) s') s)
    (n : Nat) (h : I n s) : codeAny (model prog w) A (.compLoop (.ListComp elt [⟨target, iter, ifs, 0⟩] scope pos) 0 it acc env) R s := by
  refine codeAny_loop rfl I (fun n s hI => ?_) n h
  show wpAny _ A ((compTurn (.ListComp elt [⟨target, iter, ifs, 0⟩] scope pos) 0 it acc env).onRaise (fun x => do noteFrame x env; theTreesLotGoes x)) _ _ s
  refine wpAny_noted ?_
  rw [compTurn_list]
  refine wpAny_bind (wpAny_standAt (wpAny_bind (wpAny_mono (turn n s hI) (fun r s₁ h₁ => ?_) fun _ _ h' => h')))
  cases r with
  | none => exact wpAny_pure h₁
  | some v =>
    refine wpAny_bind (wpAny_mono h₁ (fun _ s₁' h₁' => ?_) fun _ _ h' => h')
    refine wpAny_bind (wpAny_mono h₁' (fun _ s₂ h₂ => wpAny_bind (wpAny_mono h₂ (fun ok s₃ h₃ => ?_) fun _ _ h' => h')) fun _ _ h' => h')
    cases ok with
    | false => exact wpAny_pure ⟨rfl, h₃⟩
    | true =>
      exact wpAny_bind (wpAny_bind (wpAny_mono h₃ (fun x s₄ h₄ => wpAny_bind (wpAny_mono h₄ (fun _ s₅ h₅ => wpAny_pure (wpAny_pure ⟨rfl, h₅⟩)) fun _ _ h' => h')) fun _ _ h' => h'))
end

section
variable {g : G} {C : Cfg} {x : Cx} {n : Nat} {W : Wd} {l l' : L} {H H' : Mine.H} {σ : Sg} {s : Shared} {E : Value → Shared → Prop} {r : R} {sc : Scope}
theorem testAll_ok (IH : Sound g n r) (c : CxOk g x n) (k : ScOk sc x.env) : ∀ {ifs : List Expr} {H : Mine.H} {b : Bool} {H' : Mine.H} {W : Wd} {s : Shared} {Q : Bool → Shared → Prop}, testAll r sc ifs l H = some (b, H') → St g x W l H σ s.heap → PB g x W l H' σ b Q s →
    wpAny (model g.prog g.w) x.A (forIn ifs true fun c r => if r = true then do let ok ← isTrue c x.env (eval c x.env); pure (ForInStep.yield ok) else pure (ForInStep.yield r)) Q E s
  | [], H, b, H', W, s, Q, e, S, hQ => by cases e; exact wpAny_pure (hQ W s.heap s.toks (Wd.le.refl W) S)
  | t :: ts, H, b, H', W, s, Q, e, S, hQ => by
    unfold testAll at e
    have rest : ∀ (ts : List Expr) (s : Shared) (Q : Bool → Shared → Prop), Q false s → wpAny (model g.prog g.w) x.A (forIn ts false fun c r => if r = true then do let ok ← isTrue c x.env (eval c x.env); pure (ForInStep.yield ok) else pure (ForInStep.yield r)) Q E s := by
      intro ts
      induction ts with
      | nil => intro s Q h; exact wpAny_pure h
      | cons t ts ih =>
        intro s Q h
        rw [List.forIn_cons]
        exact wpAny_bind (wpAny_pure (ih s Q h))
    rw [List.forIn_cons]
    split at e
    · rename_i H1 h1
      refine wpAny_bind (wpAny_bind (IH.tr x sc t l H true H1 c k h1 W σ s _ E S fun W1 h1 tk1 le1 S1 => wpAny_pure ?_))
      exact testAll_ok IH c k e S1 fun W2 h2 tk2 le2 S2 => hQ W2 h2 tk2 (le1.trans le2) S2
    · rename_i H1 h1
      first | exact xN e | exact xS e | (obtain rfl := x1 e; clear e) | (obtain ⟨rfl, rfl⟩ := x2 e; clear e) | (obtain ⟨rfl, rfl, rfl⟩ := x3 e; clear e) | (exfalso; cases e; done) | cases e
      refine wpAny_bind (wpAny_bind (IH.tr x sc t l H false _ c k h1 W σ s _ E S fun W1 h1 tk1 le1 S1 => wpAny_pure ?_))
      exact rest ts _ _ (hQ W1 h1 tk1 le1 S1)
    · first | exact xN e | exact xS e | (obtain rfl := x1 e; clear e) | (obtain ⟨rfl, rfl⟩ := x2 e; clear e) | (obtain ⟨rfl, rfl, rfl⟩ := x3 e; clear e) | (exfalso; cases e; done) | cases e
theorem plus_plus (a b : Led) : (x.plus b).plus a = x.plus (a ++ b) := by simp [Cx.plus, List.append_assoc]

theorem IterOk.turn {tg : Expr} {src : Src} {it : Value} {Pos : Nat → Wd → Led → Prop} (I : IterOk g x tg src it Pos) {kk : Nat} {own : Led} {v : AV} {P₀ : Shared → Prop} {K : Value → Shared → Prop} (hp : Pos kk W own) (S : St g (x.plus own) W l H σ s.heap) (hoo : ∀ p ∈ own, ∀ q ∈ x.out, p.1 ≠ q.1) (hv : src.item H kk = some (some v))
    (h : ∀ W' h' tk u own', W.le W' → Pos (kk + 1) W' own' → (∀ p ∈ own', ∀ q ∈ x.out, p.1 ≠ q.1) → St g (x.plus own') W' l H σ h' → VR g W' v u → K u { s with heap := h', toks := tk }) :
    wpAny (model g.prog g.w) x.A (pyNext it) (fun r s₁ => match r with | none => P₀ s₁ | some v => wpAny (model g.prog g.w) x.A (letOwnedTupleGo tg it v) (fun _ s₂ => K v s₂) E s₁) E s :=
  wpAny_mono (I.next hp S hoo hv h) (fun rr s₁ hh => by obtain ⟨u, rfl, hh⟩ := hh; exact hh) fun _ _ z => z
inductive CompC (r : R) (sc : Scope) (elt tg : Expr) (ifs : List Expr) (src : Src) (m kk : Nat) (l : L) (H : Mine.H) : List AV → Mine.H → Prop
  | stop : src.item H kk = some none → CompC r sc elt tg ifs src m kk l H [] H
  | skip (v : AV) (l1 : L) (H1 : Mine.H) (xs : List AV) (H' : Mine.H) : src.item H kk = some (some v) → bindT sc tg v l = some l1 → testAll r sc ifs l1 H = some (false, H1) → compGo r sc elt tg ifs src m (kk + 1) l1 H1 = some (xs, H') → CompC r sc elt tg ifs src m kk l H xs H'
  | turn (v : AV) (l1 : L) (H1 : Mine.H) (v4 : AV) (H4 : Mine.H) (xs : List AV) (H' : Mine.H) : src.item H kk = some (some v) → bindT sc tg v l = some l1 → testAll r sc ifs l1 H = some (true, H1) → r.ev sc elt l1 H1 = some (v4, H4) → compGo r sc elt tg ifs src m (kk + 1) l1 H4 = some (xs, H') → CompC r sc elt tg ifs src m kk l H (v4 :: xs) H'
theorem compGo_inv {elt tg : Expr} {ifs : List Expr} {src : Src} {m kk : Nat} {xs : List AV} (e : compGo r sc elt tg ifs src (m + 1) kk l H = some (xs, H')) : CompC r sc elt tg ifs src m kk l H xs H' := by
  unfold compGo at e
  split at e
  · rename_i v hv
    split at e
    · rename_i l2 hb
      split at e
      · rename_i H3 ht
        split at e
        · rename_i v4 H4 h4e
          split at e
          · rename_i xs5 H5 h5e
            exact y2 e (.turn v l2 H3 v4 H4 _ _ hv hb ht h4e h5e)
          · exact xN e
        · exact xN e
      · rename_i H3 ht
        exact .skip v l2 H3 _ _ hv hb ht e
      · exact xN e
    · exact xN e
  · rename_i hv
    exact y2 e (.stop hv)
  · exact xN e
/-- between two turns of a comprehension -/
inductive CompI (g : G) (x : Cx) (W : Wd) (r : R) (sc : Scope) (D : Addr) (elt tg : Expr) (ifs : List Expr) (src : Src) (Pos : Nat → Wd → Led → Prop) (xs : List AV) (H' : Mine.H) (s : Shared) (m : Nat) : Shared → Prop
  | mk (kk : Nat) (l1 : L) (H1 : Mine.H) (W1 : Wd) (σ1 : Sg) (own : Led) (h1 : Heap) (tk1 : Nat) (done rest : List AV) (ws : List Value) (j : Nat) : W.le W1 → Pos kk W1 own → (∀ p ∈ own, p.1 ≠ D ∧ ∀ q ∈ x.out, p.1 ≠ q.1) → St g (x.plus (own ++ [(D, lstObj ws j)])) W1 l1 H1 σ1 h1 →
    VRs g W1 done ws → done ++ rest = xs → done.length + m ≤ 4000 → compGo r sc elt tg ifs src m kk l1 H1 = some (rest, H') → CompI g x W r sc D elt tg ifs src Pos xs H' s m { s with heap := h1, toks := tk1 }
theorem comp_out {D : Addr} {own : Led} {o : Obj} (hoo : ∀ p ∈ own, p.1 ≠ D ∧ ∀ q ∈ x.out, p.1 ≠ q.1) : ∀ p ∈ own, ∀ q ∈ (x.plus [(D, o)]).out, p.1 ≠ q.1 := fun p hp q hq => by
  rcases List.mem_cons.mp hq with rfl | hq
  · exact (hoo p hp).1
  · exact (hoo p hp).2 q hq
theorem comp_push {own : Led} {D : Addr} {ws : List Value} {j : Nat} (S : St g (x.plus (own ++ [(D, lstObj ws j)])) W l H σ s.heap) {u : Value} (hoo : ∀ p ∈ own, p.1 ≠ D ∧ ∀ q ∈ x.out, p.1 ≠ q.1) (hD : ∀ q ∈ x.out, D ≠ q.1) (nc : noCell own) (hlen : ws.length < 1000000)
    {E : Value → Shared → Prop} {Q : Value → Shared → Prop} (hQ : ∀ h' tk j', St g (x.plus (own ++ [(D, lstObj (ws ++ [u]) j')])) W l H σ h' → Q .none { s with heap := h', toks := tk }) : wpAny (model g.prog g.w) x.A (call (.builtin "list.append") [.ref D, u]) Q E s := by
  have hDat := S.at (p := (D, lstObj ws j)) (by simp [Cx.plus])
  refine call_meets F.slot_list_append ⟨_, hDat, rfl⟩ F.entry_list_append (F.args_list_append_2 _ _) (list_append D ws.toArray j u (by rw [List.size_toArray, sizeLine_eq]; omega)) ⟨hDat, ?_⟩
  have e1 : ws.toArray.push u = (ws ++ [u]).toArray := by simp
  obtain ⟨j', hup⟩ : ∃ j', (s.heap.update D (Obj.mapSeq fun xs => xs.push u)).get? D = some (lstObj (ws ++ [u]) j') := ⟨_, by
    have hup := IsL.update (items := ws.toArray) hDat (fun xs => xs.push u)
    simp only at hup
    rw [e1] at hup
    exact hup⟩
  refine hQ _ _ j' (S.move ?_ ?_ ?_ ?_ ?_)
  · intro p hp q hq
    rcases List.mem_append.mp hp with hp | hp
    · exact (hoo p hp).2 q hq
    · rw [List.mem_singleton] at hp; subst hp; exact hD q hq
  · simp
  · intro p hp u
    rcases List.mem_append.mp hp with hp | hp
    · exact nc p hp u
    · rw [List.mem_singleton] at hp; subst hp; intro z; cases z
  · intro p hp
    rcases List.mem_append.mp hp with hp | hp
    · have := S.at (p := p) (by simp [Cx.plus, hp])
      exact (Heap.get?_update_ne _ _ _ _ (hoo p hp).1).trans this
    · rw [List.mem_singleton] at hp; subst hp; exact hup
  · intro b o hb hbo
    exact (Heap.get?_update_ne _ _ _ _ fun z => hb (by rw [z]; simp)).trans hbo
/-- turn after turn of a comprehension, its list laid aside -/
theorem compGo_ok (IH : Sound g n r) (c : CxOk g x n) (k : ScOk sc x.env) (hcl : ∀ z, sc.names.lookup z ≠ some .cell) {tg elt iter : Expr} {ifs : List Expr} {csc : Scope} {pos : Pos} {src : Src} {it : Value} {Pos : Nat → Wd → Led → Prop} (I : ∀ o : Led, IterOk g (x.plus o) tg src it Pos)
    {D : Addr} {f kk : Nat} {xs : List AV} (hf : f ≤ 4000) (e : compGo r sc elt tg ifs src f kk l H = some (xs, H')) {R : Result → Shared → Prop} {own : Led} {j : Nat} (hp : Pos kk W own)
    (hoo : ∀ p ∈ own, p.1 ≠ D ∧ ∀ q ∈ x.out, p.1 ≠ q.1) (hD : ∀ q ∈ x.out, D ≠ q.1) (S : St g (x.plus (own ++ [(D, lstObj [] j)])) W l H σ s.heap)
    (hQ : ∀ W' σ' h' tk own' ws j' l', W.le W' → St g (x.plus (own' ++ [(D, lstObj ws j')])) W' l' H' σ' h' → noCell own' → VRs g W' xs ws → R (.ok .next) { s with heap := h', toks := tk }) :
    codeAny (model g.prog g.w) x.A (.compLoop (.ListComp elt [⟨tg, iter, ifs, 0⟩] csc pos) 0 it (.ref D) x.env) R s := by
  refine compLoop_any (CompI g x W r sc D elt tg ifs src Pos xs H' s) ?_ f (.mk kk l H W σ own s.heap s.toks [] xs [] j (Wd.le.refl W) hp hoo S .nil rfl (by simpa using hf) e)
  clear hp hoo S e hf
  rintro m s' ⟨kk, l1, H1, W1, σ1, own, h1, tk1, done, rest, ws, j, le1, hp, hoo, S, rd, hxs, hlen, e⟩
  have IK := I [(D, lstObj ws j)]
  have hoo' := comp_out (o := lstObj ws j) hoo
  rw [← plus_plus] at S
  cases m with
  | zero => exact xN e
  | succ m =>
    have e := compGo_inv e
    cases e with
    | turn v l2 H3 v4 H4 xs5 _ hv hb ht h4e h5e =>
      refine IK.turn hp S hoo' hv fun W2 h2 tk2 u own2 le2 hp2 hoo2 S2 ru => ?_
      rw [plus_plus] at S2
      clear hp hoo hoo' S
      have c2 := c.plus (own2 ++ [(D, lstObj ws j)])
      have hoo3 : ∀ p ∈ own2, p.1 ≠ D ∧ ∀ q ∈ x.out, p.1 ≠ q.1 := fun p hp => ⟨hoo2 p hp (D, lstObj ws j) List.mem_cons_self, fun q hq => hoo2 p hp q (List.mem_cons_of_mem _ hq)⟩
      refine bindT_ok (x := x.plus (own2 ++ [(D, lstObj ws j)])) c2 S2 k hb (.inr hcl) ru fun σ3 h3 tk3 S3 => ?_
      refine testAll_ok IH (x := x.plus (own2 ++ [(D, lstObj ws j)])) c2 k ht (s := { s with heap := h3, toks := tk3 }) S3 fun W4 h4 tk4 le4 S4 => ?_
      rw [if_pos rfl]
      refine IH.ev (x.plus (own2 ++ [(D, lstObj ws j)])) sc elt l2 _ v4 _ c2 k h4e W4 σ3 { s with heap := h4, toks := tk4 } _ _ S4 fun W5 h5 tk5 u5 le5 S5 r5 => ?_
      have rd5 := ((rd.mono le2).mono le4).mono le5
      have hwl := rd5.length
      exact comp_push (s := { s with heap := h5, toks := tk5 }) S5 hoo3 hD (IK.nc hp2) (by omega) fun h6 tk6 j' S6 => ⟨m, Nat.lt_succ_self m, .mk (kk + 1) l2 _ W5 σ3 own2 _ _ (done ++ [v4]) xs5 (ws ++ [u5]) j' (((le1.trans le2).trans le4).trans le5) (IK.mono le5 (IK.mono le4 hp2)) hoo3 S6 (rd5.append (.cons r5 .nil)) (by rw [← hxs]; simp) (by rw [List.length_append, List.length_singleton]; omega) h5e⟩
    | skip v l2 H3 _ _ hv hb ht e =>
      refine IK.turn hp S hoo' hv fun W2 h2 tk2 u own2 le2 hp2 hoo2 S2 ru => ?_
      rw [plus_plus] at S2
      clear hp hoo hoo' S
      have c2 := c.plus (own2 ++ [(D, lstObj ws j)])
      have hoo3 : ∀ p ∈ own2, p.1 ≠ D ∧ ∀ q ∈ x.out, p.1 ≠ q.1 := fun p hp => ⟨hoo2 p hp (D, lstObj ws j) List.mem_cons_self, fun q hq => hoo2 p hp q (List.mem_cons_of_mem _ hq)⟩
      refine bindT_ok (x := x.plus (own2 ++ [(D, lstObj ws j)])) c2 S2 k hb (.inr hcl) ru fun σ3 h3 tk3 S3 => ?_
      refine testAll_ok IH (x := x.plus (own2 ++ [(D, lstObj ws j)])) c2 k ht (s := { s with heap := h3, toks := tk3 }) S3 fun W4 h4 tk4 le4 S4 => ?_
      rw [if_neg (by simp)]
      exact ⟨m, Nat.lt_succ_self m, .mk (kk + 1) l2 _ W4 σ3 own2 _ _ done rest ws j ((le1.trans le2).trans le4) (IK.mono le4 hp2) hoo3 S4 ((rd.mono le2).mono le4) hxs (by omega) e⟩
    | stop hv =>
      rw [List.append_nil] at hxs
      subst hxs
      refine wpAny_mono (IK.done (Q := fun s₁ => R (.ok .next) s₁) hp S hoo' hv fun h' tk S' => ?_) (fun rr s₁ hh => ?_) fun _ _ z => z
      · exact hQ W1 σ1 h' tk [] ws j l1 le1 S' (fun _ h => nomatch h) rd
      · obtain ⟨rfl, hh⟩ := hh
        exact hh
end
end Mine

set_option maxRecDepth 100000
namespace Mine
open PySem PySem.W PySem.Calls PySem.Spec PyProof.Rows

noncomputable def SrcOk (g : G) (x : Cx) (e tg : Expr) (l : Mine.L) (H : Mine.H) (src : Src) (H1 : Mine.H) : Prop := ∀ (W : Wd) (σ : Sg) (s : Shared) (Q : Value → Shared → Prop) (E : Value → Shared → Prop), St g x W l H σ s.heap →
  (∀ W' h' tk itv Pos own, W.le W' → St g (x.plus own) W' l H1 σ h' → Pos 0 W' own → (∀ p ∈ own, ∀ q ∈ x.out, p.1 ≠ q.1) → (∀ (y : Cx) (m : Nat), CxOk g y m → IterOk g y tg src itv Pos) → Q itv { s with heap := h', toks := tk }) →
  wpAny (model g.prog g.w) x.A (eval e x.env) (fun xv s₁ => wpAny (model g.prog g.w) x.A (pyIter xv) Q E s₁) E s

theorem look_strip {names : List (Str × NameKind)} {j : Nat} {v : AV} : ∀ {l : L}, look j (stripL names l) = some v → isLoc names j = false ∧ look j l = some v
  | [], h => by cases h
  | p :: r, h => by
    unfold stripL at h
    cases q : isLoc names p.1 with
    | true =>
      rw [q] at h
      obtain ⟨a, b⟩ := look_strip h
      refine ⟨a, ?_⟩
      rw [look_match]
      cases z : Nat.beq p.1 j with
      | true => rw [Nat.eq_of_beq_eq_true z] at q; rw [q] at a; cases a
      | false => exact b
    | false =>
      rw [q] at h
      have h' : (match Nat.beq p.1 j with | true => some p.2 | false => look j (stripL names r)) = some v := look_match.symm.trans h
      cases z : Nat.beq p.1 j with
      | true =>
        rw [z] at h'
        have e := Nat.eq_of_beq_eq_true z
        refine ⟨e ▸ q, ?_⟩
        rw [look_match]
        rw [z]; exact h'
      | false =>
        rw [z] at h'
        obtain ⟨a, b⟩ := look_strip h'
        refine ⟨a, ?_⟩
        rw [look_match]
        rw [z]; exact b
theorem look_strip_none {names : List (Str × NameKind)} {j : Nat} {l : L} (h : look j l = none) : look j (stripL names l) = none := by
  cases q : look j (stripL names l) with
  | none => rfl
  | some v => rw [(look_strip q).2] at h; cases h
theorem isLoc_mem {y : Str} : ∀ {names : List (Str × NameKind)}, (y, NameKind.local) ∈ names → isLoc names (nm y) = true
  | p :: t, h => by
    unfold isLoc
    rcases List.mem_cons.mp h with h | h
    · subst h
      show (match Nat.beq (nm y) (nm y) with | true => true | false => isLoc t (nm y)) = true
      rw [Nat.beq_refl]
    · have ih := isLoc_mem h
      split
      · split
        · rfl
        · exact ih
      · exact ih
theorem relabel_lookup (scope : Scope) (env : Env) (y : Str) : ∀ names : List (Str × NameKind), (names.map fun (n, k) => if (k == .free && env.scope.kind == .function && env.kindOf n == some .cell) = true then (n, NameKind.cell) else (n, k)).lookup y =
    (names.lookup y).map fun k => if (k == .free && env.scope.kind == .function && env.kindOf y == some .cell) = true then NameKind.cell else k
  | [] => rfl
  | (z, k) :: r => by
    have ih := relabel_lookup scope env y r
    rw [List.map_cons]
    have e1 : (if (k == .free && env.scope.kind == .function && env.kindOf z == some .cell) = true then (z, NameKind.cell) else (z, k)) = (z, if (k == .free && env.scope.kind == .function && env.kindOf z == some .cell) = true then NameKind.cell else k) := by split <;> rfl
    show List.lookup y ((if (k == .free && env.scope.kind == .function && env.kindOf z == some .cell) = true then (z, NameKind.cell) else (z, k)) :: _) = _
    rw [e1, List.lookup_cons, List.lookup_cons]
    cases q : y == z with
    | true =>
      have : y = z := by simpa using q
      subst this; rfl
    | false => exact ih

section
variable {g : G} {C : Cfg} {x : Cx} {n : Nat} {W : Wd} {l l' : L} {H H' H1 H2 : Mine.H} {σ : Sg} {s : Shared} {E : Value → Shared → Prop} {r : R} {sc : Scope}
theorem comp_kind {csc : Scope} {cl : List (Str × Addr)} {Ca : Addr} (y : Str) : (compEnvC csc cl Ca x.env).kindOf y = (csc.names.lookup y).map fun k => if (k == .free && x.env.scope.kind == .function && x.env.kindOf y == some .cell) = true then NameKind.cell else k :=
  relabel_lookup csc x.env y csc.names
theorem compOk_ok {csc : Scope} (h : compOk sc csc = true) : csc.kind = .function ∧ (∀ p ∈ csc.names, p.2 ≠ .cell) ∧ (∀ p ∈ csc.names, p.2 = .local → csc.names.lookup p.1 = some .local) ∧ ∀ p ∈ csc.names, p.2 = .free → sc.names.lookup p.1 = some .cell ∨ sc.names.lookup p.1 = some .free := by
  unfold compOk at h
  rw [Bool.and_eq_true, List.all_eq_true] at h
  obtain ⟨h1, h2⟩ := h
  refine ⟨(by split at h1 <;> first | assumption | (cases h1; done)), fun p hp q => ?_, fun p hp q => ?_, fun p hp q => ?_⟩
  · have := h2 p hp; rw [q] at this; cases this
  · have := h2 p hp
    rw [q] at this
    simp only at this
    split at this
    · assumption
    · first | exact xN this | exact xS this | (obtain rfl := x1 this; clear this) | (obtain ⟨rfl, rfl⟩ := x2 this; clear this) | (obtain ⟨rfl, rfl, rfl⟩ := x3 this; clear this) | (exfalso; cases this; done) | cases this
  · have := h2 p hp
    rw [q] at this
    simp only at this
    split at this
    · rename_i z; exact .inl z
    · rename_i z; exact .inr z
    · first | exact xN this | exact xS this | (obtain rfl := x1 this; clear this) | (obtain ⟨rfl, rfl⟩ := x2 this; clear this) | (obtain ⟨rfl, rfl, rfl⟩ := x3 this; clear this) | (exfalso; cases this; done) | cases this
theorem CxOk.comp (c : CxOk g x n) (k : ScOk sc x.env) {csc : Scope} (hok : compOk sc csc = true) {cl : List (Str × Addr)} {Ca : Addr} (h1 : ∀ y c, cl.lookup y = some c → x.env.cells.lookup y = some c) (h2 : ∀ p ∈ csc.names, p.2 = .free → ∃ c, cl.lookup p.1 = some c) (σ : Sg) :
    CxOk g (x.comp σ (compEnvC csc cl Ca x.env)) n := by
  obtain ⟨a1, a2, a3, a4⟩ := compOk_ok hok
  refine { B := c.B, hA := c.hA, hf := c.hf, hk := c.hk, X := c.X, T := c.T, hand := c.hand, dp := c.dp, un := c.un, ek := a1, eg := c.eg, eb := c.eb, sm := c.sm, ci := fun y z cc hy hz => c.ci y z cc (h1 _ _ hy) (h1 _ _ hz), cf := fun y hy => ?_ }
  have hy' : (compEnvC csc cl Ca x.env).kindOf y = some .cell ∨ (compEnvC csc cl Ca x.env).kindOf y = some .free := hy
  rw [comp_kind] at hy'
  cases q : csc.names.lookup y with
  | none => rw [q] at hy'; rcases hy' with h | h <;> cases h
  | some kd =>
    have hm := mem_of_lookup' q
    rw [q] at hy'
    have hfree : kd = .free := by
      cases kd with
      | free => rfl
      | cell => exact absurd rfl (a2 _ hm)
      | «local» => rcases hy' with h | h <;> simp at h
      | globalExplicit => rcases hy' with h | h <;> simp at h
      | globalImplicit => rcases hy' with h | h <;> simp at h
    exact h2 _ hm hfree
theorem ScOk.comp {csc : Scope} {cl : List (Str × Addr)} {Ca : Addr} : ScOk csc (compEnvC csc cl Ca x.env) := by
  intro y kd h
  rw [comp_kind, h]
  simp only [Option.map_some]
  split
  · rename_i q
    right
    simp only [Bool.and_eq_true, beq_iff_eq] at q
    exact ⟨q.1.1, rfl⟩
  · exact .inl rfl
end
end Mine

set_option maxRecDepth 100000
namespace Mine
open PySem PySem.W PySem.Calls PySem.Spec PyProof.Rows
section
variable {g : G} {C : Cfg} {x : Cx} {n : Nat} {W : Wd} {l l' : L} {H H' H1 H2 : Mine.H} {σ : Sg} {s : Shared} {E : Value → Shared → Prop} {r : R} {sc : Scope}

/-- into a comprehension: its list, its names' home -/
theorem St.toComp {own : Led} {h h₂ : Heap} {oC : Obj} (S : St g (x.plus own) W l H σ h) (hoo : ∀ p ∈ own, ∀ q ∈ x.out, p.1 ≠ q.1) (k : ScOk sc x.env) {csc : Scope} (hok : compOk sc csc = true) {cl : List (Str × Addr)} (h1 : ∀ y c, cl.lookup y = some c → x.env.cells.lookup y = some c) (h2 : ∀ p ∈ csc.names, p.2 = .free → ∃ c, cl.lookup p.1 = some c)
    (hk : ∀ b o, h.get? b = some o → h₂.get? b = some o) (hD : h₂.get? h.objs.size = some (lstObj [] 0)) (hC : h₂.get? (h.objs.size + 1) = some oC) (hns : h₂.Ns (h.objs.size + 1) fun _ => none) :
    St g ((x.comp σ (compEnvC csc cl (h.objs.size + 1) x.env)).plus (own ++ [(h.objs.size, lstObj [] 0)])) W (stripL csc.names l) H ⟨fun _ => none, [(h.objs.size + 1, oC)]⟩ h₂ := by
  obtain ⟨a1, a2, a3, a4⟩ := compOk_ok hok
  have hL := S.F.ns.lt
  have old := S.old
  have h0 : ∀ a, h.objs.size ≤ a → x.h₀.get? a = none := fun a ha => (S.fresh ha).2
  obtain ⟨led, N, hl⟩ := S.led
  have oldp : ∀ p ∈ σ.own ++ (own ++ x.out) ++ W.X, p.1 < h.objs.size := old
  refine ⟨⟨S.F.ns.keeps hk, fun b o e => hk b o (S.F.keep b o e), S.F.above⟩, .inr ⟨⟨_, rfl⟩, hns, oC, List.mem_singleton.mpr rfl⟩, ⟨led, fun p hp => ?_, hl⟩, S.fn, fun q hq p hp => ?_, S.nx, fun p hp q hq => ?_, fun p hp q hq => ?_, (fun e => by cases e), ⟨look_strip_none S.lr.1, fun y v hy e => ?_⟩⟩
  · have hp' : p = (h.objs.size + 1, oC) ∨ p = (h.objs.size, lstObj [] 0) ∨ p ∈ led ++ σ.own ++ (own ++ x.out) ++ W.X := by
      simp only [Cx.plus, Cx.comp, List.mem_append, List.mem_singleton] at hp ⊢
      rcases hp with ((a | b) | ((c | d) | (e | f))) | g <;> simp_all
    rcases hp' with rfl | rfl | hp'
    · exact ⟨hC, (Nat.ne_of_lt (Nat.lt_succ_of_lt hL)).symm, h0 _ (Nat.le_succ _)⟩
    · exact ⟨hD, (Nat.ne_of_lt hL).symm, h0 _ (Nat.le_refl _)⟩
    · exact ⟨hk _ _ (N p hp').1, (N p hp').2⟩
  · have hp' : p = (h.objs.size + 1, oC) ∨ p = (h.objs.size, lstObj [] 0) ∨ p ∈ σ.own ++ (own ++ x.out) ++ W.X := by
      simp only [Cx.plus, Cx.comp, List.mem_append, List.mem_singleton] at hp ⊢
      rcases hp with (b | ((c | d) | (e | f))) | g <;> simp_all
    have ht := S.there q hq
    rcases hp' with rfl | rfl | hp'
    · exact (Nat.ne_of_lt (Nat.lt_succ_of_lt ht)).symm
    · exact (Nat.ne_of_lt ht).symm
    · exact S.ap q hq p hp'
  · have hX := oldp p (by simp [hp])
    have hq' : q = (h.objs.size + 1, oC) ∨ q = (h.objs.size, lstObj [] 0) ∨ q ∈ σ.own ++ (own ++ x.out) := by
      simp only [Cx.plus, Cx.comp, List.mem_append, List.mem_singleton] at hq ⊢
      rcases hq with b | ((c | d) | (e | f)) <;> simp_all
    rcases hq' with rfl | rfl | hq'
    · exact Nat.ne_of_lt (Nat.lt_succ_of_lt hX)
    · exact Nat.ne_of_lt hX
    · exact S.xo p hp q hq'
  · rw [List.mem_singleton] at hp; subst hp
    have hq' : q = (h.objs.size, lstObj [] 0) ∨ q ∈ σ.own ++ (own ++ x.out) := by
      simp only [Cx.plus, Cx.comp, List.mem_append, List.mem_singleton] at hq ⊢
      rcases hq with ((c | d) | (e | f)) <;> simp_all
    rcases hq' with rfl | hq'
    · exact (Nat.ne_of_lt (Nat.lt_succ_self _)).symm
    · have := oldp q (List.mem_append_left _ hq')
      exact (Nat.ne_of_lt (Nat.lt_succ_of_lt this)).symm
  · obtain ⟨hloc, e'⟩ := look_strip e
    obtain ⟨b1, b2, b3⟩ := S.lr.2 y v hy e'
    refine ⟨b1, fun hkl => ?_, fun hkc => ?_⟩
    · exfalso
      have hkl' : (compEnvC csc cl (h.objs.size + 1) x.env).kindOf y = some .local := hkl
      rw [comp_kind] at hkl'
      cases q : csc.names.lookup y with
      | none => rw [q] at hkl'; cases hkl'
      | some kd =>
        rw [q] at hkl'
        have : kd = .local := by
          simp only [Option.map_some, Option.some.injEq] at hkl'
          split at hkl'
          · first | exact xN hkl' | exact xS hkl' | (obtain rfl := x1 hkl'; clear hkl') | (obtain ⟨rfl, rfl⟩ := x2 hkl'; clear hkl') | (obtain ⟨rfl, rfl, rfl⟩ := x3 hkl'; clear hkl') | (exfalso; cases hkl'; done) | cases hkl'
          · exact hkl'
        subst this
        rw [isLoc_mem (mem_of_lookup' q)] at hloc
        first | exact xN hloc | exact xS hloc | (obtain rfl := x1 hloc; clear hloc) | (obtain ⟨rfl, rfl⟩ := x2 hloc; clear hloc) | (obtain ⟨rfl, rfl, rfl⟩ := x3 hloc; clear hloc) | (exfalso; cases hloc; done) | cases hloc
    · have hkc' : (compEnvC csc cl (h.objs.size + 1) x.env).kindOf y = some .cell ∨ (compEnvC csc cl (h.objs.size + 1) x.env).kindOf y = some .free := hkc
      rw [comp_kind] at hkc'
      cases q : csc.names.lookup y with
      | none => rw [q] at hkc'; rcases hkc' with h | h <;> cases h
      | some kd =>
        have hm := mem_of_lookup' q
        rw [q] at hkc'
        have hfree : kd = .free := by
          cases kd with
          | free => rfl
          | cell => exact absurd rfl (a2 _ hm)
          | «local» => rcases hkc' with h | h <;> simp at h
          | globalExplicit => rcases hkc' with h | h <;> simp at h
          | globalImplicit => rcases hkc' with h | h <;> simp at h
        subst hfree
        have henv : x.env.kindOf y = some .cell ∨ x.env.kindOf y = some .free := by
          rcases a4 _ hm rfl with z | z
          · rcases k _ _ z with z | ⟨z, _⟩
            · exact .inl z
            · first | exact xN z | exact xS z | (obtain rfl := x1 z; clear z) | (obtain ⟨rfl, rfl⟩ := x2 z; clear z) | (obtain ⟨rfl, rfl, rfl⟩ := x3 z; clear z) | (exfalso; cases z; done) | cases z
          · rcases k _ _ z with z | ⟨_, z⟩
            · exact .inr z
            · exact .inl z
        obtain ⟨cc, oc, u, p1, p2, p3, p4⟩ := b3 henv
        obtain ⟨c', hc'⟩ := h2 _ hm rfl
        have e3 : x.env.cells.lookup y = some c' := h1 _ _ hc'
        have e4 : x.env.cells.lookup y = some cc := p1
        rw [e4] at e3
        have e5 := Option.some.inj e3
        subst e5
        refine ⟨cc, oc, u, hc', ?_, p3, p4⟩
        simp only [Cx.plus, Cx.comp, List.mem_append, List.mem_singleton] at p2 ⊢
        rcases p2 with p2 | p2 | p2 <;> simp [p2]
theorem comp_core {tg elt itE : Expr} {ifs : List Expr} {csc : Scope} {pos pos' : Pos} {src : Src} {xs : List AV} (IH : Sound g n r) (c : CxOk g x n) (k : ScOk sc x.env) (hok : compOk sc csc = true) (hns : notSet itE = true) (hs : SrcOk g x itE tg l H src H1)
    (e : compGo r csc elt tg ifs src 4000 0 (stripL csc.names l) H1 = some (xs, H2)) (hlen : xs.length ≤ 400000) {use : Option (Value → Sem Unit)} {Q : Value → Shared → Prop} (S : St g x W l H σ s.heap)
    (hQ : ∀ W' h' tk D Ca oC m, W.le W' → St g (x.plus [(Ca, oC)]) W' l (H2.new (.list xs)).2 σ h' → h'.Ns Ca m → (∀ q ∈ x.out, Ca ≠ q.1) → noCell [(Ca, oC)] → (2 * H2.nx, D) ∈ W'.mp → compPost (model g.prog g.w) x.A E use Q (.ref D) Ca (.ok .next) { s with heap := h', toks := tk }) :
    wpAny (model g.prog g.w) x.A (comprehension (.ListComp elt [⟨tg, itE, ifs, 0⟩] csc pos) csc x.env pos' (newList []) false (eval itE x.env) use) Q E s := by
  obtain ⟨a1, a2, a3, a4⟩ := compOk_ok hok
  have hfree : ∀ p ∈ csc.names, p.2 = .free → ∃ c, x.env.cells.lookup p.1 = some c := fun p hp hf => by
    refine c.cf _ ?_
    rcases a4 p hp hf with z | z
    · rcases k _ _ z with z | ⟨z, _⟩
      · exact .inl z
      · first | exact xN z | exact xS z | (obtain rfl := x1 z; clear z) | (obtain ⟨rfl, rfl⟩ := x2 z; clear z) | (obtain ⟨rfl, rfl, rfl⟩ := x3 z; clear z) | (exfalso; cases z; done) | cases z
    · rcases k _ _ z with z | ⟨_, z⟩
      · exact .inr z
      · exact .inl z
  obtain ⟨cl, hcl, h1, h2⟩ := closureFor_ok hfree
  have hcl2 : ∀ p ∈ csc.names, p.2 = .free → ∃ c, cl.lookup p.1 = some c := h2
  refine wpAny_comprehension_free rfl (fun v => by cases itE <;> first | rfl | cases hns) hcl a1 a3 (hs W σ s _ E S fun W1 h1' tk1 itv Pos own le1 S1 hp hoo hI => ?_)
  refine wpAny_newObj_type (wpAny_newFunctionEnv (fun p hp => a2 p hp) (by intro y hy; simp at hy) (fun h₂ hns₂ hsb₂ => ?_) a1)
  have hz : (h1'.push { cls := .type "list", dict := none, data := .seq ([] : List Value).toArray }).objs.size = h1'.objs.size + 1 := Heap.size_push _ _
  dsimp only at hns₂ hsb₂ ⊢
  rw [hz] at hns₂ hsb₂
  show codeAny (model g.prog g.w) x.A (.compStart (.ListComp elt [⟨tg, itE, ifs, 0⟩] csc pos) 0 itv (.ref h1'.objs.size) (compEnvC csc cl (h1'.push { cls := .type "list", dict := none, data := .seq ([] : List Value).toArray }).objs.size x.env)) (compPost (model g.prog g.w) x.A E use Q (.ref h1'.objs.size) (h1'.push { cls := .type "list", dict := none, data := .seq ([] : List Value).toArray }).objs.size) { s with heap := h₂, toks := tk1 + 0 }
  rw [hz]
  have hk : ∀ b o, h1'.get? b = some o → h₂.get? b = some o := fun b o e => by
    have hlt := Heap.lt_size e
    exact (hsb₂.2 b (Nat.ne_of_lt (Nat.lt_succ_of_lt hlt))).trans (Heap.get?_push_of_some _ (Heap.get?_push_of_some _ e))
  have hD : h₂.get? h1'.objs.size = some (lstObj [] 0) := (hsb₂.2 _ (Nat.ne_of_lt (Nat.lt_succ_self _))).trans (Heap.get?_push_of_some _ (Heap.get?_push_size _ rfl))
  obtain ⟨oC, hC⟩ : ∃ oC, h₂.get? (h1'.objs.size + 1) = some oC := by obtain ⟨o, _, _, h, _⟩ := hns₂; exact ⟨o, h⟩
  have hns₃ : h₂.Ns (h1'.objs.size + 1) fun _ => none := hns₂
  have S2 := S1.toComp (oC := oC) hoo k hok h1 h2 hk hD hC hns₃
  have cc : CxOk g (x.comp σ (compEnvC csc cl (h1'.objs.size + 1) x.env)) n := c.comp k hok h1 h2 σ
  have old1 := S1.old
  have hout : ∀ q ∈ (x.comp σ (compEnvC csc cl (h1'.objs.size + 1) x.env)).out, q.1 < h1'.objs.size := fun q hq => old1 q (by
    simp only [Cx.comp, Cx.plus, List.mem_append] at hq ⊢
    rcases hq with hq | hq <;> simp [hq])
  have hownlt : ∀ q ∈ own, q.1 < h1'.objs.size := fun q hq => old1 q (by simp [Cx.plus, hq])
  have hooC : ∀ p ∈ own, p.1 ≠ h1'.objs.size ∧ ∀ q ∈ (x.comp σ (compEnvC csc cl (h1'.objs.size + 1) x.env)).out, p.1 ≠ q.1 := fun p hp => ⟨Nat.ne_of_lt (hownlt p hp), fun q hq => by
    simp only [Cx.comp, List.mem_append] at hq
    rcases hq with hq | hq
    · exact (S1.oo q hq p (by simp [Cx.plus, hp])).symm
    · exact hoo p hp q hq⟩
  have loop : codeAny (model g.prog g.w) x.A (.compLoop (.ListComp elt [⟨tg, itE, ifs, 0⟩] csc pos) 0 itv (.ref h1'.objs.size) (compEnvC csc cl (h1'.objs.size + 1) x.env)) (compPost (model g.prog g.w) x.A E use Q (.ref h1'.objs.size) (h1'.objs.size + 1)) { s with heap := h₂, toks := tk1 + 0 } := by
    refine compGo_ok (x := x.comp σ (compEnvC csc cl (h1'.objs.size + 1) x.env)) (s := { s with heap := h₂, toks := tk1 + 0 }) IH cc ScOk.comp (fun z q => a2 _ (mem_of_lookup' q) rfl) (fun o => hI _ _ (cc.plus o)) (Nat.le_refl _) e hp hooC (fun q hq => (Nat.ne_of_lt (hout q hq)).symm) S2 fun W3 σ3 h3 tk3 own3 ws3 j3 l3 le3 S3 nc3 r3 => ?_
    -- the frame again
    rcases S3.md with ⟨q, _⟩ | ⟨_, nsC, oC3, hC3⟩
    · first | exact xN q | exact xS q | (obtain rfl := x1 q; clear q) | (obtain ⟨rfl, rfl⟩ := x2 q; clear q) | (obtain ⟨rfl, rfl, rfl⟩ := x3 q; clear q) | (exfalso; cases q; done) | cases q
    have hDm : (h1'.objs.size, lstObj ws3 j3) ∈ ((x.comp σ (compEnvC csc cl (h1'.objs.size + 1) x.env)).plus (own3 ++ [(h1'.objs.size, lstObj ws3 j3)])).out := by simp [Cx.plus]
    have subout : ∀ p ∈ σ.own ++ x.out, p ∈ ((x.comp σ (compEnvC csc cl (h1'.objs.size + 1) x.env)).plus (own3 ++ [(h1'.objs.size, lstObj ws3 j3)])).out := fun p hp => by
      simp only [Cx.plus, Cx.comp, List.mem_append] at hp ⊢
      exact .inr hp
    obtain ⟨led3, N3, hl3⟩ := S3.led
    have S1' := S1.drop ((hI x n c).nc hp)
    obtain ⟨led4, hl4, sub4⟩ := hl3.cut
    have N3' : ∀ p, p ∈ led3 ∨ p ∈ σ3.own ∨ p ∈ ((x.comp σ (compEnvC csc cl (h1'.objs.size + 1) x.env)).plus (own3 ++ [(h1'.objs.size, lstObj ws3 j3)])).out ∨ p ∈ W3.X → h3.get? p.1 = some p.2 ∧ p.1 ≠ x.L ∧ x.h₀.get? p.1 = none := fun p hp => N3 p (by
      simp only [List.mem_append]
      rcases hp with h | h | h | h <;> simp [h])
    have lt1 : ∀ p ∈ σ.own ++ x.out, p.1 < h1'.objs.size := fun p hp => old1 p (by
      simp only [Cx.plus, List.mem_append] at hp ⊢
      rcases hp with hp | hp <;> simp [hp])
    have hDX : ∀ p ∈ W3.X, p.1 ≠ h1'.objs.size := fun p hp => S3.xo p hp _ (List.mem_append_right _ hDm)
    have hDmp : ∀ q ∈ W3.mp, q.2 ≠ h1'.objs.size := fun q hq => (S3.ap q hq _ (List.mem_append_left _ (List.mem_append_right _ hDm))).symm
    have hlew : W3.le ⟨W3.X, (2 * H2.nx, h1'.objs.size) :: W3.mp⟩ := Wd.le_obj [(2 * H2.nx, h1'.objs.size)]
    have B : St g x ⟨W3.X, (2 * H2.nx, h1'.objs.size) :: W3.mp⟩ l (H2.new (.list xs)).2 σ h3 := by
      refine S1'.back (le3.trans hlew) S3.F (led := (h1'.objs.size, lstObj ws3 j3) :: led4) (fun p hp => ?_) ⟨fun j ao ej => ?_, fun q hq => ?_⟩ (fun p hp q hq => ?_) (fun q hq p hp => ?_) (fun q hq => ?_) fun p hp q hq => ?_
      · have hp' : p = (h1'.objs.size, lstObj ws3 j3) ∨ p ∈ led4 ∨ p ∈ σ.own ++ x.out ∨ p ∈ W3.X := by
          simp only [List.mem_append, List.mem_cons] at hp ⊢
          rcases hp with (((a | b) | c) | d) | e <;> simp_all
        rcases hp' with rfl | hp' | hp' | hp'
        · exact N3' _ (.inr (.inr (.inl hDm)))
        · exact N3' _ (.inl (sub4 p hp').1)
        · exact N3' _ (.inr (.inr (.inl (subout p hp'))))
        · exact N3' _ (.inr (.inr (.inr hp')))
      · have e' : (match Nat.beq H2.nx j with | true => some (AO.list xs) | false => look j H2.os) = some ao := look_match.symm.trans ej
        split at e'
        · rename_i q
          first | exact xN e' | exact xS e' | (obtain rfl := x1 e'; clear e') | (obtain ⟨rfl, rfl⟩ := x2 e'; clear e') | (obtain ⟨rfl, rfl, rfl⟩ := x3 e'; clear e') | (exfalso; cases e'; done) | cases e'
          rw [← Nat.eq_of_beq_eq_true q]
          exact ⟨h1'.objs.size, ws3, j3, List.mem_cons_self, List.mem_cons_self, r3.mono hlew, hlen⟩
        · exact (hl4.1 j ao e').mono hlew fun p hp _ => List.mem_cons_of_mem _ hp
      · rcases List.mem_cons.mp hq with rfl | hq
        · exact ⟨_, List.mem_cons_self⟩
        · obtain ⟨o, ho⟩ := hl4.2 q hq
          exact ⟨o, List.mem_cons_of_mem _ ho⟩
      · rcases List.mem_cons.mp hp with rfl | hp <;> rcases List.mem_cons.mp hq with rfl | hq
        · simp
        · have u := S3.nx q hq
          have v := hDmp q hq
          exact ⟨fun z => absurd u (by omega), fun z => absurd z.symm v⟩
        · have u := S3.nx p hp
          have v := hDmp p hp
          exact ⟨fun z => absurd u (by omega), fun z => absurd z v⟩
        · exact S3.fn p hp q hq
      · have hp' : p ∈ σ.own ++ x.out ∨ p ∈ W3.X := List.mem_append.mp hp
        rcases List.mem_cons.mp hq with rfl | hq
        · rcases hp' with hp' | hp'
          · exact Nat.ne_of_lt (lt1 p hp')
          · exact hDX p hp'
        · rcases hp' with hp' | hp'
          · exact S3.ap q hq p (List.mem_append_left _ (List.mem_append_right _ (subout p hp')))
          · exact S3.ap q hq p (List.mem_append_right _ hp')
      · show q.1 < 2 * Nat.succ H2.nx
        rcases List.mem_cons.mp hq with rfl | hq
        · simp only; omega
        · have := S3.nx q hq; omega
      · exact S3.xo p hp q (List.mem_append_right _ (subout q hq))
    have hCat := N3' _ (.inr (.inl hC3))
    refine hQ _ h3 tk3 h1'.objs.size (h1'.objs.size + 1) oC3 σ3.m ((le1.trans le3).trans hlew) (B.plus (fun p hp => ?_) (fun p hp => ?_) (fun p hp q hq => ?_) fun p hp q hq => ?_) nsC (fun q hq => ?_) (fun p hp u z => ?_) List.mem_cons_self
    · rw [List.mem_singleton] at hp; subst hp; exact hCat.1
    · rw [List.mem_singleton] at hp; subst hp; exact hCat.2
    · rw [List.mem_singleton] at hp; subst hp
      rcases List.mem_cons.mp hq with rfl | hq
      · exact (Nat.ne_of_lt (Nat.lt_succ_self _)).symm
      · exact S3.ap q hq _ (List.mem_append_left _ (List.mem_append_left _ hC3))
    · rw [List.mem_singleton] at hp; subst hp
      rcases List.mem_append.mp hq with hq | hq
      · exact (Nat.ne_of_lt (Nat.lt_succ_of_lt (lt1 q (List.mem_append_left _ hq)))).symm
      · exact (S3.xo q hq _ (List.mem_append_left _ hC3)).symm
    · exact (Nat.ne_of_lt (Nat.lt_succ_of_lt (lt1 q (List.mem_append_right _ hq)))).symm
    · rw [List.mem_singleton] at hp; subst hp
      obtain ⟨oN, es, ep, g1, g2, _⟩ := nsC
      have g3 : h3.get? (h1'.objs.size + 1) = some oC3 := hCat.1
      have g1' : h3.get? (h1'.objs.size + 1) = some oN := g1
      rw [g3] at g1'
      have := Option.some.inj g1'
      subst this
      rw [g2] at z; cases z
  exact codeAny_compStart_list loop ((hI _ _ (cc.plus [(h1'.objs.size, lstObj [] 0)])).self hp (by rw [plus_plus]; exact S2) loop)
end
end Mine

set_option maxRecDepth 100000
namespace Mine
open PySem PySem.W PySem.Calls PySem.Spec PyProof.Rows
section
variable {g : G} {C : Cfg} {x : Cx} {n : Nat} {W : Wd} {l l' : L} {H H' H1 H2 : Mine.H} {σ : Sg} {s : Shared} {E : Value → Shared → Prop} {r : R} {sc : Scope}
theorem St.uncomp {Ca : Addr} {oC : Obj} {h h' : Heap} (S : St g (x.plus [(Ca, oC)]) W l H σ h) (ho : ∀ q ∈ x.out, Ca ≠ q.1) (hc : noCell [(Ca, oC)]) (hs : Heap.SameBut Ca h h') : St g x W l H σ h' :=
  S.gone (fun p hp q hq => by rw [List.mem_singleton] at hp; subst hp; exact ho q hq) hc fun b o hb e => (hs.2 b fun z => hb (by rw [z]; simp)).trans e
theorem listComp_ok {tg elt itE : Expr} {ifs : List Expr} {csc : Scope} {pos : Pos} {src : Src} {xs : List AV} (IH : Sound g n r) (c : CxOk g x n) (k : ScOk sc x.env) (hok : compOk sc csc = true) (hns : notSet itE = true) (hs : SrcOk g x itE tg l H src H1)
    (e : compGo r csc elt tg ifs src 4000 0 (stripL csc.names l) H1 = some (xs, H2)) (hlen : xs.length ≤ 400000) : EvOk g x (.ListComp elt [⟨tg, itE, ifs, 0⟩] csc pos) l H (.loc H2.nx) (H2.new (.list xs)).2 := by
  intro W σ s Q E S hQ
  rw [eval_ListComp]
  refine comp_core IH c k hok hns hs e hlen S fun W' h' tk D Ca oC m le S' hn ho hc hm => ?_
  exact ⟨m, hn, fun h'' hsb => hQ W' h'' tk _ le (S'.uncomp ho hc hsb) (.loc hm)⟩
theorem assignComp_ok {tg elt itE : Expr} {ifs : List Expr} {csc : Scope} {pos spos py : Pos} {y : Str} {src : Src} {xs : List AV} (IH : Sound g n r) (c : CxOk g x n) (hfm : x.fm = none) (k : ScOk sc x.env) (hok : compOk sc csc = true) (hns : notSet itE = true) (hs : SrcOk g x itE tg l H src H1)
    (e : compGo r csc elt tg ifs src 4000 0 (stripL csc.names l) H1 = some (xs, H2)) (hlen : xs.length ≤ 400000) (hy : isLocal sc y = true)
    (hsw : swapsWith (.ListComp elt [⟨tg, itE, ifs, 0⟩] csc pos) (some (.Name y py)) spos.line x.env = pure true) {Q : Flow → Shared → Prop} (S : St g x W l H σ s.heap)
    (hQ : PF g x W (put (nm y) (.loc H2.nx) l) (H2.new (.list xs)).2 .next Q s) : wpAny (model g.prog g.w) x.A (exec (.Assign [.Name y py] (.ListComp elt [⟨tg, itE, ifs, 0⟩] csc pos) spos) x.env) Q E s := by
  rw [exec_Assign_Name_used _ _ _ _ hsw]
  refine wpAny_bind (wpAny_standAt (wpAny_bind ?_))
  show wpAny _ x.A (do let _ ← comprehension (.ListComp elt [⟨tg, itE, ifs, 0⟩] csc pos) csc x.env _ (newList []) false (eval itE x.env) (some (assign (.Name y py) x.env))) _ _ s
  refine wpAny_bind (wpAny_mono (comp_core (Q := fun _ s' => Q .next s') IH c k hok hns hs e hlen S fun W' h' tk D Ca oC m le S' hn ho hc hm => ?_) (fun _ s' hq => wpAny_pure (wpAny_pure hq)) fun _ _ z => z)
  refine assign_name (x := x.plus [(Ca, oC)]) (s := { s with heap := h', toks := tk }) (c.plus _) S' k hy (.inl hfm) (.loc hm) fun σ3 h3 tk3 S3 => ?_
  have h1 := S'.at (p := (Ca, oC)) (by simp [Cx.plus])
  have h3 := S3.at (p := (Ca, oC)) (by simp [Cx.plus])
  refine ⟨m, ?_, fun h'' hsb => hQ W' σ3 h'' tk3 _ le (S3.uncomp ho hc hsb) .next⟩
  obtain ⟨o, es, ep, g1, g2⟩ := hn
  simp only at h1 h3
  rw [g1] at h1
  have := Option.some.inj h1
  subst this
  exact ⟨_, es, ep, h3, g2⟩
end
end Mine

set_option maxRecDepth 100000
namespace Mine
open PySem PySem.W PySem.Calls PySem.Spec PyProof.Rows
section
variable {g : G} {C : Cfg} {x : Cx} {n : Nat} {W : Wd} {l l' : L} {H H' H1 H2 : Mine.H} {σ : Sg} {s : Shared} {E : Value → Shared → Prop} {r : R} {sc : Scope}
noncomputable def ownedT (T : String) : Bool := ["enumerate", "zip", "dict_itemiterator", "dict_reverseitemiterator", "odict_iterator", "itertools.zip_longest", "itertools.pairwise"].contains T
theorem letGo_plain {M : Model} {A : Around} {tg : Expr} {I : Addr} {o : Obj} {T : String} {u : Value} {Q : Unit → Shared → Prop} (ho : s.heap.get? I = some o) (hc : o.cls = .type T) (hT : ownedT T = false) (h : Q () s) : wpAny M A (letOwnedTupleGo tg (.ref I) u) Q E s := by
  have key : wpAny M A (match u with
      | .ref a => (do
        let o ← load I
        match o.cls, o.data with
        | .type n, .fields vs =>
          if (["enumerate", "zip", "dict_itemiterator", "dict_reverseitemiterator", "odict_iterator", "itertools.zip_longest", "itertools.pairwise"].contains n && vs[0]? == some (rawInt a)) = true then do
            rule "for.unpacks-the-owned-tuple"
            updateField I 0 .none
          else pure ()
        | _, _ => pure ())
      | _ => pure ()) Q E s := by
    cases u <;> first | exact wpAny_pure h | skip
    refine wpAny_bind (wpAny_load ho ?_)
    rw [hc]
    split
    · rename_i n vs e1 _
      have : n = T := by injection e1 with e1; exact e1.symm
      subst this
      have hT' : (["enumerate", "zip", "dict_itemiterator", "dict_reverseitemiterator", "odict_iterator", "itertools.zip_longest", "itertools.pairwise"].contains n) = false := hT
      rw [hT', Bool.false_and, if_neg Bool.false_ne_true]
      exact wpAny_pure h
    · exact wpAny_pure h
  cases tg <;> first | exact wpAny_pure h | (cases u <;> exact key)
/-- an iterator that is one object -/
structure OneIter (g : G) (x : Cx) (src : Src) (I : Addr) (T : String) (P : Nat → Wd → Obj → Prop) : Prop where
  kind : ∀ {k W o}, P k W o → o.cls = .type T ∧ ∃ vs, o.data = .fields vs
  mono : ∀ {k W W' o}, W.le W' → P k W o → P k W' o
  next : ∀ {k : Nat} {W : Wd} {l : Mine.L} {H : Mine.H} {σ : Sg} {s : Shared} {E : Value → Shared → Prop} {o : Obj} {v : AV} {Q : Option Value → Shared → Prop}, P k W o → St g (x.plus [(I, o)]) W l H σ s.heap → s.heap.get? I = some o → src.item H k = some (some v) →
    (∀ h' tk u o', Heap.SameBut I s.heap h' → h'.get? I = some o' → P (k + 1) W o' → VR g W v u → Q (some u) { s with heap := h', toks := tk }) → wpAny (model g.prog g.w) x.A (pyNext (.ref I)) Q E s
  done : ∀ {k : Nat} {W : Wd} {l : Mine.L} {H : Mine.H} {σ : Sg} {s : Shared} {E : Value → Shared → Prop} {o : Obj} {Q : Option Value → Shared → Prop}, P k W o → St g (x.plus [(I, o)]) W l H σ s.heap → s.heap.get? I = some o → src.item H k = some none →
    (∀ h' tk, Heap.ExtBut I s.heap h' → Q none { s with heap := h', toks := tk }) → wpAny (model g.prog g.w) x.A (pyNext (.ref I)) Q E s
  self : ∀ {W : Wd} {s : Shared} {E : Value → Shared → Prop} {o : Obj} {Q : Value → Shared → Prop}, P 0 W o → s.heap.get? I = some o → Q (.ref I) s → wpAny (model g.prog g.w) x.A (pyIter (.ref I)) Q E s
theorem OneIter.ok {src : Src} {I : Addr} {T : String} {P : Nat → Wd → Obj → Prop} (O : OneIter g x src I T P) (hT : ownedT T = false) (tg : Expr) : IterOk g x tg src (.ref I) (fun k W own => ∃ o, own = [(I, o)] ∧ P k W o) where
  mono := fun le ⟨o, e, p⟩ => ⟨o, e, O.mono le p⟩
  nc := fun ⟨o, e, p⟩ q hq u z => by
    subst e
    rw [List.mem_singleton] at hq; subst hq
    obtain ⟨_, vs, hd⟩ := O.kind p
    simp only at z
    rw [hd] at z; cases z
  next := fun {k W l H σ s E own v Q} ⟨o, e, p⟩ S hoo hv hQ => by
    subst e
    have ho := S.at (p := (I, o)) (by simp [Cx.plus])
    obtain ⟨hc, vs, hd⟩ := O.kind p
    refine O.next p S ho hv fun h' tk u o' hs ho' p' ru => ⟨u, rfl, ?_⟩
    refine letGo_plain ho' (O.kind p').1 hT ?_
    refine hQ W h' tk u [(I, o')] (Wd.le.refl W) ⟨o', rfl, p'⟩ (fun q hq z hz => ?_) (S.move hoo rfl (fun q hq u z => ?_) (fun q hq => ?_) fun b ob hb e => ?_) ru
    · rw [List.mem_singleton] at hq; subst hq; exact hoo (I, o) List.mem_cons_self z hz
    · rw [List.mem_singleton] at hq; subst hq; simp only at z; rw [hd] at z; cases z
    · rw [List.mem_singleton] at hq; subst hq; exact ho'
    · exact (hs.2 b fun z => hb (by rw [z]; simp)).trans e
  done := fun {k W l H σ s E own Q} ⟨o, e, p⟩ S hoo hv hQ => by
    subst e
    have ho := S.at (p := (I, o)) (by simp [Cx.plus])
    obtain ⟨hc, vs, hd⟩ := O.kind p
    refine O.done p S ho hv fun h' tk hs => ⟨rfl, hQ h' tk (S.gone hoo (fun q hq u z => ?_) fun b ob hb e => hs b ob (fun z => hb (by rw [z]; simp)) e)⟩
    rw [List.mem_singleton] at hq; subst hq; simp only at z; rw [hd] at z; cases z
  self := fun {W l H σ s E own Q} ⟨o, e, p⟩ S hQ => by
    subst e
    exact O.self p (S.at (p := (I, o)) (by simp [Cx.plus])) hQ

theorem get_unique {h : Heap} {a : Addr} {o o' : Obj} (h1 : h.get? a = some o) (h2 : h.get? a = some o') : o = o' := Option.some.inj (h1.symm.trans h2)
/-- over a list -/
theorem iter_list (c : CxOk g x n) (i : Nat) (I : Addr) : OneIter g x (.seq (.loc i)) I "list_iterator" (fun k W o => ∃ a, (2 * i, a) ∈ W.mp ∧ o.cls = .type "list_iterator" ∧ o.data = .fields #[.ref a, .int k 0]) where
  kind := fun ⟨a, _, h1, h2⟩ => ⟨h1, _, h2⟩
  mono := fun le ⟨a, h0, h1, h2⟩ => ⟨a, le.2 _ h0, h1, h2⟩
  next := fun {k W l H σ s E o v Q} ⟨a, h0, h1, h2⟩ S ho hv hQ => by
    have hv' : itemOf H (.loc i) k = some (some v) := hv
    have hv2 : (match items H (.loc i) with | some vs => some (nth vs k) | none => none) = some (some v) := hv'
    split at hv2
    · rename_i vs hvs
      have hvs' : (match H.get i with | some (.list vs) => some vs | _ => none) = some vs := hvs
      split at hvs'
      · rename_i vs2 hg
        first | exact xN hvs' | exact xS hvs' | (obtain rfl := x1 hvs'; clear hvs') | (obtain ⟨rfl, rfl⟩ := x2 hvs'; clear hvs') | (obtain ⟨rfl, rfl, rfl⟩ := x3 hvs'; clear hvs') | (exfalso; cases hvs'; done) | cases hvs'
        obtain ⟨a1, w1, k1, e1, g1, r1, l1⟩ := S.getL hg (.loc h0)
        first | exact xN e1 | exact xS e1 | (obtain rfl := x1 e1; clear e1) | (obtain ⟨rfl, rfl⟩ := x2 e1; clear e1) | (obtain ⟨rfl, rfl, rfl⟩ := x3 e1; clear e1) | (exfalso; cases e1; done) | cases e1
        obtain ⟨u, hu, ru⟩ := r1.at (Option.some.inj hv2)
        have hL : s.heap.IsList a w1.toArray := ⟨_, g1, rfl, k1, rfl⟩
        refine wpAny_pyNext_list_item ⟨o, ho, h1, h2⟩ hL hu fun h' hit hs => ?_
        obtain ⟨o', ho', c', d'⟩ := hit
        exact hQ h' s.toks u o' hs ho' ⟨a, h0, c', d'⟩ ru
      · first | exact xN hvs' | exact xS hvs' | (obtain rfl := x1 hvs'; clear hvs') | (obtain ⟨rfl, rfl⟩ := x2 hvs'; clear hvs') | (obtain ⟨rfl, rfl, rfl⟩ := x3 hvs'; clear hvs') | (exfalso; cases hvs'; done) | cases hvs'
    · first | exact xN hv2 | exact xS hv2 | (obtain rfl := x1 hv2; clear hv2) | (obtain ⟨rfl, rfl⟩ := x2 hv2; clear hv2) | (obtain ⟨rfl, rfl, rfl⟩ := x3 hv2; clear hv2) | (exfalso; cases hv2; done) | cases hv2
  done := fun {k W l H σ s E o Q} ⟨a, h0, h1, h2⟩ S ho hv hQ => by
    have hv2 : (match items H (.loc i) with | some vs => some (nth vs k) | none => none) = some none := hv
    split at hv2
    · rename_i vs hvs
      have hvs' : (match H.get i with | some (.list vs) => some vs | _ => none) = some vs := hvs
      split at hvs'
      · rename_i vs2 hg
        first | exact xN hvs' | exact xS hvs' | (obtain rfl := x1 hvs'; clear hvs') | (obtain ⟨rfl, rfl⟩ := x2 hvs'; clear hvs') | (obtain ⟨rfl, rfl, rfl⟩ := x3 hvs'; clear hvs') | (exfalso; cases hvs'; done) | cases hvs'
        obtain ⟨a1, w1, k1, e1, g1, r1, l1⟩ := S.getL hg (.loc h0)
        first | exact xN e1 | exact xS e1 | (obtain rfl := x1 e1; clear e1) | (obtain ⟨rfl, rfl⟩ := x2 e1; clear e1) | (obtain ⟨rfl, rfl, rfl⟩ := x3 e1; clear e1) | (exfalso; cases e1; done) | cases e1
        have hL : s.heap.IsList a w1.toArray := ⟨_, g1, rfl, k1, rfl⟩
        have hno := r1.none (Option.some.inj hv2)
        exact wpAny_pyNext_list_end c.hand ⟨o, ho, h1, h2⟩ hL (by simpa using hno) fun h' hs => hQ h' s.toks hs
      · first | exact xN hvs' | exact xS hvs' | (obtain rfl := x1 hvs'; clear hvs') | (obtain ⟨rfl, rfl⟩ := x2 hvs'; clear hvs') | (obtain ⟨rfl, rfl, rfl⟩ := x3 hvs'; clear hvs') | (exfalso; cases hvs'; done) | cases hvs'
    · first | exact xN hv2 | exact xS hv2 | (obtain rfl := x1 hv2; clear hv2) | (obtain ⟨rfl, rfl⟩ := x2 hv2; clear hv2) | (obtain ⟨rfl, rfl, rfl⟩ := x3 hv2; clear hv2) | (exfalso; cases hv2; done) | cases hv2
  self := fun {W s E o Q} ⟨a, h0, h1, h2⟩ ho hQ => wpAny_pyIter_listiter ⟨o, ho, h1, h2⟩ hQ
/-- over a tuple -/
theorem iter_tuple (c : CxOk g x n) (vs : List AV) (I : Addr) : OneIter g x (.seq (.tup vs)) I "tuple_iterator" (fun k W o => ∃ a ws, (TupIn g W a ws ∧ VRs g W vs ws) ∧ o.cls = .type "tuple_iterator" ∧ o.data = .fields #[.ref a, .int k 0]) where
  kind := fun ⟨a, ws, _, h1, h2⟩ => ⟨h1, _, h2⟩
  mono := fun le ⟨a, ws, h0, h1⟩ => ⟨a, ws, ⟨h0.1.mono le, h0.2.mono le⟩, h1⟩
  next := fun {k W l H σ s E o v Q} ⟨a, ws, ⟨h0, h1⟩, h2, h3⟩ S ho hv hQ => by
    have hv2 : some (nth vs k) = some (some v) := hv
    obtain ⟨u, hu, ru⟩ := h1.at (Option.some.inj hv2)
    have hT := (S.tups (c.plus _)) _ _ h0
    refine wpAny_pyNext_tuple_item ⟨o, ho, h2, h3⟩ hT hu fun h' hit hs => ?_
    obtain ⟨o', ho', c', d'⟩ := hit
    exact hQ h' s.toks u o' hs ho' ⟨a, ws, ⟨h0, h1⟩, c', d'⟩ ru
  done := fun {k W l H σ s E o Q} ⟨a, ws, ⟨h0, h1⟩, h2, h3⟩ S ho hv hQ => by
    have hv2 : some (nth vs k) = some none := hv
    have hT := (S.tups (c.plus _)) _ _ h0
    have hno := h1.none (Option.some.inj hv2)
    exact wpAny_pyNext_tuple_end c.hand ⟨o, ho, h2, h3⟩ hT (by simpa using hno) fun h' hs => hQ h' s.toks hs
  self := fun {W s E o Q} ⟨a, ws, ⟨h0, h1⟩, h2, h3⟩ ho hQ => wpAny_pyIter_tupleiter ⟨o, ho, h2, h3⟩ hQ
end
end Mine

set_option maxRecDepth 100000
namespace Mine
open PySem PySem.W PySem.Calls PySem.Spec PyProof.Rows
section
variable {g : G} {C : Cfg} {x : Cx} {n : Nat} {W : Wd} {l l' : L} {H H' H1 H2 : Mine.H} {σ : Sg} {s : Shared} {E : Value → Shared → Prop} {r : R} {sc : Scope}

theorem nth_get {α : Type} : ∀ (l : List α) (k : Nat), nth l k = l[k]?
  | [], _ => by rfl
  | _ :: _, 0 => rfl
  | _ :: r, k + 1 => by rw [List.getElem?_cons_succ]; exact nth_get r k
/-- over a literal's signs -/
theorem iter_strA (c : CxOk g x n) (cs : List Nat) (I : Addr) : OneIter g x (.seq (.str cs)) I "str_ascii_iterator" (fun k _ o => o.cls = .type "str_ascii_iterator" ∧ ∃ t, o.data = .fields #[.str ⟨cs.toArray⟩ t, .int k 0]) where
  kind := fun ⟨h1, t, h2⟩ => ⟨h1, _, h2⟩
  mono := fun _ h => h
  next := fun {k W l H σ s E o v Q} ⟨h1, t, h2⟩ S ho hv hQ => by
    have hv2 : (match nth cs k with | some c => (match mkS [c] with | some v => some (some v) | Option.none => Option.none) | Option.none => some Option.none) = some (some v) := hv
    split at hv2
    · rename_i cc hc
      split at hv2
      · rename_i v2 hm
        first | exact xN hv2 | exact xS hv2 | (obtain rfl := x1 hv2; clear hv2) | (obtain ⟨rfl, rfl⟩ := x2 hv2; clear hv2) | (obtain ⟨rfl, rfl, rfl⟩ := x3 hv2; clear hv2) | (exfalso; cases hv2; done) | cases hv2
        unfold mkS at hm
        split at hm
        · rename_i hb
          first | exact xN hm | exact xS hm | (obtain rfl := x1 hm; clear hm) | (obtain ⟨rfl, rfl⟩ := x2 hm; clear hm) | (obtain ⟨rfl, rfl, rfl⟩ := x3 hm; clear hm) | (exfalso; cases hm; done) | cases hm
          refine wpAny_pyNext_ascii_item (x := ⟨cs.toArray⟩) (c := cc) ⟨o, ho, h1, h2⟩ (by rw [nth_get] at hc; simpa using hc) fun h' hit hs => ?_
          obtain ⟨o', ho', c', d'⟩ := hit
          exact hQ h' _ _ o' hs ho' ⟨c', t, d'⟩ (.str [cc] _ hb)
        · first | exact xN hm | exact xS hm | (obtain rfl := x1 hm; clear hm) | (obtain ⟨rfl, rfl⟩ := x2 hm; clear hm) | (obtain ⟨rfl, rfl, rfl⟩ := x3 hm; clear hm) | (exfalso; cases hm; done) | cases hm
      · first | exact xN hv2 | exact xS hv2 | (obtain rfl := x1 hv2; clear hv2) | (obtain ⟨rfl, rfl⟩ := x2 hv2; clear hv2) | (obtain ⟨rfl, rfl, rfl⟩ := x3 hv2; clear hv2) | (exfalso; cases hv2; done) | cases hv2
    · first | exact xN hv2 | exact xS hv2 | (obtain rfl := x1 hv2; clear hv2) | (obtain ⟨rfl, rfl⟩ := x2 hv2; clear hv2) | (obtain ⟨rfl, rfl, rfl⟩ := x3 hv2; clear hv2) | (exfalso; cases hv2; done) | cases hv2
  done := fun {k W l H σ s E o Q} ⟨h1, t, h2⟩ S ho hv hQ => by
    have hv2 : (match nth cs k with | some c => (match mkS [c] with | some v => some (some v) | Option.none => Option.none) | Option.none => some Option.none) = some none := hv
    split at hv2
    · split at hv2 <;> cases hv2
    · rename_i hc
      exact wpAny_pyNext_ascii_end c.hand (x := ⟨cs.toArray⟩) ⟨o, ho, h1, h2⟩ (by rw [nth_get] at hc; simpa using hc) fun h' hs => hQ h' s.toks hs
  self := fun {W s E o Q} ⟨h1, t, h2⟩ ho hQ => wpAny_pyIter_striter_ascii ⟨o, ho, h1, h2⟩ hQ
theorem iter_strW (c : CxOk g x n) (cs : List Nat) (I : Addr) : OneIter g x (.seq (.str cs)) I "str_iterator" (fun k _ o => o.cls = .type "str_iterator" ∧ ∃ t, o.data = .fields #[.str ⟨cs.toArray⟩ t, .int k 0]) where
  kind := fun ⟨h1, t, h2⟩ => ⟨h1, _, h2⟩
  mono := fun _ h => h
  next := fun {k W l H σ s E o v Q} ⟨h1, t, h2⟩ S ho hv hQ => by
    have hv2 : (match nth cs k with | some c => (match mkS [c] with | some v => some (some v) | Option.none => Option.none) | Option.none => some Option.none) = some (some v) := hv
    split at hv2
    · rename_i cc hc
      split at hv2
      · rename_i v2 hm
        first | exact xN hv2 | exact xS hv2 | (obtain rfl := x1 hv2; clear hv2) | (obtain ⟨rfl, rfl⟩ := x2 hv2; clear hv2) | (obtain ⟨rfl, rfl, rfl⟩ := x3 hv2; clear hv2) | (exfalso; cases hv2; done) | cases hv2
        unfold mkS at hm
        split at hm
        · rename_i hb
          first | exact xN hm | exact xS hm | (obtain rfl := x1 hm; clear hm) | (obtain ⟨rfl, rfl⟩ := x2 hm; clear hm) | (obtain ⟨rfl, rfl, rfl⟩ := x3 hm; clear hm) | (exfalso; cases hm; done) | cases hm
          refine wpAny_pyNext_wide_item (x := ⟨cs.toArray⟩) (c := cc) ⟨o, ho, h1, h2⟩ (by rw [nth_get] at hc; simpa using hc) fun h' hit hs => ?_
          obtain ⟨o', ho', c', d'⟩ := hit
          exact hQ h' _ _ o' hs ho' ⟨c', t, d'⟩ (.str [cc] _ hb)
        · first | exact xN hm | exact xS hm | (obtain rfl := x1 hm; clear hm) | (obtain ⟨rfl, rfl⟩ := x2 hm; clear hm) | (obtain ⟨rfl, rfl, rfl⟩ := x3 hm; clear hm) | (exfalso; cases hm; done) | cases hm
      · first | exact xN hv2 | exact xS hv2 | (obtain rfl := x1 hv2; clear hv2) | (obtain ⟨rfl, rfl⟩ := x2 hv2; clear hv2) | (obtain ⟨rfl, rfl, rfl⟩ := x3 hv2; clear hv2) | (exfalso; cases hv2; done) | cases hv2
    · first | exact xN hv2 | exact xS hv2 | (obtain rfl := x1 hv2; clear hv2) | (obtain ⟨rfl, rfl⟩ := x2 hv2; clear hv2) | (obtain ⟨rfl, rfl, rfl⟩ := x3 hv2; clear hv2) | (exfalso; cases hv2; done) | cases hv2
  done := fun {k W l H σ s E o Q} ⟨h1, t, h2⟩ S ho hv hQ => by
    have hv2 : (match nth cs k with | some c => (match mkS [c] with | some v => some (some v) | Option.none => Option.none) | Option.none => some Option.none) = some none := hv
    split at hv2
    · split at hv2 <;> cases hv2
    · rename_i hc
      exact wpAny_pyNext_wide_end c.hand (x := ⟨cs.toArray⟩) ⟨o, ho, h1, h2⟩ (by rw [nth_get] at hc; simpa using hc) fun h' hs => hQ h' s.toks hs
  self := fun {W s E o Q} ⟨h1, t, h2⟩ ho hQ => wpAny_pyIter_striter_wide ⟨o, ho, h1, h2⟩ hQ
/-- over a range -/
theorem iter_rng (c : CxOk g x n) (a : Int) (m : Nat) (st : Int) (I : Addr) : OneIter g x (.rng a m st) I "range_iterator" (fun k _ o => k ≤ m ∧ o = { cls := .type "range_iterator", dict := none, data := .fields #[rawInt (a + st * (k : Int)), rawInt ((m : Int) - k), rawInt st], slots := #[] }) where
  kind := fun ⟨_, h1⟩ => by subst h1; exact ⟨rfl, _, rfl⟩
  mono := fun _ h => h
  next := fun {k W l H σ s E o v Q} ⟨h0, h1⟩ S ho hv hQ => by
    have hv2 : some (match Nat.blt k m with | true => some (AV.int (a + st * .ofNat k)) | false => Option.none) = some (some v) := hv
    subst h1
    split at hv2
    · rename_i hlt
      first | exact xN hv2 | exact xS hv2 | (obtain rfl := x1 hv2; clear hv2) | (obtain ⟨rfl, rfl⟩ := x2 hv2; clear hv2) | (obtain ⟨rfl, rfl, rfl⟩ := x3 hv2; clear hv2) | (exfalso; cases hv2; done) | cases hv2
      have hlt : k < m := Nat.le_of_ble_eq_true hlt
      refine wpAny_pyNext_range_item ho (by omega) fun h' hit hs => ?_
      have e1 : a + st * (k : Int) + st = a + st * ((k + 1 : Nat) : Int) := by rw [Int.natCast_add, Int.mul_add, Int.add_assoc]; simp
      have e2 : (m : Int) - (k : Int) - 1 = (m : Int) - ((k + 1 : Nat) : Int) := by omega
      rw [e1, e2] at hit
      exact hQ h' _ _ _ hs hit ⟨hlt, rfl⟩ (.int _ _)
    · first | exact xN hv2 | exact xS hv2 | (obtain rfl := x1 hv2; clear hv2) | (obtain ⟨rfl, rfl⟩ := x2 hv2; clear hv2) | (obtain ⟨rfl, rfl, rfl⟩ := x3 hv2; clear hv2) | (exfalso; cases hv2; done) | cases hv2
  done := fun {k W l H σ s E o Q} ⟨h0, h1⟩ S ho hv hQ => by
    have hv2 : some (match Nat.blt k m with | true => some (AV.int (a + st * .ofNat k)) | false => Option.none) = some none := hv
    subst h1
    split at hv2
    · first | exact xN hv2 | exact xS hv2 | (obtain rfl := x1 hv2; clear hv2) | (obtain ⟨rfl, rfl⟩ := x2 hv2; clear hv2) | (obtain ⟨rfl, rfl, rfl⟩ := x3 hv2; clear hv2) | (exfalso; cases hv2; done) | cases hv2
    · rename_i hlt
      have hlt : ¬ k < m := fun z => by rw [show Nat.blt k m = true from Nat.ble_eq_true_of_le z] at hlt; cases hlt
      exact wpAny_pyNext_range_end c.hand ho (by omega) fun h' hs => hQ h' s.toks hs
  self := fun {W s E o Q} ⟨_, h1⟩ ho hQ => by subst h1; exact wpAny_pyIter_rangeiter ho hQ
end
end Mine

set_option maxRecDepth 100000
namespace Mine.F2
open PySem PySem.F
theorem lookup_tuple_reversed : typeLookup (.type "tuple") "__reversed__" = pure none := by rw [typeLookup_type, builtinLookup_eq_fast]; kernel_rfl
theorem owner_reversed : Manifest.owners.lookup (String.ofList ['d', 'e', 's', 'r', 'e', 'v', 'e', 'r'].reverse) = some Manifest.sig_reversed := by kernel_rfl
theorem slot_reversed_init : Slot "reversed" "__init__" "object.__init__" :=
  .of (owner := "object") (n := "__init__") (by rw [typeLookup_type, builtinLookup_eq_fast]; kernel_rfl) (by decide +kernel) (by decide +kernel) (by decide +kernel)
    (by first | exact .inl (by decide +kernel) | exact .inr (by decide +kernel)) (by rw [isSubtype_type]; kernel_rfl)
theorem slot_reversed_next : Slot "reversed" "__next__" "reversed.__next__" :=
  .of (owner := "reversed") (n := "__next__") (by rw [typeLookup_type, builtinLookup_eq_fast]; kernel_rfl) (by decide +kernel) (by decide +kernel) (by decide +kernel)
    (by first | exact .inl (by decide +kernel) | exact .inr (by decide +kernel)) (by rw [isSubtype_type]; kernel_rfl)
theorem slot_reversed_iter : Slot "reversed" "__iter__" "reversed.__iter__" :=
  .of (owner := "reversed") (n := "__iter__") (by rw [typeLookup_type, builtinLookup_eq_fast]; kernel_rfl) (by decide +kernel) (by decide +kernel) (by decide +kernel)
    (by first | exact .inl (by decide +kernel) | exact .inr (by decide +kernel)) (by rw [isSubtype_type]; kernel_rfl)
theorem entry_reversed_next : entryFor table "reversed.__next__" = some Builtin.«reversed.__next__» := entryFor_of_tree (by kernel_rfl)
theorem entry_reversed_iter : entryFor table "reversed.__iter__" = some Builtin.«dict_keyiterator.__iter__» :=
  entryFor_alias (id' := "dict_keyiterator.__iter__") (by kernel_rfl) (by first | rfl | decide +kernel | (unfold String.splitOn; simp +decide [String.splitOnAux])) (by decide +kernel) (by kernel_rfl)
theorem args_reversed_next_1 (a : Value) : argsOk "reversed.__next__" ⟨[a], []⟩ := by
  unfold argsOk; rw [signature?_of (id := "reversed.__next__") (n := ['_', '_', 't', 'x', 'e', 'n', '_', '_']) (o := ['d', 'e', 's', 'r', 'e', 'v', 'e', 'r']) (by kernel_rfl) owner_reversed]; kernel_rfl
theorem args_reversed_iter_1 (a : Value) : argsOk "reversed.__iter__" ⟨[a], []⟩ := by
  unfold argsOk; rw [signature?_of (id := "reversed.__iter__") (n := ['_', '_', 'r', 'e', 't', 'i', '_', '_']) (o := ['d', 'e', 's', 'r', 'e', 'v', 'e', 'r']) (by kernel_rfl) owner_reversed]; kernel_rfl
theorem called_reversed : TypeCalled "reversed" "reversed.__new__" "object.__init__" :=
  ⟨by decide +kernel, create_reversed, ⟨_, _, mro_reversed⟩, made_reversed, plain_reversed_new, sub_reversed_self, slot_reversed_init⟩
theorem sub_tuple_dict : isSubtype (.type "tuple") (.type "dict") = pure false := by rw [isSubtype_type]; kernel_rfl
end Mine.F2
namespace Mine
open PySem PySem.W PySem.Calls PySem.Spec PyProof.Rows
section
variable {prog : Program} {w : World} {A : Around} {E : Value → Shared → Prop} {s : Shared}
noncomputable def revT (a : Addr) (i : Int) : Obj := { cls := .type "reversed", dict := none, data := .fields #[.ref a, rawInt i], slots := #[] }
theorem new_reversed (a : Addr) (ws : Array Value) (hsz : (ws.size : Int) < 2 ^ 63) :
    Meets (Builtin.«reversed.__new__» ⟨[.type "reversed", .ref a], []⟩) (fun _ R s => s.heap.IsTuple a ws ∧ ∀ tk, R (.ok (.ret (.ref s.heap.objs.size))) { s with heap := s.heap.push (revT a ((ws.size : Int) - 1)), toks := tk }) :=
  .of_wp fun prog w A R s h => by
    obtain ⟨ht, h⟩ := h
    unfold Builtin.«reversed.__new__»
    refine wpAny_bind (wpAny_of_eq (newClass_reversed _) ?_)
    try dsimp only
    refine wpAny_bind (wpAny_of_eq (a := ()) (by first | rfl | kernel_rfl) ?_)
    refine wpAny_bind (wpAny_of_eq (a := ()) (by first | rfl | kernel_rfl) ?_)
    try dsimp only
    refine wpAny_bind (wpAny_specialOf ht.typeIs F2.lookup_tuple_reversed ?_)
    try dsimp only
    refine wpAny_bind ?_
    show wpAny _ _ (isInstance (.ref a) (.type "dict") >>= _) _ _ _
    refine wpAny_bind (wpAny_isInstance ht.typeIs F2.sub_tuple_dict ?_)
    show wpAny _ _ (specialOf (.ref a) "__getitem__" >>= _) _ _ _
    refine wpAny_bind (wpAny_specialOf ht.typeIs F.slot_tuple_getitem.lookup ?_)
    refine wpAny_pure ?_
    show wpAny _ _ (call (.builtin "len") [.ref a] >>= _) _ _ _
    refine wpAny_bind (PyProof.Rows.len_tuple (items := ws) ht hsz ?_)
    refine wpAny_bind (wpAny_of_eq (a := some (ws.size : Int)) (by first | rfl | kernel_rfl) ?_)
    show wpAny _ _ (newObj (.type "reversed") (.fields #[.ref a, rawInt ((ws.size : Int) - 1)]) >>= _) _ _ _
    exact wpAny_bind (wpAny_newObj_type (wpAny_pure ⟨_, rfl, h _⟩))
theorem call_reversed_tuple {a : Addr} {ws : Array Value} {Q : Value → Shared → Prop} (ht : s.heap.IsTuple a ws) (hsz : (ws.size : Int) < 2 ^ 63)
    (h : ∀ tk, Q (.ref s.heap.objs.size) { s with heap := s.heap.push (revT a ((ws.size : Int) - 1)), toks := tk }) : wpAny (model prog w) A (call (.type "reversed") [.ref a]) Q E s :=
  callType_new F2.called_reversed (by decide) (F.typeCall_reversed_1 _) (F.newCall_reversed_1 _) (fun obj => F.args_object_init_2 obj _) F.entry_reversed_new (new_reversed a ws hsz) ⟨ht, fun tk => ⟨⟨_, Heap.get?_push_size _ rfl, rfl⟩, h tk⟩⟩
theorem wpAny_pyIter_reversed {I a : Addr} {i : Int} {Q : Value → Shared → Prop} (hz : s.heap.get? I = some (revT a i)) (h : Q (.ref I) s) : wpAny (model prog w) A (pyIter (.ref I)) Q E s := by
  have hT : s.TypeIs (.ref I) "reversed" := ⟨_, hz, rfl⟩
  refine wpAny_pyIter_slot hT F2.slot_reversed_iter (wpAny_call_entry F2.slot_reversed_iter hT F2.entry_reversed_iter ?_ (F2.args_reversed_iter_1 _))
  show wpAny _ _ (ret (.ref I)) _ _ s
  exact wpAny_pure ⟨_, rfl, "reversed", _, hT, F2.slot_reversed_next.lookup, h⟩
theorem wpAny_pyNext_reversed_item {I a : Addr} {i : Nat} {ws : Array Value} {v : Value} {Q : Option Value → Shared → Prop} (hz : s.heap.get? I = some (revT a i)) (ht : s.heap.IsTuple a ws) (hv : ws[i]? = some v) (hfit : (i : Int) < 2 ^ 62)
    (hQ : ∀ h' tk, h'.get? I = some (revT a ((i : Int) - 1)) → Heap.SameBut I s.heap h' → Q (some v) { s with heap := h', toks := tk }) : wpAny (model prog w) A (pyNext (.ref I)) Q E s := by
  have hT : s.TypeIs (.ref I) "reversed" := ⟨_, hz, rfl⟩
  have hlt : i < ws.size := (Array.getElem?_eq_some_iff.mp hv).1
  unfold pyNext
  refine wpAny_bind (wpAny_attempt (wpAny_callSpecial?_slot (name := Str.ofString "__next__") hT F2.slot_reversed_next
    (wpAny_call_entry F2.slot_reversed_next hT F2.entry_reversed_next ?_ (F2.args_reversed_next_1 _))))
  unfold Builtin.«reversed.__next__»
  refine wpAny_bind (wpAny_of_eq (a := (Value.ref I, [])) rfl ?_)
  try dsimp only
  refine wpAny_bind (wpAny_field hz rfl (x := .ref a) rfl ?_)
  refine wpAny_bind (wpAny_field hz rfl (x := rawInt (i : Int)) rfl ?_)
  show wpAny _ _ (if (i : Int) < 0 then _ else _) _ _ s
  rw [if_neg (by omega)]
  refine wpAny_bind (wpAny_specialOf ht.typeIs F.slot_tuple_getitem.lookup ?_)
  show wpAny _ _ (mkInt (i : Int) >>= _) _ _ _
  refine wpAny_bind (wpAny_mkInt ?_)
  refine wpAny_bind (wpAny_attempt ?_)
  refine PyProof.Rows.getItem_tuple (items := ws) ht (by omega) (by omega) (seqIndex_of (by omega) (by omega)) (j := i) (by simpa using hv) ?_
  show wpAny _ _ (field (.ref I) 1 >>= _) _ _ _
  refine wpAny_bind (wpAny_field hz rfl (x := rawInt (i : Int)) rfl ?_)
  show wpAny _ _ (setField (.ref I) 1 (rawInt ((i : Int) - 1)) >>= _) _ _ _
  refine wpAny_bind (wpAny_setField_rec hz (by simp) fun h' hz' hs' => ?_)
  exact wpAny_pure ⟨v, rfl, wpAny_pure (hQ h' _ hz' hs')⟩
theorem wpAny_pyNext_reversed_end {I a : Addr} {Q : Option Value → Shared → Prop} (hh : A.handled = none) (hz : s.heap.get? I = some (revT a (-1)))
    (hQ : ∀ h', Heap.ExtBut I s.heap h' → Q none { s with heap := h' }) : wpAny (model prog w) A (pyNext (.ref I)) Q E s := by
  have hT : s.TypeIs (.ref I) "reversed" := ⟨_, hz, rfl⟩
  unfold pyNext
  refine wpAny_bind (wpAny_attempt (wpAny_callSpecial?_slot (name := Str.ofString "__next__") hT F2.slot_reversed_next
    (wpAny_call_entry F2.slot_reversed_next hT F2.entry_reversed_next ?_ (F2.args_reversed_next_1 _))))
  unfold Builtin.«reversed.__next__»
  refine wpAny_bind (wpAny_of_eq (a := (Value.ref I, [])) rfl ?_)
  try dsimp only
  refine wpAny_bind (wpAny_field hz rfl (x := .ref a) rfl ?_)
  refine wpAny_bind (wpAny_field hz rfl (x := rawInt (-1)) rfl ?_)
  show wpAny _ _ (if (-1 : Int) < 0 then _ else _) _ _ s
  rw [if_pos (by decide)]
  refine wpAny_bind (wpAny_rule ?_)
  refine wpAny_bind ?_
  show wpAny _ _ (setField (.ref I) 1 (rawInt (-1)) >>= _) _ _ _
  refine wpAny_bind (wpAny_setField_rec hz (by simp) fun h₁ hz₁ hs₁ => ?_)
  show wpAny _ _ (setField (.ref I) 0 .none) _ _ _
  refine wpAny_setField_rec hz₁ (by simp) fun h₂ hz₂ hs₂ => ?_
  have base : Heap.ExtBut I s.heap h₂ := fun b o hb e => hs₂.extBut b o hb (hs₁.extBut b o hb e)
  first
  | show wpAny _ _ (newExc (.type "StopIteration") [] >>= _) _ _ _
  | (refine wpAny_bind ?_; show wpAny _ _ (newExc (.type "StopIteration") [] >>= _) _ _ _)
  refine wpAny_bind ?_
  simp only [newExc, newTuple]
  refine wpAny_bind (wpAny_newObj_type ?_ (by size_fits))
  refine wpAny_bind (m := firstArgMember _ _) (wpAny_of_eq (a := Value.none) (by first | rfl | (simp only [firstArgMember]; rfl)) ?_)
  refine wpAny_newObj_type ?_ (by size_fits)
  simp only [raiseNew]
  refine wpAny_bind (wpAny_handled ?_)
  first | rw [show A.in1.handled = none from hh] | rw [hh]
  refine wpAny_bind (wpAny_pure (wpAny_throw ?_))
  refine wpAny_bind (wpAny_isInstance (T := "StopIteration") (b := true) ⟨_, Heap.get?_push_size _ rfl, rfl⟩ isSubtype_stop ?_)
  exact wpAny_pure (hQ _ ((base.push _).push _))
end
section
variable {g : G} {C : Cfg} {x : Cx} {n : Nat} {W : Wd} {l l' : L} {H H' H1 H2 : Mine.H} {σ : Sg} {s : Shared} {E : Value → Shared → Prop} {r : R} {sc : Scope}
/-- over a tuple, from its end -/
theorem iter_rev (c : CxOk g x n) (vs : List AV) (hvs : vs.length < 2 ^ 60) (I : Addr) : OneIter g x (.rev vs) I "reversed" (fun k W o => ∃ a ws, (TupIn g W a ws ∧ VRs g W vs ws) ∧ k ≤ vs.length ∧ o = revT a ((vs.length : Int) - 1 - (k : Int))) where
  kind := fun ⟨a, ws, _, _, h⟩ => by subst h; exact ⟨rfl, _, rfl⟩
  mono := fun le ⟨a, ws, h0, h1⟩ => ⟨a, ws, ⟨h0.1.mono le, h0.2.mono le⟩, h1⟩
  next := fun {k W l H σ s E o v Q} ⟨a, ws, ⟨h0, h1⟩, h2, h3⟩ S ho hv hQ => by
    have hv2 : some (match Nat.blt k (len vs) with | true => nth vs (Nat.sub (len vs) (Nat.succ k)) | false => Option.none) = some (some v) := hv
    subst h3
    rw [len_eq] at hv2
    split at hv2
    · rename_i hlt
      have hlt : k < vs.length := Nat.le_of_ble_eq_true hlt
      obtain ⟨u, hu, ru⟩ := h1.at (Option.some.inj hv2)
      have hT := (S.tups (c.plus _)) _ _ h0
      have e : (vs.length : Int) - 1 - (k : Int) = ((vs.length - (k + 1) : Nat) : Int) := by omega
      rw [e] at ho
      refine wpAny_pyNext_reversed_item ho hT hu (by omega) fun h' tk hit hs => ?_
      refine hQ h' tk u _ hs hit ⟨a, ws, ⟨h0, h1⟩, hlt, ?_⟩ ru
      congr 1
      omega
    · first | exact xN hv2 | exact xS hv2 | (obtain rfl := x1 hv2; clear hv2) | (obtain ⟨rfl, rfl⟩ := x2 hv2; clear hv2) | (obtain ⟨rfl, rfl, rfl⟩ := x3 hv2; clear hv2) | (exfalso; cases hv2; done) | cases hv2
  done := fun {k W l H σ s E o Q} ⟨a, ws, ⟨h0, h1⟩, h2, h3⟩ S ho hv hQ => by
    have hv2 : some (match Nat.blt k (len vs) with | true => nth vs (Nat.sub (len vs) (Nat.succ k)) | false => Option.none) = some none := hv
    subst h3
    rw [len_eq] at hv2
    split at hv2
    · rename_i hlt
      have hlt : k < vs.length := Nat.le_of_ble_eq_true hlt
      have := Option.some.inj hv2
      rw [nth_get] at this
      have hh : vs.length ≤ vs.length - (k + 1) := List.getElem?_eq_none_iff.mp this
      omega
    · rename_i hlt
      have hlt : ¬ k < vs.length := fun z => by rw [show Nat.blt k vs.length = true from Nat.ble_eq_true_of_le z] at hlt; cases hlt
      have e : (vs.length : Int) - 1 - (k : Int) = -1 := by omega
      rw [e] at ho
      exact wpAny_pyNext_reversed_end c.hand ho fun h' hs => hQ h' s.toks hs
  self := fun {W s E o Q} ⟨a, ws, _, _, h3⟩ ho hQ => by subst h3; exact wpAny_pyIter_reversed ho hQ
end
end Mine

set_option maxRecDepth 100000
namespace Mine
open PySem PySem.W PySem.Calls PySem.Spec PyProof.Rows
section
variable {prog : Program} {w : World} {A : Around} {E : Value → Shared → Prop} {s : Shared}
theorem nextOf_tuple_item {it t : Addr} {i : Nat} {ws : Array Value} {v : Value} {Q : Value → Shared → Prop} (hit : s.heap.IsTupleIter it t i) (ht : s.heap.IsTuple t ws) (hv : ws[i]? = some v)
    (hQ : ∀ h', h'.IsTupleIter it t (i + 1) → Heap.SameBut it s.heap h' → Q v { s with heap := h' }) : wpAny (model prog w) A (Builtin.SmallTypes.nextOf (.ref it)) Q E s := by
  obtain ⟨o, ho, hc, hd⟩ := id hit
  obtain ⟨ol, hol, _, nl, hdl⟩ := ht
  unfold Builtin.SmallTypes.nextOf
  refine wpAny_bind (wpAny_callSpecial?_slot (name := Str.ofString "__next__") hit.typeIs F.slot_tuple_iterator_next
    (wpAny_call_entry F.slot_tuple_iterator_next hit.typeIs F.entry_tuple_iterator_next ?_ (F.args_tuple_iterator_next_1 _)))
  show wpAny _ _ (field (.ref it) 0 >>= _) _ _ s
  refine wpAny_bind (wpAny_field ho hd (x := .ref t) rfl ?_)
  show wpAny _ _ (if (Value.ref t == Value.none) = true then _ else _) _ _ s
  rw [if_neg (show ¬ ((Value.ref t == Value.none) = true) from Bool.false_ne_true)]
  show wpAny _ _ (field (.ref it) 1 >>= _) _ _ s
  refine wpAny_bind (wpAny_field ho hd (x := .int i 0) rfl ?_)
  show wpAny _ _ (seqItems? (.ref t) >>= _) _ _ s
  refine wpAny_bind (wpAny_seqItems hol hdl ?_)
  simp only [Int.toNat_natCast, hv]
  refine wpAny_bind (wpAny_setField ho hd (by simp) (wpAny_pure ⟨v, rfl, wpAny_pure (hQ _ ?_ (Heap.SameBut.update ..))⟩))
  exact ⟨_, Heap.get?_update_self _ ho (Obj.isFreed_of_fields (Obj.data_mapFields hd _)), (Obj.cls_mapFields ..).trans hc, by
    rw [Obj.data_mapFields hd]; simp [rawInt]⟩
end
end Mine

set_option maxRecDepth 100000
namespace Mine
open PySem PySem.W PySem.Calls PySem.Spec PyProof.Rows
section
variable {prog : Program} {w : World} {A : Around} {E : Value → Shared → Prop} {s : Shared}
/-- the things of a zip over a list and a tuple -/
structure ZipAt (h : Heap) (z TI TO i1 i2 l t : Addr) (k : Nat) (f0 a b : Value) : Prop where
  z : IsZip h z TI TO f0
  ti : IsPair h TI (.ref i1) (.ref i2)
  to : IsPair h TO a b
  i1 : h.IsListIter i1 l k
  i2 : h.IsTupleIter i2 t k
theorem zip_item {z TI TO i1 i2 l t : Addr} {k : Nat} {xs ys : Array Value} {u v a b : Value} {Q : Value → Shared → Prop} (D : ZipApart z TI TO i1 i2 l t)
    (Z : ZipAt s.heap z TI TO i1 i2 l t k .none a b) (hl : s.heap.IsList l xs) (ht : s.heap.IsTuple t ys) (hx : xs[k]? = some u) (hy : ys[k]? = some v)
    (hQ : ∀ h', ZipAt h' z TI TO i1 i2 l t (k + 1) (rawInt s.heap.objs.size) u v → h'.get? s.heap.objs.size = some { cls := .type "tuple", data := .seq #[u, v] } →
      (∀ c o, c ≠ z → c ≠ TO → c ≠ i1 → c ≠ i2 → s.heap.get? c = some o → h'.get? c = some o) → Q (.ref s.heap.objs.size) { s with heap := h' }) :
    wpAny (model prog w) A (Builtin.«zip.__next__» ⟨[.ref z], []⟩) (fun fin s' => ∃ v, fin = .done (.ret v) ∧ Q v s') E s := by
  obtain ⟨hz, hTI, hTO, h1, h2⟩ := Z
  show wpAny _ _ (field (.ref z) 2 >>= _) _ _ _
  refine wpAny_bind (wpAny_field hz rfl (x := .bool false) rfl ?_)
  show wpAny _ _ (field (.ref z) 3 >>= _) _ _ _
  refine wpAny_bind (wpAny_field hz rfl (x := .ref TI) rfl ?_)
  refine wpAny_bind (wpAny_seqItems hTI rfl ?_)
  show wpAny _ _ (Builtin.SmallTypes.ownedTupleIsFree (.ref z) >>= _) _ _ _
  refine wpAny_bind ?_
  unfold Builtin.SmallTypes.ownedTupleIsFree
  refine wpAny_bind (wpAny_field hz rfl (x := .none) rfl (wpAny_pure ?_))
  simp only [if_true]
  refine wpAny_bind (wpAny_rule ?_)
  refine wpAny_bind (wpAny_field hz rfl (x := .ref TO) rfl ?_)
  refine wpAny_bind (wpAny_setField_rec hz (by simp) fun g1 hz1 s1 => ?_)
  replace hz1 : IsZip g1 z TI TO .ellipsis := hz1
  refine wpAny_bind ?_
  simp only [List.zipIdx_cons, List.zipIdx_nil, List.forIn_cons, List.forIn_nil]
  refine wpAny_bind (wpAny_bind (wpAny_onRaise ?_))
  show wpAny _ _ (Builtin.SmallTypes.nextOf (.ref i1) >>= _) _ _ _
  refine wpAny_bind (wpAny_nextOf_list_item (h1.extBut s1.extBut D.i1z) (hl.extBut s1.extBut D.l1z) hx fun g2 a1 s2 => wpAny_pure ?_)
  have b2 : IsPair g2 TO a b := s2.extBut _ _ D.TOi1 (s1.extBut _ _ D.TOz hTO)
  refine wpAny_bind (wpAny_seqItems b2 rfl ?_)
  refine wpAny_bind (wpAny_updateSeq_pair b2 fun g3 b3 s3 => ?_)
  replace b3 : IsPair g3 TO u b := b3
  refine wpAny_bind (wpAny_letGo (wpAny_pure ?_))
  refine wpAny_bind (wpAny_bind (wpAny_onRaise ?_))
  show wpAny _ _ (Builtin.SmallTypes.nextOf (.ref i2) >>= _) _ _ _
  refine wpAny_bind (nextOf_tuple_item (((h2.extBut s1.extBut D.i2z).extBut s2.extBut D.i12.symm).extBut s3.extBut D.TOi2.symm)
    (((ht.extBut s1.extBut D.l2z).extBut s2.extBut D.l2i1).extBut s3.extBut D.l2TO) hy fun g4 a2 s4 => wpAny_pure ?_)
  have b4 : IsPair g4 TO u b := s4.extBut _ _ D.TOi2 b3
  refine wpAny_bind (wpAny_seqItems b4 rfl ?_)
  refine wpAny_bind (wpAny_updateSeq_pair b4 fun g5 b5 s5 => ?_)
  replace b5 : IsPair g5 TO u v := b5
  refine wpAny_bind (wpAny_letGo (wpAny_pure (wpAny_pure ?_)))
  refine wpAny_bind (wpAny_seqItems b5 rfl ?_)
  refine wpAny_bind (wpAny_newTuple ?_)
  have sz : g5.objs.size = s.heap.objs.size := by rw [s5.1, s4.1, s3.1, s2.1, s1.1]
  have z5 : IsZip g5 z TI TO .ellipsis := s5.extBut _ _ D.TOz.symm (s4.extBut _ _ D.i2z.symm (s3.extBut _ _ D.TOz.symm (s2.extBut _ _ D.i1z.symm hz1)))
  have k5 : ∀ c o, c ≠ z → c ≠ TO → c ≠ i1 → c ≠ i2 → s.heap.get? c = some o → g5.get? c = some o := fun c o c1 c2 c3 c4 e =>
    s5.extBut _ _ c2 (s4.extBut _ _ c4 (s3.extBut _ _ c2 (s2.extBut _ _ c3 (s1.extBut _ _ c1 e))))
  have p1 : g5.IsListIter i1 l (k + 1) := ((a1.extBut s3.extBut D.TOi1.symm).extBut s4.extBut D.i12).extBut s5.extBut D.TOi1.symm
  have p2 : g5.IsTupleIter i2 t (k + 1) := a2.extBut s5.extBut D.TOi2.symm
  have zlt : z < g5.objs.size := Heap.lt_size z5
  show wpAny _ _ (Builtin.SmallTypes.ownedTupleHandOut (.ref z) (.ref g5.objs.size) >>= _) _ _ _
  refine wpAny_bind ?_
  unfold Builtin.SmallTypes.ownedTupleHandOut
  have z6 : IsZip (g5.push { cls := .type "tuple", data := .seq #[u, v] }) z TI TO .ellipsis := Heap.get?_push_of_some _ z5
  refine wpAny_bind (wpAny_setField_rec z6 (by simp) fun g7 z7 s7 => ?_)
  replace z7 : IsZip g7 z TI TO (rawInt g5.objs.size) := z7
  refine wpAny_setField_rec z7 (by simp) fun g8 z8 s8 => ?_
  replace z8 : IsZip g8 z TI TO (rawInt g5.objs.size) := z8
  have up : ∀ c o, c ≠ z → g5.get? c = some o → g8.get? c = some o := fun c o c1 e => s8.extBut _ _ c1 (s7.extBut _ _ c1 (Heap.get?_push_of_some _ e))
  have t8 : g8.get? g5.objs.size = some { cls := .type "tuple", data := .seq #[u, v] } := s8.extBut _ _ (Nat.ne_of_gt zlt) (s7.extBut _ _ (Nat.ne_of_gt zlt) (Heap.get?_push_size _ rfl))
  rw [sz] at z8 t8
  refine wpAny_pure ⟨_, rfl, ?_⟩
  show Q (.ref g5.objs.size) _
  rw [sz]
  refine hQ g8 ⟨z8, ?_, up _ _ D.TOz b5, ?_, ?_⟩ t8 fun c o c1 c2 c3 c4 e => up c o c1 (k5 c o c1 c2 c3 c4 e)
  · exact up _ _ D.TIz (k5 _ _ D.TIz D.TITO D.TIi1 D.TIi2 hTI)
  · obtain ⟨o, ho, q⟩ := p1; exact ⟨o, up _ _ D.i1z ho, q⟩
  · obtain ⟨o, ho, q⟩ := p2; exact ⟨o, up _ _ D.i2z ho, q⟩
theorem zip_end {z TI TO i1 i2 l t : Addr} {k : Nat} {xs : Array Value} {a b : Value} {Q : Fin → Shared → Prop} (hh : A.handled = none) (D : ZipApart z TI TO i1 i2 l t)
    (Z : ZipAt s.heap z TI TO i1 i2 l t k .none a b) (hl : s.heap.IsList l xs) (hx : xs[k]? = none)
    (hE : ∀ h' e, (∀ c o, c ≠ z → c ≠ TO → c ≠ i1 → c ≠ i2 → s.heap.get? c = some o → h'.get? c = some o) → (∃ o, h'.get? e = some o ∧ o.cls = .type "StopIteration") → E (.ref e) { s with heap := h' }) :
    wpAny (model prog w) A (Builtin.«zip.__next__» ⟨[.ref z], []⟩) Q E s := by
  obtain ⟨hz, hTI, hTO, h1, h2⟩ := Z
  show wpAny _ _ (field (.ref z) 2 >>= _) _ _ _
  refine wpAny_bind (wpAny_field hz rfl (x := .bool false) rfl ?_)
  show wpAny _ _ (field (.ref z) 3 >>= _) _ _ _
  refine wpAny_bind (wpAny_field hz rfl (x := .ref TI) rfl ?_)
  refine wpAny_bind (wpAny_seqItems hTI rfl ?_)
  show wpAny _ _ (Builtin.SmallTypes.ownedTupleIsFree (.ref z) >>= _) _ _ _
  refine wpAny_bind ?_
  unfold Builtin.SmallTypes.ownedTupleIsFree
  refine wpAny_bind (wpAny_field hz rfl (x := .none) rfl (wpAny_pure ?_))
  simp only [if_true]
  refine wpAny_bind (wpAny_rule ?_)
  refine wpAny_bind (wpAny_field hz rfl (x := .ref TO) rfl ?_)
  refine wpAny_bind (wpAny_setField_rec hz (by simp) fun g1 hz1 s1 => ?_)
  replace hz1 : IsZip g1 z TI TO .ellipsis := hz1
  refine wpAny_bind ?_
  simp only [List.zipIdx_cons, List.zipIdx_nil, List.forIn_cons, List.forIn_nil]
  refine wpAny_bind (wpAny_bind (wpAny_onRaise ?_))
  show wpAny _ _ (Builtin.SmallTypes.nextOf (.ref i1) >>= _) _ _ _
  refine wpAny_bind (wpAny_nextOf_list_end hh (h1.extBut s1.extBut D.i1z) (hl.extBut s1.extBut D.l1z) hx fun g2 e s2 he => ?_)
  obtain ⟨oe, hoe, hce⟩ := he
  have z2 : IsZip g2 z TI TO .ellipsis := s2 _ _ D.i1z.symm hz1
  have hez : e ≠ z := fun q => by subst q; rw [z2] at hoe; cases hoe; simp at hce
  exact wpAny_setField_rec z2 (by simp) fun g3 _ s3 => hE g3 e (fun c o c1 _ c3 _ q => s3.extBut _ _ c1 (s2 _ _ c3 (s1.extBut _ _ c1 q))) ⟨oe, s3.extBut _ _ hez hoe, hce⟩
end
end Mine
namespace Mine
open PySem PySem.W PySem.Calls PySem.Spec PyProof.Rows
section
variable {prog : Program} {w : World} {A : Around} {E : Value → Shared → Prop} {s : Shared}
theorem next_zip_item {z TI TO i1 i2 l t : Addr} {k : Nat} {xs ys : Array Value} {u v a b : Value} {Q : Option Value → Shared → Prop} (D : ZipApart z TI TO i1 i2 l t)
    (Z : ZipAt s.heap z TI TO i1 i2 l t k .none a b) (hl : s.heap.IsList l xs) (ht : s.heap.IsTuple t ys) (hx : xs[k]? = some u) (hy : ys[k]? = some v)
    (hQ : ∀ h', ZipAt h' z TI TO i1 i2 l t (k + 1) (rawInt s.heap.objs.size) u v → h'.get? s.heap.objs.size = some { cls := .type "tuple", data := .seq #[u, v] } →
      (∀ c o, c ≠ z → c ≠ TO → c ≠ i1 → c ≠ i2 → s.heap.get? c = some o → h'.get? c = some o) → Q (some (.ref s.heap.objs.size)) { s with heap := h' }) :
    wpAny (model prog w) A (pyNext (.ref z)) Q E s := by
  have hT : s.TypeIs (.ref z) "zip" := ⟨_, Z.z, rfl⟩
  unfold pyNext
  exact wpAny_bind (wpAny_attempt (wpAny_callSpecial?_slot (name := Str.ofString "__next__") hT F.slot_zip_next
    (wpAny_call_entry F.slot_zip_next hT F.entry_zip_next
      (zip_item D Z hl ht hx hy fun h' a1 a2 a3 => wpAny_pure (hQ h' a1 a2 a3)) (F.args_zip_next_1 _))))
theorem next_zip_end {z TI TO i1 i2 l t : Addr} {k : Nat} {xs : Array Value} {a b : Value} {Q : Option Value → Shared → Prop} (hh : A.handled = none) (D : ZipApart z TI TO i1 i2 l t)
    (Z : ZipAt s.heap z TI TO i1 i2 l t k .none a b) (hl : s.heap.IsList l xs) (hx : xs[k]? = none)
    (hQ : ∀ h', (∀ c o, c ≠ z → c ≠ TO → c ≠ i1 → c ≠ i2 → s.heap.get? c = some o → h'.get? c = some o) → Q none { s with heap := h' }) : wpAny (model prog w) A (pyNext (.ref z)) Q E s := by
  have hT : s.TypeIs (.ref z) "zip" := ⟨_, Z.z, rfl⟩
  unfold pyNext
  refine wpAny_bind (wpAny_attempt (wpAny_callSpecial?_slot (name := Str.ofString "__next__") hT F.slot_zip_next
    (wpAny_call_entry F.slot_zip_next hT F.entry_zip_next (zip_end hh D Z hl hx fun h' e hk he => ?_) (F.args_zip_next_1 _))))
  obtain ⟨o, ho, hc⟩ := he
  refine wpAny_bind (wpAny_isInstance (T := "StopIteration") (b := true) ⟨o, ho, hc⟩ isSubtype_stop ?_)
  exact wpAny_pure (hQ _ hk)
noncomputable def zH1 (h : Heap) (l : Addr) : Heap := h.push { cls := .type "list_iterator", data := .fields #[.ref l, .int 0 0] }
noncomputable def zH2 (h : Heap) (l t : Addr) : Heap := (zH1 h l).push { cls := .type "tuple_iterator", data := .fields #[.ref t, .int 0 0] }
noncomputable def zH3 (h : Heap) (l t : Addr) : Heap := (zH2 h l t).push { cls := .type "tuple", data := .seq #[.ref h.objs.size, .ref (zH1 h l).objs.size] }
noncomputable def zH4 (h : Heap) (l t : Addr) : Heap := (zH3 h l t).push { cls := .type "tuple", data := .seq #[.none, .none] }
noncomputable def zH5 (h : Heap) (l t : Addr) : Heap := (zH4 h l t).push { cls := .type "zip", data := .fields #[.none, .bool false, .bool false, .ref (zH2 h l t).objs.size, .ref (zH3 h l t).objs.size] }
theorem new_zip (l t : Addr) (xs ys : Array Value) :
    Meets (Builtin.«zip.__new__» ⟨[.type "zip", .ref l, .ref t], []⟩) (fun _ R s => s.heap.IsList l xs ∧ s.heap.IsTuple t ys ∧
      R (.ok (.ret (.ref (zH4 s.heap l t).objs.size))) { s with heap := zH5 s.heap l t }) :=
  .of_wp fun prog w A R s h => by
    obtain ⟨hp, g, d, tk, os⟩ := s; obtain ⟨hl1, hl2, h⟩ := h
    have hsub := sub_zip
    have hL1 : Heap.IsList (Shared.heap ⟨hp, g, d, tk, os⟩) l xs := hl1
    have hL2 : Heap.IsTuple (Shared.heap ⟨hp.push { cls := .type "list_iterator", data := .fields #[.ref l, .int 0 0] }, g, d, tk, os⟩) t ys := Heap.IsTuple.push hl2 _
    wp_walk using wpAny_pyIter_list hL1, wpAny_pyIter_tuple hL2
    exact ⟨_, rfl, h⟩
theorem call_zip {l t : Addr} {xs ys : Array Value} {Q : Value → Shared → Prop} (hl : s.heap.IsList l xs) (ht : s.heap.IsTuple t ys)
    (h : ∀ h', ZipAt h' (s.heap.objs.size + 4) (s.heap.objs.size + 2) (s.heap.objs.size + 3) s.heap.objs.size (s.heap.objs.size + 1) l t 0 .none .none .none →
      (∀ c o, s.heap.get? c = some o → h'.get? c = some o) → Q (.ref (s.heap.objs.size + 4)) { s with heap := h' }) :
    wpAny (model prog w) A (call (.type "zip") [.ref l, .ref t]) Q E s := by
  refine callType_new F.called_zip (by decide) (F.typeCall_zip_2 _ _) (F.newCall_zip_2 _ _) (fun obj => F.args_object_init_3 obj _ _) F.entry_zip_new
    (new_zip l t xs ys) ⟨hl, ht, ?_⟩
  have z1 : (zH1 s.heap l).objs.size = s.heap.objs.size + 1 := Heap.size_push ..
  have z2 : (zH2 s.heap l t).objs.size = s.heap.objs.size + 2 := by rw [zH2, Heap.size_push, z1]
  have z3 : (zH3 s.heap l t).objs.size = s.heap.objs.size + 3 := by rw [zH3, Heap.size_push, z2]
  have z4 : (zH4 s.heap l t).objs.size = s.heap.objs.size + 4 := by rw [zH4, Heap.size_push, z3]
  have g5 : (zH5 s.heap l t).get? (zH4 s.heap l t).objs.size = some _ := Heap.get?_push_size _ rfl
  have g4 : (zH5 s.heap l t).get? (zH3 s.heap l t).objs.size = some _ := Heap.get?_push_of_some _ (Heap.get?_push_size _ rfl)
  have g3 : (zH5 s.heap l t).get? (zH2 s.heap l t).objs.size = some _ := Heap.get?_push_of_some _ (Heap.get?_push_of_some _ (Heap.get?_push_size _ rfl))
  have g2 : (zH5 s.heap l t).get? (zH1 s.heap l).objs.size = some _ := Heap.get?_push_of_some _ (Heap.get?_push_of_some _ (Heap.get?_push_of_some _ (Heap.get?_push_size _ rfl)))
  have g1 : (zH5 s.heap l t).get? s.heap.objs.size = some _ := Heap.get?_push_of_some _ (Heap.get?_push_of_some _ (Heap.get?_push_of_some _ (Heap.get?_push_of_some _ (Heap.get?_push_size _ rfl))))
  show _ ∧ _
  rw [z2, z3, z4] at g5
  rw [z1, z2] at g3
  rw [z3] at g4
  rw [z1] at g2
  refine ⟨⟨_, by rw [z4]; exact g5, rfl⟩, ?_⟩
  rw [z4]
  exact h _ ⟨g5, g3, g4, ⟨_, g1, rfl, rfl⟩, ⟨_, g2, rfl, rfl⟩⟩ fun c o e => Heap.get?_push_of_some _ (Heap.get?_push_of_some _ (Heap.get?_push_of_some _ (Heap.get?_push_of_some _ (Heap.get?_push_of_some _ e))))
end
end Mine

set_option maxRecDepth 100000
namespace Mine
open PySem PySem.W PySem.Calls PySem.Spec PyProof.Rows
section
variable {g : G} {C : Cfg} {x : Cx} {n : Nat} {W : Wd} {l l' : L} {H H' H1 H2 : Mine.H} {σ : Sg} {s : Shared} {E : Value → Shared → Prop} {r : R} {sc : Scope}
structure Five (z TI TO i1 i2 : Addr) : Prop where
  a1 : TI ≠ z
  a2 : TO ≠ z
  a3 : i1 ≠ z
  a4 : i2 ≠ z
  a5 : TI ≠ TO
  a6 : TI ≠ i1
  a7 : TI ≠ i2
  a8 : TO ≠ i1
  a9 : TO ≠ i2
  a0 : i1 ≠ i2
noncomputable def zipObj (TI TO : Addr) : Obj := { cls := .type "zip", dict := none, data := .fields #[.none, .bool false, .bool false, .ref TI, .ref TO], slots := #[] }
noncomputable def pairObj (a b : Value) : Obj := { cls := .type "tuple", data := .seq #[a, b] }
noncomputable def zOwn (z TI TO i1 i2 : Addr) (a b : Value) (o1 o2 : Obj) : Led := [(z, zipObj TI TO), (TI, pairObj (.ref i1) (.ref i2)), (TO, pairObj a b), (i1, o1), (i2, o2)]
theorem zAll {z TI TO i1 i2 : Addr} {a b : Value} {o1 o2 : Obj} {P : Addr × Obj → Prop} (h1 : P (z, zipObj TI TO)) (h2 : P (TI, pairObj (.ref i1) (.ref i2))) (h3 : P (TO, pairObj a b)) (h4 : P (i1, o1)) (h5 : P (i2, o2)) : ∀ p ∈ zOwn z TI TO i1 i2 a b o1 o2, P p := by
  simp only [zOwn, List.mem_cons, List.not_mem_nil, or_false]
  rintro p (rfl | rfl | rfl | rfl | rfl) <;> assumption
inductive ZEach (P : Addr × Obj → Prop) (z TI TO i1 i2 : Addr) (a b : Value) (o1 o2 : Obj) : Prop
  | mk : P (z, zipObj TI TO) → P (TI, pairObj (.ref i1) (.ref i2)) → P (TO, pairObj a b) → P (i1, o1) → P (i2, o2) → ZEach P z TI TO i1 i2 a b o1 o2
theorem zEach {z TI TO i1 i2 : Addr} {a b : Value} {o1 o2 : Obj} {P : Addr × Obj → Prop} (h : ∀ p ∈ zOwn z TI TO i1 i2 a b o1 o2, P p) : ZEach P z TI TO i1 i2 a b o1 o2 := by
  simp only [zOwn, List.forall_mem_cons] at h
  exact ⟨h.1, h.2.1, h.2.2.1, h.2.2.2.1, h.2.2.2.2.1⟩
inductive ZPos (g : G) (i : Nat) (vs : List AV) (z TI TO i1 i2 : Addr) (k : Nat) (W : Wd) : Led → Prop
  | mk (l t : Addr) (ws : List Value) (a b : Value) (o1 o2 : Obj) : (2 * i, l) ∈ W.mp → TupIn g W t ws → VRs g W vs ws → Five z TI TO i1 i2 → o1.cls = .type "list_iterator" → o1.data = .fields #[.ref l, .int k 0] → o2.cls = .type "tuple_iterator" → o2.data = .fields #[.ref t, .int k 0] → ZPos g i vs z TI TO i1 i2 k W (zOwn z TI TO i1 i2 a b o1 o2)
inductive ZipR (g : G) (W : Wd) (i : Nat) (vs : List AV) (z TI TO i1 i2 : Addr) (k : Nat) (h : Heap) (own : Led) : Prop
  | mk (la t : Addr) (ws : List Value) (a b : Value) : (2 * i, la) ∈ W.mp → TupIn g W t ws → VRs g W vs ws → ZipApart z TI TO i1 i2 la t → ZipAt h z TI TO i1 i2 la t k .none a b → own.map (·.1) = [z, TI, TO, i1, i2] → ZipR g W i vs z TI TO i1 i2 k h own
theorem in_own {own : Led} {p : Addr × Obj} (hp : p ∈ own) : p ∈ σ.own ++ (x.plus own).out ++ W.X := by
  simp only [Cx.plus, List.mem_append]
  exact .inl (.inr (.inl hp))
theorem own_tup (c : CxOk g x n) {h : Heap} {own : Led} (S : St g (x.plus own) W l H σ h) {t : Addr} {ws : List Value} (ht : TupIn g W t ws) : ∀ p ∈ own, p.1 ≠ t := fun p hp e => by
  rcases ht with ⟨m, hm⟩ | ⟨m, hm⟩
  · exact S.xo _ hm p (by simp only [Cx.plus, List.mem_append]; exact .inr (.inl hp)) e.symm
  · obtain ⟨led, N, _⟩ := S.led
    have this : x.h₀.get? p.1 = none := (N p (by simp only [Cx.plus, List.mem_append]; exact .inl (.inr (.inl hp)))).2.2
    rw [e, c.X _ _ hm] at this
    first | exact xN this | exact xS this | (obtain rfl := x1 this; clear this) | (obtain ⟨rfl, rfl⟩ := x2 this; clear this) | (obtain ⟨rfl, rfl, rfl⟩ := x3 this; clear this) | (exfalso; cases this; done) | cases this
theorem zpos_at (c : CxOk g x n) {i k : Nat} {vs : List AV} {z TI TO i1 i2 : Addr} {own : Led} {h : Heap} (hp : ZPos g i vs z TI TO i1 i2 k W own) (S : St g (x.plus own) W l H σ h) : ZipR g W i vs z TI TO i1 i2 k h own := by
  obtain ⟨la, t, ws, a, b, o1, o2, h1, h2, h3, D, c1, d1, c2, d2⟩ := hp
  obtain ⟨l1, l2, l3, l4, l5⟩ := zEach fun p hp => (S.ap _ h1 p (in_own hp)).symm
  obtain ⟨t1, t2, t3, t4, t5⟩ := zEach fun p hp => (own_tup c S h2 p hp).symm
  obtain ⟨q1, q2, q3, q4, q5⟩ := zEach fun p hp => S.at (in_own hp)
  exact ⟨la, t, ws, a, b, h1, h2, h3, ⟨D.a1, D.a2, D.a3, D.a4, D.a5, D.a6, D.a7, D.a8, D.a9, D.a0, l1, l3, l4, l5, t1, t3, t4, t5⟩, ⟨q1, q2, q3, ⟨o1, q4, c1, d1⟩, ⟨o2, q5, c2, d2⟩⟩, rfl⟩
theorem zpos_nc {i k : Nat} {vs : List AV} {z TI TO i1 i2 : Addr} {own : Led} (hp : ZPos g i vs z TI TO i1 i2 k W own) : noCell own := by
  obtain ⟨la, t, ws, a, b, o1, o2, h1, h2, h3, D, c1, d1, c2, d2⟩ := hp
  exact zAll (P := fun p => ∀ u, p.2.data ≠ .cell (some u)) (fun _ e => nomatch e) (fun _ e => nomatch e) (fun _ e => nomatch e) (fun _ e => nomatch d1.symm.trans e) (fun _ e => nomatch d2.symm.trans e)
theorem zip_list {i la k : Nat} (hla : (2 * i, la) ∈ W.mp) (S : St g x W l H σ s.heap) {q : Option AV} (hq : itemOf H (.loc i) k = some q) : ∃ xs, s.heap.IsList la xs ∧ (match q with | some v => ∃ u, xs[k]? = some u ∧ VR g W v u | none => xs[k]? = none) := by
  obtain ⟨xs, hxs, e2⟩ := optVs (o := items H (.loc i)) hq
  obtain ⟨vs2, hg, e3⟩ := list_inv (o := H.get i) hxs
  obtain rfl := x1 e3
  obtain ⟨a1, w1, k1, e1, g1, r1, l1⟩ := S.getL hg (.loc hla)
  first | exact xN e1 | exact xS e1 | (obtain rfl := x1 e1; clear e1) | (obtain ⟨rfl, rfl⟩ := x2 e1; clear e1) | (obtain ⟨rfl, rfl, rfl⟩ := x3 e1; clear e1) | (exfalso; cases e1; done) | cases e1
  refine ⟨w1.toArray, ⟨_, g1, rfl, k1, rfl⟩, ?_⟩
  cases q with
  | some v => exact r1.at (x1 e2).symm
  | none => have := r1.none (x1 e2).symm; simpa using this
theorem zip_some {i k : Nat} {vs : List AV} {v : AV} (hv : Src.item H k (.zip (.loc i) (.tup vs)) = some (some v)) : ∃ a b, itemOf H (.loc i) k = some (some a) ∧ nth vs k = some b ∧ mkTup [a, b] = some v := by
  unfold Src.item at hv
  dsimp only at hv
  cases h1 : itemOf H (.loc i) k with
  | none => rw [h1] at hv; cases hv
  | some q =>
    rw [h1] at hv
    cases q with
    | none => cases hv
    | some a =>
      dsimp only at hv
      have hv : (match nth vs k with | some y => (match mkTup [a, y] with | some t => some (some t) | none => none) | none => none) = some (some v) := by
        cases h2 : nth vs k with
        | none => rw [show itemOf H (.tup vs) k = some none from congrArg some h2] at hv; cases hv
        | some b => rw [show itemOf H (.tup vs) k = some (some b) from congrArg some h2] at hv; exact hv
      obtain ⟨b, h2, hv⟩ := optV hv
      obtain ⟨t, h3, hv⟩ := optV hv
      first | exact xN hv | exact xS hv | (obtain rfl := x1 hv; clear hv) | (obtain ⟨rfl, rfl⟩ := x2 hv; clear hv) | (obtain ⟨rfl, rfl, rfl⟩ := x3 hv; clear hv) | (exfalso; cases hv; done) | cases hv
      exact ⟨a, b, rfl, h2, h3⟩
theorem zip_none {i k : Nat} {vs : List AV} (hv : Src.item H k (.zip (.loc i) (.tup vs)) = some none) : itemOf H (.loc i) k = some none := by
  unfold Src.item at hv
  dsimp only at hv
  cases h1 : itemOf H (.loc i) k with
  | none => rw [h1] at hv; cases hv
  | some q =>
    cases q with
    | none => rfl
    | some a =>
      rw [h1] at hv
      dsimp only at hv
      split at hv
      · split at hv <;> cases hv
      · first | exact xN hv | exact xS hv | (obtain rfl := x1 hv; clear hv) | (obtain ⟨rfl, rfl⟩ := x2 hv; clear hv) | (obtain ⟨rfl, rfl, rfl⟩ := x3 hv; clear hv) | (exfalso; cases hv; done) | cases hv
      · first | exact xN hv | exact xS hv | (obtain rfl := x1 hv; clear hv) | (obtain ⟨rfl, rfl⟩ := x2 hv; clear hv) | (obtain ⟨rfl, rfl, rfl⟩ := x3 hv; clear hv) | (exfalso; cases hv; done) | cases hv
theorem two_tg {tg : Expr} (h : twoTg tg = true) : ∃ es y pos, tg = .Tuple es y pos := by
  cases tg <;> first | exact ⟨_, _, _, rfl⟩ | exact absurd (show false = true from h) Bool.false_ne_true
theorem same_addr {own own' : Led} (h : own.map (·.1) = own'.map (·.1)) {q : Addr} (ho : ∀ p ∈ own, p.1 ≠ q) : ∀ p ∈ own', p.1 ≠ q := fun p hp => by
  have : p.1 ∈ own.map (·.1) := by rw [h]; exact List.mem_map.mpr ⟨p, hp, rfl⟩
  obtain ⟨p', hp', e⟩ := List.mem_map.mp this
  exact e ▸ ho p' hp'
theorem zip_next (c : CxOk g x n) {i k : Nat} {vs : List AV} {z TI TO i1 i2 : Addr} {tg : Expr} (htg : twoTg tg = true) {own : Led} {v : AV} {Q : Value → Shared → Prop} (hp : ZPos g i vs z TI TO i1 i2 k W own) (S : St g (x.plus own) W l H σ s.heap) (hoo : ∀ p ∈ own, ∀ q ∈ x.out, p.1 ≠ q.1) (hv : Src.item H k (.zip (.loc i) (.tup vs)) = some (some v))
    (hQ : ∀ W' h' tk u own', W.le W' → ZPos g i vs z TI TO i1 i2 (k + 1) W' own' → (∀ p ∈ own', ∀ q ∈ x.out, p.1 ≠ q.1) → St g (x.plus own') W' l H σ h' → VR g W' v u → Q u { s with heap := h', toks := tk }) :
    wpAny (model g.prog g.w) x.A (pyNext (.ref z)) (fun r s₁ => ∃ u, r = some u ∧ wpAny (model g.prog g.w) x.A (letOwnedTupleGo tg (.ref z) u) (fun _ s₂ => Q u s₂) E s₁) E s := by
  have hnc := zpos_nc hp
  obtain ⟨la, t, ws, a, b, h1, h2, h3, D, Z, hm⟩ := zpos_at c hp S
  clear hp
  obtain ⟨v1, v2, hi1, hi2, ht3⟩ := zip_some hv
  clear hv
  obtain ⟨rfl, dp3, _⟩ := mkTup_some ht3
  obtain ⟨xs, hL, u1, hu1, r1⟩ := zip_list h1 S hi1
  obtain ⟨u2, hu2, r2⟩ := h3.at hi2
  have hT := (S.tups (c.plus _)) _ _ h2
  refine next_zip_item D Z hL hT hu1 hu2 fun h' Z' hT' hk => ⟨_, rfl, ?_⟩
  clear hL hT hu1 hu2 hi1 hi2 Z
  obtain ⟨es, y, pos, rfl⟩ := two_tg htg
  refine wpAny_letOwnedTupleGo_zip Z'.z fun h'' hz'' hs'' => ?_
  obtain ⟨z1, z2, z3, ⟨o1, ho1, c1, d1⟩, ⟨o2, ho2, c2, d2⟩⟩ := Z'
  have up : ∀ b o, b ≠ z → h'.get? b = some o → h''.get? b = some o := fun b o hb e => hs''.extBut b o hb e
  have S1 : St g (x.plus own) ⟨(s.heap.objs.size, tupObj [u1, u2] 0) :: W.X, W.mp⟩ l H σ (s.heap.push { cls := .type "tuple", data := .seq [u1, u2].toArray }) := S.newT
  refine hQ ⟨(s.heap.objs.size, tupObj [u1, u2] 0) :: W.X, W.mp⟩ h'' s.toks _ (zOwn z TI TO i1 i2 u1 u2 o1 o2) (Wd.le_imm _) ?_ (fun p hp q hq => same_addr hm (fun p hp => hoo p hp q hq) p hp) ?_ (VR.newT (.cons r1 (.cons r2 .nil)) dp3)
  · exact .mk la t ws u1 u2 o1 o2 h1 (h2.mono (Wd.le_imm _)) (h3.mono (Wd.le_imm _)) ⟨D.TIz, D.TOz, D.i1z, D.i2z, D.TITO, D.TIi1, D.TIi2, D.TOi1, D.TOi2, D.i12⟩ c1 d1 c2 d2
  · refine S1.move hoo (by rw [hm]; rfl) hnc (zAll hz'' (up _ _ D.TIz z2) (up _ _ D.TOz z3) (up _ _ D.i1z ho1) (up _ _ D.i2z ho2)) fun b o hb e => ?_
    rw [hm] at hb
    simp only [List.mem_cons, List.not_mem_nil, or_false, not_or] at hb
    obtain ⟨n1, n2, n3, n4, n5⟩ := hb
    rcases Heap.get?_push_cases e with ⟨rfl, rfl⟩ | e
    · exact up _ _ n1 hT'
    · exact up _ _ n1 (hk b o n1 n3 n4 n5 e)
theorem zip_done (c : CxOk g x n) {i k : Nat} {vs : List AV} {z TI TO i1 i2 : Addr} {own : Led} {Q : Shared → Prop} (hp : ZPos g i vs z TI TO i1 i2 k W own) (S : St g (x.plus own) W l H σ s.heap) (hoo : ∀ p ∈ own, ∀ q ∈ x.out, p.1 ≠ q.1) (hv : Src.item H k (.zip (.loc i) (.tup vs)) = some none)
    (hQ : ∀ h' tk, St g x W l H σ h' → Q { s with heap := h', toks := tk }) : wpAny (model g.prog g.w) x.A (pyNext (.ref z)) (fun r s₁ => r = none ∧ Q s₁) E s := by
  have hnc := zpos_nc hp
  obtain ⟨la, t, ws, a, b, h1, h2, h3, D, Z, hm⟩ := zpos_at c hp S
  obtain ⟨xs, hL, hx⟩ := zip_list h1 S (zip_none hv)
  exact next_zip_end c.hand D Z hL hx fun h' hk => ⟨rfl, hQ h' s.toks (S.gone hoo hnc fun b o hb e => by
    rw [hm] at hb
    simp only [List.mem_cons, List.not_mem_nil, or_false, not_or] at hb
    obtain ⟨n1, n2, n3, n4, n5⟩ := hb
    exact hk b o n1 n3 n4 n5 e)⟩
theorem iter_zip (c : CxOk g x n) (i : Nat) (vs : List AV) (z TI TO i1 i2 : Addr) {tg : Expr} (htg : twoTg tg = true) : IterOk g x tg (.zip (.loc i) (.tup vs)) (.ref z) (ZPos g i vs z TI TO i1 i2) where
  mono := fun le hp => by
    obtain ⟨la, t, ws, a, b, o1, o2, h1, h2, h3, D, c1, d1, c2, d2⟩ := hp
    exact .mk la t ws a b o1 o2 (le.2 _ h1) (h2.mono le) (h3.mono le) D c1 d1 c2 d2
  nc := zpos_nc
  next := fun hp S hoo hv hQ => zip_next c htg hp S hoo hv hQ
  done := fun hp S hoo hv hQ => zip_done c hp S hoo hv hQ
  self := fun hp S hQ => by
    obtain ⟨la, t, ws, a, b, h1, h2, h3, D, Z, hm⟩ := zpos_at c hp S
    exact wpAny_pyIter_zip Z.z hQ
end
end Mine

set_option maxRecDepth 100000
namespace Mine
open PySem PySem.W PySem.Calls PySem.Spec PyProof.Rows
section
variable {g : G} {C : Cfg} {x : Cx} {n : Nat} {W : Wd} {l l' : L} {H H' H1 H2 : Mine.H} {σ : Sg} {s : Shared} {E : Value → Shared → Prop} {r : R} {sc : Scope}
theorem boot_it : bootBuiltins "range" = some (.type "range") ∧ bootBuiltins "zip" = some (.type "zip") ∧ bootBuiltins "reversed" = some (.type "reversed") := by
  refine ⟨?_, ?_, ?_⟩ <;> first | rfl | decide +kernel | kernel_rfl
/-- a call of a built-in iterator's name -/
theorem call_it (IH : Sound g n r) (c : CxOk g x n) (k : ScOk sc x.env) (T : String) {f : Str} {fp cp : Pos} {es : List Expr} {as : List AV} (hf : (Nat.beq (nm f) (nmS T) && isGlobal sc f) = true) (h0 : nm (Str.ofString T) ≠ 0) (hm : nsIn g.K mainGlobals (Str.ofString T) = some none) (hb : bootBuiltins (Str.ofString T) = some (.type T)) (hn : Str.ofString T ≠ "__name__") (hd : (Str.ofString T == ("__debug__" : Str)) = false)
    (e : evs r sc es l H = some (as, H1)) (S : St g x W l H σ s.heap) {Q : Value → Shared → Prop}
    (hQ : ∀ W' h' tk us, W.le W' → St g x W' l H1 σ h' → VRs g W' as us → wpAny (model g.prog g.w) x.A (call (.type T) us) Q E { s with heap := h', toks := tk }) :
    wpAny (model g.prog g.w) x.A (eval (.Call (.Name f fp) es [] cp) x.env) Q E s := by
  rw [Bool.and_eq_true] at hf
  obtain ⟨hname, hg⟩ := hf
  have hname : Str.ofString T = f := nm_inj h0 (Nat.eq_of_beq_eq_true hname).symm
  subst hname
  have hk : x.env.kindOf (Str.ofString T) = some .globalImplicit := by
    unfold isGlobal at hg
    split at hg
    · rename_i q
      rcases k _ _ q with h | ⟨h, _⟩
      · exact h
      · first | exact xN h | exact xS h | (obtain rfl := x1 h; clear h) | (obtain ⟨rfl, rfl⟩ := x2 h; clear h) | (obtain ⟨rfl, rfl, rfl⟩ := x3 h; clear h) | (exfalso; cases h; done) | cases h
    · first | exact xN hg | exact xS hg | (obtain rfl := x1 hg; clear hg) | (obtain ⟨rfl, rfl⟩ := x2 hg; clear hg) | (obtain ⟨rfl, rfl, rfl⟩ := x3 hg; clear hg) | (exfalso; cases hg; done) | cases hg
  obtain ⟨p, loose, mg, mb, T'⟩ := c.T
  refine wpAny_Call_NameR (Name_function_global c.ek hk (loadGlobal_builtin (by rw [c.eg]; exact T'.g.keeps S.F.keep) (mg_none_of c.X T'.g hm) (by rw [c.eb]; exact T'.b.keeps S.F.keep) ((T'.builtins _ hn).trans hb) ?_) hd)
  exact call_args (P := fun _ => True) (evs_star e) (keeps_bi (by intro a h; cases h)) (evs_ok IH c k e S fun W1 h1 tk1 us le1 S1 rs => ⟨trivial, hQ W1 h1 tk1 us le1 S1 rs⟩)
theorem St.laid {h h' : Heap} (S : St g x W l H σ h) (hk : ∀ b o, h.get? b = some o → h'.get? b = some o) {own : Led} (ho : ∀ p ∈ own, h.objs.size ≤ p.1 ∧ h'.get? p.1 = some p.2) : St g (x.plus own) W l H σ h' :=
  (S.ext hk).plus (fun p hp => (ho p hp).2) (fun p hp => S.fresh (ho p hp).1) (fun p hp q hq e => Nat.lt_irrefl _ (Nat.lt_of_lt_of_le (S.there q hq) (e ▸ (ho p hp).1)))
    fun p hp q hq e => Nat.lt_irrefl _ (Nat.lt_of_lt_of_le (S.old q (by rw [List.append_assoc]; simp only [List.mem_append] at hq ⊢; rcases hq with a | a; exact .inl a; exact .inr (.inr a))) (e ▸ (ho p hp).1))
theorem St.off {h : Heap} (S : St g x W l H σ h) {own : Led} (ho : ∀ p ∈ own, h.objs.size ≤ p.1) : ∀ p ∈ own, ∀ q ∈ x.out, p.1 ≠ q.1 := fun p hp q hq e =>
  Nat.lt_irrefl _ (Nat.lt_of_lt_of_le (S.old q (by rw [List.append_assoc]; simp only [List.mem_append]; exact .inr (.inl hq))) (e ▸ ho p hp))
theorem one_it (S : St g x W l H σ s.heap) {src : Src} {tg : Expr} {T : String} {P : Nat → Wd → Obj → Prop} {o : Obj} (hT : ownedT T = false) (hO : ∀ (y : Cx) (m : Nat), CxOk g y m → OneIter g y src s.heap.objs.size T P) (hp : P 0 W o) (hf : o.isFreed = false) {tk : Tok} {Q : Value → Shared → Prop}
    (hQ : ∀ W' h' tk itv Pos own, W.le W' → St g (x.plus own) W' l H σ h' → Pos 0 W' own → (∀ p ∈ own, ∀ q ∈ x.out, p.1 ≠ q.1) → (∀ (y : Cx) (m : Nat), CxOk g y m → IterOk g y tg src itv Pos) → Q itv { s with heap := h', toks := tk }) :
    Q (.ref s.heap.objs.size) { s with heap := s.heap.push o, toks := tk } := by
  refine hQ W _ tk _ (fun k W own => ∃ o, own = [(s.heap.objs.size, o)] ∧ P k W o) [(s.heap.objs.size, o)] (Wd.le.refl W) (S.laid (fun b o e => Heap.get?_push_of_some _ e) fun p hp => ?_) ⟨o, rfl, hp⟩ (S.off fun p hp => ?_) fun y m cy => (hO y m cy).ok hT tg
  · rw [List.mem_singleton] at hp; subst hp; exact ⟨Nat.le_refl _, Heap.get?_push_size _ hf⟩
  · rw [List.mem_singleton] at hp; subst hp; exact Nat.le_refl _
theorem seqSrc_ok (c : CxOk g x n) (S : St g x W l H σ s.heap) {v : AV} {u : Value} {src : Src} {tg : Expr} (e : seqSrc v H = some (src, H1)) (rv : VR g W v u) {Q : Value → Shared → Prop}
    (hQ : ∀ W' h' tk itv Pos own, W.le W' → St g (x.plus own) W' l H1 σ h' → Pos 0 W' own → (∀ p ∈ own, ∀ q ∈ x.out, p.1 ≠ q.1) → (∀ (y : Cx) (m : Nat), CxOk g y m → IterOk g y tg src itv Pos) → Q itv { s with heap := h', toks := tk }) :
    wpAny (model g.prog g.w) x.A (pyIter u) Q E s := by
  unfold seqSrc at e
  split at e
  · rename_i cs
    obtain ⟨rfl, rfl⟩ := x2 e
    · obtain ⟨t, rfl, hb⟩ := rv.isS
      cases ha : (⟨cs.toArray⟩ : Str).cps.all (· < 128)
      · exact wpAny_pyIter_wide ha (one_it S (tk := s.toks) (T := "str_iterator") (by decide) (fun y m cy => iter_strW cy cs _) ⟨rfl, t, rfl⟩ rfl hQ)
      · exact wpAny_pyIter_ascii ha (one_it S (tk := s.toks) (T := "str_ascii_iterator") (by decide) (fun y m cy => iter_strA cy cs _) ⟨rfl, t, rfl⟩ rfl hQ)
  · rename_i vs
    obtain ⟨rfl, rfl⟩ := x2 e
    · obtain ⟨a, ws, rfl, h1, h2, h3⟩ := rv.isT
      exact wpAny_pyIter_tuple (S.tups c _ _ h1) (one_it S (tk := s.toks) (T := "tuple_iterator") (by decide) (fun y m cy => iter_tuple cy vs _) ⟨a, ws, ⟨h1, h2⟩, rfl, rfl⟩ rfl hQ)
  · rename_i i
    split at e
    · rename_i xs hg
      obtain ⟨rfl, rfl⟩ := x2 e
      · obtain ⟨a, rfl, hm⟩ := rv.isL
        obtain ⟨a1, w1, k1, e1, g1, r1, l1⟩ := S.getL hg (.loc hm)
        first | exact xN e1 | exact xS e1 | (obtain rfl := x1 e1; clear e1) | (obtain ⟨rfl, rfl⟩ := x2 e1; clear e1) | (obtain ⟨rfl, rfl, rfl⟩ := x3 e1; clear e1) | (exfalso; cases e1; done) | cases e1
        exact wpAny_pyIter_list (items := w1.toArray) ⟨_, g1, rfl, k1, rfl⟩ (one_it S (tk := s.toks) (T := "list_iterator") (by decide) (fun y m cy => iter_list cy i _) ⟨a, hm, rfl, rfl⟩ rfl hQ)
    · first | exact xN e | exact xS e | (obtain rfl := x1 e; clear e) | (obtain ⟨rfl, rfl⟩ := x2 e; clear e) | (obtain ⟨rfl, rfl, rfl⟩ := x3 e; clear e) | (exfalso; cases e; done) | cases e
  · first | exact xN e | exact xS e | (obtain rfl := x1 e; clear e) | (obtain ⟨rfl, rfl⟩ := x2 e; clear e) | (obtain ⟨rfl, rfl, rfl⟩ := x3 e; clear e) | (exfalso; cases e; done) | cases e
theorem five (n : Nat) : Five (n + 4 : Addr) (n + 2 : Addr) (n + 3 : Addr) (n : Addr) (n + 1 : Addr) := by
  constructor <;> (intro h; have h' : (_ : Nat) = _ := h; omega)
theorem size_down (a : Nat) : Builtin.Range.rangeSize (a : Int) (-1) (-1) = ((a + 1 : Nat) : Int) := by
  unfold Builtin.Range.rangeSize
  rw [if_neg (by decide), if_pos (by omega), show -(-1 : Int) = 1 by decide, Int.ediv_one]
  omega
theorem small_down {a : Nat} (h : a < 1048576) : Builtin.Range.small (a : Int) (-1) (-1) = true := by
  unfold Builtin.Range.small
  rw [size_down]
  simp only [Builtin.Range.rangeFitsLong, Bool.and_eq_true, Bool.or_eq_true, decide_eq_true_eq, beq_iff_eq, show ¬ ((-1 : Int) > 0) by decide, if_false]
  omega
theorem rng_inv {α : Type} {o : Option (List AV × Mine.H)} {f k : Nat → Mine.H → Option α} {q : α} (e : (match o with
      | some ([.int (.ofNat b)], h1) => f b h1
      | some ([.int (.ofNat a), .int (.negSucc 0), .int (.negSucc 0)], h1) => k a h1
      | _ => none) = some q) : (∃ b h1, o = some ([.int (.ofNat b)], h1) ∧ f b h1 = some q) ∨ ∃ a h1, o = some ([.int (.ofNat a), .int (-1), .int (-1)], h1) ∧ k a h1 = some q := by
  rcases o with _ | ⟨vs, h1⟩
  · exact xN e
  rcases vs with _ | ⟨v, vs⟩
  · exact xN e
  cases v <;> first | exact xN e | skip
  rename_i a
  cases a with
  | negSucc m => exact xN e
  | ofNat a =>
  rcases vs with _ | ⟨v, vs⟩
  · exact .inl ⟨a, h1, rfl, e⟩
  cases v <;> first | exact xN e | skip
  rename_i b
  cases b with
  | ofNat m => exact xN e
  | negSucc m =>
  cases m with
  | succ m => exact xN e
  | zero =>
  rcases vs with _ | ⟨v, vs⟩
  · exact xN e
  cases v <;> first | exact xN e | skip
  rename_i b
  cases b with
  | ofNat m => exact xN e
  | negSucc m =>
  cases m with
  | succ m => exact xN e
  | zero =>
  rcases vs with _ | ⟨v, vs⟩
  · exact .inr ⟨a, h1, rfl, e⟩
  · exact xN e
theorem zip_inv {α : Type} {o : Option (List AV × Mine.H)} {f : Nat → List AV → Mine.H → Option α} {q : α} (e : (match o with | some ([.loc i, .tup vs], h1) => f i vs h1 | _ => none) = some q) : ∃ i vs h1, o = some ([.loc i, .tup vs], h1) ∧ f i vs h1 = some q := by
  rcases o with _ | ⟨vs, h1⟩
  · exact xN e
  rcases vs with _ | ⟨v, vs⟩
  · exact xN e
  cases v <;> first | exact xN e | skip
  rcases vs with _ | ⟨v, vs⟩
  · exact xN e
  cases v <;> first | exact xN e | skip
  rcases vs with _ | ⟨v, vs⟩
  · exact ⟨_, _, _, rfl, e⟩
  · exact xN e
theorem zip2_inv {o : Option AO} {b : Bool} {α : Type} {f : α} {q : α} (e : (match o, b with | some (.list _), true => some f | _, _ => none) = some q) : (∃ xs, o = some (.list xs)) ∧ b = true ∧ q = f := by
  rcases o with _ | o
  · exact xN e
  cases o <;> first | exact xN e | skip
  first | exact xN b | exact xS b | (obtain rfl := x1 b; clear b) | (obtain ⟨rfl, rfl⟩ := x2 b; clear b) | (obtain ⟨rfl, rfl, rfl⟩ := x3 b; clear b) | (exfalso; cases b; done) | cases b
  · exact xN e
  · exact ⟨⟨_, rfl⟩, rfl, x1 e⟩
theorem rev_inv {α : Type} {o : Option (List AV × Mine.H)} {f : List AV → Mine.H → Option α} {q : α} (e : (match o with | some ([.tup vs], h1) => f vs h1 | _ => none) = some q) : ∃ vs h1, o = some ([.tup vs], h1) ∧ f vs h1 = some q := by
  rcases o with _ | ⟨vs, h1⟩
  · exact xN e
  rcases vs with _ | ⟨v, vs⟩
  · exact xN e
  cases v <;> first | exact xN e | skip
  rcases vs with _ | ⟨v, vs⟩
  · exact ⟨_, _, rfl, e⟩
  · exact xN e
inductive SrcC (r : R) (sc : Scope) (tg : Expr) (l : L) (H : Mine.H) : Expr → Src → Mine.H → Prop
  | rng1 {f : Str} {fp cp : Pos} {as : List Expr} {H1 : Mine.H} (b : Nat) : (Nat.beq (nm f) (nmS "range") && isGlobal sc f) = true → evs r sc as l H = some ([.int (.ofNat b)], H1) → Nat.blt b 1048576 = true → SrcC r sc tg l H (.Call (.Name f fp) as [] cp) (.rng 0 b 1) H1
  | rng3 {f : Str} {fp cp : Pos} {as : List Expr} {H1 : Mine.H} (a : Nat) : (Nat.beq (nm f) (nmS "range") && isGlobal sc f) = true → evs r sc as l H = some ([.int (.ofNat a), .int (-1), .int (-1)], H1) → Nat.blt a 1048576 = true → SrcC r sc tg l H (.Call (.Name f fp) as [] cp) (.rng (.ofNat a) (Nat.succ a) (-1)) H1
  | zip {f : Str} {fp cp : Pos} {as : List Expr} {H1 : Mine.H} (i : Nat) (vs xs : List AV) : (Nat.beq (nm f) (nmS "zip") && isGlobal sc f) = true → evs r sc as l H = some ([.loc i, .tup vs], H1) → H1.get i = some (.list xs) → twoTg tg = true → SrcC r sc tg l H (.Call (.Name f fp) as [] cp) (.zip (.loc i) (.tup vs)) H1
  | rev {f : Str} {fp cp : Pos} {as : List Expr} {H1 : Mine.H} (vs : List AV) : (Nat.beq (nm f) (nmS "reversed") && isGlobal sc f) = true → evs r sc as l H = some ([.tup vs], H1) → short 100000 vs = true → SrcC r sc tg l H (.Call (.Name f fp) as [] cp) (.rev vs) H1
  | seq {e : Expr} {v : AV} {src : Src} {H2 H1 : Mine.H} : r.ev sc e l H = some (v, H2) → seqSrc v H2 = some (src, H1) → SrcC r sc tg l H e src H1
theorem seq_inv {tg e : Expr} {src : Src} (h : (match r.ev sc e l H with | some (v, h1) => seqSrc v h1 | Option.none => Option.none) = some (src, H1)) : SrcC r sc tg l H e src H1 := by
  cases he : r.ev sc e l H with
  | none => rw [he] at h; exact xN h
  | some p => rw [he] at h; exact .seq he h
theorem named_inv {tg : Expr} {f : Str} {fp cp : Pos} {as : List Expr} {src : Src} (h : mkSrc r sc tg (.Call (.Name f fp) as [] cp) l H = some (src, H1)) : SrcC r sc tg l H (.Call (.Name f fp) as [] cp) src H1 := by
  unfold mkSrc at h
  dsimp only at h
  split at h
  · rename_i hf
    rcases rng_inv h with ⟨b, h1, he, h⟩ | ⟨a, h1, he, h⟩
    · obtain ⟨hb, h⟩ := bool_inv h
      exact y2 h (.rng1 b hf he hb)
    · obtain ⟨hb, h⟩ := bool_inv h
      exact y2 h (.rng3 a hf he hb)
  · split at h
    · rename_i hf
      obtain ⟨i, vs, h1, he, h⟩ := zip_inv h
      obtain ⟨⟨xs, h3⟩, h4, h5⟩ := zip2_inv h
      first | exact xN h5 | exact xS h5 | (obtain rfl := x1 h5; clear h5) | (obtain ⟨rfl, rfl⟩ := x2 h5; clear h5) | (obtain ⟨rfl, rfl, rfl⟩ := x3 h5; clear h5) | (exfalso; cases h5; done) | cases h5
      exact .zip i vs xs hf he h3 h4
    · split at h
      · rename_i hf
        obtain ⟨vs, h1, he, h⟩ := rev_inv h
        obtain ⟨hb, h⟩ := bool_inv h
        exact y2 h (.rev vs hf he hb)
      · exact seq_inv h
theorem mkSrc_inv {tg e : Expr} {src : Src} (h : mkSrc r sc tg e l H = some (src, H1)) : SrcC r sc tg l H e src H1 := by
  cases e with
  | Call fn as ks p =>
    cases fn with
    | Name f fp =>
      cases ks with
      | nil => exact named_inv h
      | cons => exact seq_inv h
    | _ => exact seq_inv h
  | Set => exact xN h
  | _ => exact seq_inv h
theorem src_rng1 (O : OkG C g) (IH : Sound g n r) (c : CxOk g x n) (k : ScOk sc x.env) {tg : Expr} {f : Str} {fp cp : Pos} {as : List Expr} {b : Nat} (hf : (Nat.beq (nm f) (nmS "range") && isGlobal sc f) = true) (hlt : Nat.blt b 1048576 = true) (he : evs r sc as l H = some ([.int (.ofNat b)], H1)) (S : St g x W l H σ s.heap) {Q : Value → Shared → Prop}
    (hQ : ∀ W' h' tk itv Pos own, W.le W' → St g (x.plus own) W' l H1 σ h' → Pos 0 W' own → (∀ p ∈ own, ∀ q ∈ x.out, p.1 ≠ q.1) → (∀ (y : Cx) (m : Nat), CxOk g y m → IterOk g y tg (.rng 0 b 1) itv Pos) → Q itv { s with heap := h', toks := tk }) :
    wpAny (model g.prog g.w) x.A (eval (.Call (.Name f fp) as [] cp) x.env) (fun xv s₁ => wpAny (model g.prog g.w) x.A (pyIter xv) Q E s₁) E s := by
  have hlt : b < 1048576 := Nat.le_of_ble_eq_true hlt
  refine call_it IH c k "range" hf (by decide +kernel) O.itn.1 boot_it.1 (by decide +kernel) (by decide +kernel) he S fun W1 h1 tk1 us le1 S1 rs => ?_
  obtain ⟨u, rfl, ra⟩ := rs.n1
  obtain ⟨t1, rfl⟩ := ra.isI
  clear rs ra he hf S
  refine PySem.call_range_1 (n := (b : Int)) ?_
  have S2 := S1.ext (h' := h1.push { cls := .type "range", data := .fields #[.int 0 tk1, .int (b : Int) t1, .int 1 (tk1 + 1)] }) fun _ _ e => Heap.get?_push_of_some _ e
  refine wpAny_pyIter_range (IsRange.new ..) (small_one (by decide) (by decide) (by omega) (by omega)) ?_
  refine one_it (s := { s with heap := h1.push { cls := .type "range", data := .fields #[.int 0 tk1, .int (b : Int) t1, .int 1 (tk1 + 1)] }, toks := tk1 }) S2 (tk := tk1 + 1 + 1) (T := "range_iterator") (by decide) (fun y m cy => iter_rng cy 0 b 1 _) ⟨Nat.zero_le _, ?_⟩ rfl fun W2 h2 tk2 itv Pos own le2 S2 hp hoo hI => hQ W2 h2 tk2 itv Pos own (le1.trans le2) S2 hp hoo hI
  have e1 : Builtin.Range.rangeSize 0 (b : Int) 1 = (b : Int) := by rw [rangeSize_one]; split <;> omega
  rw [e1]
  simp
theorem src_rng3 (O : OkG C g) (IH : Sound g n r) (c : CxOk g x n) (k : ScOk sc x.env) {tg : Expr} {f : Str} {fp cp : Pos} {as : List Expr} {a : Nat} (hf : (Nat.beq (nm f) (nmS "range") && isGlobal sc f) = true) (hlt : Nat.blt a 1048576 = true) (he : evs r sc as l H = some ([.int (.ofNat a), .int (-1), .int (-1)], H1)) (S : St g x W l H σ s.heap) {Q : Value → Shared → Prop}
    (hQ : ∀ W' h' tk itv Pos own, W.le W' → St g (x.plus own) W' l H1 σ h' → Pos 0 W' own → (∀ p ∈ own, ∀ q ∈ x.out, p.1 ≠ q.1) → (∀ (y : Cx) (m : Nat), CxOk g y m → IterOk g y tg (.rng (.ofNat a) (Nat.succ a) (-1)) itv Pos) → Q itv { s with heap := h', toks := tk }) :
    wpAny (model g.prog g.w) x.A (eval (.Call (.Name f fp) as [] cp) x.env) (fun xv s₁ => wpAny (model g.prog g.w) x.A (pyIter xv) Q E s₁) E s := by
  have hlt : a < 1048576 := Nat.le_of_ble_eq_true hlt
  refine call_it IH c k "range" hf (by decide +kernel) O.itn.1 boot_it.1 (by decide +kernel) (by decide +kernel) he S fun W1 h1 tk1 us le1 S1 rs => ?_
  obtain ⟨u, v, w, rfl, ra, rb, rc⟩ := rs.n3
  obtain ⟨t1, rfl⟩ := ra.isI
  obtain ⟨t2, rfl⟩ := rb.isI
  obtain ⟨t3, rfl⟩ := rc.isI
  clear rs ra rb rc he hf S
  refine PySem.call_range_3 (a := (a : Int)) (b := -1) (c := -1) (by decide) ?_ (.inl (PyProof.noPylong_small (by decide)))
  have S2 := S1.ext (h' := h1.push { cls := .type "range", data := .fields #[.int (a : Int) t1, .int (-1) t2, .int (-1) t3] }) fun _ _ e => Heap.get?_push_of_some _ e
  refine wpAny_pyIter_range (IsRange.new ..) (small_down hlt) ?_
  refine one_it (s := { s with heap := h1.push { cls := .type "range", data := .fields #[.int (a : Int) t1, .int (-1) t2, .int (-1) t3] }, toks := tk1 }) S2 (tk := tk1) (T := "range_iterator") (by decide) (fun y m cy => iter_rng cy (a : Int) (a + 1) (-1) _) ⟨Nat.zero_le _, ?_⟩ rfl fun W2 h2 tk2 itv Pos own le2 S2 hp hoo hI => hQ W2 h2 tk2 itv Pos own (le1.trans le2) S2 hp hoo hI
  rw [size_down]
  simp
theorem src_zip (O : OkG C g) (IH : Sound g n r) (c : CxOk g x n) (k : ScOk sc x.env) {tg : Expr} {f : Str} {fp cp : Pos} {as : List Expr} {i : Nat} {vs xs : List AV} (hf : (Nat.beq (nm f) (nmS "zip") && isGlobal sc f) = true) (hg : H1.get i = some (.list xs)) (htg : twoTg tg = true) (he : evs r sc as l H = some ([.loc i, .tup vs], H1)) (S : St g x W l H σ s.heap) {Q : Value → Shared → Prop}
    (hQ : ∀ W' h' tk itv Pos own, W.le W' → St g (x.plus own) W' l H1 σ h' → Pos 0 W' own → (∀ p ∈ own, ∀ q ∈ x.out, p.1 ≠ q.1) → (∀ (y : Cx) (m : Nat), CxOk g y m → IterOk g y tg (.zip (.loc i) (.tup vs)) itv Pos) → Q itv { s with heap := h', toks := tk }) :
    wpAny (model g.prog g.w) x.A (eval (.Call (.Name f fp) as [] cp) x.env) (fun xv s₁ => wpAny (model g.prog g.w) x.A (pyIter xv) Q E s₁) E s := by
  refine call_it IH c k "zip" hf (by decide +kernel) O.itn.2.1 boot_it.2.1 (by decide +kernel) (by decide +kernel) he S fun W1 h1 tk1 us le1 S1 rs => ?_
  obtain ⟨u, v, rfl, ra, rb⟩ := rs.n2
  obtain ⟨la, rfl, hm⟩ := ra.isL
  obtain ⟨t, ws, rfl, q1, q2, q3⟩ := rb.isT
  clear rs ra rb he hf S
  obtain ⟨a1, w1, k1, e1, g1, r1, l1⟩ := St.getL (s := { s with heap := h1, toks := tk1 }) S1 hg (.loc hm)
  first | exact xN e1 | exact xS e1 | (obtain rfl := x1 e1; clear e1) | (obtain ⟨rfl, rfl⟩ := x2 e1; clear e1) | (obtain ⟨rfl, rfl, rfl⟩ := x3 e1; clear e1) | (exfalso; cases e1; done) | cases e1
  have hL : h1.IsList la w1.toArray := ⟨_, g1, rfl, k1, rfl⟩
  have hT : h1.IsTuple t ws.toArray := S1.tups c _ _ q1
  refine call_zip (s := { s with heap := h1, toks := tk1 }) hL hT fun h2 Z hk => ?_
  clear hL hT g1 r1 l1
  refine wpAny_pyIter_zip Z.z ?_
  obtain ⟨z1, z2, z3, ⟨o1, ho1, c1, d1⟩, ⟨o2, ho2, c2, d2⟩⟩ := Z
  have own : ∀ p ∈ zOwn (h1.objs.size + 4) (h1.objs.size + 2) (h1.objs.size + 3) h1.objs.size (h1.objs.size + 1) .none .none o1 o2, h1.objs.size ≤ p.1 ∧ h2.get? p.1 = some p.2 :=
    zAll ⟨Nat.le_add_right _ _, z1⟩ ⟨Nat.le_add_right _ _, z2⟩ ⟨Nat.le_add_right _ _, z3⟩ ⟨Nat.le_refl _, ho1⟩ ⟨Nat.le_add_right _ _, ho2⟩
  exact hQ W1 h2 tk1 _ (ZPos g i vs (h1.objs.size + 4) (h1.objs.size + 2) (h1.objs.size + 3) h1.objs.size (h1.objs.size + 1)) _ le1 (S1.laid hk own) (.mk la t ws .none .none o1 o2 hm q1 q2 (five _) c1 d1 c2 d2) (S1.off fun p hp => (own p hp).1) fun y m cy => iter_zip cy i vs _ _ _ _ _ htg
theorem src_rev (O : OkG C g) (IH : Sound g n r) (c : CxOk g x n) (k : ScOk sc x.env) {tg : Expr} {f : Str} {fp cp : Pos} {as : List Expr} {vs : List AV} (hf : (Nat.beq (nm f) (nmS "reversed") && isGlobal sc f) = true) (hs : short 100000 vs = true) (he : evs r sc as l H = some ([.tup vs], H1)) (S : St g x W l H σ s.heap) {Q : Value → Shared → Prop}
    (hQ : ∀ W' h' tk itv Pos own, W.le W' → St g (x.plus own) W' l H1 σ h' → Pos 0 W' own → (∀ p ∈ own, ∀ q ∈ x.out, p.1 ≠ q.1) → (∀ (y : Cx) (m : Nat), CxOk g y m → IterOk g y tg (.rev vs) itv Pos) → Q itv { s with heap := h', toks := tk }) :
    wpAny (model g.prog g.w) x.A (eval (.Call (.Name f fp) as [] cp) x.env) (fun xv s₁ => wpAny (model g.prog g.w) x.A (pyIter xv) Q E s₁) E s := by
  refine call_it IH c k "reversed" hf (by decide +kernel) O.itn.2.2 boot_it.2.2 (by decide +kernel) (by decide +kernel) he S fun W1 h1 tk1 us le1 S1 rs => ?_
  obtain ⟨u, rfl, ra⟩ := rs.n1
  obtain ⟨a, ws, rfl, q1, q2, q3⟩ := ra.isT
  clear rs ra he hf S
  have hT : h1.IsTuple a ws.toArray := S1.tups c _ _ q1
  have hlen := q2.length
  have hsh := short_len hs
  refine call_reversed_tuple (s := { s with heap := h1, toks := tk1 }) hT (by rw [List.size_toArray, hlen]; omega) fun tk2 => ?_
  refine wpAny_pyIter_reversed (I := h1.objs.size) (Heap.get?_push_size _ rfl) ?_
  refine one_it (s := { s with heap := h1, toks := tk1 }) S1 (tk := tk2) (T := "reversed") (by decide) (fun y m cy => iter_rev cy vs (by omega) _) ⟨a, ws, ⟨q1, q2⟩, Nat.zero_le _, ?_⟩ rfl fun W2 h2 tk2 itv Pos own le2 S2 hp hoo hI => hQ W2 h2 tk2 itv Pos own (le1.trans le2) S2 hp hoo hI
  rw [List.size_toArray, hlen]
  simp
theorem mkSrc_ok (O : OkG C g) (IH : Sound g n r) (c : CxOk g x n) (k : ScOk sc x.env) {tg e : Expr} {src : Src} (h : mkSrc r sc tg e l H = some (src, H1)) : SrcOk g x e tg l H src H1 := by
  intro W σ s Q E S hQ
  cases mkSrc_inv h with
  | rng1 b hf he hb => exact src_rng1 O IH c k hf hb he S hQ
  | rng3 a hf he hb => exact src_rng3 O IH c k hf hb he S hQ
  | zip i vs xs hf he hg ht => exact src_zip O IH c k hf hg ht he S hQ
  | rev vs hf he hs => exact src_rev O IH c k hf hs he S hQ
  | seq hv h =>
    refine IH.ev x sc e l H _ _ c k hv W σ s _ E S fun W' h' tk u le S' ru => ?_
    exact seqSrc_ok c S' h ru fun W2 h2 tk2 itv Pos own le2 S2 hp hoo hI => hQ W2 h2 tk2 itv Pos own (le.trans le2) S2 hp hoo hI
end
end Mine

set_option maxRecDepth 100000
namespace Mine
open PySem PySem.W PySem.Calls PySem.Spec PyProof.Rows
section
variable {g : G} {C : Cfg} {x : Cx} {n : Nat} {W : Wd} {l l' : L} {H H' H1 H2 : Mine.H} {σ : Sg} {s : Shared} {E : Value → Shared → Prop} {r : R} {sc : Scope}
theorem slot_uniq {T : String} {y : Str} {id id' : String} (a : Slot T y id) (b : Slot T y id') : id = id' := by
  have h := a.lookup.symm.trans b.lookup
  have h' : (some (Value.builtin id)) = some (Value.builtin id') := by
    injection h
  injection h' with h'
  injection h'
noncomputable abbrev HasM (T : String) (y : Str) : Prop := ∃ id, Slot T y id ∧ typeOf (.builtin id) = pure (.type "method_descriptor")
theorem mList_slot {i : Nat} {vs as : List AV} {y : Str} {q} (e : mList i vs (nm y) as H = some q) : HasM "list" y := by
  rcases name2_inv e with ⟨q, _⟩ | ⟨q, _⟩
  · obtain rfl := name_eq (T := "append") (by decide +kernel) q
    exact ⟨_, F.slot_list_append, F.type_list_append⟩
  · obtain rfl := name_eq (T := "pop") (by decide +kernel) q
    exact ⟨_, F.slot_list_pop, F.type_list_pop⟩
theorem mDict_slot {i : Nat} {vs : List (AV × AV)} {as : List AV} {y : Str} {q} (e : mDict C i vs (nm y) as H = some q) : HasM "dict" y := by
  obtain ⟨k, d, _, e⟩ := as2_inv e
  rcases name2_inv e with ⟨q, _⟩ | ⟨q, _⟩
  · obtain rfl := name_eq (T := "get") (by decide +kernel) q
    exact ⟨_, F.slot_dict_get, F.type_dict_get⟩
  · obtain rfl := name_eq (T := "setdefault") (by decide +kernel) q
    exact ⟨_, F.slot_dict_setdefault, F.type_dict_setdefault⟩
theorem mStr_slot {cs : List Nat} {as : List AV} {y : Str} {q} (e : mStr cs (nm y) as H = some q) : HasM "str" y := by
  rcases name2_inv e with ⟨q, _⟩ | ⟨q, _⟩
  · obtain rfl := name_eq (T := "join") (by decide +kernel) q
    exact ⟨_, F.slot_str_join, F.type_str_join⟩
  · obtain rfl := name_eq (T := "startswith") (by decide +kernel) q
    exact ⟨_, F.slot_str_startswith, F.type_str_startswith⟩
inductive BmC (C : Cfg) (name : Nat) (as : List AV) (H : Mine.H) (q : AV × Mine.H) : Nat → AV → Prop
  | list {i : Nat} {vs : List AV} : H.get i = some (.list vs) → mList i vs name as H = some q → BmC C name as H q 0 (.loc i)
  | dict {i : Nat} {kvs : List (AV × AV)} : H.get i = some (.dict kvs) → mDict C i kvs name as H = some q → BmC C name as H q 1 (.loc i)
  | str {cs : List Nat} : mStr cs name as H = some q → BmC C name as H q 2 (.str cs)
theorem bmeth_loc {kd name i : Nat} {as : List AV} {q : AV × Mine.H} (e : bmeth C kd (.loc i) name as H = some q) : BmC C name as H q kd (.loc i) := by
  unfold bmeth at e
  dsimp only at e
  cases hg : H.get i with
  | none => rw [hg] at e; exact xN e
  | some o =>
    rw [hg] at e
    cases o with
    | list vs =>
      obtain ⟨hb, e⟩ := bool_inv e
      obtain rfl := Nat.eq_of_beq_eq_true hb
      exact .list hg e
    | dict kvs =>
      obtain ⟨hb, e⟩ := bool_inv e
      obtain rfl := Nat.eq_of_beq_eq_true hb
      exact .dict hg e
    | inst c fs => exact xN e
theorem bmeth_inv {kd name : Nat} {v : AV} {as : List AV} {q : AV × Mine.H} (e : bmeth C kd v name as H = some q) : BmC C name as H q kd v := by
  cases v <;> first | exact xN e | skip
  · obtain ⟨hb, e⟩ := bool_inv e
    obtain rfl := Nat.eq_of_beq_eq_true hb
    exact .str e
  · exact bmeth_loc e
inductive MrC (H : Mine.H) : Nat → AV → Prop
  | list {i : Nat} {vs : List AV} : H.get i = some (.list vs) → MrC H 0 (.loc i)
  | dict {i : Nat} {kvs : List (AV × AV)} : H.get i = some (.dict kvs) → MrC H 1 (.loc i)
  | str {cs : List Nat} : MrC H 2 (.str cs)
theorem methR_inv {kd name : Nat} {v : AV} (e : methR C v name H = some (.bl kd)) : MrC H kd v := by
  cases v <;> first | exact xN e | skip
  · cases e; exact .str
  · rename_i i
    unfold methR at e
    dsimp only at e
    cases hg : H.get i with
    | none => rw [hg] at e; exact xN e
    | some o =>
      rw [hg] at e
      cases o with
      | list vs => cases e; exact .list hg
      | dict kvs => cases e; exact .dict hg
      | inst c fs =>
        dsimp only at e
        cases h1 : look name fs with
        | some _ => rw [h1] at e; exact xN e
        | none =>
          rw [h1] at e
          dsimp only at e
          cases h2 : look name (C.mth c) with
          | some _ => rw [h2] at e; cases e
          | none => rw [h2] at e; exact xN e
theorem methR_user {k name : Nat} {v : AV} (e : methR C v name H = some (.user k)) : ∃ i c fs, v = .loc i ∧ H.get i = some (.inst c fs) ∧ look name fs = none ∧ look name (C.mth c) = some k := by
  cases v <;> first | exact xN e | skip
  · first | exact xN e | exact xS e | (obtain rfl := x1 e; clear e) | (obtain ⟨rfl, rfl⟩ := x2 e; clear e) | (obtain ⟨rfl, rfl, rfl⟩ := x3 e; clear e) | (exfalso; cases e; done) | cases e
  · rename_i i
    unfold methR at e
    dsimp only at e
    cases hg : H.get i with
    | none => rw [hg] at e; exact xN e
    | some o =>
      rw [hg] at e
      cases o with
      | list vs => cases e
      | dict kvs => cases e
      | inst c fs =>
        dsimp only at e
        cases h1 : look name fs with
        | some _ => rw [h1] at e; exact xN e
        | none =>
          rw [h1] at e
          obtain ⟨k', h2, e⟩ := optN (o := look name (C.mth c)) e
          first | exact xN e | exact xS e | (obtain rfl := x1 e; clear e) | (obtain ⟨rfl, rfl⟩ := x2 e; clear e) | (obtain ⟨rfl, rfl, rfl⟩ := x3 e; clear e) | (exfalso; cases e; done) | cases e
          exact ⟨i, c, fs, rfl, hg, h1, h2⟩
noncomputable def kdT (kd : Nat) : String := match kd with | 0 => "list" | 1 => "dict" | _ => "str"
end
end Mine

set_option maxRecDepth 100000
namespace Mine
open PySem PySem.W PySem.Calls PySem.Spec PyProof.Rows
section
variable {g : G} {C : Cfg} {x : Cx} {n : Nat} {W : Wd} {l l' : L} {H H' H1 H2 : Mine.H} {σ : Sg} {s : Shared} {E : Value → Shared → Prop} {r : R} {sc : Scope}
/-- a method of an instance is found -/
theorem user_get (O : OkG C g) (c : CxOk g x n) (S : St g x W l H σ s.heap) {i cc k : Nat} {fs : List (Nat × AV)} {y : Str} {u : Value} (hv : H.get i = some (.inst cc fs)) (hn : look (nm y) fs = none) (hm : look (nm y) (C.mth cc) = some k) (ro : VR g W (.loc i) u)
    {pl : Sem Bool} {Q : Value × List Value → Shared → Prop} (hQ : Q (.ref (g.fa k), [u]) s) : wpAny (model g.prog g.w) x.A (getMethod u y pl) Q E s := by
  obtain ⟨hy, hf, ht⟩ := O.mth _ _ _ hm
  obtain ⟨led, a, da, es, kk, N, hl, m1, m2, i1, i2, g1, g2, F, b1, b2, b3, b4, hget⟩ := S.inst hv ro
  have := hget y hy
  rw [hn] at this
  have I : InstAt s.heap a (instObj (g.ca cc) da) (g.ca cc) (some (dictOf es kk)) := ⟨g1, rfl, rfl, g2⟩
  exact method_fn (S.KIn c) I (O.hga cc) (O.hgt cc) hf ht (by show (lookIn y _).map (·.isSome) = some false; rw [lookIn_dict, this]; rfl) hQ
theorem dict_cls {kvs : List (AV × AV)} {o : Obj} (hr : DRI g W kvs o ∨ DRT g W kvs o ∨ DRS g W kvs o) : o.cls = .type "dict" ∧ o.dict = none := by
  rcases hr with ⟨_, _, h⟩ | ⟨_, _, _, _, h, _⟩ | ⟨_, _, _, _, _, _, _, _, _, h⟩
  · obtain ⟨_, _, h, _⟩ := h; exact ⟨h.1, h.2.1⟩
  · exact ⟨h.1, h.2.1⟩
  · obtain ⟨_, _, h, _⟩ := h; exact ⟨h.1, h.2.1⟩
/-- what a method of a built-in type needs -/
theorem bl_get (S : St g x W l H σ s.heap) {kd : Nat} {v : AV} {y : Str} {as : List AV} {u : Value} {q} (hr : methR C v (nm y) H = some (.bl kd)) (e : bmeth C kd v (nm y) as H2 = some q) (ro : VR g W v u)
    {pl : Sem Bool} {Q : Value × List Value → Shared → Prop} (hQ : ∀ id, Slot (kdT kd) y id → Q (.builtin id, [u]) s) : wpAny (model g.prog g.w) x.A (getMethod u y pl) Q E s := by
  cases methR_inv hr with
  | list hg =>
    cases bmeth_inv e with
    | list _ e =>
      obtain ⟨a, ws, k, L, g1, r1, l1⟩ := getList S hg ro
      obtain ⟨id, slot, ty⟩ := mList_slot e
      exact getMethod_builtin (T := "list") ⟨_, g1, rfl⟩ F.plainAttrs_list slot ty (fun b hb => by cases hb; exact ⟨_, g1, rfl⟩) (hQ _ slot)
  | dict hg =>
    cases bmeth_inv e with
    | dict _ e =>
      obtain ⟨led, d, o, N, hl, hm, ho, hmp, hr, hlen⟩ := getDict S hg ro
      obtain ⟨id, slot, ty⟩ := mDict_slot e
      have hd := dict_cls hr
      exact getMethod_builtin (T := "dict") ⟨o, ho, hd.1⟩ F.plainAttrs_dict slot ty (fun b hb => by cases hb; exact ⟨o, ho, hd.2⟩) (hQ _ slot)
  | str =>
    cases bmeth_inv e with
    | str e =>
      obtain ⟨id, slot, ty⟩ := mStr_slot e
      obtain ⟨t, rfl, _⟩ := ro.isS
      exact getMethod_builtin (T := "str") (typeIs_str _ _ _) F.plainAttrs_str slot ty (fun b hb => by cases hb) (hQ _ slot)
end
end Mine

set_option maxRecDepth 100000
namespace Mine
open PySem PySem.W PySem.Calls PySem.Spec PyProof.Rows
section
variable {g : G} {C : Cfg} {x : Cx} {n : Nat} {W : Wd} {l l' : L} {H H' H1 H2 : Mine.H} {σ : Sg} {s : Shared} {E : Value → Shared → Prop} {r : R} {sc : Scope}
theorem bl_call (O : OkV C g) (c : CxOk g x n) (S : St g x W l H σ s.heap) {kd : Nat} {v v' : AV} {y : Str} {as : List AV} {u : Value} {us : List Value} (e : bmeth C kd v (nm y) as H = some (v', H')) (ro : VR g W v u) (rs : VRs g W as us)
    {id : String} (slot : Slot (kdT kd) y id) {Q : Value → Shared → Prop} (hQ : PV g x W l H' σ v' Q s) : wpAny (model g.prog g.w) x.A (call (.builtin id) (u :: us)) Q E s := by
  have b := bmeth_inv e
  clear e
  cases b with
  | list hg e =>
    obtain ⟨id', s', _, hw⟩ := mList_ok (E := E) c S hg e ro rs hQ
    rw [slot_uniq slot s']; exact hw
  | dict hg e =>
    obtain ⟨id', s', _, hw⟩ := mDict_ok (E := E) O c S hg e ro rs hQ
    rw [slot_uniq slot s']; exact hw
  | str e =>
    obtain ⟨id', s', _, hw⟩ := mStr_ok (E := E) c S e ro rs hQ
    rw [slot_uniq slot s']; exact hw
end
end Mine

set_option maxRecDepth 100000
namespace Mine
open PySem PySem.W PySem.Calls PySem.Spec PyProof.Rows
section
variable {g : G} {C : Cfg} {x : Cx} {n : Nat} {W : Wd} {l l' : L} {H H' H1 H2 : Mine.H} {σ : Sg} {s : Shared} {E : Value → Shared → Prop} {r : R} {sc : Scope}
theorem boolT_inv {α : Type} {o : Option Bool} {f : Option α} {q : α} (e : (match o with | some true => f | some false => none | none => none) = some q) : o = some true ∧ f = some q := by
  rcases o with _ | _ | _
  · exact xN e
  · exact xN e
  · exact ⟨rfl, e⟩
theorem boolFT_inv {α : Type} {o : Option Bool} {f k : Option α} {q : α} (e : (match o with | some false => f | some true => k | none => none) = some q) : (o = some false ∧ f = some q) ∨ (o = some true ∧ k = some q) := by
  rcases o with _ | _ | _
  · exact xN e
  · exact .inl ⟨rfl, e⟩
  · exact .inr ⟨rfl, e⟩
theorem trTF_inv {α : Type} {o : Option (Bool × Mine.H)} {f k : Mine.H → Option α} {q : α} (e : (match o with | some (true, h) => f h | some (false, h) => k h | none => none) = some q) : (∃ h, o = some (true, h) ∧ f h = some q) ∨ ∃ h, o = some (false, h) ∧ k h = some q := by
  rcases o with _ | ⟨_ | _, h⟩
  · exact xN e
  · exact .inr ⟨h, rfl, e⟩
  · exact .inl ⟨h, rfl, e⟩
theorem trFT_inv {α : Type} {o : Option (Bool × Mine.H)} {f k : Mine.H → Option α} {q : α} (e : (match o with | some (false, h) => k h | some (true, h) => f h | none => none) = some q) : (∃ h, o = some (true, h) ∧ f h = some q) ∨ ∃ h, o = some (false, h) ∧ k h = some q := by
  rcases o with _ | ⟨_ | _, h⟩
  · exact xN e
  · exact .inr ⟨h, rfl, e⟩
  · exact .inl ⟨h, rfl, e⟩
theorem conjV_ok (IH : Sound g n r) (c : CxOk g x n) (k : ScOk sc x.env) {pos : Pos} : ∀ {es : List Expr} {H : Mine.H} {v : AV} {H' : Mine.H}, conjV r sc es l H = some (v, H') → EvOk g x (.BoolOp .And es pos) l H v H'
  | [], _, _, _, e => xN e
  | [a], H, v, H', e => fun W σ s Q E S hQ => BoolOp_one (IH.ev x sc a l H v H' c k e W σ s Q E S hQ)
  | a :: b :: t, H, v, H', e => by
    obtain ⟨v1, H1, h1, e⟩ := optVH (o := r.ev sc a l H) e
    obtain ⟨ht, e⟩ := boolT_inv e
    intro W σ s Q E S hQ
    refine BoolOp_and (IH.ev x sc a l H v1 H1 c k h1 W σ s _ E S fun W1 h1 tk1 u le1 S1 ru => ?_)
    refine truthy_ok ht ru ?_
    rw [if_pos rfl]
    exact conjV_ok (pos := pos) IH c k e W1 σ _ Q E S1 fun W2 h2 tk2 u2 le2 S2 r2 => hQ W2 h2 tk2 u2 (le1.trans le2) S2 r2
theorem disjV_ok (IH : Sound g n r) (c : CxOk g x n) (k : ScOk sc x.env) {pos : Pos} : ∀ {es : List Expr} {H : Mine.H} {v : AV} {H' : Mine.H}, disjV r sc es l H = some (v, H') → EvOk g x (.BoolOp .Or es pos) l H v H'
  | [], _, _, _, e => xN e
  | [a], H, v, H', e => fun W σ s Q E S hQ => BoolOp_one (IH.ev x sc a l H v H' c k e W σ s Q E S hQ)
  | a :: b :: t, H, v, H', e => by
    obtain ⟨v1, H1, h1, e⟩ := optVH (o := r.ev sc a l H) e
    intro W σ s Q E S hQ
    refine BoolOp_or (IH.ev x sc a l H v1 H1 c k h1 W σ s _ E S fun W1 h1 tk1 u le1 S1 ru => ?_)
    rcases boolFT_inv e with ⟨ht, e⟩ | ⟨ht, e⟩
    · refine truthy_ok ht ru ?_
      rw [if_neg Bool.false_ne_true]
      exact disjV_ok (pos := pos) IH c k e W1 σ _ Q E S1 fun W2 h2 tk2 u2 le2 S2 r2 => hQ W2 h2 tk2 u2 (le1.trans le2) S2 r2
    · refine y2 (P := fun v H' => PV g x W l H' σ v Q s → _) e (fun hQ => ?_) hQ
      refine truthy_ok ht ru ?_
      rw [if_pos rfl]
      exact hQ W1 _ tk1 u le1 S1 ru
theorem conjT_ok (IH : Sound g n r) (c : CxOk g x n) (k : ScOk sc x.env) {pos : Pos} : ∀ {es : List Expr} {H : Mine.H} {b : Bool} {H' : Mine.H}, conjT r sc es l H = some (b, H') → TrOk g x (.BoolOp .And es pos) l H b H'
  | [], _, _, _, e => y2 (P := fun b H' => TrOk g x (.BoolOp .And [] pos) l _ b H') e fun W σ s Q E S hQ => isTrue_and_nil (hQ W s.heap s.toks (Wd.le.refl W) S)
  | a :: t, H, b, H', e => by
    rcases trTF_inv (o := r.tr sc a l H) e with ⟨H1, h1, e⟩ | ⟨H1, h1, e⟩
    · intro W σ s Q E S hQ
      refine isTrue_and (IH.tr x sc a l H true H1 c k h1 W σ s _ E S fun W1 h1 tk1 le1 S1 => ?_)
      rw [if_pos rfl]
      exact conjT_ok (pos := pos) IH c k e W1 σ _ Q E S1 fun W2 h2 tk2 le2 S2 => hQ W2 h2 tk2 (le1.trans le2) S2
    · refine y2 (P := fun b H' => TrOk g x (.BoolOp .And (a :: t) pos) l H b H') e fun W σ s Q E S hQ => ?_
      refine isTrue_and (IH.tr x sc a l H false H1 c k h1 W σ s _ E S fun W1 h1 tk1 le1 S1 => ?_)
      rw [if_neg Bool.false_ne_true]
      exact hQ W1 _ tk1 le1 S1
theorem disjT_ok (IH : Sound g n r) (c : CxOk g x n) (k : ScOk sc x.env) {pos : Pos} : ∀ {es : List Expr} {H : Mine.H} {b : Bool} {H' : Mine.H}, disjT r sc es l H = some (b, H') → TrOk g x (.BoolOp .Or es pos) l H b H'
  | [], _, _, _, e => y2 (P := fun b H' => TrOk g x (.BoolOp .Or [] pos) l _ b H') e fun W σ s Q E S hQ => isTrue_or_nil (hQ W s.heap s.toks (Wd.le.refl W) S)
  | a :: t, H, b, H', e => by
    rcases trFT_inv (o := r.tr sc a l H) e with ⟨H1, h1, e⟩ | ⟨H1, h1, e⟩
    · refine y2 (P := fun b H' => TrOk g x (.BoolOp .Or (a :: t) pos) l H b H') e fun W σ s Q E S hQ => ?_
      refine isTrue_or (IH.tr x sc a l H true H1 c k h1 W σ s _ E S fun W1 h1 tk1 le1 S1 => ?_)
      rw [if_pos rfl]
      exact hQ W1 _ tk1 le1 S1
    · intro W σ s Q E S hQ
      refine isTrue_or (IH.tr x sc a l H false H1 c k h1 W σ s _ E S fun W1 h1 tk1 le1 S1 => ?_)
      rw [if_neg Bool.false_ne_true]
      exact disjT_ok (pos := pos) IH c k e W1 σ _ Q E S1 fun W2 h2 tk2 le2 S2 => hQ W2 h2 tk2 (le1.trans le2) S2
end
end Mine

set_option maxRecDepth 100000
namespace Mine
open PySem PySem.W PySem.Calls PySem.Spec PyProof.Rows
section
variable {g : G} {C : Cfg} {x : Cx} {n : Nat} {W : Wd} {l l' : L} {H H' H1 H2 : Mine.H} {σ : Sg} {s : Shared} {E : Value → Shared → Prop} {r : R} {sc : Scope}
theorem St.newD (S : St g x W l H σ s.heap) : St g x ⟨W.X, (2 * H.nx, s.heap.objs.size) :: W.mp⟩ l (H.new (.dict [])).2 σ (s.heap.push { cls := .type "dict", data := .dict #[] }) := by
  have hd : ({ cls := .type "dict", data := .dict #[] } : Obj).IsDictOf (intKind g.prog g.w) [] := by
    obtain ⟨o, ho, hd⟩ := Heap.dictOf_iff.mp (Heap.DictOf.new (knd := intKind g.prog g.w) s.heap)
    rw [Heap.get?_push_size _ rfl] at ho
    exact (Option.some.inj ho) ▸ hd
  exact S.grow (h' := s.heap.push { cls := .type "dict", data := .dict #[] }) (fun b o e => Heap.get?_push_of_some _ e) [(2 * H.nx, s.heap.objs.size, { cls := .type "dict", data := .dict #[] })] (ao := .dict [])
    (fun p hp => by
      rw [List.mem_singleton] at hp; subst hp
      exact ⟨Nat.le_refl _, Heap.get?_push_size _ rfl, Nat.le_refl _, by simp only; omega⟩)
    (fun p hp q hq => by rw [List.mem_singleton] at hp hq; subst hp hq; simp)
    (fun led' hl' => ⟨s.heap.objs.size, _, List.mem_cons_self, hl' (2 * H.nx, s.heap.objs.size, { cls := .type "dict", data := .dict #[] }) (by simp), .inl ⟨[], .nil, hd⟩, by simp⟩)
theorem sub_plain {i : Expr} (hi : ∀ lo hi st p, i ≠ .Slice lo hi st p) (a b : Value) : subscripted i false a b = operate [a, b] (getItem a b) := by
  cases i <;> first | rfl | exact absurd rfl (hi _ _ _ _)
/-- one comparison -/
theorem cmp1_ok (O : OkG C g) (IH : Sound g n r) (c : CxOk g x n) (k : ScOk sc x.env) {a b : Expr} {op : CmpOp} {pos : Pos} {va vb : AV} {res : Bool} (hns : notSet b = true) (ea : r.ev sc a l H = some (va, H1)) (eb : r.ev sc b l H1 = some (vb, H2)) (ec : cmpV C op va vb H2 = some res) :
    EvOk g x (.Compare a [op] [b] pos) l H (.bool res) H2 := by
  intro W σ s Q E S hQ
  refine wpAny_Compare1 (IH.ev x sc a l H va H1 c k ea W σ s _ E S fun W1 h1 tk1 u le1 S1 ru => ?_) ?_
  · refine IH.ev x sc b l H1 vb H2 c k eb W1 σ { s with heap := h1, toks := tk1 } _ E S1 fun W2 h2 tk2 u2 le2 S2 r2 => ?_
    exact cmp_ok (s := { s with heap := h2, toks := tk2 }) O.toOkV c S2 ec (ru.mono le2) r2 fun tk3 => hQ W2 h2 tk3 _ (le1.trans le2) S2 (.bool _)
  · cases b <;> first | rfl | cases hns
inductive ChC (C : Cfg) (r : R) (sc : Scope) (l : L) (H2 : Mine.H) (op op2 : CmpOp) (va vb : AV) (d : Expr) : AV → Mine.H → Prop
  | go {z : AV} {H3 : Mine.H} {b : Bool} : cmpV C op va vb H2 = some true → r.ev sc d l H2 = some (z, H3) → cmpV C op2 vb z H3 = some b → ChC C r sc l H2 op op2 va vb d (.bool b) H3
  | stop : cmpV C op va vb H2 = some false → ChC C r sc l H2 op op2 va vb d (.bool false) H2
theorem optB {β : Type} {o : Option Bool} {f : Bool → Option β} {q : β} (e : (match o with | some p => f p | none => none) = some q) : ∃ p, o = some p ∧ f p = some q := by
  cases o with
  | none => exact xN e
  | some p => exact ⟨p, rfl, e⟩
theorem chain_inv {op op2 : CmpOp} {va vb : AV} {d : Expr} {q : AV × Mine.H} (ec : (match cmpV C op va vb H2 with
            | some true => (match r.ev sc d l H2 with
              | some (z, h3) => (match cmpV C op2 vb z h3 with | some c => some (AV.bool c, h3) | Option.none => Option.none)
              | Option.none => Option.none)
            | some false => some (.bool false, H2)
            | Option.none => Option.none) = some q) : ChC C r sc l H2 op op2 va vb d q.1 q.2 := by
  rcases hc : cmpV C op va vb H2 with _ | _ | _
  · rw [hc] at ec; exact xN ec
  · rw [hc] at ec; cases ec; exact .stop hc
  · rw [hc] at ec
    obtain ⟨z, H3, ed, ec⟩ := optVH (o := r.ev sc d l H2) ec
    obtain ⟨b, hb, ec⟩ := optB ec
    first | exact xN ec | exact xS ec | (obtain rfl := x1 ec; clear ec) | (obtain ⟨rfl, rfl⟩ := x2 ec; clear ec) | (obtain ⟨rfl, rfl, rfl⟩ := x3 ec; clear ec) | (exfalso; cases ec; done) | cases ec
    exact .go hc ed hb
theorem cmp2_ok (O : OkG C g) (IH : Sound g n r) (c : CxOk g x n) (k : ScOk sc x.env) {a b d : Expr} {op op2 : CmpOp} {pos : Pos} {va vb v : AV} (hns : notSet d = true) (ea : r.ev sc a l H = some (va, H1)) (eb : r.ev sc b l H1 = some (vb, H2)) (ch : ChC C r sc l H2 op op2 va vb d v H') :
    EvOk g x (.Compare a [op, op2] [b, d] pos) l H v H' := by
  intro W σ s Q E S hQ
  refine Compare_chain (rs := []) (ops := []) (IH.ev x sc a l H va H1 c k ea W σ s _ E S fun W1 h1 tk1 u le1 S1 ru => ?_) ?_
  · refine chain_link (IH.ev x sc b l H1 vb H2 c k eb W1 σ { s with heap := h1, toks := tk1 } _ E S1 fun W2 h2 tk2 u2 le2 S2 r2 => ?_)
    cases ch with
    | go hc ed hc2 =>
      refine cmp_ok (s := { s with heap := h2, toks := tk2 }) O.toOkV c S2 hc (ru.mono le2) r2 fun tk3 => wpAny_truthy_bool ?_
      rw [if_pos rfl]
      refine chain_last (IH.ev x sc d l H2 _ _ c k ed W2 σ { s with heap := h2, toks := tk3 } _ E S2 fun W3 h3 tk4 u3 le3 S3 r3 => ?_)
      exact cmp_ok (s := { s with heap := h3, toks := tk4 }) O.toOkV c S3 hc2 (r2.mono le3) r3 fun tk5 => hQ W3 h3 tk5 _ ((le1.trans le2).trans le3) S3 (.bool _)
    | stop hc =>
      refine cmp_ok (s := { s with heap := h2, toks := tk2 }) O.toOkV c S2 hc (ru.mono le2) r2 fun tk3 => wpAny_truthy_bool ?_
      rw [if_neg Bool.false_ne_true]
      exact hQ W2 h2 tk3 _ (le1.trans le2) S2 (.bool _)
  · cases d <;> first | rfl | cases hns
/-- a call of a method -/
theorem mcall_ok (O : OkG C g) (IH : Sound g n r) (c : CxOk g x (n + 1)) (k : ScOk sc x.env) {o : Expr} {y : Str} {ap p : Pos} {as : List Expr} {vo : AV} {m : MT} {vs : List AV} {q : AV × Mine.H} (hns : notSup o = true) (hl : ap.endLine = p.line) (ha : as.length < 30)
    (eo : r.ev sc o l H = some (vo, H1)) (em : methR C vo (nm y) H1 = some m) (ea : evs r sc as l H1 = some (vs, H2)) (e : methV C r m vo (nm y) vs H2 = some q) : EvOk g x (.Call (.Attribute o y ap) as [] p) l H q.1 q.2 := by
  intro W σ s Q E S hQ
  have c' := c.le (Nat.le_succ n)
  refine mcall hns (by simp [hl]) ha (evs_star ea) (IH.ev x sc o l H vo H1 c' k eo W σ s _ E S fun W1 h1 tk1 uo le1 S1 ro => fun pl => ?_)
  cases m with
  | user kf =>
    obtain ⟨i, cc, fs, rfl, hg, hn, hm⟩ := methR_user em
    clear em
    refine user_get (s := { s with heap := h1, toks := tk1 }) O c' S1 hg hn hm ro ?_
    obtain ⟨f, hf, e⟩ := optF (o := nth C.fns kf) e
    refine call_args (P := fun h => g.K.In h) (evs_star ea) (keeps_K (O.kfn _ _ hf)) (evs_ok IH c' k ea S1 fun W2 h2 tk2 us le2 S2 rs => ⟨S2.KIn c', ?_⟩)
    exact cl_call IH c' S2 e (.cons (ro.mono le2) rs) fun W3 h3 tk3 u le3 S3 ru => hQ W3 h3 tk3 u ((le1.trans le2).trans le3) S3 ru
  | bl kd =>
    refine bl_get (C := C) (s := { s with heap := h1, toks := tk1 }) S1 em e ro fun id slot => ?_
    refine call_args (P := fun _ => True) (evs_star ea) (keeps_bi (by intro a h; cases h)) (evs_ok IH c' k ea S1 fun W2 h2 tk2 us le2 S2 rs => ⟨trivial, ?_⟩)
    exact bl_call (s := { s with heap := h2, toks := tk2 }) O.toOkV c' S2 e (ro.mono le2) rs slot fun W3 h3 tk3 u le3 S3 ru => hQ W3 h3 tk3 u ((le1.trans le2).trans le3) S3 ru
end
end Mine

set_option maxRecDepth 100000
namespace Mine
open PySem PySem.W PySem.Calls PySem.Spec PyProof.Rows
section
variable {g : G} {C : Cfg} {x : Cx} {n : Nat} {W : Wd} {l l' : L} {H H' H1 H2 : Mine.H} {σ : Sg} {s : Shared} {E : Value → Shared → Prop} {r : R} {sc : Scope} {v : AV}
/-- no call of super, a class's own first statement apart -/
theorem ev_const {c : Const} {kd : Nat} {p : Pos} (e : ev C r sc (.Constant c kd p) l H = some (v, H')) : EvOk g x (.Constant c kd p) l H v H' := by
  cases c <;> first | exact xN e | skip
  · refine y2 (P := fun v H' => EvOk g x _ l H v H') e fun W σ s Q E S hQ => Constant_none (hQ W s.heap s.toks _ (Wd.le.refl W) S .none)
  · refine y2 (P := fun v H' => EvOk g x _ l H v H') e fun W σ s Q E S hQ => Constant_bool (hQ W s.heap s.toks _ (Wd.le.refl W) S (.bool _))
  · refine y2 (P := fun v H' => EvOk g x _ l H v H') e fun W σ s Q E S hQ => wpAny_Constant_int (hQ W s.heap _ _ (Wd.le.refl W) S (.int _ _))
  · rename_i y
    obtain ⟨hb, e⟩ := bool_inv (b := strB y.cps.toList) e
    exact y2 (P := fun v H' => EvOk g x _ l H v H') e fun W σ s Q E S hQ => wpAny_Constant_str (hQ W s.heap _ (.str y _) (Wd.le.refl W) S (.str y.cps.toList _ hb))
theorem ev_binop (O : OkG C g) (IH : Sound g n r) (c : CxOk g x n) (k : ScOk sc x.env) {a b : Expr} {op : Operator} {p : Pos} (e : ev C r sc (.BinOp a op b p) l H = some (v, H')) : EvOk g x (.BinOp a op b p) l H v H' := by
  obtain ⟨va, H1, ea, e1⟩ := optVH (o := r.ev sc a l H) e
  clear e
  obtain ⟨vb, H2, eb, e⟩ := optVH (o := r.ev sc b l H1) e1
  clear e1
  intro W σ s Q E S hQ
  refine wpAny_BinOp (IH.ev x sc a l H va H1 c k ea W σ s _ E S fun W1 h1 tk1 u le1 S1 ru => ?_)
  refine IH.ev x sc b l H1 vb H2 c k eb W1 σ { s with heap := h1, toks := tk1 } _ E S1 fun W2 h2 tk2 u2 le2 S2 r2 => ?_
  exact bin_ok (s := { s with heap := h2, toks := tk2 }) O.toOkV S2 e (ru.mono le2) r2 fun W3 h3 tk3 u3 le3 S3 r3 => hQ W3 h3 tk3 u3 ((le1.trans le2).trans le3) S3 r3
theorem ev_unop (IH : Sound g n r) (c : CxOk g x n) (k : ScOk sc x.env) {a : Expr} {op : UnaryOp} {p : Pos} (e : ev C r sc (.UnaryOp op a p) l H = some (v, H')) : EvOk g x (.UnaryOp op a p) l H v H' := by
  obtain ⟨va, H1, ea, e1⟩ := optVH (o := r.ev sc a l H) e
  clear e
  cases op <;> first | exact xN e1 | skip
  obtain ⟨i, rfl, e⟩ := int_inv e1
  exact y2 (P := fun v H' => EvOk g x _ l H v H') e fun W σ s Q E S hQ => UnaryOp_ (IH.ev x sc a l H _ H1 c k ea W σ s _ E S fun W1 h1 tk1 u le1 S1 ru => by
    obtain ⟨t, rfl⟩ := ru.isI
    exact neg_int (hQ W1 _ _ _ le1 S1 (.int _ _)))
theorem ev_ifexp (IH : Sound g n r) (c : CxOk g x n) (k : ScOk sc x.env) {t a b : Expr} {p : Pos} (e : ev C r sc (.IfExp t a b p) l H = some (v, H')) : EvOk g x (.IfExp t a b p) l H v H' := by
  rcases trTF_inv (o := r.tr sc t l H) e with ⟨H1, et, e1⟩ | ⟨H1, et, e1⟩
  · intro W σ s Q E S hQ
    refine IfExp_ (IH.tr x sc t l H true H1 c k et W σ s _ E S fun W1 h1 tk1 le1 S1 => ?_)
    rw [if_pos rfl]
    exact IH.ev x sc a l H1 v H' c k e1 W1 σ _ Q E S1 fun W2 h2 tk2 u le2 S2 ru => hQ W2 h2 tk2 u (le1.trans le2) S2 ru
  · intro W σ s Q E S hQ
    refine IfExp_ (IH.tr x sc t l H false H1 c k et W σ s _ E S fun W1 h1 tk1 le1 S1 => ?_)
    rw [if_neg Bool.false_ne_true]
    exact IH.ev x sc b l H1 v H' c k e1 W1 σ _ Q E S1 fun W2 h2 tk2 u le2 S2 ru => hQ W2 h2 tk2 u (le1.trans le2) S2 ru
inductive CmpC (C : Cfg) (r : R) (sc : Scope) (l : L) (H : Mine.H) (a : Expr) : List CmpOp → List Expr → Bool → Mine.H → Prop
  | one {op : CmpOp} {b : Expr} {va vb : AV} {H1 H2 : Mine.H} {q : Bool} : notSet b = true → r.ev sc a l H = some (va, H1) → r.ev sc b l H1 = some (vb, H2) → cmpV C op va vb H2 = some q → CmpC C r sc l H a [op] [b] q H2
  | two {op op2 : CmpOp} {b d : Expr} {va vb : AV} {H1 H2 H3 : Mine.H} {q : Bool} : notSet d = true → r.ev sc a l H = some (va, H1) → r.ev sc b l H1 = some (vb, H2) → ChC C r sc l H2 op op2 va vb d (.bool q) H3 → CmpC C r sc l H a [op, op2] [b, d] q H3
theorem ChC.bool {op op2 : CmpOp} {va vb v : AV} {d : Expr} (h : ChC C r sc l H op op2 va vb d v H') : ∃ q, v = .bool q := by cases h <;> exact ⟨_, rfl⟩
theorem compare_inv {a : Expr} {ops : List CmpOp} {bs : List Expr} {p : Pos} (e : ev C r sc (.Compare a ops bs p) l H = some (v, H')) : ∃ q, v = .bool q ∧ CmpC C r sc l H a ops bs q H' := by
  obtain ⟨va, H1, ea, e1⟩ := optVH (o := r.ev sc a l H) e
  clear e
  rcases ops with _ | ⟨op, _ | ⟨op2, _ | ⟨op3, ops⟩⟩⟩
  · exact xN e1
  · rcases bs with _ | ⟨b, _ | ⟨d, bs⟩⟩
    · exact xN e1
    · obtain ⟨hns, e⟩ := bool_inv (b := notSet b) e1
      obtain ⟨vb, H2, eb, e⟩ := optVH (o := r.ev sc b l H1) e
      obtain ⟨q, hb, e⟩ := optB e
      exact y2 (P := fun v H' => ∃ q, v = .bool q ∧ CmpC C r sc l H a [op] [b] q H') e ⟨q, rfl, .one hns ea eb hb⟩
    · exact xN e1
  · rcases bs with _ | ⟨b, _ | ⟨d, _ | ⟨f, bs⟩⟩⟩
    · exact xN e1
    · exact xN e1
    · obtain ⟨hns, e⟩ := bool_inv (b := notSet d) e1
      obtain ⟨vb, H2, eb, e⟩ := optVH (o := r.ev sc b l H1) e
      have ch : ChC C r sc l H2 op op2 va vb d v H' := chain_inv e
      obtain ⟨q, rfl⟩ := ch.bool
      exact ⟨q, rfl, .two hns ea eb ch⟩
    · exact xN e1
  · exact xN e1
theorem ev_compare (O : OkG C g) (IH : Sound g n r) (c : CxOk g x n) (k : ScOk sc x.env) {a : Expr} {ops : List CmpOp} {bs : List Expr} {p : Pos} (e : ev C r sc (.Compare a ops bs p) l H = some (v, H')) : EvOk g x (.Compare a ops bs p) l H v H' := by
  obtain ⟨q, rfl, h⟩ := compare_inv e
  clear e
  cases h with
  | one hns ea eb hb => exact cmp1_ok O IH c k hns ea eb hb
  | two hns ea eb ch => exact cmp2_ok O IH c k hns ea eb ch
theorem optM {β : Type} {o : Option MT} {f : MT → Option β} {q : β} (e : (match o with | some p => f p | none => none) = some q) : ∃ p, o = some p ∧ f p = some q := by
  cases o with
  | none => exact xN e
  | some p => exact ⟨p, rfl, e⟩
theorem false1_inv {α : Type} {b : Bool} {f : Option α} {q : α} (e : (match b with | false => none | true => f) = some q) : b = true ∧ f = some q := by
  first | exact xN b | exact xS b | (obtain rfl := x1 b; clear b) | (obtain ⟨rfl, rfl⟩ := x2 b; clear b) | (obtain ⟨rfl, rfl, rfl⟩ := x3 b; clear b) | (exfalso; cases b; done) | cases b
  · exact xN e
  · exact ⟨rfl, e⟩
theorem ev_call (O : OkG C g) (IH : Sound g n r) (c : CxOk g x (n + 1)) (k : ScOk sc x.env) {f : Expr} {as : List Expr} {ks : List Keyword} {p : Pos} (e : ev C r sc (.Call f as ks p) l H = some (v, H')) : EvOk g x (.Call f as ks p) l H v H' := by
  cases ks with
  | cons => exact xN e
  | nil =>
  have h : (∃ o y ap, f = .Attribute o y ap) ∨ ((∀ o y ap, f ≠ .Attribute o y ap) ∧ (match r.ev sc f l H with
        | some (v, h1) => (match evs r sc as l h1 with
          | some (vs, h2) => callV C r v vs h2
          | Option.none => Option.none)
        | Option.none => Option.none) = some (v, H')) := by
    cases f <;> first | exact .inl ⟨_, _, _, rfl⟩ | exact .inr ⟨fun _ _ _ => Expr.noConfusion, e⟩
  rcases h with ⟨o, y, ap, rfl⟩ | ⟨hf, e⟩
  · obtain ⟨hq, e1⟩ := false1_inv (b := notSup o && Nat.beq ap.endLine p.line && short 29 as) e
    clear e
    rw [Bool.and_eq_true, Bool.and_eq_true] at hq
    obtain ⟨vo, H1, eo, e⟩ := optVH (o := r.ev sc o l H) e1
    clear e1
    obtain ⟨m, em, e1⟩ := optM e
    clear e
    obtain ⟨vs, H2, ea, e⟩ := optVsH (o := evs r sc as l H1) e1
    exact mcall_ok (q := (v, H')) O IH c k hq.1.1 (Nat.eq_of_beq_eq_true hq.1.2) (Nat.lt_succ_of_lt (short_len hq.2)) eo em ea e
  · obtain ⟨vf, H1, ef, e⟩ := optVH (o := r.ev sc f l H) e
    obtain ⟨vs, H2, ea, e⟩ := optVsH (o := evs r sc as l H1) e
    intro W σ s Q E S hQ
    refine fcall hf (IH.ev x sc f l H vf H1 (c.le (Nat.le_succ n)) k ef W σ s _ E S fun W1 h1 tk1 u le1 S1 ru => ?_)
    exact callV_ok (s := { s with heap := h1, toks := tk1 }) O IH c k ea e S1 ru fun W2 h2 tk2 u2 le2 S2 r2 => hQ W2 h2 tk2 u2 (le1.trans le2) S2 r2
theorem ev_attr (O : OkG C g) (IH : Sound g n r) (c : CxOk g x n) (k : ScOk sc x.env) {o : Expr} {y : Str} {p : Pos} (e : ev C r sc (.Attribute o y p) l H = some (v, H')) : EvOk g x (.Attribute o y p) l H v H' := by
  obtain ⟨hns, e1⟩ := bool_inv (b := notSup o) e
  clear e
  obtain ⟨vo, H1, eo, e⟩ := optVH (o := r.ev sc o l H) e1
  clear e1
  obtain ⟨w, hw, e1⟩ := optV e
  clear e
  refine y2 (P := fun v H' => EvOk g x _ l H v H') e1 fun W σ s Q E S hQ => ?_
  refine Attribute_any_ (IH.ev x sc o l H vo _ c k eo W σ s _ E S fun W1 h1 tk1 u le1 S1 ru => attr_ok (s := { s with heap := h1, toks := tk1 }) O c S1 hw ru fun tk2 u2 r2 => hQ W1 h1 tk2 u2 le1 S1 r2) ?_
  show (attributeBase o y x.env (eval o x.env) >>= _) = _
  rw [base_plain hns]
theorem ev_subscript (O : OkG C g) (IH : Sound g n r) (c : CxOk g x n) (k : ScOk sc x.env) {o i : Expr} {p : Pos} (hi : ∀ lo hi st p, i ≠ .Slice lo hi st p) (e : ev C r sc (.Subscript o i p) l H = some (v, H')) : EvOk g x (.Subscript o i p) l H v H' := by
  obtain ⟨vo, H1, eo, e1⟩ := optVH (o := r.ev sc o l H) e
  clear e
  have e : (match r.ev sc i l H1 with | some (k, h2) => (match sub C vo k h2 with | some w => some (w, h2) | none => none) | none => none) = some (v, H') := by
    cases i <;> first | exact e1 | exact absurd rfl (hi _ _ _ _)
  clear e1
  obtain ⟨vi, H2, ei, e⟩ := optVH (o := r.ev sc i l H1) e
  obtain ⟨w, hw, e⟩ := optV e
  refine y2 (P := fun v H' => EvOk g x _ l H v H') e fun W σ s Q E S hQ => ?_
  refine Subscript_ (IH.ev x sc o l H vo H1 c k eo W σ s _ E S fun W1 h1 tk1 u le1 S1 ru => ?_)
  refine IH.ev x sc i l H1 vi _ c k ei W1 σ { s with heap := h1, toks := tk1 } _ E S1 fun W2 h2 tk2 u2 le2 S2 r2 => ?_
  exact sub_ok (s := { s with heap := h2, toks := tk2 }) O.toOkV c S2 hw (ru.mono le2) r2 (sub_plain hi) fun tk3 u3 r3 => hQ W2 h2 tk3 u3 (le1.trans le2) S2 r3
theorem ev_tuple (IH : Sound g n r) (c : CxOk g x n) (k : ScOk sc x.env) {es : List Expr} {kd : Nat} {p : Pos} (e : ev C r sc (.Tuple es kd p) l H = some (v, H')) : EvOk g x (.Tuple es kd p) l H v H' := by
  obtain ⟨vs, H1, hs, e1⟩ := optVsH (o := evs r sc es l H) e
  clear e
  obtain ⟨t, ht, e⟩ := optV e1
  obtain ⟨rfl, hd, hl⟩ := mkTup_some ht
  refine y2 (P := fun v H' => EvOk g x _ l H v H') e fun W σ s Q E S hQ => ?_
  refine wpAny_Tuple (evs_ok IH c k hs S fun W1 h1 tk1 us le1 S1 rs => ⟨by rw [rs.length, sizeLine_eq]; omega, ?_⟩)
  exact hQ _ _ tk1 _ (le1.trans (Wd.le_imm _)) (S1.newT (s := { s with heap := h1, toks := tk1 }) (ws := us)) (VR.newT rs hd)
theorem ev_list (IH : Sound g n r) (c : CxOk g x n) (k : ScOk sc x.env) {es : List Expr} {p : Pos} (e : ev C r sc (.List es p) l H = some (v, H')) : EvOk g x (.List es p) l H v H' := by
  obtain ⟨vs, H1, hs, e1⟩ := optVsH (o := evs r sc es l H) e
  clear e
  obtain ⟨rfl, rfl, hl⟩ := newL_some e1
  clear e1
  intro W σ s Q E S hQ
  refine wpAny_List (evs_ok IH c k hs S fun W1 h1 tk1 us le1 S1 rs => ⟨by rw [rs.length, sizeLine_eq]; omega, ?_⟩)
  exact hQ _ _ tk1 _ (le1.trans (Wd.le_obj [(2 * H1.nx, h1.objs.size)])) (S1.newL (s := { s with heap := h1, toks := tk1 }) rs rfl (by omega)) (.loc List.mem_cons_self)
theorem ev_dict {ks : List (Option Expr)} {vs : List Expr} {p : Pos} (e : ev C r sc (.Dict ks vs p) l H = some (v, H')) : EvOk g x (.Dict ks vs p) l H v H' := by
  cases ks with
  | cons => exact xN e
  | nil =>
    refine y2 (P := fun v H' => EvOk g x _ l H v H') e fun W σ s Q E S hQ => ?_
    show wpAny _ _ (eval (.Dict [] [] p) x.env) Q E s
    exact wpAny_Dict_empty (hQ _ _ s.toks _ (Wd.le_obj [(2 * H.nx, s.heap.objs.size)]) S.newD (.loc List.mem_cons_self))
inductive CompV (r : R) (sc : Scope) (elt : Expr) (csc : Scope) (l : L) (H : Mine.H) : List Comprehension → AV → Mine.H → Prop
  | mk {tg it : Expr} {ifs : List Expr} {src : Src} {H1 H2 : Mine.H} {xs : List AV} : compOk sc csc = true → notSet it = true → mkSrc r sc tg it l H = some (src, H1) → compGo r csc elt tg ifs src 4000 0 (stripL csc.names l) H1 = some (xs, H2) → xs.length < 100000 → CompV r sc elt csc l H [⟨tg, it, ifs, 0⟩] (.loc H2.nx) (H2.new (.list xs)).2
theorem compV_inv {elt : Expr} {gens : List Comprehension} {csc : Scope} (e : compV r sc elt gens csc l H = some (v, H')) : CompV r sc elt csc l H gens v H' := by
  rcases gens with _ | ⟨⟨tg, it, ifs, asy⟩, _ | ⟨b, gens⟩⟩
  · exact xN e
  · obtain ⟨hq, e1⟩ := bool_inv e
    clear e
    rw [Bool.and_eq_true, Bool.and_eq_true, ibeq_eq, beq_iff_eq] at hq
    obtain ⟨⟨q1, rfl⟩, q2⟩ := hq
    obtain ⟨src, H1, hs, e⟩ := optSH e1
    clear e1
    obtain ⟨xs, H2, hx, e1⟩ := optVsH e
    clear e
    obtain ⟨rfl, rfl, hl⟩ := newL_some e1
    exact .mk q1 q2 hs hx hl
  · exact xN e
theorem ev_comp (O : OkG C g) (IH : Sound g n r) (c : CxOk g x n) (k : ScOk sc x.env) {elt : Expr} {gens : List Comprehension} {csc : Scope} {p : Pos} (e : compV r sc elt gens csc l H = some (v, H')) : EvOk g x (.ListComp elt gens csc p) l H v H' := by
  cases compV_inv e with
  | mk q1 q2 hs hx hl => exact listComp_ok IH c k q1 q2 (mkSrc_ok O IH c k hs) hx (by omega)
theorem ev_join (O : OkG C g) (IH : Sound g n r) (c : CxOk g x n) (k : ScOk sc x.env) {es : List Expr} {p : Pos} (e : ev C r sc (.JoinedStr es p) l H = some (v, H')) : EvOk g x (.JoinedStr es p) l H v H' := by
  obtain ⟨ps, H1, hp, e1⟩ := optVsH (o := fstrs C r sc es l H) e
  clear e
  obtain ⟨h8, e⟩ := bool_inv e1
  obtain ⟨w, hw, e⟩ := optV e
  exact y2 (P := fun v H' => EvOk g x _ l H v H') e (fstr_ok O.toOkV IH c k hp h8 hw)
/-- an expression's value -/
theorem ev_ok (O : OkG C g) (IH : Sound g n r) (c : CxOk g x (n + 1)) (k : ScOk sc x.env) {ex : Expr} (e : ev C r sc ex l H = some (v, H')) : EvOk g x ex l H v H' := by
  have c' := c.le (Nat.le_succ n)
  cases ex with
  | Constant => exact ev_const e
  | Name => exact ev_name O c' k e
  | BoolOp op vs p =>
    cases op with
    | And => exact conjV_ok IH c' k e
    | Or => exact disjV_ok IH c' k e
  | BinOp => exact ev_binop O IH c' k e
  | UnaryOp => exact ev_unop IH c' k e
  | IfExp => exact ev_ifexp IH c' k e
  | Compare => exact ev_compare O IH c' k e
  | Call => exact ev_call O IH c k e
  | Attribute => exact ev_attr O IH c' k e
  | Subscript o i p =>
    cases i with
    | Slice => exact slice_ok IH c' k e
    | _ => exact ev_subscript O IH c' k (fun _ _ _ _ => Expr.noConfusion) e
  | Tuple => exact ev_tuple IH c' k e
  | List => exact ev_list IH c' k e
  | Dict => exact ev_dict e
  | ListComp => exact ev_comp O IH c' k e
  | JoinedStr => exact ev_join O IH c' k e
  | _ => exact xN e
end
end Mine

set_option maxRecDepth 100000
namespace Mine
open PySem PySem.W PySem.Calls PySem.Spec PyProof.Rows
section
variable {g : G} {C : Cfg} {x : Cx} {n : Nat} {W : Wd} {l l' : L} {H H' H1 H2 : Mine.H} {σ : Sg} {s : Shared} {E : Value → Shared → Prop} {r : R} {sc : Scope} {v : AV} {b : Bool}
theorem tr_one (O : OkG C g) (IH : Sound g n r) (c : CxOk g x n) (k : ScOk sc x.env) {a b : Expr} {op : CmpOp} {p : Pos} {va vb : AV} {q : Bool} (hns : notSet b = true) (ea : r.ev sc a l H = some (va, H1)) (eb : r.ev sc b l H1 = some (vb, H2)) (hb : cmpV C op va vb H2 = some q) : TrOk g x (.Compare a [op] [b] p) l H q H2 := by
  intro W σ s Q E S hQ
  refine wpAny_isTrue_Compare1 (IH.ev x sc _ l H va H1 c k ea W σ s _ E S fun W1 h1 tk1 u le1 S1 ru => ?_) ?_
  · refine IH.ev x sc _ l H1 vb _ c k eb W1 σ { s with heap := h1, toks := tk1 } _ E S1 fun W2 h2 tk2 u2 le2 S2 r2 => ?_
    exact cmp_ok (s := { s with heap := h2, toks := tk2 }) O.toOkV c S2 hb (ru.mono le2) r2 fun tk3 => wpAny_truthy_bool (hQ W2 h2 tk3 (le1.trans le2) S2)
  · cases b <;> first | rfl | exact absurd (show false = true from hns) Bool.false_ne_true
theorem tr_two (O : OkG C g) (IH : Sound g n r) (c : CxOk g x n) (k : ScOk sc x.env) {a b d : Expr} {op op2 : CmpOp} {p : Pos} {va vb : AV} {q : Bool} (hns : notSet d = true) (ea : r.ev sc a l H = some (va, H1)) (eb : r.ev sc b l H1 = some (vb, H2)) (ch : ChC C r sc l H2 op op2 va vb d (.bool q) H') : TrOk g x (.Compare a [op, op2] [b, d] p) l H q H' := by
  intro W σ s Q E S hQ
  refine isTrue_chain (rs := []) (ops := []) (IH.ev x sc _ l H va H1 c k ea W σ s _ E S fun W1 h1 tk1 u le1 S1 ru => ?_) ?_
  · refine test_link (IH.ev x sc _ l H1 vb H2 c k eb W1 σ { s with heap := h1, toks := tk1 } _ E S1 fun W2 h2 tk2 u2 le2 S2 r2 => ?_)
    cases ch with
    | go hc ed hc2 =>
      refine cmp_ok (s := { s with heap := h2, toks := tk2 }) O.toOkV c S2 hc (ru.mono le2) r2 fun tk3 => wpAny_truthy_bool ?_
      rw [if_pos rfl]
      refine test_last (IH.ev x sc _ l H2 _ _ c k ed W2 σ { s with heap := h2, toks := tk3 } _ E S2 fun W3 h3 tk4 u3 le3 S3 r3 => ?_)
      exact cmp_ok (s := { s with heap := h3, toks := tk4 }) O.toOkV c S3 hc2 (r2.mono le3) r3 fun tk5 => wpAny_truthy_bool (hQ W3 h3 tk5 ((le1.trans le2).trans le3) S3)
    | stop hc =>
      refine cmp_ok (s := { s with heap := h2, toks := tk2 }) O.toOkV c S2 hc (ru.mono le2) r2 fun tk3 => wpAny_truthy_bool ?_
      rw [if_neg Bool.false_ne_true]
      exact hQ W2 h2 tk3 (le1.trans le2) S2
  · cases d <;> first | rfl | exact absurd (show false = true from hns) Bool.false_ne_true
theorem tr_compare (O : OkG C g) (IH : Sound g n r) (c : CxOk g x n) (k : ScOk sc x.env) {a : Expr} {ops : List CmpOp} {bs : List Expr} {p : Pos} (e : ev C r sc (.Compare a ops bs p) l H = some (v, H')) (hv : truthy v = some b) : TrOk g x (.Compare a ops bs p) l H b H' := by
  obtain ⟨q, rfl, h⟩ := compare_inv e
  clear e
  obtain rfl := x1 hv
  cases h with
  | one hns ea eb hb => exact tr_one O IH c k hns ea eb hb
  | two hns ea eb ch => exact tr_two O IH c k hns ea eb ch
theorem tr_plain (O : OkG C g) (IH : Sound g n r) (c : CxOk g x (n + 1)) (k : ScOk sc x.env) {ex : Expr} (e : ev C r sc ex l H = some (v, H')) (hv : truthy v = some b) (he : ∀ whole, isTrue ex x.env whole = (do let v ← whole; standAt ex.pos; holding [v] (PySem.truthy v))) : TrOk g x ex l H b H' := by
  intro W σ s Q E S hQ
  refine isTrue_plain (ev_ok O IH c k e W σ s _ E S fun W1 h1 tk1 u le1 S1 ru => ?_) (he _)
  exact truthy_ok hv ru (hQ W1 h1 tk1 le1 S1)
theorem tr_inv {ex : Expr} (e : (match ev C r sc ex l H with
        | some (v, h1) => (match Mine.truthy v with | some b => some (b, h1) | Option.none => Option.none)
        | Option.none => Option.none) = some (b, H')) : ∃ v, ev C r sc ex l H = some (v, H') ∧ Mine.truthy v = some b := by
  obtain ⟨v, H1, h1, e⟩ := optVH e
  obtain ⟨q, h2, e⟩ := optB e
  obtain ⟨rfl, rfl⟩ := x2 e
  exact ⟨v, h1, h2⟩
theorem tr_else (O : OkG C g) (IH : Sound g n r) (c : CxOk g x (n + 1)) (k : ScOk sc x.env) {ex : Expr} (he : ∀ whole, isTrue ex x.env whole = (do let v ← whole; standAt ex.pos; holding [v] (PySem.truthy v))) (e : ∃ v, ev C r sc ex l H = some (v, H') ∧ Mine.truthy v = some b) : TrOk g x ex l H b H' := by
  obtain ⟨v, h1, h2⟩ := e
  exact tr_plain O IH c k h1 h2 he
theorem tr_not (IH : Sound g n r) (c : CxOk g x n) (k : ScOk sc x.env) {a : Expr} {p : Pos} (e : (match r.tr sc a l H with | some (b, h1) => some (!b, h1) | Option.none => Option.none) = some (b, H')) : TrOk g x (.UnaryOp .Not a p) l H b H' := by
  rcases h1 : r.tr sc a l H with _ | ⟨b1, H1⟩
  · rw [h1] at e; exact xN e
  · rw [h1] at e
    exact y2 (P := fun b H' => TrOk g x (.UnaryOp .Not a p) l H b H') e fun W σ s Q E S hQ => isTrue_not (IH.tr x sc a l H b1 _ c k h1 W σ s _ E S fun W1 h1 tk1 le1 S1 => hQ W1 h1 tk1 le1 S1)
/-- a test -/
theorem tr_ok (O : OkG C g) (IH : Sound g n r) (c : CxOk g x (n + 1)) (k : ScOk sc x.env) {ex : Expr} (e : tr C r sc ex l H = some (b, H')) : TrOk g x ex l H b H' := by
  have c' := c.le (Nat.le_succ n)
  cases ex with
  | UnaryOp op a p =>
    cases op with
    | Not => exact tr_not IH c' k e
    | _ => exact tr_else O IH c k (fun _ => rfl) (tr_inv e)
  | BoolOp op vs p =>
    cases op with
    | And => exact conjT_ok IH c' k e
    | Or => exact disjT_ok IH c' k e
  | Compare a ops bs p =>
    obtain ⟨v, h1, h2⟩ := tr_inv e
    exact tr_compare O IH c' k h1 h2
  | IfExp t a d p => exact xN e
  | _ => exact tr_else O IH c k (fun _ => rfl) (tr_inv e)
end
end Mine

set_option maxRecDepth 100000
namespace Mine
open PySem PySem.W PySem.Calls PySem.Spec PyProof.Rows
theorem fm2 {α β : Type} {F : α → Option β} {a b : α} {l : List β} (e : [a, b].filterMap F = l) (hl : l.length = 2) : ∃ u v, F a = some u ∧ F b = some v ∧ l = [u, v] := by
  rw [List.filterMap_cons, List.filterMap_cons, List.filterMap_nil] at e
  cases h1 : F a <;> cases h2 : F b <;> rw [h1, h2] at e <;> subst e <;> first | exact ⟨_, _, rfl, rfl, rfl⟩ | cases hl
theorem fm3 {α β : Type} {F : α → Option β} {a b c : α} {l : List β} (e : [a, b, c].filterMap F = l) (hl : l.length = 3) : ∃ u v w, F a = some u ∧ F b = some v ∧ F c = some w ∧ l = [u, v, w] := by
  rw [List.filterMap_cons, List.filterMap_cons, List.filterMap_cons, List.filterMap_nil] at e
  cases h1 : F a <;> cases h2 : F b <;> cases h3 : F c <;> rw [h1, h2, h3] at e <;> subst e <;> first | exact ⟨_, _, _, rfl, rfl, rfl, rfl⟩ | cases hl
theorem ite_some {α : Type} {c : Prop} [Decidable c] {a b : α} (h : (if c then some a else none) = some b) : b = a := by
  split at h
  · exact (Option.some.inj h).symm
  · first | exact xN h | exact xS h | (obtain rfl := x1 h; clear h) | (obtain ⟨rfl, rfl⟩ := x2 h; clear h) | (obtain ⟨rfl, rfl, rfl⟩ := x3 h; clear h) | (exfalso; cases h; done) | cases h
theorem swap2 {y z : Str} {p q tp : Pos} {tk : Nat} {e : Expr} {env : Env} (hc : notConst e = true) :
    swappedStores [.Tuple [.Name y p, .Name z q] tk tp] e env = pure none ∨ (swappedStores [.Tuple [.Name y p, .Name z q] tk tp] e env = pure (some [y, z]) ∧ y ≠ z) := by
  cases e with
  | Tuple vs vk vp =>
    have hc' : vs.all (constantsAlone 8) = false := by
      have : (!(vs.all (constantsAlone 8))) = true := hc
      simpa using this
    generalize hX : swappedStores [.Tuple [.Name y p, .Name z q] tk tp] (.Tuple vs vk vp) env = X
    unfold swappedStores at hX
    dsimp only at hX
    split at hX
    · exact .inl hX.symm
    · split at hX
      · exact .inl hX.symm
      · split at hX
        · exact .inl hX.symm
        · split at hX
          · exact .inl hX.symm
          · rename_i hn _
            rw [hc'] at hX
            generalize hN : List.filterMap _ [Expr.Name y p, Expr.Name z q] = N at hn hX
            rw [Bool.not_eq_true, Bool.or_eq_false_iff, bne_eq_false_iff_eq, bne_eq_false_iff_eq] at hn
            obtain ⟨u, v, h1, h2, h3⟩ := fm2 hN hn.1
            have e1 := ite_some h1
            have e2 := ite_some h2
            subst e1 e2 h3
            refine .inr ⟨hX.symm, fun h => ?_⟩
            subst h
            have := hn.2
            simp [List.eraseDups, List.eraseDupsBy, List.eraseDupsBy.loop] at this
  | _ => exact .inl rfl
theorem dups3 {a b c : Str} (h : [a, b, c].eraseDups.length = [a, b, c].length) : a ≠ b ∧ a ≠ c ∧ b ≠ c := by
  have e : ∀ x y : Str, x ≠ y → (x == y) = false := fun x y => beq_eq_false_iff_ne.mpr
  by_cases h1 : a = b
  · subst h1
    by_cases h2 : a = c
    · subst h2; simp [List.eraseDups, List.eraseDupsBy, List.eraseDupsBy.loop] at h
    · simp [List.eraseDups, List.eraseDupsBy, List.eraseDupsBy.loop, e _ _ (Ne.symm h2)] at h
  · by_cases h2 : a = c
    · subst h2; simp [List.eraseDups, List.eraseDupsBy, List.eraseDupsBy.loop, e _ _ (Ne.symm h1)] at h
    · by_cases h3 : b = c
      · subst h3; simp [List.eraseDups, List.eraseDupsBy, List.eraseDupsBy.loop, e _ _ (Ne.symm h1)] at h
      · exact ⟨h1, h2, h3⟩
theorem swap3 {y z t : Str} {p q w tp : Pos} {tk : Nat} {e : Expr} {env : Env} (hc : notConst e = true) :
    swappedStores [.Tuple [.Name y p, .Name z q, .Name t w] tk tp] e env = pure none ∨ (swappedStores [.Tuple [.Name y p, .Name z q, .Name t w] tk tp] e env = pure (some [y, z, t]) ∧ y ≠ z ∧ y ≠ t ∧ z ≠ t) := by
  cases e with
  | Tuple vs vk vp =>
    have hc' : vs.all (constantsAlone 8) = false := by
      have : (!(vs.all (constantsAlone 8))) = true := hc
      simpa using this
    generalize hX : swappedStores [.Tuple [.Name y p, .Name z q, .Name t w] tk tp] (.Tuple vs vk vp) env = X
    unfold swappedStores at hX
    dsimp only at hX
    split at hX
    · exact .inl hX.symm
    · split at hX
      · exact .inl hX.symm
      · split at hX
        · exact .inl hX.symm
        · split at hX
          · exact .inl hX.symm
          · rename_i hn _
            rw [hc'] at hX
            generalize hN : List.filterMap _ [Expr.Name y p, Expr.Name z q, Expr.Name t w] = N at hn hX
            rw [Bool.not_eq_true, Bool.or_eq_false_iff, bne_eq_false_iff_eq, bne_eq_false_iff_eq] at hn
            obtain ⟨u, v, v', h1, h2, h3, h4⟩ := fm3 hN hn.1
            have e1 := ite_some h1
            have e2 := ite_some h2
            have e3 := ite_some h3
            subst e1 e2 e3 h4
            have := dups3 hn.2
            exact .inr ⟨hX.symm, this⟩
  | _ => exact .inl rfl

theorem put_comm {α : Type} {i j : Nat} {v w : α} {l : List (Nat × α)} (h : i ≠ j) (k : Nat) : look k (put i v (put j w l)) = look k (put j w (put i v l)) := by
  rw [look_put, look_put, look_put, look_put]
  by_cases h1 : k = i
  · subst h1; rw [if_pos rfl, if_neg h, if_pos rfl]
  · rw [if_neg h1, if_neg h1]
theorem nm_ne {y z : Str} (h : okN y) (hne : y ≠ z) : nm y ≠ nm z := fun e => hne (nm_inj h.1 e)
section
variable {g : G} {C : Cfg} {x : Cx} {n : Nat} {W : Wd} {l l' : L} {H H' H1 H2 : Mine.H} {σ : Sg} {s : Shared} {E : Value → Shared → Prop} {r : R} {sc : Scope} {v : AV} {b : Bool}
theorem look_put2 {i j : Nat} {a b : AV} (h : i ≠ j) (k : Nat) : look k (put j b (put i a l)) = look k (put i a (put j b l)) := (put_comm h k).symm
/-- two names at once, the stores in the other order -/
theorem bind2 (c : CxOk g x n) (S : St g x W l H σ s.heap) (k : ScOk sc x.env) {y z : Str} {a b : AV} {ua ub : Value} (hy : isLocal sc y = true) (hz : isLocal sc z = true) (hne : y ≠ z) (hfm : x.fm = none) (ra : VR g W a ua) (rb : VR g W b ub) {Q : Unit → Shared → Prop}
    (hQ : PU g x W (put (nm z) b (put (nm y) a l)) H Q s) : wpAny (model g.prog g.w) x.A (assignInOrder [bindName x.env z, bindName x.env y] [ub, ua]) Q E s := by
  show wpAny _ _ (do holding _ (bindName _ _ _); assignInOrder _ _) _ _ _
  refine wpAny_bind (wpAny_holding (bindName_ (store_ok c S k hz (.inl hfm) rb fun σ1 h1 tk1 S1 => ?_)))
  show wpAny _ _ (do holding _ (bindName _ _ _); assignInOrder _ _) _ _ _
  refine wpAny_bind (wpAny_holding (bindName_ (store_ok c (s := { s with heap := h1, toks := tk1 }) S1 k hy (.inl hfm) ra fun σ2 h2 tk2 S2 => ?_)))
  exact wpAny_pure (hQ σ2 h2 tk2 (S2.lcongr (look_put2 (nm_ne (isLocal_ok hy).1 hne))))
theorem bind3 (c : CxOk g x n) (S : St g x W l H σ s.heap) (k : ScOk sc x.env) {y z t : Str} {a b d : AV} {ua ub ud : Value} (hy : isLocal sc y = true) (hz : isLocal sc z = true) (ht : isLocal sc t = true) (hne : y ≠ z ∧ y ≠ t ∧ z ≠ t) (hfm : x.fm = none) (ra : VR g W a ua) (rb : VR g W b ub) (rd : VR g W d ud) {Q : Unit → Shared → Prop}
    (hQ : PU g x W (put (nm t) d (put (nm z) b (put (nm y) a l))) H Q s) : wpAny (model g.prog g.w) x.A (assignInOrder [bindName x.env t, bindName x.env z, bindName x.env y] [ud, ub, ua]) Q E s := by
  show wpAny _ _ (do holding _ (bindName _ _ _); assignInOrder _ _) _ _ _
  refine wpAny_bind (wpAny_holding (bindName_ (store_ok c S k ht (.inl hfm) rd fun σ1 h1 tk1 S1 => ?_)))
  refine bind2 c (s := { s with heap := h1, toks := tk1 }) S1 k hy hz hne.1 hfm ra rb fun σ2 h2 tk2 S2 => hQ σ2 h2 tk2 (S2.lcongr fun k => ?_)
  have h1 := nm_ne (isLocal_ok hy).1 hne.2.1
  have h2 := nm_ne (isLocal_ok hz).1 hne.2.2
  rw [look_put, look_put, look_put, look_put, look_put, look_put]
  by_cases q1 : k = nm t
  · rw [if_pos q1, if_neg (fun e => h2 (e.symm.trans q1)), if_neg (fun e => h1 (e.symm.trans q1)), if_pos q1]
  · rw [if_neg q1, if_neg q1]
theorem unpackN (c : CxOk g x n) {a : Addr} {ws : List Value} {k : Nat} (ht : IsTup s.heap a ws.toArray) (hk : k = ws.length) {Q : List Value → Shared → Prop} (hQ : ∀ h', Heap.ExtBut s.heap.objs.size s.heap h' → Q ws { s with heap := h' }) : wpAny (model g.prog g.w) x.A (unpackItems (.ref a) k none) Q E s := by
  have : k = ws.toArray.size := by rw [hk, List.size_toArray]
  subst this
  exact unpackItems_tuple c.hand ht hQ
/-- an assignment to names, its value known as such -/
theorem asgT (c : CxOk g x n) (hfm : x.fm = none) (k : ScOk sc x.env) {t e : Expr} {p : Pos} (hb : bindT sc t v l = some l') (hev : EvOk g x e l H v H1) (hc : notConst e = true) (hs : swapsWithSole [t] e p.line x.env = pure false) : Ex1Ok g x (.Assign [t] e p) l H .next l' H1 := by
  intro W σ s Q E S hQ
  have plain : ∀ {elts tk tp}, t = .Tuple elts tk tp → swappedStores [.Tuple elts tk tp] e x.env = pure none → wpAny (model g.prog g.w) x.A (exec (.Assign [t] e p) x.env) Q E s := by
    rintro elts tk tp rfl hw
    refine Assign_Tuple (hev W σ s _ E S fun W1 h1 tk1 u le1 S1 ru => ?_) hs hw
    exact bindT_ok c (s := { s with heap := h1, toks := tk1 }) S1 k hb (.inl hfm) ru fun σ2 h2 tk2 S2 => hQ W1 σ2 h2 tk2 _ le1 S2 .next
  cases bindT_inv hb with
  | one hy =>
    refine wpAny_Assign_Name (hev W σ s _ E S fun W1 h1 tk1 u le1 S1 ru => ?_) hs
    exact store_ok c (s := { s with heap := h1, toks := tk1 }) S1 k hy (.inl hfm) ru fun σ2 h2 tk2 S2 => hQ W1 σ2 h2 tk2 _ le1 S2 .next
  | @two y z py pz tp _ _ tk hy =>
    rcases swap2 (y := y) (z := z) (p := py) (q := pz) (tp := tp) (tk := tk) (env := x.env) hc with hw | ⟨hw, hne⟩
    · exact plain rfl hw
    · clear plain
      refine Assign_Tuple_swapped (hev W σ s _ E S fun W1 h1 tk1 u le1 S1 ru => ?_) hs hw
      obtain ⟨aa, ws, rfl, i1, i2, i3⟩ := ru.isT
      obtain ⟨u1, u2, rfl, r1, r2⟩ := i2.n2
      clear i2 i3 ru hs hw
      refine unpackN (s := { s with heap := h1, toks := tk1 }) c (S1.tups c _ _ i1) rfl fun h' hk => ?_
      have S' := S1.ext (h' := h') fun b o e => hk b o (Nat.ne_of_lt (Heap.lt_size e)) e
      exact bind2 c (s := { s with heap := h', toks := tk1 }) S' k hy.1 hy.2 hne hfm r1 r2 fun σ2 h2 tk2 S2 => hQ W1 σ2 h2 tk2 _ le1 S2 .next
  | @three y z t' py pz pt tp _ _ _ tk hy =>
    rcases swap3 (y := y) (z := z) (t := t') (p := py) (q := pz) (w := pt) (tp := tp) (tk := tk) (env := x.env) hc with hw | ⟨hw, hne⟩
    · exact plain rfl hw
    · clear plain
      refine Assign_Tuple_swapped (hev W σ s _ E S fun W1 h1 tk1 u le1 S1 ru => ?_) hs hw
      obtain ⟨aa, ws, rfl, i1, i2, i3⟩ := ru.isT
      obtain ⟨u1, u2, u3, rfl, r1, r2, r3⟩ := i2.n3
      clear i2 i3 ru hs hw
      refine unpackN (s := { s with heap := h1, toks := tk1 }) c (S1.tups c _ _ i1) rfl fun h' hk => ?_
      have S' := S1.ext (h' := h') fun b o e => hk b o (Nat.ne_of_lt (Heap.lt_size e)) e
      exact bind3 c (s := { s with heap := h', toks := tk1 }) S' k hy.1.1 hy.1.2 hy.2 hne hfm r1 r2 r3 fun σ2 h2 tk2 S2 => hQ W1 σ2 h2 tk2 _ le1 S2 .next
theorem no_swap {e : Expr} {t : Option Expr} {ln : Nat} {env : Env} (h : notComp e = true) : swapsWith e t ln env = pure false := by
  cases e <;> first | rfl | cases h
theorem evA_inv {e : Expr} (he : evA r sc e l H = some (v, H1)) : (∃ elt gens csc p, e = .ListComp elt gens csc p ∧ compV r sc elt gens csc l H = some (v, H1)) ∨ (notComp e = true ∧ r.ev sc e l H = some (v, H1)) := by
  cases e <;> first | exact .inl ⟨_, _, _, _, rfl, he⟩ | exact .inr ⟨rfl, he⟩ | exact xN he
/-- an assignment to names -/
theorem asg_ok (O : OkG C g) (IH : Sound g n r) (c : CxOk g x n) (hfm : x.fm = none) (k : ScOk sc x.env) {t e : Expr} {p : Pos} (hc : notConst e = true) (he : evA r sc e l H = some (v, H1)) (hb : bindT sc t v l = some l') : Ex1Ok g x (.Assign [t] e p) l H .next l' H1 := by
  rcases evA_inv he with ⟨elt, gens, csc, ep, rfl, he⟩ | ⟨hq, he⟩
  · have hev := ev_comp (p := ep) O IH c k he
    cases t with
    | Name y py =>
      obtain ⟨b, hsw⟩ : ∃ b, swapsWith (.ListComp elt gens csc ep) (some (.Name y py)) p.line x.env = pure b := ⟨_, rfl⟩
      cases b with
      | false => exact asgT c hfm k hb hev hc hsw
      | true =>
        obtain ⟨hy, rfl⟩ := true_inv (b := isLocal sc y) hb
        cases compV_inv he with
        | mk q1 q2 hs hx hl => exact fun W σ s Q E S hQ => assignComp_ok IH c hfm k q1 q2 (mkSrc_ok O IH c k hs) hx (by omega) hy hsw S hQ
    | _ => exact asgT c hfm k hb hev hc rfl
  · exact asgT c hfm k hb (IH.ev x sc _ l H v H1 c k he) hc (no_swap hq)
theorem asgA_ok (O : OkG C g) (IH : Sound g n r) (c : CxOk g x n) (k : ScOk sc x.env) {o e : Expr} {y : Str} {tp p : Pos} {vo : AV} (hc : notComp e = true) (he : r.ev sc e l H = some (v, H1)) (ho : r.ev sc o l H1 = some (vo, H2)) (hs : setA C vo (nm y) v H2 = some H') : Ex1Ok g x (.Assign [.Attribute o y tp] e p) l H .next l H' := by
  intro W σ s Q E S hQ
  refine plainObj_wpAny_Assign_Attribute (IH.ev x sc e l H v H1 c k he W σ s _ E S fun W1 h1 tk1 u le1 S1 ru => ?_) (no_swap hc)
  refine IH.ev x sc o l H1 vo H2 c k ho W1 σ { s with heap := h1, toks := tk1 } _ E S1 fun W2 h2 tk2 u2 le2 S2 r2 => ?_
  exact setA_ok O c (s := { s with heap := h2, toks := tk2 }) S2 hs r2 (ru.mono le2) fun h3 tk3 S3 => hQ W2 σ h3 tk3 _ (le1.trans le2) S3 .next
theorem asgS_ok (O : OkG C g) (IH : Sound g n r) (c : CxOk g x n) (k : ScOk sc x.env) {o i e : Expr} {tp p : Pos} {vo vi : AV} (hc : notComp e = true) (he : r.ev sc e l H = some (v, H1)) (ho : r.ev sc o l H1 = some (vo, H2)) {H3 : Mine.H} (hi : r.ev sc i l H2 = some (vi, H3)) (hs : setS C vo vi v H3 = some H') : Ex1Ok g x (.Assign [.Subscript o i tp] e p) l H .next l H' := by
  intro W σ s Q E S hQ
  refine wpAny_Assign_Subscript (IH.ev x sc e l H v H1 c k he W σ s _ E S fun W1 h1 tk1 u le1 S1 ru => ?_) (no_swap hc)
  refine IH.ev x sc o l H1 vo H2 c k ho W1 σ { s with heap := h1, toks := tk1 } _ E S1 fun W2 h2 tk2 u2 le2 S2 r2 => ?_
  refine IH.ev x sc i l H2 vi H3 c k hi W2 σ { s with heap := h2, toks := tk2 } _ E S2 fun W3 h3 tk3 u3 le3 S3 r3 => ?_
  exact setItem_ok O.toOkV c (s := { s with heap := h3, toks := tk3 }) S3 hs (r2.mono le3) r3 ((ru.mono le2).mono le3) fun h4 tk4 S4 => hQ W3 σ h4 tk4 _ ((le1.trans le2).trans le3) S4 .next
end
end Mine

set_option maxRecDepth 100000
namespace Mine
open PySem PySem.W PySem.Calls PySem.Spec PyProof.Rows
section
variable {prog : Program} {w : World} {A : Around} {R : Result → Shared → Prop} {s : Shared}
/-- one turn of a while -/
theorem codeAny_while_turn {test : Expr} {body : List Stmt} {env : Env}
    (h : wpAny (model prog w) A (isTrue test env (eval test env)) (fun b s₂ =>
        if b then wpAny (model prog w) A (execs body env) (fun f s₃ => match f with
            | .next | .cont => codeAny (model prog w) A (.whileLoop test body [] env) R s₃
            | .brk => R (.ok .next) s₃
            | .ret v => R (.ok (.ret v)) s₃) (notedBy (model prog w) A env fun e s' => R (.error e) s') s₂
        else R (.ok .next) s₂)
        (notedBy (model prog w) A env fun e s' => R (.error e) s') s) : codeAny (model prog w) A (.whileLoop test body [] env) R s := by
  refine codeAny_of_tree ?_
  show wpAny _ A ((whileTurn test body [] env).onRaise (fun x => do noteFrame x env; theTreesLotGoes x)) _ _ s
  refine wpAny_noted ?_
  simp only [whileTurn]
  refine wpAny_bind (wpAny_mono h (fun b s₂ h₂ => ?_) fun _ _ h' => h')
  cases b with
  | false =>
    simp only [Bool.false_eq_true, if_false] at h₂ ⊢
    exact wpAny_bind (wpAny_execs_nil (wpAny_pure h₂))
  | true =>
    simp only [if_true] at h₂ ⊢
    refine wpAny_bind (wpAny_mono h₂ (fun f s₃ h₃ => ?_) fun _ _ h' => h')
    cases f with
    | next => exact wpAny_pure ⟨rfl, h₃⟩
    | cont => exact wpAny_pure ⟨rfl, h₃⟩
    | brk => exact wpAny_pure h₃
    | ret v => exact wpAny_pure h₃
end
section
variable {g : G} {C : Cfg} {x : Cx} {n : Nat} {W : Wd} {l l' : L} {H H' H1 H2 : Mine.H} {σ : Sg} {s : Shared} {E : Value → Shared → Prop} {r : R} {sc : Scope} {v : AV} {b : Bool} {fl : Fl}
inductive WhC (r : R) (sc : Scope) (t : Expr) (body : List Stmt) (l : L) (H : Mine.H) : Fl → L → Mine.H → Prop
  | done {H1 : Mine.H} : r.tr sc t l H = some (false, H1) → WhC r sc t body l H .next l H1
  | turn {H1 H2 H' : Mine.H} {f fl : Fl} {l1 l' : L} : r.tr sc t l H = some (true, H1) → r.ex sc body l H1 = some (f, l1, H2) → (∀ v, f ≠ .ret v) → r.wh sc t body l1 H2 = some (fl, l', H') → WhC r sc t body l H fl l' H'
theorem wh_inv {t : Expr} {body : List Stmt} (e : wh r sc t body l H = some (fl, l', H')) : WhC r sc t body l H fl l' H' := by
  rcases trTF_inv (o := r.tr sc t l H) e with ⟨H1, h1, e⟩ | ⟨H1, h1, e⟩
  · rcases he : r.ex sc body l H1 with _ | ⟨f, l1, H2⟩
    · rw [he] at e; exact xN e
    · rw [he] at e
      cases f with
      | ret v1 => exact xN e
      | next => exact .turn h1 he (fun _ => Fl.noConfusion) e
      | cont => exact .turn h1 he (fun _ => Fl.noConfusion) e
  · exact y3 e (.done h1)
theorem wh_ok (IH : Sound g n r) (c : CxOk g x n) (hfm : x.fm = none) (k : ScOk sc x.env) {t : Expr} {body : List Stmt} (e : wh r sc t body l H = some (fl, l', H')) : WhOk g x t body l H fl l' H' := by
  intro W σ s R S hQ
  refine codeAny_while_turn ?_
  cases wh_inv e with
  | turn h1 he hn e =>
    refine IH.tr x sc t l H true _ c k h1 W σ s _ _ S fun W1 h1 tk1 le1 S1 => ?_
    rw [if_pos rfl]
    refine IH.ex x sc body l _ _ _ _ c hfm k he W1 σ { s with heap := h1, toks := tk1 } _ _ S1 fun W2 σ2 h2 tk2 f le2 S2 rf => ?_
    have rest : codeAny (model g.prog g.w) x.A (.whileLoop t body [] x.env) R { s with heap := h2, toks := tk2 } :=
      IH.wh x sc t body _ _ fl l' H' c hfm k e W2 σ2 { s with heap := h2, toks := tk2 } R S2 fun W3 σ3 h3 tk3 f3 le3 S3 rf3 => hQ W3 σ3 h3 tk3 f3 ((le1.trans le2).trans le3) S3 rf3
    rcases rf.go hn with rfl | rfl <;> exact rest
  | done h1 =>
    refine IH.tr x sc t l H false H' c k h1 W σ s _ _ S fun W1 h1 tk1 le1 S1 => ?_
    rw [if_neg Bool.false_ne_true]
    exact hQ W1 σ h1 tk1 _ le1 S1 .next
theorem mkSrc_set {tg e : Expr} {q} (h : mkSrc r sc tg e l H = some q) : notSet e = true := by
  cases e <;> first | rfl | cases h
theorem ret_ok (IH : Sound g n r) (c : CxOk g x n) (k : ScOk sc x.env) {e : Expr} {p : Pos} (he : r.ev sc e l H = some (v, H')) : Ex1Ok g x (.Return (some e) p) l H (.ret v) l H' := by
  intro W σ s Q E S hQ
  exact wpAny_Return_some (IH.ev x sc e l H v H' c k he W σ s _ E S fun W1 h1 tk1 u le1 S1 ru => hQ W1 σ h1 tk1 _ le1 S1 (.ret ru))
theorem if_ok (IH : Sound g n r) (c : CxOk g x n) (hfm : x.fm = none) (k : ScOk sc x.env) {t : Expr} {a d : List Stmt} {p : Pos} (e : (match r.tr sc t l H with
    | some (true, h1) => r.ex sc a l h1
    | some (false, h1) => r.ex sc d l h1
    | Option.none => Option.none) = some (fl, l', H')) : Ex1Ok g x (.If t a d p) l H fl l' H' := by
  rcases trTF_inv e with ⟨H1, h1, e1⟩ | ⟨H1, h1, e1⟩
  · intro W σ s Q E S hQ
    refine wpAny_If (IH.tr x sc t l H true H1 c k h1 W σ s _ E S fun W1 h1 tk1 le1 S1 => ?_)
    rw [if_pos rfl]
    exact IH.ex x sc a l H1 fl l' H' c hfm k e1 W1 σ _ Q E S1 fun W2 σ2 h2 tk2 f le2 S2 rf => hQ W2 σ2 h2 tk2 f (le1.trans le2) S2 rf
  · intro W σ s Q E S hQ
    refine wpAny_If (IH.tr x sc t l H false H1 c k h1 W σ s _ E S fun W1 h1 tk1 le1 S1 => ?_)
    rw [if_neg Bool.false_ne_true]
    exact IH.ex x sc d l H1 fl l' H' c hfm k e1 W1 σ _ Q E S1 fun W2 σ2 h2 tk2 f le2 S2 rf => hQ W2 σ2 h2 tk2 f (le1.trans le2) S2 rf
theorem for_ok (O : OkG C g) (IH : Sound g n r) (c : CxOk g x n) (hfm : x.fm = none) (k : ScOk sc x.env) {tg it : Expr} {body : List Stmt} {p : Pos} {src : Src} (hs : mkSrc r sc tg it l H = some (src, H1)) (e : forGo r sc tg src body 4000 0 l H1 = some (fl, l', H')) : Ex1Ok g x (.For tg it body [] p) l H fl l' H' := by
  intro W σ s Q E S hQ
  have hns := mkSrc_set hs
  refine wpAny_For (mkSrc_ok O IH c k hs W σ s _ E S fun W1 h1 tk1 itv Pos own le1 S1 hp hoo I => ?_) (by cases it <;> first | (intro _; rfl) | cases hns)
  exact forGo_ok (s := { s with heap := h1, toks := tk1 }) IH c hfm k (I x n c) e hp hoo S1 fun W2 σ2 h2 tk2 f le2 S2 rf => hQ W2 σ2 h2 tk2 f (le1.trans le2) S2 rf
theorem while_ok (IH : Sound g n r) (c : CxOk g x n) (hfm : x.fm = none) (k : ScOk sc x.env) {t : Expr} {body : List Stmt} {p : Pos} (e : r.wh sc t body l H = some (fl, l', H')) : Ex1Ok g x (.While t body [] p) l H fl l' H' := by
  intro W σ s Q E S hQ
  exact wpAny_While (IH.wh x sc t body l H fl l' H' c hfm k e W σ s _ S hQ)
theorem expr_ok (IH : Sound g n r) (c : CxOk g x n) (k : ScOk sc x.env) {e : Expr} {p : Pos} (hc : notComp e = true) (he : r.ev sc e l H = some (.none, H')) : Ex1Ok g x (.Expr e p) l H .next l H' := by
  intro W σ s Q E S hQ
  refine wpAny_Expr (IH.ev x sc e l H .none H' c k he W σ s _ E S fun W1 h1 tk1 u le1 S1 ru => ?_) ?_ (no_swap hc)
  · obtain rfl := ru.isN
    exact hQ W1 σ h1 tk1 _ le1 S1 .next
  · unfold interactive
    rw [c.ek]; rfl
theorem comp_inv {α : Type} {b : Bool} {f : Option α} {q : α} (e : (match b with | false => none | true => f) = some q) : b = true ∧ f = some q := by
  first | exact xN b | exact xS b | (obtain rfl := x1 b; clear b) | (obtain ⟨rfl, rfl⟩ := x2 b; clear b) | (obtain ⟨rfl, rfl, rfl⟩ := x3 b; clear b) | (exfalso; cases b; done) | cases b
  · exact xN e
  · exact ⟨rfl, e⟩
theorem asg1_ok (O : OkG C g) (IH : Sound g n r) (c : CxOk g x n) (hfm : x.fm = none) (k : ScOk sc x.env) {t e : Expr} {p : Pos} (h : ex1 C r sc (.Assign [t] e p) l H = some (fl, l', H')) : Ex1Ok g x (.Assign [t] e p) l H fl l' H' := by
  have names : (match notConst e with
        | true => (match evA r sc e l H with
          | some (x, h1) => (match bindT sc t x l with | some l1 => some (Fl.next, l1, h1) | Option.none => Option.none)
          | Option.none => Option.none)
        | false => Option.none) = some (fl, l', H') → Ex1Ok g x (.Assign [t] e p) l H fl l' H' := fun h => by
    obtain ⟨hc, h⟩ := bool_inv h
    obtain ⟨v1, H1, h1, h⟩ := optVH (o := evA r sc e l H) h
    obtain ⟨l1, hb, h⟩ := optD (o := bindT sc t v1 l) h
    exact y3 h (asg_ok O IH c hfm k hc h1 hb)
  cases t <;> first | exact names h | skip
  · clear names
    rename_i o y p
    obtain ⟨hc, h⟩ := comp_inv (b := notComp e) h
    obtain ⟨v1, H1, h1, h⟩ := optVH (o := r.ev sc e l H) h
    obtain ⟨vo, H2, h2, h⟩ := optVH (o := r.ev sc o l H1) h
    obtain ⟨H3, h3, h⟩ := optH h
    exact y3 h (asgA_ok O IH c k hc h1 h2 h3)
  · clear names
    rename_i o i p
    obtain ⟨hc, h⟩ := comp_inv (b := notComp e) h
    obtain ⟨v1, H1, h1, h⟩ := optVH (o := r.ev sc e l H) h
    obtain ⟨vo, H2, h2, h⟩ := optVH (o := r.ev sc o l H1) h
    obtain ⟨vi, H3, h3, h⟩ := optVH (o := r.ev sc i l H2) h
    obtain ⟨H4, h4, h⟩ := optH h
    exact y3 h (asgS_ok O IH c k hc h1 h2 h3 h4)
/-- a statement -/
theorem ex1_ok (O : OkG C g) (IH : Sound g n r) (c : CxOk g x n) (hfm : x.fm = none) (k : ScOk sc x.env) {st : Stmt} (e : ex1 C r sc st l H = some (fl, l', H')) : Ex1Ok g x st l H fl l' H' := by
  cases st with
  | Return e0 p =>
    cases e0 with
    | none => exact xN e
    | some e0 =>
      obtain ⟨v1, H1, h1, e⟩ := optVH (o := r.ev sc e0 l H) e
      exact y3 e (ret_ok IH c k h1)
  | Assign ts e0 p =>
    rcases ts with _ | ⟨t, _ | ⟨b, ts⟩⟩
    · exact xN e
    · exact asg1_ok O IH c hfm k e
    · exact xN e
  | For tg it body els p =>
    cases els with
    | cons => exact xN e
    | nil =>
      obtain ⟨src, H1, hs, e⟩ := optSH e
      exact for_ok O IH c hfm k hs e
  | While t body els p =>
    cases els with
    | cons => exact xN e
    | nil => exact while_ok IH c hfm k e
  | If t a d p => exact if_ok IH c hfm k e
  | Expr e0 p =>
    obtain ⟨hc, e⟩ := bool_inv (b := notComp e0) e
    rcases h1 : r.ev sc e0 l H with _ | ⟨v1, H1⟩
    · rw [h1] at e; exact xN e
    · rw [h1] at e
      cases v1 <;> first | exact xN e | exact y3 e (expr_ok IH c k hc h1)
  | Continue p => exact y3 e fun W σ s Q E S hQ => wpAny_Continue (hQ W σ s.heap s.toks _ (Wd.le.refl W) S .cont)
  | _ => exact xN e
inductive ExC (C : Cfg) (r : R) (sc : Scope) (st : Stmt) (t : List Stmt) (l : L) (H : Mine.H) : Fl → L → Mine.H → Prop
  | go {l1 l' : L} {H1 H' : Mine.H} {fl : Fl} : ex1 C r sc st l H = some (.next, l1, H1) → ex C r sc t l1 H1 = some (fl, l', H') → ExC C r sc st t l H fl l' H'
  | stop {l1 : L} {H1 : Mine.H} {fl : Fl} : ex1 C r sc st l H = some (fl, l1, H1) → fl ≠ .next → ExC C r sc st t l H fl l1 H1
theorem ex_inv {st : Stmt} {t : List Stmt} (e : ex C r sc (st :: t) l H = some (fl, l', H')) : ExC C r sc st t l H fl l' H' := by
  unfold ex at e
  rcases h1 : ex1 C r sc st l H with _ | ⟨f, l1, H1⟩
  · rw [h1] at e; exact xN e
  · rw [h1] at e
    cases f with
    | next => exact .go h1 e
    | cont => exact y3 e (.stop h1 Fl.noConfusion)
    | ret v => exact y3 e (.stop h1 Fl.noConfusion)
/-- statements in a row -/
theorem ex_ok (O : OkG C g) (IH : Sound g n r) (c : CxOk g x n) (hfm : x.fm = none) (k : ScOk sc x.env) : ∀ {body : List Stmt} {l : L} {H : Mine.H}, ex C r sc body l H = some (fl, l', H') → ExOk g x body l H fl l' H'
  | [], l, H, e => y3 e fun W σ s Q E S hQ => wpAny_execs_nil (hQ W σ s.heap s.toks _ (Wd.le.refl W) S .next)
  | st :: t, l, H, e => by
    cases ex_inv e with
    | go h1 e =>
      intro W σ s Q E S hQ
      refine wpAny_execs_cons (ex1_ok O IH c hfm k h1 W σ s _ E S fun W1 σ1 h1 tk1 f le1 S1 rf => ?_)
      obtain rfl := rf.isN
      exact ex_ok O IH c hfm k e W1 σ1 _ Q E S1 fun W2 σ2 h2 tk2 f2 le2 S2 rf2 => hQ W2 σ2 h2 tk2 f2 (le1.trans le2) S2 rf2
    | stop q1 hn =>
      intro W σ s Q E S hQ
      refine wpAny_execs_cons (ex1_ok O IH c hfm k q1 W σ s _ E S fun W1 σ1 h1 tk1 f le1 S1 rf => ?_)
      have fin := hQ W1 σ1 h1 tk1 f le1 S1 rf
      cases rf with
      | next => exact (hn rfl).elim
      | cont => exact fin
      | ret ru => exact fin
end
end Mine

set_option maxRecDepth 100000
namespace Mine
open PySem PySem.W PySem.Calls PySem.Spec PyProof.Rows
theorem zip_lookup : ∀ {ps : List Str} {us : List Value} {y : Str}, us.length = ps.length → y ∈ ps → ∃ u, (ps.zip us).lookup y = some u
  | [], _, _, _, h => nomatch h
  | p :: ps, [], _, h, _ => by cases h
  | p :: ps, u :: us, y, h, hy => by
    rw [List.zip_cons_cons, List.lookup_cons]
    by_cases q : y = p
    · subst q; exact ⟨u, by simp⟩
    · rw [beq_eq_false_iff_ne.mpr q]
      exact zip_lookup (Nat.succ.inj h) ((List.mem_cons.mp hy).resolve_left q)
theorem zip_self : ∀ {ps : List Str} {us : List Value} {F : Str → Option Value}, us.length = ps.length → ps.Nodup → (∀ y ∈ ps, F y = (ps.zip us).lookup y) → ps.filterMap (fun n => (F n).map (n, ·)) = ps.zip us
  | [], _, _, _, _, _ => rfl
  | p :: ps, [], _, h, _, _ => by cases h
  | p :: ps, u :: us, F, h, hn, hF => by
    obtain ⟨h1, h2⟩ := List.nodup_cons.mp hn
    rw [List.filterMap_cons, hF p List.mem_cons_self]
    have e1 : ((p :: ps).zip (u :: us)).lookup p = some u := by rw [List.zip_cons_cons, List.lookup_cons]; simp
    rw [e1, zip_self (us := us) (Nat.succ.inj h) h2 fun y hy => ?_]
    · rfl
    · rw [hF y (List.mem_cons_of_mem _ hy), List.zip_cons_cons, List.lookup_cons, beq_eq_false_iff_ne.mpr fun q : y = p => h1 (q ▸ hy)]
theorem binds_list {ps : List Str} {us : List Value} (hl : us.length = ps.length) (hn : ps.Nodup) : (ps ++ []).filterMap (fun n => ((ps.zip us).lookup n).map (n, ·)) = ps.zip us := by
  rw [List.append_nil]
  exact zip_self (us := us) (F := fun y => (ps.zip us).lookup y) hl hn fun _ _ => rfl
theorem binds_miss {ps : List Str} {us : List Value} (hl : us.length = ps.length) (k : Nat) : ¬ (!((ps.take k).filter (fun n => ((ps.zip us).lookup n).isNone)).isEmpty) = true := by
  have e1 : (ps.take k).filter (fun n => ((ps.zip us).lookup n).isNone) = [] := by
    rw [List.filter_eq_nil_iff]
    intro y hy
    obtain ⟨u, hu⟩ := zip_lookup hl (List.mem_of_mem_take hy)
    rw [hu]; simp
  rw [e1]; simp
theorem binds_for {α β : Type} {l : List Str} {k m : Nat} {f : Str × Value → α → Sem (ForInStep α)} {a : α} {rest : α → Sem β} {b : Sem β} (h : rest a = b) : (forIn ((l.drop k).zip (List.drop m [])) a f >>= rest) = b := by
  rw [List.drop_nil, List.zip_nil_right]
  exact h
theorem binds_plain {fd : FuncData} {us : List Value} (h1 : fd.params.posonlyargs = []) (h2 : fd.params.kwonlyargs = []) (h3 : fd.params.vararg = none) (h4 : fd.params.kwarg = none) (hd : fd.defaults = .none)
    (hl : us.length = (fd.params.args.map (·.arg)).length) (hn : (fd.params.args.map (·.arg)).Nodup) : bindArgs fd ⟨us, []⟩ = pure ((fd.params.args.map (·.arg)).zip us) := by
  obtain ⟨name, qual, ⟨po, ar, va, ko, kd, kw, df⟩, body, scope, gl, cl, dV, kV, doc, pm, an, cdv, ct, bl⟩ := fd
  cases h1; cases h2; cases h3; cases h4; cases hd
  dsimp only at hl hn
  refine (if_neg ?_).trans ?_
  · intro h
    rw [Bool.and_eq_true, decide_eq_true_eq] at h
    exact Nat.lt_irrefl _ (hl ▸ h.1)
  refine (if_neg ?_).trans ?_
  · exact binds_miss hl _
  refine binds_for ?_
  exact congrArg (pure (f := Sem)) (binds_list hl hn)

/-! ## a function's cells -/
theorem cells_mem : ∀ {names : List (Str × NameKind)} {n : Nat} {acc : List (Str × Addr)} {q : Str × Addr}, q ∈ cellsFrom n names acc → q ∈ acc ∨ n ≤ q.2
  | [], _, _, _, h => .inl h
  | (y, k) :: r, n, acc, q, h => by
    unfold cellsFrom at h
    split at h
    · rcases cells_mem h with h | h
      · rcases List.mem_cons.mp h with rfl | h
        · exact .inr (Nat.le_refl _)
        · exact .inl h
      · exact .inr (Nat.le_of_succ_le h)
    · exact cells_mem h
theorem cells_acc : ∀ {names : List (Str × NameKind)} {n : Nat} {acc : List (Str × Addr)} {q : Str × Addr}, q ∈ acc → q ∈ cellsFrom n names acc
  | [], _, _, _, h => h
  | (y, k) :: r, n, acc, q, h => by
    unfold cellsFrom
    split
    · exact cells_acc (List.mem_cons_of_mem _ h)
    · exact cells_acc h
theorem cells_has : ∀ {names : List (Str × NameKind)} {n : Nat} {acc : List (Str × Addr)} {y : Str}, (y, NameKind.cell) ∈ names → ∃ c, (y, c) ∈ cellsFrom n names acc
  | (z, k) :: r, n, acc, y, h => by
    unfold cellsFrom
    rcases List.mem_cons.mp h with h | h
    · first | exact xN h | exact xS h | (obtain rfl := x1 h; clear h) | (obtain ⟨rfl, rfl⟩ := x2 h; clear h) | (obtain ⟨rfl, rfl, rfl⟩ := x3 h; clear h) | (exfalso; cases h; done) | cases h
      refine ⟨n, ?_⟩
      rw [if_pos (by decide)]
      exact cells_acc List.mem_cons_self
    · split
      · exact cells_has h
      · exact cells_has h
theorem cells_apart : ∀ {names : List (Str × NameKind)} {n : Nat} {acc : List (Str × Addr)}, (∀ p ∈ acc, p.2 < n) → (∀ p ∈ acc, ∀ q ∈ acc, p.2 = q.2 → p = q) → ∀ p ∈ cellsFrom n names acc, ∀ q ∈ cellsFrom n names acc, p.2 = q.2 → p = q
  | [], _, _, _, h => h
  | (y, k) :: r, n, acc, h1, h2 => by
    unfold cellsFrom
    split
    · refine cells_apart (fun p hp => ?_) fun p hp q hq e => ?_
      · rcases List.mem_cons.mp hp with rfl | hp
        · exact Nat.lt_succ_self _
        · exact Nat.lt_succ_of_lt (h1 p hp)
      · rcases List.mem_cons.mp hp with rfl | hp <;> rcases List.mem_cons.mp hq with rfl | hq
        · rfl
        · exact absurd (h1 q hq) (by rw [← e]; exact Nat.lt_irrefl _)
        · exact absurd (h1 p hp) (by rw [e]; exact Nat.lt_irrefl _)
        · exact h2 p hp q hq e
    · exact cells_apart h1 h2
theorem CellsAre.at {cm : Str → Option Value} {cs : List (Str × Addr)} {cells : List (Addr × Obj)} (h : CellsAre cm cs cells) : (∀ y c, (y, c) ∈ cs → ∃ o, (c, o) ∈ cells ∧ o.data = .cell (cm y)) ∧ ∀ p ∈ cells, ∃ y, (y, p.1) ∈ cs := by
  induction h with
  | nil => exact ⟨(fun _ _ h => nomatch h), fun _ h => nomatch h⟩
  | @cons m c o cs cells ho _ ih =>
    refine ⟨fun y d hm => ?_, fun p hp => ?_⟩
    · rcases List.mem_cons.mp hm with h | h
      · cases h; exact ⟨o, List.mem_cons_self, ho⟩
      · obtain ⟨o', h1, h2⟩ := ih.1 y d h
        exact ⟨o', List.mem_cons_of_mem _ h1, h2⟩
    · rcases List.mem_cons.mp hp with rfl | hp
      · exact ⟨m, List.mem_cons_self⟩
      · obtain ⟨y, hy⟩ := ih.2 p hp
        exact ⟨y, List.mem_cons_of_mem _ hy⟩
theorem bindL_not {kf : Str → Option NameKind} {y : Str} : ∀ {bs : List (Str × Value)} {m : Str → Option Value}, y ∉ bs.map (·.1) → bindL kf bs m y = m y
  | [], _, _ => rfl
  | (z, u) :: r, m, h => by
    have h1 : y ≠ z := fun e => h (by simp [e])
    have h2 : y ∉ r.map (·.1) := fun e => h (by simp [e])
    unfold bindL
    rw [bindL_not h2]
    split
    · exact if_neg h1
    · rfl
theorem bindL_at {kf : Str → Option NameKind} {y : Str} {u : Value} (hk : kf y = some .local) : ∀ {bs : List (Str × Value)} {m : Str → Option Value}, (bs.map (·.1)).Nodup → (y, u) ∈ bs → bindL kf bs m y = some u
  | (z, w) :: r, m, hn, h => by
    obtain ⟨h1, h2⟩ := List.nodup_cons.mp hn
    unfold bindL
    rcases List.mem_cons.mp h with h | h
    · first | exact xN h | exact xS h | (obtain rfl := x1 h; clear h) | (obtain ⟨rfl, rfl⟩ := x2 h; clear h) | (obtain ⟨rfl, rfl, rfl⟩ := x3 h; clear h) | (exfalso; cases h; done) | cases h
      rw [bindL_not h1, if_pos hk]
      exact if_pos rfl
    · exact bindL_at hk h2 h
theorem bindC_not {kf : Str → Option NameKind} {y : Str} : ∀ {bs : List (Str × Value)} {m : Str → Option Value}, y ∉ bs.map (·.1) → bindC kf bs m y = m y
  | [], _, _ => rfl
  | (z, u) :: r, m, h => by
    have h1 : y ≠ z := fun e => h (by simp [e])
    have h2 : y ∉ r.map (·.1) := fun e => h (by simp [e])
    unfold bindC
    rw [bindC_not h2]
    split
    · rfl
    · exact if_neg h1
theorem bindC_at {kf : Str → Option NameKind} {y : Str} {u : Value} (hk : kf y ≠ some .local) : ∀ {bs : List (Str × Value)} {m : Str → Option Value}, (bs.map (·.1)).Nodup → (y, u) ∈ bs → bindC kf bs m y = some u
  | (z, w) :: r, m, hn, h => by
    obtain ⟨h1, h2⟩ := List.nodup_cons.mp hn
    unfold bindC
    rcases List.mem_cons.mp h with h | h
    · first | exact xN h | exact xS h | (obtain rfl := x1 h; clear h) | (obtain ⟨rfl, rfl⟩ := x2 h; clear h) | (obtain ⟨rfl, rfl, rfl⟩ := x3 h; clear h) | (exfalso; cases h; done) | cases h
      rw [bindC_not h1, if_neg hk]
      exact if_pos rfl
    · exact bindC_at hk h2 h
/-- arguments and their names -/
inductive ZipA (g : G) (W : Wd) (ps : List Str) (us : List Value) (l : L) : Prop
  | mk : us.length = ps.length → look 0 l = none → (∀ y v, nm y ≠ 0 → look (nm y) l = some v → ∃ u, (y, u) ∈ ps.zip us ∧ VR g W v u) → ZipA g W ps us l
theorem zipP_at {g : G} {W : Wd} : ∀ {ps : List Str} {as : List AV} {us : List Value} {l : L}, zipP (ps.map nm) as = some l → VRs g W as us → (∀ y ∈ ps, okN y) → ZipA g W ps us l
  | [], as, us, l, e, r, _ => by
    cases as with
    | cons => exact xN e
    | nil =>
      obtain rfl := x1 e
      obtain rfl := r.n0
      exact ⟨rfl, rfl, fun _ _ _ h => nomatch h⟩
  | p :: ps, as, us, l, e, r, hp => by
    cases as with
    | nil => exact xN e
    | cons a as =>
    obtain ⟨u, us, rfl, r, rs⟩ := r.c
    obtain ⟨l1, h1, e⟩ := optD (o := zipP (ps.map nm) as) e
    obtain rfl := x1 e
    clear e
    obtain ⟨i1, i2, i3⟩ := zipP_at h1 rs fun y hy => hp y (List.mem_cons_of_mem _ hy)
    have hp0 := (hp p List.mem_cons_self).1
    refine ⟨congrArg Nat.succ i1, by rw [look_cons, if_neg hp0]; exact i2, fun y v hy q => ?_⟩
    rw [look_cons] at q
    by_cases z : nm p = nm y
    · rw [if_pos z] at q
      obtain rfl := x1 q
      obtain rfl := nm_inj hp0 z
      exact ⟨u, List.mem_cons_self, r⟩
    · rw [if_neg z] at q
      obtain ⟨w, h1, h2⟩ := i3 y v hy q
      exact ⟨w, List.mem_cons_of_mem _ h1, h2⟩
theorem cut_lt {i k : Nat} {ao : AO} : ∀ {os : List (Nat × AO)}, look i (dropTo k os) = some ao → look i os = some ao ∧ i < k
  | [], h => nomatch h
  | (j, a) :: r, h => by
    have h' : look i (match Nat.ble k j with | true => dropTo k r | false => (j, a) :: dropTo k r) = some ao := h
    rw [look_cons]
    cases q : Nat.ble k j with
    | true =>
      rw [q] at h'
      obtain ⟨h1, h2⟩ := cut_lt h'
      rw [if_neg (Nat.ne_of_gt (Nat.lt_of_lt_of_le h2 (Nat.le_of_ble_eq_true q)))]
      exact ⟨h1, h2⟩
    | false =>
      rw [q] at h'
      have h' : look i ((j, a) :: dropTo k r) = some ao := h'
      rw [look_cons] at h'
      by_cases z : j = i
      · rw [if_pos z] at h' ⊢
        exact ⟨h', Nat.lt_of_not_le fun hle => by rw [← z] at hle; rw [Nat.ble_eq_true_of_le hle] at q; cases q⟩
      · rw [if_neg z] at h' ⊢
        exact cut_lt h'
theorem cut_sub {i k : Nat} {ao : AO} {os : List (Nat × AO)} (h : look i (dropTo k os) = some ao) : look i os = some ao := (cut_lt h).1
end Mine

set_option maxRecDepth 100000
namespace Mine
open PySem PySem.W PySem.Calls PySem.Spec PyProof.Rows
/-- the def that stands in the written part -/
structure FnAt (g : G) (k : Nat) (f : Fn) (cl : List (Str × Addr)) (qual : Str) (params : Arguments) (cdv : Value) : Prop where
  lk : ∃ name kV doc pm an ct oc od osl, g.K.lookup (g.fa k) = some ⟨oc, od, .func (fnX name qual params f.body f.scope cl .none kV doc pm an cdv ct), osl⟩
  cd : codeIn g.K cdv qual = true
  p1 : params.posonlyargs = []
  p2 : params.kwonlyargs = []
  p3 : params.vararg = none
  p4 : params.kwarg = none
  pn : (params.args.map (·.arg)).map nm = f.params
  nd : (params.args.map (·.arg)).Nodup
  ok : ∀ y ∈ params.args.map (·.arg), okN y ∧ (f.scope.names.lookup y = some .local ∨ f.scope.names.lookup y = some .cell)
  kd : f.scope.kind = .function
  co : f.scope.isCoroutine = false
  gn : f.scope.isGenerator = false
section
variable {g : G} {C : Cfg} {x : Cx} {n : Nat} {W : Wd} {l l0 l' : L} {H H' H1 H2 : Mine.H} {σ : Sg} {s : Shared} {E : Value → Shared → Prop} {r : R} {sc : Scope} {v : AV} {b : Bool} {fl : Fl}
theorem lookup_cells {names : List (Str × NameKind)} {m : Nat} {y : Str} (h : names.lookup y = some .cell) : ∃ c, (cellsFrom m names []).lookup y = some c ∧ (y, c) ∈ cellsFrom m names [] := by
  obtain ⟨c, hc⟩ := cells_has (n := m) (acc := []) (mem_of_lookup' h)
  exact lookup_of_mem' hc
/-- what a call hands back -/
theorem leave_ok {x' : Cx} {W' : Wd} {σ' : Sg} {h' : Heap} {tk : Tok} {fw : Flow} {R : Result → Shared → Prop} {led₀ : Led} (S : St g x W l H σ s.heap) (le : W.le W') (hout : x'.out = σ.own ++ x.out) (hfm : x'.fm = none) (S' : St g x' W' l' H1 σ' h')
    (hc : ∀ i ao, look i H'.os = some ao → look i H1.os = some ao) (hx : H'.nx = H1.nx) (rf : FlR g W' fl fw) (hr : retOf fl = some v) (hQ : PV g x W l H' σ v (fun u => R (.ok (.ret u))) s) :
    LeaveK x.h₀ x.L (x.fm.getD σ.m) x'.h₀ R (match (generalizing := false) fw with | .ret v => v | _ => .none) { s with heap := h', toks := tk } := by
  obtain ⟨led', N', hl'⟩ := S'.led
  have hF := S'.F
  rw [hfm] at hF
  refine ⟨x'.L, _, led' ++ σ.own ++ x.out ++ W'.X, hF, fun p hp => N' p ?_, fun F'' N'' => ?_⟩
  · rw [hout]
    simp only [List.mem_append] at hp ⊢
    rcases hp with ((a | b) | c) | d
    · exact .inl (.inl (.inl a))
    · exact .inl (.inr (.inl b))
    · exact .inl (.inr (.inr c))
    · exact .inr d
  · have hap : ∀ q ∈ W'.mp, ∀ p ∈ σ.own ++ x.out ++ W'.X, p.1 ≠ q.2 := fun q hq p hp => S'.ap q hq p (by rw [hout, List.append_assoc]; exact List.mem_append_right _ hp)
    have hxo : ∀ p ∈ W'.X, ∀ q ∈ σ.own ++ x.out, p.1 ≠ q.1 := fun p hp q hq => S'.xo p hp q (by rw [hout]; exact List.mem_append_right _ hq)
    have S2 : St g x W' l H' σ h' := St.back S le F'' N'' ⟨fun i ao e => hl'.1 i ao (hc i ao e), hl'.2⟩ S'.fn hap (by rw [hx]; exact S'.nx) hxo
    cases fl with
    | ret v =>
      obtain ⟨u, rfl, ru⟩ := rf.isR
      obtain rfl := x1 hr
      exact hQ W' h' tk _ le S2 ru
    | next =>
      obtain rfl := rf.isN
      obtain rfl := x1 hr
      exact hQ W' h' tk _ le S2 .none
    | cont => exact xN hr
/-- into a frame: its state -/
theorem St.enter {x' : Cx} {g' h₁ : Heap} {m : Str → Option Value} {cells : Led} {led : Led} (S : St g x W l H σ s.heap) (hl : LedOk g W H led) (hout : x'.out = σ.own ++ x.out) (hfm : x'.fm = none) (hloc : x'.env.locals = x'.L)
    (F' : Fr x'.h₀ x'.L h₁ m) (N' : News x'.h₀ x'.L h₁ (cells ++ (led ++ σ.own ++ x.out ++ W.X))) (hlt : ∀ p ∈ led ++ σ.own ++ x.out ++ W.X, p.1 < x'.L) (hcl : ∀ p ∈ cells, x'.L < p.1)
    (hce : ∀ y, x'.env.kindOf y = some .cell → ∃ c o v, x'.env.cells.lookup y = some c ∧ (c, o) ∈ cells ∧ o.data = .cell v) (hlr : LR g W x'.env ⟨m, cells⟩ x'.out l0) : St g x' W l0 H ⟨m, cells⟩ h₁ where
  F := by rw [hfm]; exact F'
  md := .inl ⟨hfm, hloc⟩
  led := ⟨led, fun p hp => N' p (by
    rw [hout] at hp
    simp only [List.mem_append] at hp ⊢
    rcases hp with ((a | b) | (c | d)) | e
    · exact .inr (.inl (.inl (.inl a)))
    · exact .inl b
    · exact .inr (.inl (.inl (.inr c)))
    · exact .inr (.inl (.inr d))
    · exact .inr (.inr e)), hl⟩
  fn := S.fn
  ap := fun q hq p hp => by
    rw [hout, List.append_assoc] at hp
    rcases List.mem_append.mp hp with hp | hp
    · obtain ⟨o, ho⟩ := hl.2 q hq
      have h1 := hlt (q.2, o) (by simp [ho])
      exact Nat.ne_of_gt (Nat.lt_trans h1 (hcl p hp))
    · exact S.ap q hq p hp
  nx := S.nx
  xo := fun p hp q hq => by
    rw [hout] at hq
    rcases List.mem_append.mp hq with hq | hq
    · exact Nat.ne_of_lt (Nat.lt_trans (hlt p (by simp [hp])) (hcl q hq))
    · exact S.xo p hp q hq
  oo := fun p hp q hq => by
    rw [hout] at hq
    refine Nat.ne_of_gt (Nat.lt_trans (hlt q ?_) (hcl p hp))
    simp only [List.mem_append] at hq ⊢
    rcases hq with a | b
    · exact .inl (.inl (.inr a))
    · exact .inl (.inr b)
  ce := fun _ => hce
  lr := hlr
/-- a call of a def of the text -/
theorem enter_ok {k : Nat} {f : Fn} {as : List AV} {qual : Str} {params : Arguments} {cdv : Value} (c : CxOk g x (n + 1)) (D : FnAt g k f [] qual params cdv) (hnc : ((cellsFrom 0 f.scope.names []).map (·.1)).Nodup) (hfr : ∀ p ∈ f.scope.names, p.2 ≠ .free) (hz : zipP f.params as = some l0)
    (hb : ∀ x', CxOk g x' n → x'.fm = none → ScOk f.scope x'.env → ExOk g x' f.body l0 H fl l' H1) (hr : retOf fl = some v)
    (hc : ∀ i ao, look i H'.os = some ao → look i H1.os = some ao) (hx : H'.nx = H1.nx) : ClOk g x k as H v H' := by
  intro W l σ s R us S rs hQ
  obtain ⟨name, kV, doc, pm, an, ct, oc, od, osl, hlk⟩ := D.lk
  obtain ⟨p, loose, mg, mb, T⟩ := c.T
  obtain ⟨led, N, hl⟩ := S.led
  obtain ⟨hlen, l00, hat⟩ := zipP_at (by rw [D.pn]; exact hz) rs fun y hy => (D.ok y hy).1
  have hbn : (((params.args.map (·.arg)).zip us).map (·.1)).Nodup := by
    rw [List.map_fst_zip (by rw [hlen]; exact Nat.le_refl _)]; exact D.nd
  refine callX_cells c.B S.F N T.nolimit c.hA c.hf c.hk (S.KIn c _ _ hlk) rfl (codeRec_of (S.KIn c) D.cd) (by have := c.dp; omega) (BindsTo.of_eq (binds_plain D.p1 D.p2 D.p3 D.p4 rfl hlen D.nd)) (fun m y hy => ?_) hnc ?_ D.co D.gn D.kd
  · rcases (D.ok y.1 (List.of_mem_zip (a := y.1) (b := y.2) hy).1).2 with h | h
    · exact .inl h
    · obtain ⟨cc, h1, _⟩ := lookup_cells (m := m) h
      exact .inr ⟨h, by rw [h1]; rfl⟩
  · intro g' L' h₁ tk cells FG F' N' Y B' st lt
    obtain ⟨Y1, Y2⟩ := CellsAre.at Y
    have hcl : ∀ q ∈ cells, L' < q.1 := fun q hq => by
      obtain ⟨y, hy⟩ := Y2 q hq
      rcases cells_mem hy with h | h
      · first | exact xN h | exact xS h | (obtain rfl := x1 h; clear h) | (obtain ⟨rfl, rfl⟩ := x2 h; clear h) | (obtain ⟨rfl, rfl, rfl⟩ := x3 h; clear h) | (exfalso; cases h; done) | cases h
      · exact h
    have hcell : ∀ y, f.scope.names.lookup y = some .cell → ∃ cc o, (cellsFrom (L' + 1) f.scope.names []).lookup y = some cc ∧ (cc, o) ∈ cells ∧ o.data = .cell (bindC (envOfC qual f.scope L' (g.fa k) cdv).kindOf ((params.args.map (·.arg)).zip us) (fun _ => none) y) := fun y hy => by
      obtain ⟨cc, h1, h2⟩ := lookup_cells (m := L' + 1) hy
      obtain ⟨o, h3, h4⟩ := Y1 y cc h2
      exact ⟨cc, o, h1, h3, h4⟩
    let x' : Cx := { A₀ := x.A, A := x.A.deeper (envOfC qual f.scope L' (g.fa k) cdv), base := x.base, h₀ := g', outer := x.fe :: x.outer, L := L', fe := envOfC qual f.scope L' (g.fa k) cdv, env := envOfC qual f.scope L' (g.fa k) cdv, fm := none, out := σ.own ++ x.out }
    have cx' : CxOk g x' n :=
      { B := B', hA := by show x.A.frames.map _ = _; rw [c.hA]; rfl
        hf := rfl, hk := D.kd, X := fun a o e => st _ _ (c.X a o e), T := ⟨p, loose, mg, mb, T.keeps st⟩, hand := c.hand
        dp := by have := c.dp; show x.A.depth + 1 + n < _; omega
        un := by have := c.un; show x.A.units + 3 + 16 * n + 200 < _; omega
        ek := D.kd, eg := rfl, eb := rfl, sm := let ⟨o, ho⟩ := c.sm; ⟨o, st _ _ ho⟩
        cf := fun y hy => by
          rcases hy with hy | hy
          · obtain ⟨cc, o, h1, _⟩ := hcell y hy; exact ⟨cc, h1⟩
          · exact absurd rfl (hfr _ (mem_of_lookup' hy))
        ci := fun y z cc hy hz => by
          have := cells_apart (acc := []) (fun _ h => nomatch h) (fun _ h => nomatch h) _ (mem_of_lookup' hy) _ (mem_of_lookup' hz) rfl
          exact congrArg Prod.fst this }
    refine hb x' cx' rfl (fun y kd h => .inl h) W ⟨_, cells⟩ { s with heap := h₁, toks := tk } _ _ (St.enter (x' := x') (g' := g') S hl rfl rfl rfl F' N' lt hcl (fun y hy => ?_) ⟨l00, fun y v hy e => ?_⟩) fun W' σ' h' tk' fw le S' rf => leave_ok (led₀ := []) S le rfl rfl S' hc hx rf hr hQ
    · obtain ⟨cc, o, h1, h2, h3⟩ := hcell y hy
      exact ⟨cc, o, _, h1, h2, h3⟩
    · obtain ⟨u, hu, ru⟩ := hat y v hy e
      refine ⟨(D.ok y (List.of_mem_zip hu).1).1, fun hk => ⟨u, bindL_at hk hbn hu, ru⟩, fun hk => ?_⟩
      rcases hk with hk | hk
      · obtain ⟨cc, o, h1, h2, h3⟩ := hcell y hk
        refine ⟨cc, o, u, h1, List.mem_append_left _ h2, ?_, ru⟩
        rw [h3, bindC_at (by rw [hk]; intro z; cases z) hbn hu]
      · exact absurd rfl (hfr _ (mem_of_lookup' hk))
end
end Mine

set_option maxRecDepth 100000
namespace Mine
open PySem PySem.W PySem.Calls PySem.Spec PyProof.Rows
section
variable {M : Model} {A : Around} {c : Code} {E : Value → Shared → Prop} {s : Shared} {env : Env}
theorem mcallAt {o : Expr} {name : Str} {apos pos : Pos} {Q : Value → Shared → Prop} (hline : (apos.endLine == pos.line) = true)
    (h : _root_.PySem.wpAt M A c (attributeBase o name env (eval o env)) (fun ov s₁ => ∀ pl, wpAny M A (getMethod ov name pl) (fun fx s₂ => wpAny M A (callWith pos fx.1 fx.2 (backTo pos (starEach [] env)) []) Q E s₂) E s₁) E s) :
    _root_.PySem.wpAt M A c (eval (.Call (.Attribute o name apos) [] [] pos) env) Q E s := by
  rw [arm_eval_Call]
  refine PySem.wpAt_bind (PySem.wpAt_mono h (fun ov s₁ h₁ => PySem.wpAt_of_wpAny (wpAny_bind (wpAny_standAt ?_))) fun _ _ x => x)
  have hpos : methodCallPos true o env apos pos = pure pos := by unfold methodCallPos; simp [hline]
  have hform : methodCallForm (([] : List Expr).length + ([] : List Keyword).length) (backTo pos (starEach [] env)) (backToKw pos (keywordEach [] env)) = true := rfl
  unfold methodCall
  rw [hform]
  refine wpAny_bind (wpAny_holding (wpAny_mono (h₁ _) (fun fx s₂ h₂ => ?_) fun _ _ x => x))
  exact wpAny_bind (wpAny_of_eq hpos h₂)
end
/-- a class's __init__ that calls the class above first -/
structure SupAt (g : G) (k cc k2 : Nat) (f : Fn) (qual : Str) (params : Arguments) (cda cell D : Addr) (ar : Arg) : Prop where
  fn : FnAt g k f [("__class__", cell)] qual params (.ref cda)
  nc : ∀ p ∈ f.scope.names, p.2 ≠ .cell
  fr : ∀ p ∈ f.scope.names, p.2 = .free → p.1 = "__class__"
  one : params.args = [ar]
  body : ∃ p0 p1 ap cp ep rest, f.body = .Expr (.Call (.Attribute (.Call (.Name "super" p0) [] [] p1) "__init__" ap) [] [] cp) ep :: rest ∧ (ap.endLine == cp.line) = true
  code : ∃ ccl cdd vs ccs file tf, g.K.lookup cda = some ⟨ccl, cdd, .fields vs, ccs⟩ ∧ vs[2]? = some (.str file tf) ∧ ((g.prog.main.file : Str) == file) = true
  cellv : ∃ cl cld csl, g.K.lookup cell = some ⟨cl, cld, .cell (some (.ref D)), csl⟩
  hD : ∃ cd, clsIn g.K D = some cd
  sub : mroIn g.K (g.ca cc) (.ref D) = some true
  sup : nsIn g.K mainGlobals "super" = some none
  ks : f.scope.names.lookup ("super" : Str) = some .globalImplicit
  kc : f.scope.names.lookup ("__class__" : Str) = some .free
  top : (g.prog.main.scope.names.lookup ("super" : Str)).isSome = false
  boot : bootBuiltins "super" = some (.type "super")
  opq : nsIn g.K cStatics "thirdparty.any" = some none
  hm : ks_superIn g.K (g.ca cc) D "__init__" = some (some (.ref (g.fa k2)))
  fn2 : ∃ oc od fd sl, g.K.lookup (g.fa k2) = some ⟨oc, od, .func fd, sl⟩ ∧ oc = .type "function"
section
variable {g : G} {C : Cfg} {x : Cx} {n : Nat} {W : Wd} {l l0 l' : L} {H H' H1 H2 : Mine.H} {σ : Sg} {s : Shared} {E : Value → Shared → Prop} {r : R} {sc : Scope} {v : AV} {b : Bool} {fl : Fl}
theorem sup_ok (IH : Sound g n r) {k cc k2 i : Nat} {f : Fn} {fs : List (Nat × AV)} {qual : Str} {params : Arguments} {cda cell D : Addr} {ar : Arg} {st : Stmt} {rest : List Stmt} (c : CxOk g x (n + 1)) (P : SupAt g k cc k2 f qual params cda cell D ar) (hz : zipP f.params [.loc i] = some l0) (hbody : f.body = st :: rest)
    (hg : H.get i = some (.inst cc fs)) (h2 : r.cl k2 [.loc i] H = some (.none, H1)) (h3 : r.ex f.scope rest l0 H1 = some (fl, l', H2)) (hr : retOf fl = some v)
    (hc : ∀ i ao, look i H'.os = some ao → look i H2.os = some ao) (hx : H'.nx = H2.nx) : ClOk g x k [.loc i] H v H' := by
  obtain ⟨name, kV, doc, pm, an, ct, oc, od, osl, hlk⟩ := P.fn.lk
  obtain ⟨p, loose, mg, mb, T⟩ := c.T
  obtain ⟨p0, p1, ap, cp, ep, rest', hb, hline⟩ := P.body
  rw [hb] at hbody
  first | exact xN hbody | exact xS hbody | (obtain rfl := x1 hbody; clear hbody) | (obtain ⟨rfl, rfl⟩ := x2 hbody; clear hbody) | (obtain ⟨rfl, rfl, rfl⟩ := x3 hbody; clear hbody) | (exfalso; cases hbody; done) | cases hbody
  obtain ⟨ccl, cdd, vs, ccs, file, tf, hcode, hvs, hfile⟩ := P.code
  obtain ⟨cl, cld, csl, hcell⟩ := P.cellv
  obtain ⟨cdD, hD⟩ := P.hD
  obtain ⟨oc2, od2, fd2, sl2, hf2, hc2⟩ := P.fn2
  obtain ⟨cdC, hC, hal⟩ : ∃ cd, clsIn g.K (g.ca cc) = some cd ∧ alongIn g.K "__init__" ((cd.mro.dropWhile (· != .ref D)).drop 1) = some (some (.ref (g.fa k2))) := by
    have := P.hm
    unfold ks_superIn at this
    obtain ⟨cd, h1, h2⟩ := Option.bind_eq_some_iff.mp this
    exact ⟨cd, h1, h2⟩
  obtain ⟨cD, dD, sD, hoD⟩ : ∃ c d sl, g.K.lookup D = some ⟨c, d, .cls cdD, sl⟩ := by
    unfold clsIn at hD
    split at hD
    · rename_i c d cd' sl ho
      first | exact xN hD | exact xS hD | (obtain rfl := x1 hD; clear hD) | (obtain ⟨rfl, rfl⟩ := x2 hD; clear hD) | (obtain ⟨rfl, rfl, rfl⟩ := x3 hD; clear hD) | (exfalso; cases hD; done) | cases hD
      exact ⟨_, _, _, ho⟩
    · first | exact xN hD | exact xS hD | (obtain rfl := x1 hD; clear hD) | (obtain ⟨rfl, rfl⟩ := x2 hD; clear hD) | (obtain ⟨rfl, rfl, rfl⟩ := x3 hD; clear hD) | (exfalso; cases hD; done) | cases hD
  have hargs : params.args.map (·.arg) = [ar.arg] := by rw [P.one]; rfl
  have hka : f.scope.names.lookup ar.arg = some .local := by
    rcases (P.fn.ok ar.arg (by rw [hargs]; exact List.mem_cons_self)).2 with h | h
    · exact h
    · exact absurd rfl (P.nc _ (mem_of_lookup' h))
  intro W l σ s R us S rs hQ
  obtain ⟨led, N, hl⟩ := S.led
  obtain ⟨hlen, l00, hat⟩ := zipP_at (by rw [P.fn.pn]; exact hz) rs fun y hy => (P.fn.ok y hy).1
  have X := S.KIn c
  obtain ⟨FG, BG, stay, lv⟩ := groundX (R := R) c.B S.F N c.hA c.hf c.hk
  obtain ⟨u, rfl, ru⟩ := rs.n1
  rw [hargs] at hat hlen
  refine ks_codeAny_call_defAt (body := f.body) (binds := [(ar.arg, u)]) (by have := c.dp; omega) (X _ _ hlk) rfl (T.nolimit.keeps S.F.keep) (codeRec_of X P.fn.cd) rfl (BindsTo.of_eq ?_) P.nc (fun y hy => by rw [List.mem_singleton] at hy; subst hy; exact hka) (fun h₁ hns hk₁ => ?_) P.fn.co P.fn.gn P.fn.kd
  · have := binds_plain (us := [u]) (fd := fnX name qual params f.body f.scope [("__class__", cell)] .none kV doc pm an (.ref cda) ct) P.fn.p1 P.fn.p2 P.fn.p3 P.fn.p4 rfl (by rw [hargs]; rfl) P.fn.nd
    rw [this]
    show pure ((params.args.map (·.arg)).zip [u]) = _
    rw [hargs]; rfl
  · let env' : Env := envX qual f.scope s.heap.objs.size (g.fa k) (.ref cda) [("__class__", cell)]
    let g' : Heap := hideAll s.heap ((led ++ σ.own ++ x.out ++ W.X).map (·.1))
    let x' : Cx := { A₀ := x.A, A := x.A.deeper env', base := x.base, h₀ := g', outer := x.fe :: x.outer, L := s.heap.objs.size, fe := env', env := env', fm := none, out := σ.own ++ x.out }
    have F' : Fr g' s.heap.objs.size h₁ (fun y => List.lookup y [(ar.arg, u)].reverse) := ⟨hns, fun b o e => hk₁ b o (of_hideAll _ e), Nat.le_of_eq (hideAll_size _ _)⟩
    have lt : ∀ p ∈ led ++ σ.own ++ x.out ++ W.X, p.1 < s.heap.objs.size := fun p hp => Heap.lt_size (N p hp).1
    have N' : News g' s.heap.objs.size h₁ ([] ++ (led ++ σ.own ++ x.out ++ W.X)) := fun p hp => ⟨hk₁ _ _ (N p hp).1, Nat.ne_of_lt (Heap.lt_size (N p hp).1), hideAll_none _ (List.mem_map_of_mem hp)⟩
    have cx' : CxOk g x' n :=
      { B := BG, hA := by show x.A.frames.map _ = _; rw [c.hA]; rfl
        hf := rfl, hk := P.fn.kd, X := fun a o e => stay _ _ (c.X a o e), T := ⟨p, loose, mg, mb, T.keeps stay⟩, hand := c.hand
        dp := by have := c.dp; show x.A.depth + 1 + n < _; omega
        un := by have := c.un; show x.A.units + 3 + 16 * n + 200 < _; omega
        ek := P.fn.kd, eg := rfl, eb := rfl, sm := let ⟨o, ho⟩ := c.sm; ⟨o, stay _ _ ho⟩
        cf := fun y hy => by
          rcases hy with hy | hy
          · exact absurd rfl (P.nc _ (mem_of_lookup' hy))
          · have := P.fr _ (mem_of_lookup' hy) rfl
            simp only at this
            subst this
            exact ⟨cell, rfl⟩
        ci := fun y z cc hy hz => by
          have h1 := mem_of_lookup' hy
          have h2 := mem_of_lookup' hz
          rw [List.mem_singleton] at h1 h2
          cases h1; cases h2; rfl }
    have S' : St g x' W l0 H ⟨fun y => List.lookup y [(ar.arg, u)].reverse, []⟩ h₁ := St.enter (x' := x') (g' := g') S hl rfl rfl rfl F' N' lt (fun _ h => nomatch h) (fun y hy => absurd rfl (P.nc _ (mem_of_lookup' hy))) ⟨l00, fun y v hy e => by
      obtain ⟨w, hw, rw'⟩ := hat y v hy e
      have hw' : (y, w) = (ar.arg, u) := List.mem_singleton.mp hw
      first | exact xN hw' | exact xS hw' | (obtain rfl := x1 hw'; clear hw') | (obtain ⟨rfl, rfl⟩ := x2 hw'; clear hw') | (obtain ⟨rfl, rfl, rfl⟩ := x3 hw'; clear hw') | (exfalso; cases hw'; done) | cases hw'
      refine ⟨(P.fn.ok _ (by rw [hargs]; exact List.mem_cons_self)).1, fun _ => ⟨u, ?_, rw'⟩, fun hk => ?_⟩
      · show List.lookup ar.arg [(ar.arg, u)] = some u
        simp
      · rcases hk with hk | hk
        · exact absurd (hka.symm.trans hk) (by intro z; cases z)
        · exact absurd (hka.symm.trans hk) (by intro z; cases z)⟩
    have X' : g.K.In h₁ := S'.KIn cx'
    refine ks_wpAt_mono (Q := fun fw s' => LeaveK x.h₀ x.L (x.fm.getD σ.m) g' R (match (generalizing := false) fw with | .ret v => v | _ => .none) s') ?_ (fun fw s' hl => lv _ _ hl) fun _ _ y => y
    rw [hb]
    obtain ⟨led1, a, da, es, kk, N1, hl1, m1, m2, i1, i2, g1, g2, FF, b1, b2, b3, b4, hget⟩ := S.inst hg ru
    clear N1 hl1 m1 m2 i1 i2 FF b1 b2 b3 b4 hget
    have I : InstAt s.heap a (instObj (g.ca cc) da) (g.ca cc) (some (dictOf es kk)) := ⟨g1, rfl, rfl, g2⟩
    have hD1 := X' _ _ hoD
    refine ks_wpAt_execs_cons (ks_wpAt_Expr_any (mcallAt hline (ks_wpAt_super_base (env := env') P.ks P.kc (by decide +kernel) rfl (X' _ _ hlk) rfl (ar := ar) (by show (params.posonlyargs ++ params.args).head? = _; rw [P.fn.p1, P.one]; rfl) rfl (X' _ _ hcode) rfl hvs hfile P.top ?_)) (by show (f.scope.kind == .module && _) = false; rw [P.fn.kd]; rfl) rfl)
    have TT := T.keeps stay
    refine ks_loadName_global (env := env') P.fn.kd P.ks (loadGlobal_builtin (env := env') (TT.g.keeps F'.keep) (mg_none_of cx'.X TT.g P.sup) (TT.b.keeps F'.keep) ((TT.builtins _ (by decide +kernel)).trans P.boot) ⟨rfl, ?_⟩)
    refine wpAny_loadName_free (env := env') P.fn.kd P.kc rfl ⟨_, X' _ _ hcell, rfl⟩ ?_
    refine wpAny_loadName_local (env := env') P.fn.kd hka F'.ns (show List.lookup ar.arg [(ar.arg, Value.ref a)] = some (.ref a) by simp) ?_
    refine ks_wpAny_isType_cls hD1 rfl ⟨rfl, ?_⟩
    refine ks_wpAny_call_super hD1 rfl (hk₁ _ _ g1) rfl (fun c e => by cases e) (looks_mroIn X' P.sub) (fun hh2 e2 k2' => ?_)
    intro pl
    have X2 : g.K.In hh2 := fun a o e => k2' _ _ (X' a o e)
    refine ks_wpAny_getMethod_super e2 (looks_opaque X2 P.opq) (l₀ := cdC.mro) (fun A Q E s k q => wpAny_bind ((looks_clsIn X2 hC) A _ E s k (wpAny_pure q))) rfl X2 hal (X2 _ _ hf2) hc2 (ks_ne X I hC) (by decide +kernel) ?_
    have up3 : ∀ b o, h₁.get? b = some o → (hh2.push (methodObj (.ref (g.fa k2)) (.ref a))).get? b = some o := fun b o e => Heap.get?_push_of_some _ (k2' b o e)
    have X3 : g.K.In (hh2.push (methodObj (.ref (g.fa k2)) (.ref a))) := fun a o e => up3 _ _ (X' a o e)
    refine callWith_of rfl (keeps_M (f := g.fa k2) (self := .ref a) (by unfold fnIn; rw [hf2])) (evalArgs_nil3 ⟨⟨Heap.get?_push_at rfl rfl, X3⟩, wpAny_call (method_call (Heap.get?_push_at rfl rfl) ?_)⟩)
    refine IH.cl x' k2 [.loc i] H .none H1 cx' h2 W l0 ⟨_, []⟩ ⟨_, _, _, _, _⟩ _ [.ref a] (S'.ext up3) (.cons ru .nil) ?_
    intro W4 h4 tk4 u4 le4 S4 r4
    refine PySem.wpAt_of_wpAny (IH.ex x' f.scope rest l0 H1 fl l' H2 cx' rfl (fun y kd h => .inl h) h3 W4 ⟨_, []⟩ ⟨h4, _, _, tk4, _⟩ _ _ S4 fun W5 σ5 h5 tk5 fw le5 S5 rf => ?_)
    exact leave_ok (led₀ := []) S (le4.trans le5) rfl rfl S5 hc hx rf hr hQ
end
end Mine

set_option maxRecDepth 100000
namespace Mine
open PySem PySem.W PySem.Calls PySem.Spec PyProof.Rows
/-- the tables, with the text's defs -/
structure OkF (C : Cfg) (g : G) (B : Nat) : Prop extends OkG C g where
  fnk : ∀ k f, nth C.fns k = some f → C.sup k = none → ∃ qual params cdv, FnAt g k f [] qual params cdv ∧ ((cellsFrom 0 f.scope.names []).map (·.1)).Nodup ∧ ∀ p ∈ f.scope.names, p.2 ≠ .free
  spk : ∀ k f q, nth C.fns k = some f → C.sup k = some q → ∃ qual params cda cell D ar, SupAt g k q.1 q.2 f qual params cda cell D ar
  hc : ∀ x k as H v H', CxOk g x B → C.hcall k as H = some (v, H') → ClOk g x k as H v H'
section
variable {g : G} {C : Cfg} {x : Cx} {n B : Nat} {W : Wd} {l l0 l' : L} {H H' H1 H2 : Mine.H} {σ : Sg} {s : Shared} {E : Value → Shared → Prop} {r : R} {sc : Scope} {v : AV} {b : Bool} {fl : Fl}
theorem cl_ok (O : OkF C g B) (IH : Sound g n r) (c : CxOk g x (n + 1)) (hB : B ≤ n + 1) {k : Nat} {as : List AV} (e : cl C r k as H = some (v, H')) : ClOk g x k as H v H' := by
  unfold cl at e
  split at e
  · rename_i q hq
    first | exact xN e | exact xS e | (obtain rfl := x1 e; clear e) | (obtain ⟨rfl, rfl⟩ := x2 e; clear e) | (obtain ⟨rfl, rfl, rfl⟩ := x3 e; clear e) | (exfalso; cases e; done) | cases e
    exact O.hc x k as H v H' (c.le hB) hq
  · split at e
    · rename_i f hf
      split at e
      · rename_i l0 hz
        split at e
        · rename_i fl l1 H1 hb
          split at e
          · rename_i v' hr
            have hv : v' = v ∧ H' = (match f.gc with | true => H1.cut H.nx | false => H1) := by cases e; exact ⟨rfl, rfl⟩
            obtain ⟨rfl, rfl⟩ := hv
            have hc : ∀ i ao, look i (match f.gc with | true => H1.cut H.nx | false => H1).os = some ao → look i H1.os = some ao := fun i ao h => by
              split at h
              · exact cut_sub h
              · exact h
            have hx : (match f.gc with | true => H1.cut H.nx | false => H1).nx = H1.nx := by split <;> rfl
            unfold body at hb
            split at hb
            · rename_i hs
              obtain ⟨qual, params, cdv, D, hnc, hfr⟩ := O.fnk k f hf hs
              exact enter_ok c D hnc hfr hz (fun x' cx' hfm hsc => IH.ex x' f.scope f.body l0 H fl l1 H1 cx' hfm hsc hb) hr hc hx
            · rename_i q hs
              obtain ⟨qual, params, cda, cell, D, ar, P⟩ := O.spk k f q hf hs
              split at hb
              · rename_i st rest i hbody _
                split at hb
                · rename_i c2 fs hg
                  split at hb
                  · rename_i hq
                    have hq := Nat.eq_of_beq_eq_true hq
                    subst hq
                    split at hb
                    · rename_i H2 h2
                      exact sup_ok IH c P hz hbody hg h2 hb hr hc hx
                    · first | exact xN hb | exact xS hb | (obtain rfl := x1 hb; clear hb) | (obtain ⟨rfl, rfl⟩ := x2 hb; clear hb) | (obtain ⟨rfl, rfl, rfl⟩ := x3 hb; clear hb) | (exfalso; cases hb; done) | cases hb
                  · first | exact xN hb | exact xS hb | (obtain rfl := x1 hb; clear hb) | (obtain ⟨rfl, rfl⟩ := x2 hb; clear hb) | (obtain ⟨rfl, rfl, rfl⟩ := x3 hb; clear hb) | (exfalso; cases hb; done) | cases hb
                · first | exact xN hb | exact xS hb | (obtain rfl := x1 hb; clear hb) | (obtain ⟨rfl, rfl⟩ := x2 hb; clear hb) | (obtain ⟨rfl, rfl, rfl⟩ := x3 hb; clear hb) | (exfalso; cases hb; done) | cases hb
              · first | exact xN hb | exact xS hb | (obtain rfl := x1 hb; clear hb) | (obtain ⟨rfl, rfl⟩ := x2 hb; clear hb) | (obtain ⟨rfl, rfl, rfl⟩ := x3 hb; clear hb) | (exfalso; cases hb; done) | cases hb
          · first | exact xN e | exact xS e | (obtain rfl := x1 e; clear e) | (obtain ⟨rfl, rfl⟩ := x2 e; clear e) | (obtain ⟨rfl, rfl, rfl⟩ := x3 e; clear e) | (exfalso; cases e; done) | cases e
        · first | exact xN e | exact xS e | (obtain rfl := x1 e; clear e) | (obtain ⟨rfl, rfl⟩ := x2 e; clear e) | (obtain ⟨rfl, rfl, rfl⟩ := x3 e; clear e) | (exfalso; cases e; done) | cases e
      · first | exact xN e | exact xS e | (obtain rfl := x1 e; clear e) | (obtain ⟨rfl, rfl⟩ := x2 e; clear e) | (obtain ⟨rfl, rfl, rfl⟩ := x3 e; clear e) | (exfalso; cases e; done) | cases e
    · first | exact xN e | exact xS e | (obtain rfl := x1 e; clear e) | (obtain ⟨rfl, rfl⟩ := x2 e; clear e) | (obtain ⟨rfl, rfl, rfl⟩ := x3 e; clear e) | (exfalso; cases e; done) | cases e
/-- one level more -/
theorem step_ok (O : OkF C g B) (IH : Sound g n r) (hB : B ≤ n + 1) : Sound g (n + 1) (step C r) where
  ev := fun _ _ _ _ _ _ _ c k e => ev_ok O.toOkG IH c k e
  tr := fun _ _ _ _ _ _ _ c k e => tr_ok O.toOkG IH c k e
  ex := fun _ _ _ _ _ _ _ _ c hf k e => ex_ok O.toOkG IH (c.le (Nat.le_succ n)) hf k e
  wh := fun _ _ _ _ _ _ _ _ _ c hf k e => wh_ok IH (c.le (Nat.le_succ n)) hf k e
  cl := fun _ _ _ _ _ _ c e => cl_ok O IH c hB e
theorem fail_ok (n : Nat) : Sound g n fail where
  ev := fun _ _ _ _ _ _ _ _ _ e => nomatch e
  tr := fun _ _ _ _ _ _ _ _ _ e => nomatch e
  ex := fun _ _ _ _ _ _ _ _ _ _ _ e => nomatch e
  wh := fun _ _ _ _ _ _ _ _ _ _ _ _ e => nomatch e
  cl := fun _ _ _ _ _ _ _ e => nomatch e
/-- the interpreter is sound -/
theorem run_ok (O : OkF C g B) : ∀ f, Sound g (B + f) (run C f)
  | 0 => fail_ok _
  | f + 1 => step_ok O (run_ok O f) (Nat.le_succ_of_le (Nat.le_add_right B f))
end
end Mine

set_option maxRecDepth 100000
namespace Mine
open PySem PySem.W PySem.Calls PySem.Spec PyProof.Rows

/-! ## what is looked at behind the top -/
noncomputable def argsOfS : Option Stmt → Arguments
  | some (.FunctionDef _ a _ _ _ _ _ _ _ _) => a
  | _ => ⟨[], [], none, [], [], none, []⟩
noncomputable def argsAt (i : Nat) (j : Option Nat) : Arguments := match j with
  | none => argsOfS (nth PySem.Challenge.pw_rg0219_01.main.body i)
  | some j => match nth PySem.Challenge.pw_rg0219_01.main.body i with
    | some (.ClassDef _ _ _ b _ _ _ _ _ _ _) => argsOfS (nth b j)
    | _ => argsOfS none
noncomputable def glNames : List Str := (["gcd_of", "ratio", "add", "mul", "compare", "is_whole", "signed_text", "figures_of", "ratio_text", "real_text", "mask_of", "signed_of", "one_value", "divided_value", "rest_value", "shifted_value", "two_value", "ask_value", "extract_value", "concat_value", "sign_extended", "bit_value", "carry_value", "below_value", "want_small", "plain_value", "bits_worked_out", "number_worked_out", "bits_asked", "connected", "worked_out", "evaluate", "evaluate_all", "number_text_of", "element_text", "value_text", "is_simple", "symbol_text", "bits_text", "_law_spill", "_law_same_again", "_law_another", "_law_is_plain", "law", "TermBank", "Model", "len", "min", "max", "abs", "str", "int", "list", "tuple", "isinstance", "all", "any", "bool", "BLOCK", "ROUND", "BOOL", "INT", "REAL", "WIDEST", "MOST_BITS", "BV_SAME", "BV_ASK", "NOUGHT", "DIGITS", "LETTERS", "MARKS", "SIMPLE", "RESERVED", "_law_titles"] : List String).map Str.ofString
noncomputable def methN0 : List (Str × Nat) := ([("__init__", 56), ("bv_sort", 57), ("want_bits", 58), ("bv_one", 59), ("bv_two", 60), ("concat", 61), ("extract", 62), ("zero_extend", 63), ("sign_extend", 64), ("want_place", 65), ("bit", 66), ("carry", 67), ("below", 68), ("num", 50), ("want_number", 51), ("plus", 52), ("times_num", 53), ("times", 54), ("negative", 55), ("and_of", 42), ("or_of", 43), ("xor_of", 44), ("eq", 45), ("distinct", 46), ("ite", 47), ("app", 48), ("sort_name", 25), ("declare_sort", 26), ("width_of", 27), ("is_number_sort", 28), ("declare_fun", 29), ("fresh_const", 30), ("fun_name", 31), ("fun_result", 32), ("op", 33), ("args", 34), ("sort", 35), ("data", 36), ("width", 37), ("make", 38), ("want", 39), ("want_all", 40), ("parts_of_all", 41)] : List (String × Nat)).map fun p => (Str.ofString p.1, p.2)
noncomputable def methN1 : List (Str × Nat) := ([("__init__", 70), ("set_row", 71), ("rows", 72), ("set_other", 73), ("other", 74), ("call", 75), ("value", 76)] : List (String × Nat)).map fun p => (Str.ofString p.1, p.2)
noncomputable def atrN0 : List Str := (["sort_names", "sort_widths", "fun_names", "fun_args", "fun_results", "fresh_count", "term_ops", "term_args", "term_sorts", "term_datas", "numbers", "true_number", "false_number", "bv_numbers"] : List String).map Str.ofString
noncomputable def atrN1 : List Str := (["bank", "tables", "others"] : List String).map Str.ofString
noncomputable def faTab : List Nat := [142, 149, 156, 163, 170, 177, 184, 191, 198, 205, 212, 219, 226, 233, 240, 247, 254, 261, 268, 275, 282, 289, 296, 303, 319, 326, 333, 340, 347, 361, 375, 382, 396, 410, 417, 424, 431, 438, 452, 473, 480, 515, 543, 550, 557, 578, 585, 592, 599, 632, 646, 653, 660, 667, 674, 688, 737, 744, 758, 772, 779, 786, 793, 800, 807, 814, 821, 828, 835, 848, 862, 869, 883, 890, 897, 904, 911, 932, 939, 946, 953, 958, 965, 970, 977, 984, 991, 999, 1006, 1013, 1026, 1031, 1038, 1043, 1048]
noncomputable def argsTab : List Arguments := [argsAt 10 none, argsAt 11 none, argsAt 12 none, argsAt 13 none, argsAt 14 none, argsAt 15 none, argsAt 16 none, argsAt 17 none, argsAt 18 none, argsAt 19 none, argsAt 21 none, argsAt 22 none, argsAt 23 none, argsAt 24 none, argsAt 25 none, argsAt 26 none, argsAt 27 none, argsAt 28 none, argsAt 29 none, argsAt 30 none, argsAt 31 none, argsAt 32 none, argsAt 33 none, argsAt 34 none, argsAt 42 (some 0), argsAt 42 (some 1), argsAt 42 (some 2), argsAt 42 (some 3), argsAt 42 (some 4), argsAt 42 (some 6), argsAt 42 (some 8), argsAt 42 (some 9), argsAt 42 (some 11), argsAt 42 (some 13), argsAt 42 (some 14), argsAt 42 (some 15), argsAt 42 (some 16), argsAt 42 (some 17), argsAt 42 (some 19), argsAt 42 (some 22), argsAt 42 (some 23), argsAt 42 (some 28), argsAt 43 (some 1), argsAt 43 (some 2), argsAt 43 (some 3), argsAt 43 (some 6), argsAt 43 (some 7), argsAt 43 (some 8), argsAt 43 (some 9), argsAt 44 none, argsAt 45 (some 0), argsAt 45 (some 1), argsAt 45 (some 2), argsAt 45 (some 3), argsAt 45 (some 4), argsAt 45 (some 6), argsAt 46 (some 0), argsAt 46 (some 1), argsAt 46 (some 3), argsAt 46 (some 5), argsAt 46 (some 6), argsAt 46 (some 7), argsAt 46 (some 8), argsAt 46 (some 9), argsAt 46 (some 10), argsAt 46 (some 11), argsAt 46 (some 12), argsAt 46 (some 13), argsAt 46 (some 14), argsAt 49 none, argsAt 50 (some 0), argsAt 50 (some 1), argsAt 50 (some 3), argsAt 50 (some 4), argsAt 50 (some 5), argsAt 50 (some 6), argsAt 50 (some 7), argsAt 51 none, argsAt 52 none, argsAt 53 none, argsAt 54 none, argsAt 55 none, argsAt 56 none, argsAt 57 none, argsAt 59 none, argsAt 60 none, argsAt 61 none, argsAt 67 none, argsAt 68 none, argsAt 69 none, argsAt 72 none, argsAt 73 none, argsAt 74 none, argsAt 75 none, argsAt 76 none]
noncomputable def tupTab : List (Nat × List Value) := [(304, [.str (Str.ofString "bvand") 570, .str (Str.ofString "bvor") 571, .str (Str.ofString "bvxor") 572, .str (Str.ofString "bvadd") 573, .str (Str.ofString "bvsub") 574, .str (Str.ofString "bvmul") 575, .str (Str.ofString "bvshl") 576, .str (Str.ofString "bvlshr") 577, .str (Str.ofString "bvudiv") 578, .str (Str.ofString "bvurem") 579]),
  (305, [.str (Str.ofString "bvult") 581, .str (Str.ofString "bvule") 582, .str (Str.ofString "bvslt") 583, .str (Str.ofString "bvsle") 584]),
  (841, [.int 0 1282, .int 1 1283]),
  (992, [.str (Str.ofString "!") 1496, .str (Str.ofString "_") 1497, .str (Str.ofString "as") 1498, .str (Str.ofString "BINARY") 1499, .str (Str.ofString "DECIMAL") 1500, .str (Str.ofString "exists") 1501, .str (Str.ofString "forall") 1502, .str (Str.ofString "HEXADECIMAL") 1503, .str (Str.ofString "let") 1504, .str (Str.ofString "match") 1505, .str (Str.ofString "NUMERAL") 1506, .str (Str.ofString "par") 1507, .str (Str.ofString "STRING") 1508]),
  (1014, [.str (Str.ofString "S") 1537, .str (Str.ofString "S!val!0") 1538]),
  (1015, [.str (Str.ofString "b c") 1539, .str (Str.ofString "|b c!val!0|") 1540]),
  (1016, [.str (Str.ofString "let") 1541, .str (Str.ofString "let!val!0") 1542]),
  (1017, [.str (Str.ofString "7") 1543, .str (Str.ofString "|7!val!0|") 1544]),
  (1018, [.str (Str.ofString "|as|") 1545, .str (Str.ofString "as!val!0") 1546]),
  (1019, [.ref 1014, .ref 1015, .ref 1016, .ref 1017, .ref 1018])]
noncomputable def constTab : List (Nat × Value) := [(nmS "BLOCK", .int 1000 340), (nmS "ROUND", .int (10 ^ 1000) 343), (nmS "BOOL", .int 0 558), (nmS "INT", .int 1 560), (nmS "REAL", .int 2 562), (nmS "WIDEST", .int 4096 564), (nmS "MOST_BITS", .int 65536 568),
  (nmS "BV_SAME", .ref 304), (nmS "BV_ASK", .ref 305), (nmS "NOUGHT", .ref 841), (nmS "DIGITS", .str (Str.ofString "0123456789") 1487), (nmS "LETTERS", .str (Str.ofString "abcdefghijklmnopqrstuvwxyzABCDEFGHIJKLMNOPQRSTUVWXYZ") 1489), (nmS "MARKS", .str (Str.ofString "~!@$%^&*_-+=<>.?/") 1491),
  (nmS "SIMPLE", .str (Str.ofString "abcdefghijklmnopqrstuvwxyzABCDEFGHIJKLMNOPQRSTUVWXYZ0123456789~!@$%^&*_-+=<>.?/") 1494), (nmS "RESERVED", .ref 992), (nmS "_law_titles", .ref 1019)]
noncomputable def getD {α : Type} (d : α) : List α → Nat → α
  | [], _ => d
  | x :: r, n => match n with | 0 => x | n + 1 => getD d r n
noncomputable def faA (k : Nat) : Addr := getD 0 faTab k
noncomputable def caA (c : Nat) : Addr := match c with | 0 => 838 | _ => 921
noncomputable def bvTab : List Value := [.builtin "len", .builtin "min", .builtin "max", .builtin "abs", .type "str", .type "int", .type "list", .type "tuple", .builtin "isinstance", .builtin "all", .builtin "any", .type "bool"]
noncomputable def bvA (k : Nat) : Value := getD (.builtin "len") bvTab k
/-- what stands under a name of the text's -/
noncomputable def uOf (y : Nat) : AV → Value
  | .fn k => .ref (faA k)
  | .cls c => .ref (caA c)
  | .bi k => bvA k
  | _ => (look y constTab).getD .none
noncomputable def isBi : AV → Bool
  | .bi _ => true
  | _ => false
noncomputable def glExp (p : Str × AV) : Option (Option Value) := match isBi p.2 with | true => some none | false => some (some (uOf (nm p.1) p.2))
noncomputable def glN : List (Str × AV) := glNames.zip (glTab.map (·.2))
noncomputable def noNames : List Str := (["range", "zip", "reversed", "super"] : List String).map Str.ofString
noncomputable abbrev FV := Option (Value × Bool × Arguments × FuncBody × Scope × Addr × List (Str × Addr) × Value × Addr)
noncomputable def fnView (K : Frag) (a : Addr) : FV := match K.lookup a with
  | some ⟨c, _, .func fd, _⟩ => some (c, codeIn K fd.code fd.qualname, fd.params, fd.body, fd.scope, fd.globals, fd.closure, fd.defaults, fd.builtins)
  | _ => none
noncomputable def closA (k : Nat) : List (Str × Addr) := match Nat.beq k 56 with | true => [("__class__", 725)] | false => []
noncomputable def fnExp (k : Nat) : FV := some (.type "function", true, getD ⟨[], [], none, [], [], none, []⟩ argsTab k, .stmts (getD noFn fnTab k).body, (getD noFn fnTab k).scope, mainGlobals, closA k, .none, builtinsNs)
noncomputable def allK : List Nat := List.range 95
noncomputable def codeOf (K : Frag) (a : Addr) : Option Value := match K.lookup a with
  | some ⟨_, _, .func fd, _⟩ => some fd.code
  | _ => none
noncomputable def fieldOf (K : Frag) (a : Addr) (i : Nat) : Option Value := match K.lookup a with
  | some ⟨_, _, .fields vs, _⟩ => vs[i]?
  | _ => none
noncomputable abbrev KV := List (Option (Option Value)) × List (Option (Option Value)) × List (Option Obj) × List (Option (Option Value)) × List (Option (Option Value)) × List (Option (Option Value)) × List (Option (Option Value)) ×
  List (Option (Option Value) × Option (Option Value) × Option (Option Value) × Bool × Bool × Bool × Bool) × List FV × Option Value × Option Value × Option Obj × Bool × Option Bool × Option (Option Value) × Option (Option Value) × Bool
noncomputable def kview (K : Frag) : KV := (glN.map fun p => nsIn K mainGlobals p.1, noNames.map fun y => nsIn K mainGlobals y, tupTab.map fun p => K.lookup p.1, methN0.map fun p => findIn K (.ref 838) p.1, methN1.map fun p => findIn K (.ref 921) p.1, atrN0.map fun y => findIn K (.ref 838) y, atrN1.map fun y => findIn K (.ref 921) y,
  [838, 921].map fun c => (findIn K (.ref c) "__getattribute__", findIn K (.ref c) "__getattr__", findIn K (.ref c) "__setattr__", plainOver K c, hasDictIn K c, makesIn K c, keepIn K (.ref c)), allK.map fun k => fnView K (faA k),
  codeOf K 737, fieldOf K 736 2, K.lookup 725, (clsIn K 838).isSome, mroIn K 838 (.ref 838), nsIn K cStatics "thirdparty.any", ks_superIn K 838 838 "__init__", (K.lookup sysModules).isSome)
noncomputable def kgood : KV := (glN.map glExp, noNames.map fun _ => some none, tupTab.map fun p => some (tupObj p.2 0), methN0.map fun p => some (some (.ref (faA p.2))), methN1.map fun p => some (some (.ref (faA p.2))), atrN0.map fun _ => some none, atrN1.map fun _ => some none,
  [838, 921].map fun _ => (some (some (.builtin "object.__getattribute__")), some none, some (some (.builtin "object.__setattr__")), true, true, true, true), allK.map fnExp,
  some (.ref 736), some (.str "/claim/cut.py" 1139), some { cls := .type "cell", data := .cell (some (.ref 838)) }, true, some true, some none, some (some (.ref 319)), true)
/-- the objects behind the top -/
noncomputable def adrs : List Nat := [3, 838, 719, 623, 518, 921, 837, 718, 622, 517, 920, cStatics, sysModules, 725] ++ tupTab.map (·.1) ++ faTab.flatMap fun a => [a, a - 1]
noncomputable def getT (s : SharedT) (a : Nat) : Option Obj := (match Nat.blt a s.n with | true => s.tree.get a | false => none).bind alive
noncomputable def frag (s : SharedT) : Frag := adrs.filterMap fun a => (getT s a).map fun o => (a, o)
theorem range_lookup (F : Nat → Option Obj) : ∀ (l : List Nat) (a : Nat) (o : Obj), (l.filterMap fun a => (F a).map fun o => (a, o)).lookup a = some o → a ∈ l ∧ F a = some o
  | [], _, _, h => by cases h
  | b :: r, a, o, h => by
    rw [List.filterMap_cons] at h
    cases q : F b with
    | none =>
      rw [q] at h
      obtain ⟨h1, h2⟩ := range_lookup F r a o h
      exact ⟨List.mem_cons_of_mem _ h1, h2⟩
    | some o' =>
      rw [q] at h
      have h' : (match a == b with | true => some o' | false => (r.filterMap fun a => (F a).map fun o => (a, o)).lookup a) = some o := h
      split at h'
      · rename_i z
        have := eq_of_beq z
        subst this
        first | exact xN h' | exact xS h' | (obtain rfl := x1 h'; clear h') | (obtain ⟨rfl, rfl⟩ := x2 h'; clear h') | (obtain ⟨rfl, rfl, rfl⟩ := x3 h'; clear h') | (exfalso; cases h'; done) | cases h'
        exact ⟨List.mem_cons_self, q⟩
      · obtain ⟨h1, h2⟩ := range_lookup F r a o h'
        exact ⟨List.mem_cons_of_mem _ h1, h2⟩
theorem frag_in (s : SharedT) : (frag s).In s.abs.heap := fun a o e => by
  obtain ⟨_, h2⟩ := range_lookup (getT s) _ a o e
  obtain ⟨o', h3, h4⟩ := Option.bind_eq_some_iff.mp h2
  rw [← h4]
  split at h3
  · rename_i hlt
    exact abs_get (Nat.le_of_ble_eq_true hlt) h3
  · first | exact xN h3 | exact xS h3 | (obtain rfl := x1 h3; clear h3) | (obtain ⟨rfl, rfl⟩ := x2 h3; clear h3) | (obtain ⟨rfl, rfl, rfl⟩ := x3 h3; clear h3) | (exfalso; cases h3; done) | cases h3
end Mine

set_option maxRecDepth 100000
namespace Mine
open PySem PySem.W
noncomputable def topRunT (tb : String → Option Builtin) (p : Program) (w : World) (n₀ : Nat) (ann : Option Value) : Nat → SharedT → Thread → Option SharedT
  | 0, _, _ => none
  | n + 1, s, t => match through t with
    | true => some s
    | false => match stepOk n₀ ann t with
      | false => none
      | true => match stepT (denote tb) p w s t with
        | some (s', t') => topRunT tb p w n₀ ann n s' t'
        | none => none
/-- the same by the library's quick twins -/
noncomputable def topRunQ (tb : String → Option Builtin) (p : Program) (w : World) (n₀ : Nat) (ann : Option Value) : Nat → SharedT → Thread → Option SharedT
  | 0, _, _ => none
  | n + 1, s, t => match through t with
    | true => some s
    | false => match Fast.tw6613529449190102663 n₀ ann t with
      | false => none
      | true => match Fast.tw10156331382660048174 (Fast.tw11892475500146522536 tb) p w s t with
        | some (s', t') => topRunQ tb p w n₀ ann n s' t'
        | none => none
theorem topRunQ_eq {tb : String → Option Builtin} {p : Program} {w : World} {n₀ : Nat} {ann : Option Value} : ∀ (n : Nat) (s : SharedT) (t : Thread), topRunT tb p w n₀ ann n s t = topRunQ tb p w n₀ ann n s t
  | 0, _, _ => rfl
  | n + 1, s, t => by
    unfold topRunT topRunQ
    rw [Fast.te6613529449190102663, Fast.te10156331382660048174, Fast.te11892475500146522536]
    split
    · rfl
    · split
      · rfl
      · split
        · exact topRunQ_eq n _ _
        · rfl
noncomputable def bootTree (P : Params) : BT := ((((((((((BT.nil.ins 0 (boot_o_0 P)).ins 1 (boot_o_1 P)).ins 2 (boot_o_2 P)).ins 3 (boot_o_3 P)).ins 4 (boot_o_4 P)).ins 5 (boot_o_5 P)).ins 6 (boot_o_6 P)).ins 7 (boot_o_7 P)).ins 8 (boot_o_8 P)).ins 9 (boot_o_9 P)).ins 10 (boot_o_10 P)
noncomputable def boot (w : World) (os : OsState) : SharedT := ⟨bootTree w.params, 11, {}, #[], boot_drawn, boot_toks, os⟩
theorem boot_abs (w : World) (os : OsState) : (boot w os).abs = ⟨boot_heap w.params, #[], boot_drawn, boot_toks, os⟩ := by kernel_rfl
noncomputable def topS (w : World) (os : OsState) : Option SharedT := topRunQ Fast.tw14364793385576792824 PySem.Challenge.pw_rg0219_01 w 11 (some (.ref 6)) 6700 (boot w os) (topStub PySem.Challenge.pw_rg0219_01)

noncomputable def looseL : List Str := (["_wall", "SmtError", "SyntaxFault", "SortFault", "LimitFault", "ModelFault", "BLOCK", "ROUND", "gcd_of", "ratio", "add", "mul", "compare", "is_whole", "signed_text", "figures_of", "ratio_text", "real_text", "mask_of", "signed_of", "one_value", "divided_value", "rest_value", "shifted_value", "two_value", "ask_value", "extract_value", "concat_value", "sign_extended", "bit_value", "carry_value", "below_value", "BOOL", "INT", "REAL", "WIDEST", "MOST_BITS", "BV_SAME", "BV_ASK", "Bank", "BoolBank", "want_small", "NumberBank", "TermBank", "NOUGHT", "plain_value", "Model", "bits_worked_out", "number_worked_out", "bits_asked", "connected", "worked_out", "evaluate", "evaluate_all", "number_text_of", "element_text", "value_text", "DIGITS", "LETTERS", "MARKS", "SIMPLE", "RESERVED", "is_simple", "symbol_text", "bits_text", "_law_titles", "_law_spill", "_law_same_again", "_law_another", "_law_is_plain"] : List String).map Str.ofString
noncomputable def qP : Program := view PySem.Challenge.pw_rg0219_01 [76]
noncomputable def topTests (h : Heap) (s : Shared) : Bool := staticsOk (importedModules PySem.Challenge.pw_rg0219_01.main.body) h s.heap && namesBound PySem.Challenge.pw_rg0219_01 s.heap && gensDone s && laidKept h s.heap

theorem top_looks (w : World) (os : OsState) : (topS w os).map (fun s => (topTests (boot_heap w.params) s.abs, Fast.tw4187177175401517315 qP looseL [] (fun _ => true) true s.abs, kview (frag s))) = some (true, openGood qP looseL, kgood) := by kernel_rfl
end Mine

set_option maxRecDepth 100000
namespace Mine
open PySem PySem.W PySem.Calls PySem.Spec PyProof.Rows
theorem topRun_of {tb : String → Option Builtin} {p : Program} {w : World} {n₀ : Nat} {ann : Option Value} : ∀ {n : Nat} {s s' : SharedT} {t : Thread}, topRunT tb p w n₀ ann n s t = some s' → topRun tb p w n₀ ann n s.abs t = some s'.abs
  | 0, _, _, _, h => by cases h
  | n + 1, s, s', t, h => by
    unfold topRunT at h
    unfold topRun
    split at h
    · rename_i q; rw [q]; cases h; rfl
    · rename_i q
      rw [q]
      split at h
      · first | exact xN h | exact xS h | (obtain rfl := x1 h; clear h) | (obtain ⟨rfl, rfl⟩ := x2 h; clear h) | (obtain ⟨rfl, rfl, rfl⟩ := x3 h; clear h) | (exfalso; cases h; done) | cases h
      · rename_i k
        rw [k]
        split at h
        · rename_i s₂ t₂ hs
          dsimp only
          rw [stepT_spec hs]
          exact topRun_of h
        · first | exact xN h | exact xS h | (obtain rfl := x1 h; clear h) | (obtain ⟨rfl, rfl⟩ := x2 h; clear h) | (obtain ⟨rfl, rfl, rfl⟩ := x3 h; clear h) | (exfalso; cases h; done) | cases h
theorem topS_run {w : World} {os : OsState} {s : SharedT} (h : topS w os = some s) : topRun treeTable PySem.Challenge.pw_rg0219_01 w 11 (some (.ref 6)) 6700 ⟨boot_heap w.params, #[], boot_drawn, boot_toks, os⟩ (topStub PySem.Challenge.pw_rg0219_01) = some s.abs := by
  rw [← boot_abs]
  refine topRun_of ?_
  rw [topRunQ_eq, Fast.te14364793385576792824]
  exact h
theorem boot_size (w : World) : ((boot_heap w.params).isNs mainGlobals && (#[] : Array GenState).size == 0, (boot_heap w.params).objs.size, (boot_heap w.params).nsMap mainGlobals "__annotations__") = (true, 11, some (.ref 6)) := by kernel_rfl
theorem no_imports : importedModules PySem.Challenge.pw_rg0219_01.main.body = [] := by kernel_rfl
noncomputable abbrev Seen (h : Heap) : Prop := ∃ K : Frag, K.In h ∧ kview K = kgood
theorem open1 : opening PySem.Challenge.pw_rg0219_01 = plainProg PySem.Challenge.pw_rg0219_01.main.scope.names := by kernel_rfl
theorem open2 (s : Shared) : fenceModules? PySem.Challenge.pw_rg0219_01 s = some s := by kernel_rfl
theorem open3 (w : World) : (fencedOpening treeTable PySem.Challenge.pw_rg0219_01 w 6700).map (fun s => (s.heap, s.gens, s.drawn, s.toks)) = some (boot_heap w.params, #[], boot_drawn, boot_toks) := boot_open open1 rfl open2 w
theorem open4 {w : World} {s : Shared} (h : fencedOpening treeTable PySem.Challenge.pw_rg0219_01 w 6700 = some s) : s = ⟨boot_heap w.params, #[], boot_drawn, boot_toks, s.os⟩ := by
  have ho := open3 w
  rw [h] at ho
  obtain ⟨hh, gs, d, k, os⟩ := s
  have ho' := Option.some.inj ho
  obtain ⟨z1, z2⟩ := Prod.mk.inj ho'
  obtain ⟨z2, z3⟩ := Prod.mk.inj z2
  obtain ⟨z3, z4⟩ := Prod.mk.inj z3
  subst z1 z2 z3 z4
  rfl
theorem open5 (w : World) : ∃ s, fencedOpening treeTable PySem.Challenge.pw_rg0219_01 w 6700 = some s := by
  obtain ⟨s, h, _⟩ := Option.map_eq_some_iff.mp (open3 w)
  exact ⟨s, h⟩

theorem from_own {w : World} {os : OsState} {s : SharedT} (hs : topS w os = some s) (h : topTests (boot_heap w.params) s.abs = true) : topFrom treeTable PySem.Challenge.pw_rg0219_01 w 6700 ⟨boot_heap w.params, #[], boot_drawn, boot_toks, os⟩ = some s.abs := by
  have hr := topS_run hs
  obtain ⟨z1, z2⟩ := Prod.mk.inj (boot_size w)
  obtain ⟨z2, z3⟩ := Prod.mk.inj z2
  generalize hH : boot_heap w.params = H at *
  unfold topTests at h
  unfold topFrom
  dsimp only
  rw [z1, z2, z3, hr]
  dsimp only [Option.bind_some]
  rw [h]
theorem look_split {w : World} {os : OsState} : ∃ s, topS w os = some s ∧ topTests (boot_heap w.params) s.abs = true ∧ Fast.tw4187177175401517315 qP looseL [] (fun _ => true) true s.abs = openGood qP looseL ∧ kview (frag s) = kgood := by
  obtain ⟨s, hs, hl⟩ := Option.map_eq_some_iff.mp (top_looks w os)
  exact ⟨s, hs, congrArg (·.1) hl, congrArg (·.2.1) hl, congrArg (·.2.2) hl⟩
theorem map_seen {s : Shared} (h1 : openSeen qP looseL [] (fun _ => true) true s = openGood qP looseL) (h2 : Seen s.heap) : (some s).map (fun s => (openSeen qP looseL [] (fun _ => true) true s, Seen s.heap)) = some (openGood qP looseL, True) := by
  have hy : Seen s.heap = True := propext ⟨fun _ => trivial, fun _ => h2⟩
  rw [Option.map_some, h1, hy]
theorem left_own : LeftO PySem.Challenge.pw_rg0219_01 qP looseL (fun _ => true) (fun s => Seen s.heap) (fun _ => True) 6700 := fun w => by
  obtain ⟨s₀, h0⟩ := open5 w
  have h1 := open4 h0
  obtain ⟨s, hs, h2, h3, h4⟩ := look_split (w := w) (os := s₀.os)
  have ht := from_own hs h2
  have he : openEnds treeTable PySem.Challenge.pw_rg0219_01 w 6700 = some s.abs := by
    unfold openEnds
    rw [h0, Option.bind_some, h1]
    exact ht
  rw [he, no_imports]
  exact map_seen (by rw [Fast.te4187177175401517315]; exact h3) ⟨frag s, frag_in s, h4⟩
end Mine

set_option maxRecDepth 100000
namespace Mine
open PySem PySem.W PySem.Calls PySem.Spec PyProof.Rows

/-! ## the tables are true of what stands behind the top -/
theorem look_names {α : Type} {y : Str} {v : α} : ∀ {l : List (Str × α)}, look (nm y) (l.map fun p => (nm p.1, p.2)) = some v → nm y ≠ 0 → (y, v) ∈ l
  | [], h, _ => by cases h
  | p :: r, h, hy => by
    have h' : (match Nat.beq (nm p.1) (nm y) with | true => some p.2 | false => look (nm y) (r.map fun p => (nm p.1, p.2))) = some v := (look_match (p := (nm p.1, p.2))).symm.trans h
    split at h'
    · rename_i q
      first | exact xN h' | exact xS h' | (obtain rfl := x1 h'; clear h') | (obtain ⟨rfl, rfl⟩ := x2 h'; clear h') | (obtain ⟨rfl, rfl, rfl⟩ := x3 h'; clear h') | (exfalso; cases h'; done) | cases h'
      have e := Nat.eq_of_beq_eq_true q
      have : p.1 = y := nm_inj (by rw [e]; exact hy) e
      subst this
      exact List.mem_cons_self
    · exact List.mem_cons_of_mem _ (look_names h' hy)
theorem look_zero {α : Type} {v : α} : ∀ {l : List (Str × α)}, l.all (fun p => Nat.blt 0 (nm p.1)) = true → look 0 (l.map fun p => (nm p.1, p.2)) = some v → False
  | [], _, h => by cases h
  | p :: r, ha, h => by
    rw [List.all_cons, Bool.and_eq_true] at ha
    have h' : (match Nat.beq (nm p.1) 0 with | true => some p.2 | false => look 0 (r.map fun p => (nm p.1, p.2))) = some v := (look_match (p := (nm p.1, p.2))).symm.trans h
    split at h'
    · rename_i q
      have e := Nat.eq_of_beq_eq_true q
      have := Nat.le_of_ble_eq_true ha.1
      omega
    · exact look_zero ha.2 h'
theorem mem_names {y : Str} : ∀ {l : List Str}, memN (nm y) (l.map nm) = true → l.all (fun p => Nat.blt 0 (nm p)) = true → nm y ≠ 0 ∧ y ∈ l
  | [], h, _ => by cases h
  | p :: r, h, ha => by
    rw [List.all_cons, Bool.and_eq_true] at ha
    have h' : (match Nat.beq (nm p) (nm y) with | true => true | false => memN (nm y) (r.map nm)) = true := h
    split at h'
    · rename_i q
      have e := Nat.eq_of_beq_eq_true q
      have h0 : nm p ≠ 0 := by have := Nat.le_of_ble_eq_true ha.1; omega
      have : p = y := nm_inj h0 e
      subst this
      exact ⟨h0, List.mem_cons_self⟩
    · obtain ⟨a, b⟩ := mem_names h' ha.2
      exact ⟨a, List.mem_cons_of_mem _ b⟩
theorem map_same {α β : Type} {f g : α → β} : ∀ {l : List α}, l.map f = l.map g → ∀ x ∈ l, f x = g x
  | [], _, _, h => nomatch h
  | a :: r, e, x, h => by
    rw [List.map_cons, List.map_cons] at e
    obtain ⟨e1, e2⟩ := List.cons.inj e
    rcases List.mem_cons.mp h with rfl | h
    · exact e1
    · exact map_same e2 x h
theorem nth_getD {α : Type} {d v : α} : ∀ {l : List α} {k : Nat}, nth l k = some v → getD d l k = v ∧ k < l.length
  | [], _, h => by cases h
  | x :: r, 0, h => by cases h; exact ⟨rfl, Nat.succ_pos _⟩
  | x :: r, k + 1, h => by
    obtain ⟨a, b⟩ := nth_getD (d := d) (show nth r k = some v from h)
    exact ⟨a, Nat.succ_lt_succ b⟩

/-- a constant's value, the tuples' items told by a table -/
noncomputable def vrB : Nat → AV → Value → Bool
  | 0, _, _ => false
  | n + 1, v, u => match v with
    | .int i => match u with | .int j _ => ibeq i j | _ => false
    | .str cs => match u with | .str x _ => strBeq cs x.cps.toList && strB cs | _ => false
    | .tup vs => match u with
      | .ref a => (match look a tupTab with
        | some ws => dep 8 (.tup vs) && goB (vrB n) vs ws
        | none => false)
      | _ => false
    | _ => false
where
  goB (f : AV → Value → Bool) : List AV → List Value → Bool
    | [], [] => true
    | v :: r, u :: t => f v u && goB f r t
    | _, _ => false
theorem goB_ok {g : G} {W : Wd} {f : AV → Value → Bool} : ∀ {vs : List AV} {ws : List Value}, vrB.goB f vs ws = true → (∀ v u, f v u = true → VR g W v u) → VRs g W vs ws
  | [], [], _, _ => .nil
  | [], _ :: _, h, _ => by cases h
  | _ :: _, [], h, _ => by cases h
  | v :: r, u :: t, h, hf => by
    have h' : (f v u && vrB.goB f r t) = true := h
    rw [Bool.and_eq_true] at h'
    exact .cons (hf _ _ h'.1) (goB_ok h'.2 hf)
theorem look_mem {α : Type} {k : Nat} {v : α} : ∀ {l : List (Nat × α)}, look k l = some v → (k, v) ∈ l
  | [], h => by cases h
  | p :: r, h => by
    have h' : (match Nat.beq p.1 k with | true => some p.2 | false => look k r) = some v := look_match.symm.trans h
    split at h'
    · rename_i q
      first | exact xN h' | exact xS h' | (obtain rfl := x1 h'; clear h') | (obtain ⟨rfl, rfl⟩ := x2 h'; clear h') | (obtain ⟨rfl, rfl, rfl⟩ := x3 h'; clear h') | (exfalso; cases h'; done) | cases h'
      rw [← Nat.eq_of_beq_eq_true q]
      exact List.mem_cons_self
    · exact List.mem_cons_of_mem _ (look_mem h')
theorem vrB_ok {g : G} {W : Wd} (hT : ∀ p ∈ tupTab, g.K.lookup p.1 = some (tupObj p.2 0)) : ∀ {n : Nat} {v : AV} {u : Value}, vrB n v u = true → VR g W v u
  | 0, _, _, h => by cases h
  | n + 1, v, u, h => by
    unfold vrB at h
    split at h
    · split at h
      · rename_i i _ j t
        rw [ibeq_eq, beq_iff_eq] at h
        subst h
        exact .int _ _
      · first | exact xN h | exact xS h | (obtain rfl := x1 h; clear h) | (obtain ⟨rfl, rfl⟩ := x2 h; clear h) | (obtain ⟨rfl, rfl, rfl⟩ := x3 h; clear h) | (exfalso; cases h; done) | cases h
    · split at h
      · rename_i cs _ x t
        rw [Bool.and_eq_true, strBeq_eq, beq_iff_eq] at h
        have : x = ⟨cs.toArray⟩ := by rw [h.1]
        subst this
        exact .str _ _ h.2
      · first | exact xN h | exact xS h | (obtain rfl := x1 h; clear h) | (obtain ⟨rfl, rfl⟩ := x2 h; clear h) | (obtain ⟨rfl, rfl, rfl⟩ := x3 h; clear h) | (exfalso; cases h; done) | cases h
    · split at h
      · split at h
        · rename_i vs _ a _ ws hw
          rw [Bool.and_eq_true] at h
          exact .tup (.inr ⟨0, hT _ (look_mem hw)⟩) (goB_ok h.2 fun v u => vrB_ok hT) h.1
        · first | exact xN h | exact xS h | (obtain rfl := x1 h; clear h) | (obtain ⟨rfl, rfl⟩ := x2 h; clear h) | (obtain ⟨rfl, rfl, rfl⟩ := x3 h; clear h) | (exfalso; cases h; done) | cases h
      · first | exact xN h | exact xS h | (obtain rfl := x1 h; clear h) | (obtain ⟨rfl, rfl⟩ := x2 h; clear h) | (obtain ⟨rfl, rfl, rfl⟩ := x3 h; clear h) | (exfalso; cases h; done) | cases h
    · first | exact xN h | exact xS h | (obtain rfl := x1 h; clear h) | (obtain ⟨rfl, rfl⟩ := x2 h; clear h) | (obtain ⟨rfl, rfl, rfl⟩ := x3 h; clear h) | (exfalso; cases h; done) | cases h
theorem glTab_eq : glTab = glN.map fun p => (nm p.1, p.2) := by kernel_rfl
theorem meth0_eq : meth0 = methN0.map fun p => (nm p.1, p.2) := by kernel_rfl
theorem meth1_eq : meth1 = methN1.map fun p => (nm p.1, p.2) := by kernel_rfl
theorem atr0_eq : atr0 = atrN0.map nm := by kernel_rfl
theorem atr1_eq : atr1 = atrN1.map nm := by kernel_rfl
noncomputable def glB (p : Str × AV) : Bool := Nat.blt 0 (nm p.1) && !(p.1 == ("__debug__" : Str)) && match p.2 with
  | .fn _ | .cls _ => true
  | .bi _ => !(p.1 == ("__name__" : Str))
  | v => vrB 4 v (uOf (nm p.1) v)
theorem glB_all : glN.all glB = true := by decide +kernel
theorem bi_boot : (glN.map fun p => match isBi p.2 with | true => bootBuiltins p.1 | false => none) = glN.map fun p => match p.2 with | .bi k => some (bvA k) | _ => none := by kernel_rfl
theorem meth_pos : methN0.all (fun p => Nat.blt 0 (nm p.1)) = true ∧ methN1.all (fun p => Nat.blt 0 (nm p.1)) = true ∧ methN0.all (fun p => Nat.blt p.2 95) = true ∧ methN1.all (fun p => Nat.blt p.2 95) = true := by decide +kernel
theorem atr_pos : atrN0.all (fun p => Nat.blt 0 (nm p)) = true ∧ atrN1.all (fun p => Nat.blt 0 (nm p)) = true := by decide +kernel
theorem bv_handed : ∀ k, handedIn (bvA k) = true
  | 0 | 1 | 2 | 3 | 4 | 5 | 6 | 7 | 8 | 9 | 10 | 11 => by decide +kernel
  | _ + 12 => by show handedIn (.builtin "len") = true; decide +kernel

/-- a def's parameters and scope, by the tables alone -/
noncomputable def nodupB : List Nat → Bool
  | [] => true
  | a :: r => !(memN a r) && nodupB r
noncomputable def parB (p : Arguments) (f : Fn) : Bool := p.posonlyargs.isEmpty && p.kwonlyargs.isEmpty && p.vararg.isNone && p.kwarg.isNone && strBeq (p.args.map fun a => nm a.arg) f.params && nodupB f.params &&
  p.args.all (fun a => okName a.arg && match f.scope.names.lookup a.arg with | some .local => true | some .cell => true | _ => false) && (match f.scope.kind with | .function => true | _ => false) && !f.scope.isCoroutine && !f.scope.isGenerator
noncomputable def scB (f : Fn) : Bool := nodupB (((cellsFrom 0 f.scope.names []).map (·.1)).map nm) && (f.scope.names.all fun p => Nat.blt 0 (nm p.1)) && f.scope.names.all fun p => match p.2 with | .free => false | _ => true
noncomputable def sup56 (f : Fn) : Bool := f.scope.names.all fun p => match p.2 with | .cell => false | .free => Nat.beq (nm p.1) (nmS "__class__") | _ => true
theorem par_all : allK.all (fun k => parB (getD ⟨[], [], none, [], [], none, []⟩ argsTab k) (getD noFn fnTab k) && (Nat.beq k 56 || scB (getD noFn fnTab k))) = true := by decide +kernel
theorem fn_len : fnTab.length = 95 := by decide +kernel
theorem nodup_of : ∀ {l : List Str}, nodupB (l.map nm) = true → l.Nodup
  | [], _ => List.nodup_nil
  | a :: r, h => by
    have h' : (!(memN (nm a) (r.map nm)) && nodupB (r.map nm)) = true := h
    rw [Bool.and_eq_true, Bool.not_eq_true'] at h'
    refine List.nodup_cons.mpr ⟨fun hm => ?_, nodup_of h'.2⟩
    have : ∀ {l : List Str}, a ∈ l → memN (nm a) (l.map nm) = true := by
      intro l
      induction l with
      | nil => intro h; cases h
      | cons b t ih =>
        intro h
        show (match Nat.beq (nm b) (nm a) with | true => true | false => memN (nm a) (t.map nm)) = true
        rcases List.mem_cons.mp h with rfl | h
        · rw [Nat.beq_refl]
        · split
          · rfl
          · exact ih h
    rw [this hm] at h'
    cases h'.1
section
variable {g : G} {C : Cfg}
/-- what is known of the written part -/
structure KOk (g : G) : Prop where
  see : kview g.K = kgood
  fa : g.fa = faA
  ca : g.ca = caA
  bv : g.bv = bvA
  prog : g.prog = PySem.Challenge.pw_rg0219_01
theorem KOk.gl (h : KOk g) : ∀ p ∈ glN, nsIn g.K mainGlobals p.1 = glExp p := map_same (congrArg (·.1) h.see)
theorem KOk.no (h : KOk g) : ∀ y ∈ noNames, nsIn g.K mainGlobals y = some none := map_same (congrArg (·.2.1) h.see)
theorem KOk.tup (h : KOk g) : ∀ p ∈ tupTab, g.K.lookup p.1 = some (tupObj p.2 0) := map_same (congrArg (·.2.2.1) h.see)
theorem KOk.m0 (h : KOk g) : ∀ p ∈ methN0, findIn g.K (.ref 838) p.1 = some (some (.ref (faA p.2))) := map_same (congrArg (·.2.2.2.1) h.see)
theorem KOk.m1 (h : KOk g) : ∀ p ∈ methN1, findIn g.K (.ref 921) p.1 = some (some (.ref (faA p.2))) := map_same (congrArg (·.2.2.2.2.1) h.see)
theorem KOk.a0 (h : KOk g) : ∀ p ∈ atrN0, findIn g.K (.ref 838) p = some none := map_same (congrArg (·.2.2.2.2.2.1) h.see)
theorem KOk.a1 (h : KOk g) : ∀ p ∈ atrN1, findIn g.K (.ref 921) p = some none := map_same (congrArg (·.2.2.2.2.2.2.1) h.see)
theorem KOk.cl (h : KOk g) : ∀ c ∈ [838, 921], (findIn g.K (.ref c) "__getattribute__", findIn g.K (.ref c) "__getattr__", findIn g.K (.ref c) "__setattr__", plainOver g.K c, hasDictIn g.K c, makesIn g.K c, keepIn g.K (.ref c)) =
    (some (some (.builtin "object.__getattribute__")), some none, some (some (.builtin "object.__setattr__")), true, true, true, true) := map_same (congrArg (·.2.2.2.2.2.2.2.1) h.see)
theorem KOk.fn (h : KOk g) : ∀ k ∈ allK, fnView g.K (faA k) = fnExp k := map_same (congrArg (·.2.2.2.2.2.2.2.2.1) h.see)
theorem KOk.rest (h : KOk g) : (codeOf g.K 737, fieldOf g.K 736 2, g.K.lookup 725, (clsIn g.K 838).isSome, mroIn g.K 838 (.ref 838), nsIn g.K cStatics "thirdparty.any", ks_superIn g.K 838 838 "__init__", (g.K.lookup sysModules).isSome) =
    (some (.ref 736), some (.str "/claim/cut.py" 1139), some { cls := .type "cell", data := .cell (some (.ref 838)) }, true, some true, some none, some (some (.ref 319)), true) := congrArg (·.2.2.2.2.2.2.2.2.2) h.see
theorem ca_mem (c : Nat) : caA c ∈ [838, 921] := by
  cases c with
  | zero => exact List.mem_cons_self
  | succ c => exact List.mem_cons_of_mem _ List.mem_cons_self
theorem fnView_of {K : Frag} {a : Addr} {params : Arguments} {body : List Stmt} {scope : Scope} {cl : List (Str × Addr)} (h : fnView K a = some (.type "function", true, params, .stmts body, scope, mainGlobals, cl, .none, builtinsNs)) :
    ∃ name qual kV doc pm an cdv ct od osl, K.lookup a = some ⟨.type "function", od, .func (fnX name qual params body scope cl .none kV doc pm an cdv ct), osl⟩ ∧ codeIn K cdv qual = true ∧ codeOf K a = some cdv := by
  unfold fnView at h
  split at h
  · rename_i oc od fd osl hl
    have e := Option.some.inj h
    obtain ⟨e1, e⟩ := Prod.mk.inj e
    obtain ⟨e2, e⟩ := Prod.mk.inj e
    obtain ⟨e3, e⟩ := Prod.mk.inj e
    obtain ⟨e4, e⟩ := Prod.mk.inj e
    obtain ⟨e5, e⟩ := Prod.mk.inj e
    obtain ⟨e6, e⟩ := Prod.mk.inj e
    obtain ⟨e7, e⟩ := Prod.mk.inj e
    obtain ⟨e8, e9⟩ := Prod.mk.inj e
    obtain ⟨name, qual, params', body', scope', gl, cl', dV, kV, doc, pm, an, cdv, ct, bl⟩ := fd
    dsimp only at e2 e3 e4 e5 e6 e7 e8 e9
    subst e1 e3 e4 e5 e6 e7 e8 e9
    refine ⟨name, qual, kV, doc, pm, an, cdv, ct, od, osl, hl, e2, ?_⟩
    unfold codeOf
    rw [hl]
  · first | exact xN h | exact xS h | (obtain rfl := x1 h; clear h) | (obtain ⟨rfl, rfl⟩ := x2 h; clear h) | (obtain ⟨rfl, rfl, rfl⟩ := x3 h; clear h) | (exfalso; cases h; done) | cases h
theorem allK_mem {k : Nat} (h : k < 95) : k ∈ allK := List.mem_range.mpr h
theorem fnAt_of (O : KOk g) {k : Nat} {f : Fn} (hf : nth fnTab k = some f) : ∃ qual cdv, FnAt g k f (closA k) qual (getD ⟨[], [], none, [], [], none, []⟩ argsTab k) cdv ∧ codeOf g.K (faA k) = some cdv := by
  obtain ⟨h1, h2⟩ := nth_getD (d := noFn) hf
  rw [fn_len] at h2
  have hv := O.fn k (allK_mem h2)
  unfold fnExp at hv
  rw [h1] at hv
  obtain ⟨name, qual, kV, doc, pm, an, cdv, ct, od, osl, h3, h4, h5⟩ := fnView_of hv
  have hp := List.all_eq_true.mp par_all k (allK_mem h2)
  rw [h1, Bool.and_eq_true] at hp
  have hp1 := hp.1
  unfold parB at hp1
  generalize getD (⟨[], [], none, [], [], none, []⟩ : Arguments) argsTab k = P at hp1 h3 ⊢
  simp only [Bool.and_eq_true, List.isEmpty_iff, Option.isNone_iff_eq_none, Bool.not_eq_true'] at hp1
  obtain ⟨⟨⟨⟨⟨⟨⟨⟨⟨q1, q2⟩, q3⟩, q4⟩, q5⟩, q6⟩, q7⟩, q8⟩, q9⟩, q10⟩ := hp1
  rw [strBeq_eq, beq_iff_eq] at q5
  have q5' : (P.args.map (·.arg)).map nm = f.params := by rw [← q5, List.map_map]; rfl
  refine ⟨qual, cdv, ⟨⟨name, kV, doc, pm, an, ct, _, od, osl, by rw [O.fa]; exact h3⟩, h4, q1, q2, q3, q4, q5', nodup_of (by rw [q5']; exact q6), fun y hy => ?_, ?_, q10.symm ▸ q9, q10⟩, h5⟩
  · obtain ⟨a, ha, rfl⟩ := List.mem_map.mp hy
    have := List.all_eq_true.mp q7 a ha
    rw [Bool.and_eq_true] at this
    refine ⟨okName_ok this.1, ?_⟩
    have h := this.2
    split at h
    · rename_i z; exact .inl z
    · rename_i z; exact .inr z
    · first | exact xN h | exact xS h | (obtain rfl := x1 h; clear h) | (obtain ⟨rfl, rfl⟩ := x2 h; clear h) | (obtain ⟨rfl, rfl, rfl⟩ := x3 h; clear h) | (exfalso; cases h; done) | cases h
  · split at q8
    · rename_i z; exact z
    · first | exact xN q8 | exact xS q8 | (obtain rfl := x1 q8; clear q8) | (obtain ⟨rfl, rfl⟩ := x2 q8; clear q8) | (obtain ⟨rfl, rfl, rfl⟩ := x3 q8; clear q8) | (exfalso; cases q8; done) | cases q8
theorem sup_at (O : KOk g) {f : Fn} (hf : nth fnTab 56 = some f) : ∃ qual params cda cell D ar, SupAt g 56 0 24 f qual params cda cell D ar := by
  obtain ⟨qual, cdv, D, hc⟩ := fnAt_of O hf
  obtain ⟨h1, _⟩ := nth_getD (d := noFn) hf
  obtain ⟨r1, r⟩ := Prod.mk.inj O.rest
  obtain ⟨r2, r⟩ := Prod.mk.inj r
  obtain ⟨r3, r⟩ := Prod.mk.inj r
  obtain ⟨r4, r⟩ := Prod.mk.inj r
  obtain ⟨r5, r⟩ := Prod.mk.inj r
  obtain ⟨r6, r⟩ := Prod.mk.inj r
  obtain ⟨r7, _⟩ := Prod.mk.inj r
  have e0 : faA 56 = 737 := rfl
  rw [e0, r1] at hc
  first | exact xN hc | exact xS hc | (obtain rfl := x1 hc; clear hc) | (obtain ⟨rfl, rfl⟩ := x2 hc; clear hc) | (obtain ⟨rfl, rfl, rfl⟩ := x3 hc; clear hc) | (exfalso; cases hc; done) | cases hc
  have s56 : sup56 (getD noFn fnTab 56) = true := by decide +kernel
  rw [h1] at s56
  have s56 := List.all_eq_true.mp s56
  have hb : ∃ p0 p1 ap cp ep rest, (getD noFn fnTab 56).body = .Expr (.Call (.Attribute (.Call (.Name "super" p0) [] [] p1) "__init__" ap) [] [] cp) ep :: rest ∧ (ap.endLine == cp.line) = true := ⟨_, _, _, _, _, _, rfl, rfl⟩
  have ho : ∃ ar, (getD (⟨[], [], none, [], [], none, []⟩ : Arguments) argsTab 56).args = [ar] := ⟨_, rfl⟩
  have hks : (getD noFn fnTab 56).scope.names.lookup ("super" : Str) = some .globalImplicit := by kernel_rfl
  have hkc : (getD noFn fnTab 56).scope.names.lookup ("__class__" : Str) = some .free := by kernel_rfl
  have htop : (PySem.Challenge.pw_rg0219_01.main.scope.names.lookup ("super" : Str)).isSome = false := by kernel_rfl
  have hfile : ((PySem.Challenge.pw_rg0219_01.main.file : Str) == ("/claim/cut.py" : Str)) = true := by kernel_rfl
  rw [h1] at hb hks hkc
  obtain ⟨ar, ho⟩ := ho
  have hca : g.ca 0 = 838 := by rw [O.ca]; rfl
  refine ⟨qual, _, 736, 725, 838, ar, { fn := D, nc := fun p hp z => ?_, fr := fun p hp z => ?_, one := ho, body := hb, code := ?_, cellv := ⟨_, _, _, r3⟩, hD := Option.isSome_iff_exists.mp r4, sub := by rw [hca]; exact r5, sup := O.no _ (by unfold noNames; simp), ks := hks, kc := hkc, top := by rw [O.prog]; exact htop, boot := by kernel_rfl, opq := r6, hm := by rw [hca, r7, O.fa]; rfl, fn2 := ?_ }⟩
  · have := s56 p hp
    rw [z] at this
    first | exact xN this | exact xS this | (obtain rfl := x1 this; clear this) | (obtain ⟨rfl, rfl⟩ := x2 this; clear this) | (obtain ⟨rfl, rfl, rfl⟩ := x3 this; clear this) | (exfalso; cases this; done) | cases this
  · have := s56 p hp
    rw [z] at this
    have e := Nat.eq_of_beq_eq_true this
    exact nm_inj (by rw [e]; decide +kernel) e
  · unfold fieldOf at r2
    split at r2
    · rename_i c d vs sl hl
      exact ⟨c, d, vs, sl, _, _, hl, r2, by rw [O.prog]; exact hfile⟩
    · first | exact xN r2 | exact xS r2 | (obtain rfl := x1 r2; clear r2) | (obtain ⟨rfl, rfl⟩ := x2 r2; clear r2) | (obtain ⟨rfl, rfl, rfl⟩ := x3 r2; clear r2) | (exfalso; cases r2; done) | cases r2
  · have hv := O.fn 24 (allK_mem (by decide))
    obtain ⟨name, qual, kV, doc, pm, an, cdv, ct, od, osl, h3, _⟩ := fnView_of hv
    exact ⟨_, _, _, _, by rw [O.fa]; exact h3, rfl⟩
end
end Mine

set_option maxRecDepth 100000
namespace Mine
open PySem PySem.W PySem.Calls PySem.Spec PyProof.Rows
structure Same (C : Cfg) : Prop where
  gl : C.gl = glTab
  fns : C.fns = fnTab
  mth : C.mth = cfg.mth
  atr : C.atr = cfg.atr
  ini : C.ini = cfg.ini
  sup : C.sup = cfg.sup
section
variable {g : G} {C : Cfg} {B : Nat}
theorem fn_type (O : KOk g) {k : Nat} (hk : k < 95) : typeIn g.K (.ref (g.fa k)) = some (.type "function") ∧ keepIn g.K (.ref (g.fa k)) = true := by
  obtain ⟨name, qual, kV, doc, pm, an, cdv, ct, od, osl, h3, _⟩ := fnView_of (O.fn k (allK_mem hk))
  rw [O.fa]
  constructor
  · show (g.K.lookup (faA k)).map (·.cls) = _
    rw [h3]; rfl
  · unfold keepIn
    dsimp only
    rw [h3]
theorem mth_ok (O : KOk g) (c : Nat) (y : Str) (k : Nat) (h : look (nm y) (cfg.mth c) = some k) : nm y ≠ 0 ∧ findIn g.K (.ref (g.ca c)) y = some (some (.ref (g.fa k))) ∧ k < 95 := by
  rw [O.ca, O.fa]
  cases c with
  | zero =>
    have h' : look (nm y) meth0 = some k := h
    rw [meth0_eq] at h'
    have hy : nm y ≠ 0 := fun z => look_zero meth_pos.1 (z ▸ h')
    have hm := look_names h' hy
    exact ⟨hy, O.m0 _ hm, Nat.le_of_ble_eq_true (List.all_eq_true.mp meth_pos.2.2.1 _ hm)⟩
  | succ c =>
    have h' : look (nm y) meth1 = some k := h
    rw [meth1_eq] at h'
    have hy : nm y ≠ 0 := fun z => look_zero meth_pos.2.1 (z ▸ h')
    have hm := look_names h' hy
    exact ⟨hy, O.m1 _ hm, Nat.le_of_ble_eq_true (List.all_eq_true.mp meth_pos.2.2.2 _ hm)⟩
theorem atr_okk (O : KOk g) (c : Nat) (y : Str) (h : memN (nm y) (cfg.atr c) = true) : nm y ≠ 0 ∧ findIn g.K (.ref (g.ca c)) y = some none := by
  rw [O.ca]
  cases c with
  | zero =>
    have h' : memN (nm y) atr0 = true := h
    rw [atr0_eq] at h'
    obtain ⟨a, b⟩ := mem_names h' atr_pos.1
    exact ⟨a, O.a0 _ b⟩
  | succ c =>
    have h' : memN (nm y) atr1 = true := h
    rw [atr1_eq] at h'
    obtain ⟨a, b⟩ := mem_names h' atr_pos.2
    exact ⟨a, O.a1 _ b⟩
theorem gl_ok (O : KOk g) (y : Str) (v : AV) (hy : nm y ≠ 0) (h : look (nm y) glTab = some v) : (y == ("__debug__" : Str)) = false ∧ ∃ u, (∀ W, VR g W v u) ∧ (nsIn g.K mainGlobals y = some (some u) ∨ (nsIn g.K mainGlobals y = some none ∧ bootBuiltins y = some u ∧ y ≠ "__name__")) := by
  rw [glTab_eq] at h
  have hm := look_names h hy
  have hB := List.all_eq_true.mp glB_all _ hm
  have hK := O.gl _ hm
  unfold glB at hB
  rw [Bool.and_eq_true, Bool.and_eq_true, Bool.not_eq_true'] at hB
  obtain ⟨⟨_, hd⟩, hB⟩ := hB
  have bi := map_same bi_boot _ hm
  unfold glExp at hK
  dsimp only at hK hB bi hd
  have plain : isBi v = false → (∀ W, VR g W v (uOf (nm y) v)) → ∃ u, (∀ W, VR g W v u) ∧ (nsIn g.K mainGlobals y = some (some u) ∨ (nsIn g.K mainGlobals y = some none ∧ bootBuiltins y = some u ∧ y ≠ "__name__")) := fun hb hv => by
    rw [hb] at hK
    exact ⟨_, hv, .inl hK⟩
  refine ⟨hd, ?_⟩
  cases v with
  | fn k =>
    refine plain rfl fun W => ?_
    have : uOf (nm y) (.fn k) = .ref (g.fa k) := by rw [O.fa]; rfl
    rw [this]; exact .fn k
  | cls c =>
    refine plain rfl fun W => ?_
    have : uOf (nm y) (.cls c) = .ref (g.ca c) := by rw [O.ca]; rfl
    rw [this]; exact .cls c
  | bi k =>
    refine ⟨g.bv k, fun W => .bi k, .inr ⟨hK, ?_, ?_⟩⟩
    · rw [O.bv]; exact bi
    · have : (!(y == ("__name__" : Str))) = true := hB
      simpa using this
  | _ => exact plain rfl fun W => vrB_ok O.tup hB
theorem okF (O : KOk g) (S : Same C) (V : OkV C g) (hc : ∀ x k as H v H', CxOk g x B → C.hcall k as H = some (v, H') → ClOk g x k as H v H') : OkF C g B where
  toOkV := V
  gl0 := by rw [S.gl, glTab_eq]; exact Option.eq_none_iff_forall_ne_some.mpr fun v h => look_zero (by have := glB_all; rw [List.all_eq_true] at this ⊢; intro p hp; have := this p hp; unfold glB at this; rw [Bool.and_eq_true, Bool.and_eq_true] at this; exact this.1.1) h
  gl := fun y v hy h => gl_ok O y v hy (by rw [← S.gl]; exact h)
  hga := fun c => by rw [O.ca]; exact (Prod.mk.inj (O.cl _ (ca_mem c))).1
  hgt := fun c => by rw [O.ca]; exact (Prod.mk.inj (Prod.mk.inj (O.cl _ (ca_mem c))).2).1
  hst := fun c => by rw [O.ca]; exact (Prod.mk.inj (Prod.mk.inj (Prod.mk.inj (O.cl _ (ca_mem c))).2).2).1
  po := fun c => by rw [O.ca]; exact (Prod.mk.inj (Prod.mk.inj (Prod.mk.inj (Prod.mk.inj (O.cl _ (ca_mem c))).2).2).2).1
  hdi := fun c => by rw [O.ca]; exact (Prod.mk.inj (Prod.mk.inj (Prod.mk.inj (Prod.mk.inj (Prod.mk.inj (O.cl _ (ca_mem c))).2).2).2).2).1
  atr := fun c y h => atr_okk O c y (by rw [← S.atr]; exact h)
  mth := fun c y k h => by
    obtain ⟨a, b, d⟩ := mth_ok O c y k (by rw [← S.mth]; exact h)
    exact ⟨a, b, (fn_type O d).1⟩
  bvh := fun k => by rw [O.bv]; exact bv_handed k
  kfn := fun k f h => (fn_type O (by have := (nth_getD (d := noFn) (show nth fnTab k = some f by rw [← S.fns]; exact h)).2; rw [fn_len] at this; exact this)).2
  kcl := fun c => by rw [O.ca]; exact (Prod.mk.inj (Prod.mk.inj (Prod.mk.inj (Prod.mk.inj (Prod.mk.inj (Prod.mk.inj (O.cl _ (ca_mem c))).2).2).2).2).2).2
  mak := fun c k h => by
    have hm : makesIn g.K (g.ca c) = true := by rw [O.ca]; exact (Prod.mk.inj (Prod.mk.inj (Prod.mk.inj (Prod.mk.inj (Prod.mk.inj (Prod.mk.inj (O.cl _ (ca_mem c))).2).2).2).2).2).1
    have h' : cfg.ini c = some k := by rw [← S.ini]; exact h
    match c, h' with
    | 0, h' =>
      first | exact xN h' | exact xS h' | (obtain rfl := x1 h'; clear h') | (obtain ⟨rfl, rfl⟩ := x2 h'; clear h') | (obtain ⟨rfl, rfl, rfl⟩ := x3 h'; clear h') | (exfalso; cases h'; done) | cases h'
      obtain ⟨_, b, d⟩ := mth_ok O 0 "__init__" 56 (by decide +kernel)
      exact ⟨hm, b, (fn_type O d).1⟩
    | 1, h' =>
      first | exact xN h' | exact xS h' | (obtain rfl := x1 h'; clear h') | (obtain ⟨rfl, rfl⟩ := x2 h'; clear h') | (obtain ⟨rfl, rfl, rfl⟩ := x3 h'; clear h') | (exfalso; cases h'; done) | cases h'
      obtain ⟨_, b, d⟩ := mth_ok O 1 "__init__" 70 (by decide +kernel)
      exact ⟨hm, b, (fn_type O d).1⟩
    | _ + 2, h' => cases h'
  itn := ⟨O.no _ (by unfold noNames; simp), O.no _ (by unfold noNames; simp), O.no _ (by unfold noNames; simp)⟩
  bvs := by rw [O.bv]; rfl
  fnk := fun k f h hs => by
    have h' : nth fnTab k = some f := by rw [← S.fns]; exact h
    have hs' : cfg.sup k = none := by rw [← S.sup]; exact hs
    have hk : Nat.beq k 56 = false := by
      cases q : Nat.beq k 56 with
      | false => rfl
      | true =>
        have := Nat.eq_of_beq_eq_true q
        subst this
        first | exact xN hs' | exact xS hs' | (obtain rfl := x1 hs'; clear hs') | (obtain ⟨rfl, rfl⟩ := x2 hs'; clear hs') | (obtain ⟨rfl, rfl, rfl⟩ := x3 hs'; clear hs') | (exfalso; cases hs'; done) | cases hs'
    obtain ⟨h1, h2⟩ := nth_getD (d := noFn) h'
    rw [fn_len] at h2
    obtain ⟨qual, cdv, D, _⟩ := fnAt_of O h'
    have hp := List.all_eq_true.mp par_all k (allK_mem h2)
    rw [Bool.and_eq_true, hk, Bool.false_or, h1] at hp
    have hp2 := hp.2
    unfold scB at hp2
    rw [Bool.and_eq_true, Bool.and_eq_true] at hp2
    unfold closA at D
    rw [hk] at D
    refine ⟨qual, _, cdv, D, nodup_of hp2.1.1, fun p hp z => ?_⟩
    have := List.all_eq_true.mp hp2.2 p hp
    rw [z] at this
    first | exact xN this | exact xS this | (obtain rfl := x1 this; clear this) | (obtain ⟨rfl, rfl⟩ := x2 this; clear this) | (obtain ⟨rfl, rfl, rfl⟩ := x3 this; clear this) | (exfalso; cases this; done) | cases this
  spk := fun k f q h hs => by
    have h' : nth fnTab k = some f := by rw [← S.fns]; exact h
    have hs' : cfg.sup k = some q := by rw [← S.sup]; exact hs
    have hs2 : (match Nat.beq k 56 with | true => some ((0, 24) : Nat × Nat) | false => none) = some q := hs'
    split at hs2
    · rename_i z
      have := Nat.eq_of_beq_eq_true z
      subst this
      first | exact xN hs2 | exact xS hs2 | (obtain rfl := x1 hs2; clear hs2) | (obtain ⟨rfl, rfl⟩ := x2 hs2; clear hs2) | (obtain ⟨rfl, rfl, rfl⟩ := x3 hs2; clear hs2) | (exfalso; cases hs2; done) | cases hs2
      exact sup_at O h'
    · first | exact xN hs2 | exact xS hs2 | (obtain rfl := x1 hs2; clear hs2) | (obtain ⟨rfl, rfl⟩ := x2 hs2; clear hs2) | (obtain ⟨rfl, rfl, rfl⟩ := x3 hs2; clear hs2) | (exfalso; cases hs2; done) | cases hs2
  hc := hc
end
end Mine

set_option maxRecDepth 100000
namespace Mine
open PySem PySem.W PySem.Calls PySem.Spec PyProof.Rows

/-! ## the law's draws and what the letters stand for -/
noncomputable def cellAt (ns : List Int) (i : Nat) : Int := (((ns.take 20)[i]?).getD (11 * i * i + 4 * i + 3)).fmod 1000003
noncomputable def wideN (ns : List Int) : Nat := (1 + (cellAt ns 0).fmod 69).toNat
noncomputable def otherN (ns : List Int) : Nat := ((wideN ns : Int) + 1 + (cellAt ns 1).fmod (70 - (wideN ns : Int))).toNat
theorem fmod_range (a : Int) {m : Int} (h : 0 < m) : 0 ≤ a.fmod m ∧ a.fmod m < m := ⟨Int.fmod_nonneg_of_pos a h, Int.fmod_lt_of_pos a h⟩
theorem wide_range (ns : List Int) : 1 ≤ wideN ns ∧ wideN ns ≤ 69 ∧ (wideN ns : Int) = 1 + (cellAt ns 0).fmod 69 := by
  have := fmod_range (cellAt ns 0) (m := 69) (by decide)
  unfold wideN
  omega
theorem other_range (ns : List Int) : wideN ns + 1 ≤ otherN ns ∧ otherN ns ≤ 70 ∧ (otherN ns : Int) = (wideN ns : Int) + 1 + (cellAt ns 1).fmod (70 - (wideN ns : Int)) := by
  obtain ⟨h1, h2, _⟩ := wide_range ns
  have := fmod_range (cellAt ns 1) (m := 70 - (wideN ns : Int)) (by omega)
  unfold otherN
  omega
noncomputable def drawN (ns : List Int) (i : Nat) : Nat := ((cellAt ns i).fmod 5).toNat
theorem draw_range (ns : List Int) (i : Nat) : drawN ns i < 5 ∧ (drawN ns i : Int) = (cellAt ns i).fmod 5 := by
  have := fmod_range (cellAt ns i) (m := 5) (by decide)
  unfold drawN
  omega
noncomputable def zeros (k : Nat) : Str := ⟨(List.replicate k (#[48] : Array Nat)).foldl (· ++ ·) #[]⟩
noncomputable def bitsS (k : Nat) : Str := (⟨[35, 98].toArray⟩ : Str) ++ zeros k
noncomputable def titA (i : Nat) : Str := ⟨(getD [] (titL.map (·.1)) i).toArray⟩
noncomputable def titB (i : Nat) : Str := ⟨(getD [] (titL.map (·.2)) i).toArray⟩
noncomputable def rhoOf (ns : List Int) : Nat → Int
  | 0 => .ofNat (wideN ns)
  | 1 => .ofNat (otherN ns)
  | 2 => .ofNat (1 <<< wideN ns)
  | 3 => .ofNat (1 <<< wideN ns - 1)
  | 4 => .ofNat (1 <<< otherN ns)
  | 5 => .ofNat (1 <<< otherN ns - 1)
  | 10 => (cellAt ns 0).fmod 69
  | 11 => (cellAt ns 1).fmod (70 - (wideN ns : Int))
  | 12 => .ofNat (drawN ns 2)
  | 13 => .ofNat (drawN ns 3)
  | 14 => 70 - (wideN ns : Int)
  | 15 => (wideN ns : Int) + 1
  | _ => 0
noncomputable def sigOf (ns : List Int) : Nat → Str
  | 0 => zeros (wideN ns)
  | 1 => bitsS (wideN ns)
  | 2 => zeros (otherN ns)
  | 3 => bitsS (otherN ns)
  | 4 => Str.ofString (toString (Int.ofNat (wideN ns)))
  | 5 => Str.ofString (toString (Int.ofNat (otherN ns)))
  | 6 => titA (drawN ns 2)
  | 7 => titB (drawN ns 2)
  | 8 => titA (drawN ns 3)
  | 9 => titB (drawN ns 3)
  | _ => Str.empty
noncomputable def theG (w : World) (K : Frag) (la : Addr) (ws : List Value) (n : Nat) (ns : List Int) : G where
  prog := PySem.Challenge.pw_rg0219_01
  w := w
  K := K
  rho := rhoOf ns
  sig := sigOf ns
  fa := faA
  ca := caA
  bv := bvA
  xt := fun k => match k with | 0 => ns | _ => ns.take 20
  sc := (la, ws, n)
noncomputable def okS (x : Str) : Bool := PyData.strOk x && Nat.ble x.length 100
theorem fold48 : ∀ (k : Nat) (b : Array Nat), ((List.replicate k (#[48] : Array Nat)).foldl (· ++ ·) b).toList = b.toList ++ List.replicate k 48
  | 0, b => by simp
  | k + 1, b => by rw [List.replicate_succ, List.foldl_cons, fold48 k, List.replicate_succ]; simp
theorem zeros_eq (k : Nat) : zeros k = ⟨(List.replicate k 48).toArray⟩ := by
  unfold zeros
  rw [← Array.toArray_toList (xs := (List.replicate k (#[48] : Array Nat)).foldl (· ++ ·) #[]), fold48]
  rfl
theorem bits_eq (k : Nat) : bitsS k = ⟨(35 :: 98 :: List.replicate k 48).toArray⟩ := by
  unfold bitsS
  rw [zeros_eq]
  show (⟨[35, 98].toArray ++ (List.replicate k 48).toArray⟩ : Str) = _
  simp
theorem all_lt {l : List Nat} (h : ∀ c ∈ l, c < 1114112) (hl : l.length ≤ 100) : okS ⟨l.toArray⟩ = true := by
  unfold okS PyData.strOk
  rw [Bool.and_eq_true, ← Array.all_toList, List.all_eq_true]
  exact ⟨fun c hc => decide_eq_true (h c hc), Nat.ble_eq_true_of_le (by simpa [Str.length] using hl)⟩
theorem zeros_small {k : Nat} (h : k ≤ 70) : okS (zeros k) = true := by
  rw [zeros_eq]
  exact all_lt (fun c hc => by rw [List.eq_of_mem_replicate hc]; decide) (by rw [List.length_replicate]; omega)
theorem bits_small {k : Nat} (h : k ≤ 70) : okS (bitsS k) = true := by
  rw [bits_eq]
  refine all_lt (fun c hc => ?_) (by simp; omega)
  rcases List.mem_cons.mp hc with rfl | hc
  · decide
  · rcases List.mem_cons.mp hc with rfl | hc
    · decide
    · rw [List.eq_of_mem_replicate hc]; decide
theorem sig_small : ((List.range 71).all fun k => okS (Str.ofString (toString (Int.ofNat k)))) = true := by decide +kernel
theorem tit_small : ((List.range 5).all fun k => okS (titA k) && okS (titB k)) = true := by decide +kernel
theorem sig_ok (ns : List Int) (k : Nat) : PyData.strOk (sigOf ns k) = true ∧ (sigOf ns k).length ≤ 100 := by
  have main : okS (sigOf ns k) = true := by
    obtain ⟨h1, h2, _⟩ := wide_range ns
    obtain ⟨h3, h4, _⟩ := other_range ns
    have a := List.all_eq_true.mp sig_small (wideN ns) (List.mem_range.mpr (by omega))
    have b := List.all_eq_true.mp sig_small (otherN ns) (List.mem_range.mpr (by omega))
    have c := List.all_eq_true.mp tit_small (drawN ns 2) (List.mem_range.mpr (draw_range ns 2).1)
    have d := List.all_eq_true.mp tit_small (drawN ns 3) (List.mem_range.mpr (draw_range ns 3).1)
    simp only [Bool.and_eq_true] at c d
    unfold sigOf
    split
    · exact zeros_small (by omega)
    · exact bits_small (by omega)
    · exact zeros_small h4
    · exact bits_small h4
    · exact a
    · exact b
    · exact c.1
    · exact c.2
    · exact d.1
    · exact d.2
    · decide +kernel
  unfold okS at main
  rw [Bool.and_eq_true] at main
  exact ⟨main.1, Nat.le_of_ble_eq_true main.2⟩
section
variable {w : World} {K : Frag} {la : Addr} {ws : List Value} {n : Nat} {ns : List Int}
theorem int_eq {a b : Nat} (h : a = b) : (Int.ofNat a) = (b : Int) := by rw [h]; rfl
theorem Pt.fits_eq {p : Pt} {a : AV} (h : p.fits a = true) : a = p.av := by
  cases p with
  | i n =>
    cases a <;> first | exact absurd (show false = true from h) Bool.false_ne_true | exact congrArg AV.int (eq_of_beq h).symm
  | k n =>
    cases a <;> first | exact absurd (show false = true from h) Bool.false_ne_true | exact congrArg AV.isym (Nat.eq_of_beq_eq_true h).symm
  | z n =>
    cases a <;> first | exact absurd (show false = true from h) Bool.false_ne_true | exact congrArg AV.ssym (Nat.eq_of_beq_eq_true h).symm
  | t cs =>
    cases a <;> first | exact absurd (show false = true from h) Bool.false_ne_true | exact congrArg AV.str (show cs = _ by have h' : strBeq cs _ = true := h; rw [strBeq_eq, beq_iff_eq] at h'; exact h').symm
theorem findR_all {α : Type} {a b : AV} {v : α} {P : AV → AV → α → Prop} : ∀ {rs : List (Pt × Pt × α)}, findR a b rs = some v → (∀ r ∈ rs, P r.1.av r.2.1.av r.2.2) → P a b v
  | [], e, _ => nomatch e
  | r :: rs, e, hP => by
    unfold findR at e
    cases hq : r.1.fits a && r.2.1.fits b with
    | true =>
      rw [hq] at e
      rw [Bool.and_eq_true] at hq
      have ev := Option.some.inj e
      rw [Pt.fits_eq hq.1, Pt.fits_eq hq.2, ← ev]
      exact hP r List.mem_cons_self
    | false =>
      rw [hq] at e
      exact findR_all e fun r hr => hP r (List.mem_cons_of_mem _ hr)
theorem all1 {α : Type} {P : α → Prop} {a : α} {r : List α} (h : P a) (t : ∀ x ∈ r, P x) : ∀ x ∈ a :: r, P x := List.forall_mem_cons.mpr ⟨h, t⟩
theorem all0 {α : Type} {P : α → Prop} : ∀ x ∈ ([] : List α), P x := fun _ h => nomatch h
theorem shl_ok {k : Nat} : OpI .Sub (Int.ofNat (1 <<< k)) 1 (Int.ofNat (1 <<< k - 1)) := by
  have hp : 1 ≤ 1 <<< k := by rw [Nat.shiftLeft_eq, Nat.one_mul]; exact Nat.one_le_two_pow
  have : (Int.ofNat (1 <<< k - 1)) = (Int.ofNat (1 <<< k)) - 1 := by
    show ((1 <<< k - 1 : Nat) : Int) = ((1 <<< k : Nat) : Int) - 1
    omega
  rw [this]; exact .sub _ _
theorem and_ok0 {k : Nat} : OpI .BitAnd (.ofNat 0) (Int.ofNat k) (.ofNat 0) := by
  have := OpI.and 0 k
  rw [Nat.zero_and] at this
  exact this
theorem bin_valid (op : Operator) (a b v : AV) (e : hbinL op a b = some v) : HintB (theG w K la ws n ns) op a b v := by
  obtain ⟨h1, h2, h3⟩ := wide_range ns
  obtain ⟨h4, h5, h6⟩ := other_range ns
  refine findR_all (P := fun a b v => HintB (theG w K la ws n ns) op a b v) e ?_
  cases op with
  | Add =>
    refine all1 (.int 1 _ _ rfl rfl rfl ?_) (all1 (.int _ 1 _ rfl rfl rfl (.add _ _)) (all1 (.int _ _ _ rfl rfl rfl ?_) (all1 (.cat ⟨[35, 98].toArray⟩ (zeros (wideN ns)) 1 rfl rfl rfl rfl rfl) (all1 (.cat ⟨[35, 98].toArray⟩ (zeros (otherN ns)) 3 rfl rfl rfl rfl rfl) all0))))
    · show OpI .Add 1 ((cellAt ns 0).fmod 69) (Int.ofNat (wideN ns))
      rw [show Int.ofNat (wideN ns) = 1 + (cellAt ns 0).fmod 69 from h3]; exact .add _ _
    · show OpI .Add ((wideN ns : Int) + 1) ((cellAt ns 1).fmod (70 - (wideN ns : Int))) (Int.ofNat (otherN ns))
      rw [show Int.ofNat (otherN ns) = (wideN ns : Int) + 1 + (cellAt ns 1).fmod (70 - (wideN ns : Int)) from h6]; exact .add _ _
  | Sub => exact all1 (.int 70 _ _ rfl rfl rfl (.sub _ _)) (all1 (.int _ 1 _ rfl rfl rfl shl_ok) (all1 (.int _ 1 _ rfl rfl rfl shl_ok) all0))
  | LShift => exact all1 (.int (.ofNat 1) _ _ rfl rfl rfl (.shl 1 (wideN ns) (by omega) (by decide))) (all1 (.int (.ofNat 1) _ _ rfl rfl rfl (.shl 1 (otherN ns) (by omega) (by decide))) all0)
  | BitAnd => exact all1 (.int (.ofNat 0) _ (.ofNat 0) rfl rfl rfl and_ok0) (all1 (.int (.ofNat 0) _ (.ofNat 0) rfl rfl rfl and_ok0) all0)
  | Mult => exact all1 (.rep ⟨[48].toArray⟩ (wideN ns) 0 rfl rfl rfl h1 (by omega) rfl rfl rfl) (all1 (.rep ⟨[48].toArray⟩ (otherN ns) 2 rfl rfl rfl (by omega) (by omega) rfl rfl rfl) all0)
  | _ => exact all0
theorem tupOf_eq {v : AV} {l : List AV} (e : tupOf v = some l) : v = .tup l := by
  cases v <;> first | exact xN e | exact congrArg AV.tup (x1 e).symm
theorem locOf_eq {v : AV} {l : Nat} (e : locOf v = some l) : v = .loc l := by
  cases v <;> first | exact xN e | exact congrArg AV.loc (x1 e).symm
theorem intOf_eq {v : AV} {l : Int} (e : intOf v = some l) : v = .int l := by
  cases v <;> first | exact xN e | exact congrArg AV.int (x1 e).symm
theorem as2_eq {α : Type} {l : List α} {p : α × α} (e : as2 l = some p) : l = [p.1, p.2] := by
  rcases l with _ | ⟨a, _ | ⟨b, _ | ⟨c, l⟩⟩⟩
  · exact xN e
  · exact xN e
  · rw [x1 e]
  · exact xN e
theorem as3_eq {l : List AV} {p : AV × AV × AV} (e : as3 l = some p) : l = [p.1, p.2.1, p.2.2] := by
  cases l with
  | nil => exact xN e
  | cons a r =>
    obtain ⟨q, h1, h2⟩ := optVp e
    rw [x1 h2, as2_eq h1]
theorem isT_eq {cs : List Nat} {a : AV} (h : isT cs a = true) : a = .str cs := Pt.fits_eq (p := .t cs) h
theorem titV_eq {v : AV} {p : List Nat × List Nat} (h : titV v p = true) : v = .tup [.str p.1, .str p.2] := by
  unfold titV at h
  split at h
  · rename_i l hl
    split at h
    · rename_i q hq
      rw [Bool.and_eq_true] at h
      rw [tupOf_eq hl, as2_eq hq, isT_eq h.1, isT_eq h.2]
    · first | exact xN h | exact xS h | (obtain rfl := x1 h; clear h) | (obtain ⟨rfl, rfl⟩ := x2 h; clear h) | (obtain ⟨rfl, rfl, rfl⟩ := x3 h; clear h) | (exfalso; cases h; done) | cases h
  · first | exact xN h | exact xS h | (obtain rfl := x1 h; clear h) | (obtain ⟨rfl, rfl⟩ := x2 h; clear h) | (obtain ⟨rfl, rfl, rfl⟩ := x3 h; clear h) | (exfalso; cases h; done) | cases h
theorem titEq_ok : ∀ {vs : List AV} {ps : List (List Nat × List Nat)}, titEq vs ps = true → vs = ps.map fun p => .tup [.str p.1, .str p.2]
  | [], [], _ => rfl
  | [], _ :: _, h => nomatch h
  | v :: r, [], h => nomatch h
  | v :: r, p :: t, h => by
    have h' : (titV v p && titEq r t) = true := h
    rw [Bool.and_eq_true] at h'
    rw [List.map_cons, titEq_ok h'.2, titV_eq h'.1]
theorem isTitles_eq {v : AV} (h : isTitles v = true) : v = .tup (titL.map fun p => .tup [.str p.1, .str p.2]) := by
  unfold isTitles at h
  split at h
  · rename_i l hl
    rw [tupOf_eq hl, titEq_ok h]
  · first | exact xN h | exact xS h | (obtain rfl := x1 h; clear h) | (obtain ⟨rfl, rfl⟩ := x2 h; clear h) | (obtain ⟨rfl, rfl, rfl⟩ := x3 h; clear h) | (exfalso; cases h; done) | cases h
theorem tit_nth : ∀ i, i < 5 → nth (titL.map fun p => (AV.tup [.str p.1, .str p.2])) i = some (.tup [.str (getD [] (titL.map (·.1)) i), .str (getD [] (titL.map (·.2)) i)])
  | 0, _ | 1, _ | 2, _ | 3, _ | 4, _ => rfl
  | _ + 5, h => by omega
theorem tit_turn {g : G} {i a b : Nat} (ha : g.sig a = titA i) (hb : g.sig b = titB i) (W : Wd) (u : Value) (h : VR g W (.tup [.str (getD [] (titL.map (·.1)) i), .str (getD [] (titL.map (·.2)) i)]) u) : VR g W (.tup [.ssym a, .ssym b]) u := by
  obtain ⟨ad, us, rfl, h1, h2, h3⟩ := h.isT
  obtain ⟨u1, u2, rfl, r1, r2⟩ := h2.n2
  obtain ⟨t1, rfl, _⟩ := r1.isS
  obtain ⟨t2, rfl, _⟩ := r2.isS
  clear r1 r2 h2 h
  · refine .tup h1 (.cons ?_ (.cons ?_ .nil)) rfl
    · have : VR g W (.ssym a) (.str (g.sig a) t1) := .ssym a t1
      rw [ha] at this; exact this
    · have : VR g W (.ssym b) (.str (g.sig b) t2) := .ssym b t2
      rw [hb] at this; exact this
noncomputable def SubP (g : G) (vs : List AV) (i r : AV) : Prop := ∃ (k : Nat) (el : AV), iv g i = some (k : Int) ∧ k < 1000 ∧ nth vs k = some el ∧ ∀ W u, VR g W el u → VR g W r u
theorem sub_row {g : G} {d i a b : Nat} (hd : d < 5) (hi : g.rho i = (d : Int)) (ha : g.sig a = titA d) (hb : g.sig b = titB d) : SubP g (titL.map fun p => .tup [.str p.1, .str p.2]) (.isym i) (.tup [.ssym a, .ssym b]) :=
  ⟨d, _, congrArg some hi, by omega, tit_nth _ hd, fun W u h => tit_turn ha hb W u h⟩
theorem sub_valid (v i r : AV) (e : hsubL v i = some r) : ∃ vs k el, v = .tup vs ∧ iv (theG w K la ws n ns) i = some ((k : Nat) : Int) ∧ k < 1000 ∧ nth vs k = some el ∧ ∀ W u, VR (theG w K la ws n ns) W el u → VR (theG w K la ws n ns) W r u := by
  obtain ⟨ht, e⟩ := bool_inv e
  obtain ⟨k, el, h1, h2, h3, h4⟩ := findR_all (P := fun i _ r => SubP (theG w K la ws n ns) (titL.map fun p => .tup [.str p.1, .str p.2]) i r) e (all1 (sub_row (draw_range ns 2).1 rfl rfl rfl) (all1 (sub_row (draw_range ns 3).1 rfl rfl rfl) all0))
  exact ⟨_, k, el, isTitles_eq ht, h1, h2, h3, h4⟩
noncomputable def FmtP (g : G) (v r : AV) : Prop := ∃ k j, v = .isym k ∧ r = .ssym j ∧ g.sig j = Str.ofString (toString (g.rho k)) ∧ (g.rho k).natAbs < 1000000
theorem fmt_valid (v r : AV) (e : hfmtL v = some r) : ∃ k j, v = .isym k ∧ r = .ssym j ∧ (theG w K la ws n ns).sig j = Str.ofString (toString ((theG w K la ws n ns).rho k)) ∧ ((theG w K la ws n ns).rho k).natAbs < 1000000 := by
  obtain ⟨h1, h2, _⟩ := wide_range ns
  obtain ⟨h3, h4, _⟩ := other_range ns
  exact findR_all (P := fun v _ r => FmtP (theG w K la ws n ns) v r) e (all1 ⟨0, 4, rfl, rfl, rfl, by show wideN ns < 1000000; omega⟩ (all1 ⟨1, 5, rfl, rfl, rfl, by show otherN ns < 1000000; omega⟩ all0))
theorem okV : OkV cfg (theG w K la ws n ns) where
  sig := sig_ok ns
  bin := bin_valid
  sub := sub_valid
  fmt := fmt_valid
  cmp := fun op a b r e => by
    obtain ⟨h1, h2, _⟩ := wide_range ns
    obtain ⟨h3, h4, _⟩ := other_range ns
    have cw : (theG w K la ws n ns).rho 0 = (wideN ns : Int) := rfl
    have co : (theG w K la ws n ns).rho 1 = (otherN ns : Int) := rfl
    refine findR_all (P := fun a b r => ∃ i j, iv (theG w K la ws n ns) a = some i ∧ iv (theG w K la ws n ns) b = some j ∧ cmpI op i j = some r) (rs := cmpRows op) e ?_
    cases op with
    | Lt => exact all1 ⟨_, _, rfl, rfl, by simp only [cmpI, cw, Option.some.injEq]; exact decide_eq_false (by omega)⟩ (all1 ⟨_, _, rfl, rfl, by simp only [cmpI, co, Option.some.injEq]; exact decide_eq_false (by omega)⟩ all0)
    | Gt => exact all1 ⟨_, _, rfl, rfl, by simp only [cmpI, cw, Option.some.injEq]; exact decide_eq_false (by omega)⟩ (all1 ⟨_, _, rfl, rfl, by simp only [cmpI, co, Option.some.injEq]; exact decide_eq_false (by omega)⟩ (all1 ⟨_, _, rfl, rfl, by simp only [cmpI, cw, Option.some.injEq]; exact decide_eq_true (by omega)⟩ (all1 ⟨_, _, rfl, rfl, by simp only [cmpI, co, Option.some.injEq]; exact decide_eq_true (by omega)⟩ all0)))
    | Eq => exact all1 ⟨_, _, rfl, rfl, by simp only [cmpI, cw, Option.some.injEq]; exact beq_eq_false_iff_ne.mpr (by omega)⟩ (all1 ⟨_, _, rfl, rfl, by simp only [cmpI, co, Option.some.injEq]; exact beq_eq_false_iff_ne.mpr (by omega)⟩ (all1 ⟨_, _, rfl, rfl, by simp only [cmpI, cw, co, Option.some.injEq]; exact beq_eq_false_iff_ne.mpr (by omega)⟩ (all1 ⟨_, _, rfl, rfl, by simp only [cmpI, cw, co, Option.some.injEq]; exact beq_eq_false_iff_ne.mpr (by omega)⟩ all0)))
    | GtE => exact all1 ⟨_, _, rfl, rfl, by simp only [cmpI, cw, Option.some.injEq]; exact decide_eq_false (by omega)⟩ (all1 ⟨_, _, rfl, rfl, by simp only [cmpI, co, Option.some.injEq]; exact decide_eq_false (by omega)⟩ all0)
    | _ => exact all0
end
end Mine

set_option maxRecDepth 100000
namespace Mine
open PySem PySem.W PySem.Calls PySem.Spec PyProof.Rows

/-! ## isolated runs: the tables without hints -/
noncomputable def cfg0 : Cfg := { cfg with hbin := fun _ _ _ => none, hcmp := fun _ _ _ => none, hsub := fun _ _ => none, hfmt := fun _ => none, hcall := fun _ _ _ => none }
theorem same0 : Same cfg0 := ⟨rfl, rfl, rfl, rfl, rfl, rfl⟩
theorem same1 : Same cfg := ⟨rfl, rfl, rfl, rfl, rfl, rfl⟩
section
variable {g : G} {x : Cx} {n : Nat} {W : Wd} {l : L} {H H2 : Mine.H} {σ : Sg} {s : Shared} {r : R}
/-- all that the caller holds laid aside -/
theorem St.aside {h : Heap} {led : Led} (S : St g x W l H σ h) (N : News x.h₀ x.L h (led ++ σ.own ++ x.out ++ W.X)) (hm : ∀ p ∈ led, ∃ q ∈ W.mp, q.2 = p.1) : St g (x.plus led) ⟨W.X, []⟩ [] ⟨0, []⟩ σ h where
  F := S.F
  md := S.md
  led := ⟨[], fun p hp => N p (by
    simp only [Cx.plus, List.nil_append, List.mem_append] at hp ⊢
    rcases hp with (a | (b | c)) | d
    · exact .inl (.inl (.inr a))
    · exact .inl (.inl (.inl b))
    · exact .inl (.inr c)
    · exact .inr d), ⟨(fun _ _ e => by cases e), fun _ h => by cases h⟩⟩
  fn := fun _ h => nomatch h
  ap := fun _ h => nomatch h
  nx := fun _ h => nomatch h
  xo := fun p hp q hq => by
    rcases List.mem_append.mp hq with hq | hq
    · exact S.xo p hp q (List.mem_append_left _ hq)
    · rcases List.mem_append.mp hq with hq | hq
      · obtain ⟨m, h1, h2⟩ := hm q hq
        rw [← h2]
        exact S.ap m h1 p (List.mem_append_right _ hp)
      · exact S.xo p hp q (List.mem_append_right _ hq)
  oo := fun p hp q hq => by
    rcases List.mem_append.mp hq with hq | hq
    · obtain ⟨m, h1, h2⟩ := hm q hq
      rw [← h2]
      exact S.ap m h1 p (by simp [hp])
    · exact S.oo p hp q hq
  ce := S.ce
  lr := ⟨rfl, fun _ _ _ e => nomatch e⟩
theorem St.again {h h' : Heap} {led : Led} {W' : Wd} {l' : L} (S : St g x W l H σ h) (hl : LedOk g W H led) (le : W.X ⊆ W'.X) (S' : St g (x.plus led) W' l' H2 σ h') : St g x ⟨W'.X, W.mp⟩ l H σ h' := by
  have le' : W.le ⟨W'.X, W.mp⟩ := ⟨fun p hp => le hp, fun _ h => h⟩
  obtain ⟨led', N', _⟩ := S'.led
  refine { F := S'.F, md := S'.md, led := ⟨led, fun p hp => N' p ?_, fun i ao e => (hl.1 i ao e).mono le' fun p hp _ => hp, hl.2⟩, fn := S.fn, ap := fun q hq p hp => ?_, nx := S.nx, xo := fun p hp q hq => ?_, oo := S.oo, ce := S.ce, lr := S.lr.mono le' }
  · simp only [Cx.plus, List.mem_append] at hp ⊢
    rcases hp with ((a | b) | c) | d
    · exact .inl (.inr (.inl a))
    · exact .inl (.inl (.inr b))
    · exact .inl (.inr (.inr c))
    · exact .inr d
  · rcases List.mem_append.mp hp with hp | hp
    · exact S.ap q hq p (List.mem_append_left _ hp)
    · obtain ⟨o, ho⟩ := hl.2 q hq
      exact S'.xo p hp (q.2, o) (List.mem_append_right _ (List.mem_append_left _ ho))
  · refine S'.xo p hp q ?_
    rcases List.mem_append.mp hq with hq | hq
    · exact List.mem_append_left _ hq
    · exact List.mem_append_right _ (List.mem_append_right _ hq)
/-- a call that needs nothing but its arguments -/
theorem iso_ok (IH : Sound g n r) (c : CxOk g x n) {k : Nat} {as : List AV} {cs : List Nat} (e : r.cl k as ⟨0, []⟩ = some (.str cs, H2)) {R : Result → Shared → Prop} {us : List Value} (S : St g x W l H σ s.heap) (rs : VRs g ⟨W.X, []⟩ as us)
    (hQ : ∀ W' h' tk t, W.le W' → St g x W' l H σ h' → strB cs = true → R (.ok (.ret (.str ⟨cs.toArray⟩ t))) { s with heap := h', toks := tk }) : codeAny (model g.prog g.w) x.A (.call (.ref (g.fa k)) ⟨us, []⟩) R s := by
  obtain ⟨led, N, hl⟩ := S.led
  obtain ⟨led', hl', hsub⟩ := hl.cut
  have N' : News x.h₀ x.L s.heap (led' ++ σ.own ++ x.out ++ W.X) := fun p hp => N p (by
    simp only [List.mem_append] at hp ⊢
    rcases hp with ((a | b) | c) | d
    · exact .inl (.inl (.inl (hsub p a).1))
    · exact .inl (.inl (.inr b))
    · exact .inl (.inr c)
    · exact .inr d)
  refine IH.cl (x.plus led') k as ⟨0, []⟩ _ H2 (c.plus led') e ⟨W.X, []⟩ [] σ s R us (S.aside N' fun p hp => (hsub p hp).2) rs ?_
  intro W' h' tk u le S' ru
  cases ru with
  | str _ t hb => exact hQ ⟨W'.X, W.mp⟩ h' tk t ⟨le.1, fun _ h => h⟩ (S.again hl' (fun p hp => le.1 p hp) S') hb
end
section
variable {w : World} {K : Frag} {la : Addr} {ws : List Value} {m : Nat} {ns : List Int} {x : Cx} {H H' : Mine.H} {v : AV}
theorem okV0 : OkV cfg0 (theG w K la ws m ns) where
  sig := sig_ok ns
  bin := fun _ _ _ _ e => nomatch e
  sub := fun _ _ _ e => nomatch e
  fmt := fun _ _ e => nomatch e
  cmp := fun _ _ _ _ e => nomatch e
theorem kOk (h : kview K = kgood) : KOk (theG w K la ws m ns) := ⟨h, rfl, rfl, rfl, rfl⟩
theorem sound0 (h : kview K = kgood) (f : Nat) : Sound (theG w K la ws m ns) f (run cfg0 f) := by
  have := run_ok (B := 0) (okF (C := cfg0) (kOk (w := w) (la := la) (ws := ws) (m := m) (ns := ns) h) same0 okV0 fun _ _ _ _ _ _ _ e => nomatch e) f
  rwa [Nat.zero_add] at this
theorem bits_run : ((List.range 70).all fun k => match (run cfg0 40).cl idBits [.int 0, .int (.ofNat (k + 1))] ⟨0, []⟩ with
    | some (.str cs, _) => strBeq cs (35 :: 98 :: List.replicate (k + 1) 48)
    | _ => false) = true := by decide +kernel
theorem bits_one {k : Nat} (h1 : 1 ≤ k) (h2 : k ≤ 70) : ∃ H2, (run cfg0 40).cl idBits [.int 0, .int (.ofNat k)] ⟨0, []⟩ = some (.str (35 :: 98 :: List.replicate k 48), H2) := by
  obtain ⟨j, rfl⟩ : ∃ j, k = j + 1 := ⟨k - 1, by omega⟩
  have := List.all_eq_true.mp bits_run j (List.mem_range.mpr (by omega))
  split at this
  · rename_i cs H2 e
    rw [strBeq_eq, beq_iff_eq] at this
    rw [this] at e
    exact ⟨H2, e⟩
  · first | exact xN this | exact xS this | (obtain rfl := x1 this; clear this) | (obtain ⟨rfl, rfl⟩ := x2 this; clear this) | (obtain ⟨rfl, rfl, rfl⟩ := x3 this; clear this) | (exfalso; cases this; done) | cases this
theorem bits_hint (hK : kview K = kgood) {as : List AV} (c : CxOk (theG w K la ws m ns) x 40) (e : bitsL as H = some (v, H')) : ClOk (theG w K la ws m ns) x idBits as H v H' := by
  obtain ⟨h1, h2, _⟩ := wide_range ns
  obtain ⟨h3, h4, _⟩ := other_range ns
  have main : ∀ (a b k : Nat), (theG w K la ws m ns).rho a = .ofNat k → (theG w K la ws m ns).sig b = bitsS k → 1 ≤ k → k ≤ 70 → ClOk (theG w K la ws m ns) x idBits [.int 0, .isym a] H (.ssym b) H := by
    intro a b k ha hb q1 q2 W l σ s R us S rs hQ
    obtain ⟨H2, hr⟩ := bits_one q1 q2
    obtain ⟨u1, u2, rfl, r1, r2⟩ := rs.n2
    refine iso_ok (sound0 hK 40) c hr S (.cons ?_ (.cons ?_ .nil)) fun W' h' tk t le S' _ => hQ W' h' tk _ le S' ?_
    · obtain ⟨t, rfl⟩ := r1.isI; exact .int _ _
    · obtain ⟨t, rfl⟩ := r2.isK; rw [ha]; exact .int _ _
    · rw [← bits_eq, ← hb]; exact .ssym b t
  obtain ⟨p, hp, e⟩ := optVp e
  obtain ⟨q, hq, e⟩ := optV e
  obtain ⟨rfl, rfl⟩ := x2 e
  rw [as2_eq hp]
  exact findR_all (P := fun a b v => ClOk (theG w K la ws m ns) x idBits [a, b] H' v H') hq (all1 (main 0 1 (wideN ns) rfl rfl h1 (by omega)) (all1 (main 1 3 (otherN ns) rfl rfl (by omega) h4) all0))
end
end Mine

set_option maxRecDepth 100000
namespace Mine
open PySem PySem.W PySem.Calls PySem.Spec PyProof.Rows
noncomputable def fnA (k : Nat) : Fn := getD noFn fnTab k
theorem fnA_nth : ∀ k, k < 95 → nth fnTab k = some (fnA k) := fun k h => by
  have e : ∀ {l : List Fn} {k : Nat}, k < l.length → nth l k = some (getD noFn l k) := by
    intro l
    induction l with
    | nil => intro k h; cases h
    | cons a r ih =>
      intro k h
      cases k with
      | zero => rfl
      | succ k => exact ih (Nat.lt_of_succ_lt_succ h)
  exact e (by rw [fn_len]; exact h)
section
variable {w : World} {K : Frag} {la : Addr} {ws : List Value} {m : Nat} {ns : List Int} {x : Cx} {H H' : Mine.H} {v : AV} {n : Nat}
noncomputable abbrev gK (w : World) (K : Frag) (la : Addr) (ws : List Value) (m : Nat) (ns : List Int) : G := theG w K la ws m ns
theorem ok0 (hK : kview K = kgood) : OkF cfg0 (theG w K la ws m ns) 0 := okF (kOk hK) same0 okV0 fun _ _ _ _ _ _ _ e => nomatch e
theorem sort_body : ∃ p1 p2 p3 p4 p5, (fnA 25).body = [.Return (some (.Subscript (.Attribute (.Name "self" p1) "sort_names" p2) (.Name "s" p3) p4)) p5] := ⟨_, _, _, _, _, rfl⟩
theorem sort_name_ok (hK : kview K = kgood) {b i s : Nat} {fs : List (Nat × AV)} {vs : List AV} (c : CxOk (theG w K la ws m ns) x (n + 2)) (hb : H.get b = some (.inst 0 fs)) (hl : look (nmS "sort_names") fs = some (.loc i)) (hi : H.get i = some (.list vs)) (hv : nth vs s = some v) :
    ClOk (theG w K la ws m ns) x 25 [.loc b, .int (.ofNat s)] H v H := by
  have O := ok0 (w := w) (la := la) (ws := ws) (m := m) (ns := ns) hK
  obtain ⟨qual, params, cdv, D, hnc, hfr⟩ := O.fnk 25 (fnA 25) (fnA_nth 25 (by decide)) rfl
  have hp : (fnA 25).params = [nmS "self", nmS "s"] := by kernel_rfl
  refine enter_ok (n := n + 1) (l0 := [(nmS "self", .loc b), (nmS "s", .int (.ofNat s))]) (l' := [(nmS "self", .loc b), (nmS "s", .int (.ofNat s))]) (fl := .ret v) (H1 := H) c D hnc hfr (by rw [hp]; rfl) (fun x' cx hfm hsc => ?_) rfl (fun _ _ h => h) rfl
  obtain ⟨p1, p2, p3, p4, p5, hbody⟩ := sort_body
  rw [hbody]
  have I := sound0 (w := w) (la := la) (ws := ws) (m := m) (ns := ns) hK 1
  have cx1 := cx.le (Nat.le_add_left 1 n)
  intro W σ st Q E S hQ
  refine wpAny_execs_cons (wpAny_Return_some (Subscript_ (Attribute_any_ (I.ev x' (fnA 25).scope (.Name "self" p1) _ H (.loc b) H cx1 hsc (by kernel_rfl) W σ st _ E S fun W1 h1 tk1 u1 le1 S1 r1 => ?_) ?_)))
  · refine attr_ok (C := cfg0) (y := "sort_names") (o := .loc b) (v := .loc i) (s := { st with heap := h1, toks := tk1 }) O.toOkG cx S1 ?_ r1 fun tk2 u2 r2 => ?_
    · unfold attrV
      dsimp only
      rw [hb]
      dsimp only
      have hm : memN (nm ("sort_names" : Str)) (cfg0.atr 0) = true := by decide +kernel
      rw [hm]
      exact hl
    · refine I.ev x' (fnA 25).scope (.Name "s" p3) _ H (.int (.ofNat s)) H cx1 hsc (by kernel_rfl) W1 σ { st with heap := h1, toks := tk2 } _ E S1 fun W3 h3 tk3 u3 le3 S3 r3 => ?_
      refine sub_ok (C := cfg0) (o := .loc i) (i := .int (.ofNat s)) (v := v) (s := { st with heap := h3, toks := tk3 }) O.toOkV cx S3 ?_ (r2.mono le3) r3 (sub_plain fun _ _ _ _ => Expr.noConfusion) fun tk4 u4 r4 => ?_
      · have hlt : s < vs.length := by rw [nth_eq] at hv; exact (List.getElem?_eq_some_iff.mp hv).1
        obtain ⟨led, N, ⟨a, ws', k', h1', h2', h3', h4'⟩, _⟩ := St.getO (s := { st with heap := h3, toks := tk3 }) S3 hi
        unfold sub
        dsimp only
        rw [hi]
        dsimp only
        have hx : idx (Int.ofNat s) (len vs) = some s := by
          show (match Nat.blt s (len vs) && Nat.blt s 1152921504606846976 with | true => some s | false => none) = some s
          rw [len_eq, show Nat.blt s vs.length = true from Nat.ble_eq_true_of_le hlt, show Nat.blt s 1152921504606846976 = true from Nat.ble_eq_true_of_le (by omega)]
          rfl
        rw [hx]
        exact hv
      · exact hQ W3 σ h3 tk4 _ (le1.trans le3) S3 (.ret r4)
  · show (attributeBase (.Name "self" p1) ("sort_names" : Str) x'.env (eval (.Name "self" p1) x'.env) >>= _) = _
    rw [base_plain rfl]
theorem elem_body : ∃ p1 p2 p3 p4 p5 p6 rest, (fnA 85).body = .Assign [.Name "name" p1] (.Call (.Attribute (.Name "bank" p2) "sort_name" p3) [.Name "s" p4] [] p5) p6 :: rest ∧ (p3.endLine == p5.line) = true ∧ rest = (fnA 85).body.tail := ⟨_, _, _, _, _, _, _, rfl, rfl, rfl⟩
noncomputable def elemL0 (b s : Nat) (t : AV) : L := [(nmS "bank", .loc b), (nmS "s", .int (.ofNat s)), (nmS "k", .int 0), (nmS "name", t)]
noncomputable def elemOut : Option (Fl × L × Mine.H) → Option (AV × Mine.H)
  | some (.ret v, _, h) => some (v, h)
  | _ => none
theorem elem_run (b s : Nat) (H : Mine.H) : ∀ i, i < 5 → elemOut ((run cfg0 30).ex (fnA 85).scope (fnA 85).body.tail (elemL0 b s (.str (getD [] (titL.map (·.1)) i))) H) = some (.str (getD [] (titL.map (·.2)) i), H)
  | 0, _ => by kernel_rfl
  | 1, _ => by kernel_rfl
  | 2, _ => by kernel_rfl
  | 3, _ => by kernel_rfl
  | 4, _ => by kernel_rfl
  | _ + 5, h => by omega
theorem elem_one (hK : kview K = kgood) {b i s p q d : Nat} {fs : List (Nat × AV)} {vs : List AV} (c : CxOk (theG w K la ws m ns) x 40) (hb : H.get b = some (.inst 0 fs)) (hn : look (nmS "sort_name") fs = none) (hl : look (nmS "sort_names") fs = some (.loc i)) (hi : H.get i = some (.list vs)) (hv : nth vs s = some (.ssym p))
    (hd : d < 5) (hp : sigOf ns p = titA d) (hq : sigOf ns q = titB d) : ClOk (theG w K la ws m ns) x idElem [.loc b, .int (.ofNat s), .int 0] H (.ssym q) H := by
  have O := ok0 (w := w) (la := la) (ws := ws) (m := m) (ns := ns) hK
  obtain ⟨qual, params, cdv, D, hnc, hfr⟩ := O.fnk 85 (fnA 85) (fnA_nth 85 (by decide)) rfl
  have hpar : (fnA 85).params = [nmS "bank", nmS "s", nmS "k"] := by kernel_rfl
  have hrun := elem_run b s H d hd
  unfold elemOut at hrun
  split at hrun
  · rename_i v' l' h' hrun'
    have hrun := Option.some.inj hrun
    obtain ⟨e1, e2⟩ := Prod.mk.inj hrun
    subst e1 e2
    refine enter_ok (n := 39) (l0 := [(nmS "bank", .loc b), (nmS "s", .int (.ofNat s)), (nmS "k", .int 0)]) (l' := l') (fl := .ret (.ssym q)) (H1 := h') c D hnc hfr (by rw [hpar]; rfl) (fun x' cx hfm hsc => ?_) rfl (fun _ _ h => h) rfl
    obtain ⟨p1, p2, p3, p4, p5, p6, rest, hbody, hline, hrest⟩ := elem_body
    rw [hbody]
    have I := sound0 (w := w) (la := la) (ws := ws) (m := m) (ns := ns) hK 2
    have cx2 := cx.le (show 2 ≤ 39 by decide)
    intro W σ st Q E S hQ
    have hev : EvOk (theG w K la ws m ns) x' (.Call (.Attribute (.Name "bank" p2) "sort_name" p3) [.Name "s" p4] [] p5) [(nmS "bank", .loc b), (nmS "s", .int (.ofNat s)), (nmS "k", .int 0)] h' (.ssym p) h' := by
      intro W σ st Q E S hQ
      have he : evs (run cfg0 2) (fnA 85).scope [.Name "s" p4] [(nmS "bank", .loc b), (nmS "s", .int (.ofNat s)), (nmS "k", .int 0)] h' = some ([.int (.ofNat s)], h') := by kernel_rfl
      refine mcall rfl hline (by show 1 < 30; decide) (evs_star he) (I.ev x' (fnA 85).scope (.Name "bank" p2) _ h' (.loc b) h' cx2 hsc (by kernel_rfl) W σ st _ E S fun W1 h1 tk1 u1 le1 S1 r1 => fun pl => ?_)
      have hmt : look (nm ("sort_name" : Str)) (cfg0.mth 0) = some 25 := by decide +kernel
      refine user_get (C := cfg0) (y := "sort_name") (s := { st with heap := h1, toks := tk1 }) O.toOkG cx S1 hb hn hmt r1 ?_
      refine call_args (P := fun h => (theG w K la ws m ns).K.In h) (evs_star he) (keeps_K (O.kfn 25 (fnA 25) (fnA_nth 25 (by decide)))) (evs_ok I cx2 hsc he S1 fun W2 h2 tk2 us le2 S2 rs => ⟨S2.KIn cx, ?_⟩)
      obtain ⟨ua, rfl, ra⟩ := rs.n1
      exact wpAny_call (sort_name_ok (n := 37) hK cx hb hl hi hv W2 _ σ { st with heap := h2, toks := tk2 } _ _ S2 (.cons (r1.mono le2) (.cons ra .nil)) fun W3 h3 tk3 u3 le3 S3 r3 => hQ W3 h3 tk3 u3 ((le1.trans le2).trans le3) S3 r3)
    refine wpAny_execs_cons (asgT (sc := (fnA 85).scope) (l' := elemL0 b s (.ssym p)) cx hfm hsc (by kernel_rfl) hev rfl rfl W σ st _ E S fun W1 σ1 h1 tk1 f1 le1 S1 rf1 => ?_)
    obtain rfl := rf1.isN
    have hsig : (theG w K la ws m ns).sig p = titA d := hp
    have S1' : St (theG w K la ws m ns) x' W1 (elemL0 b s (.str (getD [] (titL.map (·.1)) d))) h' σ1 h1 := { S1 with
      lr := ⟨by kernel_rfl, fun y v hy e => by
        by_cases hyn : nm y = nmS "name"
        · have e0 : look (nm y) (elemL0 b s (.str (getD [] (titL.map (·.1)) d))) = some (.str (getD [] (titL.map (·.1)) d)) := by rw [hyn]; kernel_rfl
          rw [e0] at e
          first | exact xN e | exact xS e | (obtain rfl := x1 e; clear e) | (obtain ⟨rfl, rfl⟩ := x2 e; clear e) | (obtain ⟨rfl, rfl, rfl⟩ := x3 e; clear e) | (exfalso; cases e; done) | cases e
          have e1 : look (nm y) (elemL0 b s (.ssym p)) = some (.ssym p) := by rw [hyn]; kernel_rfl
          obtain ⟨a, h2, h3⟩ := S1.lr.2 y _ hy e1
          have turn : ∀ u, VR (theG w K la ws m ns) W1 (.ssym p) u → VR (theG w K la ws m ns) W1 (.str (getD [] (titL.map (·.1)) d)) u := fun u r => by
            obtain ⟨t, rfl⟩ := r.isZ
            · rw [hsig]
              refine .str _ t ?_
              have hts : ((List.range 5).all fun i => strB (getD [] (titL.map (·.1)) i)) = true := by decide +kernel
              exact List.all_eq_true.mp hts d (List.mem_range.mpr hd)
          exact ⟨a, fun hk => let ⟨u, p1, p2⟩ := h2 hk; ⟨u, p1, turn u p2⟩, fun hk => let ⟨cc, o, u, p1, p2, p3, p4⟩ := h3 hk; ⟨cc, o, u, p1, p2, p3, turn u p4⟩⟩
        · have e0 : ∀ t : AV, look (nm y) (elemL0 b s t) = look (nm y) [(nmS "bank", .loc b), (nmS "s", .int (.ofNat s)), (nmS "k", .int 0)] := fun t => by
            have : elemL0 b s t = put (nmS "name") t [(nmS "bank", .loc b), (nmS "s", .int (.ofNat s)), (nmS "k", .int 0)] := by kernel_rfl
            rw [this, look_put, if_neg hyn]
          rw [e0] at e
          exact S1.lr.2 y v hy (by rw [e0]; exact e)⟩ }
    have I30 := sound0 (w := w) (la := la) (ws := ws) (m := m) (ns := ns) hK 30
    rw [hrest]
    refine I30.ex x' (fnA 85).scope _ _ h' _ l' h' (cx.le (by decide)) hfm hsc hrun' W1 σ1 { st with heap := h1, toks := tk1 } _ E S1' fun W2 σ2 h2 tk2 f2 le2 S2 rf2 => ?_
    refine hQ W2 σ2 h2 tk2 f2 (le1.trans le2) S2 ?_
    obtain ⟨u, rfl, ru⟩ := rf2.isR
    · refine .ret ?_
      obtain ⟨t, rfl, _⟩ := ru.isS
      · have : VR (theG w K la ws m ns) W2 (.ssym q) (.str ((theG w K la ws m ns).sig q) t) := .ssym q t
        have hq' : (theG w K la ws m ns).sig q = titB d := hq
        rw [hq'] at this
        exact this
  · first | exact xN hrun | exact xS hrun | (obtain rfl := x1 hrun; clear hrun) | (obtain ⟨rfl, rfl⟩ := x2 hrun; clear hrun) | (obtain ⟨rfl, rfl, rfl⟩ := x3 hrun; clear hrun) | (exfalso; cases hrun; done) | cases hrun
theorem optV3 {β : Type} {o : Option (AV × AV × AV)} {f : AV × AV × AV → Option β} {q : β} (e : (match o with | some p => f p | none => none) = some q) : ∃ p, o = some p ∧ f p = some q := by
  cases o with
  | none => exact xN e
  | some p => exact ⟨p, rfl, e⟩
theorem look_inv {α : Type} {o : Option AV} {f : Option α} {q : α} (e : (match o with | some _ => none | none => f) = some q) : o = none ∧ f = some q := by
  cases o with
  | none => exact ⟨rfl, e⟩
  | some _ => exact xN e
theorem natOf_eq {v : AV} {n : Nat} (e : natOf v = some n) : v = .int (.ofNat n) := by
  obtain ⟨i, h1, e⟩ := optI e
  rw [intOf_eq h1]
  cases i with
  | ofNat m => rw [x1 e]
  | negSucc m => exact xN e
theorem inst0_eq {o : AO} {fs : List (Nat × AV)} (e : inst0 o = some fs) : o = .inst 0 fs := by
  cases o with
  | inst c fs' =>
    obtain ⟨h, rfl⟩ := true_inv (b := Nat.beq c 0) e
    rw [Nat.eq_of_beq_eq_true h]
  | _ => exact xN e
theorem listOf_eq {o : AO} {vs : List AV} (e : listOf o = some vs) : o = .list vs := by
  cases o with
  | list vs' => rw [x1 e]
  | _ => exact xN e
theorem elem_hint (hK : kview K = kgood) {as : List AV} (c : CxOk (theG w K la ws m ns) x 40) (e : elemL as H = some (v, H')) : ClOk (theG w K la ws m ns) x idElem as H v H' := by
  obtain ⟨p, hp, e⟩ := optV3 e
  obtain ⟨b, hb, e⟩ := optN e
  obtain ⟨s, hs, e⟩ := optN e
  obtain ⟨o, ho, e⟩ := optO e
  obtain ⟨fs, hf, e⟩ := optFs e
  obtain ⟨hn, e⟩ := look_inv e
  obtain ⟨z, hz, e⟩ := optV e
  obtain ⟨i, hi, e⟩ := optN e
  obtain ⟨o2, ho2, e⟩ := optO e
  obtain ⟨vs, hvs, e⟩ := optVs e
  obtain ⟨y, hy, e⟩ := optV e
  obtain ⟨r, hr, e⟩ := optV e
  obtain ⟨rfl, rfl⟩ := x2 e
  clear e
  have ha := as3_eq hp
  rw [locOf_eq hb, natOf_eq hs] at ha
  rw [inst0_eq hf] at ho
  rw [locOf_eq hi] at hz
  rw [listOf_eq hvs] at ho2
  rw [ha]
  clear ha hp hb hs hf hi hvs
  refine findR_all (P := fun y t r => nth vs s = some y → ClOk (theG w K la ws m ns) x idElem [.loc b, .int (.ofNat s), t] H' r H') hr ?_ hy
  exact all1 (fun hv => elem_one hK c ho hn hz ho2 hv (draw_range ns 2).1 rfl rfl) (all1 (fun hv => elem_one hK c ho hn hz ho2 hv (draw_range ns 3).1 rfl rfl) all0)
end
end Mine

set_option maxRecDepth 100000
namespace Mine
open PySem PySem.W PySem.Calls PySem.Spec PyProof.Rows

/-! ## the law's jug -/
noncomputable def cellsS : Str := Str.ofString "cells"
noncomputable def atS : Str := Str.ofString "at"
theorem str_ne : cellsS ≠ atS := by decide +kernel
theorem str_of {a b : Str} (h : a.cps.toList = b.cps.toList) : a = b := by
  cases a; cases b
  simpa using h
section
variable {w : World} {K : Frag} {la : Addr} {ws : List Value} {m : Nat} {ns : List Int} {x : Cx} {H H' : Mine.H} {v : AV} {n : Nat} {W : Wd} {l : L} {σ : Sg} {s : Shared} {E : Value → Shared → Prop}
noncomputable abbrev jugIs (g : G) (W : Wd) (o : Obj) (u : Value) (z : Value) : Prop := o.IsDictOf (strKind g.prog g.w) [(cellsS, u), (atS, z)]
theorem jug_get {g : G} (S : St g x W l H σ s.heap) {j : Nat} {i : Int} (hj : H.get j = some (jugO cellsN atN i)) {uo : Value} (ro : VR g W (.loc j) uo) :
    ∃ led d o u t, News x.h₀ x.L s.heap (led ++ σ.own ++ x.out ++ W.X) ∧ LedOk g W H led ∧ uo = .ref d ∧ (d, o) ∈ led ∧ s.heap.get? d = some o ∧ (2 * j, d) ∈ W.mp ∧ jugIs g W o u (.int i t) ∧ VR g W (.ext 1) u := by
  obtain ⟨led, d, o, N, hl, hm, ho, hmp, hr, _⟩ := getDict S hj ro
  rcases hr with ⟨q, h, _⟩ | ⟨q, es, ep, h, _⟩ | ⟨c, a, v, w', u, z, e, h1, h2, h3⟩
  · cases h with | cons h _ _ => cases h
  · cases h with | cons h _ _ _ _ => cases h
  · simp only [List.cons.injEq, Prod.mk.injEq, AV.str.injEq, and_true] at e
    obtain ⟨⟨e1, rfl⟩, e3, rfl⟩ := e
    have c1 : c = cellsS := (str_of e1).symm
    have c2 : a = atS := (str_of e3).symm
    subst c1 c2
    cases h2 with
    | int _ t => exact ⟨led, d, o, u, t, N, hl, rfl, hm, ho, hmp, h3, h1⟩
theorem jug_item {g : G} (S : St g x W l H σ s.heap) {j : Nat} {i : Int} (hj : H.get j = some (jugO cellsN atN i)) {uo : Value} (ro : VR g W (.loc j) uo) {y : Str} {t : Tok} {v : AV} (hv : (y = cellsS ∧ v = .ext 1) ∨ (y = atS ∧ v = .int i)) {value slice : Expr} (hsl : ∀ a b, subscripted slice false a b = operate [a, b] (getItem a b))
    {Q : Value → Shared → Prop} (hQ : ∀ tk u, VR g W v u → Q u { s with toks := tk }) : wpAny (model g.prog g.w) x.A (subscriptTail value slice uo (.str y t)) Q E s := by
  obtain ⟨led, d, o, u, tt, N, hl, rfl, hm, ho, hmp, hi, hu⟩ := jug_get S hj ro
  have hD : s.heap.DictOf (strKind g.prog g.w) d [(cellsS, u), (atS, .int i tt)] := Heap.dictOf_iff.mpr ⟨o, ho, hi⟩
  rcases hv with ⟨rfl, rfl⟩ | ⟨rfl, rfl⟩
  · exact tail_any (T := "dict") hD.typeIs F.slot_dict_getitem.lookup (wpAny_getItem_of (strKind_is _ _ _ t) hD.mapOf (show valueAt _ _ = some u by simp [valueAt]) (hQ _ u hu)) (hsl _ _)
  · exact tail_any (T := "dict") hD.typeIs F.slot_dict_getitem.lookup (wpAny_getItem_of (strKind_is _ _ _ t) hD.mapOf (show valueAt _ _ = some (.int i tt) by simp [valueAt, str_ne]) (hQ _ _ (.int _ _))) (hsl _ _)
theorem jug_set {g : G} (S : St g x W l H σ s.heap) {j : Nat} {i i' : Int} (hj : H.get j = some (jugO cellsN atN i)) {uo : Value} (ro : VR g W (.loc j) uo) {t t' : Tok}
    {Q : Unit → Shared → Prop} (hQ : ∀ h' tk, St g x W l (H.set j (jugO cellsN atN i')) σ h' → Q () { s with heap := h', toks := tk }) : wpAny (model g.prog g.w) x.A (setItem uo (.str atS t) (.int i' t')) Q E s := by
  obtain ⟨led, d, o, u, tt, N, hl, rfl, hm, ho, hmp, hi, hu⟩ := jug_get S hj ro
  have hD : s.heap.DictOf (strKind g.prog g.w) d [(cellsS, u), (atS, .int i tt)] := Heap.dictOf_iff.mpr ⟨o, ho, hi⟩
  refine wpAny_setItem_pairs (strKind_is _ _ _ t) hD (fun h' hD' hs => hQ _ _ ?_) (by rw [sizeLine_eq]; simp)
  obtain ⟨o', ho', hdi'⟩ := Heap.dictOf_iff.mp hD'
  have e : stored [(cellsS, u), (atS, .int i tt)] atS (.int i' t') = [(cellsS, u), (atS, .int i' t')] := by simp [stored, str_ne]
  rw [e] at hdi'
  exact S.upd N hl (.inl rfl) hmp hm hs ho' fun led' k1 k2 => ⟨d, o', hmp, k2, .inr (.inr ⟨cellsS, atS, _, _, u, _, rfl, hu, .int _ _, hdi'⟩), by simp⟩
/-- reading the jug -/
theorem jug_ev (hK : kview K = kgood) (c : CxOk (theG w K la ws m ns) x (n + 1)) {sc : Scope} (k : ScOk sc x.env) {j : Nat} {i : Int} (hj : H.get j = some (jugO cellsN atN i)) (hn : ∀ p, (run cfg0 1).ev sc (.Name "jug" p) l H = some (.loc j, H)) {y : Str} {v : AV} (hv : (y = cellsS ∧ v = .ext 1) ∨ (y = atS ∧ v = .int i)) (p1 p2 p3 : Pos) (k1 : Nat) :
    EvOk (theG w K la ws m ns) x (.Subscript (.Name "jug" p1) (.Constant (.str y) k1 p2) p3) l H v H := by
  intro W σ s Q E S hQ
  refine Subscript_ ((sound0 hK 1).ev x sc (.Name "jug" p1) l H (.loc j) H (c.le (by omega)) k (hn p1) W σ s _ E S fun W1 h1 tk1 u1 le1 S1 r1 => wpAny_Constant_str ?_)
  exact jug_item (s := { s with heap := h1, toks := tk1 + 1 }) S1 hj r1 hv (fun _ _ => rfl) fun tk2 u2 r2 => hQ W1 h1 tk2 u2 le1 S1 r2
noncomputable def sP (i : Nat) : Pos := posAt (fnA 90).body (i - 1)
noncomputable def sK (i : Nat) : Nat := kinAt (fnA 90).body i
noncomputable def altE : Expr := match nth ((fnA 90).body.flatMap (colS elsL fun _ => [])) 0 with
  | some e => e
  | none => .Constant .none 0 ⟨0, 0, 0, 0⟩
theorem spill_body : (fnA 90).body =
    [.Assign [.Name "at" (sP 1)] (.Subscript (.Name "jug" (sP 2)) (.Constant (.str "at") (sK 0) (sP 3)) (sP 4)) (sP 5),
     .Assign [.Subscript (.Name "jug" (sP 6)) (.Constant (.str "at") (sK 1) (sP 7)) (sP 8)] (.BinOp (.Name "at" (sP 9)) .Add (.Constant (.int 1) (sK 2) (sP 10)) (sP 11)) (sP 12),
     .Return (some (.BinOp (.BinOp (.IfExp (.Compare (.Name "at" (sP 13)) [.Lt] [.Call (.Name "len" (sP 14)) [.Subscript (.Name "jug" (sP 15)) (.Constant (.str "cells") (sK 3) (sP 16)) (sP 17)] [] (sP 18)] (sP 19))
       (.Subscript (.Subscript (.Name "jug" (sP 20)) (.Constant (.str "cells") (sK 4) (sP 21)) (sP 22)) (.Name "at" (sP 23)) (sP 24)) altE (sP 25)) .Mod (.Constant (.int 1000003) (sK 5) (sP 26)) (sP 27)) .Mod (.Name "many" (sP 28)) (sP 29))) (sP 30)] := by kernel_rfl
noncomputable def spillL0 (j : Nat) (mv : AV) : L := [(nmS "jug", .loc j), (nmS "many", mv)]
noncomputable def spillL1 (j : Nat) (mv : AV) (i : Int) : L := [(nmS "jug", .loc j), (nmS "many", mv), (nmS "at", .int i)]
theorem alt_run (j : Nat) (mv : AV) (H : Mine.H) : ∀ i, i < 4 → (run cfg0 8).ev (fnA 90).scope altE (spillL1 j mv (Int.ofNat i)) H = some (.int (11 * (i : Int) * (i : Int) + 4 * (i : Int) + 3), H)
  | 0, _ => by kernel_rfl
  | 1, _ => by kernel_rfl
  | 2, _ => by kernel_rfl
  | 3, _ => by kernel_rfl
  | _ + 4, h => by omega
theorem spill_one (hK : kview K = kgood) {j i rk : Nat} {mv : AV} {mi : Int} (c : CxOk (theG w K la ws m ns) x 40) (hi : i < 4) (hj : H.get j = some (jugO cellsN atN (Int.ofNat i))) (hm : iv (theG w K la ws m ns) mv = some mi) (hmi : mi ≠ 0) (hr : rhoOf ns rk = (cellAt ns i).fmod mi) :
    ClOk (theG w K la ws m ns) x idSpill [.loc j, mv] H (.isym rk) (H.set j (jugO cellsN atN (Int.ofNat (i + 1)))) := by
  have O := ok0 (w := w) (la := la) (ws := ws) (m := m) (ns := ns) hK
  obtain ⟨qual, params, cdv, D, hnc, hfr⟩ := O.fnk 90 (fnA 90) (fnA_nth 90 (by decide)) rfl
  have hpar : (fnA 90).params = [nmS "jug", nmS "many"] := by kernel_rfl
  refine enter_ok (n := 39) (l0 := spillL0 j mv) (l' := spillL1 j mv (Int.ofNat i)) (fl := .ret (.isym rk)) (H1 := H.set j (jugO cellsN atN (Int.ofNat (i + 1)))) c D hnc hfr (by rw [hpar]; rfl) (fun x' cx hfm hsc => ?_) rfl (fun _ _ h => h) rfl
  rw [spill_body]
  have I : ∀ f, f ≤ 39 → ∀ e l H v H', (run cfg0 f).ev (fnA 90).scope e l H = some (v, H') → EvOk (theG w K la ws m ns) x' e l H v H' := fun f hf e l H v H' he => (sound0 hK f).ev x' _ e l H v H' (cx.le hf) hsc he
  have hev1 : EvOk (theG w K la ws m ns) x' (.Subscript (.Name "jug" (sP 2)) (.Constant (.str "at") (sK 0) (sP 3)) (sP 4)) (spillL0 j mv) H (.int (Int.ofNat i)) H :=
    jug_ev (n := 38) hK cx hsc hj (fun p => by kernel_rfl) (.inr ⟨rfl, rfl⟩) _ _ _ _
  intro W σ st Q E S hQ
  refine wpAny_execs_cons (asgT (sc := (fnA 90).scope) (l' := spillL1 j mv (Int.ofNat i)) cx hfm hsc (by kernel_rfl) hev1 rfl rfl W σ st _ E S fun W1 σ1 h1 tk1 f1 le1 S1 rf1 => ?_)
  obtain rfl := rf1.isN
  refine wpAny_execs_cons (wpAny_Assign_Subscript (I 2 (by decide) (.BinOp (.Name "at" (sP 9)) .Add (.Constant (.int 1) (sK 2) (sP 10)) (sP 11)) _ H (.int (Int.ofNat (i + 1))) H (by kernel_rfl) W1 σ1 { st with heap := h1, toks := tk1 } _ E S1 fun W2 h2 tk2 u2 le2 S2 r2 => ?_) rfl)
  refine I 1 (by decide) (.Name "jug" (sP 6)) _ H (.loc j) H (by kernel_rfl) W2 σ1 { st with heap := h2, toks := tk2 } _ E S2 fun W3 h3 tk3 u3 le3 S3 r3 => wpAny_Constant_str ?_
  obtain ⟨t2, rfl⟩ := r2.isI
  refine jug_set (i := Int.ofNat i) (i' := Int.ofNat (i + 1)) (s := { st with heap := h3, toks := tk3 + 1 }) S3 hj r3 fun h4 tk4 S4 => ?_
  have hj4 : (H.set j (jugO cellsN atN (Int.ofNat (i + 1)))).get j = some (jugO cellsN atN (Int.ofNat (i + 1))) := by
    show look j (put j _ H.os) = _
    rw [look_put, if_pos rfl]
  generalize hH4 : H.set j (jugO cellsN atN (Int.ofNat (i + 1))) = H4 at S4 hj4 hQ
  have cellsE : ∀ (q1 q2 q3 : Pos) (k1 : Nat), EvOk (theG w K la ws m ns) x' (.Subscript (.Name "jug" q1) (.Constant (.str "cells") k1 q2) q3) (spillL1 j mv (Int.ofNat i)) H4 (.ext 1) H4 :=
    fun q1 q2 q3 k1 => jug_ev (n := 38) hK cx hsc hj4 (fun p => by kernel_rfl) (.inl ⟨rfl, rfl⟩) _ _ _ _
  have atE : ∀ q, EvOk (theG w K la ws m ns) x' (.Name "at" q) (spillL1 j mv (Int.ofNat i)) H4 (.int (Int.ofNat i)) H4 := fun q => I 1 (by decide) _ _ _ _ _ (by kernel_rfl)
  have le13 := (le1.trans le2).trans le3
  refine wpAny_execs_cons (wpAny_Return_some (wpAny_BinOp (wpAny_BinOp (IfExp_ (wpAny_isTrue_Compare1 ?_ rfl)))))
  -- the end, once the cell is known
  have fin : ∀ W5 h5 tk5 tc, W.le W5 → St (theG w K la ws m ns) x' W5 (spillL1 j mv (Int.ofNat i)) H4 σ1 h5 →
      wpAny (model (theG w K la ws m ns).prog (theG w K la ws m ns).w) x'.A (eval (.Constant (.int 1000003) (sK 5) (sP 26)) x'.env) (fun b s₂ => wpAny (model (theG w K la ws m ns).prog (theG w K la ws m ns).w) x'.A (binaryOp .Mod (.int (((ns.take 20)[i]?).getD (11 * (i : Int) * (i : Int) + 4 * (i : Int) + 3)) tc) b)
        (fun a s₁ => wpAny (model (theG w K la ws m ns).prog (theG w K la ws m ns).w) x'.A (eval (.Name "many" (sP 28)) x'.env) (fun b s₂ => wpAny (model (theG w K la ws m ns).prog (theG w K la ws m ns).w) x'.A (binaryOp .Mod a b)
          (fun v s' => (match Flow.ret v with | .next => wpAny (model (theG w K la ws m ns).prog (theG w K la ws m ns).w) x'.A (execs [] x'.env) Q E s' | f => Q f s')) E s₂) E s₁) E s₂) E { st with heap := h5, toks := tk5 } := by
    intro W5 h5 tk5 tc le5 S5
    refine wpAny_Constant_int (op_int (.fmod _ _ (by decide)) ?_)
    refine I 1 (by decide) (.Name "many" (sP 28)) _ H4 mv H4 (by kernel_rfl) W5 σ1 ⟨h5, _, _, _, _⟩ _ E S5 fun W6 h6 tk6 u6 le6 S6 r6 => ?_
    obtain ⟨tm, rfl⟩ := r6.iv hm
    refine op_int (.fmod _ _ hmi) ?_
    refine hQ W6 σ1 h6 _ _ (le5.trans le6) S6 (.ret ?_)
    have : VR (theG w K la ws m ns) W6 (.isym rk) (.int ((theG w K la ws m ns).rho rk) tk6) := .isym rk tk6
    have hr' : (theG w K la ws m ns).rho rk = (cellAt ns i).fmod mi := hr
    rw [hr'] at this
    exact this
  refine atE (sP 13) W3 σ1 ⟨h4, _, _, tk4, _⟩ _ E S4 fun W5 h5 tk5 u5 le5 S5 r5 => ?_
  obtain ⟨t5, rfl⟩ := r5.isI
  refine fcall (by intro o n p z; cases z) (I 1 (by decide) (.Name "len" (sP 14)) _ H4 (.bi 0) H4 (by kernel_rfl) W5 σ1 ⟨h5, _, _, tk5, _⟩ _ E S5 fun W6 h6 tk6 u6 le6 S6 r6 => ?_)
  obtain rfl := r6.isBi
  refine call_args (P := fun _ => True) (by intro e he; rw [List.mem_singleton] at he; subst he; rfl) (keeps_bi (by intro a z; cases z)) (args_cons (cellsE (sP 15) (sP 16) (sP 17) (sK 3) W6 σ1 ⟨h6, _, _, tk6, _⟩ _ E S6 fun W7 h7 tk7 u7 le7 S7 r7 => args_nil ⟨trivial, ?_⟩) rfl)
  have hx := r7.isX
  obtain ⟨a, wl, nl, rfl, hX, hI⟩ := hx
  have hX' : (a, lstObj wl nl) ∈ W7.X := by
    rcases hX with h | ⟨h, _⟩
    · exact h
    · first | exact xN h | exact xS h | (obtain rfl := x1 h; clear h) | (obtain ⟨rfl, rfl⟩ := x2 h; clear h) | (obtain ⟨rfl, rfl, rfl⟩ := x3 h; clear h) | (exfalso; cases h; done) | cases h
  have hI' : IntsAre wl (ns.take 20) := hI
  have hlen : wl.length = (ns.take 20).length := by
    have : ∀ {vs : List Value} {ms : List Int}, IntsAre vs ms → vs.length = ms.length := by
      intro vs ms h
      induction h with
      | nil => rfl
      | cons _ _ _ ih => simp [ih]
    exact this hI'
  have hsz : wl.length ≤ 20 := by rw [hlen, List.length_take]; omega
  have hL : h7.IsList a wl.toArray := ⟨_, S7.at (p := (a, lstObj wl nl)) (by simp [hX']), rfl, nl, rfl⟩
  refine Calls.call_len_list hL (by rw [List.size_toArray]; omega) ?_
  refine cmpI_ok (op := .Lt) rfl (wpAny_truthy_bool ?_)
  have le7' := ((le13.trans le5).trans le6).trans le7
  by_cases hlt : (Int.ofNat i) < ((wl.toArray.size : Nat) : Int)
  · rw [decide_eq_true hlt, if_pos rfl]
    have hlt' : i < wl.length := by
      have h : ((i : Nat) : Int) < ((wl.toArray.size : Nat) : Int) := hlt
      rw [List.size_toArray] at h
      exact Int.ofNat_lt.mp h
    refine Subscript_ (cellsE (sP 20) (sP 21) (sP 22) (sK 4) W7 σ1 ⟨h7, _, _, _, _⟩ _ E S7 fun W8 h8 tk8 u8 le8 S8 r8 => ?_)
    have hx2 := r8.isX
    obtain ⟨a2, wl2, nl2, rfl, hX2, hI2⟩ := hx2
    have hX2' : (a2, lstObj wl2 nl2) ∈ W8.X := by
      rcases hX2 with h | ⟨h, _⟩
      · exact h
      · first | exact xN h | exact xS h | (obtain rfl := x1 h; clear h) | (obtain ⟨rfl, rfl⟩ := x2 h; clear h) | (obtain ⟨rfl, rfl, rfl⟩ := x3 h; clear h) | (exfalso; cases h; done) | cases h
    refine atE (sP 23) W8 σ1 ⟨h8, _, _, tk8, _⟩ _ E S8 fun W9 h9 tk9 u9 le9 S9 r9 => ?_
    obtain ⟨t9, rfl⟩ := r9.isI
    have hL2 : h9.IsList a2 wl2.toArray := ⟨_, S9.at (p := (a2, lstObj wl2 nl2)) (by simp [le9.1 _ hX2']), rfl, nl2, rfl⟩
    have hI2' : IntsAre wl2 (ns.take 20) := hI2
    obtain ⟨cv, tc, hcv, hcn⟩ : ∃ cv tc, wl2[i]? = some (.int cv tc) ∧ (ns.take 20)[i]? = some cv := by
      have : ∀ {vs : List Value} {ms : List Int}, IntsAre vs ms → ∀ {i : Nat}, i < ms.length → ∃ cv tc, vs[i]? = some (.int cv tc) ∧ ms[i]? = some cv := by
        intro vs ms h
        induction h with
        | nil => intro i hi; cases hi
        | cons a t _ ih =>
          intro i hi
          cases i with
          | zero => exact ⟨a, t, rfl, rfl⟩
          | succ i => exact ih (Nat.lt_of_succ_lt_succ hi)
      exact this hI2' (by rw [← hlen]; exact hlt')
    refine tail_any (T := "list") hL2.typeIs F.slot_list_getitem.lookup (wpAny_getItem_list hL2 (Int.natCast_nonneg i) (by show (i : Int) < 2 ^ 63; omega) (x := .int cv tc) (by show wl2.toArray[i]? = _; simpa using hcv) ?_) rfl
    have := fin W9 h9 tk9 tc ((le7'.trans le8).trans le9) S9
    rw [hcn] at this
    exact this
  · rw [decide_eq_false hlt, if_neg Bool.false_ne_true]
    have hge : (ns.take 20)[i]? = none := by
      rw [List.getElem?_eq_none_iff, ← hlen]
      have h : ¬ ((i : Nat) : Int) < ((wl.toArray.size : Nat) : Int) := hlt
      rw [List.size_toArray] at h
      omega
    refine I 8 (by decide) altE _ H4 _ H4 (alt_run j mv H4 i hi) W7 σ1 ⟨h7, _, _, _, _⟩ _ E S7 fun W8 h8 tk8 u8 le8 S8 r8 => ?_
    obtain ⟨t8, rfl⟩ := r8.isI
    have := fin W8 h8 tk8 t8 (le7'.trans le8) S8
    rw [hge] at this
    exact this
theorem optVI {β : Type} {o : Option (AV × Int)} {f : AV × Int → Option β} {q : β} (e : (match o with | some p => f p | none => none) = some q) : ∃ p, o = some p ∧ f p = some q := by
  cases o with
  | none => exact xN e
  | some p => exact ⟨p, rfl, e⟩
theorem optVV {β : Type} {o : Option ((AV × AV) × AV × AV)} {f : (AV × AV) × AV × AV → Option β} {q : β} (e : (match o with | some p => f p | none => none) = some q) : ∃ p, o = some p ∧ f p = some q := by
  cases o with
  | none => exact xN e
  | some p => exact ⟨p, rfl, e⟩
theorem isX_eq {v : AV} (h : isX v = true) : v = .ext 1 := by
  cases v <;> first | exact absurd (show false = true from h) Bool.false_ne_true | exact congrArg AV.ext (Nat.eq_of_beq_eq_true h).symm
theorem jugOf_eq {o : AO} {n : Int} (e : jugOf o = some n) : o = jugO cellsN atN n := by
  cases o with
  | dict l =>
    obtain ⟨p, hp, e⟩ := optVV e
    obtain ⟨h, e⟩ := bool_inv e
    rw [Bool.and_eq_true, Bool.and_eq_true] at h
    obtain ⟨⟨k1, v1⟩, k2, v2⟩ := p
    rw [as2_eq hp, show k1 = _ from isT_eq h.1.1, show v1 = _ from isX_eq h.1.2, show k2 = _ from isT_eq h.2, show v2 = _ from intOf_eq e]
    rfl
  | _ => exact xN e
theorem spill_hint (hK : kview K = kgood) {as : List AV} (c : CxOk (theG w K la ws m ns) x 40) (e : spillL as H = some (v, H')) : ClOk (theG w K la ws m ns) x idSpill as H v H' := by
  obtain ⟨h1, h2, _⟩ := wide_range ns
  obtain ⟨p, hp, e⟩ := optVp e
  obtain ⟨j, hj, e⟩ := optN e
  obtain ⟨o, ho, e⟩ := optO e
  obtain ⟨i, hi, e⟩ := optI e
  obtain ⟨r, hr, e⟩ := optVI e
  obtain ⟨rfl, rfl⟩ := x2 e
  clear e
  have ha := as2_eq hp
  rw [locOf_eq hj] at ha
  rw [jugOf_eq hi] at ho
  rw [ha]
  clear ha hp hj hi
  refine findR_all (P := fun a b r => a = .int i → ClOk (theG w K la ws m ns) x idSpill [.loc j, b] H r.1 (H.set j (jugO cellsN atN r.2))) hr ?_ rfl
  refine all1 (fun q => ?_) (all1 (fun q => ?_) (all1 (fun q => ?_) (all1 (fun q => ?_) all0)))
  · cases q; exact spill_one (i := 0) (mi := 69) hK c (by decide) ho rfl (by decide) rfl
  · cases q; exact spill_one (i := 1) (mi := 70 - (wideN ns : Int)) hK c (by decide) ho rfl (by omega) rfl
  · cases q; exact spill_one (i := 2) (mi := 5) hK c (by decide) ho rfl (by decide) (draw_range ns 2).2
  · cases q; exact spill_one (i := 3) (mi := 5) hK c (by decide) ho rfl (by decide) (draw_range ns 3).2
end
end Mine

set_option maxRecDepth 100000
namespace Mine
open PySem PySem.W PySem.Calls PySem.Spec PyProof.Rows

/-! ## the interpreter with its hints -/
section
variable {w : World} {K : Frag} {la : Addr} {ws : List Value} {m : Nat} {ns : List Int}
theorem call_hint (hK : kview K = kgood) : ∀ x k as H v H', CxOk (theG w K la ws m ns) x 40 → cfg.hcall k as H = some (v, H') → ClOk (theG w K la ws m ns) x k as H v H' := by
  intro x k as H v H' c e
  have e : hcallL k as H = some (v, H') := e
  unfold hcallL at e
  split at e
  · rename_i hk
    rw [Nat.eq_of_beq_eq_true hk]
    exact spill_hint hK c e
  · split at e
    · rename_i hk
      rw [Nat.eq_of_beq_eq_true hk]
      exact elem_hint hK c e
    · split at e
      · rename_i hk
        rw [Nat.eq_of_beq_eq_true hk]
        exact bits_hint hK c e
      · first | exact xN e | exact xS e | (obtain rfl := x1 e; clear e) | (obtain ⟨rfl, rfl⟩ := x2 e; clear e) | (obtain ⟨rfl, rfl, rfl⟩ := x3 e; clear e) | (exfalso; cases e; done) | cases e
theorem sound1 (hK : kview K = kgood) (f : Nat) : Sound (theG w K la ws m ns) (40 + f) (run cfg f) :=
  run_ok (okF (kOk hK) same1 okV (call_hint hK)) f
end
end Mine

set_option maxRecDepth 100000
namespace Mine
open PySem PySem.W PySem.Calls PySem.Spec PyProof.Rows

/-! ## the law's first display -/
theorem law_body : lawFn.body = .Assign [tgX] (.Tuple [jugX, bankX] (lK 5) (lP 18)) (lP 19) :: lawRest := by kernel_rfl
theorem csc_names : lawCsc.names = [(Str.ofString ".0", .local), (Str.ofString "cell", .local), (Str.ofString "int", .globalImplicit)] := by kernel_rfl
theorem csc_kind : lawCsc.kind = .function := by kernel_rfl
section
variable {w : World} {K : Frag} {la : Addr} {ws : List Value} {m : Nat} {ns : List Int} {x : Cx} {n : Nat} {E : Value → Shared → Prop}
theorem csc_kindOf {C : Addr} {y : Str} {k : NameKind} (env : Env) (h : lawCsc.names.lookup y = some k) : (compEnvC lawCsc [] C env).kindOf y = some k := by
  show (lawCsc.names.map fun (n, k) => if (k == NameKind.free && env.scope.kind == .function && env.kindOf n == some .cell) then (n, NameKind.cell) else (n, k)).lookup y = _
  rw [csc_names] at h ⊢
  exact h
theorem int_elt (hK : kview K = kgood) (c : CxOk (theG w K la ws m ns) x (n + 1)) {C : Addr} {oC : Obj} {m₂ : Str → Option Value} {v : Int} {t : Tok} {p1 p2 p3 : Pos} {s : Shared} (hN : LCg.NsObj oC m₂) (hC : s.heap.get? C = some oC) (hm : m₂ (Str.ofString "cell") = some (.int v t)) (keep : ∀ b o, x.h₀.get? b = some o → s.heap.get? b = some o)
    {Q : Value → Shared → Prop} (hQ : Q (.int v t) s) : wpAny (model (theG w K la ws m ns).prog (theG w K la ws m ns).w) x.A (eval (.Call (.Name "int" p1) [.Name "cell" p2] [] p3) (compEnvC lawCsc [] C x.env)) Q E s := by
  have O := okF (g := theG w K la ws m ns) (kOk hK) same1 okV (call_hint hK)
  obtain ⟨hd, u, hv, hu⟩ := O.gl (Str.ofString "int") (.bi 5) (by decide +kernel) (by kernel_rfl)
  obtain ⟨p, loose, mg, mb, T⟩ := c.T
  have fin : wpAny (model (theG w K la ws m ns).prog (theG w K la ws m ns).w) x.A (callWith p3 u [] (backTo p3 (starEach [.Name "cell" p2] (compEnvC lawCsc [] C x.env))) []) Q E s := by
    have := hv ⟨[], []⟩
    first | exact xN this | exact xS this | (obtain rfl := x1 this; clear this) | (obtain ⟨rfl, rfl⟩ := x2 this; clear this) | (obtain ⟨rfl, rfl, rfl⟩ := x3 this; clear this) | (exfalso; cases this; done) | cases this
    show wpAny _ _ (callWith p3 (.type "int") [] _ []) Q E s
    refine call_args (P := fun _ => True) (by intro e he; rw [List.mem_singleton] at he; subst he; rfl) (keeps_bi (by intro a z; cases z)) (args_cons ?_ rfl)
    refine wpAny_Name (wpAny_loadName_local csc_kind (csc_kindOf _ (by rw [csc_names]; decide +kernel)) (hN.ns hC) hm ?_) (by decide +kernel)
    exact args_nil ⟨trivial, call_int_int hQ⟩
  refine fcall (by intro o n p z; cases z) ?_
  refine Name_function_global csc_kind (csc_kindOf _ (by rw [csc_names]; decide +kernel)) ?_ hd
  rcases hu with hu | ⟨h1, h2, h3⟩
  · exact loadGlobal_global (by show s.heap.Ns x.env.globals mg; rw [c.eg]; exact T.g.keeps keep) (mg_of c.X T.g hu) fin
  · exact loadGlobal_builtin (by show s.heap.Ns x.env.globals mg; rw [c.eg]; exact T.g.keeps keep) (mg_none_of c.X T.g h1) (by show s.heap.Ns x.env.builtins mb; rw [c.eb]; exact T.b.keeps keep) ((T.builtins _ h3).trans h2) fin
theorem take_snoc {α : Type} {l : List α} {i : Nat} {a : α} (h : l[i]? = some a) : l.take (i + 1) = l.take i ++ [a] := by
  rw [List.take_add_one, h]; rfl
theorem rest_ok (hK : kview K = kgood) (c : CxOk (theG w K la ws m ns) x (n + 1)) {vs : List Value} {ms : List Int} (hI : IntsAre vs ms) {p6 p7 p8 : Pos} {s : Shared} {mm : Str → Option Value} {Ss : List (Addr × Obj) → Prop} {Fin : List Value → List (Addr × Obj) → Prop} {news : List (Addr × Obj)} (hS : Ss news) (hF : ∀ ys, IntsAre ys ms → Fin ys news) :
    ∀ (k i : Nat) (ys : List Value), i + k = vs.toArray.size → IntsAre ys (ms.take i) →
      LCg.CompRest (theG w K la ws m ns).prog (theG w K la ws m ns).w x.A x.h₀ x.L mm x.env (.Call (.Name "int" p6) [.Name "cell" p7] [] p8) (Str.ofString "cell") lawCsc [] s Ss (fun i v => vs.toArray[i]? = some v) Fin k i ys news
  | 0, i, ys, e, hy => by
    refine LCg.CompRest.zero (hF ys ?_)
    rw [List.size_toArray, hI.length] at e
    rwa [List.take_of_length_le (by omega)] at hy
  | k + 1, i, ys, e, hy => by
    refine LCg.CompRest.succ fun v I oI C oC D m₂ h tk E' hP hN hm F N off ne => ?_
    rw [List.size_toArray, hI.length] at e
    obtain ⟨a, ha⟩ : ∃ a, ms[i]? = some a := ⟨_, List.getElem?_eq_getElem (by omega)⟩
    obtain ⟨t, ht⟩ := hI.get i a ha
    have hv : v = .int a t := by
      have h : vs[i]? = some v := by simpa using hP
      rw [ht] at h
      exact (Option.some.inj h).symm
    subst hv
    refine int_elt (s := { s with heap := h, toks := tk }) hK c hN (N (C, oC) (by simp)).1 hm F.keep ?_
    refine LCg.CompEnd.intro F N news (fun _ h => h) off hS (rest_ok hK c hI hS hF k (i + 1) (ys ++ [.int a t]) (by rw [List.size_toArray, hI.length]; omega) ?_)
    rw [take_snoc ha]
    exact hy.append (.cons a t .nil)
end
end Mine

set_option maxRecDepth 100000
namespace Mine
open PySem PySem.W PySem.Calls PySem.Spec PyProof.Rows

section
variable {w : World} {K : Frag} {la : Addr} {ws : List Value} {m : Nat} {ns : List Int} {x : Cx} {n : Nat} {E : Value → Shared → Prop}
theorem emptyD_is {g : G} : ({ cls := .type "dict", data := .dict #[] } : Obj).IsDictOf (strKind g.prog g.w) [] := by
  obtain ⟨o, ho, hd⟩ := Heap.dictOf_iff.mp (Heap.DictOf.new (knd := strKind g.prog g.w) (default : Heap))
  rw [Heap.get?_push_size _ rfl] at ho
  exact (Option.some.inj ho) ▸ hd
theorem off1_mem {D : Addr} : ∀ {l : List (Addr × Obj)}, LCg.Off1 D l → ∀ p ∈ l, p.1 ≠ D
  | [], _, _, h => nomatch h
  | _ :: _, x, p, h => by
    rcases List.mem_cons.mp h with rfl | h
    · exact x.1
    · exact off1_mem x.2 p h
theorem jug_new (hK : kview K = kgood) (c : CxOk (theG w K la ws m ns) x (n + 1)) (hfm : x.fm = none) (k : ScOk lawFn.scope x.env) (hla : x.h₀.IsList la ws.toArray) (hI : IntsAre ws ns) (hlen : ws.length ≤ 100000) :
    EvOk (theG w K la ws m ns) x jugX l0 ⟨0, []⟩ (.loc 0) H0 := by
  intro W σ s Q E S hQ
  have mp0 : W.mp = [] := by
    cases h : W.mp with
    | nil => rfl
    | cons q r => have := S.nx q (by rw [h]; exact List.mem_cons_self); exact absurd this (Nat.not_lt_zero _)
  obtain ⟨led, N, _⟩ := S.led
  have F0 : Fr x.h₀ x.L s.heap σ.m := by have := S.F; rw [hfm] at this; exact this
  have old := S.old
  have hdn := S.fresh (Nat.le_refl s.heap.objs.size)
  obtain ⟨⟨_, hdb, _⟩, hloc, _⟩ := S.lr.2 (Str.ofString "script") (.ext 0) (by decide +kernel) (by kernel_rfl)
  have hkd : x.env.kindOf (Str.ofString "script") = some .local := by
    rcases k (Str.ofString "script") .local (by kernel_rfl) with h | ⟨h, _⟩
    · exact h
    · first | exact xN h | exact xS h | (obtain rfl := x1 h; clear h) | (obtain ⟨rfl, rfl⟩ := x2 h; clear h) | (obtain ⟨rfl, rfl, rfl⟩ := x3 h; clear h) | (exfalso; cases h; done) | cases h
  obtain ⟨us, hus, hvs⟩ := hloc hkd
  have hx := hvs.isX
  obtain ⟨a, wl, nl, rfl, hX, hI0⟩ := hx
  have hI0' : IntsAre wl ns := hI0
  have N0 : News x.h₀ x.L s.heap (σ.own ++ x.out ++ W.X) := fun p hp => N p (by rw [List.append_assoc, List.append_assoc, ← List.append_assoc σ.own]; exact List.mem_append_right _ hp)
  have hL : s.heap.IsList a wl.toArray := by
    rcases hX with h | ⟨_, h⟩
    · exact ⟨_, (N0 _ (List.mem_append_right _ h)).1, rfl, nl, rfl⟩
    · have h : (a, wl, nl) = (la, ws, m) := h
      first | exact xN h | exact xS h | (obtain rfl := x1 h; clear h) | (obtain ⟨rfl, rfl⟩ := x2 h; clear h) | (obtain ⟨rfl, rfl, rfl⟩ := x3 h; clear h) | (exfalso; cases h; done) | cases h
      obtain ⟨o, e1, e2⟩ := hla
      exact ⟨o, S.F.keep _ _ e1, e2⟩
  have hsz : wl.toArray.size ≤ sizeLine := by rw [List.size_toArray, hI0'.length, ← hI.length, sizeLine_eq]; omega
  unfold jugX cellsX
  refine wpAny_Dict_walk (knd := strKind (theG w K la ws m ns).prog (theG w K la ws m ns).w) rfl rfl (by simp) (by simp) ?_
  refine pairTrees_cons_walk (wpAny_Constant_str ?_)
  have F1 := F0.push { cls := .type "dict", data := .dict #[] }
  have N1 := News.push F0 N0 { cls := .type "dict", data := .dict #[] }
  have hL1 : (s.heap.push { cls := .type "dict", data := .dict #[] }).IsList a wl.toArray := hL.push _
  refine LCg.ListComp_U (h₀ := x.h₀) (L := x.L) (m := σ.m) (cl := []) F1 (by unfold closureFor; rw [csc_names]; rfl) (by rw [csc_names]; decide +kernel) csc_kind (by rw [csc_names]; decide +kernel) (by rw [csc_names]; decide +kernel) ?_
  refine Subscript_ (wpAny_Name (wpAny_loadName_local c.ek hkd (S.ns.keeps fun b o e => Heap.get?_push_of_some _ e) hus ?_) hdb)
  refine wpAny_Slice (wpAny_pure ?_)
  show wpAny _ _ (eval (.Constant (.int 20) (lK 3) (lP 10)) x.env) _ _ _
  refine wpAny_Constant_int (wpAny_pure ?_)
  refine slice_list (s := ⟨s.heap.push { cls := .type "dict", data := .dict #[] }, _, _, _, _⟩) F1 N1 hL1 .none (.int 20 _) (fun h2 F2 N2 => ?_) (hsz := hsz)
  have hI2 : IntsAre (slicePick wl.toArray none (some 20) none).toList (ns.take 20) := slice_ints_uptoW hI0' (by decide)
  refine LCg.CompSrc.ledger c.hand F2 N2 List.mem_cons_self (Nat.le_trans (slicePick_size_le _ _ _ _) hsz) fun gg => ?_
  refine rest_ok (vs := (slicePick wl.toArray none (some 20) none).toList) hK c hI2 (.inr ⟨_, List.mem_cons_self, rfl, _, rfl⟩) (fun ys hys => ?_) _ 0 [] (by simp) (by rw [List.take_zero]; exact .nil)
  intro D h3 tk3 F3 N3 o3
  refine pairTrees_cons_walk (wpAny_Constant_str (wpAny_Constant_int (pairTrees_nil_walk ?_)))
  have oD := off1_mem o3
  have hD3 := N3 (D, LCg.lst ys) List.mem_cons_self
  have hd3 := N3 (s.heap.objs.size, { cls := .type "dict", data := .dict #[] }) (by simp)
  have hne : s.heap.objs.size ≠ D := oD (s.heap.objs.size, { cls := .type "dict", data := .dict #[] }) (by simp)
  refine ⟨[(cellsS, .ref D), (atS, .int 0 _)], ⟨strKind_is _ _ _ _, rfl, strKind_is _ _ _ _, rfl, trivial⟩, Heap.dictOf_iff.mpr ⟨_, hd3.1, emptyD_is⟩, fun h4 hD4 hs4 => ?_⟩
  obtain ⟨o', ho', hdi⟩ := Heap.dictOf_iff.mp hD4
  have e : ∀ t, merged [] [(cellsS, Value.ref D), (atS, .int 0 t)] = [(cellsS, Value.ref D), (atS, .int 0 t)] := fun t => by simp [merged, stored, str_ne]
  rw [e] at hdi
  have F4 : Fr x.h₀ x.L h4 σ.m := F3.change hs4 hd3.2.1 hd3.2.2
  have hold : ∀ p ∈ σ.own ++ x.out ++ W.X, p.1 ≠ s.heap.objs.size ∧ p.1 ≠ D := fun p hp => ⟨Nat.ne_of_lt (old p hp), oD p (by simp only [List.mem_cons]; exact .inr (.inr hp))⟩
  have le : W.le ⟨(D, lstObj ys ys.length) :: W.X, [(0, s.heap.objs.size)]⟩ := ⟨fun _ h => List.mem_cons_of_mem _ h, fun q h => by rw [mp0] at h; cases h⟩
  refine hQ ⟨(D, lstObj ys ys.length) :: W.X, [(0, s.heap.objs.size)]⟩ h4 _ _ le ?_ (.loc List.mem_cons_self)
  refine S.back (led := [(s.heap.objs.size, o')]) le (by rw [hfm]; exact F4) (fun p hp => ?_) ⟨fun i ao hl => ?_, fun q hq => ?_⟩ (fun p hp q hq => ?_) (fun q hq p hp => ?_) (fun q hq => ?_) (fun p hp q hq => ?_)
  · simp only [List.mem_append, List.mem_cons, List.not_mem_nil, or_false] at hp
    rcases hp with ((rfl | hp) | hp) | rfl | hp
    · exact ⟨ho', hd3.2⟩
    · have z := N3 p (by simp [hp]); exact ⟨hs4.extBut _ _ (hold p (by simp [hp])).1 z.1, z.2⟩
    · have z := N3 p (by simp [hp]); exact ⟨hs4.extBut _ _ (hold p (by simp [hp])).1 z.1, z.2⟩
    · exact ⟨hs4.extBut _ _ (Ne.symm hne) hD3.1, hD3.2⟩
    · have z := N3 p (by simp [hp]); exact ⟨hs4.extBut _ _ (hold p (by simp [hp])).1 z.1, z.2⟩
  · have hl : look i [(0, AO.dict [(.str cellsN, .ext 1), (.str atN, .int 0)])] = some ao := hl
    rw [look_cons] at hl
    by_cases hi : 0 = i
    · rw [if_pos hi] at hl
      subst hi
      first | exact xN hl | exact xS hl | (obtain rfl := x1 hl; clear hl) | (obtain ⟨rfl, rfl⟩ := x2 hl; clear hl) | (obtain ⟨rfl, rfl, rfl⟩ := x3 hl; clear hl) | (exfalso; cases hl; done) | cases hl
      exact ⟨_, o', List.mem_cons_self, List.mem_cons_self, .inr (.inr ⟨cellsS, atS, .ext 1, .int 0, .ref D, _, by kernel_rfl, .ext ⟨D, ys, ys.length, rfl, .inl List.mem_cons_self, hys⟩, .int 0 _, hdi⟩), by simp⟩
    · rw [if_neg hi] at hl; cases hl
  · rw [List.mem_singleton] at hq; subst hq; exact ⟨o', List.mem_cons_self⟩
  · rw [List.mem_singleton] at hp hq; subst hp hq; exact ⟨fun _ => rfl, fun _ => rfl⟩
  · rw [List.mem_singleton] at hq; subst hq
    simp only [List.mem_append, List.mem_cons] at hp
    rcases hp with (hp | hp) | rfl | hp
    · exact (hold p (by simp [hp])).1
    · exact (hold p (by simp [hp])).1
    · exact Ne.symm hne
    · exact (hold p (by simp [hp])).1
  · rw [List.mem_singleton] at hq; subst hq; show (0 : Nat) < 2 * 1; decide
  · rcases List.mem_cons.mp hp with rfl | hp
    · exact Ne.symm (hold q (List.mem_append_left _ hq)).2
    · exact S.xo p hp q hq
end
end Mine

set_option maxRecDepth 100000
namespace Mine
open PySem PySem.W PySem.Calls PySem.Spec PyProof.Rows

/-! ## the law's body -/
theorem lawGo_some {n : Nat} (h : lawGo n = true) : ∃ i h1 l1 l2 h2, (run cfg n).ev lawFn.scope bankX l0 H0 = some (.loc i, h1) ∧ bindT lawFn.scope tgX (.tup [.loc 0, .loc i]) l0 = some l1 ∧ (run cfg n).ex lawFn.scope lawRest l1 h1 = some (.ret (.bool true), l2, h2) := by
  unfold lawGo at h
  generalize run cfg n = r at h ⊢
  split at h
  · rename_i v h1 e1
    split at h
    · rename_i i e0
      split at h
      · rename_i l1 e2
        split at h
        · rename_i f l2 h2 e3
          refine ⟨i, h1, l1, l2, h2, locOf_eq e0 ▸ e1, e2, ?_⟩
          rw [e3]
          cases f with
          | ret v =>
            cases v <;> first | exact absurd (show false = true from h) Bool.false_ne_true | skip
            rename_i b
            rw [show b = true from h]
          | _ => exact absurd (show false = true from h) Bool.false_ne_true
        · first | exact xN h | exact xS h | (obtain rfl := x1 h; clear h) | (obtain ⟨rfl, rfl⟩ := x2 h; clear h) | (obtain ⟨rfl, rfl, rfl⟩ := x3 h; clear h) | (exfalso; cases h; done) | cases h
      · first | exact xN h | exact xS h | (obtain rfl := x1 h; clear h) | (obtain ⟨rfl, rfl⟩ := x2 h; clear h) | (obtain ⟨rfl, rfl, rfl⟩ := x3 h; clear h) | (exfalso; cases h; done) | cases h
    · first | exact xN h | exact xS h | (obtain rfl := x1 h; clear h) | (obtain ⟨rfl, rfl⟩ := x2 h; clear h) | (obtain ⟨rfl, rfl, rfl⟩ := x3 h; clear h) | (exfalso; cases h; done) | cases h
  · first | exact xN h | exact xS h | (obtain rfl := x1 h; clear h) | (obtain ⟨rfl, rfl⟩ := x2 h; clear h) | (obtain ⟨rfl, rfl, rfl⟩ := x3 h; clear h) | (exfalso; cases h; done) | cases h
section
variable {w : World} {K : Frag} {la : Addr} {ws : List Value} {m : Nat} {ns : List Int} {x : Cx} {n : Nat} {E : Value → Shared → Prop}
theorem tup_ok {g : G} {x : Cx} {d e : Expr} {k : Nat} {p : Pos} {l : L} {H H1 H2 : Mine.H} {v1 v2 : AV} (hd : EvOk g x d l H v1 H1) (he : EvOk g x e l H1 v2 H2) (h : dep 8 (.tup [v1, v2]) = true) (n1 : notStar d = true) (n2 : notStar e = true) : EvOk g x (.Tuple [d, e] k p) l H (.tup [v1, v2]) H2 := by
  intro W σ s Q E S hQ
  refine wpAny_Tuple (args_cons (hd W σ s _ E S fun W1 g1 tk1 u1 le1 S1 r1 => args_cons (he W1 σ { s with heap := g1, toks := tk1 } _ E S1 fun W2 g2 tk2 u2 le2 S2 r2 => args_nil ⟨by rw [sizeLine_eq]; simp, ?_⟩) ?_) ?_)
  · exact hQ _ _ tk2 _ ((le1.trans le2).trans (Wd.le_imm _)) (S2.newT (s := { s with heap := g2, toks := tk2 }) (ws := [u1, u2])) (VR.newT (.cons (r1.mono le2) (.cons r2 .nil)) h)
  · cases e <;> first | rfl | cases n2
  · cases d <;> first | rfl | cases n1
theorem law_nc : notConst (.Tuple [jugX, bankX] (lK 5) (lP 18)) = true := by kernel_rfl
theorem law_sw (ln : Nat) (env : Env) : swapsWithSole [tgX] (.Tuple [jugX, bankX] (lK 5) (lP 18)) ln env = pure false := by kernel_rfl
theorem law_ns : notStar jugX = true ∧ notStar bankX = true := ⟨by kernel_rfl, by kernel_rfl⟩
theorem law_ok (hK : kview K = kgood) (c : CxOk (theG w K la ws m ns) x 100) (hfm : x.fm = none) (k : ScOk lawFn.scope x.env) (hla : x.h₀.IsList la ws.toArray) (hI : IntsAre ws ns) (hlen : ws.length ≤ 100000) :
    ∃ l' H', ExOk (theG w K la ws m ns) x lawFn.body l0 ⟨0, []⟩ (.ret (.bool true)) l' H' := by
  obtain ⟨i, h1, l1, l2, h2, e1, e2, e3⟩ := lawGo_some law_go
  have S60 := sound1 (w := w) (la := la) (ws := ws) (m := m) (ns := ns) hK 60
  generalize run cfg 60 = r at e1 e3 S60
  have S60 : Sound (theG w K la ws m ns) 100 r := S60
  refine ⟨l2, h2, ?_⟩
  have hnc := law_nc
  have hsw := law_sw
  have hE := tup_ok (k := lK 5) (p := lP 18) (jug_new (n := 99) hK c hfm k hla hI hlen) (S60.ev x _ _ _ _ _ _ c k e1) rfl law_ns.1 law_ns.2
  rw [law_body]
  generalize Expr.Tuple [jugX, bankX] (lK 5) (lP 18) = e at hE hnc hsw ⊢
  generalize lP 19 = p
  generalize tgX = t at e2 hsw ⊢
  generalize lawRest = rest at e3 ⊢
  intro W σ s Q E S hQ
  refine wpAny_execs_cons (asgT c hfm k e2 hE hnc (hsw _ _) W σ s _ E S fun W1 σ1 g1 tk1 f1 le1 S1 rf1 => ?_)
  obtain rfl := rf1.isN
  exact S60.ex x _ _ _ _ _ _ _ c hfm k e3 W1 σ1 { s with heap := g1, toks := tk1 } Q E S1 fun W2 σ2 g2 tk2 f2 le2 S2 rf2 => hQ W2 σ2 g2 tk2 f2 (le1.trans le2) S2 rf2
end
end Mine

set_option maxRecDepth 100000
namespace Mine
open PySem PySem.W PySem.Calls PySem.Spec PyProof.Rows

/-! ## the call of the law -/
section
variable {w : World} {K : Frag} {la : Addr} {ws : List Value} {ns : List Int}
theorem law_kind : lawFn.scope.kind = .function := by kernel_rfl
theorem theG_prog : (theG w K la ws 0 ns).prog = PySem.Challenge.pw_rg0219_01 := rfl
theorem law_end {g : G} {x : Cx} {B : List Stmt} {l' : L} {H' : H} {W : Wd} {σ : Sg} {s : Shared} {h₁ : Heap} {tk : Nat} (hX : ExOk g x B l0 ⟨0, []⟩ (.ret (.bool true)) l' H') (hS : St g x W l0 ⟨0, []⟩ σ h₁) :
    wpAny (model g.prog g.w) x.A (execs B x.env) (fun f s' => ∃ h' tk, Except.ok (Flow.ret (match f with | .ret v => v | _ => .none)) = Except.ok (ε := Value) (.ret (.bool true)) ∧ s' = { s with heap := h', toks := tk } ∧ ∀ b o, x.h₀.get? b = some o → h'.get? b = some o) (fun _ _ => False) { s with heap := h₁, toks := tk } := by
  refine hX W σ { s with heap := h₁, toks := tk } _ _ hS fun W' σ' h' tk' f le S' rf => ?_
  have hf : f = .ret (.bool true) := by
    obtain ⟨u, rfl, r⟩ := rf.isR
    rw [r.isB]
  exact ⟨h', tk', by rw [hf], rfl, S'.F.keep⟩
theorem law_call {B : List Stmt} (hB : ∀ x, CxOk (theG w K la ws 0 ns) x 100 → x.fm = none → ScOk lawFn.scope x.env → x.h₀.IsList la ws.toArray → ∃ l' H', ExOk (theG w K la ws 0 ns) x B l0 ⟨0, []⟩ (.ret (.bool true)) l' H') (hK : kview K = kgood) {s : Shared} (KI : K.In s.heap) {p : Program} {loose : List Str} {mg mb : Str → Option Value} (T : TopRead p loose mg mb s.heap) (hla : s.heap.IsList la ws.toArray) (hI : IntsAre ws ns)
    {name : Str} {params : Arguments} {pm cd doc : Value} {fa : Addr} {o : Obj} (ho : s.heap.get? fa = some o) (hd : o.data = .func (docDef name params B lawFn.scope pm cd doc)) (hcd : s.heap.CodeRec cd name)
    (p1 : params.posonlyargs = []) (p2 : params.kwonlyargs = []) (p3 : params.vararg = none) (p4 : params.kwarg = none) (pn : params.args.map (·.arg) = [Str.ofString "script"]) :
    codeAny (model PySem.Challenge.pw_rg0219_01 w) callerA (.call (.ref fa) ⟨[.ref la], []⟩) (fun res s' => ∃ h' tk, res = .ok (.ret (.bool true)) ∧ s' = { s with heap := h', toks := tk } ∧ ∀ b o, s.heap.get? b = some o → h'.get? b = some o) s := by
  have hsn : lawFn.scope.names.lookup (Str.ofString "script") = some .local := by kernel_rfl
  have hfr : ∀ p ∈ lawFn.scope.names, p.2 ≠ .free := by decide +kernel
  refine call_cellsN_ret (name := name) (params := params) (body := B) (scope := lawFn.scope) (binds := [(Str.ofString "script", .ref la)]) (by decide +kernel) ho hd T.nolimit hcd ?_ (fun y hy => ?_) (by decide +kernel) (fun h₁ tk cells F N Y => ?_) (by kernel_rfl) (by kernel_rfl) law_kind
  · rw [binds_plain (fd := docDef name params B lawFn.scope pm cd doc) p1 p2 p3 p4 rfl (by show _ = (params.args.map (·.arg)).length; rw [pn]; rfl) (by show (params.args.map (·.arg)).Nodup; rw [pn]; decide +kernel)]
    show pure ((params.args.map (·.arg)).zip [Value.ref la]) = _
    rw [pn]; rfl
  · rw [List.mem_singleton] at hy; subst hy; exact .inl hsn
  · obtain ⟨Y1, Y2⟩ := CellsAre.at Y
    have hcell : ∀ y, lawFn.scope.names.lookup y = some .cell → ∃ cc o, (cellsFrom (s.heap.objs.size + 1) lawFn.scope.names []).lookup y = some cc ∧ (cc, o) ∈ cells ∧ o.data = .cell (bindC (envOfC name lawFn.scope s.heap.objs.size fa cd).kindOf [(Str.ofString "script", .ref la)] (fun _ => none) y) := fun y hy => by
      obtain ⟨cc, h1, h2⟩ := lookup_cells (m := s.heap.objs.size + 1) hy
      obtain ⟨o, h3, h4⟩ := Y1 y cc h2
      exact ⟨cc, o, h1, h3, h4⟩
    let x : Cx := { A₀ := callerA, A := callerA.deeper (envOfC name lawFn.scope s.heap.objs.size fa cd), base := s.heap, h₀ := s.heap, outer := [], L := s.heap.objs.size, fe := envOfC name lawFn.scope s.heap.objs.size fa cd, env := envOfC name lawFn.scope s.heap.objs.size fa cd, fm := none, out := [] }
    have cx : CxOk (theG w K la ws 0 ns) x 100 :=
      { B := below_caller s.heap, hA := rfl, hf := rfl, hk := law_kind, X := KI, T := ⟨p, loose, mg, mb, T⟩, hand := rfl
        dp := by show callerA.depth + 1 + 100 < _; decide +kernel
        un := by show callerA.units + 3 + 16 * 100 + 200 < _; decide +kernel
        ek := law_kind, eg := rfl, eb := rfl
        sm := by
          have h := KOk.rest (kOk (w := w) (la := la) (ws := ws) (m := 0) (ns := ns) hK)
          have h8 : (K.lookup sysModules).isSome = true := by
            simp only [Prod.mk.injEq] at h
            exact h.2.2.2.2.2.2.2
          obtain ⟨o, ho⟩ := Option.isSome_iff_exists.mp h8
          exact ⟨o, KI _ _ ho⟩
        cf := fun y hy => by
          rcases hy with hy | hy
          · obtain ⟨cc, o, h1, _⟩ := hcell y hy; exact ⟨cc, h1⟩
          · exact absurd rfl (hfr _ (mem_of_lookup' hy))
        ci := fun y z cc hy hz => by
          have := cells_apart (acc := []) (fun _ h => nomatch h) (fun _ h => nomatch h) _ (mem_of_lookup' hy) _ (mem_of_lookup' hz) rfl
          exact congrArg Prod.fst this }
    have hS : St (theG w K la ws 0 ns) x ⟨[], []⟩ l0 ⟨0, []⟩ ⟨bindL (envOfC name lawFn.scope s.heap.objs.size fa cd).kindOf [(Str.ofString "script", .ref la)] (fun _ => none), cells⟩ h₁ :=
      { F := F
        md := .inl ⟨rfl, rfl⟩
        led := ⟨[], fun p hp => N p (by
          have hp : p ∈ [] ++ cells ++ [] ++ [] := hp
          simpa using hp), ⟨(fun i ao e => by cases e), (fun q hq => by cases hq)⟩⟩
        fn := fun _ h => nomatch h
        ap := fun _ h => nomatch h
        nx := fun _ h => nomatch h
        xo := fun _ h => nomatch h
        oo := fun _ _ _ h => nomatch h
        ce := fun _ y hy => by
          obtain ⟨cc, o, h1, h2, h3⟩ := hcell y hy
          exact ⟨cc, o, _, h1, h2, h3⟩
        lr := by
          refine ⟨by decide +kernel, fun y v hy e => ?_⟩
          have hy' : y = Str.ofString "script" ∧ v = .ext 0 := by
            have e' : (match Nat.beq (nmS "script") (nm y) with | true => some (AV.ext 0) | false => none) = some v := look_match.symm.trans e
            split at e'
            · rename_i hq
              first | exact xN e' | exact xS e' | (obtain rfl := x1 e'; clear e') | (obtain ⟨rfl, rfl⟩ := x2 e'; clear e') | (obtain ⟨rfl, rfl, rfl⟩ := x3 e'; clear e') | (exfalso; cases e'; done) | cases e'
              exact ⟨(nm_inj (by decide +kernel) (Nat.eq_of_beq_eq_true hq)).symm, rfl⟩
            · first | exact xN e' | exact xS e' | (obtain rfl := x1 e'; clear e') | (obtain ⟨rfl, rfl⟩ := x2 e'; clear e') | (obtain ⟨rfl, rfl, rfl⟩ := x3 e'; clear e') | (exfalso; cases e'; done) | cases e'
          obtain ⟨rfl, rfl⟩ := hy'
          have hkl : x.env.kindOf (Str.ofString "script") = some .local := hsn
          refine ⟨⟨hy, by decide +kernel, by decide +kernel⟩, fun _ => ⟨.ref la, ?_, .ext ⟨la, ws, 0, rfl, .inr ⟨rfl, rfl⟩, hI⟩⟩, fun hk => ?_⟩
          · exact bindL_at hkl (by simp) List.mem_cons_self
          · rw [hkl] at hk
            rcases hk with hk | hk <;> cases hk }
    obtain ⟨l', H', hX⟩ := hB x cx rfl (fun y kd h => .inl h) hla
    have h1 := law_end (s := s) (tk := tk) hX hS
    rw [theG_prog] at h1
    exact h1
end
end Mine

set_option maxRecDepth 100000

namespace Mine
open PySem PySem.W PySem.Calls PySem.Spec PyProof.Rows

/-! ## the row -/
noncomputable def lawDef : DefRec := match PySem.W.defOf qP (Str.ofString "law") with
  | some (d, _) => d
  | none => ⟨Str.ofString "", ⟨[], [], none, [], [], none, []⟩, [], noFn.scope, ⟨0, 0, 0, 0⟩⟩
theorem lawDef_is : PySem.W.defOf qP (Str.ofString "law") = some (lawDef, []) := by kernel_rfl
theorem lawDef_body : lawDef.body = lawFn.body := by kernel_rfl
theorem lawDef_scope : lawDef.scope = lawFn.scope := by kernel_rfl
theorem lawDef_params : lawDef.params.posonlyargs = [] ∧ lawDef.params.kwonlyargs = [] ∧ lawDef.params.vararg = none ∧ lawDef.params.kwarg = none ∧ lawDef.params.args.map (·.arg) = [Str.ofString "script"] ∧ lawDef.params.defaults = [] := by
  refine ⟨?_, ?_, ?_, ?_, ?_, ?_⟩ <;> kernel_rfl
theorem row_prog : PySem.Challenge.rw_rg0219_01.row.toRowW.prog = PySem.Challenge.pw_rg0219_01 := rfl
theorem walk_own : WalkO qP looseL (fun _ _ => True) (fun _ h => Seen h) PySem.Challenge.rw_rg0219_01.row.toRowW lawDef [] fun f vs => PySem.call f vs := by
  obtain ⟨p1, p2, p3, p4, p5, p6⟩ := lawDef_params
  intro w s₀ s₁ mg mb G Y fa o pm cd doc dV kV ho hd hcd hD hmg hg args vals as hpre hlay hrd hwl hlo
  refine Ground.open G ?_
  intro T B D TE TW
  clear G B D TE TW hmg
  obtain ⟨K, KI, hK⟩ := Y
  have he := Dflts.none hD p6
  subst he
  have he := Dflts.noKw hD
  subst he
  have hd' := fd_plain hd
  clear hd hD
  rw [lawDef_body, lawDef_scope] at hd'
  wrow_args hpre hlay hrd hwl hlo
  rename_i ns _ _ _ _ _ _ _ la ws _ hL _ _ _ hI _ hc _
  rw [row_prog]
  have hlen : ws.length ≤ 100000 := by rw [hI.length]; omega
  have hcall := law_call (w := w) (K := K) (fun x c hfm k hla => law_ok hK c hfm k hla hI hlen) hK KI (topRead_of T) hL hI ho hd' hcd p1 p2 p3 p4 p5
  refine enter_call (codeAny_mono hcall ?_)
  rintro res s' ⟨h', tk, rfl, rfl, keep⟩
  refine ⟨.inl ⟨.bool true, .bool true, [], rfl, raisesW_false (by wrow_none_raised), .bool true, ?_, unshared_nil⟩, .of_keep keep, rfl, .of_eq hg⟩
  wrow_post
theorem seen_keeps {h h' : Heap} (S : Seen h) (k : ∀ b o, h.get? b = some o → h'.get? b = some o) : Seen h' := by
  obtain ⟨K, KI, hK⟩ := S
  exact ⟨K, fun a o e => k _ _ (KI a o e), hK⟩
theorem ok_own : (chainsOk qP && opensWell PySem.Challenge.rw_rg0219_01.row.toRowW.prog && (frees PySem.Challenge.rw_rg0219_01.row.toRowW && PySem.Challenge.rw_rg0219_01.row.toRowW.within.isEmpty)) = true := by decide +kernel
theorem bare_own : PySem.Challenge.rw_rg0219_01.row.toRowW.prog.bare := ⟨rfl, rfl, rfl, rfl, rfl, by decide +kernel⟩
theorem promised_own : PySem.Challenge.rw_rg0219_01.row.toRowW.promised := by w_witness2
theorem row_holds (said : PySem.Challenge.rw_rg0219_01.row.wellSaid = true) : PySem.Challenge.rw_rg0219_01.row.Holds :=
  holds_open (q := qP) (loose := looseL) (Xt := fun _ => true) (XP := fun _ _ => True) (Yf := fun s => Seen s.heap) (Ya := fun _ => True) (YP := fun _ h => Seen h) (N := 6700) left_own
    (fun _ _ e => of_eq_true e) (fun _ _ _ S k => seen_keeps S k) (fun _ _ => trivial) (fun _ _ _ _ _ => trivial) lawDef_is (by kernel_rfl) (by kernel_rfl) (fun _ _ => recFacts_nil rfl) rfl said ok_own bare_own promised_own walk_own
theorem well0 : Fast.tw9446332074065402090 PySem.Challenge.rw_rg0219_01 = true := by kernel_rfl
theorem law_said : PySem.Challenge.rw_rg0219_01.wellSaid = true := by
  rw [Fast.te9446332074065402090]
  exact well0
end Mine
theorem PySem.Challenge.cw_rg0219_01_holds : PySem.Challenge.rw_rg0219_01.Holds :=
  PySem.W.holds_law Mine.law_said Mine.row_holds
