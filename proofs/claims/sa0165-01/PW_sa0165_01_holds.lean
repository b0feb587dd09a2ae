import PyProof.Rows.All
import Wide.All
import OpenK.AllK
import Wide.FinOn
import KE.KDictLaws
import KE.KDictAnyGet
import KE.KDictSum
import KE.KAnyBase
import KE.KItem
import Lean
import PySem.Challenge.RW_sa0165_01
set_option autoImplicit false
set_option linter.all false
set_option maxRecDepth 100000
set_option genSizeOf false
set_option tactic.hygienic false
namespace Mine
open PySem
inductive SV where
  | none
  | bool (c : Bool) (b : Bool)
  | int (c : Bool) (i : Int)
  | str (s : Str)
  | val (v : Value)
  | ref (t : Nat)
  | fam (t : Nat) (i : Int)
  | tup (l : List SV)
  | rng (c : Bool) (lo hi : Int)
inductive SO where
  | inst (C : Nat) (fs : List (Str × SV))
  | list (c : Bool) (l : List SV)
  | dict (c : Bool) (d : List (SV × SV))
  | fdict (d : List (SV × SV)) (e : Nat)
  | set (c : Bool) (l : List Int)
  | fam (ks : List Int) (f : Int → SO)
  | ffam (ks : List Int) (f : Int → SO) (i : Int) (o : SO)
  | cell (v : SV)
  | nocell
  | tab (b : Bool)
noncomputable abbrev Loc := List (Str × SV)
noncomputable abbrev Led := List SO
set_option genInjectivity false in
inductive Orc where
  | home (t : Nat) (i : Int)
  | bit (b : Bool)
  | look (r : Option SV)
  | put (d : List (SV × SV))
  | sput (l : List Int)
  | item (v : SV)
  | call (r : SV) (led : Led)
  | loop (loc : Loc) (led : Led)
  | comp (l : List SV) (led : Led)
set_option genInjectivity false in
structure En where
  sc : Scope
  cells : List (Str × Nat) := []
set_option genInjectivity false in
inductive Ob where
  | eqB (a b : Bool)
  | mem (i : Int) (ks : List Int)
  | look (d : List (SV × SV)) (k : SV) (r : Option SV)
  | put (d : List (SV × SV)) (k v : SV) (d' : List (SV × SV))
  | has (l : List Int) (k : Int) (b : Bool)
  | sput (l : List Int) (k : Int) (l' : List Int)
  | item (l : List SV) (i : Int) (v : SV)
  | bound (a b : Int)
  | fresh (i : Int) (ks : List Int)
  | same (a b : Int)
  | rising (l : List SV) (ns : List Int)
  | call (k : Nat) (f : Nat) (args : List SV) (led : Led) (r : SV) (led' : Led)
  | loop (k : Nat) (en : En) (st : Stmt) (loc : Loc) (led : Led) (loc' : Loc) (led' : Led)
  | comp (k : Nat) (en : En) (e : Expr) (loc : Loc) (led : Led) (l : List SV) (led' : Led)
structure St where
  loc : Loc
  led : Led
  orc : List Orc
inductive Fl where
  | next | cont | brk
  | ret (v : SV)
set_option genInjectivity false in
structure Fn where
  params : List Str
  body : List Stmt
  sc : Scope
set_option genInjectivity false in
structure Cl where
  init : Option Nat
  meths : List (Str × Nat)
  flds : List Str
set_option genInjectivity false in
structure Sta where
  glob : List (Str × SV)
  fns : List (Nat × Fn)
  cls : List (Nat × Cl)
  spec : List (Nat × Nat)
  lspec : List (Nat × Nat)
noncomputable def natsEq : List Nat → List Nat → Bool
  | [], [] => true
  | a :: x, b :: y => match Nat.beq a b with
    | true => natsEq x y
    | false => false
  | _, _ => false
noncomputable def sEq (a b : Str) : Bool := natsEq a.cps.toList b.cps.toList
noncomputable def look {α : Type} (x : Str) : List (Str × α) → Option α
  | [] => none
  | p :: r => match sEq p.1 x with
    | true => some p.2
    | false => look x r
noncomputable def lookN {α : Type} (x : Nat) : List (Nat × α) → Option α
  | [] => none
  | p :: r => match Nat.beq p.1 x with
    | true => some p.2
    | false => lookN x r
noncomputable def putS {α : Type} (x : Str) (v : α) : List (Str × α) → List (Str × α)
  | [] => [(x, v)]
  | p :: r => match sEq p.1 x with
    | true => (p.1, v) :: r
    | false => p :: putS x v r
noncomputable def hasN (x : Nat) : List Nat → Bool
  | [] => false
  | a :: r => match Nat.beq a x with
    | true => true
    | false => hasN x r
noncomputable def hasS (x : Str) : List Str → Bool
  | [] => false
  | a :: r => match sEq a x with
    | true => true
    | false => hasS x r
noncomputable abbrev R (α : Type) := Option (α × St × List Ob)
noncomputable def andThen {α β : Type} (x : R α) (f : α → St → R β) : R β := match x with
  | some (a, σ, o) => match f a σ with
    | some (b, σ', o') => some (b, σ', o ++ o')
    | none => none
  | none => none
noncomputable def ret {α : Type} (a : α) (σ : St) : R α := some (a, σ, [])
noncomputable def owe (o : Ob) (σ : St) : R Unit := some ((), σ, [o])
noncomputable def opt {α : Type} (x : Option α) (σ : St) : R α := match x with
  | some a => some (a, σ, [])
  | none => none
noncomputable def isTrue! (b : Bool) (σ : St) : R Unit := match b with
  | true => some ((), σ, [])
  | false => none
noncomputable def popBit (b : Bool) (σ : St) : R Bool := match σ.orc with
  | .bit r :: o => some (r, ⟨σ.loc, σ.led, o⟩, [.eqB b r])
  | _ => none
noncomputable def decideB (c b : Bool) (σ : St) : R Bool := match c with
  | true => ret b σ
  | false => popBit b σ
noncomputable def intLt (a b : Int) : Bool := match a, b with
  | .ofNat m, .ofNat n => Nat.blt m n
  | .ofNat _, .negSucc _ => false
  | .negSucc _, .ofNat _ => true
  | .negSucc m, .negSucc n => Nat.blt n m
noncomputable def intEq (a b : Int) : Bool := match a, b with
  | .ofNat m, .ofNat n => Nat.beq m n
  | .ofNat _, .negSucc _ => false
  | .negSucc _, .ofNat _ => false
  | .negSucc m, .negSucc n => Nat.beq m n
noncomputable def cInt (c : Bool) (f p : Bool) : SV := match c with
  | true => .bool true f
  | false => .bool false p
noncomputable def eqA : SV → SV → Option (Bool × Bool)
  | .int c a, .int d b => match c, d with
    | true, true => some (true, intEq a b)
    | _, _ => some (false, decide (a = b))
  | .str a, .str b => some (true, sEq a b)
  | .str _, .int _ _ => some (true, false)
  | .int _ _, .str _ => some (true, false)
  | _, _ => none
noncomputable def eqL : List SV → List SV → Option (Bool × Bool)
  | [], [] => some (true, true)
  | [], _ :: _ => some (true, false)
  | _ :: _, [] => some (true, false)
  | a :: x, b :: y => match eqA a b with
    | none => none
    | some (true, false) => (match eqL x y with | some _ => some (true, false) | none => none)
    | some (true, true) => eqL x y
    | some (false, p) => match eqL x y with
      | none => none
      | some (true, false) => some (true, false)
      | some (true, true) => some (false, p)
      | some (false, q) => some (false, p && q)
noncomputable def eqV (a b : SV) : Option (Bool × Bool) := match a, b with
  | .tup l, .tup m => eqL l m
  | a, b => eqA a b
noncomputable def dlook (k : SV) : List (SV × SV) → Option (Option SV)
  | [] => some none
  | p :: r => match eqV p.1 k with
    | some (true, true) => some (some p.2)
    | some (true, false) => dlook k r
    | _ => none
noncomputable def dput (k v : SV) : List (SV × SV) → Option (List (SV × SV))
  | [] => some [(k, v)]
  | p :: r => match eqV p.1 k with
    | some (true, true) => some ((p.1, v) :: r)
    | some (true, false) => (match dput k v r with | some r' => some (p :: r') | none => none)
    | _ => none
noncomputable def getChunk (σ : St) (t : Nat) : Option SO := σ.led[t]?
noncomputable def setChunk (σ : St) (t : Nat) (o : SO) : St := ⟨σ.loc, σ.led.set t o, σ.orc⟩
noncomputable def objOf (v : SV) (σ : St) : R SO := match v with
  | .ref t => match getChunk σ t with
    | some (.fam _ _) => none
    | some (.ffam _ _ _ _) => none
    | some o => some (o, σ, [])
    | none => none
  | .fam t i => match getChunk σ t with
    | some (.fam ks f) => some (f i, σ, [.mem i ks])
    | some (.ffam _ _ j o) => some (o, σ, [.same i j])
    | _ => none
  | _ => none
noncomputable def alloc (o : SO) (σ : St) : R SV := match σ.orc with
  | .home t i :: oc => match getChunk σ t with
    | some (.fam ks f) => some (.fam t i, ⟨σ.loc, σ.led.set t (.ffam (ks ++ [i]) f i o), oc⟩, [.fresh i ks])
    | _ => none
  | _ => some (.ref σ.led.length, ⟨σ.loc, σ.led ++ [o], σ.orc⟩, [])
noncomputable def setObj (v : SV) (o : SO) (σ : St) : R Unit := match v with
  | .ref t => some ((), setChunk σ t o, [])
  | .fam t i => match getChunk σ t with
    | some (.fam ks f) => some ((), setChunk σ t (.ffam ks f i o), [])
    | some (.ffam ks f j _) => some ((), setChunk σ t (.ffam ks f j o), [])
    | _ => none
  | _ => none
noncomputable def truth (v : SV) : Option (Bool × Bool) := match v with
  | .none => some (true, false)
  | .bool c b => some (c, b)
  | .int c i => match c with
    | true => some (true, !intEq i 0)
    | false => some (false, decide (i ≠ 0))
  | _ => none
noncomputable def atomOk : SV → Bool
  | .int _ _ => true
  | .str _ => true
  | _ => false
noncomputable def atomsOk : List SV → Bool
  | [] => true
  | a :: l => match atomOk a with
    | true => atomsOk l
    | false => false
noncomputable def keyOk : SV → Bool
  | .tup l => atomsOk l
  | v => atomOk v
noncomputable def isTup : SV → Bool
  | .tup _ => true
  | _ => false
noncomputable def kindsOk (k : SV) : List (SV × SV) → Bool
  | [] => true
  | p :: r => match isTup p.1, isTup k with
    | true, true => kindsOk k r
    | false, false => kindsOk k r
    | _, _ => false
noncomputable def dictGet (c : Bool) (d : List (SV × SV)) (k : SV) (σ : St) : R (Option SV) := andThen (isTrue! (keyOk k) σ) fun _ σ => match c with
  | true => andThen (isTrue! (kindsOk k d) σ) fun _ σ => opt (dlook k d) σ
  | false => match σ.orc with
    | .look r :: o => some (r, ⟨σ.loc, σ.led, o⟩, [.look d k r])
    | _ => none
noncomputable def lenOk (c : Bool) (n : Nat) (σ : St) : R Unit := match c with
  | true => isTrue! (Nat.blt n 1000) σ
  | false => owe (.bound n 999) σ
noncomputable def dictPut (c : Bool) (d : List (SV × SV)) (k v : SV) (σ : St) : R (List (SV × SV)) := andThen (isTrue! (keyOk k) σ) fun _ σ => andThen (lenOk c d.length σ) fun _ σ => match c with
  | true => andThen (isTrue! (kindsOk k d) σ) fun _ σ => opt (dput k v d) σ
  | false => match σ.orc with
    | .put d' :: o => some (d', ⟨σ.loc, σ.led, o⟩, [.put d k v d'])
    | _ => none
noncomputable def setHas (l : List Int) (k : SV) (σ : St) : R Bool := andThen (owe (.bound l.length 999) σ) fun _ σ => match k with
  | .int _ i => match σ.orc with
    | .bit r :: o => some (r, ⟨σ.loc, σ.led, o⟩, [.has l i r])
    | _ => none
  | _ => none
set_option genInjectivity false in
structure Rec where
  fuel : Nat
  ev : En → Expr → St → R SV
  ts : En → Expr → St → R Bool
  ex : En → List Stmt → St → R Fl
  ap : SV → List SV → St → R SV
section
variable (Γ : Sta) (r : Rec)
noncomputable def plainArg : Expr → Bool
  | .Starred _ _ => false
  | _ => true
noncomputable def evs (en : En) : List Expr → St → R (List SV)
  | [], σ => ret [] σ
  | e :: es, σ => andThen (isTrue! (plainArg e) σ) fun _ σ => andThen (r.ev en e σ) fun v σ => andThen (evs en es σ) fun vs σ => ret (v :: vs) σ
noncomputable def nDebug : Str := Str.ofString "__debug__"
noncomputable def nClassdict : Str := Str.ofString "__classdict__"
noncomputable def badName (x : Str) : Bool := match sEq x nDebug with
  | true => true
  | false => sEq x nClassdict
noncomputable def evName (en : En) (x : Str) (σ : St) : R SV := andThen (isTrue! (!badName x) σ) fun _ σ => match look x en.sc.names with
  | some .local => opt (look x σ.loc) σ
  | some .globalImplicit => opt (look x Γ.glob) σ
  | some .cell => match look x en.cells with
    | some t => match getChunk σ t with
      | some (.cell v) => ret v σ
      | _ => none
    | none => none
  | some .free => match look x en.cells with
    | some t => match getChunk σ t with
      | some (.cell v) => ret v σ
      | _ => none
    | none => none
  | _ => none
noncomputable def evConst : Const → Option SV
  | .none => some .none
  | .bool b => some (.bool true b)
  | .int i => some (.int true i)
  | .str s => some (.str s)
  | _ => none
noncomputable def fieldOk (C : Nat) (x : Str) : Bool := match lookN C Γ.cls with
  | some cl => hasS x cl.flds
  | none => false
noncomputable def baseOk : Expr → Bool
  | .Name _ _ => true
  | .Attribute _ _ _ => true
  | .Subscript _ _ _ => true
  | .Call _ (_ :: _) _ _ => true
  | _ => false
noncomputable def notVal : SV → Bool
  | .val _ => false
  | _ => true
noncomputable def getAttr (v : SV) (x : Str) (σ : St) : R SV := andThen (objOf v σ) fun o σ => match o with
  | .inst C fs => andThen (isTrue! (fieldOk Γ C x) σ) fun _ σ => andThen (opt (look x fs) σ) fun w σ => andThen (isTrue! (notVal w) σ) fun _ σ => ret w σ
  | _ => none
noncomputable def setAttr (v : SV) (x : Str) (w : SV) (σ : St) : R Unit := andThen (objOf v σ) fun o σ => match o with
  | .inst C fs => andThen (isTrue! (fieldOk Γ C x && Nat.blt fs.length 100) σ) fun _ σ => setObj v (.inst C (putS x w fs)) σ
  | _ => none
noncomputable def isAdd : Operator → Bool
  | .Add => true
  | _ => false
noncomputable def arithInt (op : Operator) (c : Bool) (i : Int) (d : Bool) (j : Int) (σ : St) : R SV := match op with
  | .Add => ret (.int (c && d) (i + j)) σ
  | .Sub => ret (.int (c && d) (i - j)) σ
  | .Mod => andThen (owe (.bound 1 j) σ) fun _ σ => ret (.int (c && d) (Int.fmod i j)) σ
  | .FloorDiv => andThen (owe (.bound 1 j) σ) fun _ σ => andThen (owe (.bound j 999) σ) fun _ σ => ret (.int (c && d) (Int.fdiv i j)) σ
  | .Mult => andThen (owe (.bound 0 i) σ) fun _ σ => andThen (owe (.bound i 999) σ) fun _ σ => ret (.int (c && d) (i * j)) σ
  | _ => none
noncomputable def addStrs (x y : Str) (σ : St) : R SV := andThen (isTrue! (Nat.blt (x.cps.size + y.cps.size) 1000) σ) fun _ σ => ret (.str (x ++ y)) σ
noncomputable def joinLists (x y : SO) (σ : St) : R SV := match x with
  | .list c l => match y with
    | .list d m => andThen (lenOk (c && d) (l.length + m.length) σ) fun _ σ => alloc (.list (c && d) (l ++ m)) σ
    | _ => none
  | _ => none
noncomputable def addLists (a b : SV) (σ : St) : R SV := andThen (objOf a σ) fun x σ => andThen (objOf b σ) fun y σ => joinLists x y σ
noncomputable def arith (op : Operator) (a b : SV) (σ : St) : R SV := match a with
  | .int c i => match b with
    | .int d j => arithInt op c i d j σ
    | _ => none
  | .str x => match b with
    | .str y => andThen (isTrue! (isAdd op) σ) fun _ σ => addStrs x y σ
    | _ => none
  | _ => andThen (isTrue! (isAdd op) σ) fun _ σ => addLists a b σ
noncomputable def cmpEq (a b : SV) (σ : St) : R SV := match eqV a b with
  | some q => ret (.bool q.1 q.2) σ
  | none => none
noncomputable def cmpNe (a b : SV) (σ : St) : R SV := match eqV a b with
  | some q => ret (.bool q.1 (!q.2)) σ
  | none => none
noncomputable def cmpInt (f p : Int → Int → Bool) (a b : SV) (σ : St) : R SV := match a with
  | .int c i => match b with
    | .int d j => ret (cInt (c && d) (f i j) (p i j)) σ
    | _ => none
  | _ => none
noncomputable def cmpIs (a b : SV) (σ : St) : R SV := match b with
  | .none => match a with
    | .none => ret (.bool true true) σ
    | .ref _ => ret (.bool true false) σ
    | _ => none
  | _ => none
noncomputable def inOn (o : SO) (a : SV) (σ : St) : R Bool := match o with
  | .dict c d => andThen (dictGet c d a σ) fun r σ => ret r.isSome σ
  | .set _ l => setHas l a σ
  | _ => none
noncomputable def cmpIn (a b : SV) (σ : St) : R SV := andThen (objOf b σ) fun o σ => andThen (inOn o a σ) fun r σ => ret (.bool true r) σ
noncomputable def cmpNotIn (a b : SV) (σ : St) : R SV := andThen (objOf b σ) fun o σ => andThen (inOn o a σ) fun r σ => ret (.bool true (!r)) σ
noncomputable def compare (op : CmpOp) (a b : SV) (σ : St) : R SV := match op with
  | .Eq => cmpEq a b σ
  | .NotEq => cmpNe a b σ
  | .Lt => cmpInt intLt (fun i j => decide (i < j)) a b σ
  | .Gt => cmpInt (fun i j => intLt j i) (fun i j => decide (i > j)) a b σ
  | .LtE => cmpInt (fun i j => !intLt j i) (fun i j => decide (i ≤ j)) a b σ
  | .GtE => cmpInt (fun i j => !intLt i j) (fun i j => decide (i ≥ j)) a b σ
  | .Is => cmpIs a b σ
  | .In => cmpIn a b σ
  | .NotIn => cmpNotIn a b σ
  | _ => none
noncomputable def nthV : List SV → Nat → Option SV
  | [], _ => none
  | v :: l, n => match n with
    | 0 => some v
    | n + 1 => nthV l n
noncomputable def popItem (l : List SV) (i : Int) (σ : St) : R SV := match σ.orc with
  | .item v :: o => andThen (some (v, ⟨σ.loc, σ.led, o⟩, [.item l i v])) fun v σ => andThen (owe (.bound i 999) σ) fun _ σ => ret v σ
  | _ => none
noncomputable def natOf (e : Bool) (k : Int) : Option Nat := match e with
  | true => match k with
    | .ofNat n => some n
    | .negSucc _ => none
  | false => none
noncomputable def itemAt (l : List SV) (n : Nat) (σ : St) : R SV := andThen (isTrue! (Nat.blt n 1000) σ) fun _ σ => opt (nthV l n) σ
noncomputable def itemTup (l : List SV) (i : SV) (σ : St) : R SV := match i with
  | .int e k => match natOf e k with
    | some n => itemAt l n σ
    | none => none
  | _ => none
noncomputable def itemList (c : Bool) (l : List SV) (i : SV) (σ : St) : R SV := match i with
  | .int e k => match natOf (c && e) k with
    | some n => itemAt l n σ
    | none => popItem l k σ
  | _ => none
noncomputable def itemDict (c : Bool) (d : List (SV × SV)) (i : SV) (σ : St) : R SV := andThen (dictGet c d i σ) fun r σ => opt r σ
noncomputable def itemOn (ob : SO) (i : SV) (σ : St) : R SV := match ob with
  | .list c l => itemList c l i σ
  | .dict c d => itemDict c d i σ
  | .fdict d _ => itemDict false d i σ
  | _ => none
noncomputable def item (o : SV) (i : SV) (σ : St) : R SV := match o with
  | .tup l => itemTup l i σ
  | _ => andThen (objOf o σ) fun ob σ => itemOn ob i σ
noncomputable def dropV : Nat → List SV → List SV
  | 0, l => l
  | _ + 1, [] => []
  | n + 1, _ :: l => dropV n l
noncomputable def sliceToOn (ob : SO) (k : Int) (σ : St) : R SV := match ob with
  | .list _ l => andThen (owe (.bound l.length 16777216) σ) fun _ σ => andThen (owe (.bound 0 k) σ) fun _ σ => alloc (.list false (l.take k.toNat)) σ
  | _ => none
noncomputable def sliceTo (o : SV) (hi : SV) (σ : St) : R SV := match hi with
  | .int _ k => andThen (objOf o σ) fun ob σ => sliceToOn ob k σ
  | _ => none
noncomputable def sliceFromOn (ob : SO) (k : Int) (σ : St) : R SV := match ob with
  | .list _ l => andThen (owe (.bound l.length 16777216) σ) fun _ σ => andThen (owe (.bound 0 k) σ) fun _ σ => alloc (.list false (l.drop k.toNat)) σ
  | _ => none
noncomputable def sliceTup (l : List SV) (e : Bool) (k : Int) (σ : St) : R SV := match natOf e k with
  | some n => andThen (isTrue! (Nat.ble 1 n && Nat.ble n l.length && Nat.blt l.length 1000) σ) fun _ σ => ret (.tup (dropV n l)) σ
  | none => none
noncomputable def sliceFrom (o : SV) (lo : SV) (σ : St) : R SV := match lo with
  | .int e k => match o with
    | .tup l => sliceTup l e k σ
    | _ => andThen (objOf o σ) fun ob σ => sliceFromOn ob k σ
  | _ => none
noncomputable def setList (o : SV) (c : Bool) (l : List SV) (i v : SV) (σ : St) : R Unit := match i with
  | .int _ k => andThen (owe (.bound 0 k) σ) fun _ σ => andThen (owe (.bound (k + 1) l.length) σ) fun _ σ => andThen (lenOk false l.length σ) fun _ σ => setObj o (.list c (l.set k.toNat v)) σ
  | _ => none
noncomputable def setItemOn (o : SV) (ob : SO) (i v : SV) (σ : St) : R Unit := match ob with
  | .dict c d => andThen (dictPut c d i v σ) fun d' σ => setObj o (.dict c d') σ
  | .list c l => setList o c l i v σ
  | _ => none
noncomputable def setItem (o i v : SV) (σ : St) : R Unit := andThen (objOf o σ) fun ob σ => setItemOn o ob i v σ
inductive Callee where
  | fn (a : Nat) (first : SV)
  | meth (m : Nat) (self : SV)
noncomputable def mAppend : Str := Str.ofString "append"
noncomputable def mGet : Str := Str.ofString "get"
noncomputable def mSetdefault : Str := Str.ofString "setdefault"
noncomputable def mAdd : Str := Str.ofString "add"
noncomputable def resolveInst (C : Nat) (fs : List (Str × SV)) (v : SV) (x : Str) (σ : St) : R Callee := match look x fs with
  | some _ => none
  | none => match lookN C Γ.cls with
    | some cl => match look x cl.meths with
      | some f => ret (.fn f v) σ
      | none => none
    | none => none
noncomputable def oneMeth (m : Nat) (y : Str) (v : SV) (x : Str) (σ : St) : R Callee := match sEq x y with
  | true => ret (.meth m v) σ
  | false => none
noncomputable def methDict (v : SV) (x : Str) (σ : St) : R Callee := match sEq x mGet with
  | true => ret (.meth 1 v) σ
  | false => oneMeth 2 mSetdefault v x σ
noncomputable def resolveOn (o : SO) (v : SV) (x : Str) (σ : St) : R Callee := match o with
  | .inst C fs => resolveInst Γ C fs v x σ
  | .list _ _ => oneMeth 0 mAppend v x σ
  | .dict _ _ => methDict v x σ
  | .set _ _ => oneMeth 3 mAdd v x σ
  | _ => none
noncomputable def resolve (v : SV) (x : Str) (σ : St) : R Callee := andThen (objOf v σ) fun o σ => resolveOn Γ o v x σ
noncomputable def arg1 (args : List SV) : Option SV := match args with
  | [] => none
  | a :: r => match r with
    | [] => some a
    | _ :: _ => none
noncomputable def arg2 (args : List SV) : Option (SV × SV) := match args with
  | [] => none
  | a :: r => match arg1 r with
    | some b => some (a, b)
    | none => none
noncomputable def appendOn (self : SV) (o : SO) (v : SV) (σ : St) : R SV := match o with
  | .list c l => andThen (lenOk c l.length σ) fun _ σ => andThen (setObj self (.list c (l ++ [v])) σ) fun _ σ => ret .none σ
  | _ => none
noncomputable def apAppend (self : SV) (args : List SV) (σ : St) : R SV := match arg1 args with
  | some v => andThen (objOf self σ) fun o σ => appendOn self o v σ
  | none => none
noncomputable def getOr (r : Option SV) (d : SV) : SV := match r with
  | some v => v
  | none => d
noncomputable def getOn (o : SO) (k dflt : SV) (σ : St) : R SV := match o with
  | .dict c d => andThen (dictGet c d k σ) fun r σ => ret (getOr r dflt) σ
  | _ => none
noncomputable def apGet (self : SV) (args : List SV) (σ : St) : R SV := match arg2 args with
  | some q => andThen (objOf self σ) fun o σ => getOn o q.1 q.2 σ
  | none => none
noncomputable def setdefaultOn (self : SV) (o : SO) (k dflt : SV) (σ : St) : R SV := match o with
  | .dict c d => andThen (lenOk c d.length σ) fun _ σ => andThen (dictGet c d k σ) fun r σ => match r with
    | some v => ret v σ
    | none => andThen (dictPut c d k dflt σ) fun d' σ => andThen (setObj self (.dict c d') σ) fun _ σ => ret dflt σ
  | _ => none
noncomputable def apSetdefault (self : SV) (args : List SV) (σ : St) : R SV := match arg2 args with
  | some q => andThen (isTrue! (atomOk q.1) σ) fun _ σ => andThen (objOf self σ) fun o σ => setdefaultOn self o q.1 q.2 σ
  | none => none
noncomputable def popSput (l : List Int) (k : Int) (σ : St) : R (List Int) := match σ.orc with
  | .sput l' :: o => some (l', ⟨σ.loc, σ.led, o⟩, [.sput l k l'])
  | _ => none
noncomputable def addOn (self : SV) (o : SO) (k : Int) (σ : St) : R SV := match o with
  | .set c l => andThen (lenOk false l.length σ) fun _ σ => andThen (popSput l k σ) fun l' σ => andThen (setObj self (.set c l') σ) fun _ σ => ret .none σ
  | _ => none
noncomputable def apAdd (self : SV) (args : List SV) (σ : St) : R SV := match arg1 args with
  | some v => match v with
    | .int _ k => andThen (objOf self σ) fun o σ => addOn self o k σ
    | _ => none
  | none => none
noncomputable def apMeth (m : Nat) (self : SV) (args : List SV) (σ : St) : R SV := match m with
  | 0 => apAppend self args σ
  | 1 => apGet self args σ
  | 2 => apSetdefault self args σ
  | 3 => apAdd self args σ
  | _ => none
noncomputable def zipArgs : List Str → List SV → Option Loc
  | [], [] => some []
  | x :: xs, v :: vs => match zipArgs xs vs with
    | some l => some ((x, v) :: l)
    | none => none
  | _, _ => none
noncomputable def retOf : Fl → SV
  | .ret v => v
  | _ => .none
noncomputable def apFn (a : Nat) (args : List SV) (σ : St) : R SV := match lookN a Γ.spec with
  | some k => andThen (isTrue! (Nat.ble k r.fuel) σ) fun _ σ => match σ.orc with
    | .call v led :: o => some (v, ⟨σ.loc, led, o⟩, [.call k a args σ.led v led])
    | _ => none
  | none => match lookN a Γ.fns with
    | some fn => match zipArgs fn.params args with
      | some l => andThen (r.ex ⟨fn.sc, []⟩ fn.body ⟨l, σ.led, σ.orc⟩) fun fl σ' => ret (retOf fl) ⟨σ.loc, σ'.led, σ'.orc⟩
      | none => none
    | none => none
noncomputable def intsUp : Nat → Int → List SV
  | 0, _ => []
  | n + 1, i => .int true i :: intsUp n (i + 1)
noncomputable def lenOn (ob : SO) (σ : St) : R SV := match ob with
  | .list c l => andThen (lenOk c l.length σ) fun _ σ => ret (.int c l.length) σ
  | .dict c d => andThen (lenOk c d.length σ) fun _ σ => ret (.int c d.length) σ
  | _ => none
noncomputable def apLen (o : SV) (σ : St) : R SV := match o with
  | .tup l => andThen (lenOk false l.length σ) fun _ σ => ret (.int false l.length) σ
  | _ => andThen (objOf o σ) fun ob σ => lenOn ob σ
noncomputable def tupleOn (ob : SO) (σ : St) : R SV := match ob with
  | .list c l => andThen (lenOk c l.length σ) fun _ σ => ret (.tup l) σ
  | _ => none
noncomputable def apTuple (o : SV) (σ : St) : R SV := andThen (objOf o σ) fun ob σ => tupleOn ob σ
noncomputable def popRising (l : List SV) (σ : St) : R (List Int) := match σ.orc with
  | .sput ns :: r => some (ns, ⟨σ.loc, σ.led, r⟩, [.rising l ns])
  | _ => none
noncomputable def sortedOn (ob : SO) (σ : St) : R SV := match ob with
  | .dict _ d => andThen (popRising (d.map Prod.fst) σ) fun ns σ => alloc (.list false (ns.map (SV.int false))) σ
  | _ => none
noncomputable def apSorted (o : SV) (σ : St) : R SV := andThen (objOf o σ) fun ob σ => sortedOn ob σ
noncomputable def rngOk (c : Bool) (lo hi : Int) (σ : St) : R Unit := andThen (isTrue! (intEq lo 0) σ) fun _ σ => match c with
  | true => isTrue! (intLt (-1000) hi && intLt hi 1000) σ
  | false => andThen (owe (.bound (-999) hi) σ) fun _ σ => owe (.bound hi 999) σ
noncomputable def apRange (o : SV) (σ : St) : R SV := match o with
  | .int c n => ret (.rng c 0 n) σ
  | _ => none
noncomputable def apList (o : SV) (σ : St) : R SV := match o with
  | .rng c lo hi => andThen (rngOk c lo hi σ) fun _ σ => alloc (.list false ((List.range (hi - lo).toNat).map fun (i : Nat) => SV.int false (lo + i))) σ
  | _ => none
noncomputable def isTupTy (v : SV) : Bool := match v with
  | .val w => match w with
    | .type x => decide (x = "tuple")
    | _ => false
  | _ => false
noncomputable def isInst (o : SV) (σ : St) : R SV := match o with
  | .tup _ => ret (.bool true true) σ
  | .str _ => ret (.bool true false) σ
  | .int _ _ => ret (.bool true false) σ
  | _ => none
noncomputable def ap1 (f : SV → St → R SV) (args : List SV) (σ : St) : R SV := match arg1 args with
  | some o => f o σ
  | none => none
noncomputable def apIsinstance (args : List SV) (σ : St) : R SV := match arg2 args with
  | some q => andThen (isTrue! (isTupTy q.2) σ) fun _ σ => isInst q.1 σ
  | none => none
noncomputable def apSet (args : List SV) (σ : St) : R SV := match args with
  | [] => alloc (.set false []) σ
  | _ :: _ => none
noncomputable def apBuiltin (v : Value) (args : List SV) (σ : St) : R SV := match v with
  | .builtin x => if x = "len" then ap1 apLen args σ else if x = "sorted" then ap1 apSorted args σ else if x = "isinstance" then apIsinstance args σ else none
  | .type x => if x = "range" then ap1 apRange args σ else if x = "set" then apSet args σ else if x = "tuple" then ap1 apTuple args σ else if x = "list" then ap1 apList args σ else none
  | _ => none
noncomputable def apply (f : SV) (args : List SV) (σ : St) : R SV := match f with
  | .val (.ref a) => match lookN a Γ.cls with
    | some cl => andThen (alloc (.inst a []) σ) fun self σ => match cl.init with
      | some g => match lookN g Γ.cls with
        | none => andThen (r.ap (.val (.ref g)) (self :: args) σ) fun v σ => match v with
          | .none => ret self σ
          | _ => none
        | some _ => none
      | none => none
    | none => apFn Γ r a args σ
  | .val v => apBuiltin v args σ
  | _ => none
noncomputable def boolop (en : En) (op : BoolOp) : List Expr → St → R SV
  | [], _ => none
  | e :: es, σ => match es with
    | [] => r.ev en e σ
    | _ :: _ => andThen (r.ev en e σ) fun v σ => match truth v with
      | none => none
      | some (c, b) => andThen (decideB c b σ) fun q σ => match op, q with
        | .And, false => ret v σ
        | .Or, true => ret v σ
        | _, _ => boolop en op es σ
noncomputable def allTrue (en : En) (op : BoolOp) : List Expr → St → R Bool
  | [], σ => ret (match op with | .And => true | .Or => false) σ
  | e :: es, σ => andThen (r.ts en e σ) fun q σ => match op, q with
    | .And, false => ret false σ
    | .Or, true => ret true σ
    | _, _ => allTrue en op es σ
noncomputable def evCallMeth (en : En) (o : Expr) (x : Str) (args : List Expr) (σ : St) : R SV :=
  andThen (r.ev en o σ) fun v σ => andThen (resolve Γ v x σ) fun k σ => andThen (evs r en args σ) fun vs σ => match k with
    | .fn f first => r.ap (.val (.ref f)) (first :: vs) σ
    | .meth m self => apMeth m self vs σ
noncomputable def calleeOk : SV → Bool
  | .val v => match v with
    | .ref a => match lookN a Γ.fns with
      | some _ => true
      | none => match lookN a Γ.cls with
        | some _ => true
        | none => false
    | .builtin _ => true
    | .type _ => true
    | _ => false
  | _ => false
noncomputable def evCall (en : En) (f : Expr) (args : List Expr) (σ : St) : R SV :=
  andThen (r.ev en f σ) fun v σ => andThen (isTrue! (calleeOk Γ v) σ) fun _ σ => andThen (evs r en args σ) fun vs σ => r.ap v vs σ
noncomputable def evCompare (en : En) (l : Expr) (op : CmpOp) (m : Expr) (σ : St) : R SV :=
  andThen (isTrue! (!behindInMarks op m) σ) fun _ σ => andThen (r.ev en l σ) fun a σ => andThen (r.ev en m σ) fun b σ => compare op a b σ
noncomputable def evSlice (en : En) (o : Expr) (lo hi st : Option Expr) (σ : St) : R SV := match st with
  | some _ => none
  | none => match lo with
    | none => match hi with
      | some h => andThen (r.ev en o σ) fun v σ => andThen (r.ev en h σ) fun w σ => sliceTo v w σ
      | none => none
    | some l => match hi with
      | none => andThen (r.ev en o σ) fun v σ => andThen (r.ev en l σ) fun w σ => sliceFrom v w σ
      | some _ => none
noncomputable def evItem (en : En) (o i : Expr) (σ : St) : R SV := andThen (r.ev en o σ) fun v σ => andThen (r.ev en i σ) fun w σ => item v w σ
noncomputable def evSub (en : En) (o i : Expr) (σ : St) : R SV := match i with
  | .Slice lo hi st _ => evSlice r en o lo hi st σ
  | _ => evItem r en o i σ
noncomputable def evCallE (en : En) (f : Expr) (args : List Expr) (kws : List Keyword) (p : Pos) (σ : St) : R SV := match kws with
  | [] => match f with
    | .Attribute o x ap => andThen (isTrue! (baseOk o && Nat.beq ap.endLine p.line && Nat.blt args.length 29) σ) fun _ σ => evCallMeth Γ r en o x args σ
    | .Name x p => evCall Γ r en (.Name x p) args σ
    | _ => none
  | _ :: _ => none
noncomputable def one {α : Type} (l : List α) : Option α := match l with
  | [] => none
  | a :: r => match r with
    | [] => some a
    | _ :: _ => none
noncomputable def evCompareE (en : En) (l : Expr) (ops : List CmpOp) (ms : List Expr) (σ : St) : R SV := match one ops with
  | some op => match one ms with
    | some m => evCompare r en l op m σ
    | none => none
  | none => none
noncomputable def evNot (en : En) (x : Expr) (σ : St) : R SV := andThen (r.ev en x σ) fun v σ => match truth v with
  | some q => ret (.bool q.1 (!q.2)) σ
  | none => none
noncomputable def negV (v : SV) (σ : St) : R SV := match v with
  | .int c i => ret (.int c (-i)) σ
  | _ => none
noncomputable def evUn (en : En) (op : UnaryOp) (x : Expr) (σ : St) : R SV := match op with
  | .Not => evNot r en x σ
  | .USub => andThen (r.ev en x σ) fun v σ => negV v σ
  | _ => none
noncomputable def evDict (ks : List (Option Expr)) (vs : List Expr) (σ : St) : R SV := match ks with
  | [] => match vs with
    | [] => alloc (.dict true []) σ
    | _ :: _ => none
  | _ :: _ => none
noncomputable def popComp (en : En) (e : Expr) (σ : St) : R SV := match σ.orc with
  | .comp l led :: o => some (.ref led.length, ⟨σ.loc, led ++ [.list false l], o⟩, [.comp r.fuel en e σ.loc σ.led l led])
  | _ => none
noncomputable def evStep (en : En) (e : Expr) (σ : St) : R SV := match e with
  | .Name x _ => evName Γ en x σ
  | .Constant c _ _ => opt (evConst c) σ
  | .Attribute o x _ => andThen (isTrue! (baseOk o) σ) fun _ σ => andThen (r.ev en o σ) fun v σ => getAttr Γ v x σ
  | .Call f args kws p => evCallE Γ r en f args kws p σ
  | .Compare l ops ms _ => evCompareE r en l ops ms σ
  | .BoolOp op es _ => boolop r en op es σ
  | .UnaryOp op x _ => evUn r en op x σ
  | .BinOp a op b _ => andThen (r.ev en a σ) fun v σ => andThen (r.ev en b σ) fun w σ => arith op v w σ
  | .Subscript o i _ => evSub r en o i σ
  | .Tuple es _ _ => andThen (evs r en es σ) fun vs σ => andThen (isTrue! (Nat.blt vs.length 1000) σ) fun _ σ => ret (.tup vs) σ
  | .List es _ => andThen (evs r en es σ) fun vs σ => andThen (isTrue! (Nat.blt vs.length 1000) σ) fun _ σ => alloc (.list true vs) σ
  | .Dict ks vs _ => evDict ks vs σ
  | .ListComp _ _ _ _ => popComp r en e σ
  | _ => none
noncomputable def truthOf (v : SV) (σ : St) : R Bool := match truth v with
  | some q => decideB q.1 q.2 σ
  | none => none
noncomputable def tsTruth (en : En) (e : Expr) (σ : St) : R Bool := andThen (r.ev en e σ) fun v σ => truthOf v σ
noncomputable def tsNot (en : En) (op : UnaryOp) (x : Expr) (σ : St) : R Bool := match op with
  | .Not => andThen (r.ts en x σ) fun b σ => ret (!b) σ
  | _ => none
noncomputable def tsCompare (en : En) (l : Expr) (ops : List CmpOp) (ms : List Expr) (σ : St) : R Bool := match one ops with
  | some op => match one ms with
    | some m => andThen (evCompare r en l op m σ) fun v σ => truthOf v σ
    | none => none
  | none => none
noncomputable def tsStep (en : En) (e : Expr) (σ : St) : R Bool := match e with
  | .UnaryOp op x _ => tsNot r en op x σ
  | .BoolOp op es _ => allTrue r en op es σ
  | .Compare l ops ms _ => tsCompare r en l ops ms σ
  | .IfExp _ _ _ _ => none
  | e => tsTruth r en e σ
noncomputable def putLoc (en : En) (x : Str) (v : SV) (σ : St) : R Unit := match look x en.sc.names with
  | some .local => some ((), ⟨putS x v σ.loc, σ.led, σ.orc⟩, [])
  | some .cell => match look x en.cells with
    | some t => match getChunk σ t with
      | some (.cell _) => some ((), setChunk σ t (.cell v), [])
      | some .nocell => some ((), setChunk σ t (.cell v), [])
      | _ => none
    | none => none
  | _ => none
noncomputable def putTup (en : En) : List Expr → List SV → St → R Unit
  | [], [], σ => ret () σ
  | t :: ts, v :: vs, σ => match t with
    | .Name x _ => andThen (putLoc en x v σ) fun _ σ => putTup en ts vs σ
    | _ => none
  | _, _, _ => none
noncomputable def bind (en : En) (t : Expr) (v : SV) (σ : St) : R Unit := match t with
  | .Name x _ => putLoc en x v σ
  | .Tuple ts _ _ => match v with
    | .tup vs => putTup en ts vs σ
    | _ => none
  | _ => none
noncomputable def isNotSlice : Expr → Bool
  | .Slice _ _ _ _ => false
  | _ => true
noncomputable def assign (en : En) (t : Expr) (v : SV) (σ : St) : R Unit := match t with
  | .Attribute o x _ => andThen (r.ev en o σ) fun w σ => setAttr Γ w x v σ
  | .Subscript o i _ => andThen (isTrue! (isNotSlice i) σ) fun _ σ => andThen (r.ev en o σ) fun w σ => andThen (r.ev en i σ) fun k σ => setItem w k v σ
  | _ => bind en t v σ
noncomputable def goOn (f : Fl) (σ : St) (rest : R Fl) : R Fl := match f with
  | .next => rest
  | .cont => rest
  | .brk => ret .next σ
  | .ret v => ret (.ret v) σ
noncomputable def forList (en : En) (t : Expr) (body : List Stmt) (u : SV) : Nat → Nat → St → R Fl
  | 0, _, _ => none
  | n + 1, i, σ => andThen (objOf u σ) fun ob σ => match ob with
    | .list true l => match nthV l i with
      | none => ret .next σ
      | some v => andThen (bind en t v σ) fun _ σ => andThen (r.ex en body σ) fun fl σ => goOn fl σ (forList en t body u n (i + 1) σ)
    | _ => none
noncomputable def forLoop (en : En) (t : Expr) (body : List Stmt) : List SV → St → R Fl
  | [], σ => ret .next σ
  | v :: vs, σ => andThen (bind en t v σ) fun _ σ => andThen (r.ex en body σ) fun fl σ => goOn fl σ (forLoop en t body vs σ)
noncomputable def whileLoop (en : En) (e : Expr) (body : List Stmt) : Nat → St → R Fl
  | 0, _ => none
  | n + 1, σ => andThen (r.ts en e σ) fun q σ => match q with
    | false => ret .next σ
    | true => andThen (r.ex en body σ) fun fl σ => goOn fl σ (whileLoop en e body n σ)
noncomputable def forOver (en : En) (t : Expr) (body : List Stmt) (v : SV) (σ : St) : R Fl := match v with
  | .tup l => forLoop r en t body l σ
  | .rng c lo hi => match c with
    | true => andThen (rngOk true lo hi σ) fun _ σ => forLoop r en t body (intsUp (hi - lo).toNat lo) σ
    | false => none
  | .ref _ => forList r en t body v 200 0 σ
  | .fam _ _ => forList r en t body v 200 0 σ
  | _ => none
noncomputable def popLoop (k : Nat) (en : En) (st : Stmt) (σ : St) : R Fl := andThen (isTrue! (Nat.ble k r.fuel) σ) fun _ σ => match σ.orc with
  | .loop loc led :: o => some (.next, ⟨loc, led, o⟩, [.loop k en st σ.loc σ.led loc led])
  | _ => none
noncomputable def isLoc (en : En) (x : Str) : Bool := match look x en.sc.names with
  | some .local => true
  | _ => false
noncomputable def augInt (op : Operator) (c : Bool) (i : Int) (d : Bool) (j : Int) (σ : St) : R SV := match op with
  | .Add => ret (.int (c && d) (i + j)) σ
  | .Sub => ret (.int (c && d) (i - j)) σ
  | _ => none
noncomputable def aug (op : Operator) (a b : SV) (σ : St) : R SV := match a with
  | .int c i => match b with
    | .int d j => augInt op c i d j σ
    | _ => none
  | _ => none
noncomputable def augment (en : En) (t : Expr) (op : Operator) (e : Expr) (σ : St) : R Unit := match t with
  | .Name x p => andThen (isTrue! (isLoc en x) σ) fun _ σ => andThen (evName Γ en x σ) fun a σ => andThen (r.ev en e σ) fun b σ => andThen (aug op a b σ) fun v σ => putLoc en x v σ
  | .Attribute o x _ => andThen (r.ev en o σ) fun w σ => andThen (getAttr Γ w x σ) fun a σ => andThen (r.ev en e σ) fun b σ => andThen (aug op a b σ) fun v σ => setAttr Γ w x v σ
  | .Subscript o i _ => andThen (isTrue! (isNotSlice i) σ) fun _ σ => andThen (r.ev en o σ) fun w σ => andThen (r.ev en i σ) fun k σ => andThen (item w k σ) fun a σ => andThen (r.ev en e σ) fun b σ => andThen (aug op a b σ) fun v σ => setItem w k v σ
  | _ => none
noncomputable def notSet : Expr → Bool
  | .Set _ _ _ => false
  | _ => true
noncomputable def notComp : Expr → Bool
  | .ListComp _ _ _ _ => false
  | .SetComp _ _ _ _ => false
  | .DictComp _ _ _ _ _ => false
  | _ => true
noncomputable def two {α : Type} (l : List α) : Option (α × α) := match l with
  | [] => none
  | a :: r => match one r with
    | some b => some (a, b)
    | none => none
noncomputable def nameAt (e : Expr) : Option (Str × Pos) := match e with
  | .Name a p => some (a, p)
  | _ => none
noncomputable def nameTwo (q : Expr × Expr) : Option ((Str × Pos) × (Str × Pos)) := match nameAt q.1 with
  | some a => match nameAt q.2 with
    | some b => some (a, b)
    | none => none
  | none => none
noncomputable def swapOk (en : En) (a b : Str × Pos) (v w : Expr) : Bool := plainArg v && plainArg w && isLoc en a.1 && isLoc en b.1 && Nat.beq a.2.line b.2.line && !sEq a.1 b.1 && !([v, w].all (foldedForSure 8)) && !([v, w].all (constantsAlone 8))
noncomputable def swapTo (en : En) (e : Expr) (ts vs : List Expr) : List Expr := match two ts with
  | some q => match nameTwo q with
    | some n => match two vs with
      | some r => match swapOk en n.1 n.2 r.1 r.2 with
        | true => [.Name n.2.1 n.2.2, .Name n.1.1 n.1.2]
        | false => [e]
      | none => [e]
    | none => [e]
  | none => [e]
noncomputable def swapped (en : En) (t e : Expr) : Option (List Expr) := match t with
  | .Tuple ts _ _ => match e with
    | .Tuple vs _ _ => some (swapTo en e ts vs)
    | _ => none
  | _ => none
noncomputable def putSwap (en : En) (rs : List Expr) (v : SV) (σ : St) : R Fl := match v with
  | .tup l => andThen (putTup en rs l.reverse σ) fun _ σ => ret .next σ
  | _ => none
noncomputable def storeTo (en : En) (t e : Expr) (v : SV) (σ : St) : R Fl := match swapped en t e with
  | none => andThen (assign Γ r en t v σ) fun _ σ => ret .next σ
  | some rs => putSwap en rs v σ
noncomputable def stAssign (en : En) (t e : Expr) (σ : St) : R Fl := andThen (isTrue! (notComp e) σ) fun _ σ => andThen (r.ev en e σ) fun v σ => storeTo Γ r en t e v σ
noncomputable def stReturn (en : En) (v : Option Expr) (σ : St) : R Fl := match v with
  | none => ret (.ret .none) σ
  | some e => andThen (r.ev en e σ) fun v σ => ret (.ret v) σ
noncomputable def stIf (en : En) (t : Expr) (a b : List Stmt) (σ : St) : R Fl := andThen (r.ts en t σ) fun q σ => match q with
  | true => r.ex en a σ
  | false => r.ex en b σ
noncomputable def stFor (en : En) (st : Stmt) (t it : Expr) (body els : List Stmt) (p : Pos) (σ : St) : R Fl := match els with
  | [] => match lookN p.line Γ.lspec with
    | some k => popLoop r k en st σ
    | none => andThen (isTrue! (notSet it) σ) fun _ σ => andThen (r.ev en it σ) fun v σ => forOver r en t body v σ
  | _ :: _ => none
noncomputable def stWhile (en : En) (st : Stmt) (t : Expr) (body els : List Stmt) (p : Pos) (σ : St) : R Fl := match els with
  | [] => match lookN p.line Γ.lspec with
    | some k => popLoop r k en st σ
    | none => whileLoop r en t body 200 σ
  | _ :: _ => none
noncomputable def stStep (en : En) (st : Stmt) (σ : St) : R Fl := match st with
  | .Expr e _ => andThen (isTrue! (notComp e) σ) fun _ σ => andThen (r.ev en e σ) fun _ σ => ret .next σ
  | .Return v _ => stReturn r en v σ
  | .Assign ts e _ => match one ts with
    | some t => stAssign Γ r en t e σ
    | none => none
  | .AugAssign t op e _ => andThen (augment Γ r en t op e σ) fun _ σ => ret .next σ
  | .If t a b _ => stIf r en t a b σ
  | .For t it body els p => stFor Γ r en st t it body els p σ
  | .While t body els p => stWhile Γ r en st t body els p σ
  | .Continue _ => ret .cont σ
  | .Break _ => ret .brk σ
  | .Pass _ => ret .next σ
  | _ => none
noncomputable def exStep (en : En) : List Stmt → St → R Fl
  | [], σ => ret .next σ
  | st :: rest, σ => andThen (stStep Γ r en st σ) fun fl σ => match fl with
    | .next => exStep en rest σ
    | .cont => ret .cont σ
    | .brk => ret .brk σ
    | .ret v => ret (.ret v) σ
noncomputable def step : Rec := ⟨r.fuel + 1, evStep Γ r, tsStep r, exStep Γ r, apply Γ r⟩
end
noncomputable def run (Γ : Sta) : Nat → Rec
  | 0 => ⟨0, fun _ _ _ => none, fun _ _ _ => none, fun _ _ _ => none, fun _ _ _ => none⟩
  | n + 1 => step Γ (run Γ n)
set_option tactic.hygienic false
open PySem PySem.W PySem.Calls PyProof.Rows
theorem natsEq_iff : ∀ {x y : List Nat}, natsEq x y = true ↔ x = y
  | [], [] => by simp [natsEq]
  | [], _ :: _ => by simp [natsEq]
  | _ :: _, [] => by simp [natsEq]
  | a :: x, b :: y => by
    simp only [natsEq]
    cases h : Nat.beq a b with
    | true => rw [Nat.eq_of_beq_eq_true h]; simp [natsEq_iff (x := x) (y := y)]
    | false => simp; intro e; exact absurd e (Nat.ne_of_beq_eq_false h)
theorem sEq_iff {a b : Str} : sEq a b = true ↔ a = b := by
  unfold sEq
  rw [natsEq_iff]
  constructor
  · intro h; cases a; cases b; simp only [Str.mk.injEq]; exact Array.toList_inj.mp h
  · rintro rfl; rfl
theorem sEq_false {a b : Str} (h : sEq a b = false) : a ≠ b := fun e => by rw [sEq_iff.mpr e] at h; cases h
theorem look_lookup {α : Type} (x : Str) : ∀ l : List (Str × α), look x l = l.lookup x
  | [] => rfl
  | p :: r => by
    obtain ⟨y, v⟩ := p
    simp only [look, List.lookup_cons]
    cases h : sEq y x with
    | true => rw [sEq_iff.mp h]; simp
    | false =>
      have : (x == y) = false := by simp; exact fun e => sEq_false h e.symm
      rw [this]; exact look_lookup x r
set_option genInjectivity false in
structure Rz where
  all : List (Addr × Obj)
  own : Addr → Option (Nat × Int)
  ad : Nat → Int → Addr
  n : Nat
  lv : Nat → Int → Prop
noncomputable abbrev tupO (vs : List Value) : Obj := { cls := .type "tuple", data := .seq vs.toArray }
noncomputable abbrev cellO (v : Value) : Obj := { cls := .type "cell", data := .cell (some v) }
noncomputable abbrev rngO (lo hi : Int) (t1 t2 t3 : Tok) : Obj := { cls := .type "range", data := .fields #[.int lo t1, .int hi t2, .int 1 t3] }
mutual
inductive Den (z : Rz) : SV → Value → Prop where
  | none : Den z .none .none
  | bool (c b) : Den z (.bool c b) (.bool b)
  | int (c i t) : Den z (.int c i) (.int i t)
  | str (s t) : Den z (.str s) (.str s t)
  | val (v) : Den z (.val v) v
  | ref (t) : z.lv t 0 → Den z (.ref t) (.ref (z.ad t 0))
  | fam (t i) : z.lv t i → Den z (.fam t i) (.ref (z.ad t i))
  | tup (l a vs) : (a, tupO vs) ∈ z.all → z.own a = .none → DenL z l vs → Den z (.tup l) (.ref a)
  | rng (c lo hi a t1 t2 t3) : (a, rngO lo hi t1 t2 t3) ∈ z.all → z.own a = .none → Den z (.rng c lo hi) (.ref a)
inductive DenL (z : Rz) : List SV → List Value → Prop where
  | nil : DenL z [] []
  | cons {x v l vs} : Den z x v → DenL z l vs → DenL z (x :: l) (v :: vs)
end
section
variable {z : Rz} {v : Value}
@[elab_as_elim] theorem Den.int_el {c : Bool} {i : Int} (d : Den z (.int c i) v) {G : Value → Prop} (k : ∀ t, G (.int i t)) : G v := by cases d; exact k _
@[elab_as_elim] theorem Den.str_el {s : Str} (d : Den z (.str s) v) {G : Value → Prop} (k : ∀ t, G (.str s t)) : G v := by cases d; exact k _
@[elab_as_elim] theorem Den.bool_el {c b : Bool} (d : Den z (.bool c b) v) {G : Value → Prop} (k : G (.bool b)) : G v := by cases d; exact k
@[elab_as_elim] theorem Den.none_el (d : Den z .none v) {G : Value → Prop} (k : G .none) : G v := by cases d; exact k
@[elab_as_elim] theorem Den.val_el {w : Value} (d : Den z (.val w) v) {G : Value → Prop} (k : G w) : G v := by cases d; exact k
@[elab_as_elim] theorem Den.ref_el {t : Nat} (d : Den z (.ref t) v) {G : Value → Prop} (k : z.lv t 0 → G (.ref (z.ad t 0))) : G v := by cases d; exact k (by assumption)
@[elab_as_elim] theorem Den.fam_el {t : Nat} {i : Int} (d : Den z (.fam t i) v) {G : Value → Prop} (k : z.lv t i → G (.ref (z.ad t i))) : G v := by cases d; exact k (by assumption)
@[elab_as_elim] theorem Den.tup_el {l : List SV} (d : Den z (.tup l) v) {G : Value → Prop} (k : ∀ a vs, (a, tupO vs) ∈ z.all → z.own a = .none → DenL z l vs → G (.ref a)) : G v := by cases d with | tup _ a vs m o l => exact k a vs m o l
@[elab_as_elim] theorem Den.rng_el {c : Bool} {lo hi : Int} (d : Den z (.rng c lo hi) v) {G : Value → Prop} (k : ∀ a t1 t2 t3, (a, rngO lo hi t1 t2 t3) ∈ z.all → z.own a = .none → G (.ref a)) : G v := by cases d with | rng _ _ _ a t1 t2 t3 m o => exact k a t1 t2 t3 m o
@[elab_as_elim] theorem DenL.nil_el {vs : List Value} (d : DenL z [] vs) {G : List Value → Prop} (k : G []) : G vs := by cases d; exact k
@[elab_as_elim] theorem DenL.cons_el {x : SV} {l : List SV} {vs : List Value} (d : DenL z (x :: l) vs) {G : List Value → Prop} (k : ∀ u us, Den z x u → DenL z l us → G (u :: us)) : G vs := by cases d with | cons a b => exact k _ _ a b
end
noncomputable def stays (o : Obj) : Prop := (∃ vs, o = tupO vs) ∨ ∃ lo hi t1 t2 t3, o = rngO lo hi t1 t2 t3
structure Rz.Lw (z z' : Rz) : Prop where
  n : z.n ≤ z'.n
  ad : ∀ t i, z.lv t i → z'.lv t i ∧ z'.ad t i = z.ad t i
  pool : ∀ a o, stays o → (a, o) ∈ z.all → z.own a = .none → (a, o) ∈ z'.all ∧ z'.own a = .none
structure Rz.Le (z z' : Rz) : Prop where
  n : z.n ≤ z'.n
  ad : ∀ t i, z.lv t i → z'.lv t i ∧ z'.ad t i = z.ad t i
  pool : ∀ a o, (a, o) ∈ z.all → z.own a = .none → (a, o) ∈ z'.all ∧ z'.own a = .none
theorem Rz.Le.w {z z' : Rz} (l : z.Le z') : z.Lw z' := ⟨l.n, l.ad, fun a o _ => l.pool a o⟩
theorem Rz.Le.refl (z : Rz) : z.Le z := ⟨Nat.le_refl _, fun _ _ h => ⟨h, rfl⟩, fun _ _ a b => ⟨a, b⟩⟩
theorem Rz.Le.trans {a b c : Rz} (x : a.Le b) (y : b.Le c) : a.Le c :=
  ⟨Nat.le_trans x.n y.n, fun t i h => ⟨(y.ad t i (x.ad t i h).1).1, (y.ad t i (x.ad t i h).1).2.trans (x.ad t i h).2⟩, fun p o m h => let ⟨m', h'⟩ := x.pool p o m h; y.pool p o m' h'⟩
section
variable {z z' : Rz} (l : z.Lw z')
include l
theorem den_fam {t : Nat} {i : Int} (h : z.lv t i) : Den z' (.fam t i) (.ref (z.ad t i)) := by rw [← (l.ad t i h).2]; exact .fam t i (l.ad t i h).1
theorem den_ref {t : Nat} (h : z.lv t 0) : Den z' (.ref t) (.ref (z.ad t 0)) := by rw [← (l.ad t 0 h).2]; exact .ref t (l.ad t 0 h).1
theorem Den.monow {x : SV} {v : Value} (d : Den z x v) : Den z' x v :=
  Den.rec (motive_1 := fun x v _ => Den z' x v) (motive_2 := fun x v _ => DenL z' x v) .none .bool .int .str .val (fun _ h => den_ref l h) (fun _ _ h => den_fam l h)
    (fun q a vs m h _ ih => .tup q a vs (l.pool _ _ (.inl ⟨vs, rfl⟩) m h).1 (l.pool _ _ (.inl ⟨vs, rfl⟩) m h).2 ih) (fun c lo hi a t1 t2 t3 m h => .rng c lo hi a t1 t2 t3 (l.pool _ _ (.inr ⟨lo, hi, t1, t2, t3, rfl⟩) m h).1 (l.pool _ _ (.inr ⟨lo, hi, t1, t2, t3, rfl⟩) m h).2)
    .nil (fun _ _ a b => .cons a b) d
theorem DenL.monow {x : List SV} {v : List Value} (d : DenL z x v) : DenL z' x v :=
  DenL.rec (motive_1 := fun x v _ => Den z' x v) (motive_2 := fun x v _ => DenL z' x v) .none .bool .int .str .val (fun _ h => den_ref l h) (fun _ _ h => den_fam l h)
    (fun q a vs m h _ ih => .tup q a vs (l.pool _ _ (.inl ⟨vs, rfl⟩) m h).1 (l.pool _ _ (.inl ⟨vs, rfl⟩) m h).2 ih) (fun c lo hi a t1 t2 t3 m h => .rng c lo hi a t1 t2 t3 (l.pool _ _ (.inr ⟨lo, hi, t1, t2, t3, rfl⟩) m h).1 (l.pool _ _ (.inr ⟨lo, hi, t1, t2, t3, rfl⟩) m h).2)
    .nil (fun _ _ a b => .cons a b) d
end
theorem Den.mono {z z' : Rz} (l : z.Le z') {x v} (d : Den z x v) : Den z' x v := d.monow l.w
theorem DenL.mono {z z' : Rz} (l : z.Le z') {x v} (d : DenL z x v) : DenL z' x v := d.monow l.w
theorem DenL.append {z : Rz} {m : List SV} {ws : List Value} : ∀ {l : List SV} {vs : List Value}, DenL z l vs → DenL z m ws → DenL z (l ++ m) (vs ++ ws) := by
  intro l
  induction l with
  | nil => exact fun x y => DenL.nil_el x y
  | cons a l ih => exact fun x y => DenL.cons_el x fun u us a b => .cons a (ih b y)
theorem DenL.length {z : Rz} : ∀ {l : List SV} {vs : List Value}, DenL z l vs → l.length = vs.length := by
  intro l
  induction l with
  | nil => exact fun x => DenL.nil_el x rfl
  | cons a l ih => exact fun x => DenL.cons_el x fun u us a b => congrArg Nat.succ (ih b)
inductive Flds (z : Rz) : List (Str × SV) → List DictEntry → Prop where
  | nil : Flds z [] []
  | cons {x w l e es} (t : Tok) : e.key = .str x t → Den z w e.val → Flds z l es → Flds z ((x, w) :: l) (e :: es)
theorem Flds.monow {z z' : Rz} (l : z.Lw z') {x : List (Str × SV)} {v : List DictEntry} (d : Flds z x v) : Flds z' x v := by
  induction d with
  | nil => exact .nil
  | cons t k d _ ih => exact .cons t k (d.monow l) ih
theorem Flds.mono {z z' : Rz} (l : z.Le z') {x v} (d : Flds z x v) : Flds z' x v := d.monow l.w
theorem isStr_iff {x y : Str} {t : Tok} : (Value.str x t).isStr y = true ↔ x = y := by
  show (x == y) = true ↔ _; exact beq_iff_eq
theorem Flds.get {z : Rz} (x : Str) {fs : List (Str × SV)} {es : List DictEntry} (d : Flds z fs es) : match look x fs with
    | some w => ∃ v, getL x es = some (some v) ∧ Den z w v
    | none => getL x es = some none := by
  induction d with
  | nil => rfl
  | @cons y w l e es t hk d r ih =>
    simp only [look]
    unfold getL at ih ⊢
    cases h : sEq y x with
    | true =>
      have : (e.key.isStr x) = true := by rw [hk]; exact isStr_iff.mpr (sEq_iff.mp h)
      simp only [List.find?_cons, this]
      exact ⟨_, rfl, d⟩
    | false =>
      have h1 : (e.key.isStr x) = false := by rw [hk]; exact Bool.eq_false_iff.mpr fun q => sEq_false h (isStr_iff.mp q)
      have h2 : e.refKey = false := by unfold DictEntry.refKey; rw [hk]
      have h3 : (e :: es).any (·.refKey) = es.any (·.refKey) := by rw [List.any_cons, h2, Bool.false_or]
      simp only [List.find?_cons, h1, h3]
      exact ih
theorem Flds.put {z : Rz} {x : Str} {w : SV} {v : Value} (hsh : Int) (t : Tok) (d : Den z w v) {fs : List (Str × SV)} {es : List DictEntry} (r : Flds z fs es) : Flds z (putS x w fs) (putL x hsh (.str x t) v es) := by
  induction r with
  | nil => exact .cons t rfl d .nil
  | @cons y u l e es t' hk du r ih =>
    simp only [putS, putL]
    cases h : sEq y x with
    | true =>
      have : (e.key.isStr x) = true := by rw [hk]; exact isStr_iff.mpr (sEq_iff.mp h)
      simp only [this, if_true]
      exact .cons t' hk d r
    | false =>
      have h1 : (e.key.isStr x) = false := by rw [hk]; exact Bool.eq_false_iff.mpr fun q => sEq_false h (isStr_iff.mp q)
      simp only [h1, Bool.false_eq_true, if_false]
      exact .cons t' hk du ih
theorem Flds.length {z : Rz} {fs : List (Str × SV)} {es : List DictEntry} (d : Flds z fs es) : fs.length = es.length := by
  induction d with
  | nil => rfl
  | cons _ _ _ _ ih => exact congrArg Nat.succ ih
set_option tactic.hygienic true
open PySem PySem.W PySem.Calls PyProof.Rows
noncomputable def updA (l : List (Addr × Obj)) (d : Addr) (o' : Obj) : List (Addr × Obj) := l.map fun p => if p.1 = d then (d, o') else p
theorem updA_addr (d : Addr) (o' : Obj) : ∀ l, (updA l d o').map (·.1) = l.map (·.1)
  | [] => rfl
  | p :: r => by
    have ih := updA_addr d o' r
    unfold updA at ih ⊢
    simp only [List.map_cons, ih]
    by_cases h : p.1 = d
    · simp [h]
    · simp [h]
theorem mem_updA {l : List (Addr × Obj)} {d a : Addr} {o o' : Obj} (h : (a, o) ∈ l) (n : a ≠ d) : (a, o) ∈ updA l d o' :=
  List.mem_map.mpr ⟨(a, o), h, by simp [n]⟩
theorem mem_updA_self {l : List (Addr × Obj)} {d : Addr} {o o' : Obj} (h : (d, o) ∈ l) : (d, o') ∈ updA l d o' :=
  List.mem_map.mpr ⟨(d, o), h, by simp⟩
theorem updA_ne {d : Addr} {o' : Obj} : ∀ {l : List (Addr × Obj)}, (∀ p ∈ l, p.1 ≠ d) → updA l d o' = l
  | [], _ => rfl
  | p :: r, h => by
    have ih := updA_ne (d := d) (o' := o') fun q hq => h q (.tail _ hq)
    unfold updA at ih ⊢
    rw [List.map_cons, ih, if_neg (h p (.head _))]
theorem upd_of {d : Addr} {o o' : Obj} : ∀ {l : List (Addr × Obj)}, (l.map (·.1)).Nodup → (d, o) ∈ l → Upd d o o' l (updA l d o')
  | [], _, h => nomatch h
  | p :: r, nd, h => by
    rw [List.map_cons, List.nodup_cons] at nd
    by_cases e : p.1 = d
    · have hr : ∀ q ∈ r, q.1 ≠ d := fun q hq hd => nd.1 (e ▸ hd ▸ List.mem_map_of_mem hq)
      have hp : p = (d, o) := by
        rcases List.mem_cons.mp h with h | h
        · exact h.symm
        · exact absurd rfl (hr _ h)
      subst hp
      have : updA ((d, o) :: r) d o' = (d, o') :: r := by
        show (if d = d then (d, o') else (d, o)) :: updA r d o' = _
        rw [if_pos rfl, updA_ne hr]
      rw [this]
      exact .head hr
    · have h' : (d, o) ∈ r := by
        rcases List.mem_cons.mp h with h | h
        · exact absurd (by rw [← h]) e
        · exact h
      have : updA (p :: r) d o' = p :: updA r d o' := by
        show (if p.1 = d then (d, o') else p) :: updA r d o' = _
        rw [if_neg e]
      rw [this]
      exact .tail e (upd_of nd.2 h')
set_option genInjectivity false in
structure Fix where
  prog : Program
  w : World
  K : Frag
  mg : Str → Option Value
  mb : Str → Option Value
  Γ : Sta
noncomputable abbrev Fix.M (S : Fix) : Model := model S.prog S.w
noncomputable abbrev Atom := Int ⊕ Str
noncomputable abbrev Key := Atom ⊕ List Atom
section
variable (prog : Program) (w : World)
noncomputable def atomIs : Atom → Value → Bool
  | .inl i, v => Value.isInt i v
  | .inr s, v => Value.isStrOf s v
noncomputable def atomHash : Atom → Int
  | .inl i => hashInt i
  | .inr s => hashStr w s
theorem atomIs_int {i : Int} {v : Value} (h : atomIs (.inl i) v = true) : ∃ t, v = .int i t := Value.isInt_shape h
theorem atomIs_str {i : Str} {v : Value} (h : atomIs (.inr i) v = true) : ∃ t, v = .str i t := Value.isStrOf_shape h
noncomputable def atomKind : KeyKind prog w Atom where
  is := atomIs
  hash := atomHash w
  inj := fun v a b ha hb => by
    cases a <;> cases b
    · exact congrArg _ (Value.isInt_inj _ _ _ ha hb)
    · obtain ⟨t, rfl⟩ := atomIs_int ha; obtain ⟨u, e⟩ := atomIs_str hb; cases e
    · obtain ⟨t, rfl⟩ := atomIs_int hb; obtain ⟨u, e⟩ := atomIs_str ha; cases e
    · exact congrArg _ (Value.isStrOf_inj _ _ _ ha hb)
  byValue := fun k v h => by
    cases k
    · obtain ⟨t, rfl⟩ := atomIs_int h; rfl
    · obtain ⟨t, rfl⟩ := atomIs_str h; rfl
  pyHash := fun {A E s k v Q} hv h => by
    cases k
    · obtain ⟨t, rfl⟩ := atomIs_int hv; exact wpAny_pyHash_int h
    · obtain ⟨t, rfl⟩ := atomIs_str hv; exact wpAny_pyHash_str h
  eqBool := fun {A E s a b u v Q} hu hv h => by
    cases a <;> cases b
    · obtain ⟨t, rfl⟩ := atomIs_int hu
      obtain ⟨t', rfl⟩ := atomIs_int hv
      rename_i i j
      refine wpAny_eqBool_int ?_
      have : (i == j) = decide ((Sum.inl i : Atom) = .inl j) := by by_cases e : i = j <;> simp [e]
      rw [this]; exact h
    · obtain ⟨t, rfl⟩ := atomIs_int hu
      obtain ⟨t', rfl⟩ := atomIs_str hv
      exact SeqAt.EqAt.int_str _ _ _ _ prog w E Q (by simpa using h)
    · obtain ⟨t, rfl⟩ := atomIs_str hu
      obtain ⟨t', rfl⟩ := atomIs_int hv
      exact SeqAt.EqAt.str_int _ _ _ _ prog w E Q (by simpa using h)
    · obtain ⟨t, rfl⟩ := atomIs_str hu
      obtain ⟨t', rfl⟩ := atomIs_str hv
      rename_i i j
      refine wpAny_eqBool_str ?_
      have : decide (i = j) = decide ((Sum.inr i : Atom) = .inr j) := by by_cases e : i = j <;> simp [e]
      rw [this]; exact h
  «strs» := fun k x t v h => by
    cases k
    · obtain ⟨u, e⟩ := atomIs_int h; cases e
    · obtain ⟨u, e⟩ := atomIs_str h
      cases e
      cases v <;> rfl
end
noncomputable def atomOf : SV → Option Atom
  | .int _ i => some (.inl i)
  | .str s => some (.inr s)
  | _ => none
noncomputable def atomsOf : List SV → Option (List Atom)
  | [] => some []
  | a :: l => match atomOf a, atomsOf l with
    | some x, some y => some (x :: y)
    | _, _ => none
noncomputable def keyV : SV → Option Key
  | .tup l => (atomsOf l).map .inr
  | v => (atomOf v).map .inl
inductive AtomPairs (z : Rz) : List (SV × SV) → List (Atom × Value) → Prop where
  | nil : AtomPairs z [] []
  | cons {k v d a u kvs} : atomOf k = some a → Den z v u → AtomPairs z d kvs → AtomPairs z ((k, v) :: d) ((a, u) :: kvs)
inductive TupPairs (S : Fix) (z : Rz) : List (SV × SV) → List (List Atom × Addr × Value) → Prop where
  | nil : TupPairs S z [] []
  | cons {l v d ks a vs u xs} : atomsOf l = some ks → (a, tupO vs) ∈ z.all → z.own a = .none → ItemsAre (atomKind S.prog S.w) ks vs → Den z v u → TupPairs S z d xs → TupPairs S z ((.tup l, v) :: d) ((ks, a, u) :: xs)
theorem AtomPairs.monow {z z' : Rz} (l : z.Lw z') {d : List (SV × SV)} {x : List (Atom × Value)} (h : AtomPairs z d x) : AtomPairs z' d x := by
  induction h with
  | nil => exact .nil
  | cons a b _ ih => exact .cons a (b.monow l) ih
theorem TupPairs.monow {S : Fix} {z z' : Rz} (l : z.Lw z') {d : List (SV × SV)} {x : List (List Atom × Addr × Value)} (h : TupPairs S z d x) : TupPairs S z' d x := by
  induction h with
  | nil => exact .nil
  | cons a m o i b _ ih => exact .cons a (l.pool _ _ (.inl ⟨_, rfl⟩) m o).1 (l.pool _ _ (.inl ⟨_, rfl⟩) m o).2 i (b.monow l) ih
noncomputable def AtomDict (S : Fix) (z : Rz) (d : List (SV × SV)) (ep : Nat) (o : Obj) : Prop :=
  ∃ kvs es, o.ExactDict ∧ o.data = .dict es ep ∧ KeysOf (atomKind S.prog S.w) es ∧ Pairs (atomKind S.prog S.w) es.toList kvs ∧ (kvs.map (·.1)).Nodup ∧ AtomPairs z d kvs
noncomputable def TupDict (S : Fix) (z : Rz) (d : List (SV × SV)) (o : Obj) : Prop :=
  ∃ es ep xs, o.ExactDict ∧ o.data = .dict es ep ∧ es.toList = xs.map (entryOfKey (tupleKind (atomKind S.prog S.w))) ∧ (xs.map (·.1)).Nodup ∧ TupPairs S z d xs
noncomputable def DictR (S : Fix) (z : Rz) (d : List (SV × SV)) (o : Obj) : Prop := (∃ ep, AtomDict S z d ep o) ∨ TupDict S z d o
theorem AtomDict.monow {S : Fix} {z z' : Rz} (l : z.Lw z') {d : List (SV × SV)} {ep : Nat} {o : Obj} (h : AtomDict S z d ep o) : AtomDict S z' d ep o :=
  h.imp fun _ h => h.imp fun _ h => h.imp_right fun h => h.imp_right fun h => h.imp_right fun h => h.imp_right fun h => h.imp_right fun h => h.monow l
theorem DictR.monow {S : Fix} {z z' : Rz} (l : z.Lw z') {d : List (SV × SV)} {o : Obj} (h : DictR S z d o) : DictR S z' d o :=
  h.imp (fun h => h.imp fun _ h => h.monow l) fun h => h.imp fun _ h => h.imp fun _ h => h.imp fun _ h => h.imp_right fun h => h.imp_right fun h => h.imp_right fun h => h.imp_right fun h => h.monow l
noncomputable def SetR (S : Fix) (l : List Int) (o : Obj) : Prop := ∃ n, o.SetObjOf (intKind S.prog S.w) (fun k => decide (k ∈ l)) n ∧ n ≤ l.length
noncomputable abbrev tabO (ps : Array Value) : Obj := { cls := .none, data := .fields ps }
inductive At (S : Fix) (z : Rz) (k : Nat × Int) : SO → Addr → Prop where
  | inst {C fs x y es j} : (x, instObj C y) ∈ z.all → (y, dictOf es j) ∈ z.all → z.own x = some k → z.own y = some k → Flds z fs es → At S z k (.inst C fs) x
  | list {c l x vs j} : (x, listOf vs.toArray j) ∈ z.all → z.own x = some k → DenL z l vs → At S z k (.list c l) x
  | dict {c d x o} : (x, o) ∈ z.all → z.own x = some k → DictR S z d o → At S z k (.dict c d) x
  | fdict {d ep x o} : (x, o) ∈ z.all → z.own x = some k → AtomDict S z d ep o → At S z k (.fdict d ep) x
  | set {c l x o} : (x, o) ∈ z.all → z.own x = some k → SetR S l o → At S z k (.set c l) x
  | cell {v x w o} : (x, o) ∈ z.all → o.data = .cell (some w) → z.own x = some k → Den z v w → At S z k (.cell v) x
  | nocell {x o} : (x, o) ∈ z.all → o.data = .cell none → z.own x = some k → At S z k .nocell x
  | tab {b x ps} : (x, tabO ps) ∈ z.all → z.own x = some k → (b = true → ps = #[]) → x = 759 → At S z k (.tab b) x
section
variable {S : Fix} {z : Rz} {k : Nat × Int} {x : Addr} {G : Prop}
theorem At.inst_el {C : Nat} {fs : List (Str × SV)} (h : At S z k (.inst C fs) x) (f : ∀ y es j, (x, instObj C y) ∈ z.all → (y, dictOf es j) ∈ z.all → z.own x = some k → z.own y = some k → Flds z fs es → G) : G := by
  cases h with | inst a b c d e => exact f _ _ _ a b c d e
theorem At.list_el {c : Bool} {l : List SV} (h : At S z k (.list c l) x) (f : ∀ vs j, (x, listOf vs.toArray j) ∈ z.all → z.own x = some k → DenL z l vs → G) : G := by cases h with | list a b c => exact f _ _ a b c
theorem At.dict_el {c : Bool} {d : List (SV × SV)} (h : At S z k (.dict c d) x) (f : ∀ o, (x, o) ∈ z.all → z.own x = some k → DictR S z d o → G) : G := by cases h with | dict a b c => exact f _ a b c
theorem At.fdict_el {d : List (SV × SV)} {ep : Nat} (h : At S z k (.fdict d ep) x) (f : ∀ o, (x, o) ∈ z.all → z.own x = some k → AtomDict S z d ep o → G) : G := by cases h with | fdict a b c => exact f _ a b c
theorem At.set_el {c : Bool} {l : List Int} (h : At S z k (.set c l) x) (f : ∀ o, (x, o) ∈ z.all → z.own x = some k → SetR S l o → G) : G := by cases h with | set a b c => exact f _ a b c
theorem At.nocell_el (h : At S z k .nocell x) (f : ∀ o, (x, o) ∈ z.all → o.data = .cell none → z.own x = some k → G) : G := by cases h with | nocell a b c => exact f _ a b c
theorem At.cell_el {v : SV} (h : At S z k (.cell v) x) (f : ∀ w o, (x, o) ∈ z.all → o.data = .cell (some w) → z.own x = some k → Den z v w → G) : G := by cases h with | cell a b c d => exact f _ _ a b c d
end
noncomputable def Sits (S : Fix) (z : Rz) (t : Nat) : SO → Prop
  | .fam ks f => ∀ i ∈ ks, z.lv t i ∧ At S z (t, i) (f i) (z.ad t i)
  | .ffam ks f i o => i ∈ ks ∧ (z.lv t i ∧ At S z (t, i) o (z.ad t i)) ∧ ∀ j ∈ ks, j ≠ i → z.lv t j ∧ At S z (t, j) (f j) (z.ad t j)
  | o => z.lv t 0 ∧ At S z (t, 0) o (z.ad t 0)
theorem Sits.of_at {S : Fix} {z : Rz} {t : Nat} {o : SO} (h : At S z (t, 0) o (z.ad t 0)) (hl : z.lv t 0) : Sits S z t o := by
  cases o with
  | fam ks f => nomatch h
  | ffam ks f i o => nomatch h
  | _ => exact ⟨hl, h⟩
noncomputable def ksOf : SO → Option (List Int)
  | .fam ks _ => some ks
  | .ffam ks _ _ _ => some ks
  | _ => none
noncomputable def Keep (z z' : Rz) (k : Nat × Int) : Prop := ∀ a o, (a, o) ∈ z.all → z.own a = some k → (a, o) ∈ z'.all ∧ z'.own a = some k
theorem At.keepw {S : Fix} {z z' : Rz} {k : Nat × Int} (l : z.Lw z') (h : Keep z z' k) {o : SO} {x : Addr} (t : At S z k o x) : At S z' k o x := by
  cases t with
  | inst a b c d e => exact .inst (h _ _ a c).1 (h _ _ b d).1 (h _ _ a c).2 (h _ _ b d).2 (e.monow l)
  | list a b c => exact .list (h _ _ a b).1 (h _ _ a b).2 (c.monow l)
  | dict a b c => exact .dict (h _ _ a b).1 (h _ _ a b).2 (c.monow l)
  | fdict a b c => exact .fdict (h _ _ a b).1 (h _ _ a b).2 (c.monow l)
  | set a b c => exact .set (h _ _ a b).1 (h _ _ a b).2 c
  | cell a d b c => exact .cell (h _ _ a b).1 d (h _ _ a b).2 (c.monow l)
  | nocell a d b => exact .nocell (h _ _ a b).1 d (h _ _ a b).2
  | tab a b d e => exact .tab (h _ _ a b).1 (h _ _ a b).2 d e
theorem At.keep {S : Fix} {z z' : Rz} {k : Nat × Int} (l : z.Le z') (h : Keep z z' k) {o x} (a : At S z k o x) : At S z' k o x := a.keepw l.w h
theorem Sits.keepw {S : Fix} {z z' : Rz} {t : Nat} (l : z.Lw z') (h : ∀ i, Keep z z' (t, i)) {o : SO} (s : Sits S z t o) : Sits S z' t o := by
  cases o with
  | fam ks f => exact fun i hi => ⟨(l.ad t i (s i hi).1).1, by rw [(l.ad t i (s i hi).1).2]; exact (s i hi).2.keepw l (h i)⟩
  | ffam ks f i o => exact ⟨s.1, ⟨(l.ad t i s.2.1.1).1, by rw [(l.ad t i s.2.1.1).2]; exact s.2.1.2.keepw l (h i)⟩, fun j hj hn => ⟨(l.ad t j (s.2.2 j hj hn).1).1, by rw [(l.ad t j (s.2.2 j hj hn).1).2]; exact (s.2.2 j hj hn).2.keepw l (h j)⟩⟩
  | _ => exact ⟨(l.ad t 0 s.1).1, by rw [(l.ad t 0 s.1).2]; exact At.keepw l (h 0) s.2⟩
theorem Sits.keep {S : Fix} {z z' : Rz} {t : Nat} (l : z.Le z') (h : ∀ i, Keep z z' (t, i)) {o : SO} (s : Sits S z t o) : Sits S z' t o := s.keepw l.w h
set_option genInjectivity false in
structure Cx where
  A : Around
  A₀ : Around
  base : Heap
  h₀ : Heap
  outer : List Env
  L : Addr
  cn : Str
  sc : Scope
  a : Addr
  cd : Value
  cl : List (Str × Addr)
noncomputable abbrev Cx.env (c : Cx) : Env := envX c.cn c.sc c.L c.a c.cd c.cl
structure Top0 (mg mb : Str → Option Value) (h : Heap) : Prop where
  g : h.Ns mainGlobals mg
  b : h.Ns builtinsNs mb
  nolimit : h.NoLimit
  mods : ∃ o, h.get? sysModules = some o
  bmain : ∃ bm ob, mg "__builtins__" = some (.ref bm) ∧ bm ≠ builtinsNs ∧ h.get? bm = some ob ∧ ob.cls = .type "module" ∧ ob.dict = some builtinsNs ∧ ob.data = .plain
theorem Top0.keeps {mg mb : Str → Option Value} {h h' : Heap} (T : Top0 mg mb h) (hk : ∀ b o, h.get? b = some o → h'.get? b = some o) : Top0 mg mb h' :=
  ⟨T.g.keeps hk, T.b.keeps hk, T.nolimit.keeps hk, let ⟨o, e⟩ := T.mods; ⟨o, hk _ o e⟩, let ⟨bm, ob, a, b, e, r⟩ := T.bmain; ⟨bm, ob, a, b, hk _ _ e, r⟩⟩
structure Rep (S : Fix) (en : En) (c : Cx) (z : Rz) (m : Str → Option Value) (σ : St) (h : Heap) : Prop where
  fr : Fr c.h₀ c.L h m
  news : News c.h₀ c.L h z.all
  nd : (z.all.map (·.1)).Nodup
  dom : ∀ a k, z.own a = some k → k.1 < z.n ∧ a ∈ z.all.map (·.1)
  len : z.n = σ.led.length
  led : ∀ t o, σ.led[t]? = some o → Sits S z t o
  loc : ∀ x w, look x σ.loc = some w → ∃ v, m x = some v ∧ Den z w v
  cells : ∀ x t, look x en.cells = some t → c.cl.lookup x = some (z.ad t 0) ∧ z.lv t 0
  scope : en.sc = c.sc
  lvn : ∀ t i, z.lv t i → t < z.n
  lvk : ∀ t i, z.lv t i → ∀ q ks, σ.led[t]? = some q → ksOf q = some ks → i ∈ ks
section
variable {S : Fix} {en : En} {c : Cx} {z : Rz} {m : Str → Option Value} {σ : St} {h : Heap}
theorem Rep.orc (H : Rep S en c z m σ h) (o : List Orc) : Rep S en c z m ⟨σ.loc, σ.led, o⟩ h := ⟨H.fr, H.news, H.nd, H.dom, H.len, H.led, H.loc, H.cells, H.scope, H.lvn, H.lvk⟩
theorem Rep.one (H : Rep S en c z m σ h) {a : Addr} {o o' : Obj} (x : (a, o) ∈ z.all) (y : (a, o') ∈ z.all) : o = o' :=
  Option.some.inj ((H.news _ x).1.symm.trans (H.news _ y).1)
noncomputable def Rz.pool (z : Rz) (d : Addr) (o : Obj) : Rz := ⟨(d, o) :: z.all, z.own, z.ad, z.n, z.lv⟩
theorem Rz.pool_le (z : Rz) (d : Addr) (o : Obj) : z.Le (z.pool d o) := ⟨Nat.le_refl _, fun _ _ h => ⟨h, rfl⟩, fun _ _ x y => ⟨.tail _ x, y⟩⟩
theorem Rep.pool {h' : Heap} {d : Addr} {o : Obj} (H : Rep S en c z m σ h) (F : Fr c.h₀ c.L h' m) (N : News c.h₀ c.L h' ((d, o) :: z.all)) (hd : ∀ p ∈ z.all, p.1 < d) :
    Rep S en c (z.pool d o) m σ h' ∧ z.own d = none := by
  have hn : d ∉ z.all.map (·.1) := fun q => by
    obtain ⟨p, hp, e⟩ := List.mem_map.mp q
    exact absurd (hd p hp) (e ▸ Nat.lt_irrefl _)
  have ho : z.own d = none := by
    cases q : z.own d with
    | none => rfl
    | some k => exact absurd (H.dom d k q).2 hn
  have le := z.pool_le d o
  refine ⟨⟨F, N, List.nodup_cons.mpr ⟨hn, H.nd⟩, fun a k e => ⟨(H.dom a k e).1, .tail _ (H.dom a k e).2⟩, H.len, fun t q e => ?_, fun x w e => ?_, H.cells, H.scope, H.lvn, H.lvk⟩, ho⟩
  · exact (H.led t q e).keep le fun i a o' x y => ⟨.tail _ x, y⟩
  · obtain ⟨v, a, b⟩ := H.loc x w e
    exact ⟨v, a, b.mono le⟩
noncomputable def Rz.grow (z : Rz) (l : List (Addr × Obj)) (d : Addr) : Rz :=
  ⟨l ++ z.all, fun a => if a ∈ l.map (·.1) then some (z.n, 0) else z.own a, fun t i => if t = z.n then d else z.ad t i, z.n + 1, fun t i => z.lv t i ∨ (t = z.n ∧ i = 0)⟩
theorem Rep.grow_le {l : List (Addr × Obj)} (H : Rep S en c z m σ h) (hl : ∀ q ∈ l, ∀ p ∈ z.all, p.1 ≠ q.1) (d : Addr) : z.Le (z.grow l d) := by
  refine ⟨Nat.le_succ _, fun t i ht => ⟨.inl ht, if_neg (Nat.ne_of_lt (H.lvn t i ht))⟩, fun a o x y => ⟨List.mem_append_right _ x, ?_⟩⟩
  show (if a ∈ l.map (·.1) then some (z.n, 0) else z.own a) = none
  rw [if_neg]
  · exact y
  · intro q
    obtain ⟨p, hp, e⟩ := List.mem_map.mp q
    exact hl p hp _ x e.symm
theorem Rep.grow {h' : Heap} {d : Addr} {l : List (Addr × Obj)} {o : SO} (H : Rep S en c z m σ h) (F : Fr c.h₀ c.L h' m) (N : News c.h₀ c.L h' (l ++ z.all)) (hl : ∀ q ∈ l, ∀ p ∈ z.all, p.1 ≠ q.1)
    (hnl : (l.map (·.1)).Nodup) (ho : Sits S (z.grow l d) z.n o) (hnf : ksOf o = none) : Rep S en c (z.grow l d) m ⟨σ.loc, σ.led ++ [o], σ.orc⟩ h' := by
  have le := H.grow_le hl d
  have hoff : ∀ a o', (a, o') ∈ z.all → a ∉ l.map (·.1) := fun a o' x q => by
    obtain ⟨p, hp, e⟩ := List.mem_map.mp q
    exact hl p hp _ x e.symm
  refine ⟨F, N, ?_, fun a k e => ?_, ?_, fun t q e => ?_, fun x w e => ?_, fun x t e => ?_, H.scope, fun t i ht => ht.elim (fun h => Nat.lt_succ_of_lt (H.lvn t i h)) fun h => h.1 ▸ Nat.lt_succ_self _, fun t i ht q ks e ek => ?_⟩
  · show ((l ++ z.all).map (·.1)).Nodup
    rw [List.map_append, List.nodup_append]
    refine ⟨hnl, H.nd, fun a ha b hb e => ?_⟩
    obtain ⟨p, hp, rfl⟩ := List.mem_map.mp ha
    obtain ⟨q, hq, rfl⟩ := List.mem_map.mp hb
    exact hl p hp q hq e.symm
  · have e : (if a ∈ l.map (·.1) then some (z.n, 0) else z.own a) = some k := e
    show k.1 < z.n + 1 ∧ a ∈ (l ++ z.all).map (·.1)
    rw [List.map_append]
    by_cases q : a ∈ l.map (·.1)
    · rw [if_pos q] at e
      cases e
      exact ⟨Nat.lt_succ_self _, List.mem_append_left _ q⟩
    · rw [if_neg q] at e
      exact ⟨Nat.lt_succ_of_lt (H.dom a k e).1, List.mem_append_right _ (H.dom a k e).2⟩
  · show z.n + 1 = (σ.led ++ [o]).length
    rw [List.length_append, H.len]; rfl
  · have e : (σ.led ++ [o])[t]? = some q := e
    by_cases ht : t < σ.led.length
    · rw [List.getElem?_append_left ht] at e
      refine (H.led t q e).keep le fun i a o' x y => ⟨List.mem_append_right _ x, ?_⟩
      show (if a ∈ l.map (·.1) then some (z.n, 0) else z.own a) = some (t, i)
      rw [if_neg (hoff a o' x)]; exact y
    · have : t = σ.led.length := by
        have := (List.getElem?_eq_some_iff.mp e).1
        rw [List.length_append, List.length_singleton] at this
        omega
      subst this
      rw [List.getElem?_append_right (Nat.le_refl _), Nat.sub_self] at e
      obtain rfl : o = q := by simpa using e
      rw [← H.len]; exact ho
  · obtain ⟨v, a, b⟩ := H.loc x w e
    exact ⟨v, a, b.mono le⟩
  · obtain ⟨a, b⟩ := H.cells x t e
    exact ⟨by rw [(le.ad t 0 b).2]; exact a, .inl b⟩
  · have e : (σ.led ++ [o])[t]? = some q := e
    rcases ht with ht | ⟨rfl, _⟩
    · have := H.lvn t i ht
      rw [List.getElem?_append_left (by rw [← H.len]; exact this)] at e
      exact H.lvk t i ht q ks e ek
    · rw [H.len, List.getElem?_append_right (Nat.le_refl _), Nat.sub_self] at e
      obtain rfl : o = q := by simpa using e
      rw [hnf] at ek; cases ek
noncomputable def Rz.turn (z : Rz) (d : Addr) (o' : Obj) : Rz := ⟨updA z.all d o', z.own, z.ad, z.n, z.lv⟩
theorem Rz.turn_le (z : Rz) {d : Addr} (o' : Obj) {k : Nat × Int} (hk : z.own d = some k) : z.Le (z.turn d o') :=
  ⟨Nat.le_refl _, fun _ _ h => ⟨h, rfl⟩, fun a o x y => ⟨mem_updA x fun e => (by rw [e, hk] at y; cases y), y⟩⟩
theorem Rz.turn_keep (z : Rz) {d : Addr} (o' : Obj) {k k' : Nat × Int} (hk : z.own d = some k) (n : k' ≠ k) : Keep z (z.turn d o') k' :=
  fun a o x y => ⟨mem_updA x fun e => n (by rw [e, hk] at y; exact (Option.some.inj y).symm), y⟩
noncomputable def keyOf : SV → Option (Nat × Int)
  | .ref t => some (t, 0)
  | .fam t i => some (t, i)
  | _ => none
theorem set_el {α : Type} {l : List α} {t u : Nat} {a q : α} (e : (l.set t a)[u]? = some q) {G : Prop} (h1 : ∀ q₀, u = t → a = q → l[t]? = some q₀ → G) (h2 : u ≠ t → l[u]? = some q → G) : G := by
  by_cases h : u = t
  · rw [h, List.getElem?_set_self'] at e
    cases e₂ : l[t]? with
    | none => rw [e₂] at e; cases e
    | some q₀ => rw [e₂] at e; exact h1 q₀ h (Option.some.inj e) e₂
  · rw [List.getElem?_set_ne (Ne.symm h)] at e
    exact h2 h e
theorem Rep.write {h' : Heap} {z' : Rz} {t : Nat} {q₁ : SO} (H : Rep S en c z m σ h) (F : Fr c.h₀ c.L h' m) (N : News c.h₀ c.L h' z'.all) (ha : z'.all.map (·.1) = z.all.map (·.1)) (ho : z'.own = z.own) (hn : z'.n = z.n) (hl : z'.lv = z.lv) (le : z.Le z') (kp : ∀ u i, u ≠ t → Keep z z' (u, i))
    (hks : ∀ i q, z.lv t i → σ.led[t]? = some q → ∀ ks, ksOf q₁ = some ks → i ∈ ks) (ht : Sits S z' t q₁) : Rep S en c z' m ⟨σ.loc, σ.led.set t q₁, σ.orc⟩ h' := by
  refine ⟨F, N, by rw [ha]; exact H.nd, fun a k e => by rw [ho] at e; rw [ha, hn]; exact H.dom a k e, by
    rw [hn]; show z.n = (σ.led.set t q₁).length; rw [List.length_set]; exact H.len, fun u q e => ?_, fun x w e => (H.loc x w e).imp fun v h => ⟨h.1, h.2.mono le⟩, fun x u e => ?_, H.scope, fun u i hu => by rw [hn]; rw [hl] at hu; exact H.lvn u i hu, fun u j hu q ks e ek => ?_⟩
  · refine set_el (show (σ.led.set t q₁)[u]? = some q from e) (fun q₀ h1 h2 _ => h1 ▸ h2 ▸ ht) fun h1 h2 => (H.led u q h2).keep le fun i => kp u i h1
  · obtain ⟨a, b⟩ := H.cells x u e
    exact ⟨by rw [(le.ad u 0 b).2]; exact a, (le.ad u 0 b).1⟩
  · rw [hl] at hu
    exact set_el (show (σ.led.set t q₁)[u]? = some q from e) (fun q₀ h1 h2 h3 => hks j q₀ (h1 ▸ hu) h3 ks (h2 ▸ ek)) fun h1 h2 => H.lvk u j hu q ks h2 ek
theorem setObj_fam {t : Nat} {i : Int} {o₁ : SO} {σ₁ : St} {ob : List Ob} (e : setObj (.fam t i) o₁ σ = some ((), σ₁, ob)) :
    (∃ ks f, σ.led[t]? = some (.fam ks f) ∧ setChunk σ t (.ffam ks f i o₁) = σ₁) ∨ ∃ ks f j o, σ.led[t]? = some (.ffam ks f j o) ∧ setChunk σ t (.ffam ks f j o₁) = σ₁ := by
  unfold setObj at e
  dsimp only at e
  cases e₂ : getChunk σ t with
  | none => rw [e₂] at e; cases e
  | some q₀ =>
    rw [e₂] at e
    cases q₀ with
    | fam ks f => exact .inl ⟨ks, f, e₂, (Prod.mk.inj (Prod.mk.inj (Option.some.inj e)).2).1⟩
    | ffam ks f j o => exact .inr ⟨ks, f, j, o, e₂, (Prod.mk.inj (Prod.mk.inj (Option.some.inj e)).2).1⟩
    | _ => cases e
theorem At.noks {k : Nat × Int} {o : SO} {x : Addr} (h : At S z k o x) : ksOf o = none := by cases h <;> rfl
theorem Rep.turn {h' : Heap} {d : Addr} {o' : Obj} {v : SV} {o₀ o₁ : SO} {σ₀ σ₁ : St} {ob ob' : List Ob} {t : Nat} {i : Int} (H : Rep S en c z m σ h) (hk : z.own d = some (t, i)) (F : Fr c.h₀ c.L h' m)
    (N : News c.h₀ c.L h' (updA z.all d o')) (hv : keyOf v = some (t, i)) (e₀ : objOf v σ = some (o₀, σ₀, ob)) (e₁ : setObj v o₁ σ = some ((), σ₁, ob'))
    (hat : At S (z.turn d o') (t, i) o₁ (z.ad t i)) (hlv : z.lv t i) (hsame : ∀ ks f j o, σ.led[t]? = some (.ffam ks f j o) → i = j) : Rep S en c (z.turn d o') m σ₁ h' := by
  have le := z.turn_le o' hk
  have base : ∀ (q₁ : SO), (∀ i q, z.lv t i → σ.led[t]? = some q → ∀ ks, ksOf q₁ = some ks → i ∈ ks) → Sits S (z.turn d o') t q₁ → Rep S en c (z.turn d o') m (setChunk σ t q₁) h' := fun q₁ hks ht =>
    H.write F N (updA_addr d o' z.all) rfl rfl rfl le (fun u i hu => z.turn_keep o' hk fun x => hu (congrArg Prod.fst x)) hks ht
  cases v with
  | ref t' =>
    obtain ⟨h1, h2⟩ := Prod.mk.inj (Option.some.inj hv)
    have e₁ : setChunk σ t' o₁ = σ₁ := (Prod.mk.inj (Prod.mk.inj (Option.some.inj e₁)).2).1
    rw [← e₁, h1]
    refine base o₁ (fun i q _ _ ks e => by rw [hat.noks] at e; cases e) (.of_at (by rw [h2]; exact hat) (by rw [h2]; exact hlv))
  | fam t' i' =>
    obtain ⟨h1, h2⟩ := Prod.mk.inj (Option.some.inj hv)
    rw [h1, h2] at e₁
    rcases setObj_fam e₁ with ⟨ks, f, e₂, e₃⟩ | ⟨ks, f, j, o, e₂, e₃⟩
    · rw [← e₃]
      refine base (.ffam ks f i o₁) (fun i q hi e ks' ek => ?_) ⟨H.lvk t i hlv _ ks e₂ rfl, ⟨hlv, hat⟩, fun j hj hn => ⟨(H.led t _ e₂ j hj).1, (H.led t _ e₂ j hj).2.keep le (z.turn_keep o' hk fun x => hn (congrArg Prod.snd x))⟩⟩
      exact H.lvk t i hi _ ks' (e₂.trans (by rw [show ks = ks' from Option.some.inj ek])) rfl
    · rw [← e₃, ← hsame ks f j o e₂]
      rw [← hsame ks f j o e₂] at e₂
      have sit := H.led t _ e₂
      refine base (.ffam ks f i o₁) (fun i' q hi e ks' ek => ?_) ⟨sit.1, ⟨hlv, hat⟩, fun j hj hn => ⟨(sit.2.2 j hj hn).1, (sit.2.2 j hj hn).2.keep le (z.turn_keep o' hk fun x => hn (congrArg Prod.snd x))⟩⟩
      exact H.lvk t i' hi _ ks' e₂ ek
  | _ => cases hv
end
set_option tactic.hygienic true
open PySem PySem.W PySem.Calls PyProof.Rows
theorem no_some {α : Type} {a : α} {G : Prop} (e : none = some a) : G := nomatch e
theorem no_ft {G : Prop} (h : false = true) : G := nomatch h
theorem andThen_some {α β : Type} {x : R α} {f : α → St → R β} {b : β} {σ' : St} {o : List Ob} (h : andThen x f = some (b, σ', o)) :
    ∃ a σ₁ o₁ o₂, x = some (a, σ₁, o₁) ∧ f a σ₁ = some (b, σ', o₂) ∧ o = o₁ ++ o₂ := by
  unfold andThen at h
  split at h
  · rename_i a σ₁ o₁
    split at h
    · rename_i e
      cases h
      exact ⟨_, _, _, _, rfl, e, rfl⟩
    · cases h
  · cases h
theorem ret_some {α : Type} {a b : α} {σ σ' : St} {o : List Ob} (h : ret a σ = some (b, σ', o)) : a = b ∧ σ = σ' ∧ o = [] := by
  unfold ret at h; cases h; exact ⟨rfl, rfl, rfl⟩
theorem opt_some {α : Type} {x : Option α} {b : α} {σ σ' : St} {o : List Ob} (h : opt x σ = some (b, σ', o)) : x = some b ∧ σ = σ' ∧ o = [] := by
  unfold opt at h; cases x <;> cases h; exact ⟨rfl, rfl, rfl⟩
theorem isTrue!_some {c : Bool} {u : Unit} {σ σ' : St} {o : List Ob} (h : isTrue! c σ = some (u, σ', o)) : c = true ∧ σ = σ' ∧ o = [] := by
  unfold isTrue! at h; cases c <;> cases h; exact ⟨rfl, rfl, rfl⟩
theorem owe_some {q : Ob} {u : Unit} {σ σ' : St} {o : List Ob} (h : owe q σ = some (u, σ', o)) : σ = σ' ∧ o = [q] := by
  unfold owe at h; cases h; exact ⟨rfl, rfl⟩
noncomputable abbrev Sh (s : Shared) (h : Heap) (tk : Nat) : Shared := { s with heap := h, toks := tk }
section
variable {α β : Type} {σ σ' : St} {b : β} {o : List Ob} {H : Ob → Prop} {G : Prop}
theorem andThen_el {x : R α} {f : α → St → R β} (e : andThen x f = some (b, σ', o)) (ho : ∀ q ∈ o, H q) (k : ∀ a σ₁ o₁ o₂, x = some (a, σ₁, o₁) → (∀ q ∈ o₁, H q) → f a σ₁ = some (b, σ', o₂) → (∀ q ∈ o₂, H q) → G) : G := by
  obtain ⟨a, σ₁, o₁, o₂, h1, h2, rfl⟩ := andThen_some e
  exact k a σ₁ o₁ o₂ h1 (fun q hq => ho q (List.mem_append_left _ hq)) h2 fun q hq => ho q (List.mem_append_right _ hq)
theorem andThen_pu {x : R α} {f : α → St → R β} (e : andThen x f = some (b, σ', o)) (k : ∀ a σ₁ o₁ o₂, x = some (a, σ₁, o₁) → f a σ₁ = some (b, σ', o₂) → G) : G := by
  obtain ⟨a, σ₁, o₁, o₂, h1, h2, _⟩ := andThen_some e
  exact k a σ₁ o₁ o₂ h1 h2
theorem isTrue_el {p : Bool} {f : Unit → St → R β} (e : andThen (isTrue! p σ) f = some (b, σ', o)) (k : p = true → f () σ = some (b, σ', o) → G) : G := by
  obtain ⟨_, σ₁, o₁, o₂, h1, h2, rfl⟩ := andThen_some e
  obtain ⟨h3, rfl, rfl⟩ := isTrue!_some h1
  exact k h3 h2
theorem opt_el {x : Option α} {f : α → St → R β} (e : andThen (opt x σ) f = some (b, σ', o)) (k : ∀ a, x = some a → f a σ = some (b, σ', o) → G) : G := by
  obtain ⟨a, σ₁, o₁, o₂, h1, h2, rfl⟩ := andThen_some e
  obtain ⟨h3, rfl, rfl⟩ := opt_some h1
  exact k _ h3 h2
theorem owe_el {q : Ob} {f : Unit → St → R β} (e : andThen (owe q σ) f = some (b, σ', o)) (ho : ∀ q ∈ o, H q) (k : ∀ o₂, H q → f () σ = some (b, σ', o₂) → (∀ q ∈ o₂, H q) → G) : G := by
  obtain ⟨_, σ₁, o₁, o₂, h1, h2, rfl⟩ := andThen_some e
  obtain ⟨rfl, rfl⟩ := owe_some h1
  exact k _ (ho _ (.head _)) h2 fun q hq => ho q (.tail _ hq)
end
section
variable {S : Fix} {en : En} {c : Cx} {z : Rz} {s : Shared} {α β : Type} {D : Rz → β → α → Prop} {Q : α → Shared → Prop} {a b : β} {σ σ' : St} {o : List Ob} {q : Prop}
theorem retA (e : ret a σ = some (b, σ', o)) (hQ : ∀ v z' m' h' tk', z.Le z' → Rep S en c z' m' σ' h' → D z' b v → Q v (Sh s h' tk')) : ∀ v z' m' h' tk', z.Le z' → Rep S en c z' m' σ h' → D z' a v → Q v (Sh s h' tk') := by
  obtain ⟨rfl, rfl, _⟩ := ret_some e
  exact hQ
theorem optA {x : Option β} (e : opt x σ = some (b, σ', o)) (hQ : ∀ v z' m' h' tk', z.Le z' → Rep S en c z' m' σ' h' → D z' b v → Q v (Sh s h' tk')) : ∀ v z' m' h' tk', z.Le z' → Rep S en c z' m' σ h' → D z' b v → Q v (Sh s h' tk') := by
  obtain ⟨_, rfl, _⟩ := opt_some e
  exact hQ
end
noncomputable def fldK (K : Frag) (C : Nat) (x : Str) : Bool := plainGet K C x && hasDictIn K C && (match findIn K (.ref C) x with | some attr => noGet K attr | none => false) && plainOver K C && (takerIn K C x == some none) &&
  (findIn K (.ref C) "__setattr__" == some (some (.builtin "object.__setattr__")))
noncomputable def methK (K : Frag) (C : Nat) (x : Str) (f : Nat) : Bool := plainGet K C x && (findIn K (.ref C) x == some (some (.ref f))) && isFn K (.ref f) && keepIn K (.ref f)
structure FnOk (K : Frag) (a : Nat) (fn : Fn) : Prop where
  kept : keepIn K (.ref a) = true
  at_ : ∃ oc od osl name qual params dV kV doc pm cdv ct an, K.lookup a = some ⟨oc, od, .func (fnOf name qual params fn.body fn.sc dV kV doc pm an cdv ct), osl⟩ ∧ codeIn K cdv qual = true ∧
    ∀ vs : List Value, vs.length = fn.params.length → bindArgs (fnOf name qual params fn.body fn.sc dV kV doc pm an cdv ct) ⟨vs, []⟩ = pure (fn.params.zip vs)
  loc : ∀ x ∈ fn.params, fn.sc.names.lookup x = some .local
  nodup : fn.params.Nodup
  cell : ∀ x ∈ fn.sc.names, x.2 ≠ .cell
  co : fn.sc.isCoroutine = false
  gen : fn.sc.isGenerator = false
  kind : fn.sc.kind = .function
structure ClOk (K : Frag) (C : Nat) (cl : Cl) : Prop where
  kept : keepIn K (.ref C) = true
  flds : ∀ x, hasS x cl.flds = true → fldK K C x = true
  makes : makesIn K C = true
  init : ∀ g, cl.init = some g → findIn K (.ref C) "__init__" = some (some (.ref g)) ∧ isFn K (.ref g) = true
  meths : ∀ x f, look x cl.meths = some f → methK K C x f = true
structure Valid (K : Frag) (mg mb : Str → Option Value) (Γ : Sta) : Prop where
  glob : ∀ x w, look x Γ.glob = some w → ∃ v, (∀ z, Den z w v) ∧ (mg x = some v ∨ (mg x = none ∧ mb x = some v))
  fns : ∀ a fn, lookN a Γ.fns = some fn → FnOk K a fn
  cls : ∀ a cl, lookN a Γ.cls = some cl → ClOk K a cl
structure Cx.Ok (S : Fix) (n : Nat) (c : Cx) : Prop where
  below : Below c.A₀ c.base c.outer c.h₀
  top : Top0 S.mg S.mb c.h₀
  inK : S.K.In c.h₀
  frames : c.A.frames = some (c.env :: c.outer)
  fn : c.sc.kind = .function
  hd : c.A.handled = none
  depth : c.A.depth + 4 * n < recursionLimit
  units : c.A.units + 16 * n < cLine
noncomputable def Good (S : Fix) (H : Ob → Prop) (en : En) (c : Cx) {α β : Type} (t : Sem α) (σ : St) (x : R β) (den : Rz → β → α → Prop) : Prop :=
  ∀ b σ' o, x = some (b, σ', o) → (∀ q ∈ o, H q) → ∀ z m (s : Shared) (Q : α → Shared → Prop) (E : Value → Shared → Prop), Rep S en c z m σ s.heap →
    (∀ a z' m' h' tk', z.Le z' → Rep S en c z' m' σ' h' → den z' b a → Q a (Sh s h' tk')) → wpAny S.M c.A t Q E s
inductive DenF (z : Rz) : Fl → Flow → Prop where
  | next : DenF z .next .next
  | cont : DenF z .cont .cont
  | brk : DenF z .brk .brk
  | ret {v w} : Den z v w → DenF z (.ret v) (.ret w)
noncomputable def GoodAp (S : Fix) (H : Ob → Prop) (en : En) (c : Cx) (f : SV) (args : List SV) (σ : St) (x : R SV) : Prop :=
  ∀ b σ' o, x = some (b, σ', o) → (∀ q ∈ o, H q) → ∀ z m (s : Shared) (Q : Value → Shared → Prop) (E : Value → Shared → Prop) fv vs, Rep S en c z m σ s.heap → Den z f fv → DenL z args vs →
    (∀ a z' m' h' tk', z.Le z' → Rep S en c z' m' σ' h' → Den z' b a → Q a (Sh s h' tk')) → wpAny S.M c.A (call fv vs) Q E s
noncomputable def GoodCd (S : Fix) (H : Ob → Prop) (en : En) (c : Cx) (f : Nat) (args : List SV) (σ : St) (x : R SV) : Prop :=
  ∀ b σ' o, x = some (b, σ', o) → (∀ q ∈ o, H q) → ∀ z m (s : Shared) (Q : Result → Shared → Prop) vs, Rep S en c z m σ s.heap → DenL z args vs →
    (∀ a z' m' h' tk', z.Le z' → Rep S en c z' m' σ' h' → Den z' b a → Q (.ok (.ret a)) (Sh s h' tk')) → codeAny S.M c.A (.call (.ref f) ⟨vs, []⟩) Q s
structure Sound (S : Fix) (H : Ob → Prop) (n : Nat) (r : Rec) : Prop where
  ev : ∀ en c, c.Ok S n → ∀ e σ, Good S H en c (eval e c.env) σ (r.ev en e σ) Den
  ts : ∀ en c, c.Ok S n → ∀ e σ, Good S H en c (isTrue e c.env (eval e c.env)) σ (r.ts en e σ) fun _ b a => a = b
  ex : ∀ en c, c.Ok S n → ∀ l σ, Good S H en c (execs l c.env) σ (r.ex en l σ) DenF
  ap : ∀ en c, c.Ok S n → ∀ f args σ, GoodAp S H en c f args σ (r.ap f args σ)
  cd : ∀ en c, c.Ok S n → ∀ f args σ, lookN f S.Γ.cls = none → GoodCd S H en c f args σ (r.ap (.val (.ref f)) args σ)
  fuel : r.fuel ≤ n
section
variable {S : Fix} {H : Ob → Prop} {en : En} {c : Cx} {n : Nat} {r : Rec}
theorem Cx.Ok.lt {n : Nat} {c : Cx} (k : c.Ok S (n + 1)) : c.Ok S n := ⟨k.below, k.top, k.inK, k.frames, k.fn, k.hd, by have := k.depth; omega, by have := k.units; omega⟩
theorem bad_no {x : Str} (h : badName x = false) : (x == ("__debug__" : Str)) = false ∧ (x == ("__classdict__" : Str)) = false := by
  unfold badName at h
  split at h
  · cases h
  · rename_i q
    exact ⟨beq_eq_false_iff_ne.mpr (sEq_false q), beq_eq_false_iff_ne.mpr (sEq_false h)⟩
theorem good_name (V : Valid S.K S.mg S.mb S.Γ) (k : c.Ok S n) (x : Str) (p : Pos) (σ : St) : Good S H en c (eval (.Name x p) c.env) σ (evName S.Γ en x σ) Den := by
  intro b σ' o e ho z m s Q E R hQ
  unfold evName at e
  refine isTrue_el e fun hb e => ?_
  obtain ⟨hx, hc⟩ := bad_no (x := x) (by simpa using hb)
  rw [R.scope, look_lookup] at e
  have cellOk : ∀ {t : Nat} {v : SV}, look x en.cells = some t → getChunk σ t = some (.cell v) → ret v σ = some (b, σ', o) → ∃ u a oc, c.cl.lookup x = some a ∧ (a, oc) ∈ z.all ∧ oc.data = .cell (some u) ∧ Q u s := fun {t v} e1 e2 e =>
    At.cell_el (R.led t _ e2).2 fun u oc m1 dd o1 d1 => ⟨u, _, oc, (R.cells x t e1).1, m1, dd, retA e hQ _ z m s.heap s.toks (.refl z) R d1⟩
  split at e
  · rename_i q
    obtain ⟨v, hv, hd⟩ := R.loc x b (opt_some e).1
    exact nameX_L R.fr hv (optA e hQ v z m s.heap s.toks (.refl z) R hd) k.fn q hx
  · rename_i q
    obtain ⟨v, hd, hm⟩ := V.glob x b (opt_some e).1
    have T := k.top.keeps R.fr.keep
    have hQ := optA e hQ v z m s.heap s.toks (.refl z) R (hd z)
    refine Name_function_global k.fn q ?_ hx
    exact hm.elim (fun hm => loadGlobal_global (env := c.env) T.g hm hQ) fun hm => loadGlobal_builtin (env := c.env) T.g hm.1 T.b hm.2 hQ
  · rename_i q
    split at e
    · rename_i t e1
      split at e
      · rename_i v e2
        obtain ⟨u, a, oc, a1, m1, dd, h⟩ := cellOk e1 e2 e
        exact nameX_C R.news a1 m1 dd h k.fn q hx
      · exact no_some e
    · exact no_some e
  · rename_i q
    split at e
    · rename_i t e1
      split at e
      · rename_i v e2
        obtain ⟨u, a, oc, a1, m1, dd, h⟩ := cellOk e1 e2 e
        exact nameX_F R.news a1 m1 dd h k.fn q hx hc
      · exact no_some e
    · exact no_some e
  · exact no_some e
theorem good_const (ct : Const) (kk : Nat) (p : Pos) (σ : St) : Good S H en c (eval (.Constant ct kk p) c.env) σ (opt (evConst ct) σ) Den := by
  intro b σ' o e ho z m s Q E R hQ
  obtain ⟨e1, rfl, rfl⟩ := opt_some e
  cases ct <;> cases e1
  · exact wpAny_Constant_none (hQ _ z m s.heap s.toks (.refl z) R .none)
  · exact wpAny_Constant_bool (hQ _ z m s.heap s.toks (.refl z) R (.bool true _))
  · exact wpAny_Constant_int (hQ _ z m s.heap _ (.refl z) R (.int true _ _))
  · exact wpAny_Constant_str (hQ _ z m s.heap _ (.refl z) R (.str _ _))
theorem of3 {α β γ : Type} {a a' : α} {b b' : β} {c c' : γ} (e : some (a, b, c) = some (a', b', c')) : a = a' ∧ b = b' ∧ c = c' := by cases e; exact ⟨rfl, rfl, rfl⟩
theorem objOf_ref {t : Nat} {σ σ' : St} {q : SO} {o : List Ob} (e : objOf (.ref t) σ = some (q, σ', o)) : σ' = σ ∧ σ.led[t]? = some q ∧ ksOf q = none := by
  simp only [objOf] at e
  cases e2 : getChunk σ t with
  | none => rw [e2] at e; exact no_some e
  | some ch =>
    rw [e2] at e
    have fin : some (ch, σ, ([] : List Ob)) = some (q, σ', o) → ksOf ch = none → σ' = σ ∧ σ.led[t]? = some q ∧ ksOf q = none := fun e h => ⟨(of3 e).2.1.symm, e2.trans (congrArg some (of3 e).1), (of3 e).1 ▸ h⟩
    clear e2
    cases ch <;> first | exact fin e rfl | exact no_some e
theorem objOf_fam {t : Nat} {i : Int} {σ σ' : St} {q : SO} {o : List Ob} (e : objOf (.fam t i) σ = some (q, σ', o)) :
    σ' = σ ∧ ((∃ ks f, σ.led[t]? = some (.fam ks f) ∧ q = f i ∧ o = [.mem i ks]) ∨ ∃ ks f j, σ.led[t]? = some (.ffam ks f j q) ∧ o = [.same i j]) := by
  simp only [objOf] at e
  cases e2 : getChunk σ t with
  | none => rw [e2] at e; exact no_some e
  | some ch =>
    rw [e2] at e
    cases ch with
    | fam ks f => exact ⟨(of3 e).2.1.symm, .inl ⟨ks, f, e2, (of3 e).1.symm, (of3 e).2.2.symm⟩⟩
    | ffam ks f j o => exact ⟨(of3 e).2.1.symm, .inr ⟨ks, f, j, (of3 e).1 ▸ e2, (of3 e).2.2.symm⟩⟩
    | _ => exact no_some e
theorem Sits.at {S : Fix} {z : Rz} {t : Nat} {o : SO} (h : Sits S z t o) (hk : ksOf o = none) : At S z (t, 0) o (z.ad t 0) := by
  cases o with
  | fam => exact no_some hk.symm
  | ffam => exact no_some hk.symm
  | _ => exact h.2
theorem objOf_some {v : SV} {σ σ' : St} {q : SO} {o : List Ob} (e : objOf v σ = some (q, σ', o)) (ho : ∀ q ∈ o, H q) (hH : (∀ i ks, H (.mem i ks) → i ∈ ks) ∧ ∀ i j, H (.same i j) → i = j) {z : Rz} {m : Str → Option Value} {h : Heap}
    (R : Rep S en c z m σ h) {a : Value} (d : Den z v a) : σ' = σ ∧ ∃ t i, keyOf v = some (t, i) ∧ a = .ref (z.ad t i) ∧ z.lv t i ∧ At S z (t, i) q (z.ad t i) ∧ ∀ ks f j o, σ.led[t]? = some (.ffam ks f j o) → i = j := by
  have led := R.led
  clear R
  cases v with
  | ref t =>
    obtain ⟨h1, h2, h3⟩ := objOf_ref e
    exact Den.ref_el d fun ht => ⟨h1, t, 0, rfl, rfl, ht, (led t q h2).at h3, fun ks f j o h => by rw [h2] at h; rw [Option.some.inj h] at h3; cases h3⟩
  | fam t i =>
    obtain ⟨h1, h2⟩ := objOf_fam e
    refine Den.fam_el d fun ht => ⟨h1, t, i, rfl, rfl, ht, ?_⟩
    rcases h2 with ⟨ks, f, h2, h3, h4⟩ | ⟨ks, f, j, h2, h4⟩
    · have hm : i ∈ ks := hH.1 _ _ (ho _ (by rw [h4]; exact .head _))
      exact ⟨h3 ▸ (led t _ h2 i hm).2, fun ks f j o h => nomatch h2.symm.trans h⟩
    · have hs : i = j := hH.2 _ _ (ho _ (by rw [h4]; exact .head _))
      exact ⟨hs ▸ (led t _ h2).2.1.2, fun ks' f' j' o' h => by have := Option.some.inj (h2.symm.trans h); rw [SO.ffam.injEq] at this; exact hs.trans this.2.2.1⟩
  | _ => exact no_some e
@[elab_as_elim] theorem obj_el {β : Type} {v : SV} {σ σ' : St} {b : β} {o : List Ob} {f : SO → St → R β} (e : andThen (objOf v σ) f = some (b, σ', o)) (ho : ∀ q ∈ o, H q) (hH : (∀ i ks, H (.mem i ks) → i ∈ ks) ∧ ∀ i j, H (.same i j) → i = j) {z : Rz} {m : Str → Option Value} {h : Heap}
    (R : Rep S en c z m σ h) {a : Value} (d : Den z v a) {G : Value → Prop} (g : ∀ q t i o₁ o₂, objOf v σ = some (q, σ, o₁) → keyOf v = some (t, i) → z.lv t i → At S z (t, i) q (z.ad t i) → (∀ ks f j o, σ.led[t]? = some (.ffam ks f j o) → i = j) →
      f q σ = some (b, σ', o₂) → (∀ q ∈ o₂, H q) → G (.ref (z.ad t i))) : G a := by
  obtain ⟨q, σ₁, o₁, o₂, h1, h2, rfl⟩ := andThen_some e
  obtain ⟨rfl, t, i, hk, rfl, ht, hat, hsm⟩ := objOf_some h1 (fun q hq => ho q (List.mem_append_left _ hq)) hH R d
  exact g q t i o₁ o₂ h1 hk ht hat hsm h2 fun q hq => ho q (List.mem_append_right _ hq)
theorem handed {z : Rz} {w : SV} {v : Value} (d : Den z w v) (h : ∀ u, w ≠ .val u) : handedIn v = true := by
  cases d <;> first | rfl | exact absurd rfl (h _)
end
set_option tactic.hygienic false
open PySem PySem.W PySem.Calls PyProof.Rows
noncomputable def KindOk (k : SV) (d : List (SV × SV)) : Prop := ∀ p ∈ d, isTup p.1 = isTup k
noncomputable def dfind (k : SV) (d : List (SV × SV)) : Option SV := (d.find? fun p => decide (keyV p.1 = keyV k)).map (·.2)
noncomputable def dstore (k v : SV) (d : List (SV × SV)) : List (SV × SV) :=
  if d.any (fun p => decide (keyV p.1 = keyV k)) then d.map (fun p => if keyV p.1 = keyV k then (p.1, v) else p) else d ++ [(k, v)]
noncomputable def LookOk (d : List (SV × SV)) (k : SV) (r : Option SV) : Prop := KindOk k d ∧ dfind k d = r
noncomputable def PutOk (d : List (SV × SV)) (k v : SV) (d' : List (SV × SV)) : Prop := KindOk k d ∧ dstore k v d = d'
noncomputable def CallOk (S : Fix) (k : Nat) (f : Nat) (args : List SV) (led : Led) (b : SV) (led' : Led) : Prop :=
  ∀ en c, c.Ok S k → ∀ loc orc z m (s : Shared) (Q : Result → Shared → Prop) vs, Rep S en c z m ⟨loc, led, orc⟩ s.heap → DenL z args vs →
    (∀ a z' m' h' tk', z.Le z' → Rep S en c z' m' ⟨loc, led', orc⟩ h' → Den z' b a → Q (.ok (.ret a)) (Sh s h' tk')) → codeAny S.M c.A (.call (.ref f) ⟨vs, []⟩) Q s
noncomputable def LoopOk (S : Fix) (k : Nat) (en : En) (st : Stmt) (loc : Loc) (led : Led) (loc' : Loc) (led' : Led) : Prop :=
  ∀ c, c.Ok S k → ∀ orc z m (s : Shared) (Q : Flow → Shared → Prop) (E : Value → Shared → Prop), Rep S en c z m ⟨loc, led, orc⟩ s.heap →
    (∀ z' m' h' tk', z.Le z' → Rep S en c z' m' ⟨loc', led', orc⟩ h' → Q .next (Sh s h' tk')) → wpAny S.M c.A (exec st c.env) Q E s
noncomputable def CompOk (S : Fix) (k : Nat) (en : En) (e : Expr) (loc : Loc) (led : Led) (l : List SV) (led' : Led) : Prop :=
  ∀ c, c.Ok S k → ∀ orc z m (s : Shared) (Q : Value → Shared → Prop) (E : Value → Shared → Prop), Rep S en c z m ⟨loc, led, orc⟩ s.heap →
    (∀ a z' m' h' tk', z.Le z' → Rep S en c z' m' ⟨loc, led' ++ [.list false l], orc⟩ h' → Den z' (.ref led'.length) a → Q a (Sh s h' tk')) → wpAny S.M c.A (eval e c.env) Q E s
noncomputable def Ob.H (S : Fix) : Ob → Prop
  | .eqB a b => a = b
  | .mem i ks => i ∈ ks
  | .look d k r => LookOk d k r
  | .put d k v d' => PutOk d k v d'
  | .has l k b => decide (k ∈ l) = b
  | .sput l k l' => l' = if k ∈ l then l else l ++ [k]
  | .item l i v => 0 ≤ i ∧ l[i.toNat]? = some v
  | .bound a b => a ≤ b
  | .fresh i ks => i ∉ ks
  | .same a b => a = b
  | .rising l ns => l.map keyV = ns.map (fun i => keyV (.int false i)) ∧ ns.Pairwise (· ≤ ·) ∧ ns.length < 64
  | .call k f args led r led' => CallOk S k f args led r led'
  | .loop k en st loc led loc' led' => LoopOk S k en st loc led loc' led'
  | .comp k en e loc led l led' => CompOk S k en e loc led l led'
noncomputable abbrev Owed (S : Fix) (o : List Ob) : Prop := ∀ q ∈ o, q.H S
theorem Owed.left {S : Fix} {a b : List Ob} (h : Owed S (a ++ b)) : Owed S a := fun q hq => h q (List.mem_append_left _ hq)
theorem Owed.right {S : Fix} {a b : List Ob} (h : Owed S (a ++ b)) : Owed S b := fun q hq => h q (List.mem_append_right _ hq)
section
variable {S : Fix} {en : En} {c : Cx} {n : Nat} {r : Rec}
theorem memH : (∀ (i : Int) (ks : List Int), Ob.H S (.mem i ks) → i ∈ ks) ∧ ∀ i j : Int, Ob.H S (.same i j) → i = j := ⟨fun _ _ => id, fun _ _ => id⟩
theorem fldK_parts {K : Frag} {C : Nat} {x : Str} (h : fldK K C x = true) : plainGet K C x = true ∧ hasDictIn K C = true ∧ (∃ attr, findIn K (.ref C) x = some attr ∧ noGet K attr = true) ∧ plainOver K C = true ∧ takerIn K C x = some none ∧
    findIn K (.ref C) "__setattr__" = some (some (.builtin "object.__setattr__")) := by
  unfold fldK at h
  simp only [Bool.and_eq_true, beq_iff_eq] at h
  obtain ⟨⟨⟨⟨⟨a, b⟩, c⟩, d⟩, e⟩, f⟩ := h
  refine ⟨a, b, ?_, d, e, f⟩
  split at c
  · exact ⟨_, by assumption, c⟩
  · cases c
theorem fieldOk_some {Γ : Sta} {C : Nat} {x : Str} (h : fieldOk Γ C x = true) : ∃ cl, lookN C Γ.cls = some cl ∧ hasS x cl.flds = true := by
  unfold fieldOk at h
  split at h
  · exact ⟨_, by assumption, h⟩
  · cases h
theorem good_getAttr (V : Valid S.K S.mg S.mb S.Γ) (k : c.Ok S n) {v : SV} {x : Str} {σ : St} {b : SV} {σ' : St} {o : List Ob} (e : getAttr S.Γ v x σ = some (b, σ', o)) (ho : Owed S o)
    {z : Rz} {m : Str → Option Value} {s : Shared} {Q : Value → Shared → Prop} {E : Value → Shared → Prop} {a : Value} {ex : Bool} (R : Rep S en c z m σ s.heap) (d : Den z v a)
    (hQ : ∀ w z' m' h' tk', z.Le z' → Rep S en c z' m' σ' h' → Den z' b w → Q w (Sh s h' tk')) : wpAny S.M c.A (PySem.getAttr a x ex) Q E s := by
  unfold getAttr at e
  refine obj_el e ho memH R d ?_; clear e ho d; intro q t i o₁ o₂ e0 hk ht hat hsm e ho
  cases q with
  | inst C fs =>
    refine hat.inst_el fun y es j m1 m2 w1 w2 fl => ?_
    refine isTrue_el e fun hf e => opt_el e fun w hl e => isTrue_el e fun hn e => ?_
    obtain ⟨cl, hcl, hfl⟩ := fieldOk_some hf
    obtain ⟨p1, p2, ⟨attr, p3, p4⟩, _⟩ := fldK_parts ((V.cls _ _ hcl).flds x hfl)
    have g := fl.get x
    rw [hl] at g
    obtain ⟨u, g1, g2⟩ := g
    exact get_own R.fr k.inK (InstAt.of_news R.news m1 m2) p1 p2 p3 p4 g1 (handed g2 fun u e => by rw [e] at hn; cases hn) (retA e hQ u z m s.heap _ (.refl z) R g2)
  | _ => exact no_some e
theorem attr_base {value : Expr} {attr : Str} {env : Env} (h : baseOk value = true) : attributeBase value attr env (eval value env) = eval value env := by
  cases value with
  | Call f args kws p =>
    cases args with
    | nil => exact no_ft h
    | cons => cases f <;> rfl
  | Name => rfl
  | Attribute => rfl
  | Subscript => rfl
  | _ => exact no_ft h
theorem good_attr (V : Valid S.K S.mg S.mb S.Γ) (k : c.Ok S (n + 1)) (I : Sound S (Ob.H S) n r) (v : Expr) (x : Str) (p : Pos) (σ : St) :
    Good S (Ob.H S) en c (eval (.Attribute v x p) c.env) σ (andThen (isTrue! (baseOk v) σ) fun _ σ => andThen (r.ev en v σ) fun w σ => getAttr S.Γ w x σ) Den := by
  intro b σ' o e ho z m s Q E R hQ
  refine isTrue_el e fun hb e => andThen_el e ho fun w σ₁ o1 o2 e1 h1 e h2 => ?_
  refine Attribute_any_ (I.ev en c k.lt v _ w σ₁ o1 e1 h1 z m s _ _ R fun a z₁ m₁ h₁ tk₁ le R₁ d => ?_) ?_
  · exact good_getAttr V k e h2 R₁ d fun w' z₂ m₂ h₂ tk₂ le₂ R₂ d₂ => hQ w' z₂ m₂ h₂ tk₂ (le.trans le₂) R₂ d₂
  · rw [arm_eval_Attribute, attr_base hb]
theorem putS_len {x : Str} {w : SV} : ∀ (l : List (Str × SV)), (putS x w l).length ≤ l.length + 1
  | [] => Nat.le_refl _
  | p :: r => by
    unfold putS
    split
    · exact Nat.le_succ _
    · exact Nat.succ_le_succ (putS_len r)
theorem good_setAttr (V : Valid S.K S.mg S.mb S.Γ) (k : c.Ok S n) {v w : SV} {x : Str} {σ : St} {b : Unit} {σ' : St} {o : List Ob} (e : setAttr S.Γ v x w σ = some (b, σ', o)) (ho : Owed S o)
    {z : Rz} {m : Str → Option Value} {s : Shared} {Q : Unit → Shared → Prop} {E : Value → Shared → Prop} {a u : Value} (R : Rep S en c z m σ s.heap) (d : Den z v a) (du : Den z w u)
    (hQ : ∀ z' m' h' tk', z.Le z' → Rep S en c z' m' σ' h' → Q () (Sh s h' tk')) : wpAny S.M c.A (PySem.setAttr a x u) Q E s := by
  unfold setAttr at e
  refine obj_el e ho memH R d ?_; clear e ho d; intro q t i o₁ o₂ e0 hk ht hat hsm e ho
  cases q with
  | inst C fs =>
    refine hat.inst_el fun y es j m1 m2 w1 w2 fl => isTrue_el e fun hf e => ?_
    obtain ⟨hf, hlen⟩ := Bool.and_eq_true_iff.mp hf
    obtain ⟨cl, hcl, hfl⟩ := fieldOk_some hf
    obtain ⟨p1, p2, ⟨attr, p3, p4⟩, p5, p6, p7⟩ := fldK_parts ((V.cls _ _ hcl).flds x hfl)
    have hl : (getL x es).isSome = true := by
      have g := fl.get x
      split at g
      · obtain ⟨_, g, _⟩ := g; rw [g]; rfl
      · rw [g]; rfl
    have U := upd_of (o' := dictOf (putL x (PyData.keyHash S.w.params x) (.str x (s.toks + 1)) u es) (putN x es j)) R.nd m2
    have fl' := fl.put (x := x) (PyData.keyHash S.w.params x) (s.toks + 1) du
    refine set_dict R.fr k.inK R.news (InstAt.of_news R.news m1 m2) rfl p7 p5 p6 p2 hl rfl U ?_ fun h' F' N' => ?_
    · rw [← fl'.length]
      exact Nat.le_trans (putS_len fs) (Nat.le_trans (Nat.le_of_ble_eq_true hlen) (by decide))
    · have le := z.turn_le (dictOf (putL x (PyData.keyHash S.w.params x) (.str x (s.toks + 1)) u es) (putN x es j)) w2
      refine hQ _ m h' _ le (R.turn w2 F' N' hk e0 e ?_ ht hsm)
      have hne : z.ad t i ≠ y := fun q => by have := R.one m1 (q ▸ m2); cases this
      exact .inst (mem_updA m1 hne) (mem_updA_self m2) w1 w2 (fl'.mono le)
  | _ => exact no_some e
end
set_option tactic.hygienic false
open PySem PySem.W PySem.Calls PyProof.Rows
theorem alloc_some {q : SO} {σ σ' : St} {b : SV} {o : List Ob} (h : alloc q σ = some (b, σ', o)) : (b = .ref σ.led.length ∧ σ' = ⟨σ.loc, σ.led ++ [q], σ.orc⟩ ∧ o = []) ∨
    ∃ t i oc ks f, σ.led[t]? = some (.fam ks f) ∧ b = .fam t i ∧ σ' = ⟨σ.loc, σ.led.set t (.ffam (ks ++ [i]) f i q), oc⟩ ∧ o = [.fresh i ks] := by
  unfold alloc at h
  split at h
  · split at h
    · rename_i e
      have h := of3 h
      exact .inr ⟨_, _, _, _, _, e, h.1.symm, h.2.1.symm, h.2.2.symm⟩
    · exact nomatch h
  · have h := of3 h
    exact .inl ⟨h.1.symm, h.2.1.symm, h.2.2.symm⟩
section
variable {S : Fix} {en : En} {c : Cx} {n : Nat} {r : Rec}
theorem star_plain {e : Expr} (h : plainArg e = true) (es : List Expr) (env : Env) : starEach (e :: es) env = (false, eval e env) :: starEach es env := by
  cases e <;> first | rfl | cases h
theorem good_evs (k : c.Ok S (n + 1)) (I : Sound S (Ob.H S) n r) (pos : Pos) : ∀ (es : List Expr) (σ : St) (b : List SV) (σ' : St) (o : List Ob), evs r en es σ = some (b, σ', o) → Owed S o →
    ∀ (z : Rz) (m : Str → Option Value) (s : Shared) (Q : List Value → Shared → Prop) (E : Value → Shared → Prop), Rep S en c z m σ s.heap →
      (∀ a z' m' h' tk', z.Le z' → Rep S en c z' m' σ' h' → DenL z' b a → Q a (Sh s h' tk')) → wpAny S.M c.A (spliced (backTo pos (starEach es c.env))) Q E s
  | [], σ, b, σ', o, e, ho, z, m, s, Q, E, R, hQ => by
    replace hQ := retA e hQ
    exact spliced_nil (hQ [] z m s.heap s.toks (.refl z) R .nil)
  | x :: es, σ, b, σ', o, e, ho, z, m, s, Q, E, R, hQ => by
    unfold evs at e
    refine isTrue_el e ?_; clear e; intro hp e
    refine andThen_el e ho ?_; clear e ho; intro v σ₁ o1 o2 e1 he1 e ho
    refine andThen_el e ho ?_; clear e ho; intro vs σ₂ o3 o4 e2 he2 e ho
    replace hQ := retA e hQ
    rw [star_plain hp]
    refine spliced_cons (I.ev en c k.lt x _ v σ₁ o1 e1 he1 z m s _ E R fun a z₁ m₁ h₁ tk₁ le R₁ d => ?_)
    exact good_evs k I pos es σ₁ vs _ o3 e2 he2 z₁ m₁ (Sh s h₁ tk₁) _ E R₁ fun as z₂ m₂ h₂ tk₂ le₂ R₂ d₂ => hQ (a :: as) z₂ m₂ h₂ tk₂ (le.trans le₂) R₂ (.cons (d.mono le₂) d₂)
theorem small {l : List SV} {vs : List Value} {z : Rz} (d : DenL z l vs) (h : Nat.blt l.length 1000 = true) : vs.length ≤ sizeLine := by
  have h1 : l.length < 1000 := Nat.le_of_ble_eq_true h
  rw [← d.length, sizeLine_eq]; omega
theorem rep_tuple {z : Rz} {m : Str → Option Value} {σ : St} {h h' : Heap} {d : Addr} {l : List SV} {vs : List Value} (R : Rep S en c z m σ h) (F : Fr c.h₀ c.L h' m) (N : News c.h₀ c.L h' ((d, tupO vs) :: z.all))
    (hd : ∀ p ∈ z.all, p.1 < d) (dl : DenL z l vs) : Rep S en c (z.pool d (tupO vs)) m σ h' ∧ Den (z.pool d (tupO vs)) (.tup l) (.ref d) := by
  obtain ⟨R', ho⟩ := R.pool F N hd
  exact ⟨R', .tup l d vs (.head _) ho (dl.mono (z.pool_le _ _))⟩
theorem good_tuple (k : c.Ok S (n + 1)) (I : Sound S (Ob.H S) n r) (es : List Expr) (kk : Nat) (p : Pos) (σ : St) :
    Good S (Ob.H S) en c (eval (.Tuple es kk p) c.env) σ (andThen (evs r en es σ) fun vs σ => andThen (isTrue! (Nat.blt vs.length 1000) σ) fun _ σ => ret (.tup vs) σ) Den := by
  intro b σ' o e ho z m s Q E R hQ
  replace ho : Owed S o := ho
  refine andThen_el e ho ?_; clear e ho; intro l σ₁ o1 o2 e1 he1 e ho
  refine isTrue_el e ?_; clear e; intro hp e
  replace hQ := retA e hQ
  refine Tuple_ (good_evs k I p es σ l _ o1 e1 he1 z m s _ E R fun vs z₁ m₁ h₁ tk₁ le R₁ d => ?_)
  refine newTuple_N R₁.fr R₁.news (fun h' F' N' => ?_) (small d hp)
  obtain ⟨R₂, d₂⟩ := rep_tuple R₁ F' N' (fun q hq => Heap.lt_size (R₁.news q hq).1) d
  exact hQ _ _ m₁ h' _ (le.trans (z₁.pool_le _ _)) R₂ d₂
theorem rep_alloc {z : Rz} {m : Str → Option Value} {σ σ' : St} {h h' : Heap} {d : Addr} {l : List (Addr × Obj)} {q : SO} {b : SV} {o : List Ob} (e : alloc q σ = some (b, σ', o)) (ho : Owed S o) (hnf : ksOf q = none) (R : Rep S en c z m σ h) (F : Fr c.h₀ c.L h' m)
    (N : News c.h₀ c.L h' (l ++ z.all)) (hne : ∀ x ∈ l, ∀ p ∈ z.all, p.1 ≠ x.1) (hnl : (l.map (·.1)).Nodup) (hq : ∀ z' k, z.Le z' → (∀ x ∈ l, x ∈ z'.all ∧ z'.own x.1 = some k) → At S z' k q d) :
    ∃ z', z.Le z' ∧ Rep S en c z' m σ' h' ∧ Den z' b (.ref d) := by
  have hoff : ∀ a o', (a, o') ∈ z.all → a ∉ l.map (·.1) := fun a o' x q => by
    obtain ⟨p, hp, e⟩ := List.mem_map.mp q
    exact hne p hp _ x e.symm
  rcases alloc_some e with ⟨rfl, rfl, rfl⟩ | ⟨t, i, oc, ks, f, hch, rfl, rfl, rfl⟩
  · have le := R.grow_le hne d
    have had : (z.grow l d).ad z.n 0 = d := if_pos rfl
    have R' := R.grow (d := d) (l := l) (o := q) F N hne hnl (.of_at (by
      rw [had]
      exact hq _ _ le fun x hx => ⟨List.mem_append_left _ hx, if_pos (List.mem_map_of_mem hx)⟩) (.inr ⟨rfl, rfl⟩)) hnf
    refine ⟨_, le, R', ?_⟩
    have := Den.ref (z := z.grow l d) z.n (.inr ⟨rfl, rfl⟩)
    rw [had, R.len] at this
    exact this
  · have hfr : i ∉ ks := ho (.fresh i ks) (.head _)
    have hlv : ¬ z.lv t i := fun x => hfr (R.lvk t i x _ ks hch rfl)
    have htn : t < z.n := by rw [R.len]; exact (List.getElem?_eq_some_iff.mp hch).1
    let z' : Rz := ⟨l ++ z.all, fun a => if a ∈ l.map (·.1) then some (t, i) else z.own a, fun u j => if u = t ∧ j = i then d else z.ad u j, z.n, fun u j => z.lv u j ∨ (u = t ∧ j = i)⟩
    have le : z.Le z' := ⟨Nat.le_refl _, fun u j hu => ⟨.inl hu, if_neg fun (x : u = t ∧ j = i) => hlv (x.1 ▸ x.2 ▸ hu)⟩, fun a o x y => ⟨List.mem_append_right _ x, by
      show (if a ∈ l.map (·.1) then some (t, i) else z.own a) = none
      rw [if_neg (hoff a o x)]; exact y⟩⟩
    have keep : ∀ k, Keep z z' k := fun k a o' x y => ⟨List.mem_append_right _ x, by
      show (if a ∈ l.map (·.1) then some (t, i) else z.own a) = some k
      rw [if_neg (hoff a o' x)]; exact y⟩
    have had : z'.ad t i = d := if_pos ⟨rfl, rfl⟩
    refine ⟨z', le, ⟨F, N, ?_, fun a k e => ?_, ?_, fun u q' e => ?_, fun x w e => ?_, fun x u e => ?_, R.scope, fun u j hu => ?_, fun u j hu ks' f' e ek => ?_⟩, ?_⟩
    · show ((l ++ z.all).map (·.1)).Nodup
      rw [List.map_append, List.nodup_append]
      refine ⟨hnl, R.nd, fun a ha b hb e => ?_⟩
      obtain ⟨p, hp, rfl⟩ := List.mem_map.mp ha
      obtain ⟨q, hq, rfl⟩ := List.mem_map.mp hb
      exact hne p hp q hq e.symm
    · have e : (if a ∈ l.map (·.1) then some (t, i) else z.own a) = some k := e
      show k.1 < z.n ∧ a ∈ (l ++ z.all).map (·.1)
      rw [List.map_append]
      by_cases q : a ∈ l.map (·.1)
      · rw [if_pos q] at e; cases e; exact ⟨htn, List.mem_append_left _ q⟩
      · rw [if_neg q] at e; exact ⟨(R.dom a k e).1, List.mem_append_right _ (R.dom a k e).2⟩
    · show z.n = (σ.led.set t _).length
      rw [List.length_set]; exact R.len
    · have e : (σ.led.set t (.ffam (ks ++ [i]) f i q))[u]? = some q' := e
      by_cases hh : u = t
      · subst hh
        rw [List.getElem?_set_self', hch] at e
        obtain rfl : SO.ffam (ks ++ [i]) f i q = q' := by simpa using e
        refine ⟨List.mem_append_right _ (.head _), ⟨.inr ⟨rfl, rfl⟩, ?_⟩, fun j hj hji => ?_⟩
        · rw [had]
          exact hq z' (u, i) le fun x hx => ⟨List.mem_append_left _ hx, if_pos (List.mem_map_of_mem hx)⟩
        · rcases List.mem_append.mp hj with hj | hj
          · have s := R.led u _ hch j hj
            refine ⟨.inl s.1, ?_⟩
            rw [(le.ad u j s.1).2]
            exact s.2.keep le (keep _)
          · rw [List.mem_singleton] at hj
            exact absurd hj hji
      · rw [List.getElem?_set_ne (Ne.symm hh)] at e
        exact (R.led u q' e).keep le fun j => keep _
    · obtain ⟨v, a, b⟩ := R.loc x w e
      exact ⟨v, a, b.mono le⟩
    · obtain ⟨a, b⟩ := R.cells x u e
      exact ⟨by rw [(le.ad u 0 b).2]; exact a, .inl b⟩
    · rcases hu with hu | ⟨rfl, _⟩
      · exact R.lvn u j hu
      · exact htn
    · have e : (σ.led.set t (.ffam (ks ++ [i]) f i q))[u]? = some ks' := e
      by_cases hh : u = t
      · subst hh
        rw [List.getElem?_set_self', hch] at e
        obtain rfl : SO.ffam (ks ++ [i]) f i q = ks' := by simpa using e
        cases ek
        rcases hu with hu | ⟨_, rfl⟩
        · exact List.mem_append_left _ (R.lvk u j hu _ ks hch rfl)
        · exact List.mem_append_right _ (.head _)
      · rw [List.getElem?_set_ne (Ne.symm hh)] at e
        rcases hu with hu | ⟨x, _⟩
        · exact R.lvk u j hu _ _ e ek
        · exact absurd x hh
    · have := Den.fam (z := z') t i (.inr ⟨rfl, rfl⟩)
      rw [had] at this
      exact this
theorem rep_new {z : Rz} {m : Str → Option Value} {σ σ' : St} {h h' : Heap} {d : Addr} {o : Obj} {q : SO} {b : SV} {ob : List Ob} (e : alloc q σ = some (b, σ', ob)) (ho : Owed S ob) (hnf : ksOf q = none) (R : Rep S en c z m σ h) (F : Fr c.h₀ c.L h' m)
    (N : News c.h₀ c.L h' ((d, o) :: z.all)) (hd : ∀ p ∈ z.all, p.1 < d) (hq : ∀ z' k, z.Le z' → (d, o) ∈ z'.all → z'.own d = some k → At S z' k q d) :
    ∃ z', z.Le z' ∧ Rep S en c z' m σ' h' ∧ Den z' b (.ref d) :=
  rep_alloc (l := [(d, o)]) e ho hnf R F N (fun x hx p hp => by rw [List.mem_singleton.mp hx]; exact Nat.ne_of_lt (hd p hp)) (by simp) fun z' k le hx => hq z' k le (hx _ (.head _)).1 (hx _ (.head _)).2
theorem good_list (k : c.Ok S (n + 1)) (I : Sound S (Ob.H S) n r) (es : List Expr) (p : Pos) (σ : St) :
    Good S (Ob.H S) en c (eval (.List es p) c.env) σ (andThen (evs r en es σ) fun vs σ => andThen (isTrue! (Nat.blt vs.length 1000) σ) fun _ σ => alloc (.list true vs) σ) Den := by
  intro b σ' o e ho z m s Q E R hQ
  replace ho : Owed S o := ho
  refine andThen_el e ho ?_; clear e ho; intro l σ₁ o1 o2 e1 he1 e ho
  refine isTrue_el e ?_; clear e; intro hp e
  refine List_ (good_evs k I p es σ l _ o1 e1 he1 z m s _ E R fun vs z₁ m₁ h₁ tk₁ le R₁ d => ?_)
  refine newList_K R₁.fr R₁.news (fun a h' F' N' hlt => ?_) (small d hp)
  obtain ⟨z₂, le₂, R₂, d₂⟩ := rep_new e ho rfl R₁ F' N' hlt fun z' k le' m' w' => .list m' w' (d.mono le')
  exact hQ _ z₂ m₁ h' _ (le.trans le₂) R₂ d₂
theorem evs_plain : ∀ (es : List Expr) (σ : St) (b : List SV) (σ' : St) (o : List Ob), evs r en es σ = some (b, σ', o) → ∀ e ∈ es, plainArg e = true
  | [], _, _, _, _, _, e, he => nomatch he
  | x :: es, σ, b, σ', o, h, e, he => by
    unfold evs at h
    refine isTrue_el h ?_; clear h; intro hp h
    refine andThen_pu h fun v σ₁ o1 o2 e1 h => andThen_pu h fun vs σ₂ o3 o4 e2 h => ?_
    rcases List.mem_cons.mp he with rfl | he
    · exact hp
    · exact evs_plain es σ₁ vs _ o3 e2 e he
theorem keeper_val {f : Value} (hf : ∀ a, f ≠ .ref a) (h : Heap) : ∃ k, (k = Keeper.frame ∨ k = Keeper.machine ∨ k = Keeper.boundFrame) ∧ Looks S.M h (keeperOf f) k :=
  ⟨.machine, .inr (.inl rfl), by cases f <;> first | exact Looks.of_pure rfl | exact absurd rfl (hf _)⟩
theorem any_plain {env : Env} {pos : Pos} : ∀ es : List Expr, (∀ e ∈ es, plainArg e = true) → (backTo pos (starEach es env)).any (·.1) = false
  | [], _ => rfl
  | e :: es, hes => by
    rw [star_plain (hes e (.head _))]
    show (false || (backTo pos (starEach es env)).any (·.1)) = false
    rw [any_plain es fun e he => hes e (.tail _ he)]; rfl
theorem good_callW (k : c.Ok S (n + 1)) (I : Sound S (Ob.H S) n r) {pos : Pos} {es : List Expr} {σ : St} {b : List SV} {σ' : St} {o : List Ob} (e : evs r en es σ = some (b, σ', o)) (ho : Owed S o)
    {z : Rz} {m : Str → Option Value} {s : Shared} {Q : Value → Shared → Prop} {E : Value → Shared → Prop} {f : Value} {first : List Value} (P : Heap → Prop) (R : Rep S en c z m σ s.heap)
    (hk : ∀ h, P h → ∃ k, (k = Keeper.frame ∨ k = Keeper.machine ∨ k = Keeper.boundFrame) ∧ Looks S.M h (keeperOf f) k)
    (hQ : ∀ vs z' m' h' tk', z.Le z' → Rep S en c z' m' σ' h' → DenL z' b vs → P h' ∧ wpAny S.M c.A (call f (first ++ vs)) Q E (Sh s h' tk')) :
    wpAny S.M c.A (callWith pos f first (backTo pos (starEach es c.env)) []) Q E s := by
  have hes := evs_plain es σ b σ' o e
  refine callWith_of (P := P) (by rw [any_plain es hes]; rfl) hk ?_
  cases es with
  | nil =>
    obtain ⟨rfl, rfl, rfl⟩ := ret_some e
    exact evalArgs_nil3 (hQ [] z m s.heap s.toks (.refl z) R .nil)
  | cons x es =>
    have g := good_evs k I pos (x :: es) σ b σ' o e ho z m s (fun vs s₁ => P s₁.heap ∧ wpAny S.M c.A (call f (first ++ vs)) Q E s₁) E R fun vs z' m' h' tk' le R' d => hQ vs z' m' h' tk' le R' d
    rw [star_plain (hes x (.head _))] at g ⊢
    exact evalArgs_plain g
theorem callee_el (V : Valid S.K S.mg S.mb S.Γ) {z : Rz} {v : SV} {fv : Value} (hc : calleeOk S.Γ v = true) (d : Den z v fv) : (∃ a, fv = .ref a ∧ keepIn S.K (.ref a) = true) ∨ ∀ a, fv ≠ .ref a := by
  cases v with
  | val w =>
    refine Den.val_el d ?_
    clear d
    cases w with
    | ref a =>
      refine .inl ⟨a, rfl, ?_⟩
      unfold calleeOk at hc
      dsimp only at hc
      cases q : lookN a S.Γ.fns with
      | some fn => exact (V.fns a fn q).kept
      | none =>
        rw [q] at hc
        cases q2 : lookN a S.Γ.cls with
        | some cl => exact (V.cls a cl q2).kept
        | none => rw [q2] at hc; exact no_ft hc
    | _ => exact .inr fun a e => nomatch e
  | _ => exact no_ft hc
theorem good_call (V : Valid S.K S.mg S.mb S.Γ) (k : c.Ok S (n + 1)) (I : Sound S (Ob.H S) n r) (f : Expr) (hf : ∀ o x p, f ≠ .Attribute o x p) (args : List Expr) (p : Pos) (σ : St) :
    Good S (Ob.H S) en c (eval (.Call f args [] p) c.env) σ (evCall S.Γ r en f args σ) Den := by
  intro b σ' o e ho z m s Q E R hQ
  replace ho : Owed S o := ho
  unfold evCall at e
  refine andThen_el e ho ?_; clear e ho; intro v σ₁ o1 o2 e1 he1 e ho
  refine isTrue_el e ?_; clear e; intro hc e
  refine andThen_el e ho ?_; clear e ho; intro l σ₂ o3 o4 e2 he2 e ho
  refine Call_ (I.ev en c k.lt f _ v _ o1 e1 he1 z m s _ E R fun fv z₁ m₁ h₁ tk₁ le R₁ d => ?_) ?_
  · have fin : ∀ (P : Heap → Prop), (∀ z₂ m₂ h₂, Rep S en c z₂ m₂ σ₂ h₂ → P h₂) → (∀ h, P h → ∃ k, (k = Keeper.frame ∨ k = Keeper.machine ∨ k = Keeper.boundFrame) ∧ Looks S.M h (keeperOf fv) k) →
        wpAny S.M c.A (callWith p fv [] (backTo p (starEach args c.env)) []) Q E (Sh s h₁ tk₁) := fun P hP hk => by
      refine good_callW k I e2 he2 P R₁ hk fun vs z₂ m₂ h₂ tk₂ le₂ R₂ d₂ => ⟨hP z₂ m₂ h₂ R₂, ?_⟩
      exact I.ap en c k.lt v l σ₂ b σ' o4 e ho z₂ m₂ _ Q E fv vs R₂ (d.mono le₂) d₂ fun a z₃ m₃ h₃ tk₃ le₃ R₃ d₃ => hQ a z₃ m₃ h₃ tk₃ ((le.trans le₂).trans le₃) R₃ d₃
    rcases callee_el V hc d with ⟨a, rfl, hk⟩ | hn
    · exact fin (fun h => S.K.In h) (fun z₂ m₂ h₂ R₂ => k.inK.keeps R₂.fr.keep) fun h X => keeps_K hk h X
    · exact fin (fun _ => True) (fun _ _ _ _ => trivial) fun h _ => keeper_val hn h
  · cases f <;> first | rfl | exact absurd rfl (hf _ _ _)
end
set_option tactic.hygienic true
open PySem PySem.W PySem.Calls PyProof.Rows
section
variable {S : Fix} {en : En} {c : Cx} {n : Nat} {r : Rec}
theorem all_plain {env : Env} {pos : Pos} : ∀ es : List Expr, (∀ e ∈ es, plainArg e = true) → (backTo pos (starEach es env)).all (fun x => !x.1) = true
  | [], _ => rfl
  | e :: es, hes => by
    rw [star_plain (hes e (.head _))]
    show (true && (backTo pos (starEach es env)).all fun x => !x.1) = true
    rw [all_plain es fun e he => hes e (.tail _ he)]; rfl
theorem methCall_tree {M : Model} {A : Around} {o : Expr} {name : Str} {apos pos : Pos} {args : List Expr} {env : Env} {Q : Value → Shared → Prop} {E : Value → Shared → Prop} {s : Shared} (hb : baseOk o = true) (hes : ∀ e ∈ args, plainArg e = true)
    (hl : Nat.beq apos.endLine pos.line = true) (hn : Nat.blt args.length 29 = true)
    (h : wpAny M A (eval o env) (fun ov s₁ => wpAny M A (getMethod ov name (do return (← importBound o env).getD true)) (fun fx s₂ => wpAny M A (callWith pos fx.1 fx.2 (backTo pos (starEach args env)) []) Q E s₂) E s₁) E s) :
    wpAny M A (eval (.Call (.Attribute o name apos) args [] pos) env) Q E s := by
  rw [arm_eval_Call, attr_base hb]
  refine wpAny_bind (wpAny_mono h (fun ov s₁ h₁ => wpAny_bind (wpAny_standAt ?_)) fun _ _ x => x)
  have few : methodCallForm (args.length + ([] : List Keyword).length) (backTo pos (starEach args env)) (backToKw pos (keywordEach [] env)) = true := by
    unfold methodCallForm
    rw [all_plain args hes]
    have : args.length < 29 := Nat.le_of_ble_eq_true hn
    have h30 : decide (args.length < 30) = true := decide_eq_true (Nat.lt_succ_of_lt this)
    show ((true && true) && decide (args.length + 0 + (if true = true then 0 else 1) < 30)) = true
    rw [if_pos rfl]
    exact h30
  unfold methodCall
  rw [few]
  refine wpAny_bind (wpAny_holding (wpAny_mono (Q := fun fx s₂ => wpAny M A (callWith pos fx.1 fx.2 (backTo pos (starEach args env)) []) Q E s₂) ?_ (fun fx s₂ h₂ => ?_) fun _ _ x => x))
  · unfold calleeOf
    rw [if_pos rfl]; exact h₁
  · obtain ⟨f, first⟩ := fx
    dsimp only
    have hp : methodCallPos true o env apos pos = pure pos := by
      unfold methodCallPos
      have : (apos.endLine == pos.line) = true := by rw [Nat.eq_of_beq_eq_true hl]; simp
      rw [this]; rfl
    rw [hp]
    exact wpAny_bind (wpAny_pure h₂)
theorem methK_parts {K : Frag} {C : Nat} {x : Str} {f : Nat} (h : methK K C x f = true) : plainGet K C x = true ∧ findIn K (.ref C) x = some (some (.ref f)) ∧ isFn K (.ref f) = true ∧ keepIn K (.ref f) = true := by
  unfold methK at h
  simp only [Bool.and_eq_true, beq_iff_eq] at h
  obtain ⟨⟨⟨a, b⟩, c⟩, d⟩ := h
  exact ⟨a, b, c, d⟩
noncomputable def methId : Nat → String
  | 0 => "list.append"
  | 1 => "dict.get"
  | 2 => "dict.setdefault"
  | _ => "set.add"
noncomputable def BuiltinMeths (S : Fix) : Prop := ∀ (en : En) (c : Cx) (n : Nat), c.Ok S (n + 1) → ∀ (m : Nat) (self : SV) (σ : St), (∀ (v : SV) (x : Str) (σ₁ : St) (o : List Ob), resolve S.Γ v x σ = some (.meth m self, σ₁, o) → v = self ∧ σ₁ = σ ∧ ∀ (z : Rz) (mm : Str → Option Value) (s : Shared) (a : Value)
    (Q : Value × List Value → Shared → Prop) (E : Value → Shared → Prop) (pl : Sem Bool), Owed S o → Rep S en c z mm σ s.heap → Den z v a → Q (.builtin (methId m), [a]) s → wpAny S.M c.A (getMethod a x pl) Q E s) ∧
  (∀ (args : List SV) (b : SV) (σ' : St) (o : List Ob), apMeth m self args σ = some (b, σ', o) → Owed S o → ∀ (z : Rz) (mm : Str → Option Value) (s : Shared) (a : Value) (vs : List Value) (Q : Value → Shared → Prop) (E : Value → Shared → Prop),
    Rep S en c z mm σ s.heap → Den z self a → DenL z args vs → (∀ w z' m' h' tk', z.Le z' → Rep S en c z' m' σ' h' → Den z' b w → Q w (Sh s h' tk')) → wpAny S.M c.A (call (.builtin (methId m)) (a :: vs)) Q E s)
section
variable {Γ : Sta} {v : SV} {x : Str} {σ σ' : St} {q : Callee} {o : List Ob}
theorem resolveInst_some {C : Nat} {fs : List (Str × SV)} (e : resolveInst Γ C fs v x σ = some (q, σ', o)) : look x fs = none ∧ ∃ cl f, lookN C Γ.cls = some cl ∧ look x cl.meths = some f ∧ .fn f v = q ∧ σ = σ' := by
  unfold resolveInst at e
  split at e
  · exact no_some e
  · rename_i h1
    split at e
    · rename_i cl h2
      split at e
      · rename_i f h3
        exact ⟨h1, cl, f, h2, h3, (ret_some e).1, (ret_some e).2.1⟩
      · exact no_some e
    · exact no_some e
theorem oneMeth_some {m : Nat} {y : Str} (e : oneMeth m y v x σ = some (q, σ', o)) : x = y ∧ .meth m v = q ∧ σ = σ' := by
  unfold oneMeth at e
  split at e
  · rename_i h; exact ⟨sEq_iff.mp h, (ret_some e).1, (ret_some e).2.1⟩
  · exact no_some e
theorem methDict_some (e : methDict v x σ = some (q, σ', o)) : ((x = mGet ∧ .meth 1 v = q) ∨ (x = mSetdefault ∧ .meth 2 v = q)) ∧ σ = σ' := by
  unfold methDict at e
  split at e
  · rename_i h; exact ⟨.inl ⟨sEq_iff.mp h, (ret_some e).1⟩, (ret_some e).2.1⟩
  · exact ⟨.inr ⟨(oneMeth_some e).1, (oneMeth_some e).2.1⟩, (oneMeth_some e).2.2⟩
end
theorem objOf_st {v : SV} {σ σ' : St} {q : SO} {o : List Ob} (e : objOf v σ = some (q, σ', o)) : σ' = σ := by
  cases v with
  | ref t => exact (objOf_ref e).1
  | fam t i => exact (objOf_fam e).1
  | _ => exact no_some e
theorem resolveOn_meth {Γ : Sta} {v : SV} {x : Str} {σ σ' : St} {o : List Ob} {m : Nat} {self : SV} {q : SO} (e : resolveOn Γ q v x σ = some (.meth m self, σ', o)) :
    v = self ∧ σ = σ' ∧ ((∃ C l, q = .list C l ∧ x = mAppend ∧ m = 0) ∨ (∃ C d, q = .dict C d ∧ ((x = mGet ∧ m = 1) ∨ (x = mSetdefault ∧ m = 2))) ∨ ∃ C l, q = .set C l ∧ x = mAdd ∧ m = 3) := by
  cases q with
  | inst C fs =>
    obtain ⟨_, cl, f', _, _, h4, _⟩ := resolveInst_some e
    cases h4
  | list C l =>
    have h := oneMeth_some e
    exact ⟨(Callee.meth.inj h.2.1).2, h.2.2, .inl ⟨C, l, rfl, h.1, (Callee.meth.inj h.2.1).1.symm⟩⟩
  | set C l =>
    have h := oneMeth_some e
    exact ⟨(Callee.meth.inj h.2.1).2, h.2.2, .inr (.inr ⟨C, l, rfl, h.1, (Callee.meth.inj h.2.1).1.symm⟩)⟩
  | dict C d =>
    have h := methDict_some e
    exact ⟨h.1.elim (fun h => (Callee.meth.inj h.2).2) fun h => (Callee.meth.inj h.2).2, h.2, .inr (.inl ⟨C, d, rfl, h.1.imp (fun h => ⟨h.1, (Callee.meth.inj h.2).1.symm⟩) fun h => ⟨h.1, (Callee.meth.inj h.2).1.symm⟩⟩)⟩
  | _ => exact no_some e
theorem den_key {z : Rz} {v : SV} {t : Nat} {i : Int} (hk : keyOf v = some (t, i)) (ht : z.lv t i) : Den z v (.ref (z.ad t i)) := by
  cases v with
  | ref t' => cases hk; exact .ref t ht
  | fam t' i' => cases hk; exact .fam t i ht
  | _ => exact no_some hk
theorem good_methCall (V : Valid S.K S.mg S.mb S.Γ) (BM : BuiltinMeths S) (k : c.Ok S (n + 1)) (I : Sound S (Ob.H S) n r) (o : Expr) (x : Str) (ap : Pos) (args : List Expr) (p : Pos) (σ : St) :
    Good S (Ob.H S) en c (eval (.Call (.Attribute o x ap) args [] p) c.env) σ (andThen (isTrue! (baseOk o && Nat.beq ap.endLine p.line && Nat.blt args.length 29) σ) fun _ σ => evCallMeth S.Γ r en o x args σ) Den := by
  intro b σ' ob e ho z m s Q E R hQ
  refine isTrue_el e ?_; clear e; intro hb e
  obtain ⟨hb, hn⟩ := Bool.and_eq_true_iff.mp hb
  obtain ⟨hb, hl⟩ := Bool.and_eq_true_iff.mp hb
  unfold evCallMeth at e
  refine andThen_el e ho ?_; clear e ho; intro v σ₁ o1 o2 e1 he1 e ho
  refine andThen_el e ho ?_; clear e ho; intro kl σ₂ o3 o4 e2 he2 e ho
  refine andThen_el e ho ?_; clear e ho; intro l σ₃ o5 o6 e3 he3 e ho
  refine methCall_tree hb (evs_plain args _ l _ o5 e3) hl hn (I.ev en c k.lt o _ v σ₁ o1 e1 he1 z m s _ E R fun a z₁ m₁ h₁ tk₁ le R₁ d => ?_)
  cases kl with
  | meth mm self =>
    obtain ⟨bm1, bm2⟩ := BM en c n k mm self σ₁
    obtain ⟨rfl, rfl, bm3⟩ := bm1 v x σ₂ o3 e2
    refine bm3 z₁ m₁ (Sh s h₁ tk₁) a _ E _ he2 R₁ d ?_
    refine good_callW k I e3 he3 (fun _ => True) R₁ (fun h _ => keeper_val (fun a e => by cases e) h) fun vs z₂ m₂ h₂ tk₂ le₂ R₂ d₂ => ⟨trivial, ?_⟩
    exact (BM en c n k mm v σ₃).2 l b σ' o6 e ho z₂ m₂ (Sh s h₂ tk₂) a vs Q E R₂ (d.mono le₂) d₂ fun w z₃ m₃ h₃ tk₃ le₃ R₃ d₃ => hQ w z₃ m₃ h₃ tk₃ ((le.trans le₂).trans le₃) R₃ d₃
  | fn f first =>
    unfold resolve at e2
    refine obj_el e2 he2 memH R₁ d ?_; clear e2 he2 d; intro q t i o7 o8 e4 hk ht hat hsm e2 _
    cases q with
    | inst C fs =>
      refine hat.inst_el fun y es j m1 m2 w1 w2 fl => ?_
      obtain ⟨hlk, cl, f', hcl, hf, hh, rfl⟩ := resolveInst_some e2
      have hh := Callee.fn.inj hh
      obtain ⟨p1, p2, p3, p4⟩ := methK_parts ((V.cls _ _ hcl).meths x f (hh.1 ▸ hf))
      have g := fl.get x
      rw [hlk] at g
      refine method_inst R₁.fr k.inK (InstAt.of_news R₁.news m1 m2) p1 p2 p3 g ?_
      refine good_callW k I e3 he3 (fun h => S.K.In h) R₁ (fun h X => keeps_K p4 h X) fun vs z₂ m₂ h₂ tk₂ le₂ R₂ d₂ => ⟨k.inK.keeps R₂.fr.keep, ?_⟩
      have d' : Den z₁ first (.ref (z₁.ad t i)) := hh.2 ▸ den_key hk ht
      exact I.ap en c k.lt (.val (.ref f)) (first :: l) σ₃ b σ' o6 e ho z₂ m₂ (Sh s h₂ tk₂) Q E _ _ R₂ (.val _) (.cons (d'.mono le₂) d₂) fun w z₃ m₃ h₃ tk₃ le₃ R₃ d₃ => hQ w z₃ m₃ h₃ tk₃ ((le.trans le₂).trans le₃) R₃ d₃
    | list => exact nomatch (oneMeth_some e2).2.1
    | set => exact nomatch (oneMeth_some e2).2.1
    | dict => rcases (methDict_some e2).1 with h | h <;> exact nomatch h.2
    | _ => exact no_some e2
end
set_option tactic.hygienic true
open PySem PySem.W PySem.Calls PyProof.Rows
section
variable {S : Fix} {en : En} {c : Cx} {n : Nat} {r : Rec}
theorem Cx.Ok.le {n k : Nat} {c : Cx} (h : c.Ok S n) (le : k ≤ n) : c.Ok S k := ⟨h.below, h.top, h.inK, h.frames, h.fn, h.hd, by have := h.depth; omega, by have := h.units; omega⟩
theorem zip_some : ∀ {xs : List Str} {vs : List SV} {l : Loc}, zipArgs xs vs = some l → l = xs.zip vs ∧ vs.length = xs.length
  | [], [], l, h => by cases h; exact ⟨rfl, rfl⟩
  | [], _ :: _, l, h => by cases h
  | _ :: _, [], l, h => by cases h
  | x :: xs, v :: vs, l, h => by
    unfold zipArgs at h
    cases q : zipArgs xs vs with
    | none => rw [q] at h; cases h
    | some l' =>
      rw [q] at h
      cases h
      obtain ⟨rfl, hl⟩ := zip_some q
      exact ⟨rfl, by simp [hl]⟩
theorem look_zip {z : Rz} : ∀ {xs : List Str} {ls : List SV} {vs : List Value}, DenL z ls vs → ∀ {x w}, look x (xs.zip ls) = some w → ∃ v, (xs.zip vs).lookup x = some v ∧ Den z w v
  | [], _, _, _, x, w, h => by cases h
  | _ :: _, _, _, .nil, x, w, h => by cases h
  | y :: ys, _, _, .cons (x := l) (v := v) d ds, x, w, h => by
    rw [look_lookup] at h
    rw [List.zip_cons_cons, List.lookup_cons] at h
    rw [List.zip_cons_cons, List.lookup_cons]
    cases q : x == y with
    | true => rw [q] at h; cases h; exact ⟨v, rfl, d⟩
    | false =>
      rw [q] at h
      rw [← look_lookup] at h
      exact look_zip ds h
theorem lookup_reverse {xs : List Str} {vs : List Value} (nd : xs.Nodup) (x : Str) {v : Value} (h : (xs.zip vs).lookup x = some v) : (xs.zip vs).reverse.lookup x = some v := by
  have key : ∀ (l : List (Str × Value)), (l.map (·.1)).Nodup → ∀ v, l.lookup x = some v → l.reverse.lookup x = some v := by
    intro l
    induction l with
    | nil => intro _ v h; cases h
    | cons p l ih =>
      intro nd v h
      obtain ⟨y, u⟩ := p
      rw [List.map_cons, List.nodup_cons] at nd
      rw [List.reverse_cons, List.lookup_append]
      rw [List.lookup_cons] at h
      cases q : x == y with
      | true =>
        rw [q] at h
        cases h
        have e := beq_iff_eq.mp q
        subst e
        have : l.reverse.lookup x = none := by
          rw [List.lookup_eq_none_iff]
          intro p hp
          have hm : p.1 ∈ l.map (·.1) := List.mem_map_of_mem (List.mem_reverse.mp hp)
          cases hx : x == p.1 with
            | false => simp_all
            | true => exact absurd (beq_iff_eq.mp hx ▸ hm) nd.1
        rw [this]; simp
      | false =>
        rw [q] at h
        rw [ih nd.2 v h]; rfl
  refine key _ ?_ v h
  have : ∀ (xs : List Str) (vs : List Value), xs.Nodup → ((xs.zip vs).map (·.1)).Nodup := by
    intro xs
    induction xs with
    | nil => intro vs _; simp
    | cons x xs ih =>
      intro vs nd
      cases vs with
      | nil => simp
      | cons v vs =>
        rw [List.zip_cons_cons, List.map_cons, List.nodup_cons]
        rw [List.nodup_cons] at nd
        refine ⟨fun hm => nd.1 ?_, ih vs nd.2⟩
        obtain ⟨p, hp, e⟩ := List.mem_map.mp hm
        have := (List.of_mem_zip hp).1
        rwa [e] at this
  exact this xs vs nd
noncomputable def Cx.callee (c : Cx) (g : Heap) (L' : Addr) (qual : Str) (sc : Scope) (f : Addr) (cd : Value) : Cx :=
  ⟨c.A.deeper (envX qual sc L' f cd []), c.A, c.base, g, c.env :: c.outer, L', qual, sc, f, cd, []⟩
theorem frames_deeper {A : Around} {l : List Env} {env : Env} (h : A.frames = some l) : (A.deeper env).frames = some (env :: l) := by
  unfold Around.deeper; simp [h]
theorem good_def (V : Valid S.K S.mg S.mb S.Γ) (k : c.Ok S (n + 1)) (I : Sound S (Ob.H S) n r) {a : Nat} {fn : Fn} (hfn : lookN a S.Γ.fns = some fn) {args : List SV} {l : Loc} (hz : zipArgs fn.params args = some l) {σ : St}
    {b : SV} {σ' : St} {o : List Ob} (e : (andThen (r.ex ⟨fn.sc, []⟩ fn.body ⟨l, σ.led, σ.orc⟩) fun fl σ' => ret (retOf fl) ⟨σ.loc, σ'.led, σ'.orc⟩) = some (b, σ', o)) (ho : Owed S o)
    {z : Rz} {m : Str → Option Value} {s : Shared} {Q : Result → Shared → Prop} {vs : List Value} (R : Rep S en c z m σ s.heap) (d : DenL z args vs)
    (hQ : ∀ a z' m' h' tk', z.Le z' → Rep S en c z' m' σ' h' → Den z' b a → Q (.ok (.ret a)) (Sh s h' tk')) : codeAny S.M c.A (.call (.ref a) ⟨vs, []⟩) Q s := by
  refine andThen_el e ho ?_; clear e ho; intro fl σ₁ o1 o2 e1 he1 e ho
  replace hQ := retA e hQ
  have FO := V.fns a fn hfn
  obtain ⟨oc, od, osl, name, qual, params, dV, kV, doc, pm, cdv, ct, an, hl, hcd, hb⟩ := FO.at_
  obtain ⟨rfl, hlen⟩ := zip_some hz
  have hvl : vs.length = fn.params.length := d.length.symm.trans hlen
  have X := k.inK.keeps R.fr.keep
  refine callX_plain (cl := []) k.below R.fr R.news k.top.nolimit k.frames rfl k.fn (X _ _ hl) rfl (codeRec_of X hcd) (by have := k.depth; omega) (.of_eq (hb vs hvl)) (fun y hy => ?_) (fun g L' h₁ FG F' N' B' st lt => ?_) FO.cell FO.co FO.gen FO.kind
  · obtain ⟨y, u⟩ := y
    exact FO.loc _ (List.of_mem_zip hy).1
  · have k2 : (c.callee g L' qual fn.sc a cdv).Ok S n := by
      refine ⟨B', k.top.keeps st, k.inK.keeps st, frames_deeper k.frames, FO.kind, k.hd, ?_, ?_⟩
      · have := k.depth
        show c.A.depth + 1 + 4 * n < recursionLimit
        omega
      · have := k.units
        show c.A.units + 3 + 16 * n < cLine
        omega
    have R2 : Rep S ⟨fn.sc, []⟩ (c.callee g L' qual fn.sc a cdv) z (fun y => (fn.params.zip vs).reverse.lookup y) ⟨fn.params.zip args, σ.led, σ.orc⟩ h₁ :=
      ⟨F', N', R.nd, R.dom, R.len, R.led, fun x w e => (look_zip d e).imp fun v q => ⟨lookup_reverse FO.nodup x q.1, q.2⟩, fun x t e => (nomatch e), rfl, R.lvn, R.lvk⟩
    refine I.ex ⟨fn.sc, []⟩ (c.callee g L' qual fn.sc a cdv) k2 fn.body ⟨fn.params.zip args, σ.led, σ.orc⟩ fl σ₁ o1 e1 he1 z _ _ _ _ R2 fun fl' z₁ m₁ h₂ tk₂ le R₃ df => ?_
    refine leaveK_ R₃.fr R₃.news fun F₄ N₄ => ?_
    refine hQ _ z₁ m h₂ tk₂ le ⟨F₄, N₄, R₃.nd, R₃.dom, R₃.len, R₃.led, fun x w e => ?_, fun x t e => ?_, R.scope, R₃.lvn, R₃.lvk⟩ ?_
    · obtain ⟨v, q1, q2⟩ := R.loc x w e
      exact ⟨v, q1, q2.mono le⟩
    · obtain ⟨q1, q2⟩ := R.cells x t e
      exact ⟨by rw [(le.ad t 0 q2).2]; exact q1, (le.ad t 0 q2).1⟩
    · cases df <;> first | exact .none | assumption
theorem good_fn (V : Valid S.K S.mg S.mb S.Γ) (k : c.Ok S (n + 1)) (I : Sound S (Ob.H S) n r) {a : Nat} {args : List SV} {σ : St} {b : SV} {σ' : St} {o : List Ob} (e : apFn S.Γ r a args σ = some (b, σ', o)) (ho : Owed S o)
    {z : Rz} {m : Str → Option Value} {s : Shared} {Q : Result → Shared → Prop} {vs : List Value} (R : Rep S en c z m σ s.heap) (d : DenL z args vs)
    (hQ : ∀ a z' m' h' tk', z.Le z' → Rep S en c z' m' σ' h' → Den z' b a → Q (.ok (.ret a)) (Sh s h' tk')) : codeAny S.M c.A (.call (.ref a) ⟨vs, []⟩) Q s := by
  unfold apFn at e
  split at e
  · rename_i kk hk
    refine isTrue_el e ?_; clear e; intro hle e
    have hle : kk ≤ r.fuel := Nat.le_of_ble_eq_true hle
    split at e
    · rename_i v led oc horc
      cases e
      have C : CallOk S kk a args σ.led b led := ho (.call kk a args σ.led b led) (.head _)
      refine C en c (k.le (by have := I.fuel; omega)) σ.loc σ.orc z m s Q vs R d fun w z' m' h' tk' le R' d' => hQ w z' m' h' tk' le ?_ d'
      exact R'.orc oc
    · exact no_some e
  · split at e
    · rename_i fn hfn
      split at e
      · rename_i l hz
        exact good_def V k I hfn hz e ho R d hQ
      · exact no_some e
    · exact no_some e
end
set_option tactic.hygienic true
open PySem PySem.W PySem.Calls PyProof.Rows
section
variable {S : Fix} {en : En} {c : Cx} {n : Nat} {r : Rec}
noncomputable def Cx.making (c : Cx) (A : Around) : Cx := ⟨A, c.A₀, c.base, c.h₀, c.outer, c.L, c.cn, c.sc, c.a, c.cd, c.cl⟩
theorem rep_inst {z : Rz} {m : Str → Option Value} {σ σ' : St} {h h' : Heap} {x dx C : Addr} {b : SV} {ob : List Ob} (e : alloc (.inst C []) σ = some (b, σ', ob)) (ho : Owed S ob) (R : Rep S en c z m σ h) (F : Fr c.h₀ c.L h' m) (N : News c.h₀ c.L h' ((x, instObj C dx) :: (dx, dictOf [] 0) :: z.all))
    (h1 : ∀ p ∈ z.all, p.1 < dx) (h2 : dx < x) : ∃ z', z.Le z' ∧ Rep S en c z' m σ' h' ∧ Den z' b (.ref x) :=
  rep_alloc (l := [(x, instObj C dx), (dx, dictOf [] 0)]) e ho rfl R F N (fun q hq p hp => by
    have := h1 p hp
    rcases List.mem_cons.mp hq with rfl | hq
    · exact Nat.ne_of_lt (Nat.lt_trans this h2)
    · rw [List.mem_singleton.mp hq]; exact Nat.ne_of_lt this) (by simp [Nat.ne_of_gt h2]) fun z' k le hx => .inst (hx _ (.head _)).1 (hx _ (.tail _ (.head _))).1 (hx _ (.head _)).2 (hx _ (.tail _ (.head _))).2 .nil
noncomputable def BuiltinFns (S : Fix) : Prop := ∀ (en : En) (c : Cx) (n : Nat), c.Ok S (n + 1) → ∀ (v : Value) (args : List SV) (σ : St) (b : SV) (σ' : St) (o : List Ob), apBuiltin v args σ = some (b, σ', o) → Owed S o →
  ∀ (z : Rz) (m : Str → Option Value) (s : Shared) (vs : List Value) (Q : Value → Shared → Prop) (E : Value → Shared → Prop), Rep S en c z m σ s.heap → DenL z args vs →
    (∀ w z' m' h' tk', z.Le z' → Rep S en c z' m' σ' h' → Den z' b w → Q w (Sh s h' tk')) → wpAny S.M c.A (call v vs) Q E s
theorem rep_cx {c c' : Cx} (h₀ : c'.h₀ = c.h₀) (L : c'.L = c.L) (cl : c'.cl = c.cl) (sc : c'.sc = c.sc) {z : Rz} {m : Str → Option Value} {σ : St} {h : Heap} (R : Rep S en c z m σ h) : Rep S en c' z m σ h :=
  ⟨by rw [h₀, L]; exact R.fr, by rw [h₀, L]; exact R.news, R.nd, R.dom, R.len, R.led, R.loc, by rw [cl]; exact R.cells, by rw [sc]; exact R.scope, R.lvn, R.lvk⟩
theorem good_apply (V : Valid S.K S.mg S.mb S.Γ) (BF : BuiltinFns S) (k : c.Ok S (n + 1)) (I : Sound S (Ob.H S) n r) (f : SV) (args : List SV) (σ : St) : GoodAp S (Ob.H S) en c f args σ (apply S.Γ r f args σ) := by
  intro b σ' o e ho z m s Q E fv vs R df dl hQ
  replace ho : Owed S o := ho
  cases df with
  | val =>
    cases fv with
    | ref a =>
      simp only [apply] at e
      cases hcl : lookN a S.Γ.cls with
      | none =>
        rw [hcl] at e
        exact wpAny_call (good_fn V k I e ho R dl fun w z' m' h' tk' le R' d' => hQ w z' m' h' tk' le R' d')
      | some cl =>
        rw [hcl] at e
        refine andThen_el e ho ?_; clear e ho; intro self σ₁ o1 o2 e1 he1 e ho
        split at e
        · rename_i g hg
          cases hgc : lookN g S.Γ.cls with
          | some _ => rw [hgc] at e; cases e
          | none =>
            rw [hgc] at e
            refine andThen_el e ho ?_; clear e ho; intro u σ₂ o3 o4 e2 he2 e ho
            cases u with
            | none =>
              replace hQ := retA e hQ
              have CO := V.cls a cl hcl
              obtain ⟨hi, hf⟩ := CO.init g hg
              refine call_cls R.fr k.inK R.news CO.makes hi hf fun x dx h' F' N' l1 l2 => ?_
              obtain ⟨z₁, le₁, R₁, d₁⟩ := rep_inst (C := a) e1 he1 R F' N' l1 l2
              have k' : (c.making (c.A.under (.builtin "type.__call__" ⟨.ref a :: vs, []⟩))).Ok S n := by
                refine ⟨k.below, k.top, k.inK, ?_, k.fn, k.hd, ?_, ?_⟩
                · show (c.A.under _).frames = _
                  exact k.frames
                · have := k.depth
                  show (c.A.under _).depth + 4 * n < recursionLimit
                  rw [depth_under_make]; omega
                · have := k.units
                  show (c.A.under _).units + 16 * n < cLine
                  rw [units_under_make]; omega
              refine I.cd en _ k' g (self :: args) _ hgc .none σ₂ o3 e2 he2 _ m _ _ (.ref x :: vs) (rep_cx (c := c) (c' := c.making (c.A.under (.builtin "type.__call__" ⟨.ref a :: vs, []⟩))) rfl rfl rfl rfl R₁) (.cons d₁ (dl.mono le₁)) fun w z₂ m₂ h₂ tk₂ le₂ R₂ d₂ => ?_
              cases d₂ with
              | none =>
                refine ⟨rfl, ?_⟩
                exact hQ _ z₂ m₂ h₂ tk₂ (le₁.trans le₂) (rep_cx (c := c.making (c.A.under (.builtin "type.__call__" ⟨.ref a :: vs, []⟩))) (c' := c) rfl rfl rfl rfl R₂) (d₁.mono le₂)
            | _ => exact no_some e
        · exact no_some e
    | _ => simp only [apply] at e; exact BF en c n k _ args σ b σ' o e ho z m s vs Q E R dl hQ
  | _ => exact no_some e
theorem good_applyCd (V : Valid S.K S.mg S.mb S.Γ) (k : c.Ok S (n + 1)) (I : Sound S (Ob.H S) n r) (f : Nat) (args : List SV) (σ : St) (hf : lookN f S.Γ.cls = none) : GoodCd S (Ob.H S) en c f args σ (apply S.Γ r (.val (.ref f)) args σ) := by
  intro b σ' o e ho z m s Q vs R dl hQ
  simp only [apply, hf] at e
  exact good_fn V k I e ho R dl hQ
end
set_option tactic.hygienic true
open PySem PySem.W PySem.Calls PyProof.Rows
theorem intLt_dec (i j : Int) : intLt i j = decide (i < j) := by
  rw [Bool.eq_iff_iff, decide_eq_true_iff]
  cases i with
  | ofNat m => cases j with
    | ofNat n => exact (iff_of_eq Nat.blt_eq).trans Int.ofNat_lt.symm
    | negSucc n => exact ⟨fun h => (nomatch h), fun h => absurd (Int.lt_trans h (Int.negSucc_lt_zero n)) (Int.not_lt.mpr (Int.natCast_nonneg m))⟩
  | negSucc m => cases j with
    | ofNat n => exact ⟨fun _ => Int.lt_of_lt_of_le (Int.negSucc_lt_zero m) (Int.natCast_nonneg n), fun _ => rfl⟩
    | negSucc n => exact (iff_of_eq Nat.blt_eq).trans ⟨fun h => by omega, fun h => by omega⟩
theorem cInt_eq {C f p : Bool} (h : f = p) : cInt C f p = .bool C p := by
  cases C with
  | true => exact h ▸ rfl
  | false => rfl
theorem intEq_iff (a b : Int) : intEq a b = decide (a = b) := by
  cases a <;> cases b <;> simp only [intEq]
  · rename_i m n
    cases h : Nat.beq m n with
    | true => rw [Nat.eq_of_beq_eq_true h]; simp
    | false => have := Nat.ne_of_beq_eq_false h; symm; apply decide_eq_false; intro e; cases e; exact this rfl
  · symm; apply decide_eq_false; intro e; cases e
  · symm; apply decide_eq_false; intro e; cases e
  · rename_i m n
    cases h : Nat.beq m n with
    | true => rw [Nat.eq_of_beq_eq_true h]; simp
    | false => have := Nat.ne_of_beq_eq_false h; symm; apply decide_eq_false; intro e; cases e; exact this rfl
theorem sEq_dec (a b : Str) : sEq a b = decide (a = b) := by
  cases h : sEq a b with
  | true => rw [sEq_iff.mp h]; simp
  | false => exact (decide_eq_false (sEq_false h)).symm
theorem int_beq (i j : Int) : (i == j) = decide (i = j) := Bool.beq_eq_decide_eq i j
theorem eqA_int {c d C p : Bool} {i j : Int} (h : eqA (.int c i) (.int d j) = some (C, p)) : p = (i == j) := by
  rw [int_beq]
  cases c with
  | true => cases d with
    | true => rw [← (Prod.mk.inj (Option.some.inj h)).2, intEq_iff]
    | false => exact (Prod.mk.inj (Option.some.inj h)).2.symm
  | false => exact (Prod.mk.inj (Option.some.inj h)).2.symm
theorem eqA_str {C p : Bool} {i j : Str} (h : eqA (.str i) (.str j) = some (C, p)) : p = (i == j) := by
  rw [← (Prod.mk.inj (Option.some.inj h)).2, sEq_dec]
  by_cases q : i = j <;> simp [q]
theorem dec_inj {α β : Type} [DecidableEq α] [DecidableEq β] {f : α → β} (hf : ∀ x y, f x = f y → x = y) (x y : α) : decide (x = y) = decide (f x = f y) := decide_eq_decide.mpr ⟨congrArg f, hf x y⟩
theorem eqA_atom {a b : SV} {x y : Atom} (ha : atomOf a = some x) (hb : atomOf b = some y) {c p : Bool} (h : eqA a b = some (c, p)) : p = decide (x = y) := by
  cases a with
  | int c1 i => cases b with
    | int c2 j => rw [eqA_int h, int_beq, ← Option.some.inj ha, ← Option.some.inj hb]; exact dec_inj (f := (.inl : Int → Atom)) (fun _ _ => Sum.inl.inj) i j
    | str j => rw [← (Prod.mk.inj (Option.some.inj h)).2, ← Option.some.inj ha, ← Option.some.inj hb]; symm; exact decide_eq_false (fun e => by cases e)
    | _ => exact no_some hb
  | str i => cases b with
    | int c2 j => rw [← (Prod.mk.inj (Option.some.inj h)).2, ← Option.some.inj ha, ← Option.some.inj hb]; symm; exact decide_eq_false (fun e => by cases e)
    | str j => rw [← (Prod.mk.inj (Option.some.inj h)).2, sEq_dec, ← Option.some.inj ha, ← Option.some.inj hb]; exact dec_inj (f := (.inr : Str → Atom)) (fun _ _ => Sum.inr.inj) i j
    | _ => exact no_some hb
  | _ => exact no_some ha
theorem eqV_atom {a b : SV} {x y : Atom} (ha : atomOf a = some x) (hb : atomOf b = some y) {c p : Bool} (h : eqV a b = some (c, p)) : p = decide (x = y) := by
  refine eqA_atom ha hb (c := c) ?_
  unfold eqV at h
  split at h
  · cases ha
  · exact h
theorem atomsOf_cons {a : SV} {l : List SV} {x : List Atom} (h : atomsOf (a :: l) = some x) : ∃ y ys, atomOf a = some y ∧ atomsOf l = some ys ∧ x = y :: ys := by
  unfold atomsOf at h
  split at h
  · cases h; exact ⟨_, _, by assumption, by assumption, rfl⟩
  · cases h
theorem eqL_cons {a b : SV} {l m : List SV} {C p : Bool} (h : eqL (a :: l) (b :: m) = some (C, p)) : ∃ c1 p1 c2 p2, eqA a b = some (c1, p1) ∧ eqL l m = some (c2, p2) ∧ p = (p1 && p2) := by
  unfold eqL at h
  cases e : eqA a b with
  | none => rw [e] at h; exact no_some h
  | some q =>
    obtain ⟨c1, p1⟩ := q
    rw [e] at h
    cases e2 : eqL l m with
    | none => rw [e2] at h; cases c1 <;> cases p1 <;> exact no_some h
    | some q2 =>
      obtain ⟨c2, p2⟩ := q2
      rw [e2] at h
      refine ⟨c1, p1, c2, p2, rfl, rfl, ?_⟩
      clear e e2
      cases c1 <;> cases p1 <;> cases c2 <;> cases p2 <;> exact (Prod.mk.inj (Option.some.inj h)).2.symm
theorem eqL_atoms : ∀ {l m : List SV} {x y : List Atom}, atomsOf l = some x → atomsOf m = some y → ∀ {c p : Bool}, eqL l m = some (c, p) → p = decide (x = y) := by
  intro l
  induction l with
  | nil =>
    intro m x y ha hb c p h
    rw [← Option.some.inj ha]
    cases m with
    | nil => rw [← Option.some.inj hb, ← (Prod.mk.inj (Option.some.inj h)).2]; rfl
    | cons b m => obtain ⟨_, _, _, _, rfl⟩ := atomsOf_cons hb; rw [← (Prod.mk.inj (Option.some.inj h)).2]; rfl
  | cons a l ih =>
    intro m x y ha hb c p h
    obtain ⟨x, xs, hx, hxs, rfl⟩ := atomsOf_cons ha
    cases m with
    | nil => rw [← Option.some.inj hb, ← (Prod.mk.inj (Option.some.inj h)).2]; rfl
    | cons b m =>
      obtain ⟨y, ys, hy, hys, rfl⟩ := atomsOf_cons hb
      obtain ⟨c1, p1, c2, p2, e1, e2, e3⟩ := eqL_cons h
      rw [e3, eqA_atom hx hy e1, ih hxs hys e2]
      by_cases e3 : x = y <;> by_cases e4 : xs = ys <;> simp [e3, e4]
theorem keyV_atom {k : SV} (h : isTup k = false) : keyV k = (atomOf k).map .inl := by
  cases k with
  | tup => exact no_ft h.symm
  | _ => rfl
theorem isTup_tup {k : SV} (h : isTup k = true) : ∃ l, k = .tup l := by
  cases k with
  | tup l => exact ⟨l, rfl⟩
  | _ => exact no_ft h
theorem eqV_key {a b : SV} {x y : Key} (ha : keyV a = some x) (hb : keyV b = some y) (hk : isTup a = isTup b) {c p : Bool} (h : eqV a b = some (c, p)) : p = decide (keyV a = keyV b) := by
  cases hb' : isTup b with
  | true =>
    obtain ⟨m, rfl⟩ := isTup_tup hb'
    obtain ⟨l, rfl⟩ := isTup_tup (hk.trans hb')
    rw [ha, hb]
    simp only [keyV, Option.map_eq_some_iff] at ha hb
    obtain ⟨u, hu, rfl⟩ := ha
    obtain ⟨v, hv, rfl⟩ := hb
    simp only [eqV] at h
    rw [eqL_atoms hu hv h]
    by_cases e : u = v <;> simp [e]
  | false =>
    rw [ha, hb]
    rw [keyV_atom (hk.trans hb'), Option.map_eq_some_iff] at ha
    rw [keyV_atom hb', Option.map_eq_some_iff] at hb
    obtain ⟨u, hu, rfl⟩ := ha
    obtain ⟨v, hv, rfl⟩ := hb
    rw [eqV_atom hu hv h]
    by_cases e : u = v <;> simp [e]
theorem atomOk_some {a : SV} (h : atomOk a = true) : ∃ x, atomOf a = some x := by
  cases a with
  | int c i => exact ⟨_, rfl⟩
  | str s => exact ⟨_, rfl⟩
  | _ => exact no_ft h
theorem atomsOk_some : ∀ {l : List SV}, atomsOk l = true → ∃ x, atomsOf l = some x
  | [], _ => ⟨[], rfl⟩
  | a :: l, h => by
    simp only [atomsOk] at h
    split at h
    · rename_i q
      obtain ⟨x, hx⟩ := atomOk_some q
      obtain ⟨y, hy⟩ := atomsOk_some h
      exact ⟨x :: y, by simp only [atomsOf, hx, hy]⟩
    · cases h
theorem keyOk_some {k : SV} (h : keyOk k = true) : ∃ x, keyV k = some x := by
  cases q : isTup k with
  | true =>
    obtain ⟨l, rfl⟩ := isTup_tup q
    obtain ⟨x, hx⟩ := atomsOk_some (l := l) h
    exact ⟨.inr x, by simp only [keyV, hx]; rfl⟩
  | false =>
    have : atomOk k = true := by
      cases k with
      | tup => exact no_ft q.symm
      | _ => exact h
    obtain ⟨x, hx⟩ := atomOk_some this
    exact ⟨.inl x, by rw [keyV_atom q, hx]; rfl⟩
theorem kindsOk_iff {k : SV} : ∀ {d : List (SV × SV)}, kindsOk k d = true → KindOk k d
  | [], _ => fun _ h => nomatch h
  | p :: r, h => by
    simp only [kindsOk] at h
    have : isTup p.1 = isTup k ∧ kindsOk k r = true := by
      cases e1 : isTup p.1 <;> cases e2 : isTup k <;> rw [e1, e2] at h <;> simp at h <;> exact ⟨rfl, h⟩
    intro q hq
    rcases List.mem_cons.mp hq with rfl | hq
    · exact this.1
    · exact kindsOk_iff this.2 q hq
noncomputable def Keyed (d : List (SV × SV)) : Prop := ∀ p ∈ d, ∃ x, keyV p.1 = some x
theorem dfind_cons (k : SV) (p : SV × SV) (r : List (SV × SV)) : dfind k (p :: r) = if keyV p.1 = keyV k then some p.2 else dfind k r := by
  unfold dfind
  rw [List.find?_cons]
  by_cases e : keyV p.1 = keyV k <;> simp [e]
theorem dlook_dfind {k : SV} (hk : ∃ x, keyV k = some x) : ∀ {d : List (SV × SV)}, Keyed d → KindOk k d → ∀ {r}, dlook k d = some r → dfind k d = r
  | [], _, _, _, h => by cases h; rfl
  | p :: q, K, KO, r, h => by
    simp only [dlook] at h
    obtain ⟨x, hx⟩ := K p (.head _)
    obtain ⟨y, hy⟩ := hk
    rw [dfind_cons]
    split at h
    · rename_i e
      have := eqV_key hx hy (KO p (.head _)) e
      rw [if_pos (of_decide_eq_true this.symm)]; cases h; rfl
    · rename_i e
      have := eqV_key hx hy (KO p (.head _)) e
      rw [if_neg (of_decide_eq_false this.symm)]
      exact dlook_dfind ⟨y, hy⟩ (fun p hp => K p (.tail _ hp)) (fun p hp => KO p (.tail _ hp)) h
    · cases h
theorem dstore_cons (k v : SV) (p : SV × SV) (r : List (SV × SV)) (hn : keyV p.1 = keyV k → ∀ q ∈ r, keyV q.1 ≠ keyV k) :
    dstore k v (p :: r) = if keyV p.1 = keyV k then (p.1, v) :: r else p :: dstore k v r := by
  unfold dstore
  by_cases e : keyV p.1 = keyV k
  · have h0 : (p :: r).any (fun p => decide (keyV p.1 = keyV k)) = true := by simp [e]
    rw [if_pos h0, if_pos e, List.map_cons, if_pos e]
    congr 1
    have := hn e
    calc r.map (fun p => if keyV p.1 = keyV k then (p.1, v) else p) = r.map id := List.map_congr_left fun q hq => if_neg (this q hq)
      _ = r := List.map_id r
  · rw [if_neg e]
    have h0 : (p :: r).any (fun p => decide (keyV p.1 = keyV k)) = r.any (fun p => decide (keyV p.1 = keyV k)) := by simp [e]
    rw [h0]
    by_cases e2 : r.any (fun p => decide (keyV p.1 = keyV k)) = true
    · rw [if_pos e2, if_pos e2, List.map_cons, if_neg e]
    · rw [if_neg e2, if_neg e2]; rfl
noncomputable def DNodup (d : List (SV × SV)) : Prop := (d.map fun p => keyV p.1).Nodup
theorem dput_dstore {k v : SV} (hk : ∃ x, keyV k = some x) : ∀ {d : List (SV × SV)}, Keyed d → DNodup d → KindOk k d → ∀ {r}, dput k v d = some r → dstore k v d = r
  | [], _, _, _, _, h => by cases h; rfl
  | p :: q, K, N, KO, r, h => by
    simp only [dput] at h
    obtain ⟨x, hx⟩ := K p (.head _)
    obtain ⟨y, hy⟩ := hk
    have N' : keyV p.1 ∉ q.map (fun p => keyV p.1) ∧ DNodup q := by unfold DNodup at N; rw [List.map_cons, List.nodup_cons] at N; exact N
    rw [dstore_cons k v p q fun e q' hq' e2 => N'.1 (by rw [e, ← e2]; exact List.mem_map_of_mem (f := fun p : SV × SV => keyV p.1) hq')]
    split at h
    · rename_i e
      have := eqV_key hx hy (KO p (.head _)) e
      rw [if_pos (of_decide_eq_true this.symm)]; cases h; rfl
    · rename_i e
      have := eqV_key hx hy (KO p (.head _)) e
      rw [if_neg (of_decide_eq_false this.symm)]
      split at h
      · rename_i r' e2
        cases h
        rw [dput_dstore ⟨y, hy⟩ (fun p hp => K p (.tail _ hp)) N'.2 (fun p hp => KO p (.tail _ hp)) e2]
      · cases h
    · cases h
section
variable {S : Fix} {z : Rz}
theorem Den.atomIs {k : SV} {v : Value} {a : Atom} (d : Den z k v) (h : atomOf k = some a) : atomIs a v = true := by
  cases k with
  | int c i => rw [← Option.some.inj h]; exact Den.int_el d fun t => by simp [Mine.atomIs, Value.isInt]
  | str s => rw [← Option.some.inj h]; exact Den.str_el d fun t => by simp [Mine.atomIs, Value.isStrOf]
  | _ => exact no_some h
theorem atomOf_key {k : SV} {a : Atom} (e : atomOf k = some a) : keyV k = some (.inl a) := by
  cases k with
  | int c i => exact congrArg (Option.map (Sum.inl : Atom → Key)) e
  | str s => exact congrArg (Option.map (Sum.inl : Atom → Key)) e
  | _ => exact no_some e
theorem AtomPairs.keyed {d : List (SV × SV)} {kvs : List (Atom × Value)} (h : AtomPairs z d kvs) : Keyed d ∧ (d.map fun p => keyV p.1) = kvs.map fun p => some (.inl p.1) := by
  induction h with
  | nil => exact ⟨fun _ h => (nomatch h), rfl⟩
  | cons e _ _ ih => exact ⟨List.forall_mem_cons.mpr ⟨⟨_, atomOf_key e⟩, ih.1⟩, by rw [List.map_cons, List.map_cons, atomOf_key e, ih.2]⟩
theorem AtomPairs.length {d : List (SV × SV)} {kvs : List (Atom × Value)} (h : AtomPairs z d kvs) : d.length = kvs.length := by
  induction h with
  | nil => rfl
  | cons _ _ _ ih => exact congrArg Nat.succ ih
theorem nodup_of_map {α β : Type} {f : α → β} (hf : ∀ x y, f x = f y → x = y) {l : List α} (h : l.Nodup) : (l.map f).Nodup := by
  induction l with
  | nil => exact List.nodup_nil
  | cons a l ih =>
    rw [List.nodup_cons] at h
    rw [List.map_cons, List.nodup_cons]
    refine ⟨fun q => ?_, ih h.2⟩
    obtain ⟨b, hb, e⟩ := List.mem_map.mp q
    exact h.1 (hf _ _ e ▸ hb)
theorem AtomPairs.nodup {d kvs} (h : AtomPairs z d kvs) (n : (kvs.map (·.1)).Nodup) : DNodup d := by
  unfold DNodup
  rw [h.keyed.2]
  have : kvs.map (fun p => (some (.inl p.1) : Option Key)) = (kvs.map (·.1)).map (fun a => (some (.inl a) : Option Key)) := by rw [List.map_map]; rfl
  rw [this]
  exact nodup_of_map (fun x y e => by cases e; rfl) n
theorem AtomPairs.get {k : SV} {a : Atom} (hk : keyV k = some (.inl a)) {d : List (SV × SV)} {kvs : List (Atom × Value)} (h : AtomPairs z d kvs) : match dfind k d with
    | some w => ∃ v, valueAt kvs a = some v ∧ Den z w v
    | none => valueAt kvs a = none := by
  induction h with
  | nil => rfl
  | @cons k' v d b u kvs e dn r ih =>
    have hv : valueAt ((b, u) :: kvs) a = if b = a then some u else valueAt kvs a := by
      unfold valueAt
      rw [List.find?_cons]
      by_cases q : b = a <;> simp [q]
    rw [dfind_cons, hv]
    by_cases q : b = a
    · rw [if_pos ((atomOf_key e).trans (q ▸ hk.symm)), if_pos q]
      exact ⟨u, rfl, dn⟩
    · rw [if_neg fun x => q (Sum.inl.inj (Option.some.inj ((atomOf_key e).symm.trans (x.trans hk)))), if_neg q]
      exact ih
theorem AtomPairs.put_key {k v : SV} {a : Atom} {u : Value} (hk : keyV k = some (.inl a)) (ha : atomOf k = some a) (du : Den z v u) {d : List (SV × SV)} {kvs : List (Atom × Value)} (h : AtomPairs z d kvs) : d.any (fun p => decide (keyV p.1 = keyV k)) = kvs.any (fun kv => decide (kv.1 = a)) ∧
      AtomPairs z (d.map fun p => if keyV p.1 = keyV k then (p.1, v) else p) (kvs.map fun kv => if kv.1 = a then (kv.1, u) else kv) ∧ AtomPairs z (d ++ [(k, v)]) (kvs ++ [(a, u)]) := by
  induction h with
  | nil => exact ⟨rfl, .nil, .cons ha du .nil⟩
  | @cons k' v' d a' u' kvs e dn r ih =>
    have iff : (keyV k' = keyV k) ↔ a' = a := ⟨fun x => Sum.inl.inj (Option.some.inj ((atomOf_key e).symm.trans (x.trans hk))), fun x => (atomOf_key e).trans (x ▸ hk.symm)⟩
    refine ⟨by rw [List.any_cons, List.any_cons, ih.1, decide_eq_decide.mpr iff], ?_, .cons e dn ih.2.2⟩
    rw [List.map_cons, List.map_cons]
    by_cases q : a' = a
    · rw [if_pos (iff.mpr q), if_pos q]; exact .cons e du ih.2.1
    · rw [if_neg (fun x => q (iff.mp x)), if_neg q]; exact .cons e dn ih.2.1
theorem AtomPairs.put {k v : SV} {a : Atom} {u : Value} (hk : keyV k = some (.inl a)) (ha : atomOf k = some a) (du : Den z v u) {d kvs} (h : AtomPairs z d kvs) : AtomPairs z (dstore k v d) (stored kvs a u) := by
  have h := h.put_key hk ha du
  unfold dstore stored
  rw [h.1]
  split
  · exact h.2.1
  · exact h.2.2
theorem atomDict_of {d : List (SV × SV)} {o : Obj} {kvs : List (Atom × Value)} (h : o.IsDictOf (atomKind S.prog S.w) kvs) (p : AtomPairs z d kvs) : ∃ ep, AtomDict S z d ep o :=
  h.elim fun es h => h.elim fun ep h => ⟨ep, kvs, es, h.1, h.2.1, h.2.2.1, h.2.2.2.1, h.2.2.2.2, p⟩
theorem tup_key {l : List SV} {ks : List Atom} (e : atomsOf l = some ks) : keyV (.tup l) = some (.inr ks) := congrArg (Option.map (Sum.inr : List Atom → Key)) e
theorem TupPairs.keyed {d : List (SV × SV)} {xs : List (List Atom × Addr × Value)} (h : TupPairs S z d xs) : Keyed d ∧ (d.map fun p => keyV p.1) = xs.map fun p => some (.inr p.1) := by
  induction h with
  | nil => exact ⟨fun _ h => (nomatch h), rfl⟩
  | cons e _ _ _ _ _ ih => exact ⟨List.forall_mem_cons.mpr ⟨⟨_, tup_key e⟩, ih.1⟩, by rw [List.map_cons, List.map_cons, tup_key e, ih.2]⟩
theorem TupPairs.length {d : List (SV × SV)} {xs : List (List Atom × Addr × Value)} (h : TupPairs S z d xs) : d.length = xs.length := by
  induction h with
  | nil => rfl
  | cons _ _ _ _ _ _ ih => exact congrArg Nat.succ ih
theorem TupPairs.nodup {d xs} (h : TupPairs S z d xs) (n : (xs.map (·.1)).Nodup) : DNodup d := by
  unfold DNodup
  rw [h.keyed.2]
  have : xs.map (fun p => (some (.inr p.1) : Option Key)) = (xs.map (·.1)).map (fun a => (some (.inr a) : Option Key)) := by rw [List.map_map]; rfl
  rw [this]
  exact nodup_of_map (fun x y e => by cases e; rfl) n
theorem TupPairs.get {l : List SV} {ks : List Atom} (hk : atomsOf l = some ks) {d : List (SV × SV)} {xs : List (List Atom × Addr × Value)} (h : TupPairs S z d xs) : match dfind (.tup l) d with
    | some w => ∃ p, atKey xs ks = some p ∧ Den z w p.2
    | none => atKey xs ks = none := by
  induction h with
  | nil => rfl
  | @cons l' v d ks' a vs u xs e m o i dn r ih =>
    have hv : atKey ((ks', a, u) :: xs) ks = if ks' = ks then some (a, u) else atKey xs ks := by
      unfold atKey
      rw [List.find?_cons]
      by_cases q : ks' = ks <;> simp [q]
    rw [dfind_cons, hv]
    by_cases q : ks' = ks
    · rw [if_pos ((tup_key e).trans (q ▸ (tup_key hk).symm)), if_pos q]; exact ⟨(a, u), rfl, dn⟩
    · rw [if_neg (fun x => q (Sum.inr.inj (Option.some.inj ((tup_key e).symm.trans (x.trans (tup_key hk)))))), if_neg q]; exact ih
theorem TupPairs.put_key {l : List SV} {v : SV} {ks : List Atom} {a : Addr} {vs : List Value} {u : Value} (hk : atomsOf l = some ks) (m : (a, tupO vs) ∈ z.all) (ho : z.own a = .none) (i : ItemsAre (atomKind S.prog S.w) ks vs) (du : Den z v u)
    {d : List (SV × SV)} {xs : List (List Atom × Addr × Value)} (h : TupPairs S z d xs) : d.any (fun p => decide (keyV p.1 = keyV (.tup l))) = (atKey xs ks).isSome ∧
      TupPairs S z (d.map fun p => if keyV p.1 = keyV (.tup l) then (p.1, v) else p) (xs.map (putAt ks u)) ∧ TupPairs S z (d ++ [(.tup l, v)]) (xs ++ [(ks, a, u)]) := by
  induction h with
  | nil => exact ⟨rfl, .nil, .cons hk m ho i du .nil⟩
  | @cons l' v' d ks' a' vs' u' xs e m' o' i' dn r ih =>
    have iff : (keyV (.tup l') = keyV (.tup l)) ↔ ks' = ks := ⟨fun x => Sum.inr.inj (Option.some.inj ((tup_key e).symm.trans (x.trans (tup_key hk)))), fun x => (tup_key e).trans (x ▸ (tup_key hk).symm)⟩
    refine ⟨?_, ?_, .cons e m' o' i' dn ih.2.2⟩
    · have hd : decide (keyV (SV.tup l') = keyV (SV.tup l)) = decide (ks' = ks) := decide_eq_decide.mpr iff
      rw [List.any_cons, ih.1, hd]
      unfold atKey
      rw [List.find?_cons]
      by_cases q : ks' = ks <;> simp [q]
    · rw [List.map_cons, List.map_cons]
      unfold putAt
      by_cases q : ks' = ks
      · rw [if_pos (iff.mpr q), if_pos q]; exact .cons e m' o' i' du ih.2.1
      · rw [if_neg (fun x => q (iff.mp x)), if_neg q]; exact .cons e m' o' i' dn ih.2.1
theorem TupPairs.put {l : List SV} {v : SV} {ks : List Atom} {a : Addr} {vs : List Value} {u : Value} (hk : atomsOf l = some ks) (m : (a, tupO vs) ∈ z.all) (ho : z.own a = .none) (i : ItemsAre (atomKind S.prog S.w) ks vs) (du : Den z v u)
    {d xs} (h : TupPairs S z d xs) : TupPairs S z (dstore (.tup l) v d) (storedH xs ks a u) := by
  have h := h.put_key hk m ho i du
  unfold dstore storedH
  rw [h.1]
  split
  · exact h.2.1
  · exact h.2.2
end
set_option tactic.hygienic false
open PySem PySem.W PySem.Calls PyProof.Rows
section
variable {S : Fix} {en : En} {c : Cx} {n : Nat} {r : Rec} {z : Rz} {m : Str → Option Value} {σ : St}
theorem AtomDict.empty {o : Obj} {d : List (SV × SV)} {ep : Nat} (hd : d = []) (h : AtomDict S z d ep o) : TupDict S z d o := by
  obtain ⟨kvs, es, a, b, c, e, f, g⟩ := h
  subst hd
  cases g
  exact ⟨es, ep, [], a, b, List.length_eq_zero_iff.mp e.length, List.nodup_nil, .nil⟩
theorem TupDict.empty {o : Obj} {d : List (SV × SV)} (hd : d = []) (h : TupDict S z d o) : ∃ ep, AtomDict S z d ep o := by
  obtain ⟨es, ep, xs, a, b, c, e, f⟩ := h
  subst hd
  cases f
  have : es.toList = [] := c
  have hes : es = #[] := Array.toList_eq_nil_iff.mp this
  subst hes
  exact ⟨ep, [], #[], a, b, fun e he => by simp at he, .nil, List.nodup_nil, .nil⟩
theorem isTup_atomOf {k : SV} {a : Atom} (h : atomOf k = some a) : isTup k = false := by cases k <;> first | rfl | cases h
theorem DictR.split {o : Obj} {d : List (SV × SV)} {k : SV} (h : DictR S z d o) (KO : KindOk k d) (ok : keyOk k = true) :
    (∃ a, keyV k = some (.inl a) ∧ atomOf k = some a ∧ ∃ ep, AtomDict S z d ep o) ∨ (∃ l ks, k = .tup l ∧ atomsOf l = some ks ∧ TupDict S z d o) := by
  cases q : isTup k with
  | false =>
    have : atomOk k = true := by cases k <;> first | exact ok | cases q
    obtain ⟨a, ha⟩ := atomOk_some this
    refine .inl ⟨a, by rw [keyV_atom q, ha]; rfl, ha, ?_⟩
    rcases h with h | h
    · exact h
    · refine h.empty ?_
      obtain ⟨es, ep, xs, a, b, c, e, f⟩ := h
      cases f with
      | nil => rfl
      | cons => have := KO _ (.head _); rw [q] at this; cases this
  | true =>
    obtain ⟨l, rfl⟩ := isTup_tup q
    obtain ⟨ks, hks⟩ := atomsOk_some (l := l) ok
    refine .inr ⟨l, ks, rfl, hks, ?_⟩
    rcases h with ⟨ep, h⟩ | h
    · refine h.empty ?_
      obtain ⟨kvs, es, a, b, c, e, f, g⟩ := h
      cases g with
      | nil => rfl
      | cons e1 => have := KO _ (.head _); rw [isTup_atomOf e1] at this; cases this
    · exact h
theorem DenL.items : ∀ {l : List SV} {vs : List Value} {ks : List Atom}, DenL z l vs → atomsOf l = some ks → ItemsAre (atomKind S.prog S.w) ks vs
  | _, _, _, .nil, h => by cases h; exact .nil
  | _, _, _, .cons d r, h => by
    obtain ⟨x, xs, hx, hxs, rfl⟩ := atomsOf_cons h
    exact .cons (d.atomIs hx) (r.items hxs)
theorem keyed_of {o : Obj} {d : List (SV × SV)} (h : DictR S z d o) : Keyed d ∧ DNodup d := by
  rcases h with ⟨ep, kvs, es, a, b, c, e, f, g⟩ | ⟨es, ep, xs, a, b, c, e, f⟩
  · exact ⟨g.keyed.1, g.nodup f⟩
  · exact ⟨f.keyed.1, f.nodup e⟩
theorem dictGet_ok {C : Bool} {d : List (SV × SV)} {k : SV} {q : Option SV} {σ' : St} {o : List Ob} (e : dictGet C d k σ = some (q, σ', o)) (ho : Owed S o) {ob : Obj} (h : DictR S z d ob) :
    keyOk k = true ∧ KindOk k d ∧ dfind k d = q ∧ σ'.loc = σ.loc ∧ σ'.led = σ.led := by
  unfold dictGet at e
  refine isTrue_el e ?_; clear e; intro hk e
  cases C with
  | true =>
    refine isTrue_el e ?_; clear e; intro hko e
    obtain ⟨e1, rfl, rfl⟩ := opt_some e
    obtain ⟨K, _⟩ := keyed_of h
    exact ⟨hk, kindsOk_iff hko, dlook_dfind (keyOk_some hk) K (kindsOk_iff hko) e1, rfl, rfl⟩
  | false =>
    simp only at e
    split at e
    · cases e
      have : LookOk d k q := ho (.look d k q) (.head _)
      exact ⟨hk, this.1, this.2, rfl, rfl⟩
    · exact no_some e
theorem lenOk_ok {C : Bool} {l : Nat} {u : Unit} {σ' : St} {o : List Ob} (e : lenOk C l σ = some (u, σ', o)) (ho : Owed S o) : l < 1000 ∧ σ' = σ := by
  cases C with
  | true => obtain ⟨h, rfl, rfl⟩ := isTrue!_some e; exact ⟨Nat.le_of_ble_eq_true h, rfl⟩
  | false =>
    obtain ⟨rfl, rfl⟩ := owe_some e
    have : (l : Int) ≤ 999 := ho (.bound l 999) (.head _)
    exact ⟨by omega, rfl⟩
theorem dictPut_ok {C : Bool} {d d' : List (SV × SV)} {k v : SV} {σ' : St} {o : List Ob} (e : dictPut C d k v σ = some (d', σ', o)) (ho : Owed S o) {ob : Obj} (h : DictR S z d ob) :
    keyOk k = true ∧ KindOk k d ∧ dstore k v d = d' ∧ d.length < 1000 ∧ σ'.loc = σ.loc ∧ σ'.led = σ.led := by
  unfold dictPut at e
  refine isTrue_el e ?_; clear e; intro hk e
  refine andThen_el e ho ?_; clear e ho; intro _ _ o1 o2 e0 he0 e ho
  obtain ⟨hl, rfl⟩ := lenOk_ok e0 he0
  cases C with
  | true =>
    refine isTrue_el e ?_; clear e; intro hko e
    obtain ⟨e1, rfl, rfl⟩ := opt_some e
    obtain ⟨K, N⟩ := keyed_of h
    exact ⟨hk, kindsOk_iff hko, dput_dstore (keyOk_some hk) K N (kindsOk_iff hko) e1, hl, rfl, rfl⟩
  | false =>
    simp only at e
    split at e
    · cases e
      have : PutOk d k v d' := ho (.put d k v d') (.head _)
      exact ⟨hk, this.1, this.2, hl, rfl, rfl⟩
    · exact no_some e
theorem Rep.notModules {s : Shared} (R : Rep S en c z m σ s.heap) (k : c.Ok S n) {x : Addr} {o : Obj} (hx : (x, o) ∈ z.all) : (x == sysModules) = false := by
  refine beq_eq_false_iff_ne.mpr fun e => ?_
  obtain ⟨q, hq⟩ := k.top.mods
  have := (R.news _ hx).2.2
  rw [e, hq] at this
  cases this
theorem AtomDict.at {s : Shared} (R : Rep S en c z m σ s.heap) {x : Addr} {o : Obj} {d : List (SV × SV)} {ep : Nat} (hx : (x, o) ∈ z.all) (h : AtomDict S z d ep o) :
    ∃ kvs, s.heap.DictAt (atomKind S.prog S.w) x kvs ep ∧ AtomPairs z d kvs :=
  let ⟨kvs, es, a, b, c, e, f, g⟩ := h; ⟨kvs, ⟨o, es, (R.news _ hx).1, a, b, c, e, f⟩, g⟩
theorem TupPairs.keys {s : Shared} (R : Rep S en c z m σ s.heap) {d : List (SV × SV)} {xs : List (List Atom × Addr × Value)} (h : TupPairs S z d xs) : ∀ x ∈ xs, IsTupleKey (atomKind S.prog S.w) s.heap x.1 x.2.1 := by
  induction h with
  | nil => exact fun _ h => nomatch h
  | @cons l v d ks a vs u xs e m o i dn r ih =>
    intro y hy
    rcases List.mem_cons.mp hy with rfl | hy
    · exact ⟨_, vs.toArray, _, (R.news _ m).1, rfl, rfl, i⟩
    · exact ih y hy
theorem TupDict.at {s : Shared} (R : Rep S en c z m σ s.heap) {x : Addr} {o : Obj} {d : List (SV × SV)} (hx : (x, o) ∈ z.all) (h : TupDict S z d o) :
    ∃ xs, s.heap.DictOfH (tupleKind (atomKind S.prog S.w)) x xs ∧ TupPairs S z d xs :=
  let ⟨es, ep, xs, a, b, c, e, f⟩ := h; ⟨xs, ⟨o, es, ep, (R.news _ hx).1, a, b, c, fun y hy => f.keys R y hy, e⟩, f⟩
theorem tupKey {s : Shared} (R : Rep S en c z m σ s.heap) {l : List SV} {ks : List Atom} {v : Value} (d : Den z (.tup l) v) (h : atomsOf l = some ks) :
    ∃ a vs, v = .ref a ∧ (a, tupO vs) ∈ z.all ∧ z.own a = .none ∧ ItemsAre (atomKind S.prog S.w) ks vs ∧ IsTupleKey (atomKind S.prog S.w) s.heap ks a := by
  cases d with
  | tup _ a vs m1 o1 dl => exact ⟨a, vs, rfl, m1, o1, dl.items h, ⟨_, vs.toArray, _, (R.news _ m1).1, rfl, rfl, dl.items h⟩⟩
section
variable {s : Shared} {E : Value → Shared → Prop} {x : Addr} {o : Obj} {d : List (SV × SV)} {kk : SV} {kv : Value}
theorem units1 (k : c.Ok S (n + 1)) : c.A.units + 1 < cLine := by have := k.units; omega
theorem dict_getItem (k : c.Ok S (n + 1)) {Q : Value → Shared → Prop} (R : Rep S en c z m σ s.heap) (hx : (x, o) ∈ z.all) (h : DictR S z d o) (KO : KindOk kk d) (ok : keyOk kk = true) (dk : Den z kk kv) {w : SV} (hw : dfind kk d = some w)
    (hQ : ∀ v tk, Den z w v → Q v (Sh s s.heap tk)) : wpAny S.M c.A (getItem (.ref x) kv) Q E s := by
  rcases h.split KO ok with ⟨a, ka, aa, ep, hA⟩ | ⟨l, ks, rfl, hks, hT⟩
  · obtain ⟨kvs, hD, hP⟩ := hA.at R hx
    have g := hP.get ka
    rw [hw] at g
    obtain ⟨v, g1, g2⟩ := g
    exact wpAny_getItem_of (knd := atomKind S.prog S.w) (dk.atomIs aa) hD.dictOf.mapOf g1 (hQ v _ g2)
  · obtain ⟨xs, hD, hP⟩ := hT.at R hx
    obtain ⟨b, vs, rfl, _, _, _, hkey⟩ := tupKey R dk hks
    have g := hP.get hks
    rw [hw] at g
    obtain ⟨p, g1, g2⟩ := g
    exact wpAny_getItem_heap (knd := tupleKind (atomKind S.prog S.w)) (units1 k) hkey hD g1 (hQ p.2 _ g2)
theorem dict_typeIs (R : Rep S en c z m σ s.heap) (hx : (x, o) ∈ z.all) (h : DictR S z d o) : s.TypeIs (.ref x) "dict" := by
  rcases h with ⟨ep, hA⟩ | hT
  · obtain ⟨kvs, hD, hP⟩ := hA.at R hx; exact hD.dictOf.typeIs
  · obtain ⟨xs, hD, hP⟩ := hT.at R hx; exact hD.typeIs
theorem dict_noDict (R : Rep S en c z m σ s.heap) (hx : (x, o) ∈ z.all) (h : DictR S z d o) : ∀ b, Value.ref x = .ref b → ∃ ob, s.heap.get? b = some ob ∧ ob.dict = none := by
  intro b e
  cases e
  refine ⟨o, (R.news _ hx).1, ?_⟩
  rcases h with ⟨ep, kvs, es, a, _⟩ | ⟨es, ep, xs, a, _⟩
  · exact a.2.1
  · exact a.2.1
theorem dict_in (k : c.Ok S (n + 1)) {Q : Value → Shared → Prop} (R : Rep S en c z m σ s.heap) (hx : (x, o) ∈ z.all) (h : DictR S z d o) (KO : KindOk kk d) (ok : keyOk kk = true) (dk : Den z kk kv)
    (hQ : ∀ tk, Q (.bool (dfind kk d).isSome) (Sh s s.heap tk)) : wpAny S.M c.A (compareOp .In kv (.ref x)) Q E s := by
  rcases h.split KO ok with ⟨a, ka, aa, ep, hA⟩ | ⟨l, ks, rfl, hks, hT⟩
  · obtain ⟨kvs, hD, hP⟩ := hA.at R hx
    have g := hP.get ka
    refine wpAny_in_of (knd := atomKind S.prog S.w) (dk.atomIs aa) (R.notModules k hx) hD.dictOf.mapOf ?_
    have : (valueAt kvs a).isSome = (dfind kk d).isSome := by
      split at g
      · rename_i q; obtain ⟨v, g1, g2⟩ := g; rw [g1, q]; rfl
      · rename_i q; rw [g, q]; rfl
    rw [this]; exact hQ _
  · obtain ⟨xs, hD, hP⟩ := hT.at R hx
    obtain ⟨b, vs, rfl, _, _, _, hkey⟩ := tupKey R dk hks
    have g := hP.get hks
    refine wpAny_in_heap (knd := tupleKind (atomKind S.prog S.w)) (units1 k) hkey (R.notModules k hx) hD ?_
    have : (atKey xs ks).isSome = (dfind (.tup l) d).isSome := by
      split at g
      · rename_i q; obtain ⟨v, g1, g2⟩ := g; rw [g1, q]; rfl
      · rename_i q; rw [g, q]; rfl
    rw [this]; exact hQ _
theorem dict_notIn (k : c.Ok S (n + 1)) {Q : Value → Shared → Prop} (R : Rep S en c z m σ s.heap) (hx : (x, o) ∈ z.all) (h : DictR S z d o) (KO : KindOk kk d) (ok : keyOk kk = true) (dk : Den z kk kv)
    (hQ : ∀ tk, Q (.bool (!(dfind kk d).isSome)) (Sh s s.heap tk)) : wpAny S.M c.A (compareOp .NotIn kv (.ref x)) Q E s := by
  rcases h.split KO ok with ⟨a, ka, aa, ep, hA⟩ | ⟨l, ks, rfl, hks, hT⟩
  · obtain ⟨kvs, hD, hP⟩ := hA.at R hx
    have g := hP.get ka
    refine wpAny_notIn_of (knd := atomKind S.prog S.w) (dk.atomIs aa) (R.notModules k hx) hD.dictOf.mapOf ?_
    have : (valueAt kvs a).isSome = (dfind kk d).isSome := by
      split at g
      · rename_i q; obtain ⟨v, g1, g2⟩ := g; rw [g1, q]; rfl
      · rename_i q; rw [g, q]; rfl
    rw [this]; exact hQ _
  · obtain ⟨xs, hD, hP⟩ := hT.at R hx
    obtain ⟨b, vs, rfl, _, _, _, hkey⟩ := tupKey R dk hks
    have g := hP.get hks
    refine wpAny_notIn_heap (knd := tupleKind (atomKind S.prog S.w)) (units1 k) hkey (R.notModules k hx) hD ?_
    have : (atKey xs ks).isSome = (dfind (.tup l) d).isSome := by
      split at g
      · rename_i q; obtain ⟨v, g1, g2⟩ := g; rw [g1, q]; rfl
      · rename_i q; rw [g, q]; rfl
    rw [this]; exact hQ _
theorem dict_get (k : c.Ok S (n + 1)) {Q : Value → Shared → Prop} {dflt : SV} {dv : Value} (R : Rep S en c z m σ s.heap) (hx : (x, o) ∈ z.all) (h : DictR S z d o) (KO : KindOk kk d) (ok : keyOk kk = true) (dk : Den z kk kv) (dd : Den z dflt dv)
    (hQ : ∀ v tk, Den z (match dfind kk d with | some w => w | none => dflt) v → Q v (Sh s s.heap tk)) : wpAny S.M c.A (call (.builtin "dict.get") [.ref x, kv, dv]) Q E s := by
  rcases h.split KO ok with ⟨a, ka, aa, ep, hA⟩ | ⟨l, ks, rfl, hks, hT⟩
  · obtain ⟨kvs, hD, hP⟩ := hA.at R hx
    have g := hP.get ka
    refine call_meetsIn PySem.F.slot_dict_get hD.dictOf.typeIs PySem.F.entry_dict_get (PySem.F.args_dict_get_3 _ _ _) (meets_dict_get_default (atomKind S.prog S.w) x (dk.atomIs aa) (R.notModules k hx) dv) ⟨_, hD.dictOf.mapOf, hQ _ _ ?_⟩
    split at g
    · rename_i q; obtain ⟨v, g1, g2⟩ := g; rw [g1]; first | exact g2 | (rw [q]; exact g2)
    · rename_i q; rw [g]; first | exact dd | (rw [q]; exact dd)
  · obtain ⟨xs, hD, hP⟩ := hT.at R hx
    obtain ⟨b, vs, rfl, _, _, _, hkey⟩ := tupKey R dk hks
    have g := hP.get hks
    refine call_meetsIn PySem.F.slot_dict_get hD.typeIs PySem.F.entry_dict_get (PySem.F.args_dict_get_3 _ _ _) (meetsH_dict_get_default (tupleKind (atomKind S.prog S.w)) x b (R.notModules k hx) dv) ⟨units1 k, ks, xs, hkey, hD, hQ _ _ ?_⟩
    split at g
    · rename_i q; obtain ⟨v, g1, g2⟩ := g; rw [g1]; first | exact g2 | (rw [q]; exact g2)
    · rename_i q; rw [g]; first | exact dd | (rw [q]; exact dd)
theorem dict_setItem (k : c.Ok S (n + 1)) {Q : Unit → Shared → Prop} {v : SV} {u : Value} (R : Rep S en c z m σ s.heap) (hx : (x, o) ∈ z.all) {key : Nat × Int} (hw : z.own x = some key) (h : DictR S z d o) (KO : KindOk kk d) (ok : keyOk kk = true) (dk : Den z kk kv) (du : Den z v u)
    (hl : d.length < 1000) (hQ : ∀ h' o' tk, Fr c.h₀ c.L h' m → News c.h₀ c.L h' (updA z.all x o') → DictR S z (dstore kk v d) o' → Q () (Sh s h' tk)) : wpAny S.M c.A (PySem.setItem (.ref x) kv u) Q E s := by
  have N := R.news _ hx
  rcases h.split KO ok with ⟨a, ka, aa, ep, hA⟩ | ⟨l, ks, rfl, hks, hT⟩
  · obtain ⟨kvs, hD, hP⟩ := hA.at R hx
    refine wpAny_setItem_pairs (knd := atomKind S.prog S.w) (hsz := by rw [← hP.length, sizeLine_eq]; omega) (dk.atomIs aa) hD.dictOf fun h' hm hs => ?_
    obtain ⟨o', ho', hd'⟩ := Heap.dictOf_iff.mp hm
    exact hQ h' o' _ (R.fr.change hs N.2.1 N.2.2) (R.news.replace hs ho') (.inl (atomDict_of hd' (hP.put ka aa du)))
  · obtain ⟨xs, hD, hP⟩ := hT.at R hx
    obtain ⟨b, vs, rfl, m1, o1, i1, hkey⟩ := tupKey R dk hks
    refine wpAny_setItem_heap (knd := tupleKind (atomKind S.prog S.w)) (hsz := by rw [← hP.length, sizeLine_eq]; omega) (units1 k) hkey hD fun h' hm hs => ?_
    obtain ⟨o', es', ep', ho', hc', hd', he', _, hn'⟩ := hm
    exact hQ h' o' _ (R.fr.change hs N.2.1 N.2.2) (R.news.replace hs ho') (.inr ⟨es', ep', _, hc', hd', he', hn', hP.put hks m1 o1 i1 du⟩)
theorem dict_setdefault (k : c.Ok S (n + 1)) {Q : Value → Shared → Prop} {v : SV} {u : Value} (R : Rep S en c z m σ s.heap) (hx : (x, o) ∈ z.all) (h : DictR S z d o) (KO : KindOk kk d) (ok : atomOk kk = true) (dk : Den z kk kv) (du : Den z v u)
    (hl : dfind kk d = none → d.length < 1000) (hQ1 : ∀ w v tk, dfind kk d = some w → Den z w v → Q v (Sh s s.heap tk)) (hQ2 : ∀ h' o' tk, dfind kk d = none → Fr c.h₀ c.L h' m → News c.h₀ c.L h' (updA z.all x o') → DictR S z (dstore kk v d) o' → Q u (Sh s h' tk))
    (hl' : d.length ≤ sizeLine) : wpAny S.M c.A (call (.builtin "dict.setdefault") [.ref x, kv, u]) Q E s := by
  have N := R.news _ hx
  obtain ⟨a, ha⟩ := atomOk_some ok
  have ok' : keyOk kk = true := by cases kk <;> first | exact ok | cases ok
  rcases h.split KO ok' with ⟨a, ka, aa, ep, hA⟩ | ⟨l, ks, rfl, hks, hT⟩
  · obtain ⟨kvs, hD, hP⟩ := hA.at R hx
    have g := hP.get ka
    refine call_meetsIn PySem.F.slot_dict_setdefault hD.dictOf.typeIs PySem.F.entry_dict_setdefault (PySem.F.args_dict_setdefault_3 _ _ _) (kt_meets_setdefault (atomKind S.prog S.w) x (dk.atomIs aa) (R.notModules k hx) u) ⟨kvs, hD.dictOf, by rw [← hP.length]; exact hl', fun v hv => ?_, fun hn h' hm hs => ?_⟩
    · split at g
      · rename_i q; obtain ⟨v', g1, g2⟩ := g; rw [g1] at hv; cases hv; exact hQ1 _ _ _ q g2
      · rename_i q; rw [g] at hv; cases hv
    · split at g
      · rename_i q; obtain ⟨v', g1, g2⟩ := g; rw [g1] at hn; cases hn
      · rename_i q
        obtain ⟨o', ho', hd'⟩ := Heap.dictOf_iff.mp hm
        exact hQ2 h' o' _ q (R.fr.change hs N.2.1 N.2.2) (R.news.replace hs ho') (.inl (atomDict_of hd' (hP.put ka aa du)))
  · cases ok
theorem dict_len (k : c.Ok S (n + 1)) {Q : Value → Shared → Prop} (R : Rep S en c z m σ s.heap) (hx : (x, o) ∈ z.all) (h : DictR S z d o) (hl : d.length < 1000) (hQ : ∀ t tk, Q (.int d.length t) (Sh s s.heap tk)) :
    wpAny S.M c.A (call (.builtin "len") [.ref x]) Q E s := by
  have raw : ∃ es ep, o.data = .dict es ep ∧ es.size = d.length := by
    rcases h with ⟨ep, kvs, es, a, b, c, e, f, g⟩ | ⟨es, ep, xs, a, b, c, e, f⟩
    · exact ⟨es, ep, b, by rw [g.length, ← e.length]; simp⟩
    · exact ⟨es, ep, b, by rw [f.length, ← Array.length_toList, c, List.length_map]⟩
  obtain ⟨es, ep, hd, hn⟩ := raw
  have hT := dict_typeIs R hx h
  have M : MeetsIn S.prog S.w (Builtin.«dict.__len__» ⟨[.ref x], []⟩) (fun _ T s => s.heap.get? x = some o ∧ T (.ok (.ret (.int d.length s.toks))) { s with toks := s.toks + 1 }) := .of_wp fun A T s ⟨ho, h⟩ => by
    show wpAny _ _ (dictSize x >>= _) _ _ s
    unfold dictSize
    refine wpAny_bind (wpAny_bind (wpAny_dictEntries ho hd (wpAny_pure ?_)))
    show wpAny _ _ (Builtin.Dict.pendingCount x >>= _) _ _ s
    refine wpAny_bind (wpAny_pendingCount_other (R.notModules k hx) ?_)
    refine wpAny_ret_mkInt ?_
    rw [Nat.add_zero, hn]; exact h
  refine Calls.call_function_entry kind_len plain_len entry_len (args_len1 _) ?_
  unfold Builtin.«len»
  refine wpAny_bind (m := oneArg "len" _) (wpAny_pure ?_)
  refine wpAny_bind (m := callSpecial? (.ref x) (Str.ofString "__len__")) (wpAny_callSpecial?_slot (name := Str.ofString "__len__") hT F.slot_dict_len
    (call_meetsIn F.slot_dict_len hT F.entry_dict_len (F.args_dict_len_1 _) M ⟨(R.news _ hx).1, ?_⟩))
  show wpAny _ _ _ _ _ { s with toks := s.toks + 1 }
  refine wpAny_bind (wpAny_holding (wpAny_pure ?_))
  refine wpAny_bind (wpAny_letGo ?_)
  show wpAny _ _ (if ((d.length : Nat) : Int) < 0 then _ else _) _ _ _
  rw [if_neg (by omega)]
  show wpAny _ _ (if ((d.length : Nat) : Int) ≥ 2 ^ 63 then _ else _) _ _ _
  rw [if_neg (by omega)]
  exact wpAny_bind (wpAny_mkInt (wpAny_pure ⟨_, rfl, hQ _ _⟩))
end
end
set_option tactic.hygienic true
open PySem PySem.W PySem.Calls PyProof.Rows
theorem sortedHeap_fr {h₀ h : Heap} {L a : Addr} {m : Str → Option Value} {vs : List Value} {out : Array Value} (F : Fr h₀ L h m) (hL : a ≠ L) (hn : h₀.get? a = none) : Fr h₀ L (sortedHeap h a vs out) m := by
  obtain ⟨oL, a1, a2, hL', a3⟩ := F.ns
  refine ⟨⟨oL, a1, a2, (sortedHeap_old (Ne.symm hL) (Heap.lt_size hL')).trans hL', a3⟩, fun b o e => ?_, F.above⟩
  have h1 := F.keep b o e
  exact (sortedHeap_old (fun q => by subst q; rw [hn] at e; cases e) (Heap.lt_size h1)).trans h1
theorem ints_of : ∀ {vs : List Value} {ns : List Int}, vs.length = ns.length → (∀ (j : Nat) (v : Value), vs[j]? = some v → ∃ (i : Int) (t : Tok), ns[j]? = some i ∧ v = Value.int i t) → IntsAre vs ns
  | [], [], _, _ => .nil
  | v :: vs, n :: ns, hl, h => by
    obtain ⟨i, t, e1, e2⟩ := h 0 v rfl
    cases e1
    subst e2
    exact .cons _ t (ints_of (by simpa using hl) fun j w hw => h (j + 1) w hw)
  | [], _ :: _, hl, _ => by cases hl
  | _ :: _, [], hl, _ => by cases hl
theorem den_intsAre {z : Rz} : ∀ {vs : List Value} {ns : List Int}, IntsAre vs ns → DenL z (ns.map (SV.int false)) vs
  | _, _, .nil => .nil
  | _, _, .cons n t r => .cons (.int false n t) (den_intsAre r)
section
variable {S : Fix} {en : En} {c : Cx} {n : Nat} {z : Rz} {m : Str → Option Value} {σ : St} {s : Shared} {x : Addr} {o : Obj} {d : List (SV × SV)} {E : Value → Shared → Prop}
theorem dict_sorted (k : c.Ok S (n + 1)) {Q : Value → Shared → Prop} (R : Rep S en c z m σ s.heap) (hx : (x, o) ∈ z.all) (h : DictR S z d o) {ns : List Int} (hk : (d.map Prod.fst).map keyV = ns.map fun i => keyV (.int false i)) (ho : ns.Pairwise (· ≤ ·)) (h64 : ns.length < 64)
    (hQ : ∀ (D : Addr) (h' : Heap) (tk : Nat) (out : Array Value) (e : Nat), Fr c.h₀ c.L h' m → News c.h₀ c.L h' ((D, seqObj "list" out e) :: z.all) → (∀ p ∈ z.all, p.1 < D) → IntsAre out.toList ns → Q (.ref D) (Sh s h' tk)) :
    wpAny S.M c.A (call (.builtin "sorted") [.ref x]) Q E s := by
  have hat : ∃ ep, AtomDict S z d ep o := by
    rcases h with h | h
    · exact h
    · have hd : d = [] := by
        cases d with
        | nil => rfl
        | cons p r =>
          obtain ⟨es, ep, xs, _, _, _, _, f⟩ := h
          cases f with
          | cons e _ _ _ _ _ =>
            cases ns with
            | nil => cases hk
            | cons n ns =>
              have := (List.cons.inj hk).1
              simp [keyV, e, atomOf] at this
      exact TupDict.empty hd h
  obtain ⟨ep, hA⟩ := hat
  obtain ⟨kvs, hat, hP⟩ := hA.at R hx
  have hkv : (kvs.map fun p => (some (.inl p.1) : Option Key)) = ns.map fun i => keyV (.int false i) := by
    rw [← hk, List.map_map, ← hP.keyed.2]; rfl
  have hlen : kvs.length = ns.length := by simpa using congrArg List.length hkv
  refine kdu_sorted (kdl_dict (knd := atomKind S.prog S.w) (kvs := kvs) (ep := ep) (R.notModules k hx)) k.hd R.fr R.news hat (by rw [sizeLine_eq]; omega) fun D h' tk vs F' N' l1 hl hv => ?_
  have hI : IntsAre vs ns := ints_of (by omega) fun j v e => by
    obtain ⟨a, u, e1, e2⟩ := hv j v e
    have e3 : (ns.map fun i => keyV (.int false i))[j]? = some (some (.inl a)) := by rw [← hkv, List.getElem?_map, e1]; rfl
    rw [List.getElem?_map] at e3
    cases e4 : ns[j]? with
    | none => rw [e4] at e3; cases e3
    | some i =>
      rw [e4] at e3
      cases e3
      obtain ⟨t, e5⟩ := atomIs_int e2
      exact ⟨i, t, rfl, e5⟩
  have hoL := (N' _ (.head _)).1
  refine wpAny_call_entry slot_list_sort ⟨_, hoL, rfl⟩ entry_list_sort (list_sort_tree hoL hI (by omega) fun out ns' b1 b2 b3 => ⟨_, rfl, ?_⟩) (args_list_sort _)
  have en : ns' = ns := List.Perm.eq_of_pairwise (fun a b _ _ p q => Int.le_antisymm p q) b3 ho b2
  subst en
  obtain ⟨e, he⟩ := sortedHeap_at (out := out) hoL
  refine hQ D _ tk out e (sortedHeap_fr F' (N' _ (.head _)).2.1 (N' _ (.head _)).2.2) (fun p hp => ?_) l1 b1
  rcases List.mem_cons.mp hp with rfl | hp
  · exact ⟨he, (N' _ (.head _)).2⟩
  · have := N' p (.tail _ hp)
    exact ⟨(sortedHeap_old (Nat.ne_of_lt (l1 p hp)) (Heap.lt_size this.1)).trans this.1, this.2⟩
end
section
variable {S : Fix} {en : En} {c : Cx} {n : Nat} {r : Rec} {z : Rz} {m : Str → Option Value} {σ : St}
theorem objOf_same {v : SV} {σ₁ σ' : St} {q : SO} {ob : List Ob} (e : objOf v σ = some (q, σ₁, ob)) (h : σ'.led = σ.led) : objOf v σ' = some (q, σ', ob) := by
  have : objOf v σ' = (objOf v σ).map fun r => (r.1, σ', r.2.2) := by
    unfold objOf getChunk
    rw [h]
    cases v with
    | ref t => dsimp only; cases σ.led[t]? with
      | none => rfl
      | some ch => cases ch <;> rfl
    | fam t i => dsimp only; cases σ.led[t]? with
      | none => rfl
      | some ch => cases ch <;> rfl
    | _ => rfl
  rw [this, e]; rfl
theorem Rep.same {h : Heap} (H : Rep S en c z m σ h) {σ' : St} (h1 : σ'.loc = σ.loc) (h2 : σ'.led = σ.led) : Rep S en c z m σ' h :=
  ⟨H.fr, H.news, H.nd, H.dom, by rw [h2]; exact H.len, by rw [h2]; exact H.led, by rw [h1]; exact H.loc, H.cells, H.scope, H.lvn, by rw [h2]; exact H.lvk⟩
theorem Rep.turnDict {h h' : Heap} {x : Addr} {o o' : Obj} {C C' : Bool} {d d' : List (SV × SV)} {v : SV} {σ₀ σ₁ σ₂ : St} {ob ob' : List Ob} {t : Nat} {i : Int} (R : Rep S en c z m σ h) (hx : (z.ad t i, o) ∈ z.all) (hw : z.own (z.ad t i) = some (t, i))
    (hk : keyOf v = some (t, i)) (e₀ : objOf v σ = some (.dict C d, σ₀, ob)) (h1 : σ₁.loc = σ.loc) (h2 : σ₁.led = σ.led) (e₁ : setObj v (.dict C' d') σ₁ = some ((), σ₂, ob')) (F : Fr c.h₀ c.L h' m) (N : News c.h₀ c.L h' (updA z.all (z.ad t i) o')) (hd : DictR S z d' o') (hlv : z.lv t i) (hsm : ∀ ks f j o, σ.led[t]? = some (.ffam ks f j o) → i = j) :
    Rep S en c (z.turn (z.ad t i) o') m σ₂ h' ∧ z.Le (z.turn (z.ad t i) o') := by
  have le := z.turn_le o' hw
  exact ⟨(R.same h1 h2).turn hw F N hk (objOf_same e₀ h2) e₁ (.dict (mem_updA_self hx) hw (hd.monow le.w)) hlv (by rw [h2]; exact hsm), le⟩
theorem setObj_unit {v : SV} {o₁ : SO} {σ σ₁ : St} {ob : List Ob} {u : Unit} (e : setObj v o₁ σ = some (u, σ₁, ob)) : setObj v o₁ σ = some ((), σ₁, ob) := e
theorem append_eq {l : List Value} {x : Value} : (l ++ [x]).toArray = l.toArray.push x := by simp
theorem arg1_some {args : List SV} {a : SV} (e : arg1 args = some a) : args = [a] := by
  unfold arg1 at e
  split at e
  · exact no_some e
  · split at e
    · exact congrArg (fun x => [x]) (Option.some.inj e)
    · exact no_some e
theorem arg2_some {args : List SV} {q : SV × SV} (e : arg2 args = some q) : args = [q.1, q.2] := by
  unfold arg2 at e
  split at e
  · exact no_some e
  · split at e
    · rename_i h
      rw [arg1_some h, ← Option.some.inj e]
    · exact no_some e
@[elab_as_elim] theorem arg1_el {args : List SV} {a : SV} {vs : List Value} (e : arg1 args = some a) (dl : DenL z args vs) {G : List Value → Prop} (k : ∀ u, Den z a u → G [u]) : G vs := by
  rw [arg1_some e] at dl
  exact DenL.cons_el dl fun u us d r => DenL.nil_el r (k u d)
@[elab_as_elim] theorem arg2_el {args : List SV} {q : SV × SV} {vs : List Value} (e : arg2 args = some q) (dl : DenL z args vs) {G : List Value → Prop} (k : ∀ u v, Den z q.1 u → Den z q.2 v → G [u, v]) : G vs := by
  rw [arg2_some e] at dl
  exact DenL.cons_el dl fun u us d r => DenL.cons_el r fun v vs d' r => DenL.nil_el r (k u v d d')
section
variable {σ' : St} {b : SV} {o : List Ob} {s : Shared} {Q : Value → Shared → Prop} {E : Value → Shared → Prop} {self : SV} {args : List SV} {a : Value} {vs : List Value}
theorem good_append (e : apAppend self args σ = some (b, σ', o)) (ho : Owed S o) (R : Rep S en c z m σ s.heap) (d : Den z self a) (dl : DenL z args vs)
    (hQ : ∀ w z' m' h' tk', z.Le z' → Rep S en c z' m' σ' h' → Den z' b w → Q w (Sh s h' tk')) : wpAny S.M c.A (call (.builtin "list.append") (a :: vs)) Q E s := by
  unfold apAppend at e
  split at e
  · rename_i w ha
    refine arg1_el ha dl fun u dw => ?_
    clear dl ha
    refine obj_el e ho memH R d ?_; clear e ho d; intro q t i o1 o2 e1 hk ht hat hsm e ho
    cases q with
    | list C l =>
      refine hat.list_el fun vs j m1 w1 dvs => ?_
      refine andThen_el e ho ?_; clear e ho; intro _ σ₂ o3 o4 e2 he2 e ho
      obtain ⟨hl, rfl⟩ := lenOk_ok e2 he2
      refine andThen_pu e ?_; clear e; intro _ σ₃ o5 o6 e3 e
      refine append_K (hsz := by rw [List.size_toArray, ← dvs.length, sizeLine_eq]; omega) R.fr R.news (upd_of R.nd m1) fun h' F' N' => ?_
      have le := z.turn_le (listOf (vs.toArray.push u) (j + 1)) w1
      refine retA e hQ _ _ m h' s.toks le (R.turn w1 F' N' hk e1 e3 ?_ ht hsm) .none
      exact At.list (S := S) (c := C) (l := l ++ [w]) (vs := vs ++ [u]) (j := j + 1) (x := z.ad t i) (k := (t, i)) (z := z.turn (z.ad t i) (listOf (vs.toArray.push u) (j + 1))) (by rw [append_eq]; exact mem_updA_self m1) w1 ((dvs.append (.cons dw .nil)).mono le)
    | _ => exact no_some e
  · exact no_some e
theorem good_get (k : c.Ok S (n + 1)) (e : apGet self args σ = some (b, σ', o)) (ho : Owed S o) (R : Rep S en c z m σ s.heap) (d : Den z self a) (dl : DenL z args vs)
    (hQ : ∀ w z' m' h' tk', z.Le z' → Rep S en c z' m' σ' h' → Den z' b w → Q w (Sh s h' tk')) : wpAny S.M c.A (call (.builtin "dict.get") (a :: vs)) Q E s := by
  unfold apGet at e
  split at e
  · rename_i kq ha
    refine arg2_el ha dl fun u v dk dd => ?_
    clear dl ha
    refine obj_el e ho memH R d ?_; clear e ho d; intro q t i o1 o2 e1 hk ht hat hsm e ho
    cases q with
    | dict C dd' =>
      refine hat.dict_el fun ob m1 w1 hd => ?_
      unfold getOn at e; dsimp only at e
      refine andThen_el e ho ?_; clear e ho; intro rr σ₂ o3 o4 e2 he2 e ho
      obtain ⟨g1, g2, g3, g4, g5⟩ := dictGet_ok e2 he2 hd
      refine dict_get k R m1 hd g2 g1 dk dd fun v tk dv => retA e hQ v z m s.heap tk (.refl z) (R.same g4 g5) ?_
      rw [← g3]; exact dv
    | _ => exact no_some e
  · exact no_some e
theorem good_setdefault (k : c.Ok S (n + 1)) (e : apSetdefault self args σ = some (b, σ', o)) (ho : Owed S o) (R : Rep S en c z m σ s.heap) (d : Den z self a) (dl : DenL z args vs)
    (hQ : ∀ w z' m' h' tk', z.Le z' → Rep S en c z' m' σ' h' → Den z' b w → Q w (Sh s h' tk')) : wpAny S.M c.A (call (.builtin "dict.setdefault") (a :: vs)) Q E s := by
  unfold apSetdefault at e
  split at e
  · rename_i kq ha
    refine arg2_el ha dl fun u v dk dd => ?_
    clear dl ha
    refine isTrue_el e ?_; clear e; intro hat0 e
    refine obj_el e ho memH R d ?_; clear e ho d; intro q t i o1 o2 e1 hk ht hat hsm e ho
    cases q with
    | dict C dd' =>
      refine hat.dict_el fun ob m1 w1 hd => ?_
      refine andThen_el e ho ?_; clear e ho; intro _ σ₅ o9 o10 e5 he5 e ho
      obtain ⟨hl5, rfl⟩ := lenOk_ok e5 he5
      refine andThen_el e ho ?_; clear e ho; intro rr σ₂ o3 o4 e2 he2 e ho
      obtain ⟨g1, g2, g3, g4, g5⟩ := dictGet_ok e2 he2 hd
      have hl' : dd'.length ≤ sizeLine := by
        rw [sizeLine_eq]; omega
      cases rr with
      | some w =>
        refine dict_setdefault k R m1 hd g2 hat0 dk dd (fun q => no_some (q.symm.trans g3)) (fun w' v tk hw dv => ?_) (fun h' o' tk q => no_some (q.symm.trans g3)) hl'
        exact retA e hQ v z m s.heap tk (.refl z) (R.same g4 g5) (Option.some.inj (hw.symm.trans g3) ▸ dv)
      | none =>
        refine andThen_el e ho ?_; clear e ho; intro d' σ₃ o5 o6 e3 he3 e ho
        obtain ⟨p1, p2, p3, p4, p5, p6⟩ := dictPut_ok e3 he3 hd
        refine andThen_pu e ?_; clear e; intro _ σ₄ o7 o8 e4 e
        refine dict_setdefault k R m1 hd g2 hat0 dk dd (fun _ => p4) (fun w' v tk hw dv => no_some (g3.symm.trans hw)) (fun h' o' tk q F' N' hd' => ?_) hl'
        rw [p3] at hd'
        obtain ⟨R', le⟩ := R.turnDict (x := z.ad t i) m1 w1 hk e1 (p5.trans g4) (p6.trans g5) e4 F' N' hd' ht (by first | exact hsm | (rw [g5]; exact hsm))
        exact retA e hQ _ _ m h' tk le R' (dd.mono le)
    | _ => exact no_some e
  · exact no_some e
theorem sput_has {l l' : List Int} {kk : Int} (hsp : l' = if kk ∈ l then l else l ++ [kk]) : (fun k' => decide (k' ∈ l) || decide (k' = kk)) = fun k' => decide (k' ∈ l') := by
  funext k'
  rw [hsp]
  split
  · rename_i q
    by_cases e5 : k' = kk
    · subst e5; simp [q]
    · simp [e5]
  · simp
theorem sput_len {l l' : List Int} {kk : Int} (hsp : l' = if kk ∈ l then l else l ++ [kk]) {nn : Nat} (hnn : nn ≤ l.length) : (if decide (kk ∈ l) = true then nn else nn + 1) ≤ l'.length := by
  rw [hsp]
  by_cases q : kk ∈ l
  · rw [if_pos q, if_pos (decide_eq_true q)]; exact hnn
  · rw [if_neg q, if_neg (by simpa using q), List.length_append]; exact Nat.succ_le_succ hnn
theorem popSput_some {l l' : List Int} {kk : Int} {σ' : St} {o : List Ob} (e : popSput l kk σ = some (l', σ', o)) (ho : Owed S o) : (l' = if kk ∈ l then l else l ++ [kk]) ∧ σ'.loc = σ.loc ∧ σ'.led = σ.led := by
  unfold popSput at e
  split at e
  · obtain ⟨rfl, rfl, rfl⟩ := of3 e
    exact ⟨ho (.sput l kk _) (.head _), rfl, rfl⟩
  · exact no_some e
theorem good_add (e : apAdd self args σ = some (b, σ', o)) (ho : Owed S o) (R : Rep S en c z m σ s.heap) (d : Den z self a) (dl : DenL z args vs)
    (hQ : ∀ w z' m' h' tk', z.Le z' → Rep S en c z' m' σ' h' → Den z' b w → Q w (Sh s h' tk')) : wpAny S.M c.A (call (.builtin "set.add") (a :: vs)) Q E s := by
  unfold apAdd at e
  split at e
  · rename_i w ha
    refine arg1_el ha dl fun u dk => ?_
    clear dl ha
    split at e
    · rename_i C kk
      refine Den.int_el dk fun tk0 => ?_
      clear dk
      refine obj_el e ho memH R d ?_; clear e ho d; intro q t i o1 o2 e1 hk ht hat hsm e ho
      cases q with
      | set C l =>
        refine hat.set_el fun ob m1 w1 hs => ?_
        unfold addOn at e; dsimp only at e
        refine andThen_el e ho ?_; clear e ho; intro _ σ₂ o3 o4 e2 he2 e ho
        obtain ⟨hl, rfl⟩ := lenOk_ok e2 he2
        refine andThen_el e ho ?_; clear e ho; intro l' σ₃ o5 o6 e3 he3 e ho
        refine andThen_pu e ?_; clear e; intro _ σ₄ o7 o8 e4 e
        obtain ⟨hsp, g1, g2⟩ := popSput_some e3 he3
        obtain ⟨nn, hso, hnn⟩ := hs
        have N := R.news _ m1
        refine call_set_add (knd := intKind S.prog S.w) (intKind_is _ _ _ _) rfl (hso.setOf N.1 (Nat.lt_of_le_of_lt hnn (Nat.lt_trans hl (by decide)))) (Nat.lt_of_le_of_lt (Nat.succ_le_succ hnn) (Nat.lt_of_le_of_lt hl (by decide))) fun h' hs' hS' => ?_
        obtain ⟨o', ho', hso'⟩ := hS'.objOf
        have le := z.turn_le o' w1
        refine retA e hQ _ _ m h' _ le ((R.same g1 g2).turn w1 (R.fr.change hs' N.2.1 N.2.2) (R.news.replace hs' ho') hk (objOf_same e1 g2) e4 (.set (mem_updA_self m1) w1 ⟨if decide (kk ∈ l) = true then nn else nn + 1, ?_, sput_len hsp hnn⟩) ht (by rw [g2]; exact hsm)) .none
        rw [← sput_has hsp]; exact hso'
      | _ => exact no_some e
    · exact no_some e
  · exact no_some e
end
theorem builtinMeths : BuiltinMeths S := by
  intro en c n k mi self σ
  constructor
  · intro v x σ₁ o e
    unfold resolve at e
    obtain ⟨q, σ₂, o1, o2, e1, e2, rfl⟩ := andThen_some e
    have hσ := objOf_st e1
    obtain ⟨hv, h2, hc⟩ := resolveOn_meth e2
    clear e e2
    refine ⟨hv, h2.symm.trans hσ, fun z mm s a Q E pl ho R d h => ?_⟩
    obtain ⟨_, t, i, hk, ha, ht, hat, _⟩ := objOf_some e1 ho.left memH R d
    rw [ha] at h ⊢
    clear e1 hσ h2 ho hk ha d
    rcases hc with ⟨C, l, hq, hx, hm⟩ | ⟨C, dd, hq, hm⟩ | ⟨C, l, hq, hx, hm⟩
    · rw [hq] at hat
      rw [hm] at h
      rw [hx]
      exact hat.list_el fun vs j m1 w1 dl => listMethod_K R.news m1 PySem.F.slot_list_append PySem.F.type_list_append h
    · rw [hq] at hat
      refine hat.dict_el fun ob m1 w1 hd => ?_
      rcases hm with ⟨hx, hm⟩ | ⟨hx, hm⟩
      · rw [hm] at h
        rw [hx]
        exact getMethod_builtin (dict_typeIs R m1 hd) PySem.F.plainAttrs_dict PySem.F.slot_dict_get PySem.F.type_dict_get (dict_noDict R m1 hd) h
      · rw [hm] at h
        rw [hx]
        exact getMethod_builtin (dict_typeIs R m1 hd) PySem.F.plainAttrs_dict PySem.F.slot_dict_setdefault PySem.F.type_dict_setdefault (dict_noDict R m1 hd) h
    · rw [hq] at hat
      rw [hm] at h
      rw [hx]
      refine hat.set_el fun ob m1 w1 hs => ?_
      obtain ⟨nn, hso, _⟩ := hs
      exact getMethod_builtin ⟨_, (R.news _ m1).1, hso.1.1⟩ PySem.F.plainAttrs_set PySem.F.slot_set_add PySem.F.type_set_add (fun b e => by cases e; exact ⟨_, (R.news _ m1).1, hso.1.2.1⟩) h
  · intro args b σ' o e ho z mm s a vs Q E R d dl hQ
    match mi, e with
    | 0, e => exact good_append e ho R d dl hQ
    | 1, e => exact good_get k e ho R d dl hQ
    | 2, e => exact good_setdefault k e ho R d dl hQ
    | 3, e => exact good_add e ho R d dl hQ
    | mi + 4, e => exact no_some e
theorem rngOk_ok {C : Bool} {lo hi : Int} {u : Unit} {σ' : St} {o : List Ob} (e : rngOk C lo hi σ = some (u, σ', o)) (ho : Owed S o) : lo = 0 ∧ -1000 < hi ∧ hi < 1000 ∧ σ' = σ := by
  unfold rngOk at e
  refine isTrue_el e ?_; clear e; intro hz e
  rw [intEq_iff] at hz
  refine ⟨of_decide_eq_true hz, ?_⟩
  cases C with
  | true =>
    obtain ⟨h, h3, _⟩ := isTrue!_some e
    obtain ⟨h1, h2⟩ := Bool.and_eq_true_iff.mp h
    rw [intLt_dec] at h1 h2
    exact ⟨of_decide_eq_true h1, of_decide_eq_true h2, h3.symm⟩
  | false =>
    refine owe_el e ho ?_; clear e ho; intro o2 h1 e ho
    obtain ⟨h3, rfl⟩ := owe_some e
    have h1 : (-999 : Int) ≤ hi := h1
    have h2 : hi ≤ 999 := ho (.bound hi 999) (.head _)
    exact ⟨Int.lt_of_lt_of_le (by decide) h1, Int.lt_of_le_of_lt h2 (by decide), h3.symm⟩
theorem range_small {hi : Int} (h1 : -1000 < hi) (h2 : hi < 1000) : Builtin.Range.small 0 hi 1 = true := by
  have hs := rangeSize_nat 0 hi
  unfold Builtin.Range.small
  rw [hs]
  simp only [Builtin.Range.rangeFitsLong, Bool.and_eq_true, Bool.or_eq_true, decide_eq_true_eq, beq_iff_eq]
  refine ⟨⟨⟨⟨?_, ?_⟩, ?_⟩, ?_⟩, ?_⟩
  all_goals first | omega | (right; rw [if_pos (by omega)]; omega) | (right; simp; omega) | decide
theorem den_ints {z : Rz} {lo : Int} : ∀ (ys : List Value) (ns : List Int), CarriedAll ys (ns.map .int) → DenL z (ns.map (SV.int false)) ys
  | _, [], .nil => .nil
  | _, n :: ns, .cons h r => by
    cases h
    exact .cons (.int false n _) (den_ints (lo := lo) _ ns r)
@[elab_as_elim] theorem ap1_el {f : SV → St → R SV} {args : List SV} {w : Option (SV × St × List Ob)} {r : SV × St × List Ob} {vs : List Value} (e : ap1 f args σ = w) (hw : w = some r) (dl : DenL z args vs) {G : List Value → Prop} (k : ∀ a u, f a σ = some r → Den z a u → G [u]) : G vs := by
  rw [hw] at e
  unfold ap1 at e
  split at e
  · rename_i a ha
    exact arg1_el ha dl fun u d => k a u e d
  · exact no_some e
theorem ite_el {c : Prop} [Decidable c] {α : Type} {x y w : α} (e : (if c then x else y) = w) {G : Prop} (h1 : c → x = w → G) (h2 : y = w → G) : G := by
  by_cases h : c
  · rw [if_pos h] at e; exact h1 h e
  · rw [if_neg h] at e; exact h2 e
section
variable {σ' : St} {b : SV} {o : List Ob} {s : Shared} {Q : Value → Shared → Prop} {E : Value → Shared → Prop} {a : SV} {u : Value}
theorem good_len (k : c.Ok S (n + 1)) (e : apLen a σ = some (b, σ', o)) (ho : Owed S o) (R : Rep S en c z m σ s.heap) (d : Den z a u)
    (hQ : ∀ w z' m' h' tk', z.Le z' → Rep S en c z' m' σ' h' → Den z' b w → Q w (Sh s h' tk')) : wpAny S.M c.A (call (.builtin "len") [u]) Q E s := by
  have obj : (andThen (objOf a σ) fun ob σ => lenOn ob σ) = some (b, σ', o) → wpAny S.M c.A (call (.builtin "len") [u]) Q E s := by
    clear e; intro e
    refine obj_el e ho memH R d ?_; clear e ho d; intro q t i o1 o2 e1 hk ht hat hsm e ho
    cases q with
    | list C l =>
      refine hat.list_el fun vs j m1 w1 dvs => ?_
      unfold lenOn at e; dsimp only at e
      refine andThen_el e ho ?_; clear e ho; intro _ σ₂ o3 o4 e2 he2 e ho
      obtain ⟨hl, rfl⟩ := lenOk_ok e2 he2
      refine call_len_list ⟨_, (R.news _ m1).1, rfl, _, rfl⟩ (by rw [List.size_toArray, ← dvs.length]; omega) ?_
      rw [List.size_toArray, ← dvs.length]
      exact retA e hQ _ z m s.heap _ (.refl z) R (.int _ _ _)
    | dict C dd =>
      refine hat.dict_el fun ob m1 w1 hd => ?_
      unfold lenOn at e; dsimp only at e
      refine andThen_el e ho ?_; clear e ho; intro _ σ₂ o3 o4 e2 he2 e ho
      obtain ⟨hl, rfl⟩ := lenOk_ok e2 he2
      exact dict_len k R m1 hd hl fun t tk => retA e hQ _ z m s.heap tk (.refl z) R (.int _ _ _)
    | _ => exact no_some e
  cases a with
  | tup l =>
    unfold apLen at e; dsimp only at e
    refine andThen_el e ho ?_; clear e ho; intro _ σ₁ o1 o2 e1 he1 e ho
    obtain ⟨hl, rfl⟩ := lenOk_ok e1 he1
    clear obj
    refine Den.tup_el d fun a vs m1 w1 dvs => ?_
    refine len_tuple (R.news.isTup m1) (by rw [List.size_toArray, ← dvs.length]; omega) ?_
    rw [List.size_toArray, ← dvs.length]
    exact retA e hQ _ z m s.heap _ (.refl z) R (.int _ _ _)
  | _ => exact obj e
theorem popRising_some {l : List SV} {ns : List Int} {σ' : St} {o : List Ob} (e : popRising l σ = some (ns, σ', o)) (ho : Owed S o) : Ob.H S (.rising l ns) ∧ σ'.loc = σ.loc ∧ σ'.led = σ.led := by
  unfold popRising at e
  split at e
  · obtain ⟨rfl, rfl, rfl⟩ := of3 e
    exact ⟨ho _ (.head _), rfl, rfl⟩
  · exact no_some e
theorem good_sorted (k : c.Ok S (n + 1)) (e : apSorted a σ = some (b, σ', o)) (ho : Owed S o) (R : Rep S en c z m σ s.heap) (d : Den z a u)
    (hQ : ∀ w z' m' h' tk', z.Le z' → Rep S en c z' m' σ' h' → Den z' b w → Q w (Sh s h' tk')) : wpAny S.M c.A (call (.builtin "sorted") [u]) Q E s := by
  unfold apSorted at e
  refine obj_el e ho memH R d ?_; clear e ho d; intro q t i o1 o2 e1 hk ht hat hsm e ho
  cases q with
  | dict C dd =>
    refine hat.dict_el fun ob m1 w1 hd => ?_
    unfold sortedOn at e; dsimp only at e
    refine andThen_el e ho ?_; clear e ho; intro ns σ₂ o3 o4 e2 he2 e ho
    obtain ⟨hr, g1, g2⟩ := popRising_some e2 he2
    refine dict_sorted k R m1 hd hr.1 hr.2.1 hr.2.2 fun D h' tk out ep F' N' l1 hI => ?_
    obtain ⟨z₂, le₂, R₂, d₂⟩ := rep_new e ho rfl (R.same g1 g2) F' N' l1 fun z' k le' m' w' => .list m' w' ((den_intsAre hI).mono le')
    exact hQ _ _ m h' tk le₂ R₂ d₂
  | _ => exact no_some e
theorem good_isinst (e : isInst a σ = some (b, σ', o)) (R : Rep S en c z m σ s.heap) (d : Den z a u)
    (hQ : ∀ w z' m' h' tk', z.Le z' → Rep S en c z' m' σ' h' → Den z' b w → Q w (Sh s h' tk')) : wpAny S.M c.A (call (.builtin "isinstance") [u, .type "tuple"]) Q E s := by
  cases a with
  | tup l => exact Den.tup_el d fun a vs m1 w1 dvs => PySem.IsiPair.tuple_tuple (R.news _ m1).1 rfl (retA e hQ _ z m s.heap s.toks (.refl z) R (.bool _ _))
  | str x => exact Den.str_el d fun t => PySem.IsiPair.str_tuple (retA e hQ _ z m s.heap _ (.refl z) R (.bool _ _))
  | int C i => exact Den.int_el d fun t => PySem.IsiPair.int_tuple (retA e hQ _ z m s.heap _ (.refl z) R (.bool _ _))
  | _ => exact no_some e
theorem good_range (e : apRange a σ = some (b, σ', o)) (R : Rep S en c z m σ s.heap) (d : Den z a u)
    (hQ : ∀ w z' m' h' tk', z.Le z' → Rep S en c z' m' σ' h' → Den z' b w → Q w (Sh s h' tk')) : wpAny S.M c.A (call (.type "range") [u]) Q E s := by
  cases a with
  | int C i =>
    refine Den.int_el d fun tk0 => ?_
    refine range1_rows R.fr R.news fun h' tk t1 u1 v1 hr F' N' hk => ?_
    have hn : c.h₀.get? s.heap.objs.size = none := by
      cases e : c.h₀.get? s.heap.objs.size with
      | none => rfl
      | some o => exact absurd (Heap.lt_size (R.fr.keep _ _ e)) (Nat.lt_irrefl _)
    have hL : s.heap.objs.size ≠ c.L := Nat.ne_of_gt R.fr.ns.lt
    have N2 : News c.h₀ c.L h' ((s.heap.objs.size, rngO 0 i t1 u1 v1) :: z.all) := fun p hp => (List.mem_cons.mp hp).elim (fun e => by rw [e]; exact ⟨hr, hL, hn⟩) (N' p)
    obtain ⟨R', hown⟩ := R.pool F' N2 fun p hp => Heap.lt_size (R.news p hp).1
    exact retA e hQ _ _ m h' tk (z.pool_le _ _) R' (.rng C 0 i _ t1 u1 v1 (.head _) hown)
  | _ => exact no_some e
theorem good_tupleOf (e : apTuple a σ = some (b, σ', o)) (ho : Owed S o) (R : Rep S en c z m σ s.heap) (d : Den z a u)
    (hQ : ∀ w z' m' h' tk', z.Le z' → Rep S en c z' m' σ' h' → Den z' b w → Q w (Sh s h' tk')) : wpAny S.M c.A (call (.type "tuple") [u]) Q E s := by
  unfold apTuple at e
  refine obj_el e ho memH R d ?_; clear e ho d; intro q t i o1 o2 e1 hk ht hat hsm e ho
  cases q with
  | list C l =>
    refine hat.list_el fun vs j m1 w1 dvs => ?_
    unfold tupleOn at e; dsimp only at e
    refine andThen_el e ho ?_; clear e ho; intro _ σ₂ o3 o4 e2 he2 e ho
    obtain ⟨hl, rfl⟩ := lenOk_ok e2 he2
    refine call_tuple_list (items := vs.toArray) ⟨_, (R.news _ m1).1, rfl, _, rfl⟩ (hsz := by rw [List.size_toArray, ← dvs.length, sizeLine_eq]; omega) fun h' hk' => ?_
    have F' := R.fr.keeps hk'
    have N' : News c.h₀ c.L h' z.all := fun p hp => ⟨hk' _ _ (R.news p hp).1, (R.news p hp).2⟩
    obtain ⟨R', d'⟩ := rep_tuple (d := h'.objs.size) (l := l) (vs := vs) R (F'.push _) (N'.push F' _) (fun p hp => Heap.lt_size (N' p hp).1) dvs
    exact retA e hQ _ _ m _ s.toks (z.pool_le _ _) R' d'
  | _ => exact no_some e
theorem good_listOf (k : c.Ok S (n + 1)) (e : apList a σ = some (b, σ', o)) (ho : Owed S o) (R : Rep S en c z m σ s.heap) (d : Den z a u)
    (hQ : ∀ w z' m' h' tk', z.Le z' → Rep S en c z' m' σ' h' → Den z' b w → Q w (Sh s h' tk')) : wpAny S.M c.A (call (.type "list") [u]) Q E s := by
  cases a with
  | rng C lo hi =>
    unfold apList at e; dsimp only at e
    refine andThen_el e ho ?_; clear e ho; intro _ σ₁ o1 o2 e1 he1 e ho
    obtain ⟨rfl, h1, h2, rfl⟩ := rngOk_ok e1 he1
    refine Den.rng_el d fun a t1 t2 t3 m1 w1 => ?_
    refine list_rangeD k.hd R.fr R.news (R.news _ m1).1 (range_small h1 h2) (rangeSize_nat 0 hi) (by omega) fun h' tk ys F' N' hk' hn hl hp hc => ?_
    obtain ⟨⟨j, hj⟩, hne⟩ := hp
    have hL : s.heap.objs.size ≠ c.L := Nat.ne_of_gt R.fr.ns.lt
    have N2 : News c.h₀ c.L h' ((s.heap.objs.size, listOf ys.toArray j) :: z.all) := fun p hp => (List.mem_cons.mp hp).elim (fun e => by rw [e]; exact ⟨hj, hL, hn⟩) (N' p)
    have hd : DenL z ((List.range (hi - 0).toNat).map fun (i : Nat) => SV.int false (0 + i)) ys := by
      have := den_ints (z := z) (lo := 0) ys (rangeInts 0 1 (hi - 0).toNat) hc
      unfold rangeInts at this
      rw [List.map_map] at this
      have e : (SV.int false ∘ fun (i : Nat) => (0 : Int) + (i : Nat) * 1) = fun (i : Nat) => SV.int false (0 + i) := by funext i; simp
      rw [e] at this; exact this
    obtain ⟨z₂, le₂, R₂, d₂⟩ := rep_new e ho rfl R F' N2 (fun p hp => Heap.lt_size (R.news p hp).1) fun z' k le' m' w' => .list m' w' (hd.mono le')
    exact hQ _ _ m h' tk le₂ R₂ d₂
  | _ => exact no_some e
theorem good_setOf {args : List SV} {vs : List Value} (e : apSet args σ = some (b, σ', o)) (ho : Owed S o) (R : Rep S en c z m σ s.heap) (dl : DenL z args vs)
    (hQ : ∀ w z' m' h' tk', z.Le z' → Rep S en c z' m' σ' h' → Den z' b w → Q w (Sh s h' tk')) : wpAny S.M c.A (call (.type "set") vs) Q E s := by
  cases args with
  | nil =>
    refine DenL.nil_el dl ?_
    refine newSet_N R.fr R.news fun h' led F' N' => ?_
    obtain ⟨z₂, le₂, R₂, d₂⟩ := rep_new (show alloc (.set false []) σ = some (b, σ', o) from e) ho rfl R F' N' (fun p hp => Heap.lt_size (R.news p hp).1) fun z' k le' m' w' => .set m' w' ⟨0, by
      have := setObjOf_fresh (knd := intKind S.prog S.w) led
      have e : (fun _ : Int => false) = fun k => decide (k ∈ ([] : List Int)) := by funext k; simp
      rw [← e]; exact this, Nat.le_refl _⟩
    exact hQ _ _ m h' s.toks le₂ R₂ d₂
  | cons => exact no_some e
end
theorem isTupTy_val {v : SV} (h : isTupTy v = true) : v = .val (.type "tuple") := by
  cases v with
  | val w => cases w with
    | type x => rw [of_decide_eq_true (show decide (x = "tuple") = true from h)]
    | _ => exact no_ft h
  | _ => exact no_ft h
theorem builtinFns : BuiltinFns S := by
  intro en c n k v args σ b σ' o e ho z m s vs Q E R dl hQ
  cases v with
  | builtin x =>
    unfold apBuiltin at e; dsimp only at e
    refine ite_el e (fun h e => ?_) fun e => ite_el e (fun h e => ?_) fun e => ite_el e (fun h e => ?_) fun e => no_some e
    · rw [h]; exact ap1_el e rfl dl fun a u e d => good_len k e ho R d hQ
    · rw [h]; exact ap1_el e rfl dl fun a u e d => good_sorted k e ho R d hQ
    · rw [h]
      unfold apIsinstance at e
      split at e
      · rename_i q ha
        refine arg2_el ha dl fun u v d d' => ?_
        refine isTrue_el e ?_; clear e; intro hv e
        rw [isTupTy_val hv] at d'
        exact Den.val_el d' (good_isinst e R d hQ)
      · exact no_some e
  | type x =>
    unfold apBuiltin at e; dsimp only at e
    refine ite_el e (fun h e => ?_) fun e => ite_el e (fun h e => ?_) fun e => ite_el e (fun h e => ?_) fun e => ite_el e (fun h e => ?_) fun e => no_some e
    · rw [h]; exact ap1_el e rfl dl fun a u e d => good_range e R d hQ
    · rw [h]; exact good_setOf e ho R dl hQ
    · rw [h]; exact ap1_el e rfl dl fun a u e d => good_tupleOf e ho R d hQ
    · rw [h]; exact ap1_el e rfl dl fun a u e d => good_listOf k e ho R d hQ
  | _ => exact no_some e
end
set_option tactic.hygienic true
open PySem PySem.W PySem.Calls PyProof.Rows PySem.SeqAt
section
variable {S : Fix} {en : En} {c : Cx} {n : Nat} {r : Rec} {z : Rz} {m : Str → Option Value} {σ : St}
theorem truth_ok {v : SV} {C b : Bool} (e : truth v = some (C, b)) {a : Value} (d : Den z v a) {A : Around} {Q : Bool → Shared → Prop} {E : Value → Shared → Prop} {s : Shared} (h : Q b s) : wpAny S.M A (truthy a) Q E s := by
  cases v with
  | none => exact Den.none_el d (truthy_none ((Prod.mk.inj (Option.some.inj e)).2 ▸ h))
  | bool c b' => exact Den.bool_el d (wpAny_truthy_bool ((Prod.mk.inj (Option.some.inj e)).2 ▸ h))
  | int c i =>
    refine Den.int_el d fun t => truthy_int ?_
    have : (i != 0) = b := by
      cases c with
      | true => rw [← (Prod.mk.inj (Option.some.inj e)).2, intEq_iff]; exact congrArg not (Bool.beq_eq_decide_eq i 0)
      | false => rw [← (Prod.mk.inj (Option.some.inj e)).2, decide_not]; exact congrArg not (Bool.beq_eq_decide_eq i 0)
    rw [this]; exact h
  | _ => exact no_some e
theorem decideB_ok {C b q : Bool} {σ' : St} {o : List Ob} (e : decideB C b σ = some (q, σ', o)) (ho : Owed S o) : b = q ∧ σ'.loc = σ.loc ∧ σ'.led = σ.led := by
  cases C with
  | true => obtain ⟨h1, rfl, _⟩ := ret_some e; exact ⟨h1, rfl, rfl⟩
  | false =>
    unfold decideB popBit at e
    dsimp only at e
    split at e
    · obtain ⟨rfl, rfl, rfl⟩ := of3 e
      exact ⟨ho (.eqB b _) (.head _), rfl, rfl⟩
    · exact no_some e
theorem eqA_ok {a b : SV} {C p : Bool} (h : eqA a b = some (C, p)) {u v : Value} (da : Den z a u) (db : Den z b v) (A : Around) (s : Shared) : EqAt A s u v p ∧ RcAt A s u v p := by
  cases a with
  | int c i => cases b with
    | int d j => rw [eqA_int h]; exact Den.int_el da fun t => Den.int_el db fun t' => ⟨.int_int _ _ _ _, .int_int _ _ _ _⟩
    | str j => rw [← (Prod.mk.inj (Option.some.inj h)).2]; exact Den.int_el da fun t => Den.str_el db fun t' => ⟨.int_str _ _ _ _, .int_str _ _ _ _⟩
    | _ => exact no_some h
  | str i => cases b with
    | int d j => rw [← (Prod.mk.inj (Option.some.inj h)).2]; exact Den.str_el da fun t => Den.int_el db fun t' => ⟨.str_int _ _ _ _, .str_int _ _ _ _⟩
    | str j => rw [eqA_str h]; exact Den.str_el da fun t => Den.str_el db fun t' => ⟨.str_str _ _ _ _, .str_str _ _ _ _⟩
    | _ => exact no_some h
  | _ => exact no_some h
theorem all_cons {p1 : Bool} {f : Nat → Bool} {n m : Nat} : ((List.range (min (n + 1) (m + 1))).all (fun j => match j with | 0 => p1 | j + 1 => f j) && (n + 1 == m + 1)) = (p1 && ((List.range (min n m)).all f && n == m)) := by
  have e2 : (n + 1 == m + 1) = (n == m) := by
    by_cases q : n = m <;> simp [q]
  rw [Nat.succ_min_succ, e2, List.range_succ_eq_map, List.all_cons, List.all_map, Bool.and_assoc]
  rfl
theorem eqL_ok {A : Around} {s : Shared} : ∀ {l m : List SV} {C p : Bool}, eqL l m = some (C, p) → ∀ {us vs : List Value}, DenL z l us → DenL z m vs →
    ∃ e : Nat → Bool, (∀ j (h1 : j < us.length) (h2 : j < vs.length), EqAt A s us[j] vs[j] (e j)) ∧ ((List.range (min us.length vs.length)).all e && us.length == vs.length) = p := by
  intro l
  induction l with
  | nil =>
    intro m C p h us vs d1 d2
    refine DenL.nil_el d1 ⟨fun _ => true, fun j h1 => absurd h1 (Nat.not_lt_zero j), ?_⟩
    cases m with
    | nil => exact DenL.nil_el d2 (Prod.mk.inj (Option.some.inj h)).2
    | cons => exact DenL.cons_el d2 fun u us _ _ => by rw [← (Prod.mk.inj (Option.some.inj h)).2]; simp
  | cons a l ih =>
    intro m C p h us vs d1 d2
    refine DenL.cons_el d1 fun u us da la => ?_
    cases m with
    | nil => exact DenL.nil_el d2 ⟨fun _ => true, fun j _ h1 => absurd h1 (Nat.not_lt_zero j), by rw [← (Prod.mk.inj (Option.some.inj h)).2]; simp⟩
    | cons b m =>
      refine DenL.cons_el d2 fun v vs db lb => ?_
      obtain ⟨c1, p1, c2, p2, h1, h2, h3⟩ := eqL_cons h
      obtain ⟨f, hf, hp⟩ := ih h2 la lb
      refine ⟨fun j => match j with | 0 => p1 | j + 1 => f j, fun j h1' h2' => ?_, ?_⟩
      · cases j with
        | zero => exact (eqA_ok h1 da db A s).1
        | succ j => exact hf j (Nat.lt_of_succ_lt_succ h1') (Nat.lt_of_succ_lt_succ h2')
      · rw [h3, ← hp]; exact all_cons
theorem eqV_ok {a b : SV} {C p : Bool} (h : eqV a b = some (C, p)) {u v : Value} (da : Den z a u) (db : Den z b v) {A : Around} {s : Shared} (R : Rep S en c z m σ s.heap) (hu : A.units < cLine) :
    RcAt A s u v p ∧ (∀ l m, a = .tup l → b = .tup m → RcNeAt A s u v (!p)) := by
  have atm : eqA a b = some (C, p) → (∀ l m, a = .tup l → b = .tup m → False) → RcAt A s u v p ∧ (∀ l m, a = .tup l → b = .tup m → RcNeAt A s u v (!p)) := fun h hn => ⟨(eqA_ok h da db A s).2, fun l m e1 e2 => (hn l m e1 e2).elim⟩
  cases a with
  | tup l => cases b with
    | tup m =>
      refine Den.tup_el da fun x us m1 o1 la => Den.tup_el db fun y vs m2 o2 lb => ?_
      obtain ⟨e, he, hp⟩ := eqL_ok (A := A.in1) (s := s) h la lb
      have h1 : s.heap.IsTuple x us.toArray := ⟨_, (R.news _ m1).1, rfl, _, rfl⟩
      have h2 : s.heap.IsTuple y vs.toArray := ⟨_, (R.news _ m2).1, rfl, _, rfl⟩
      have he' : ∀ j (h1 : j < us.toArray.size) (h2 : j < vs.toArray.size), EqAt A.in1 s us.toArray[j] vs.toArray[j] (e j) := fun j h1 h2 => by
        simpa using he j (by simpa using h1) (by simpa using h2)
      have e1 := RcAt.tuples (e := e) h1 h2 hu he'
      have e2 := RcNeAt.tuples (e := e) h1 h2 hu he'
      simp only [List.size_toArray] at e1 e2
      rw [hp] at e1 e2
      exact ⟨e1, fun _ _ _ _ => e2⟩
    | _ => exact atm h fun l m _ e => nomatch e
  | _ => exact atm h fun l m e _ => nomatch e
section
variable {σ' : St} {o : List Ob} {s : Shared} {Q : Value → Shared → Prop} {E : Value → Shared → Prop} {a b q : SV} {u v : Value}
theorem retC {a : SV} (e : ret a σ = some (q, σ', o)) (hQ : ∀ w tk, Rep S en c z m σ' s.heap → Den z q w → Q w (Sh s s.heap tk)) : ∀ w tk, Rep S en c z m σ s.heap → Den z a w → Q w (Sh s s.heap tk) := by
  obtain ⟨rfl, rfl, _⟩ := ret_some e
  exact hQ
theorem good_cmpEq (k : c.Ok S (n + 1)) (e : cmpEq a b σ = some (q, σ', o)) (R : Rep S en c z m σ s.heap) (da : Den z a u) (db : Den z b v) (hQ : ∀ w tk, Rep S en c z m σ' s.heap → Den z q w → Q w (Sh s s.heap tk)) :
    wpAny S.M c.A (compareOp .Eq u v) Q E s := by
  unfold cmpEq at e
  split at e
  · rename_i r hp
    exact (eqV_ok hp da db R (Nat.lt_of_le_of_lt (Nat.le_add_right _ _) k.units)).1 S.prog S.w E Q (retC e hQ _ s.toks R (.bool _ _))
  · exact no_some e
theorem neA {C p : Bool} (hp : eqA a b = some (C, p)) (da : Den z a u) (db : Den z b v) {A : Around} (fin : Q (.bool (!p)) s) : wpAny S.M A (compareOp .NotEq u v) Q E s := by
  cases a with
  | int c i => cases b with
    | int d j => rw [eqA_int hp] at fin; exact Den.int_el da fun t => Den.int_el db fun t' => ne_int fin
    | str j => rw [← (Prod.mk.inj (Option.some.inj hp)).2] at fin; exact Den.int_el da fun t => Den.str_el db fun t' => PySem.EqMixed.ne_int_str fin
    | _ => exact no_some hp
  | str i => cases b with
    | int d j => rw [← (Prod.mk.inj (Option.some.inj hp)).2] at fin; exact Den.str_el da fun t => Den.int_el db fun t' => PySem.EqMixed.ne_str_int fin
    | str j => rw [eqA_str hp] at fin; exact Den.str_el da fun t => Den.str_el db fun t' => ne_str fin
    | _ => exact no_some hp
  | _ => exact no_some hp
theorem good_cmpNe (k : c.Ok S (n + 1)) (e : cmpNe a b σ = some (q, σ', o)) (R : Rep S en c z m σ s.heap) (da : Den z a u) (db : Den z b v) (hQ : ∀ w tk, Rep S en c z m σ' s.heap → Den z q w → Q w (Sh s s.heap tk)) :
    wpAny S.M c.A (compareOp .NotEq u v) Q E s := by
  unfold cmpNe at e
  split at e
  · rename_i r hp
    have fin := retC e hQ _ s.toks R (.bool r.1 (!r.2))
    clear hQ e
    have atm : eqA a b = some (r.1, r.2) → wpAny S.M c.A (compareOp .NotEq u v) Q E s := fun hp => neA hp da db fin
    have tup : ∀ l m, a = .tup l → b = .tup m → wpAny S.M c.A (compareOp .NotEq u v) Q E s := fun l m h1 h2 => (eqV_ok hp da db R (Nat.lt_of_le_of_lt (Nat.le_add_right _ _) k.units)).2 l m h1 h2 S.prog S.w E Q fin
    clear da db fin
    cases a with
    | tup l => cases b with
      | tup l' => exact tup _ _ rfl rfl
      | _ => exact atm hp
    | _ => exact atm hp
  · exact no_some e
theorem good_cmpInt {f p : Int → Int → Bool} (hf : ∀ i j, f i j = p i j) {op : CmpOp} {A : Around} (rule : ∀ i j t t', Q (.bool (p i j)) s → wpAny S.M A (compareOp op (.int i t) (.int j t')) Q E s) (e : cmpInt f p a b σ = some (q, σ', o)) (R : Rep S en c z m σ s.heap) (da : Den z a u) (db : Den z b v)
    (hQ : ∀ w tk, Rep S en c z m σ' s.heap → Den z q w → Q w (Sh s s.heap tk)) : wpAny S.M A (compareOp op u v) Q E s := by
  cases a with
  | int c i => cases b with
    | int d j =>
      refine Den.int_el da fun t => Den.int_el db fun t' => rule i j t t' ?_
      unfold cmpInt at e; dsimp only at e
      rw [cInt_eq (hf i j)] at e
      exact retC e hQ _ s.toks R (.bool _ _)
    | _ => exact no_some e
  | _ => exact no_some e
theorem good_cmpIs {A : Around} (e : cmpIs a b σ = some (q, σ', o)) (R : Rep S en c z m σ s.heap) (da : Den z a u) (db : Den z b v) (hQ : ∀ w tk, Rep S en c z m σ' s.heap → Den z q w → Q w (Sh s s.heap tk)) :
    wpAny S.M A (compareOp .Is u v) Q E s := by
  cases b with
  | none =>
    refine Den.none_el db ?_
    cases a with
    | none => exact Den.none_el da (is_none_none (retC e hQ _ s.toks R (.bool _ _)))
    | ref t => exact Den.ref_el da fun _ => is_none_ne (fun q => Value.noConfusion q) (retC e hQ _ s.toks R (.bool _ _))
    | _ => exact no_some e
  | _ => exact no_some e
theorem setHas_ok {l : List Int} {kv : SV} {r : Bool} (e : setHas l kv σ = some (r, σ', o)) (ho : Owed S o) : ∃ C i, kv = .int C i ∧ (l.length : Int) ≤ 999 ∧ decide (i ∈ l) = r ∧ σ'.loc = σ.loc ∧ σ'.led = σ.led := by
  unfold setHas at e
  refine owe_el e ho ?_; clear e ho; intro o2 hb e ho
  split at e
  · rename_i C i
    split at e
    · obtain ⟨rfl, rfl, rfl⟩ := of3 e
      exact ⟨C, i, rfl, hb, ho (.has l i _) (.head _), rfl, rfl⟩
    · exact no_some e
  · exact no_some e
theorem good_inOn (k : c.Ok S (n + 1)) {ob : SO} {r : Bool} {t : Nat} {i : Int} (e : inOn ob a σ = some (r, σ', o)) (ho : Owed S o) (R : Rep S en c z m σ s.heap) (da : Den z a u) (hat : At S z (t, i) ob (z.ad t i)) :
    (σ'.loc = σ.loc ∧ σ'.led = σ.led) ∧ ∀ (Q : Value → Shared → Prop), ((∀ tk, Q (.bool r) (Sh s s.heap tk)) → wpAny S.M c.A (compareOp .In u (.ref (z.ad t i))) Q E s) ∧ ((∀ tk, Q (.bool (!r)) (Sh s s.heap tk)) → wpAny S.M c.A (compareOp .NotIn u (.ref (z.ad t i))) Q E s) := by
  cases ob with
  | dict C dd =>
    refine hat.dict_el fun ob m1 w1 hd => ?_
    unfold inOn at e; dsimp only at e
    refine andThen_el e ho ?_; clear e ho; intro rr σ₂ o3 o4 e2 he2 e ho
    obtain ⟨g1, g2, g3, g4, g5⟩ := dictGet_ok e2 he2 hd
    obtain ⟨h1, h2, _⟩ := ret_some e
    rw [← h1, ← h2, ← g3]
    exact ⟨⟨g4, g5⟩, fun Q => ⟨fun h => dict_in k R m1 hd g2 g1 da h, fun h => dict_notIn k R m1 hd g2 g1 da h⟩⟩
  | set C l =>
    refine hat.set_el fun ob m1 w1 hs => ?_
    obtain ⟨C', i', rfl, hb, hm, g4, g5⟩ := setHas_ok e ho
    obtain ⟨nn, hso, hnn⟩ := hs
    have hlt : nn < 4096 := by omega
    rw [← hm]
    refine ⟨⟨g4, g5⟩, fun Q => ⟨fun h => ?_, fun h => ?_⟩⟩
    · exact Den.int_el da fun t => wpAny_inSet_of (knd := intKind S.prog S.w) (intKind_is _ _ _ _) rfl (hso.setOf (R.news _ m1).1 hlt) (h _)
    · exact Den.int_el da fun t => wpAny_notInSet_of (knd := intKind S.prog S.w) (intKind_is _ _ _ _) rfl (hso.setOf (R.news _ m1).1 hlt) (h _)
  | _ => exact no_some e
theorem good_cmpIn (k : c.Ok S (n + 1)) (e : cmpIn a b σ = some (q, σ', o)) (ho : Owed S o) (R : Rep S en c z m σ s.heap) (da : Den z a u) (db : Den z b v) (hQ : ∀ w tk, Rep S en c z m σ' s.heap → Den z q w → Q w (Sh s s.heap tk)) :
    wpAny S.M c.A (compareOp .In u v) Q E s := by
  unfold cmpIn at e
  refine obj_el e ho memH R db ?_; clear e ho db; intro ob t i o1 o2 e1 hk ht hat hsm e ho
  refine andThen_el e ho ?_; clear e ho; intro r σ₂ o3 o4 e2 he2 e ho
  obtain ⟨g, h⟩ := good_inOn k e2 he2 R da hat
  exact (h Q).1 fun tk => retC e hQ _ tk (R.same g.1 g.2) (.bool _ _)
theorem good_cmpNotIn (k : c.Ok S (n + 1)) (e : cmpNotIn a b σ = some (q, σ', o)) (ho : Owed S o) (R : Rep S en c z m σ s.heap) (da : Den z a u) (db : Den z b v) (hQ : ∀ w tk, Rep S en c z m σ' s.heap → Den z q w → Q w (Sh s s.heap tk)) :
    wpAny S.M c.A (compareOp .NotIn u v) Q E s := by
  unfold cmpNotIn at e
  refine obj_el e ho memH R db ?_; clear e ho db; intro ob t i o1 o2 e1 hk ht hat hsm e ho
  refine andThen_el e ho ?_; clear e ho; intro r σ₂ o3 o4 e2 he2 e ho
  obtain ⟨g, h⟩ := good_inOn k e2 he2 R da hat
  exact (h Q).2 fun tk => retC e hQ _ tk (R.same g.1 g.2) (.bool _ _)
theorem good_compare (k : c.Ok S (n + 1)) {op : CmpOp} (e : compare op a b σ = some (q, σ', o)) (ho : Owed S o) (R : Rep S en c z m σ s.heap) (da : Den z a u) (db : Den z b v) (hQ : ∀ w tk, Rep S en c z m σ' s.heap → Den z q w → Q w (Sh s s.heap tk)) :
    wpAny S.M c.A (compareOp op u v) Q E s := by
  cases op with
  | Eq => exact good_cmpEq k e R da db hQ
  | NotEq => exact good_cmpNe k e R da db hQ
  | Lt => exact good_cmpInt intLt_dec (fun i j t t' h => lt_int h) e R da db hQ
  | Gt => exact good_cmpInt (fun i j => intLt_dec j i) (fun i j t t' h => gt_int h) e R da db hQ
  | LtE => exact good_cmpInt (fun i j => by rw [intLt_dec, ← decide_not]; exact decide_eq_decide.mpr Int.not_lt) (fun i j t t' h => le_int h) e R da db hQ
  | GtE => exact good_cmpInt (fun i j => by rw [intLt_dec, ← decide_not]; exact decide_eq_decide.mpr Int.not_lt) (fun i j t t' h => ge_int h) e R da db hQ
  | Is => exact good_cmpIs e R da db hQ
  | In => exact good_cmpIn k e ho R da db hQ
  | NotIn => exact good_cmpNotIn k e ho R da db hQ
  | _ => exact no_some e
end
end
set_option tactic.hygienic true
open PySem PySem.W PySem.Calls PyProof.Rows PySem.SeqAt
section
variable {S : Fix} {en : En} {c : Cx} {n : Nat} {r : Rec} {z : Rz} {m : Str → Option Value} {σ : St}
theorem small_division {a b : Int} (h1 : 1 ≤ b) (h2 : b ≤ 999) : Builtin.divisionGoesByPylong a b = false := by
  unfold Builtin.divisionGoesByPylong
  have hb : ¬ b = 0 := by omega
  have : b.natAbs.log2 < 10 := (Nat.log2_lt (by omega)).mpr (by omega)
  simp only [beq_iff_eq, hb, if_false, gt_iff_lt, Bool.and_eq_false_imp, decide_eq_true_eq]
  intro q
  have : b.natAbs.log2 / 30 = 0 := Nat.div_eq_of_lt (by omega)
  omega
theorem small_mul {a b : Int} (h1 : 0 ≤ a) (h2 : a ≤ 999) : IntMulOk a b := by
  refine IntMulOk.of_left ?_
  unfold Builtin.Int.intBits
  by_cases q : a = 0
  · subst q; decide
  · have : a.natAbs.log2 < 10 := (Nat.log2_lt (by omega)).mpr (by omega)
    simp only [q, beq_iff_eq, if_false]
    omega
section
variable {σ' : St} {o : List Ob} {s : Shared} {Q : Value → Shared → Prop} {E : Value → Shared → Prop} {a b q : SV} {u v : Value}
theorem retD {a : SV} (e : ret a σ = some (q, σ', o)) (hQ : ∀ w z' h' tk, z.Le z' → Rep S en c z' m σ' h' → Den z' q w → Q w (Sh s h' tk)) : ∀ w z' h' tk, z.Le z' → Rep S en c z' m σ h' → Den z' a w → Q w (Sh s h' tk) := by
  obtain ⟨rfl, rfl, _⟩ := ret_some e
  exact hQ
theorem good_arithInt (k : c.Ok S (n + 1)) {op : Operator} {C D : Bool} {i j : Int} {t t' : Tok} (e : arithInt op C i D j σ = some (q, σ', o)) (ho : Owed S o) (R : Rep S en c z m σ s.heap)
    (hQ : ∀ w z' h' tk, z.Le z' → Rep S en c z' m σ' h' → Den z' q w → Q w (Sh s h' tk)) : wpAny S.M c.A (binaryOp op (.int i t) (.int j t')) Q E s := by
  cases op with
  | Add => exact add_int (retD e hQ _ z s.heap _ (.refl z) R (.int _ _ _))
  | Sub => exact sub_int (retD e hQ _ z s.heap _ (.refl z) R (.int _ _ _))
  | Mod =>
    unfold arithInt at e; dsimp only at e
    refine owe_el e ho ?_; clear e ho; intro o2 hj e ho
    have hj : (1 : Int) ≤ j := hj
    exact mod_int_or k.hd (fun h => absurd h (Int.ne_of_gt hj)) fun _ => retD e hQ _ z s.heap _ (.refl z) R (.int _ _ _)
  | FloorDiv =>
    unfold arithInt at e; dsimp only at e
    refine owe_el e ho ?_; clear e ho; intro o2 hj e ho
    refine owe_el e ho ?_; clear e ho; intro o4 hj2 e ho
    have hj : (1 : Int) ≤ j := hj
    exact floordiv_int_or k.hd (fun h => absurd h (Int.ne_of_gt hj)) (fun _ => retD e hQ _ z s.heap _ (.refl z) R (.int _ _ _)) fun _ => .inl (small_division hj hj2)
  | Mult =>
    unfold arithInt at e; dsimp only at e
    refine owe_el e ho ?_; clear e ho; intro o2 hi e ho
    refine owe_el e ho ?_; clear e ho; intro o4 hi2 e ho
    exact PyProof.Rows.mul_int (retD e hQ _ z s.heap _ (.refl z) R (.int _ _ _)) (small_mul hi hi2)
  | _ => exact no_some e
theorem isAdd_eq {op : Operator} (h : isAdd op = true) : op = .Add := by
  cases op with
  | Add => rfl
  | _ => exact no_ft h
theorem good_addLists (k : c.Ok S (n + 1)) (e : addLists a b σ = some (q, σ', o)) (ho : Owed S o) (R : Rep S en c z m σ s.heap) (da : Den z a u) (db : Den z b v)
    (hQ : ∀ w z' h' tk, z.Le z' → Rep S en c z' m σ' h' → Den z' q w → Q w (Sh s h' tk)) : wpAny S.M c.A (binaryOp .Add u v) Q E s := by
  unfold addLists at e
  refine obj_el e ho memH R da ?_; clear e ho da; intro qa ta ia o1 o2 ea hka hta hata hsma e ho
  refine obj_el e ho memH R db ?_; clear e ho db; intro qb tb ib o3 o4 eb hkb htb hatb hsmb e ho
  clear ea hka hta hsma eb hkb htb hsmb
  cases qa with
  | list C l => cases qb with
    | list D mm =>
      refine hata.list_el fun vs j m1 w1 d1 => hatb.list_el fun ws i m2 w2 d2 => ?_
      unfold joinLists at e; dsimp only at e
      refine andThen_el e ho ?_; clear e ho; intro _ σ₁ o1 o2 e1 he1 e ho
      obtain ⟨hl, rfl⟩ := lenOk_ok e1 he1
      refine add_lists R.fr R.news ⟨_, (R.news _ m1).1, rfl, _, rfl⟩ ⟨_, (R.news _ m2).1, rfl, _, rfl⟩ (fun h' F' N' => ?_) (by rw [← d1.length, ← d2.length, sizeLine_eq]; omega)
      obtain ⟨z₂, le₂, R₂, d₂⟩ := rep_new e ho rfl R F' N' (fun p hp => Heap.lt_size (R.news p hp).1) fun z' k le' m' w' => .list m' w' ((d1.append d2).mono le')
      exact hQ _ _ h' s.toks le₂ R₂ d₂
    | _ => exact no_some e
  | _ => exact no_some e
theorem good_arith (k : c.Ok S (n + 1)) {op : Operator} (e : arith op a b σ = some (q, σ', o)) (ho : Owed S o) (R : Rep S en c z m σ s.heap) (da : Den z a u) (db : Den z b v)
    (hQ : ∀ w z' h' tk, z.Le z' → Rep S en c z' m σ' h' → Den z' q w → Q w (Sh s h' tk)) : wpAny S.M c.A (binaryOp op u v) Q E s := by
  have lists : (andThen (isTrue! (isAdd op) σ) fun _ σ => addLists a b σ) = some (q, σ', o) → wpAny S.M c.A (binaryOp op u v) Q E s := fun e =>
    isTrue_el e fun h e => by rw [isAdd_eq h]; exact good_addLists k e ho R da db hQ
  cases a with
  | int C i => cases b with
    | int D j => exact Den.int_el da fun t => Den.int_el db fun t' => good_arithInt k e ho R hQ
    | _ => exact no_some e
  | str x => cases b with
    | str y =>
      unfold arith at e; dsimp only at e
      refine isTrue_el e ?_; clear e lists; intro h e
      rw [isAdd_eq h]
      unfold addStrs at e
      refine isTrue_el e ?_; clear e; intro hb e
      refine Den.str_el da fun t => Den.str_el db fun t' => add_str (fun t tk => retD e hQ _ z s.heap tk (.refl z) R (.str _ _)) ?_
      rw [sizeLine_eq]
      have : x.cps.size + y.cps.size < 1000 := Nat.le_of_ble_eq_true hb
      show x.cps.size + y.cps.size ≤ _
      omega
    | _ => exact no_some e
  | _ => exact lists e
end
theorem sub_plain {i : Expr} (hi : ∀ a b d p, i ≠ .Slice a b d p) (o w : Value) : subscripted i false o w = operate [o, w] (getItem o w) := by
  cases i <;> first | rfl | exact absurd rfl (hi _ _ _ _)
theorem nthV_get : ∀ {l : List SV} {n : Nat} {v : SV}, nthV l n = some v → l[n]? = some v
  | [], n, v, h => by cases n <;> cases h
  | a :: l, 0, v, h => by cases h; rfl
  | a :: l, n + 1, v, h => by simp only [nthV] at h; simpa using nthV_get h
theorem DenL.get : ∀ {l : List SV} {vs : List Value}, DenL z l vs → ∀ {n : Nat} {v : SV}, l[n]? = some v → ∃ u, vs[n]? = some u ∧ Den z v u
  | _, _, .nil, n, v, h => by simp at h
  | _, _, .cons d r, 0, v, h => by simp at h; subst h; exact ⟨_, rfl, d⟩
  | _, _, .cons d r, n + 1, v, h => by simp at h; simpa using r.get h
theorem toNat_ofNat (n : Nat) : (Int.ofNat n).toNat = n := rfl
theorem natOf_some {e : Bool} {k : Int} {n : Nat} (h : natOf e k = some n) : k = Int.ofNat n := by
  cases e with
  | true => cases k with
    | ofNat m => rw [Option.some.inj h]
    | negSucc m => exact no_some h
  | false => exact no_some h
section
variable {σ' : St} {ob : List Ob} {s : Shared} {Q : Value → Shared → Prop} {E : Value → Shared → Prop} {ov iv q : SV} {u v : Value} {value i : Expr}
theorem optC {x : Option SV} (e : opt x σ = some (q, σ', ob)) (hQ : ∀ w tk, Rep S en c z m σ' s.heap → Den z q w → Q w (Sh s s.heap tk)) : x = some q ∧ ∀ w tk, Rep S en c z m σ s.heap → Den z q w → Q w (Sh s s.heap tk) := by
  obtain ⟨h, rfl, _⟩ := opt_some e
  exact ⟨h, hQ⟩
theorem good_itemTup {l : List SV} {A : Around} (e : itemTup l iv σ = some (q, σ', ob)) (hi : ∀ a b d p, i ≠ .Slice a b d p) (R : Rep S en c z m σ s.heap) (da : Den z (.tup l) u) (db : Den z iv v)
    (hQ : ∀ w tk, Rep S en c z m σ' s.heap → Den z q w → Q w (Sh s s.heap tk)) : wpAny S.M A (subscriptTail (.Name (Str.ofString "_") ⟨0, 0, 0, 0⟩) i u v) Q E s := by
  unfold itemTup at e
  split at e
  · rename_i C kk
    split at e
    · rename_i nn hn
      rw [natOf_some hn] at db
      unfold itemAt at e
      refine isTrue_el e ?_; clear e; intro hb e
      obtain ⟨e1, hQ⟩ := optC e hQ
      refine Den.tup_el da fun a vs m1 o1 dl => Den.int_el db fun tk0 => ?_
      obtain ⟨x, hx, dx⟩ := dl.get (nthV_get e1)
      have hlt : nn < vs.length := (List.getElem?_eq_some_iff.mp hx).1
      have hn : nn < 1000 := Nat.le_of_ble_eq_true hb
      have hk : seqIndex? (Int.ofNat nn) vs.length = some nn := by
        unfold seqIndex?
        simp
        omega
      exact item_tupleT (j := nn) (x := x) (R.news.isTup m1) (by have h2 : (0 : Int) ≤ Int.ofNat nn := Int.natCast_nonneg nn; omega) (by show (nn : Int) < _; omega) hk hx (hQ x s.toks R dx) (sub_plain hi _ _)
    · exact no_some e
  · exact no_some e
theorem good_itemList {C : Bool} {l : List SV} {A : Around} {a : Addr} {vs : List Value} {j : Nat} (e : itemList C l iv σ = some (q, σ', ob)) (ho : Owed S ob) (hi : ∀ a b d p, i ≠ .Slice a b d p) (R : Rep S en c z m σ s.heap) (m1 : (a, listOf vs.toArray j) ∈ z.all) (dl : DenL z l vs) (db : Den z iv v)
    (hQ : ∀ w tk, Rep S en c z m σ' s.heap → Den z q w → Q w (Sh s s.heap tk)) : wpAny S.M A (subscriptTail (.Name (Str.ofString "_") ⟨0, 0, 0, 0⟩) i (.ref a) v) Q E s := by
  unfold itemList at e
  split at e
  · rename_i e' kk
    split at e
    · rename_i nn hn
      rw [natOf_some hn] at db
      unfold itemAt at e
      refine isTrue_el e ?_; clear e; intro hb e
      obtain ⟨e1, hQ⟩ := optC e hQ
      have hn : nn < 1000 := Nat.le_of_ble_eq_true hb
      obtain ⟨x, hx, dx⟩ := dl.get (nthV_get e1)
      exact Den.int_el db fun tk0 => item_listL (x := x) ⟨_, (R.news _ m1).1, rfl, _, rfl⟩ (Int.natCast_nonneg nn) (by show (nn : Int) < _; omega) hx (hQ x s.toks R dx) (sub_plain hi _ _)
    · unfold popItem at e
      split at e
      · rename_i w oc horc
        refine andThen_el e ho ?_; clear e ho; intro _ σ₂ o3 o4 e3 he3 e ho
        obtain ⟨rfl, rfl, rfl⟩ := of3 e3
        refine owe_el e ho ?_; clear e ho; intro o6 h2 e ho
        have h1 : 0 ≤ kk ∧ l[kk.toNat]? = some w := he3 (.item l kk w) (.head _)
        have h2 : kk ≤ 999 := h2
        obtain ⟨x, hx, dx⟩ := dl.get h1.2
        exact Den.int_el db fun tk0 => item_listL (x := x) ⟨_, (R.news _ m1).1, rfl, _, rfl⟩ h1.1 (by omega) hx (retC e hQ x s.toks (R.same rfl rfl) dx) (sub_plain hi _ _)
      · exact no_some e
  · exact no_some e
theorem good_itemDict (k : c.Ok S (n + 1)) {C : Bool} {d : List (SV × SV)} {a : Addr} {oo : Obj} (e : itemDict C d iv σ = some (q, σ', ob)) (ho : Owed S ob) (hi : ∀ a b d p, i ≠ .Slice a b d p) (R : Rep S en c z m σ s.heap) (m1 : (a, oo) ∈ z.all) (hd : DictR S z d oo) (db : Den z iv v)
    (hQ : ∀ w tk, Rep S en c z m σ' s.heap → Den z q w → Q w (Sh s s.heap tk)) : wpAny S.M c.A (subscriptTail (.Name (Str.ofString "_") ⟨0, 0, 0, 0⟩) i (.ref a) v) Q E s := by
  unfold itemDict at e
  refine andThen_el e ho ?_; clear e ho; intro rr σ₂ o3 o4 e2 he2 e ho
  obtain ⟨g1, g2, g3, g4, g5⟩ := dictGet_ok e2 he2 hd
  obtain ⟨e1, hQ⟩ := optC e hQ
  rw [e1] at g3
  exact subscriptTail_builtin (dict_typeIs R m1 hd) slot_dict_getitem.lookup (dict_getItem k R m1 hd g2 g1 db g3 fun w tk dw => hQ w tk (R.same g4 g5) dw) (sub_plain hi _ _)
theorem good_item (k : c.Ok S (n + 1)) (e : item ov iv σ = some (q, σ', ob)) (ho : Owed S ob) (hi : ∀ a b d p, i ≠ .Slice a b d p)
    (R : Rep S en c z m σ s.heap) (da : Den z ov u) (db : Den z iv v) (hQ : ∀ w tk, Rep S en c z m σ' s.heap → Den z q w → Q w (Sh s s.heap tk)) : wpAny S.M c.A (subscriptTail value i u v) Q E s := by
  refine kba_turn (value' := .Name (Str.ofString "_") ⟨0, 0, 0, 0⟩) (fun _ => rfl) ?_
  have obj : (andThen (objOf ov σ) fun ob σ => itemOn ob iv σ) = some (q, σ', ob) → wpAny S.M c.A (subscriptTail (.Name (Str.ofString "_") ⟨0, 0, 0, 0⟩) i u v) Q E s := by
    clear e; intro e
    refine obj_el e ho memH R da ?_; clear e ho da; intro oo t ii o1 o2 e1 hk ht hat hsm e ho
    cases oo with
    | list C l => exact hat.list_el fun vs j m1 w1 dl => good_itemList e ho hi R m1 dl db hQ
    | dict C dd => exact hat.dict_el fun ob m1 w1 hd => good_itemDict k e ho hi R m1 hd db hQ
    | fdict dd ep => exact hat.fdict_el fun ob m1 w1 hA => good_itemDict k e ho hi R m1 (.inl ⟨_, hA⟩) db hQ
    | _ => exact no_some e
  cases ov with
  | tup l => exact good_itemTup e hi R da db hQ
  | _ => exact obj e
end
theorem dropV_eq : ∀ (n : Nat) (l : List SV), dropV n l = l.drop n
  | 0, l => rfl
  | n + 1, [] => by simp [dropV]
  | n + 1, _ :: l => by simp [dropV, dropV_eq n l]
theorem DenL.drop : ∀ {l : List SV} {vs : List Value}, DenL z l vs → ∀ n, DenL z (l.drop n) (vs.drop n)
  | _, _, h, 0 => h
  | _, _, .nil, _ + 1 => .nil
  | _, _, .cons _ r, n + 1 => r.drop n
theorem DenL.take : ∀ {l : List SV} {vs : List Value}, DenL z l vs → ∀ n, DenL z (l.take n) (vs.take n)
  | _, _, _, 0 => .nil
  | _, _, .nil, _ + 1 => .nil
  | _, _, .cons d r, n + 1 => .cons d (r.take n)
section
variable {σ' : St} {ob : List Ob} {s : Shared} {Q : Value → Shared → Prop} {E : Value → Shared → Prop} {ov hv q : SV} {u v : Value} {value hx : Expr} {p : Pos} {A : Around}
theorem good_sliceTo (e : sliceTo ov hv σ = some (q, σ', ob)) (ho : Owed S ob) (R : Rep S en c z m σ s.heap) (da : Den z ov u) (db : Den z hv v) (hQ : ∀ w z' h' tk, z.Le z' → Rep S en c z' m σ' h' → Den z' q w → Q w (Sh s h' tk)) :
    wpAny S.M A (subscriptTail value (.Slice none (some hx) none p) u (.ref s.heap.objs.size)) Q E { s with heap := s.heap.push { cls := .type "slice", data := .fields #[.none, v, .none] } } := by
  refine kba_turn (value' := .Name (Str.ofString "_") ⟨0, 0, 0, 0⟩) (fun _ => rfl) ?_
  cases hv with
  | int C kk =>
    refine Den.int_el db fun tk0 => ?_
    unfold sliceTo at e; dsimp only at e
    refine obj_el e ho memH R da ?_; clear e ho da db; intro oo t ii o1 o2 e1 hk ht hat hsm e ho
    cases oo with
    | list C l =>
      refine hat.list_el fun vs j m1 w1 dl => ?_
      unfold sliceToOn at e; dsimp only at e
      refine owe_el e ho ?_; clear e ho; intro o4 h1 e ho
      refine owe_el e ho ?_; clear e ho; intro o6 h2 e ho
      have h1 : (l.length : Int) ≤ 16777216 := h1
      refine slice_list (lo := none) (hi := some kk) R.fr R.news ⟨_, (R.news _ m1).1, rfl, _, rfl⟩ .none (.int _ _) (fun h' F' N' => ?_) (hsz := by rw [List.size_toArray, ← dl.length, sizeLine_eq]; omega)
      rw [show kk = (kk.toNat : Int) from (Int.toNat_of_nonneg h2).symm, slicePick_upto'] at N'
      obtain ⟨z₂, le₂, R₂, d₂⟩ := rep_new e ho rfl R F' N' (fun p hp => Nat.lt_succ_of_lt (Heap.lt_size (R.news p hp).1)) fun z' k le' m' w' => .list m' w' ((dl.take kk.toNat).mono le')
      exact hQ _ _ h' s.toks le₂ R₂ d₂
    | _ => exact no_some e
  | _ => exact no_some e
theorem good_sliceTup {l : List SV} {C : Bool} {kk : Int} {tk0 : Tok} (e : sliceTup l C kk σ = some (q, σ', ob)) (R : Rep S en c z m σ s.heap) (da : Den z (.tup l) u) (hQ : ∀ w z' h' tk, z.Le z' → Rep S en c z' m σ' h' → Den z' q w → Q w (Sh s h' tk)) :
    wpAny S.M A (subscriptTail (.Name (Str.ofString "_") ⟨0, 0, 0, 0⟩) (.Slice (some hx) none none p) u (.ref s.heap.objs.size)) Q E { s with heap := s.heap.push { cls := .type "slice", data := .fields #[.int kk tk0, .none, .none] } } := by
  unfold sliceTup at e
  split at e
  · rename_i nn hn
    rw [natOf_some hn]
    refine isTrue_el e ?_; clear e; intro hb e
    obtain ⟨hb1, hb2⟩ := Bool.and_eq_true_iff.mp hb
    obtain ⟨hb0, hb1⟩ := Bool.and_eq_true_iff.mp hb1
    have h0 : 1 ≤ nn := Nat.le_of_ble_eq_true hb0
    have h1 : nn ≤ l.length := Nat.le_of_ble_eq_true hb1
    have h2 : l.length < 1000 := Nat.le_of_ble_eq_true hb2
    refine Den.tup_el da fun a vs m1 o1 dl => ?_
    refine slice_tuple_from (a := nn) R.fr R.news (R.news.isTup m1) h0 (by rw [List.size_toArray, ← dl.length]; exact h1) (fun h' F' N' => ?_) (hsz := by rw [List.size_toArray, ← dl.length, sizeLine_eq]; omega)
    rw [List.toList_toArray] at N'
    have dd := dl.drop nn
    rw [← dropV_eq] at dd
    obtain ⟨R₂, d₂⟩ := rep_tuple R F' N' (fun p hp => Nat.lt_succ_of_lt (Heap.lt_size (R.news p hp).1)) dd
    exact retD e hQ _ _ h' s.toks (z.pool_le _ _) R₂ d₂
  · exact no_some e
theorem good_sliceFrom (e : sliceFrom ov hv σ = some (q, σ', ob)) (ho : Owed S ob) (R : Rep S en c z m σ s.heap) (da : Den z ov u) (db : Den z hv v) (hQ : ∀ w z' h' tk, z.Le z' → Rep S en c z' m σ' h' → Den z' q w → Q w (Sh s h' tk)) :
    wpAny S.M A (subscriptTail value (.Slice (some hx) none none p) u (.ref s.heap.objs.size)) Q E { s with heap := s.heap.push { cls := .type "slice", data := .fields #[v, .none, .none] } } := by
  refine kba_turn (value' := .Name (Str.ofString "_") ⟨0, 0, 0, 0⟩) (fun _ => rfl) ?_
  cases hv with
  | int C kk =>
    refine Den.int_el db fun tk0 => ?_
    have obj : (andThen (objOf ov σ) fun ob σ => sliceFromOn ob kk σ) = some (q, σ', ob) → wpAny S.M A (subscriptTail (.Name (Str.ofString "_") ⟨0, 0, 0, 0⟩) (.Slice (some hx) none none p) u (.ref s.heap.objs.size)) Q E { s with heap := s.heap.push { cls := .type "slice", data := .fields #[.int kk tk0, .none, .none] } } := by
      clear e; intro e
      refine obj_el e ho memH R da ?_; clear e ho da db; intro oo t ii o1 o2 e1 hk ht hat hsm e ho
      cases oo with
      | list C l =>
        refine hat.list_el fun vs j m1 w1 dl => ?_
        unfold sliceFromOn at e; dsimp only at e
        refine owe_el e ho ?_; clear e ho; intro o4 h1 e ho
        refine owe_el e ho ?_; clear e ho; intro o6 h2 e ho
        have h1 : (l.length : Int) ≤ 16777216 := h1
        refine slice_list (lo := some kk) (hi := none) R.fr R.news ⟨_, (R.news _ m1).1, rfl, _, rfl⟩ (.int _ _) .none (fun h' F' N' => ?_) (hsz := by rw [List.size_toArray, ← dl.length, sizeLine_eq]; omega)
        rw [show kk = (kk.toNat : Int) from (Int.toNat_of_nonneg h2).symm, slicePick_from'] at N'
        obtain ⟨z₂, le₂, R₂, d₂⟩ := rep_new e ho rfl R F' N' (fun p hp => Nat.lt_succ_of_lt (Heap.lt_size (R.news p hp).1)) fun z' k le' m' w' => .list m' w' ((dl.drop kk.toNat).mono le')
        exact hQ _ _ h' s.toks le₂ R₂ d₂
      | _ => exact no_some e
    cases ov with
    | tup l => exact good_sliceTup e R da hQ
    | _ => exact obj e
  | _ => exact no_some e
end
theorem good_boolop (k : c.Ok S (n + 1)) (I : Sound S (Ob.H S) n r) (op : BoolOp) (p : Pos) : ∀ (es : List Expr) (σ : St), Good S (Ob.H S) en c (eval (.BoolOp op es p) c.env) σ (boolop r en op es σ) Den
  | [], σ => fun b σ' o e => nomatch e
  | [x], σ => fun b σ' o e ho z m s Q E R hQ => BoolOp_one (I.ev en c k.lt x σ b σ' o e ho z m s Q E R hQ)
  | x :: y :: es, σ => by
    intro b σ' o e ho z m s Q E R hQ
    replace ho : Owed S o := ho
    unfold boolop at e
    refine andThen_el e ho ?_; clear e ho; intro v σ₁ o1 o2 e1 he1 e ho
    split at e
    · exact no_some e
    · rename_i C bb ht
      refine andThen_el e ho ?_; clear e ho; intro q σ₂ o3 o4 e2 he2 e ho
      obtain ⟨hq, g1, g2⟩ := decideB_ok e2 he2
      subst hq
      cases op with
      | And =>
        refine BoolOp_and (I.ev en c k.lt x σ v σ₁ o1 e1 he1 z m s _ E R fun a z₁ m₁ h₁ tk₁ le R₁ d => truth_ok (S := S) ht d ?_)
        cases bb with
        | true =>
          rw [if_pos rfl]
          exact good_boolop k I .And p (y :: es) σ₂ b σ' o4 e ho z₁ m₁ (Sh s h₁ tk₁) Q E (R₁.same g1 g2) fun a z₂ m₂ h₂ tk₂ le₂ R₂ d₂ => hQ a z₂ m₂ h₂ tk₂ (le.trans le₂) R₂ d₂
        | false =>
          rw [if_neg (by decide)]
          replace hQ := retA e hQ
          exact hQ a z₁ m₁ h₁ tk₁ le (R₁.same g1 g2) d
      | Or =>
        refine BoolOp_or (I.ev en c k.lt x σ v σ₁ o1 e1 he1 z m s _ E R fun a z₁ m₁ h₁ tk₁ le R₁ d => truth_ok (S := S) ht d ?_)
        cases bb with
        | true =>
          rw [if_pos rfl]
          replace hQ := retA e hQ
          exact hQ a z₁ m₁ h₁ tk₁ le (R₁.same g1 g2) d
        | false =>
          rw [if_neg (by decide)]
          exact good_boolop k I .Or p (y :: es) σ₂ b σ' o4 e ho z₁ m₁ (Sh s h₁ tk₁) Q E (R₁.same g1 g2) fun a z₂ m₂ h₂ tk₂ le₂ R₂ d₂ => hQ a z₂ m₂ h₂ tk₂ (le.trans le₂) R₂ d₂
termination_by es => es.length
theorem good_two (k : c.Ok S (n + 1)) (I : Sound S (Ob.H S) n r) {a b : Expr} {α : Type} {f : SV → SV → St → R α} {q : α} {σ' : St} {o : List Ob} (e : (andThen (r.ev en a σ) fun v σ => andThen (r.ev en b σ) fun w σ => f v w σ) = some (q, σ', o)) (ho : Owed S o)
    {s : Shared} {T : Value → Value → Shared → Prop} {E : Value → Shared → Prop} (R : Rep S en c z m σ s.heap)
    (h : ∀ v w σ₂ o₂ u x z₂ m₂ h₂ tk₂, f v w σ₂ = some (q, σ', o₂) → Owed S o₂ → z.Le z₂ → Rep S en c z₂ m₂ σ₂ h₂ → Den z₂ v u → Den z₂ w x → T u x (Sh s h₂ tk₂)) :
    wpAny S.M c.A (eval a c.env) (fun u s₁ => wpAny S.M c.A (eval b c.env) (fun x s₂ => T u x s₂) E s₁) E s := by
  refine andThen_el e ho ?_; clear e ho; intro v σ₁ o1 o2 e1 he1 e ho
  refine andThen_el e ho ?_; clear e ho; intro w σ₂ o3 o4 e2 he2 e ho
  refine I.ev en c k.lt a σ v σ₁ o1 e1 he1 z m s _ E R fun u z₁ m₁ h₁ tk₁ le R₁ d => ?_
  exact I.ev en c k.lt b σ₁ w σ₂ o3 e2 he2 z₁ m₁ (Sh s h₁ tk₁) _ E R₁ fun x z₂ m₂ h₂ tk₂ le₂ R₂ d₂ => h v w σ₂ o4 u x z₂ m₂ h₂ tk₂ e ho (le.trans le₂) R₂ (d.mono le₂) d₂
end
set_option tactic.hygienic true
open PySem PySem.W PySem.Calls PyProof.Rows PySem.SeqAt
section
variable {S : Fix} {en : En} {c : Cx} {n : Nat} {r : Rec}
theorem good_evCompare (k : c.Ok S (n + 1)) (I : Sound S (Ob.H S) n r) (l : Expr) (op : CmpOp) (mm : Expr) (p : Pos) (σ : St) :
    Good S (Ob.H S) en c (eval (.Compare l [op] [mm] p) c.env) σ (evCompare r en l op mm σ) Den := by
  intro b σ' o e ho z m s Q E R hQ
  replace ho : Owed S o := ho
  unfold evCompare at e
  refine isTrue_el e ?_; clear e; intro hb e
  refine wpAny_Compare1 (good_two k I (f := compare op) e ho R fun v w σ₂ o₂ u x z₂ m₂ h₂ tk₂ e₂ ho₂ le R₂ d1 d2 => ?_) (by simpa using hb)
  exact good_compare k e₂ ho₂ (s := Sh s h₂ tk₂) R₂ d1 d2 fun w tk R' d' => hQ w z₂ m₂ h₂ tk le R' d'
theorem good_none {α β : Type} {t : Sem α} {σ : St} {den : Rz → β → α → Prop} : Good S (Ob.H S) en c t σ (none : R β) den := fun b σ' o e => no_some e
theorem good_evSub (k : c.Ok S (n + 1)) (I : Sound S (Ob.H S) n r) (v i : Expr) (p : Pos) (σ : St) :
    Good S (Ob.H S) en c (eval (.Subscript v i p) c.env) σ (evSub r en v i σ) Den := by
  have item : (∀ a b d p, i ≠ .Slice a b d p) → Good S (Ob.H S) en c (eval (.Subscript v i p) c.env) σ (evItem r en v i σ) Den := by
    intro hi b σ' o e ho z m s Q E R hQ
    refine Subscript_ ?_
    refine good_two k I (f := Mine.item) e ho R fun v w σ₂ o₂ u x z₂ m₂ h₂ tk₂ e₂ ho₂ le R₂ d1 d2 => ?_
    exact good_item k e₂ ho₂ hi (s := Sh s h₂ tk₂) R₂ d1 d2 fun w tk R' d' => hQ w z₂ m₂ h₂ tk le R' d'
  cases i with
  | Slice lo hi st ps =>
    clear item
    cases st with
    | some _ => exact good_none
    | none => cases lo with
      | none => cases hi with
        | some h =>
          intro b σ' o e ho z m s Q E R hQ
          refine Subscript_ ?_
          refine wpAny_mono (good_two (T := fun u x s₂ => wpAny S.M c.A (subscriptTail v (.Slice none (some h) none ps) u (.ref s₂.heap.objs.size)) Q E { s₂ with heap := s₂.heap.push { cls := .type "slice", data := .fields #[.none, x, .none] } }) k I (f := fun v w => sliceTo v w) e ho R fun v w σ₂ o₂ u x z₂ m₂ h₂ tk₂ e₂ ho₂ le R₂ d1 d2 => ?_) (fun u s₁ h₁ => ?_) fun _ _ x => x
          · exact good_sliceTo e₂ ho₂ (s := Sh s h₂ tk₂) R₂ d1 d2 fun w z' h' tk le' R' d' => hQ w z' m₂ h' tk (le.trans le') R' d'
          · exact wpAny_Slice (evalPart_none_step (wpAny_evalPart_some (wpAny_mono h₁ (fun x s₂ h₂ => evalPart_none_step h₂) fun _ _ x => x)))
        | none => exact good_none
      | some lo => cases hi with
        | none =>
          intro b σ' o e ho z m s Q E R hQ
          refine Subscript_ ?_
          refine wpAny_mono (good_two (T := fun u x s₂ => wpAny S.M c.A (subscriptTail v (.Slice (some lo) none none ps) u (.ref s₂.heap.objs.size)) Q E { s₂ with heap := s₂.heap.push { cls := .type "slice", data := .fields #[x, .none, .none] } }) k I (f := fun v w => sliceFrom v w) e ho R fun v w σ₂ o₂ u x z₂ m₂ h₂ tk₂ e₂ ho₂ le R₂ d1 d2 => ?_) (fun u s₁ h₁ => ?_) fun _ _ x => x
          · exact good_sliceFrom e₂ ho₂ (s := Sh s h₂ tk₂) R₂ d1 d2 fun w z' h' tk le' R' d' => hQ w z' m₂ h' tk (le.trans le') R' d'
          · exact wpAny_Slice (wpAny_evalPart_some (wpAny_mono h₁ (fun x s₂ h₂ => evalPart_none_step (evalPart_none_step h₂)) fun _ _ x => x))
        | some _ => exact good_none
  | _ => exact item fun a b d p q => Expr.noConfusion q
theorem good_dict (k : c.Ok S (n + 1)) (p : Pos) (σ : St) : Good S (Ob.H S) en c (eval (.Dict [] [] p) c.env) σ (alloc (.dict true []) σ) Den := by
  intro b σ' o e ho z m s Q E R hQ
  replace ho : Owed S o := ho
  refine newDict_K R.fr R.news k.top.nolimit fun d h' ob F' N' hlt _ hd _ _ _ => ?_
  have hA : ∀ z', AtomDict S z' [] (match ob.data with | .dict _ ep => ep | _ => 0) ob := by
    intro z'
    obtain ⟨es, ep, hc, hdat, hk, hp, hn⟩ := hd
    have : es.toList = [] := List.length_eq_zero_iff.mp hp.length
    have hes : es = #[] := Array.toList_eq_nil_iff.mp this
    subst hes
    refine ⟨[], #[], hc, ?_, fun e he => by simp at he, .nil, List.nodup_nil, .nil⟩
    rw [hdat]
  obtain ⟨z₂, le₂, R₂, d₂⟩ := rep_new e ho rfl R F' N' hlt fun z' k le' m' w' => .dict m' w' (.inl ⟨_, hA z'⟩)
  exact hQ _ _ m h' s.toks le₂ R₂ d₂
theorem one_some {α : Type} {l : List α} {a : α} (e : one l = some a) : l = [a] := by
  unfold one at e
  split at e
  · exact no_some e
  · split at e
    · exact congrArg (fun x => [x]) (Option.some.inj e)
    · exact no_some e
theorem good_evNot (k : c.Ok S (n + 1)) (I : Sound S (Ob.H S) n r) (x : Expr) (p : Pos) (σ : St) : Good S (Ob.H S) en c (eval (.UnaryOp .Not x p) c.env) σ (evNot r en x σ) Den := by
  intro b σ' o e ho z m s Q E R hQ
  unfold evNot at e
  refine andThen_el e ho ?_; clear e ho; intro v σ₁ o1 o2 e1 he1 e ho
  refine UnaryOp_ (I.ev en c k.lt x σ v _ o1 e1 he1 z m s _ E R fun a z₁ m₁ h₁ tk₁ le R₁ d => not_value ?_)
  split at e
  · rename_i q ht
    exact truth_ok (S := S) ht d (retA e hQ _ z₁ m₁ h₁ tk₁ le R₁ (.bool _ _))
  · exact no_some e
theorem good_evNeg (k : c.Ok S (n + 1)) (I : Sound S (Ob.H S) n r) (x : Expr) (p : Pos) (σ : St) : Good S (Ob.H S) en c (eval (.UnaryOp .USub x p) c.env) σ (andThen (r.ev en x σ) fun v σ => negV v σ) Den := by
  intro b σ' o e ho z m s Q E R hQ
  refine andThen_el e ho ?_; clear e ho; intro v σ₁ o1 o2 e1 he1 e ho
  refine UnaryOp_ (I.ev en c k.lt x σ _ _ o1 e1 he1 z m s _ E R fun a z₁ m₁ h₁ tk₁ le R₁ d => ?_)
  clear e1
  cases v with
  | int C i => exact Den.int_el d fun t => neg_int (retA e hQ _ z₁ m₁ h₁ _ le R₁ (.int _ _ _))
  | _ => exact no_some e
theorem good_ev (V : Valid S.K S.mg S.mb S.Γ) (k : c.Ok S (n + 1)) (I : Sound S (Ob.H S) n r) (e : Expr) (σ : St) : Good S (Ob.H S) en c (eval e c.env) σ (evStep S.Γ r en e σ) Den := by
  cases e with
  | Name x p => exact good_name V k x p σ
  | Constant ct kk p => exact good_const ct kk p σ
  | Attribute o x p => exact good_attr V k I o x p σ
  | Call f args kws p =>
    cases kws with
    | nil => cases f with
      | Attribute o x ap => exact good_methCall V builtinMeths k I o x ap args p σ
      | Name x q => exact good_call V k I (.Name x q) (fun _ _ _ q => Expr.noConfusion q) args p σ
      | _ => exact good_none
    | cons => exact good_none
  | Compare l ops ms p =>
    cases h1 : one ops with
    | none => intro b σ' o e; unfold evStep evCompareE at e; dsimp only at e; rw [h1] at e; exact no_some e
    | some op => cases h2 : one ms with
      | none => intro b σ' o e; unfold evStep evCompareE at e; dsimp only at e; rw [h1, h2] at e; exact no_some e
      | some m => rw [one_some h1, one_some h2]; exact good_evCompare k I l op m p σ
  | BoolOp op es p => exact good_boolop k I op p es σ
  | UnaryOp op x p => cases op with
    | Not => exact good_evNot k I x p σ
    | USub => exact good_evNeg k I x p σ
    | _ => exact good_none
  | BinOp a op x p =>
    intro b σ' o e ho z m s Q E R hQ
    refine wpAny_BinOp (good_two k I (f := arith op) e ho R fun v w σ₂ o₂ u x z₂ m₂ h₂ tk₂ e₂ ho₂ le R₂ d1 d2 => ?_)
    exact good_arith k e₂ ho₂ (s := Sh s h₂ tk₂) R₂ d1 d2 fun w z' h' tk le' R' d' => hQ w z' m₂ h' tk (le.trans le') R' d'
  | Subscript o i p => exact good_evSub k I o i p σ
  | Tuple es kk p => exact good_tuple k I es kk p σ
  | List es p => exact good_list k I es p σ
  | Dict ks vs p => cases ks with
    | nil => cases vs with
      | nil => exact good_dict k p σ
      | cons => exact good_none
    | cons => exact good_none
  | ListComp x gens sc p =>
    intro b σ' o e ho z m s Q E R hQ
    unfold evStep popComp at e; dsimp only at e
    split at e
    · rename_i l led oc horc
      obtain ⟨rfl, rfl, rfl⟩ := of3 e
      have C : CompOk S r.fuel en (.ListComp x gens sc p) σ.loc σ.led l led := ho (.comp r.fuel en (.ListComp x gens sc p) σ.loc σ.led l led) (.head _)
      exact C c (k.le (by have := I.fuel; omega)) σ.orc z m s Q E R fun a z' m' h' tk' le R' d' => hQ a z' m' h' tk' le (R'.orc oc) d'
    · exact no_some e
  | _ => exact good_none
theorem good_allTrue (k : c.Ok S (n + 1)) (I : Sound S (Ob.H S) n r) (op : BoolOp) (p : Pos) : ∀ (es : List Expr) (σ : St) (whole : Sem Value), Good S (Ob.H S) en c (isTrue (.BoolOp op es p) c.env whole) σ (Mine.allTrue r en op es σ) fun _ b a => a = b
  | [], σ, whole => by
    intro b σ' o e ho z m s Q E R hQ
    replace hQ := retA (D := fun _ b a => a = b) e hQ
    cases op with
    | And => exact isTrue_and_nil (hQ _ z m s.heap s.toks (.refl z) R rfl)
    | Or => exact isTrue_or_nil (hQ _ z m s.heap s.toks (.refl z) R rfl)
  | x :: es, σ, whole => by
    intro b σ' o e ho z m s Q E R hQ
    replace ho : Owed S o := ho
    unfold Mine.allTrue at e
    refine andThen_el e ho ?_; clear e ho; intro q σ₁ o1 o2 e1 he1 e ho
    cases op with
    | And =>
      refine isTrue_and (I.ts en c k.lt x σ q σ₁ o1 e1 he1 z m s _ E R fun a z₁ m₁ h₁ tk₁ le R₁ d => ?_)
      subst d
      cases a with
      | true =>
        rw [if_pos rfl]
        exact good_allTrue k I .And p es σ₁ whole b σ' o2 e ho z₁ m₁ (Sh s h₁ tk₁) Q E R₁ fun a z₂ m₂ h₂ tk₂ le₂ R₂ d₂ => hQ a z₂ m₂ h₂ tk₂ (le.trans le₂) R₂ d₂
      | false =>
        rw [if_neg (by decide)]
        replace hQ := retA (D := fun _ b a => a = b) e hQ
        exact hQ _ z₁ m₁ h₁ tk₁ le R₁ rfl
    | Or =>
      refine isTrue_or (I.ts en c k.lt x σ q σ₁ o1 e1 he1 z m s _ E R fun a z₁ m₁ h₁ tk₁ le R₁ d => ?_)
      subst d
      cases a with
      | true =>
        rw [if_pos rfl]
        replace hQ := retA (D := fun _ b a => a = b) e hQ
        exact hQ _ z₁ m₁ h₁ tk₁ le R₁ rfl
      | false =>
        rw [if_neg (by decide)]
        exact good_allTrue k I .Or p es σ₁ whole b σ' o2 e ho z₁ m₁ (Sh s h₁ tk₁) Q E R₁ fun a z₂ m₂ h₂ tk₂ le₂ R₂ d₂ => hQ a z₂ m₂ h₂ tk₂ (le.trans le₂) R₂ d₂
theorem good_truthOf {x : Value} {v : SV} {σ₁ σ' : St} {b : Bool} {o : List Ob} (e : truthOf v σ₁ = some (b, σ', o)) (ho : Owed S o) {z : Rz} {m : Str → Option Value} {s : Shared} {A : Around}
    {Q : Bool → Shared → Prop} {E : Value → Shared → Prop} (R : Rep S en c z m σ₁ s.heap) (d : Den z v x) (hQ : Rep S en c z m σ' s.heap → Q b s) : wpAny S.M A (truthy x) Q E s := by
  unfold truthOf at e
  split at e
  · rename_i q ht
    obtain ⟨hq, g1, g2⟩ := decideB_ok e ho
    exact truth_ok (S := S) ht d (hq ▸ hQ (R.same g1 g2))
  · exact no_some e
theorem good_tsTruth (k : c.Ok S (n + 1)) (I : Sound S (Ob.H S) n r) (e : Expr) (σ : St) (hp : isTrue e c.env (eval e c.env) = (do let v ← eval e c.env; standAt e.pos; holding [v] (truthy v))) :
    Good S (Ob.H S) en c (isTrue e c.env (eval e c.env)) σ (tsTruth r en e σ) fun _ b a => a = b := by
  intro b σ' o e1 ho z m s Q E R hQ
  unfold tsTruth at e1
  refine andThen_el e1 ho ?_; clear e1 ho; intro v σ₁ o1 o2 e2 he2 e1 ho
  refine isTrue_plain (I.ev en c k.lt e σ v σ₁ o1 e2 he2 z m s _ E R fun a z₁ m₁ h₁ tk₁ le R₁ d => ?_) hp
  exact good_truthOf e1 ho (s := Sh s h₁ tk₁) R₁ d fun R' => hQ b z₁ m₁ h₁ tk₁ le R' rfl
theorem good_tsNot (k : c.Ok S (n + 1)) (I : Sound S (Ob.H S) n r) (x : Expr) (p : Pos) (σ : St) (whole : Sem Value) : Good S (Ob.H S) en c (isTrue (.UnaryOp .Not x p) c.env whole) σ (andThen (r.ts en x σ) fun b σ => ret (!b) σ) fun _ b a => a = b := by
  intro b σ' o e ho z m s Q E R hQ
  refine andThen_el e ho ?_; clear e ho; intro v σ₁ o1 o2 e1 he1 e ho
  exact isTrue_not (I.ts en c k.lt x σ v _ o1 e1 he1 z m s _ E R fun a z₁ m₁ h₁ tk₁ le R₁ d => retA (D := fun _ b a => a = b) e hQ _ z₁ m₁ h₁ tk₁ le R₁ (congrArg not d))
theorem good_tsCompare (k : c.Ok S (n + 1)) (I : Sound S (Ob.H S) n r) (l : Expr) (op : CmpOp) (mm : Expr) (p : Pos) (σ : St) :
    Good S (Ob.H S) en c (isTrue (.Compare l [op] [mm] p) c.env (eval (.Compare l [op] [mm] p) c.env)) σ (andThen (evCompare r en l op mm σ) fun v σ => truthOf v σ) fun _ b a => a = b := by
  intro b σ' o e ho z m s Q E R hQ
  refine andThen_el e ho ?_; clear e ho; intro v σ₁ o1 o2 e1 he1 e ho
  unfold evCompare at e1
  refine isTrue_el e1 ?_; clear e1; intro hb e1
  refine wpAny_isTrue_Compare1 (good_two k I (f := compare op) e1 he1 R fun v' w σ₂ o₂ u x z₂ m₂ h₂ tk₂ e₂ ho₂ le R₂ d1 d2 => ?_) (by simpa using hb)
  exact good_compare k e₂ ho₂ (s := Sh s h₂ tk₂) R₂ d1 d2 fun w tk R' d' => good_truthOf e ho (s := Sh (Sh s h₂ tk₂) h₂ tk) R' d' fun R'' => hQ b z₂ m₂ h₂ tk le R'' rfl
theorem good_ts (k : c.Ok S (n + 1)) (I : Sound S (Ob.H S) n r) (e : Expr) (σ : St) : Good S (Ob.H S) en c (isTrue e c.env (eval e c.env)) σ (tsStep r en e σ) fun _ b a => a = b := by
  cases e with
  | UnaryOp op x p => cases op with
    | Not => exact good_tsNot k I x p σ _
    | _ => exact good_none
  | BoolOp op es p => exact good_allTrue k I op p es σ _
  | Compare l ops ms p =>
    cases h1 : one ops with
    | none => intro b σ' o e; unfold tsStep tsCompare at e; dsimp only at e; rw [h1] at e; exact no_some e
    | some op => cases h2 : one ms with
      | none => intro b σ' o e; unfold tsStep tsCompare at e; dsimp only at e; rw [h1, h2] at e; exact no_some e
      | some m => rw [one_some h1, one_some h2]; exact good_tsCompare k I l op m p σ
  | IfExp a b d p => exact good_none
  | _ => exact good_tsTruth k I _ σ rfl
end
set_option tactic.hygienic true
open PySem PySem.W PySem.Calls PyProof.Rows PySem.SeqAt
section
variable {S : Fix} {en : En} {c : Cx} {n : Nat} {r : Rec} {z : Rz} {m : Str → Option Value} {σ : St}
theorem look_put {α : Type} (x : Str) (v : α) (y : Str) : ∀ l : List (Str × α), look y (putS x v l) = if y = x then some v else look y l
  | [] => by
    simp only [putS, look]
    rw [sEq_dec]
    by_cases q : x = y
    · subst q; simp
    · simp [q, Ne.symm q]
  | p :: r => by
    simp only [putS]
    cases h : sEq p.1 x with
    | true =>
      have hx := sEq_iff.mp h
      simp only [look]
      rw [hx, sEq_dec]
      by_cases q : x = y
      · subst q; simp
      · simp [q, Ne.symm q]
    | false =>
      have hx := sEq_false h
      simp only [look]
      rw [look_put x v y r, sEq_dec]
      by_cases q : p.1 = y
      · subst q; simp [hx]
      · simp [q]
theorem Rep.local {h' : Heap} {h : Heap} {x : Str} {v : SV} {u : Value} (R : Rep S en c z m σ h) (F : Fr c.h₀ c.L h' fun y => if y = x then some u else m y) (N : News c.h₀ c.L h' z.all) (d : Den z v u) :
    Rep S en c z (fun y => if y = x then some u else m y) ⟨putS x v σ.loc, σ.led, σ.orc⟩ h' :=
  ⟨F, N, R.nd, R.dom, R.len, R.led, fun y w e => by
    rw [look_put] at e
    by_cases q : y = x
    · subst q; rw [if_pos rfl] at e; cases e; exact ⟨u, if_pos rfl, d⟩
    · rw [if_neg q] at e
      obtain ⟨u', e1, e2⟩ := R.loc y w e
      exact ⟨u', by show (if y = x then _ else _) = _; rw [if_neg q]; exact e1, e2⟩, R.cells, R.scope, R.lvn, R.lvk⟩
theorem good_cell (k : c.Ok S n) {x : Str} {v : SV} {t : Nat} {ch : SO} {ob : Obj} {s : Shared} {Q : Unit → Shared → Prop} {E : Value → Shared → Prop} {u : Value} (q : c.sc.names.lookup x = some .cell) (hc : c.cl.lookup x = some (z.ad t 0)) (htn : z.lv t 0) (e0 : objOf (.ref t) σ = some (ch, σ, []))
    (hsm : ∀ ks f j o, σ.led[t]? = some (.ffam ks f j o) → (0 : Int) = j) (m1 : (z.ad t 0, ob) ∈ z.all) (hd : ∃ w, ob.data = .cell w) (w1 : z.own (z.ad t 0) = some (t, 0)) (R : Rep S en c z m σ s.heap) (d : Den z v u)
    (hQ : ∀ z' m' h' tk', z.Le z' → Rep S en c z' m' (setChunk σ t (.cell v)) h' → Q () (Sh s h' tk')) : wpAny S.M c.A (storeName c.env x u) Q E s := by
  obtain ⟨w, hd⟩ := hd
  refine wpAny_storeName_cell k.fn q hc ⟨ob, (R.news _ m1).1, hd⟩ fun h' hv hs => ?_
  obtain ⟨o', ho', hd'⟩ := hv
  have N := R.news _ m1
  have le := z.turn_le o' w1
  exact hQ (z.turn (z.ad t 0) o') m h' s.toks le (R.turn w1 (R.fr.change hs N.2.1 N.2.2) (R.news.replace hs ho') rfl e0 rfl (.cell (mem_updA_self m1) hd' w1 (d.mono le)) htn hsm)
theorem retU {a : Unit} {b : Unit} {σ₀ σ' : St} {o o' : List Ob} {s : Shared} {Q : Unit → Shared → Prop} (e : some (a, σ₀, o') = some (b, σ', o)) (hQ : ∀ z' m' h' tk', z.Le z' → Rep S en c z' m' σ' h' → Q () (Sh s h' tk')) : ∀ z' m' h' tk', z.Le z' → Rep S en c z' m' σ₀ h' → Q () (Sh s h' tk') := by
  rw [(of3 e).2.1]; exact hQ
theorem good_putLoc (k : c.Ok S n) {x : Str} {v : SV} {b : Unit} {σ' : St} {o : List Ob} (e : putLoc en x v σ = some (b, σ', o)) {s : Shared} {Q : Unit → Shared → Prop} {E : Value → Shared → Prop} {u : Value} (R : Rep S en c z m σ s.heap) (d : Den z v u)
    (hQ : ∀ z' m' h' tk', z.Le z' → Rep S en c z' m' σ' h' → Q () (Sh s h' tk')) : wpAny S.M c.A (storeName c.env x u) Q E s := by
  unfold putLoc at e
  rw [R.scope, look_lookup] at e
  split at e
  · rename_i q
    exact storeX_L R.fr R.news (fun h' F' N' => retU e hQ z _ h' _ (.refl z) (R.local F' N' d)) k.fn q
  · rename_i q
    split at e
    · rename_i t ht
      split at e
      · rename_i v0 e2
        exact At.cell_el (R.led t _ e2).2 fun w ob m1 dd o1 d1 => good_cell k q (R.cells x t ht).1 (R.cells x t ht).2 (by unfold objOf; dsimp only; rw [e2]) (fun ks f j o h => nomatch e2.symm.trans h) m1 ⟨_, dd⟩ o1 R d (retU e hQ)
      · rename_i e2
        exact At.nocell_el (R.led t _ e2).2 fun ob m1 dd o1 => good_cell k q (R.cells x t ht).1 (R.cells x t ht).2 (by unfold objOf; dsimp only; rw [e2]) (fun ks f j o h => nomatch e2.symm.trans h) m1 ⟨_, dd⟩ o1 R d (retU e hQ)
      · exact no_some e
    · exact no_some e
  · exact no_some e
theorem putTup_cons {t : Expr} {ts : List Expr} {v : SV} {vs : List SV} {b : Unit} {σ' : St} {o : List Ob} (e : putTup en (t :: ts) (v :: vs) σ = some (b, σ', o)) : ∃ x p σ₁ o1 o2, t = .Name x p ∧ putLoc en x v σ = some ((), σ₁, o1) ∧ putTup en ts vs σ₁ = some (b, σ', o2) := by
  unfold putTup at e
  split at e
  · refine andThen_pu e ?_; clear e; intro _ σ₁ o1 o2 e1 e
    exact ⟨_, _, σ₁, o1, o2, rfl, e1, e⟩
  · exact no_some e
theorem good_putTup (k : c.Ok S n) : ∀ (ts : List Expr) (vs : List SV) (σ : St) (b : Unit) (σ' : St) (o : List Ob), putTup en ts vs σ = some (b, σ', o) → ∀ (z : Rz) (m : Str → Option Value) (s : Shared) (Q : Unit → Shared → Prop) (E : Value → Shared → Prop) (us : List Value),
    Rep S en c z m σ s.heap → DenL z vs us → (∀ z' m' h' tk', z.Le z' → Rep S en c z' m' σ' h' → Q () (Sh s h' tk')) → wpAny S.M c.A (assignInOrder ((assignEach ts c.env).map (·.2)) us) Q E s := by
  intro ts
  induction ts with
  | nil =>
    intro vs σ b σ' o e z m s Q E us R d hQ
    cases vs with
    | nil => exact DenL.nil_el d (assignInOrder_nil (retU e hQ z m s.heap s.toks (.refl z) R))
    | cons => exact no_some e
  | cons t ts ih =>
    intro vs σ b σ' o e z m s Q E us R d hQ
    cases vs with
    | nil => exact no_some e
    | cons v vs =>
      obtain ⟨x, p, σ₁, o1, o2, rfl, e1, e2⟩ := putTup_cons e
      refine DenL.cons_el d fun u us dv dr => ?_
      refine assignInOrder_cons (wpAny_assign_Name (good_putLoc k e1 R dv fun z₁ m₁ h₁ tk₁ le R₁ => ?_))
      exact ih vs σ₁ b σ' o2 e2 z₁ m₁ (Sh s h₁ tk₁) Q E _ R₁ (dr.mono le) fun z₂ m₂ h₂ tk₂ le₂ R₂ => hQ z₂ m₂ h₂ tk₂ (le.trans le₂) R₂
theorem putTup_names : ∀ (ts : List Expr) (vs : List SV) (σ : St) (b : Unit) (σ' : St) (o : List Ob), putTup en ts vs σ = some (b, σ', o) → ts.length = vs.length ∧ ∀ env, (assignEach ts env).length = ts.length ∧ (assignEach ts env).findIdx? (·.1) = none := by
  intro ts
  induction ts with
  | nil =>
    intro vs σ b σ' o e
    cases vs with
    | nil => exact ⟨rfl, fun env => ⟨rfl, rfl⟩⟩
    | cons => exact no_some e
  | cons t ts ih =>
    intro vs σ b σ' o e
    cases vs with
    | nil => exact no_some e
    | cons v vs =>
      obtain ⟨x, p, σ₁, o1, o2, rfl, e1, e2⟩ := putTup_cons e
      obtain ⟨h1, h2⟩ := ih vs σ₁ b σ' o2 e2
      refine ⟨congrArg Nat.succ h1, fun env => ⟨congrArg Nat.succ (h2 env).1, ?_⟩⟩
      show ((false, PySem.assign (.Name x p) env) :: assignEach ts env).findIdx? (·.1) = none
      simp [List.findIdx?_cons, (h2 env).2]
theorem good_bind (k : c.Ok S n) {t : Expr} {v : SV} {b : Unit} {σ' : St} {o : List Ob} (e : bind en t v σ = some (b, σ', o)) {s : Shared} {Q : Unit → Shared → Prop} {E : Value → Shared → Prop} {u : Value} (R : Rep S en c z m σ s.heap) (d : Den z v u)
    (hQ : ∀ z' m' h' tk', z.Le z' → Rep S en c z' m' σ' h' → Q () (Sh s h' tk')) : wpAny S.M c.A (PySem.assign t c.env u) Q E s := by
  cases t with
  | Name x p => exact wpAny_assign_Name (good_putLoc k e R d hQ)
  | Tuple ts kk p => cases v with
    | tup vs =>
      refine Den.tup_el d fun a us m1 o1 du => ?_
      obtain ⟨h1, h2⟩ := putTup_names ts vs σ b σ' o e
      refine unpackN_ R.fr R.news (R.news.isTup m1) k.hd (by rw [(h2 c.env).1, h1, du.length]; simp) (h2 c.env).2 fun h' F' N' => ?_
      have R' : Rep S en c z m σ h' := ⟨F', N', R.nd, R.dom, R.len, R.led, R.loc, R.cells, R.scope, R.lvn, R.lvk⟩
      exact good_putTup k ts vs σ b σ' o e z m { s with heap := h' } Q E us R' du hQ
    | _ => exact no_some e
  | _ => exact no_some e
theorem DenL.set {v : SV} {u : Value} (d : Den z v u) : ∀ {l : List SV} {vs : List Value}, DenL z l vs → ∀ n, DenL z (l.set n v) (vs.set n u) := by
  intro l
  induction l with
  | nil => exact fun dl n => DenL.nil_el dl .nil
  | cons a l ih => exact fun dl n => DenL.cons_el dl fun u us a b => match n with | 0 => .cons d b | n + 1 => .cons a (ih b n)
theorem good_setItem (k : c.Ok S (n + 1)) {w i v : SV} {b : Unit} {σ' : St} {o : List Ob} (e : setItem w i v σ = some (b, σ', o)) (ho : Owed S o) {s : Shared} {Q : Unit → Shared → Prop} {E : Value → Shared → Prop} {wv iv u : Value} (R : Rep S en c z m σ s.heap)
    (dw : Den z w wv) (di : Den z i iv) (d : Den z v u) (hQ : ∀ z' h' tk', z.Le z' → Rep S en c z' m σ' h' → Q () (Sh s h' tk')) : wpAny S.M c.A (PySem.setItem wv iv u) Q E s := by
  unfold Mine.setItem at e
  refine obj_el e ho memH R dw ?_; clear e ho dw; intro ob t ii o1 o2 e1 hk ht hat hsm e ho
  cases ob with
  | dict C dd =>
    refine hat.dict_el fun ob m1 w1 hd => ?_
    unfold setItemOn at e; dsimp only at e
    refine andThen_el e ho ?_; clear e ho; intro d' σ₂ o3 o4 e2 he2 e ho
    obtain ⟨p1, p2, p3, p4, p5, p6⟩ := dictPut_ok e2 he2 hd
    refine dict_setItem k R m1 w1 hd p2 p1 di d p4 fun h' o' tk F' N' hd' => ?_
    rw [p3] at hd'
    obtain ⟨R', le⟩ := R.turnDict (x := z.ad t ii) m1 w1 hk e1 p5 p6 e F' N' hd' ht hsm
    exact hQ _ h' tk le R'
  | list C l =>
    refine hat.list_el fun vs j m1 w1 dl => ?_
    unfold setItemOn at e; dsimp only at e
    cases i with
    | int C2 kk =>
      refine Den.int_el di fun tk0 => ?_
      unfold setList at e; dsimp only at e
      refine owe_el e ho ?_; clear e ho; intro o4 h1 e ho
      refine owe_el e ho ?_; clear e ho; intro o6 h2 e ho
      refine andThen_el e ho ?_; clear e ho; intro _ σ₂ o7 o8 e4 he4 e ho
      obtain ⟨hl, rfl⟩ := lenOk_ok e4 he4
      have h1 : (0 : Int) ≤ kk := h1
      have h2 : kk + 1 ≤ (l.length : Int) := h2
      have N := R.news _ m1
      refine ki_setAt N.1 h1 (by omega) (by rw [List.size_toArray, ← dl.length]; omega) ?_
      have hup : (s.heap.update (z.ad t ii) (Obj.mapSeq (·.setIfInBounds kk.toNat u))).get? (z.ad t ii) = some (listOf (vs.set kk.toNat u).toArray (if (vs.toArray.setIfInBounds kk.toNat u).size = vs.toArray.size then j else j)) := by
        rw [Heap.get?_update_self (Obj.mapSeq (·.setIfInBounds kk.toNat u)) N.1 rfl]
        simp [Obj.mapSeq, W.listOf]
      rw [ite_self] at hup
      have le := z.turn_le (listOf (vs.set kk.toNat u).toArray j) w1
      refine hQ _ _ s.toks le (R.turn w1 (R.fr.change (Heap.SameBut.update ..) N.2.1 N.2.2) (R.news.replace (Heap.SameBut.update ..) hup) hk e1 e ?_ ht hsm)
      exact .list (vs := vs.set kk.toNat u) (mem_updA_self m1) w1 (DenL.mono le (dl.set d _))
    | _ => exact no_some e
  | _ => exact no_some e
theorem good_aug {op : Operator} {a b q : SV} {σ' : St} {o : List Ob} (e : aug op a b σ = some (q, σ', o)) {s : Shared} {u v : Value} {Q : Value → Shared → Prop} {E : Value → Shared → Prop} {A : Around}
    (R : Rep S en c z m σ s.heap) (da : Den z a u) (db : Den z b v) (hQ : ∀ w tk, Rep S en c z m σ' s.heap → Den z q w → Q w (Sh s s.heap tk)) : wpAny S.M A (inplaceOp op u v) Q E s := by
  cases a with
  | int C i => cases b with
    | int D j =>
      refine Den.int_el da fun t => Den.int_el db fun t' => ?_
      clear da db
      cases op with
      | Add => exact iadd_int (retC e hQ _ _ R (.int _ _ _))
      | Sub => exact isub_int (retC e hQ _ _ R (.int _ _ _))
      | _ => exact no_some e
    | _ => exact no_some e
  | _ => exact no_some e
end
set_option tactic.hygienic true
open PySem PySem.W PySem.Calls PyProof.Rows PySem.SeqAt
section
variable {S : Fix} {en : En} {c : Cx} {n : Nat} {r : Rec} {z : Rz} {m : Str → Option Value} {σ : St}
noncomputable def Rz.drop (z : Rz) (I : Addr) : Rz := ⟨z.all.filter (fun p => decide (p.1 ≠ I)), z.own, z.ad, z.n, z.lv⟩
theorem mem_drop {z : Rz} {I a : Addr} {o : Obj} : (a, o) ∈ (z.drop I).all ↔ (a, o) ∈ z.all ∧ a ≠ I := by
  unfold Rz.drop; simp [List.mem_filter]
theorem Rep.drop_lw {h : Heap} (R : Rep S en c z m σ h) {I : Addr} {o : Obj} (hI : (I, o) ∈ z.all) (hs : ¬ stays o) : z.Lw (z.drop I) :=
  ⟨Nat.le_refl _, fun _ _ h => ⟨h, rfl⟩, fun a o' st m1 o1 => ⟨mem_drop.mpr ⟨m1, fun e => by subst e; exact hs (R.one m1 hI ▸ st)⟩, o1⟩⟩
theorem Rep.drop {h : Heap} (R : Rep S en c z m σ h) {I : Addr} {o : Obj} (hI : (I, o) ∈ z.all) (ho : z.own I = none) (hs : ¬ stays o) : Rep S en c (z.drop I) m σ h := by
  have lw := R.drop_lw hI hs
  have hne : ∀ {a : Addr} {k : Nat × Int}, z.own a = some k → a ≠ I := fun q e => by rw [e, ho] at q; cases q
  refine ⟨R.fr, fun p hp => R.news p (List.mem_filter.mp hp).1, ?_, fun a k e => ⟨(R.dom a k e).1, ?_⟩, R.len, fun t q e => ?_, fun x w e => ?_, R.cells, R.scope, R.lvn, R.lvk⟩
  · exact List.Sublist.nodup (List.Sublist.map _ List.filter_sublist) R.nd
  · obtain ⟨p, hp, e2⟩ := List.mem_map.mp (R.dom a k e).2
    refine List.mem_map.mpr ⟨p, List.mem_filter.mpr ⟨hp, ?_⟩, e2⟩
    rw [e2]; exact decide_eq_true (hne e)
  · exact (R.led t q e).keepw lw fun i a o' x y => ⟨mem_drop.mpr ⟨x, hne y⟩, y⟩
  · obtain ⟨v, a, b⟩ := R.loc x w e
    exact ⟨v, a, b.monow lw⟩
theorem Rep.other {h h' : Heap} (R : Rep S en c z m σ h) {I : Addr} (hI : c.h₀.objs.size ≤ I) (hL : c.L ≠ I) (hn : ∀ p ∈ z.all, p.1 ≠ I) (hs : Heap.ExtBut I h h') : Rep S en c z m σ h' :=
  ⟨⟨R.fr.ns.at' fun o e => hs _ o hL e, fun b o e => hs b o (Nat.ne_of_lt (Nat.lt_of_lt_of_le (Heap.lt_size e) hI)) (R.fr.keep b o e), R.fr.above⟩,
    fun p hp => ⟨hs _ _ (hn p hp) (R.news p hp).1, (R.news p hp).2⟩, R.nd, R.dom, R.len, R.led, R.loc, R.cells, R.scope, R.lvn, R.lvk⟩
theorem Rep.join {h : Heap} (R : Rep S en c z m σ h) {I : Addr} {o : Obj} (hI : c.h₀.objs.size ≤ I) (hL : c.L ≠ I) (hn : ∀ p ∈ z.all, p.1 ≠ I) (ho : h.get? I = some o) :
    Rep S en c (z.pool I o) m σ h ∧ (z.pool I o).own I = none := by
  have hn' : I ∉ z.all.map (·.1) := fun q => by
    obtain ⟨p, hp, e⟩ := List.mem_map.mp q
    exact hn p hp e
  have hown : z.own I = none := by
    cases q : z.own I with
    | none => rfl
    | some k => exact absurd (R.dom I k q).2 hn'
  have hz : c.h₀.get? I = none := by
    cases e : c.h₀.get? I with
    | none => rfl
    | some o => exact absurd (Heap.lt_size e) (Nat.not_lt.mpr hI)
  have le := z.pool_le I o
  refine ⟨⟨R.fr, fun p hp => ?_, List.nodup_cons.mpr ⟨hn', R.nd⟩, fun a k e => ⟨(R.dom a k e).1, .tail _ (R.dom a k e).2⟩, R.len, fun t q e => ?_, fun x w e => ?_, R.cells, R.scope, R.lvn, R.lvk⟩, hown⟩
  · rcases List.mem_cons.mp hp with rfl | hp
    · exact ⟨ho, Ne.symm hL, hz⟩
    · exact R.news p hp
  · exact (R.led t q e).keep le fun i a o' x y => ⟨.tail _ x, y⟩
  · obtain ⟨v, a, b⟩ := R.loc x w e
    exact ⟨v, a, b.mono le⟩
noncomputable def forClasses : List String := ["enumerate", "zip", "dict_itemiterator", "dict_reverseitemiterator", "odict_iterator", "itertools.zip_longest", "itertools.pairwise"]
noncomputable def calm (o : Obj) : Prop := ∃ nm, o.cls = .type nm ∧ forClasses.contains nm = false ∧ ¬ stays o
theorem letOwned_calm {prog : Program} {w : World} {A : Around} {E : Value → Shared → Prop} {s : Shared} {t : Expr} {I : Addr} {o : Obj} {u : Value} {Q : Unit → Shared → Prop} (ho : s.heap.get? I = some o) (hc : calm o) (h : Q () s) :
    wpAny (model prog w) A (letOwnedTupleGo t (.ref I) u) Q E s := by
  obtain ⟨nm, hc, hn, _⟩ := hc
  have key : ∀ a : Addr, wpAny (model prog w) A (do
      let o ← load I
      match o.cls, o.data with
      | .type n, .fields vs =>
        if ["enumerate", "zip", "dict_itemiterator", "dict_reverseitemiterator", "odict_iterator", "itertools.zip_longest", "itertools.pairwise"].contains n && vs[0]? == some (rawInt a) then
          rule "for.unpacks-the-owned-tuple"
          updateField I 0 .none
      | _, _ => pure ()) Q E s := fun a => by
    refine wpAny_bind (wpAny_load ho ?_)
    rw [hc]
    cases hd : o.data <;> first | exact wpAny_pure h | skip
    rename_i vs
    show wpAny _ A (if (forClasses.contains nm && vs[0]? == some (rawInt a)) = true then _ else _) Q E s
    rw [hn, Bool.false_and, if_neg (by decide)]
    exact wpAny_pure h
  unfold letOwnedTupleGo
  split
  · cases u <;> first | exact wpAny_pure h | skip
    rename_i a
    exact key a
  · cases u <;> first | exact wpAny_pure h | skip
    rename_i a
    exact key a
  · exact wpAny_pure h
set_option genInjectivity false in
structure Source (S : Fix) (en : En) (c : Cx) where
  P : Rz → Prop
  It : Nat → Obj → Prop
  val : Nat → St → Option (Option SV)
  mono : ∀ {z z' : Rz}, z.Lw z' → P z → P z'
  calm : ∀ {i o}, It i o → calm o
  next : ∀ {i : Nat} {σ : St} {z : Rz} {m : Str → Option Value} {s : Shared} {I : Addr} {o : Obj} {q : Option SV} (Q : Option Value → Shared → Prop) (E : Value → Shared → Prop), P z → Rep S en c z m σ s.heap → (∀ p ∈ z.all, p.1 ≠ I) → s.heap.get? I = some o → It i o → val i σ = some q →
    (match q with
      | some x => ∀ u h' o' tk, Den z x u → Heap.SameBut I s.heap h' → h'.get? I = some o' → It (i + 1) o' → Q (some u) (Sh s h' tk)
      | none => ∀ h' tk, Heap.ExtBut I s.heap h' → Q none (Sh s h' tk)) → wpAny S.M c.A (pyNext (.ref I)) Q E s
noncomputable def Sub (S : Fix) (en : En) (σ τ : St) : Prop := ∀ c z m h, Rep S en c z m σ h → Rep S en c z m τ h
inductive Turns (S : Fix) (r : Rec) (en : En) (t : Expr) (body : List Stmt) (val : Nat → St → Option (Option SV)) : Nat → Nat → St → Fl → St → Prop where
  | done {n i σ} : val i σ = some none → Turns S r en t body val n i σ .next σ
  | step {n i σ v σ₁ o1 σ₂ o2 fl fl' σ'} : val i σ = some (some v) → bind en t v σ = some ((), σ₁, o1) → r.ex en body σ₁ = some (fl, σ₂, o2) → Owed S o2 → (fl = .next ∨ fl = .cont) →
      Turns S r en t body val n (i + 1) σ₂ fl' σ' → Turns S r en t body val (n + 1) i σ fl' σ'
  | brk {n i σ v σ₁ o1 σ₂ o2} : val i σ = some (some v) → bind en t v σ = some ((), σ₁, o1) → r.ex en body σ₁ = some (.brk, σ₂, o2) → Owed S o2 → Turns S r en t body val n i σ .next σ₂
  | ret {n i σ v σ₁ o1 σ₂ o2 w} : val i σ = some (some v) → bind en t v σ = some ((), σ₁, o1) → r.ex en body σ₁ = some (.ret w, σ₂, o2) → Owed S o2 → Turns S r en t body val n i σ (.ret w) σ₂
  | sub {n i σ τ fl σ'} : Sub S en σ τ → Turns S r en t body val n i τ fl σ' → Turns S r en t body val n i σ fl σ'
noncomputable def DenR (z : Rz) (f : Fl) : Result → Prop
  | .ok g => DenF z f g
  | .error _ => False
theorem codeFor {prog : Program} {w : World} {A : Around} {s : Shared} {R : Result → Shared → Prop} {target it body env} (I : Nat → Shared → Prop)
    (turn : ∀ n s, I n s → wpAny (model prog w) A (pyNext it) (fun r s₁ => match r with
      | none => R (.ok .next) s₁
      | some v => wpAny (model prog w) A (letOwnedTupleGo target it v) (fun _ s₁ => wpAny (model prog w) A (PySem.assign target env v) (fun _ s₂ => wpAny (model prog w) A (execs body env) (fun f s₃ => match f with
          | .next | .cont => ∃ m, m < n ∧ I m s₃
          | .brk => R (.ok .next) s₃
          | .ret v => R (.ok (.ret v)) s₃) (fun _ _ => False) s₂) (fun _ _ => False) s₁) (fun _ _ => False) s₁) (fun _ _ => False) s)
    (n : Nat) (h : I n s) : codeAny (model prog w) A (.forLoop target it body [] env) R s := by
  refine codeAny_loop' rfl I (fun n s hI => ?_) n h
  show wpAny _ _ ((forTurn target it body [] env).onRaise (fun x => do noteFrame x env; theTreesLotGoes x)) _ _ s
  refine wpAny_noted ?_
  simp only [forTurn]
  refine wpAny_bind (wpAny_standAt (wpAny_bind (wpAny_onRaise (wpAny_mono (turn n s hI) (fun r s₁ h₁ => ?_) fun _ _ h' => h'.elim))))
  cases r with
  | none => exact wpAny_pure (.inr ⟨rfl, codeAny_block (wpAny_execs_nil h₁)⟩)
  | some v =>
    refine wpAny_bind (wpAny_mono h₁ (fun _ s₁ h₁ => ?_) fun _ _ h' => h'.elim)
    refine wpAny_bind (wpAny_mono h₁ (fun _ s₂ h₂ => wpAny_bind (wpAny_mono h₂ (fun f s₃ h₃ => ?_) fun _ _ h' => h'.elim)) fun _ _ h' => h'.elim)
    cases f with
    | next => exact wpAny_pure (.inl ⟨rfl, h₃⟩)
    | cont => exact wpAny_pure (.inl ⟨rfl, h₃⟩)
    | brk => exact wpAny_pure h₃
    | ret v => exact wpAny_pure h₃
noncomputable def After (f : Fl) (σ₂ : St) (fl : Fl) (σ' : St) (again : Prop) : Prop := match f with
  | .next => again
  | .cont => again
  | .brk => fl = .next ∧ σ' = σ₂
  | .ret w => fl = .ret w ∧ σ' = σ₂
theorem turns_inv {r : Rec} {t : Expr} {body : List Stmt} {val : Nat → St → Option (Option SV)} {n i : Nat} {σ σ' : St} {fl : Fl} (T : Turns S r en t body val n i σ fl σ') : ∃ τ, Sub S en σ τ ∧ (
    (val i τ = some none ∧ fl = .next ∧ σ' = τ) ∨ (∃ v σ₁ o1 σ₂ o2 f, val i τ = some (some v) ∧ bind en t v τ = some ((), σ₁, o1) ∧ r.ex en body σ₁ = some (f, σ₂, o2) ∧ Owed S o2 ∧ After f σ₂ fl σ' (∃ n', n = n' + 1 ∧ Turns S r en t body val n' (i + 1) σ₂ fl σ'))) := by
  induction T with
  | done a => exact ⟨_, fun _ _ _ _ x => x, .inl ⟨a, rfl, rfl⟩⟩
  | @step n i σ v σ₁ o1 σ₂ o2 fl fl' σ' a b c d e f _ =>
    refine ⟨σ, fun _ _ _ _ x => x, .inr ⟨v, σ₁, o1, σ₂, o2, _, a, b, c, d, ?_⟩⟩
    rcases e with rfl | rfl
    · exact ⟨n, rfl, f⟩
    · exact ⟨n, rfl, f⟩
  | brk a b c d => exact ⟨_, fun _ _ _ _ x => x, .inr ⟨_, _, _, _, _, _, a, b, c, d, rfl, rfl⟩⟩
  | ret a b c d => exact ⟨_, fun _ _ _ _ x => x, .inr ⟨_, _, _, _, _, _, a, b, c, d, rfl, rfl⟩⟩
  | sub hs _ ih => obtain ⟨τ, h1, h2⟩ := ih; exact ⟨τ, fun c z m h x => h1 c z m h (hs c z m h x), h2⟩
@[elab_as_elim] theorem DenF.next_el {z : Rz} {g : Flow} (d : DenF z .next g) {G : Flow → Prop} (k : G .next) : G g := by cases d; exact k
@[elab_as_elim] theorem DenF.cont_el {z : Rz} {g : Flow} (d : DenF z .cont g) {G : Flow → Prop} (k : G .cont) : G g := by cases d; exact k
@[elab_as_elim] theorem DenF.brk_el {z : Rz} {g : Flow} (d : DenF z .brk g) {G : Flow → Prop} (k : G .brk) : G g := by cases d; exact k
@[elab_as_elim] theorem DenF.ret_el {z : Rz} {v : SV} {g : Flow} (d : DenF z (.ret v) g) {G : Flow → Prop} (k : ∀ w, Den z v w → G (.ret w)) : G g := by cases d with | ret d => exact k _ d
noncomputable def ForInv (Src : Source S en c) (r : Rec) (t : Expr) (body : List Stmt) (fl : Fl) (σ' : St) (z : Rz) (s : Shared) (I : Addr) (nn : Nat) (s₁ : Shared) : Prop :=
  ∃ h₁ tk₁ i σ₁ z₁ m₁ o₁, s₁ = Sh s h₁ tk₁ ∧ Turns S r en t body Src.val nn i σ₁ fl σ' ∧ z.Le z₁ ∧ Src.P z₁ ∧ Rep S en c z₁ m₁ σ₁ h₁ ∧ (∀ p ∈ z₁.all, p.1 ≠ I) ∧ h₁.get? I = some o₁ ∧ Src.It i o₁
@[elab_as_elim] theorem ForInv.el {Src : Source S en c} {t : Expr} {body : List Stmt} {fl : Fl} {σ' : St} {s s₁ : Shared} {I : Addr} {nn : Nat} (h : ForInv Src r t body fl σ' z s I nn s₁) {G : Shared → Prop}
    (k : ∀ h₁ tk₁ i σ₁ z₁ m₁ o₁, Turns S r en t body Src.val nn i σ₁ fl σ' → z.Le z₁ → Src.P z₁ → Rep S en c z₁ m₁ σ₁ h₁ → (∀ p ∈ z₁.all, p.1 ≠ I) → h₁.get? I = some o₁ → Src.It i o₁ → G (Sh s h₁ tk₁)) : G s₁ := by
  obtain ⟨h₁, tk₁, i, σ₁, z₁, m₁, o₁, rfl, a, b, c, d, e, f, g⟩ := h
  exact k h₁ tk₁ i σ₁ z₁ m₁ o₁ a b c d e f g
theorem turns_el {r : Rec} {t : Expr} {body : List Stmt} {val : Nat → St → Option (Option SV)} {n i : Nat} {σ σ' : St} {fl : Fl} (T : Turns S r en t body val n i σ fl σ') {G : Prop} (h1 : ∀ τ, Sub S en σ τ → val i τ = some none → fl = .next → σ' = τ → G)
    (h2 : ∀ τ v σ₁ o1 σ₂ o2 f, Sub S en σ τ → val i τ = some (some v) → bind en t v τ = some ((), σ₁, o1) → r.ex en body σ₁ = some (f, σ₂, o2) → Owed S o2 → After f σ₂ fl σ' (∃ n', n = n' + 1 ∧ Turns S r en t body val n' (i + 1) σ₂ fl σ') → G) : G := by
  obtain ⟨τ, h, ⟨a, b, c⟩ | ⟨v, σ₁, o1, σ₂, o2, f, a, b, c, d, e⟩⟩ := turns_inv T
  · exact h1 τ h a b c
  · exact h2 τ v σ₁ o1 σ₂ o2 f h a b c d e
theorem drop_le {z₁ z₅ : Rz} {I : Addr} {o₂ : Obj} (le : (z₁.pool I o₂).Le z₅) (hn : ∀ p ∈ z₁.all, p.1 ≠ I) : z₁.Le (z₅.drop I) :=
  ⟨le.n, le.ad, fun a o' x y => ⟨mem_drop.mpr ⟨(le.pool a o' (.tail _ x) y).1, hn _ x⟩, (le.pool a o' (.tail _ x) y).2⟩⟩
theorem for_turn {body : List Stmt} (k : c.Ok S n) (hx : ∀ σ, Good S (Ob.H S) en c (execs body c.env) σ (r.ex en body σ) DenF) (Src : Source S en c) {t : Expr} {nn i : Nat} {σ' σ₂ σ₃ τ : St} {p1 p2 : List Ob} {fl f : Fl} {v : SV} {z₁ : Rz} {m₁ : Str → Option Value} {h₂ : Heap} {tk₂ : Nat} {u : Value}
    {s : Shared} {I : Addr} {o₂ : Obj} {RR : Result → Shared → Prop} (hb : bind en t v τ = some ((), σ₂, p1)) (hex : r.ex en body σ₂ = some (f, σ₃, p2)) (hob : Owed S p2) (hf : After f σ₃ fl σ' (∃ n', nn = n' + 1 ∧ Turns S r en t body Src.val n' (i + 1) σ₃ fl σ')) (le₁ : z.Le z₁) (P₁ : Src.P z₁)
    (R₂ : Rep S en c z₁ m₁ τ h₂) (hI : c.h₀.objs.size ≤ I) (hL : c.L ≠ I) (hn₁ : ∀ p ∈ z₁.all, p.1 ≠ I) (ho₂ : h₂.get? I = some o₂) (hIt₂ : Src.It (i + 1) o₂) (du : Den z₁ v u)
    (hR : ∀ f z' m' h' tk', z.Le z' → Rep S en c z' m' σ' h' → DenF z' fl f → RR (.ok f) (Sh s h' tk')) :
    wpAny S.M c.A (PySem.assign t c.env u) (fun _ s₂ => wpAny S.M c.A (execs body c.env) (fun f s₃ => match f with
          | .next | .cont => ∃ m, m < nn ∧ ForInv Src r t body fl σ' z s I m s₃
          | .brk => RR (.ok .next) s₃
          | .ret v => RR (.ok (.ret v)) s₃) (fun _ _ => False) s₂) (fun _ _ => False) (Sh s h₂ tk₂) := by
  have nst : ¬ stays o₂ := let ⟨_, _, _, q⟩ := Src.calm hIt₂; q
  obtain ⟨R₃, ow₃⟩ := R₂.join hI hL hn₁ ho₂
  clear R₂ ho₂
  refine good_bind (s := Sh s h₂ tk₂) k hb R₃ (du.mono (z₁.pool_le _ _)) fun z₄ m₄ h₄ tk₄ le₄ R₄ => ?_
  refine hx σ₂ f σ₃ p2 hex hob z₄ m₄ (Sh s h₄ tk₄) _ _ R₄ fun g z₅ m₅ h₅ tk₅ le₅ R₅ df => ?_
  clear hx hb hex hob R₃ R₄
  have le45 := le₄.trans le₅
  obtain ⟨mI, oI⟩ := le45.pool I o₂ (.head _) ow₃
  have R₆ := R₅.drop mI oI nst
  have lw := R₅.drop_lw mI nst
  have le₆ : z₁.Le (z₅.drop I) := drop_le le45 hn₁
  have again : (∃ n', nn = n' + 1 ∧ Turns S r en t body Src.val n' (i + 1) σ₃ fl σ') → ∃ mm, mm < nn ∧ ForInv Src r t body fl σ' z s I mm (Sh (Sh s h₄ tk₄) h₅ tk₅) := fun ⟨n', hn', T'⟩ =>
    ⟨n', by rw [hn']; exact Nat.lt_succ_self _, h₅, tk₅, i + 1, σ₃, z₅.drop I, m₅, o₂, rfl, T', le₁.trans le₆, Src.mono le₆.w P₁, R₆, fun p hp => of_decide_eq_true (List.mem_filter.mp hp).2, (R₅.news _ mI).1, hIt₂⟩
  clear R₅ le45 mI oI le₄ le₅ ow₃ du P₁ hn₁
  cases f with
  | next => exact DenF.next_el df (again hf)
  | cont => exact DenF.cont_el df (again hf)
  | brk => exact DenF.brk_el df (hR _ _ m₅ h₅ tk₅ (le₁.trans le₆) (hf.2 ▸ R₆) (hf.1 ▸ .next))
  | ret w => exact DenF.ret_el df fun u d => hR _ _ m₅ h₅ tk₅ (le₁.trans le₆) (hf.2 ▸ R₆) (hf.1 ▸ .ret (d.monow lw))
theorem for_sound {body : List Stmt} (k : c.Ok S n) (hx : ∀ σ, Good S (Ob.H S) en c (execs body c.env) σ (r.ex en body σ) DenF) (Src : Source S en c) {t : Expr} {nn : Nat} {σ σ' : St} {fl : Fl} (T : Turns S r en t body Src.val nn 0 σ fl σ')
    {s : Shared} {I : Addr} {o : Obj} {RR : Result → Shared → Prop} (hP : Src.P z) (R : Rep S en c z m σ s.heap) (hI : c.h₀.objs.size ≤ I) (hL : c.L ≠ I) (hn : ∀ p ∈ z.all, p.1 ≠ I) (ho : s.heap.get? I = some o) (hIt : Src.It 0 o)
    (hR : ∀ f z' m' h' tk', z.Le z' → Rep S en c z' m' σ' h' → DenF z' fl f → RR (.ok f) (Sh s h' tk')) : codeAny S.M c.A (.forLoop t (.ref I) body [] c.env) RR s := by
  refine codeFor (ForInv Src r t body fl σ' z s I) ?_ nn ⟨s.heap, s.toks, 0, σ, z, m, o, rfl, T, .refl z, hP, R, hn, ho, hIt⟩
  clear T R hn ho hIt hP
  intro nn s₁ h
  refine ForInv.el h fun h₁ tk₁ i σ₁ z₁ m₁ o₁ T₁ le₁ P₁ R₁ hn₁ ho₁ hIt₁ => ?_
  clear h
  refine turns_el T₁ (fun τ hsub hv hfl hσ => ?_) fun τ v σ₂ p1 σ₃ p2 f hsub hv hb hex hob hf => ?_
  · exact Src.next (s := Sh s h₁ tk₁) _ _ P₁ (hsub c z₁ m₁ h₁ R₁) hn₁ ho₁ hIt₁ hv fun h' tk hs => hR _ z₁ m₁ h' tk le₁ (hσ ▸ (hsub c z₁ m₁ h₁ R₁).other hI hL hn₁ hs) (hfl ▸ .next)
  · refine Src.next (s := Sh s h₁ tk₁) _ _ P₁ (hsub c z₁ m₁ h₁ R₁) hn₁ ho₁ hIt₁ hv fun u h₂ o₂ tk₂ du hs ho₂ hIt₂ => ?_
    refine letOwned_calm (s := Sh s h₂ tk₂) ho₂ (Src.calm hIt₂) ?_
    exact for_turn k hx Src hb hex hob hf le₁ P₁ ((hsub c z₁ m₁ h₁ R₁).other hI hL hn₁ hs.extBut) hI hL hn₁ ho₂ hIt₂ du hR
end
set_option tactic.hygienic false
open PySem PySem.W PySem.Calls PyProof.Rows PySem.SeqAt
section
variable {S : Fix} {en : En} {c : Cx} {n : Nat} {r : Rec} {z : Rz} {m : Str → Option Value} {σ : St}
theorem calm_of {o : Obj} {nm : String} (hc : o.cls = .type nm) (h1 : forClasses.contains nm = false) (h2 : nm ≠ "tuple") (h3 : nm ≠ "range") : calm o :=
  ⟨nm, hc, h1, fun st => by
    rcases st with ⟨vs, rfl⟩ | ⟨lo, hi, t1, t2, t3, rfl⟩
    · injection hc with e; exact h2 e.symm
    · injection hc with e; exact h3 e.symm⟩
theorem DenL.get_none {l : List SV} {vs : List Value} (d : DenL z l vs) {i : Nat} (h : l[i]? = none) : vs[i]? = none := by
  rw [List.getElem?_eq_none_iff] at h ⊢
  rw [← d.length]; exact h
noncomputable def tupVal (l : List SV) (i : Nat) (_ : St) : Option (Option SV) := some l[i]?
noncomputable def srcTup (k : c.Ok S n) (l : List SV) (a : Addr) : Source S en c where
  P := fun z => ∃ vs, (a, tupO vs) ∈ z.all ∧ z.own a = none ∧ DenL z l vs
  It := fun i o => o.cls = .type "tuple_iterator" ∧ o.data = .fields #[.ref a, .int i 0]
  val := tupVal l
  mono := fun lw ⟨vs, m1, o1, d⟩ => ⟨vs, (lw.pool _ _ (.inl ⟨vs, rfl⟩) m1 o1).1, (lw.pool _ _ (.inl ⟨vs, rfl⟩) m1 o1).2, d.monow lw⟩
  calm := fun h => calm_of h.1 (by decide) (by decide) (by decide)
  next := fun {i σ z m s I o q} Q E hP R hn ho hIt hv hq => by
    obtain ⟨vs, m1, o1, d⟩ := hP
    have ht : s.heap.IsTuple a vs.toArray := ⟨_, (R.news _ m1).1, rfl, _, rfl⟩
    have hi : s.heap.IsTupleIter I a i := ⟨o, ho, hIt.1, hIt.2⟩
    have hv : l[i]? = q := Option.some.inj hv
    clear m1 o1 hn ho hIt
    cases q with
    | some x =>
      obtain ⟨u, hu, du⟩ := d.get hv
      exact wpAny_pyNext_tuple_item hi ht (x := u) (by simpa using hu) fun h' ⟨o', ho', h1, h2⟩ hs => hq u h' o' s.toks du hs ho' ⟨h1, h2⟩
    | none => exact wpAny_pyNext_tuple_end k.hd hi ht (by simpa using d.get_none hv) fun h' hs => hq h' s.toks hs
noncomputable abbrev rngIt (x left : Int) : Obj := { cls := .type "range_iterator", dict := none, data := .fields #[rawInt x, rawInt left, rawInt 1], slots := #[] }
noncomputable def rngVal (C : Bool) (hi : Int) (i : Nat) (_ : St) : Option (Option SV) := some (if i < hi.toNat then some (.int C i) else none)
noncomputable def srcRng (k : c.Ok S n) (C : Bool) (hi : Int) : Source S en c where
  P := fun _ => True
  It := fun i o => o = rngIt i (hi.toNat - i)
  val := rngVal C hi
  mono := fun _ h => h
  calm := fun h => by subst h; exact calm_of rfl (by decide) (by decide) (by decide)
  next := fun {i σ z m s I o q} Q E hP R hn ho hIt hv hq => by
    subst hIt
    have hi' : IsRangeIter s.heap I i (hi.toNat - i) 1 := ho
    simp only [rngVal, Option.some.injEq] at hv
    by_cases hlt : i < hi.toNat
    · rw [if_pos hlt] at hv
      subst hv
      refine wpAny_pyNext_range_item hi' (by omega) fun h' hit hs => ?_
      refine hq _ h' _ _ (.int _ _ _) hs hit ?_
      have e1 : ((i + 1 : Nat) : Int) = (i : Int) + 1 := by push_cast; rfl
      rw [e1]
      have e2 : ((hi.toNat : Int) - ((i : Int) + 1)) = (hi.toNat : Int) - i - 1 := by omega
      rw [e2]
    · rw [if_neg hlt] at hv
      subst hv
      exact wpAny_pyNext_range_end k.hd hi' (by omega) fun h' hs => hq h' s.toks hs
noncomputable def seeObj (v : SV) (σ : St) : Option SO := match v with
  | .ref t => match σ.led[t]? with
    | some (.fam _ _) => none
    | some (.ffam _ _ _ _) => none
    | o => o
  | .fam t i => match σ.led[t]? with
    | some (.fam ks f) => if i ∈ ks then some (f i) else none
    | some (.ffam _ _ j o) => if i = j then some o else none
    | _ => none
  | _ => none
theorem seeObj_refEq {t : Nat} {o : SO} (e : seeObj (.ref t) σ = some o) : σ.led[t]? = some o ∧ ksOf o = none := by
  unfold seeObj at e
  dsimp only at e
  cases h : σ.led[t]? with
  | none => rw [h] at e; exact no_some e
  | some ch =>
    rw [h] at e
    have fin : some ch = some o → ksOf ch = none → some ch = some o ∧ ksOf o = none := fun e h => ⟨e, (Option.some.inj e) ▸ h⟩
    clear h
    cases ch <;> first | exact fin e rfl | exact no_some e
theorem seeObj_famEq {t : Nat} {i : Int} {o : SO} (e : seeObj (.fam t i) σ = some o) : (∃ ks f, σ.led[t]? = some (.fam ks f) ∧ i ∈ ks ∧ f i = o) ∨ ∃ ks f j, σ.led[t]? = some (.ffam ks f j o) ∧ i = j := by
  unfold seeObj at e
  dsimp only at e
  cases h : σ.led[t]? with
  | none => rw [h] at e; exact no_some e
  | some ch =>
    rw [h] at e
    cases ch with
    | fam ks f =>
      dsimp only at e
      by_cases hm : i ∈ ks
      · rw [if_pos hm] at e; exact .inl ⟨ks, f, rfl, hm, Option.some.inj e⟩
      · rw [if_neg hm] at e; exact no_some e
    | ffam ks f j o =>
      dsimp only at e
      by_cases hm : i = j
      · rw [if_pos hm] at e; exact .inr ⟨ks, f, j, by rw [Option.some.inj e], hm⟩
      · rw [if_neg hm] at e; exact no_some e
    | _ => exact no_some e
theorem seeObj_at {v : SV} {o : SO} (e : seeObj v σ = some o) {h : Heap} (R : Rep S en c z m σ h) {t : Nat} {i : Int} (hk : keyOf v = some (t, i)) : At S z (t, i) o (z.ad t i) := by
  have led := R.led
  clear R
  cases v with
  | ref t' =>
    obtain ⟨h1, h2⟩ := Prod.mk.inj (Option.some.inj hk)
    rw [← h1, ← h2]
    exact (led _ _ (seeObj_refEq e).1).at (seeObj_refEq e).2
  | fam t' i' =>
    obtain ⟨h1, h2⟩ := Prod.mk.inj (Option.some.inj hk)
    rw [← h1, ← h2]
    rcases seeObj_famEq e with ⟨ks, f, h3, h4, h5⟩ | ⟨ks, f, j, h3, h4⟩
    · exact h5 ▸ (led _ _ h3 _ h4).2
    · exact h4 ▸ (led _ _ h3).2.1.2
  | _ => exact no_some e
noncomputable def listVal (u : SV) (i : Nat) (σ : St) : Option (Option SV) := match seeObj u σ with
  | some (.list _ l) => some l[i]?
  | _ => none
noncomputable def srcList (k : c.Ok S n) (u : SV) (t : Nat) (j : Int) (hk : keyOf u = some (t, j)) (ax : Addr) : Source S en c where
  P := fun z => z.ad t j = ax ∧ z.lv t j
  It := fun i o => o.cls = .type "list_iterator" ∧ o.data = .fields #[.ref ax, .int i 0]
  val := listVal u
  mono := fun lw ⟨h1, h2⟩ => ⟨(lw.ad t j h2).2.trans h1, (lw.ad t j h2).1⟩
  calm := fun h => calm_of h.1 (by decide) (by decide) (by decide)
  next := fun {i σ z m s I o q} Q E hP R hn ho hIt hv hq => by
    obtain ⟨had, hun⟩ := hP
    unfold listVal at hv
    split at hv
    · rename_i C l hl
      refine (seeObj_at hl R hk).list_el fun vs j m1 w1 d => ?_
      rw [had] at m1
      have ht : s.heap.IsList ax vs.toArray := ⟨_, (R.news _ m1).1, rfl, _, rfl⟩
      have hi : s.heap.IsListIter I ax i := ⟨o, ho, hIt.1, hIt.2⟩
      have hv := Option.some.inj hv
      clear hl hn ho hIt m1 w1 had hun
      cases q with
      | some x =>
        obtain ⟨u', hu, du⟩ := d.get hv
        exact wpAny_pyNext_list_item hi ht (x := u') (by simpa using hu) fun h' ⟨o', ho', h1, h2⟩ hs => hq u' h' o' s.toks du hs ho' ⟨h1, h2⟩
      | none => exact wpAny_pyNext_list_end k.hd hi ht (by simpa using d.get_none hv) fun h' hs => hq h' s.toks hs
    · exact no_some hv
noncomputable def dictVal (u len ep : Nat) (i : Nat) (σ : St) : Option (Option SV) := match σ.led[u]? with
  | some (.fdict d e) => if d.length = len ∧ e = ep then some (d[i]?.map (·.1)) else none
  | _ => none
theorem AtomPairs.at_ {d : List (SV × SV)} {kvs : List (Atom × Value)} (h : AtomPairs z d kvs) : ∀ {i : Nat} {p : SV × SV}, d[i]? = some p → ∃ a u, kvs[i]? = some (a, u) ∧ atomOf p.1 = some a := by
  induction h with
  | nil => intro i p h; simp at h
  | @cons k v d a u kvs e dn r ih =>
    intro i p h
    cases i with
    | zero => simp at h; subst h; exact ⟨a, u, rfl, e⟩
    | succ i => simp at h; simpa using ih h
theorem den_atom {x : SV} {a : Atom} {key : Value} (h : atomOf x = some a) (hk : atomIs a key = true) : Den z x key := by
  cases x <;> simp only [atomOf] at h <;> cases h
  · obtain ⟨t, rfl⟩ := atomIs_int hk; exact .int _ _ _
  · obtain ⟨t, rfl⟩ := atomIs_str hk; exact .str _ _
noncomputable def srcDict (k : c.Ok S n) (u len ep : Nat) (ax : Addr) : Source S en c where
  P := fun z => z.ad u 0 = ax ∧ z.lv u 0
  It := fun i o => o.cls = .type "dict_keyiterator" ∧ o.data = .fields #[.ref ax, .int i 0, .int len 0, .int ep 0]
  val := dictVal u len ep
  mono := fun lw ⟨h1, h2⟩ => ⟨(lw.ad u 0 h2).2.trans h1, (lw.ad u 0 h2).1⟩
  calm := fun h => calm_of h.1 (by decide) (by decide) (by decide)
  next := fun {i σ z m s I o q} Q E hP R hn ho hIt hv hq => by
    obtain ⟨had, hun⟩ := hP
    unfold dictVal at hv
    split at hv
    · rename_i d e hl
      split at hv
      · rename_i hh
        obtain ⟨rfl, rfl⟩ := hh
        refine (R.led u _ hl).2.fdict_el fun ob m1 w1 hA => ?_
        rw [had] at m1
        obtain ⟨kvs, hD, hp⟩ := hA.at R m1
        have hi : s.heap.IsKeyIter I ax i kvs.length e := ⟨o, ho, hIt.1, by rw [hIt.2, hp.length]⟩
        have hv := Option.some.inj hv
        clear hl hn ho hIt m1 w1 had hun hA
        cases q with
        | some x =>
          obtain ⟨p, hp1, hx⟩ := Option.map_eq_some_iff.mp hv
          obtain ⟨a, v, hk, ha⟩ := hp.at_ hp1
          exact wpAny_pyNext_dict_item hi hD hk fun key h' hkey ⟨o', ho', h1, h2⟩ hs => hq key h' o' s.toks (hx ▸ den_atom ha hkey) hs ho' ⟨h1, by rw [h2, hp.length]⟩
        | none =>
          have : kvs[i]? = none := by
            rw [Option.map_eq_none_iff, List.getElem?_eq_none_iff] at hv
            rw [List.getElem?_eq_none_iff, ← hp.length]; exact hv
          exact wpAny_pyNext_dict_end k.hd hi hD this fun h' hs => hq h' s.toks hs
      · exact no_some hv
    · exact no_some hv
theorem Rep.push {h : Heap} (R : Rep S en c z m σ h) (o : Obj) : Rep S en c z m σ (h.push o) :=
  ⟨R.fr.keeps fun _ _ e => Heap.get?_push_of_some _ e, fun p hp => ⟨Heap.get?_push_of_some _ (R.news p hp).1, (R.news p hp).2⟩, R.nd, R.dom, R.len, R.led, R.loc, R.cells, R.scope, R.lvn, R.lvk⟩
theorem Rep.reset {h : Heap} (R : Rep S en c z m σ h) {u : Nat} {q : SO} (hks : ∀ i p, z.lv u i → σ.led[u]? = some p → ∀ ks, ksOf q = some ks → i ∈ ks) (hq : Sits S z u q) : Rep S en c z m ⟨σ.loc, σ.led.set u q, σ.orc⟩ h :=
  R.write R.fr R.news rfl rfl rfl rfl (.refl z) (fun _ _ _ _ _ a b => ⟨a, b⟩) hks hq
theorem Rep.swap {h : Heap} (R : Rep S en c z m σ h) {u : Nat} {q : SO} (hq : Sits S z u q) (hu : u < z.n) (hnf : ksOf q = none) : Rep S en c z m ⟨σ.loc, σ.led.set u q, σ.orc⟩ h :=
  R.reset (fun _ _ _ _ _ e => by rw [hnf] at e; cases e) hq
inductive Over (S : Fix) (r : Rec) (en : En) (t : Expr) (body : List Stmt) : SV → St → Fl → St → Prop where
  | tup {l σ fl σ'} (nn : Nat) : Turns S r en t body (tupVal l) nn 0 σ fl σ' → Over S r en t body (.tup l) σ fl σ'
  | rng {C hi σ fl σ'} (nn : Nat) : -1000 < hi → hi < 1000 → Turns S r en t body (rngVal C hi) nn 0 σ fl σ' → Over S r en t body (.rng C 0 hi) σ fl σ'
  | list {u σ fl σ'} (nn : Nat) : (∃ C l, seeObj u σ = some (.list C l)) → Turns S r en t body (listVal u) nn 0 σ fl σ' → Over S r en t body u σ fl σ'
  | dict {u σ C d d'} (nn : Nat) (loc' : Loc) (led' : Led) (o o' : List Orc) : σ.led[u]? = some (.dict C d) → (∀ p ∈ d, ∃ a, atomOf p.1 = some a) → u < led'.length →
      (∀ ep, Turns S r en t body (dictVal u d.length ep) nn 0 ⟨σ.loc, σ.led.set u (.fdict d ep), o⟩ .next ⟨loc', led'.set u (.fdict d' ep), o'⟩) →
      Over S r en t body (.ref u) σ .next ⟨loc', led'.set u (.dict false d'), o'⟩
theorem over_el {t : Expr} {body : List Stmt} {v : SV} {σ' : St} {fl : Fl} (T : Over S r en t body v σ fl σ') {G : Prop} (h1 : ∀ l nn, v = .tup l → Turns S r en t body (tupVal l) nn 0 σ fl σ' → G)
    (h2 : ∀ C hi nn, v = .rng C 0 hi → -1000 < hi → hi < 1000 → Turns S r en t body (rngVal C hi) nn 0 σ fl σ' → G) (h3 : ∀ C l nn, seeObj v σ = some (.list C l) → Turns S r en t body (listVal v) nn 0 σ fl σ' → G)
    (h4 : ∀ (u : Nat) (C : Bool) (d d' : List (SV × SV)) (nn : Nat) (loc' : Loc) (led' : Led) (o o' : List Orc), v = .ref u → fl = .next → σ' = ⟨loc', led'.set u (.dict false d'), o'⟩ → σ.led[u]? = some (.dict C d) → (∀ p ∈ d, ∃ a, atomOf p.1 = some a) → u < led'.length →
      (∀ ep, Turns S r en t body (dictVal u d.length ep) nn 0 ⟨σ.loc, σ.led.set u (.fdict d ep), o⟩ .next ⟨loc', led'.set u (.fdict d' ep), o'⟩) → G) : G := by
  cases T with
  | tup nn T => exact h1 _ nn rfl T
  | rng nn a b T => exact h2 _ _ nn rfl a b T
  | list nn hu T => obtain ⟨C, l, hl⟩ := hu; exact h3 C l nn hl T
  | dict nn loc' led' o o' a b c d => exact h4 _ _ _ _ nn loc' led' o o' rfl rfl rfl a b c d
section
variable {body : List Stmt} {t : Expr} {v : SV} {σ' : St} {fl : Fl} {s : Shared} {u : Value} {RR : Result → Shared → Prop} {E : Value → Shared → Prop} {nn : Nat}
theorem over_tup (k : c.Ok S n) (hx : ∀ σ, Good S (Ob.H S) en c (execs body c.env) σ (r.ex en body σ) DenF) {l : List SV} (T : Turns S r en t body (tupVal l) nn 0 σ fl σ') (R : Rep S en c z m σ s.heap) (d : Den z (.tup l) u) (hI : c.h₀.objs.size ≤ s.heap.objs.size) (hL : c.L ≠ s.heap.objs.size) (hn : ∀ p ∈ z.all, p.1 ≠ s.heap.objs.size)
    (hR : ∀ f z' m' h' tk', z.Le z' → Rep S en c z' m' σ' h' → DenF z' fl f → RR (.ok f) (Sh s h' tk')) : wpAny S.M c.A (pyIter u) (fun it s₂ => codeAny S.M c.A (.forLoop t it body [] c.env) RR s₂) E s :=
  Den.tup_el d fun a vs m1 o1 dl => wpAny_pyIter_tuple ⟨_, (R.news _ m1).1, rfl, _, rfl⟩
    (for_sound (s := { s with heap := s.heap.push _ }) k hx (srcTup k l a) T ⟨vs, m1, o1, dl⟩ (R.push _) hI hL hn (Heap.get?_push_size _ rfl) ⟨rfl, rfl⟩ hR)
theorem over_rng (k : c.Ok S n) (hx : ∀ σ, Good S (Ob.H S) en c (execs body c.env) σ (r.ex en body σ) DenF) {C : Bool} {hi : Int} (h1 : -1000 < hi) (h2 : hi < 1000) (T : Turns S r en t body (rngVal C hi) nn 0 σ fl σ') (R : Rep S en c z m σ s.heap) (d : Den z (.rng C 0 hi) u) (hI : c.h₀.objs.size ≤ s.heap.objs.size) (hL : c.L ≠ s.heap.objs.size)
    (hn : ∀ p ∈ z.all, p.1 ≠ s.heap.objs.size) (hR : ∀ f z' m' h' tk', z.Le z' → Rep S en c z' m' σ' h' → DenF z' fl f → RR (.ok f) (Sh s h' tk')) : wpAny S.M c.A (pyIter u) (fun it s₂ => codeAny S.M c.A (.forLoop t it body [] c.env) RR s₂) E s := by
  refine Den.rng_el d fun a t1 t2 t3 m1 o1 => wpAny_pyIter_range (R.news _ m1).1 (range_small h1 h2) ?_
  refine for_sound (s := { s with heap := s.heap.push _ }) k hx (srcRng k C hi) T trivial (R.push _) hI hL hn (Heap.get?_push_size _ rfl) ?_ hR
  show _ = rngIt ((0 : Nat) : Int) ((hi.toNat : Int) - ((0 : Nat) : Int))
  rw [rangeSize_nat]
  simp [rngIt]
theorem over_list (k : c.Ok S n) (hx : ∀ σ, Good S (Ob.H S) en c (execs body c.env) σ (r.ex en body σ) DenF) {C : Bool} {l : List SV} (hl : seeObj v σ = some (.list C l)) (T : Turns S r en t body (listVal v) nn 0 σ fl σ') (R : Rep S en c z m σ s.heap) (d : Den z v u) (hI : c.h₀.objs.size ≤ s.heap.objs.size) (hL : c.L ≠ s.heap.objs.size)
    (hn : ∀ p ∈ z.all, p.1 ≠ s.heap.objs.size) (hR : ∀ f z' m' h' tk', z.Le z' → Rep S en c z' m' σ' h' → DenF z' fl f → RR (.ok f) (Sh s h' tk')) : wpAny S.M c.A (pyIter u) (fun it s₂ => codeAny S.M c.A (.forLoop t it body [] c.env) RR s₂) E s := by
  have key : ∃ t j, keyOf v = some (t, j) ∧ u = .ref (z.ad t j) ∧ z.lv t j := by
    clear T hR R
    cases v with
    | ref t => exact Den.ref_el d fun ht => ⟨t, 0, rfl, rfl, ht⟩
    | fam t j => exact Den.fam_el d fun ht => ⟨t, j, rfl, rfl, ht⟩
    | _ => exact no_some hl
  obtain ⟨t', j, hk, rfl, ht⟩ := key
  exact (seeObj_at hl R hk).list_el fun vs jj m1 w1 dl => wpAny_pyIter_list ⟨_, (R.news _ m1).1, rfl, _, rfl⟩
    (for_sound (s := { s with heap := s.heap.push _ }) k hx (srcList k v t' j hk (z.ad t' j)) T ⟨rfl, ht⟩ (R.push _) hI hL hn (Heap.get?_push_size _ rfl) ⟨rfl, rfl⟩ hR)
theorem over_dict (k : c.Ok S n) (hx : ∀ σ, Good S (Ob.H S) en c (execs body c.env) σ (r.ex en body σ) DenF) {uu : Nat} {C : Bool} {dd d' : List (SV × SV)} {loc' : Loc} {led' : Led} {oc oc' : List Orc} (hl : σ.led[uu]? = some (.dict C dd)) (hat : ∀ p ∈ dd, ∃ a, atomOf p.1 = some a) (hlen : uu < led'.length)
    (T : ∀ ep, Turns S r en t body (dictVal uu dd.length ep) nn 0 ⟨σ.loc, σ.led.set uu (.fdict dd ep), oc⟩ .next ⟨loc', led'.set uu (.fdict d' ep), oc'⟩) (R : Rep S en c z m σ s.heap) (d : Den z (.ref uu) u) (hI : c.h₀.objs.size ≤ s.heap.objs.size) (hL : c.L ≠ s.heap.objs.size)
    (hn : ∀ p ∈ z.all, p.1 ≠ s.heap.objs.size) (hR : ∀ f z' m' h' tk', z.Le z' → Rep S en c z' m' ⟨loc', led'.set uu (.dict false d'), oc'⟩ h' → DenF z' .next f → RR (.ok f) (Sh s h' tk')) : wpAny S.M c.A (pyIter u) (fun it s₂ => codeAny S.M c.A (.forLoop t it body [] c.env) RR s₂) E s := by
  refine Den.ref_el d fun ht => (R.led uu _ hl).2.dict_el fun o m1 w1 hd => ?_
  have hA : ∃ ep, AtomDict S z dd ep o := by
    rcases hd with h | h
    · exact h
    · refine h.empty ?_
      obtain ⟨es, ep, xs, a, b, c, e, f⟩ := h
      cases f with
      | nil => rfl
      | cons => obtain ⟨a, ha⟩ := hat _ (.head _); cases ha
  obtain ⟨ep, hA⟩ := hA
  obtain ⟨kvs, hD, hp⟩ := hA.at R m1
  refine wpAny_pyIter_dict (R.notModules k m1) hD ?_
  have R' : Rep S en c z m ⟨σ.loc, σ.led.set uu (.fdict dd ep), oc⟩ s.heap := (R.swap (q := .fdict dd ep) (.of_at (.fdict m1 w1 hA) ht) (R.lvn _ _ ht) rfl).orc oc
  refine for_sound (s := { s with heap := s.heap.push _ }) k hx (srcDict k uu dd.length ep (z.ad uu 0)) (T ep) ⟨rfl, ht⟩ (R'.push _) hI hL hn (Heap.get?_push_size _ rfl) ⟨rfl, by rw [hp.length]; rfl⟩ fun f z' m' h' tk' le R₂ df => ?_
  have ht' : z'.lv uu 0 := (le.ad uu 0 ht).1
  refine (R₂.led uu (.fdict d' ep) (List.getElem?_set_self hlen)).2.fdict_el fun o2 m2 w2 hA2 => ?_
  have := R₂.swap (q := .dict false d') (.of_at (.dict m2 w2 (.inl ⟨ep, hA2⟩)) ht') (R₂.lvn _ _ ht') rfl
  rw [List.set_set] at this
  exact hR f z' m' h' tk' le this df
end
theorem over_sound {body : List Stmt} (k : c.Ok S n) (hx : ∀ σ, Good S (Ob.H S) en c (execs body c.env) σ (r.ex en body σ) DenF) {t : Expr} {v : SV} {σ' : St} {fl : Fl} (T : Over S r en t body v σ fl σ') {s : Shared} {u : Value}
    {Q : Flow → Shared → Prop} {E : Value → Shared → Prop} {pos : Pos} (R : Rep S en c z m σ s.heap) (d : Den z v u)
    (hQ : ∀ f z' m' h' tk', z.Le z' → Rep S en c z' m' σ' h' → DenF z' fl f → Q f (Sh s h' tk')) :
    wpAny S.M c.A (pyIter u) (fun it s₂ => codeAny S.M c.A (.forLoop t it body [] c.env) (fun r s' => match r with | .ok f => Q f s' | .error e => cameBackBy S.M c.A c.env E e s') s₂) E s := by
  have hI : c.h₀.objs.size ≤ s.heap.objs.size := Nat.le_trans R.fr.above (Nat.le_of_lt R.fr.ns.lt)
  have hL : c.L ≠ s.heap.objs.size := Nat.ne_of_lt R.fr.ns.lt
  have hn : ∀ p ∈ z.all, p.1 ≠ s.heap.objs.size := fun p hp => Nat.ne_of_lt (Heap.lt_size (R.news p hp).1)
  refine over_el T (fun l nn hv T => ?_) (fun C hi nn hv h1 h2 T => ?_) (fun C l nn hl T => ?_) fun uu C dd d' nn loc' led' o o' hv hfl hσ hl hat hlen T => ?_
  · exact over_tup k hx T R (hv ▸ d) hI hL hn hQ
  · exact over_rng k hx h1 h2 T R (hv ▸ d) hI hL hn hQ
  · exact over_list k hx hl T R d hI hL hn hQ
  · rw [hfl, hσ] at hQ
    exact over_dict k hx hl hat hlen T R (hv ▸ d) hI hL hn hQ
inductive WTurns (S : Fix) (r : Rec) (en : En) (t : Expr) (body : List Stmt) : Nat → St → Fl → St → Prop where
  | done {n σ σ₁ o} : r.ts en t σ = some (false, σ₁, o) → Owed S o → WTurns S r en t body n σ .next σ₁
  | step {n σ σ₁ o1 σ₂ o2 fl fl' σ'} : r.ts en t σ = some (true, σ₁, o1) → Owed S o1 → r.ex en body σ₁ = some (fl, σ₂, o2) → Owed S o2 → (fl = .next ∨ fl = .cont) → WTurns S r en t body n σ₂ fl' σ' → WTurns S r en t body (n + 1) σ fl' σ'
  | brk {n σ σ₁ o1 σ₂ o2} : r.ts en t σ = some (true, σ₁, o1) → Owed S o1 → r.ex en body σ₁ = some (.brk, σ₂, o2) → Owed S o2 → WTurns S r en t body n σ .next σ₂
  | ret {n σ σ₁ o1 σ₂ o2 w} : r.ts en t σ = some (true, σ₁, o1) → Owed S o1 → r.ex en body σ₁ = some (.ret w, σ₂, o2) → Owed S o2 → WTurns S r en t body n σ (.ret w) σ₂
  | sub {n σ τ fl σ'} : Sub S en σ τ → WTurns S r en t body n τ fl σ' → WTurns S r en t body n σ fl σ'
theorem wturns_el {t : Expr} {body : List Stmt} {nn : Nat} {σ σ' : St} {fl : Fl} (T : WTurns S r en t body nn σ fl σ') {G : Prop} (h1 : ∀ τ σ₁ o1, Sub S en σ τ → r.ts en t τ = some (false, σ₁, o1) → Owed S o1 → fl = .next → σ' = σ₁ → G)
    (h2 : ∀ τ σ₁ o1 f σ₂ o2, Sub S en σ τ → r.ts en t τ = some (true, σ₁, o1) → Owed S o1 → r.ex en body σ₁ = some (f, σ₂, o2) → Owed S o2 → After f σ₂ fl σ' (∃ n', nn = n' + 1 ∧ WTurns S r en t body n' σ₂ fl σ') → G) : G := by
  have id : ∀ σ, Sub S en σ σ := fun _ _ _ _ _ x => x
  induction T with
  | done a b => exact h1 _ _ _ (id _) a b rfl rfl
  | @step n σ σ₁ o1 σ₂ o2 fl fl' σ' a b c d e f _ =>
    refine h2 _ _ _ _ _ _ (id _) a b c d ?_
    rcases e with rfl | rfl
    · exact ⟨n, rfl, f⟩
    · exact ⟨n, rfl, f⟩
  | brk a b c d => exact h2 _ _ _ _ _ _ (id _) a b c d ⟨rfl, rfl⟩
  | ret a b c d => exact h2 _ _ _ _ _ _ (id _) a b c d ⟨rfl, rfl⟩
  | sub hs _ ih => exact ih (fun τ σ₁ o1 h => h1 τ σ₁ o1 fun c z m hh x => h c z m hh (hs c z m hh x)) fun τ σ₁ o1 f σ₂ o2 h => h2 τ σ₁ o1 f σ₂ o2 fun c z m hh x => h c z m hh (hs c z m hh x)
noncomputable def WhileInv (S : Fix) (r : Rec) (en : En) (c : Cx) (t : Expr) (body : List Stmt) (fl : Fl) (σ' : St) (z : Rz) (s : Shared) (nn : Nat) (s₁ : Shared) : Prop := ∃ h₁ tk₁ σ₁ z₁ m₁, s₁ = Sh s h₁ tk₁ ∧ WTurns S r en t body nn σ₁ fl σ' ∧ z.Le z₁ ∧ Rep S en c z₁ m₁ σ₁ h₁
@[elab_as_elim] theorem WhileInv.el {t : Expr} {body : List Stmt} {fl : Fl} {σ' : St} {s s₁ : Shared} {nn : Nat} (h : WhileInv S r en c t body fl σ' z s nn s₁) {G : Shared → Prop} (k : ∀ h₁ tk₁ σ₁ z₁ m₁, WTurns S r en t body nn σ₁ fl σ' → z.Le z₁ → Rep S en c z₁ m₁ σ₁ h₁ → G (Sh s h₁ tk₁)) : G s₁ := by
  obtain ⟨h₁, tk₁, σ₁, z₁, m₁, rfl, a, b, c⟩ := h
  exact k h₁ tk₁ σ₁ z₁ m₁ a b c
theorem while_sound {body : List Stmt} {t : Expr} (k : c.Ok S n) (ht : ∀ σ, Good S (Ob.H S) en c (isTrue t c.env (eval t c.env)) σ (r.ts en t σ) fun _ b a => a = b) (hx : ∀ σ, Good S (Ob.H S) en c (execs body c.env) σ (r.ex en body σ) DenF)
    {nn : Nat} {σ' : St} {fl : Fl} (T : WTurns S r en t body nn σ fl σ') {s : Shared} {Q : Flow → Shared → Prop} {E : Value → Shared → Prop} {pos : Pos} (R : Rep S en c z m σ s.heap)
    (hQ : ∀ f z' m' h' tk', z.Le z' → Rep S en c z' m' σ' h' → DenF z' fl f → Q f (Sh s h' tk')) : wpAny S.M c.A (exec (.While t body [] pos) c.env) Q E s := by
  refine wpAny_While ?_
  refine codeAny_whileLoop (WhileInv S r en c t body fl σ' z s) ?_ nn ⟨s.heap, s.toks, σ, z, m, rfl, T, .refl z, R⟩
  clear T R
  intro nn s₁ h
  refine WhileInv.el h fun h₁ tk₁ σ₁ z₁ m₁ T₁ le₁ R₁ => ?_
  clear h
  refine wturns_el T₁ (fun τ σ₂ p1 hsub hts hob hfl hσ => ?_) fun τ σ₂ p1 f σ₃ p2 hsub hts hob hex hob2 hf => ?_
  · refine ht _ _ σ₂ p1 hts hob z₁ m₁ (Sh s h₁ tk₁) _ _ (hsub c z₁ m₁ h₁ R₁) fun a z₂ m₂ h₂ tk₂ le₂ R₂ e => ?_
    rw [show a = false from e, if_neg (by decide)]
    exact wpAny_execs_nil (hQ _ z₂ m₂ h₂ tk₂ (le₁.trans le₂) (hσ ▸ R₂) (hfl ▸ .next))
  · refine ht _ _ σ₂ p1 hts hob z₁ m₁ (Sh s h₁ tk₁) _ _ (hsub c z₁ m₁ h₁ R₁) fun a z₂ m₂ h₂ tk₂ le₂ R₂ e => ?_
    rw [show a = true from e, if_pos rfl]
    refine hx σ₂ f σ₃ p2 hex hob2 z₂ m₂ (Sh s h₂ tk₂) _ _ R₂ fun g z₃ m₃ h₃ tk₃ le₃ R₃ df => ?_
    have le := (le₁.trans le₂).trans le₃
    clear hex ht hx hts R₂ R₁ T₁
    have again : (∃ n', nn = n' + 1 ∧ WTurns S r en t body n' σ₃ fl σ') → ∃ mm, mm < nn ∧ WhileInv S r en c t body fl σ' z s mm (Sh (Sh (Sh s h₁ tk₁) h₂ tk₂ |> fun q => Sh q h₂ tk₂) h₃ tk₃) := fun ⟨n', hn', T'⟩ => ⟨n', by rw [hn']; exact Nat.lt_succ_self _, h₃, tk₃, σ₃, z₃, m₃, rfl, T', le, R₃⟩
    cases f with
    | next => exact DenF.next_el df (again hf)
    | cont => exact DenF.cont_el df (again hf)
    | brk => exact DenF.brk_el df (hQ _ z₃ m₃ h₃ tk₃ le (hf.2 ▸ R₃) (hf.1 ▸ .next))
    | ret w => exact DenF.ret_el df fun u d => hQ _ z₃ m₃ h₃ tk₃ le (hf.2 ▸ R₃) (hf.1 ▸ .ret d)
end
set_option tactic.hygienic true
open PySem PySem.W PySem.Calls PyProof.Rows PySem.SeqAt
section
variable {S : Fix} {en : En} {c : Cx} {n : Nat} {r : Rec}
theorem notComp_swaps {e : Expr} (h : notComp e = true) (t : Option Expr) (l : Nat) (env : Env) : swapsWith e t l env = pure false := by
  cases e <;> first | rfl | cases h
theorem fn_interactive (k : c.Ok S n) : interactive c.env = false := by
  show (c.sc.kind == .module && _) = false
  rw [k.fn]; rfl
section
variable {z : Rz} {m : Str → Option Value} {σ σ' : St} {ob : List Ob} {s : Shared} {Q : Value → Shared → Prop} {E : Value → Shared → Prop} {ov iv q : SV} {u v : Value} {A : Around}
theorem good_getTup {l : List SV} (e : itemTup l iv σ = some (q, σ', ob)) (R : Rep S en c z m σ s.heap) (da : Den z (.tup l) u) (db : Den z iv v) (hQ : ∀ w tk, Rep S en c z m σ' s.heap → Den z q w → Q w (Sh s s.heap tk)) : wpAny S.M A (PySem.getItem u v) Q E s := by
  unfold itemTup at e
  split at e
  · rename_i C kk
    split at e
    · rename_i nn hn
      rw [natOf_some hn] at db
      unfold itemAt at e
      refine isTrue_el e ?_; clear e; intro hb e
      obtain ⟨e1, hQ⟩ := optC e hQ
      refine Den.tup_el da fun a vs m1 o1 dl => Den.int_el db fun tk0 => ?_
      obtain ⟨x, hx, dx⟩ := dl.get (nthV_get e1)
      have hlt : nn < vs.length := (List.getElem?_eq_some_iff.mp hx).1
      have hn : nn < 1000 := Nat.le_of_ble_eq_true hb
      have hk : seqIndex? (Int.ofNat nn) vs.toArray.size = some nn := by
        unfold seqIndex?
        simp
        omega
      have h0 : (0 : Int) ≤ Int.ofNat nn := Int.natCast_nonneg nn
      exact PyProof.Rows.getItem_tuple (j := nn) (x := x) (R.news.isTup m1) (by omega) (by show (nn : Int) < _; omega) hk (by simpa using hx) (hQ x s.toks R dx)
    · exact no_some e
  · exact no_some e
theorem good_getList {C : Bool} {l : List SV} {a : Addr} {vs : List Value} {j : Nat} (e : itemList C l iv σ = some (q, σ', ob)) (ho : Owed S ob) (R : Rep S en c z m σ s.heap) (m1 : (a, listOf vs.toArray j) ∈ z.all) (dl : DenL z l vs) (db : Den z iv v)
    (hQ : ∀ w tk, Rep S en c z m σ' s.heap → Den z q w → Q w (Sh s s.heap tk)) : wpAny S.M A (PySem.getItem (.ref a) v) Q E s := by
  unfold itemList at e
  split at e
  · rename_i e' kk
    split at e
    · rename_i nn hn
      rw [natOf_some hn] at db
      unfold itemAt at e
      refine isTrue_el e ?_; clear e; intro hb e
      obtain ⟨e1, hQ⟩ := optC e hQ
      have hn : nn < 1000 := Nat.le_of_ble_eq_true hb
      obtain ⟨x, hx, dx⟩ := dl.get (nthV_get e1)
      exact Den.int_el db fun tk0 => wpAny_getItem_list (x := x) (items := vs.toArray) ⟨_, (R.news _ m1).1, rfl, _, rfl⟩ (Int.natCast_nonneg nn) (by show (nn : Int) < _; omega) (by simpa using hx) (hQ x s.toks R dx)
    · unfold popItem at e
      split at e
      · rename_i w oc horc
        refine andThen_el e ho ?_; clear e ho; intro _ σ₂ o3 o4 e3 he3 e ho
        obtain ⟨rfl, rfl, rfl⟩ := of3 e3
        refine owe_el e ho ?_; clear e ho; intro o6 h2 e ho
        have h1 : 0 ≤ kk ∧ l[kk.toNat]? = some w := he3 (.item l kk w) (.head _)
        have h2 : kk ≤ 999 := h2
        obtain ⟨x, hx, dx⟩ := dl.get h1.2
        exact Den.int_el db fun tk0 => wpAny_getItem_list (x := x) (items := vs.toArray) ⟨_, (R.news _ m1).1, rfl, _, rfl⟩ h1.1 (by omega) (by simpa using hx) (retC e hQ x s.toks (R.same rfl rfl) dx)
      · exact no_some e
  · exact no_some e
theorem good_getDict (k : c.Ok S (n + 1)) {C : Bool} {d : List (SV × SV)} {a : Addr} {oo : Obj} (e : itemDict C d iv σ = some (q, σ', ob)) (ho : Owed S ob) (R : Rep S en c z m σ s.heap) (m1 : (a, oo) ∈ z.all) (hd : DictR S z d oo) (db : Den z iv v)
    (hQ : ∀ w tk, Rep S en c z m σ' s.heap → Den z q w → Q w (Sh s s.heap tk)) : wpAny S.M c.A (PySem.getItem (.ref a) v) Q E s := by
  unfold itemDict at e
  refine andThen_el e ho ?_; clear e ho; intro rr σ₂ o3 o4 e2 he2 e ho
  obtain ⟨g1, g2, g3, g4, g5⟩ := dictGet_ok e2 he2 hd
  obtain ⟨e1, hQ⟩ := optC e hQ
  rw [e1] at g3
  exact dict_getItem k R m1 hd g2 g1 db g3 fun w tk dw => hQ w tk (R.same g4 g5) dw
theorem good_getItem (k : c.Ok S (n + 1)) (e : item ov iv σ = some (q, σ', ob)) (ho : Owed S ob) (R : Rep S en c z m σ s.heap) (da : Den z ov u) (db : Den z iv v) (hQ : ∀ w tk, Rep S en c z m σ' s.heap → Den z q w → Q w (Sh s s.heap tk)) :
    wpAny S.M c.A (PySem.getItem u v) Q E s := by
  have obj : (andThen (objOf ov σ) fun ob σ => itemOn ob iv σ) = some (q, σ', ob) → wpAny S.M c.A (PySem.getItem u v) Q E s := by
    clear e; intro e
    refine obj_el e ho memH R da ?_; clear e ho da; intro oo t ii o1 o2 e1 hk ht hat hsm e ho
    cases oo with
    | list C l => exact hat.list_el fun vs j m1 w1 dl => good_getList e ho R m1 dl db hQ
    | dict C dd => exact hat.dict_el fun ob m1 w1 hd => good_getDict k e ho R m1 hd db hQ
    | fdict dd ep => exact hat.fdict_el fun ob m1 w1 hA => good_getDict k e ho R m1 (.inl ⟨_, hA⟩) db hQ
    | _ => exact no_some e
  cases ov with
  | tup l => exact good_getTup e R da db hQ
  | _ => exact obj e
end
theorem turns_go {t : Expr} {body : List Stmt} {val : Nat → St → Option (Option SV)} {n i : Nat} {σ σ₁ σ₂ σ' : St} {v : SV} {o1 o2 o : List Ob} {f fl : Fl} {rest : R Fl} (hv : val i σ = some (some v)) (e1 : bind en t v σ = some ((), σ₁, o1)) (e2 : r.ex en body σ₁ = some (f, σ₂, o2)) (he2 : Owed S o2)
    (e : goOn f σ₂ rest = some (fl, σ', o)) (h : rest = some (fl, σ', o) → Turns S r en t body val n (i + 1) σ₂ fl σ') : Turns S r en t body val (n + 1) i σ fl σ' := by
  cases f with
  | next => exact .step hv e1 e2 he2 (.inl rfl) (h e)
  | cont => exact .step hv e1 e2 he2 (.inr rfl) (h e)
  | brk => rw [← (ret_some e).1, ← (ret_some e).2.1]; exact .brk hv e1 e2 he2
  | ret w => rw [← (ret_some e).1, ← (ret_some e).2.1]; exact .ret hv e1 e2 he2
theorem forLoop_turns (L : List SV) (t : Expr) (body : List Stmt) (val : Nat → St → Option (Option SV)) (hv : ∀ i σ, val i σ = some L[i]?) : ∀ (l : List SV) (i : Nat) (σ : St) (fl : Fl) (σ' : St) (o : List Ob), (∀ j, L[i + j]? = l[j]?) → forLoop r en t body l σ = some (fl, σ', o) → Owed S o →
    Turns S r en t body val l.length i σ fl σ' := by
  intro l
  induction l with
  | nil =>
    intro i σ fl σ' o hl e ho
    rw [← (ret_some e).1, ← (ret_some e).2.1]
    exact .done (by rw [hv]; exact congrArg some (hl 0))
  | cons v vs ih =>
    intro i σ fl σ' o hl e ho
    unfold forLoop at e
    refine andThen_el e ho ?_; clear e ho; intro _ σ₁ o1 o2 e1 he1 e ho
    refine andThen_el e ho ?_; clear e ho; intro f σ₂ o3 o4 e2 he2 e ho
    exact turns_go (by rw [hv]; exact congrArg some (hl 0)) e1 e2 he2 e fun e => ih (i + 1) σ₂ fl σ' o4 (fun j => by rw [Nat.add_assoc, Nat.add_comm 1 j]; exact hl (j + 1)) e ho
theorem intsUp_get : ∀ (n : Nat) (a : Int) (i : Nat), (intsUp n a)[i]? = if i < n then some (.int true (a + i)) else none
  | 0, a, i => by simp [intsUp]
  | n + 1, a, 0 => by simp [intsUp]
  | n + 1, a, i + 1 => by
    simp only [intsUp, List.getElem?_cons_succ, intsUp_get n (a + 1) i]
    by_cases q : i < n
    · rw [if_pos q, if_pos (by omega)]; congr 2; push_cast; omega
    · rw [if_neg q, if_neg (by omega)]
theorem seeObj_of {v : SV} {σ σ' : St} {q : SO} {o : List Ob} (e : objOf v σ = some (q, σ', o)) (ho : Owed S o) : seeObj v σ = some q ∧ σ' = σ := by
  cases v with
  | ref t =>
    obtain ⟨h1, h2, h3⟩ := objOf_ref e
    refine ⟨?_, h1⟩
    unfold seeObj
    dsimp only
    rw [h2]
    clear e h2
    cases q <;> first | rfl | exact no_some h3.symm
  | fam t i =>
    obtain ⟨h1, ⟨ks, f, h2, h3, h4⟩ | ⟨ks, f, j, h2, h4⟩⟩ := objOf_fam e
    · refine ⟨?_, h1⟩
      unfold seeObj
      dsimp only
      rw [h2, h3]
      exact if_pos (ho (.mem i ks) (by rw [h4]; exact .head _))
    · refine ⟨?_, h1⟩
      unfold seeObj
      dsimp only
      rw [h2]
      exact if_pos (ho (.same i j) (by rw [h4]; exact .head _))
  | _ => exact no_some e
theorem nthV_none : ∀ {l : List SV} {n : Nat}, nthV l n = none → l[n]? = none
  | [], _, _ => rfl
  | _ :: l, 0, h => no_some h.symm
  | _ :: l, n + 1, h => nthV_none (l := l) h
theorem forList_turns (t : Expr) (body : List Stmt) (u : SV) : ∀ (nn i : Nat) (σ : St) (fl : Fl) (σ' : St) (o : List Ob), forList r en t body u nn i σ = some (fl, σ', o) → Owed S o → (∃ C l, seeObj u σ = some (.list C l)) ∧ Turns S r en t body (listVal u) nn i σ fl σ' := by
  intro nn
  induction nn with
  | zero => exact fun i σ fl σ' o e ho => no_some e
  | succ nn ih =>
    intro i σ fl σ' o e ho
    unfold forList at e
    refine andThen_el e ho ?_; clear e ho; intro ob σ₀ p1 p2 e0 he0 e ho
    obtain ⟨hs, rfl⟩ := seeObj_of e0 he0
    split at e
    · rename_i l
      refine ⟨⟨_, l, hs⟩, ?_⟩
      have hv : listVal u i σ₀ = some l[i]? := by unfold listVal; rw [hs]
      split at e
      · rename_i hi
        rw [← (ret_some e).1, ← (ret_some e).2.1]
        exact .done (by rw [hv, nthV_none hi])
      · rename_i v hi
        refine andThen_el e ho ?_; clear e ho; intro _ σ₁ o1 o2 e1 he1 e ho
        refine andThen_el e ho ?_; clear e ho; intro f σ₂ o3 o4 e2 he2 e ho
        exact turns_go (by rw [hv, nthV_get hi]) e1 e2 he2 e fun e => (ih (i + 1) σ₂ fl σ' o4 e ho).2
    · exact no_some e
theorem intsUp_len : ∀ n a, (intsUp n a).length = n
  | 0, _ => rfl
  | n + 1, a => congrArg Nat.succ (intsUp_len n (a + 1))
theorem forOver_over (t : Expr) (body : List Stmt) {v : SV} {σ σ' : St} {fl : Fl} {o : List Ob} (e : forOver r en t body v σ = some (fl, σ', o)) (ho : Owed S o) : Over S r en t body v σ fl σ' := by
  cases v with
  | tup l => exact .tup l.length (forLoop_turns l t body _ (fun _ _ => rfl) l 0 σ fl σ' o (fun j => by rw [Nat.zero_add]) e ho)
  | rng C lo hi => cases C with
    | true =>
      unfold forOver at e; dsimp only at e
      refine andThen_el e ho ?_; clear e ho; intro _ σ₁ o1 o2 e1 he1 e ho
      obtain ⟨rfl, h1, h2, rfl⟩ := rngOk_ok e1 he1
      refine .rng (hi - 0).toNat h1 h2 ?_
      have := forLoop_turns (S := S) (intsUp (hi - 0).toNat 0) t body (rngVal true hi) (fun i σ => by
        rw [intsUp_get]; unfold rngVal
        rw [Int.sub_zero]
        by_cases q : i < hi.toNat
        · rw [if_pos q, if_pos q, Int.zero_add]
        · rw [if_neg q, if_neg q]) (intsUp (hi - 0).toNat 0) 0 _ fl σ' o2 (fun j => by rw [Nat.zero_add]) e ho
      rw [intsUp_len] at this
      exact this
    | false => exact no_some e
  | ref u =>
    obtain ⟨h1, h2⟩ := forList_turns (S := S) t body _ 200 0 σ fl σ' o e ho
    exact .list 200 h1 h2
  | fam u i =>
    obtain ⟨h1, h2⟩ := forList_turns (S := S) t body _ 200 0 σ fl σ' o e ho
    exact .list 200 h1 h2
  | _ => exact no_some e
theorem whileLoop_turns (t : Expr) (body : List Stmt) : ∀ (nn : Nat) (σ : St) (fl : Fl) (σ' : St) (o : List Ob), whileLoop r en t body nn σ = some (fl, σ', o) → Owed S o → WTurns S r en t body nn σ fl σ' := by
  intro nn
  induction nn with
  | zero => exact fun σ fl σ' o e ho => no_some e
  | succ nn ih =>
    intro σ fl σ' o e ho
    unfold whileLoop at e
    refine andThen_el e ho ?_; clear e ho; intro q σ₁ o1 o2 e1 he1 e ho
    cases q with
    | false =>
      rw [← (ret_some e).1, ← (ret_some e).2.1]
      exact .done e1 he1
    | true =>
      dsimp only at e
      refine andThen_el e ho ?_; clear e ho; intro f σ₂ o3 o4 e2 he2 e ho
      cases f with
      | next => exact .step e1 he1 e2 he2 (.inl rfl) (ih σ₂ fl σ' o4 e ho)
      | cont => exact .step e1 he1 e2 he2 (.inr rfl) (ih σ₂ fl σ' o4 e ho)
      | brk => rw [← (ret_some e).1, ← (ret_some e).2.1]; exact .brk e1 he1 e2 he2
      | ret w => rw [← (ret_some e).1, ← (ret_some e).2.1]; exact .ret e1 he1 e2 he2
theorem notSet_folded {e : Expr} (h : notSet e = true) (env : Env) (x : Value) : foldedSetIterable e env x = pure x := by
  cases e <;> first | rfl | cases h
theorem good_popLoop (k : c.Ok S (n + 1)) (I : Sound S (Ob.H S) n r) {kk : Nat} {st : Stmt} {σ : St} : Good S (Ob.H S) en c (exec st c.env) σ (popLoop r kk en st σ) DenF := by
  intro fl σ' o e ho z m s Q E R hQ
  unfold popLoop at e
  refine isTrue_el e ?_; clear e; intro hle e
  split at e
  · rename_i loc led oc horc
    obtain ⟨h1, h2, h3⟩ := of3 e
    rw [← h3] at ho
    rw [← h1, ← h2] at hQ
    have L : LoopOk S kk en st σ.loc σ.led loc led := ho (.loop kk en st σ.loc σ.led loc led) (.head _)
    exact L c (k.le (Nat.le_succ_of_le (Nat.le_trans (Nat.le_of_ble_eq_true hle) I.fuel))) oc z m s Q E (R.orc oc) fun z' m' h' tk' le R' => hQ .next z' m' h' tk' le R' .next
  · exact no_some e
theorem slice_aug {i : Expr} (h : isNotSlice i = true) (ov iv new : Value) : augStore i ov iv new = (do holding [new, ov, iv] (PySem.setItem ov iv new); release [new, ov, iv] []; pure .next) := by
  cases i <;> first | rfl | cases h
theorem retF {c : Cx} {z : Rz} {s : Shared} {Q : Flow → Shared → Prop} {f fl : Fl} {σ₀ σ' : St} {o : List Ob} {g : Flow} (e : ret f σ₀ = some (fl, σ', o)) (hf : ∀ z, DenF z f g) (hQ : ∀ f z' m' h' tk', z.Le z' → Rep S en c z' m' σ' h' → DenF z' fl f → Q f (Sh s h' tk')) :
    ∀ z' m' h' tk', z.Le z' → Rep S en c z' m' σ₀ h' → Q g (Sh s h' tk') := by
  obtain ⟨rfl, rfl, _⟩ := ret_some e
  exact fun z' m' h' tk' le R => hQ g z' m' h' tk' le R (hf z')
section
variable {op : Operator} {e : Expr} {p : Pos} {σ σ' : St} {o : List Ob} {u : Unit} {z : Rz} {m : Str → Option Value} {s : Shared} {Q : Flow → Shared → Prop} {E : Value → Shared → Prop}
theorem aug_name (k : c.Ok S (n + 1)) (I : Sound S (Ob.H S) n r) {x : Str} {px : Pos} (e1 : augment S.Γ r en (.Name x px) op e σ = some (u, σ', o)) (ho : Owed S o) (R : Rep S en c z m σ s.heap)
    (hQ : ∀ z' m' h' tk', z.Le z' → Rep S en c z' m' σ' h' → Q .next (Sh s h' tk')) : wpAny S.M c.A (exec (.AugAssign (.Name x px) op e p) c.env) Q E s := by
  unfold augment at e1; dsimp only at e1
  refine isTrue_el e1 ?_; clear e1; intro hl e1
  refine andThen_el e1 ho ?_; clear e1 ho; intro a σ₁ o3 o4 e3 he3 e1 ho
  refine andThen_el e1 ho ?_; clear e1 ho; intro b σ₂ o5 o6 e4 he4 e1 ho
  refine andThen_pu e1 ?_; clear e1 ho; intro w σ₃ o7 o8 e5 e1
  unfold evName at e3
  refine isTrue_el e3 ?_; clear e3; intro hb e3
  unfold isLoc at hl
  split at hl
  · rename_i hk
    rw [hk] at e3
    obtain ⟨e7, rfl, _⟩ := opt_some e3
    obtain ⟨u, hu, du⟩ := R.loc x a e7
    rw [R.scope, look_lookup] at hk
    refine wpAny_AugAssign_Name (wpAny_loadName_local k.fn hk R.fr.ns hu ?_)
    refine I.ev en c k.lt e _ b σ₂ o5 e4 he4 z m s _ E R fun y z₁ m₁ h₁ tk₁ le R₁ dy => ?_
    refine good_aug (s := Sh s h₁ tk₁) e5 R₁ (du.mono le) dy fun w' tk R₂ dw => ?_
    exact good_putLoc (s := Sh s h₁ tk) k e1 R₂ dw fun z' m' h' tk' le' R' => hQ z' m' h' tk' (le.trans le') R'
  · exact no_ft hl
theorem aug_attr (V : Valid S.K S.mg S.mb S.Γ) (k : c.Ok S (n + 1)) (I : Sound S (Ob.H S) n r) {ob : Expr} {x : Str} {px : Pos} (e1 : augment S.Γ r en (.Attribute ob x px) op e σ = some (u, σ', o)) (ho : Owed S o) (R : Rep S en c z m σ s.heap)
    (hQ : ∀ z' m' h' tk', z.Le z' → Rep S en c z' m' σ' h' → Q .next (Sh s h' tk')) : wpAny S.M c.A (exec (.AugAssign (.Attribute ob x px) op e p) c.env) Q E s := by
  unfold augment at e1; dsimp only at e1
  refine andThen_el e1 ho ?_; clear e1 ho; intro w σ₁ o3 o4 e3 he3 e1 ho
  refine andThen_el e1 ho ?_; clear e1 ho; intro a σ₂ o5 o6 e4 he4 e1 ho
  refine andThen_el e1 ho ?_; clear e1 ho; intro b σ₃ o7 o8 e5 he5 e1 ho
  refine andThen_el e1 ho ?_; clear e1 ho; intro w' σ₄ o9 o10 e6 he6 e1 ho
  refine wpAny_AugAssign_AttributeAny (I.ev en c k.lt ob _ w σ₁ o3 e3 he3 z m s _ E R fun y z₁ m₁ h₁ tk₁ le R₁ dy => ?_)
  refine good_getAttr (s := Sh s h₁ tk₁) V k e4 he4 R₁ dy fun u z₂ m₂ h₂ tk₂ le₂ R₂ du => ?_
  refine I.ev en c k.lt e _ b σ₃ o7 e5 he5 z₂ m₂ (Sh s h₂ tk₂) _ E R₂ fun v z₃ m₃ h₃ tk₃ le₃ R₃ dv => ?_
  refine good_aug (s := Sh s h₃ tk₃) e6 R₃ (du.mono le₃) dv fun nw tk R₄ dn => ?_
  exact good_setAttr (s := Sh s h₃ tk) V k e1 ho R₄ (dy.mono (le₂.trans le₃)) dn fun z' m' h' tk' le' R' => hQ z' m' h' tk' (((le.trans le₂).trans le₃).trans le') R'
theorem aug_sub (k : c.Ok S (n + 1)) (I : Sound S (Ob.H S) n r) {ob i : Expr} {px : Pos} (e1 : augment S.Γ r en (.Subscript ob i px) op e σ = some (u, σ', o)) (ho : Owed S o) (R : Rep S en c z m σ s.heap)
    (hQ : ∀ z' m' h' tk', z.Le z' → Rep S en c z' m' σ' h' → Q .next (Sh s h' tk')) : wpAny S.M c.A (exec (.AugAssign (.Subscript ob i px) op e p) c.env) Q E s := by
  unfold augment at e1; dsimp only at e1
  refine isTrue_el e1 ?_; clear e1; intro hsl e1
  refine andThen_el e1 ho ?_; clear e1 ho; intro w σ₁ o3 o4 e3 he3 e1 ho
  refine andThen_el e1 ho ?_; clear e1 ho; intro kk σ₂ o5 o6 e4 he4 e1 ho
  refine andThen_el e1 ho ?_; clear e1 ho; intro a σ₃ o7 o8 e5 he5 e1 ho
  refine andThen_el e1 ho ?_; clear e1 ho; intro b σ₄ o9 o10 e6 he6 e1 ho
  refine andThen_el e1 ho ?_; clear e1 ho; intro w' σ₅ o11 o12 e7 he7 e1 ho
  refine wpAny_AugAssign_SubscriptAny (I.ev en c k.lt ob _ w σ₁ o3 e3 he3 z m s _ E R fun y z₁ m₁ h₁ tk₁ le R₁ dy => ?_) (fun _ _ _ => slice_aug hsl _ _ _)
  refine I.ev en c k.lt i _ kk σ₂ o5 e4 he4 z₁ m₁ (Sh s h₁ tk₁) _ E R₁ fun iv z₂ m₂ h₂ tk₂ le₂ R₂ di => ?_
  refine good_getItem (s := Sh s h₂ tk₂) k e5 he5 R₂ (dy.mono le₂) di fun u tk R₃ du => ?_
  refine I.ev en c k.lt e _ b σ₄ o9 e6 he6 z₂ m₂ (Sh s h₂ tk) _ E R₃ fun v z₃ m₃ h₃ tk₃ le₃ R₄ dv => ?_
  refine good_aug (s := Sh s h₃ tk₃) e7 R₄ (du.mono le₃) dv fun nw tk' R₅ dn => ?_
  exact good_setItem (s := Sh s h₃ tk') k e1 ho R₅ (dy.mono (le₂.trans le₃)) (di.mono le₃) dn fun z' h' tk'' le' R' => hQ z' _ h' tk'' (((le.trans le₂).trans le₃).trans le') R'
end
theorem good_augment (V : Valid S.K S.mg S.mb S.Γ) (k : c.Ok S (n + 1)) (I : Sound S (Ob.H S) n r) (t : Expr) (op : Operator) (e : Expr) (p : Pos) (σ : St) :
    Good S (Ob.H S) en c (exec (.AugAssign t op e p) c.env) σ (andThen (augment S.Γ r en t op e σ) fun _ σ => ret .next σ) DenF := by
  intro fl σ' o e0 ho z m s Q E R hQ
  refine andThen_el e0 ho ?_; clear e0 ho; intro _ σ₀ o1 o2 e1 he1 e0 _
  have hQ := retF e0 (fun _ => .next) hQ
  clear e0
  cases t with
  | Name x px => exact aug_name k I e1 he1 R hQ
  | Attribute ob x px => exact aug_attr V k I e1 he1 R hQ
  | Subscript ob i px => exact aug_sub k I e1 he1 R hQ
  | _ => exact no_some e1
end
set_option tactic.hygienic true
open PySem PySem.W PySem.Calls PyProof.Rows PySem.SeqAt
section
variable {S : Fix} {en : En} {c : Cx} {n : Nat} {r : Rec}
noncomputable def star : Expr → Bool
  | .Starred _ _ => true
  | _ => false
theorem star_plain' {v : Expr} (h : plainArg v = true) : star v = false := by
  cases v <;> first | rfl | cases h
noncomputable def nmOn (env : Env) (line : Nat) : Expr → Option Str
  | .Name id pos => if env.kindOf id == some .local && pos.line == line then some id else none
  | _ => none
theorem swappedStores_two (a b : Str) (pa pb : Pos) (v w : Expr) (k1 k2 : Nat) (p1 p2 : Pos) (env : Env) (h1 : (env.blockKind != .function) = false) (h2 : star v = false) (h3 : star w = false)
    (h4 : [Expr.Name a pa, Expr.Name b pb].filterMap (nmOn env pa.line) = [a, b]) (h5 : ([a, b].eraseDups.length != 2) = false) (h6 : [v, w].all (foldedForSure 8) = false) (h7 : [v, w].all (constantsAlone 8) = false) :
    swappedStores [.Tuple [.Name a pa, .Name b pb] k1 p1] (.Tuple [v, w] k2 p2) env = pure (some [a, b]) := by
  have e : swappedStores [.Tuple [.Name a pa, .Name b pb] k1 p1] (.Tuple [v, w] k2 p2) env =
      (if (env.blockKind != .function) = true then pure none else if (star v || (star w || false)) = true then pure none else
        if (([Expr.Name a pa, Expr.Name b pb].filterMap (nmOn env pa.line)).length != 2 || ([Expr.Name a pa, Expr.Name b pb].filterMap (nmOn env pa.line)).eraseDups.length != ([Expr.Name a pa, Expr.Name b pb].filterMap (nmOn env pa.line)).length) = true then pure none else
        if ([v, w].all (foldedForSure 8)) = true then pure none else
        if ([v, w].all (constantsAlone 8)) = true then (unsupported "assign.tuple-of-constant-expressions:order-of-the-stores" >>= fun (_ : Unit) => pure (some ([Expr.Name a pa, Expr.Name b pb].filterMap (nmOn env pa.line))))
        else pure (some ([Expr.Name a pa, Expr.Name b pb].filterMap (nmOn env pa.line)))) := by
    rfl
  rw [e, h1, h2, h3, h4, h6, h7]
  simp only [List.length_cons, List.length_nil, h5, Bool.or_false, Bool.false_or, Bool.false_eq_true, if_false]
  rfl
theorem isLoc_kind {c : Cx} (hs : en.sc = c.sc) {a : Str} (h : isLoc en a = true) : c.env.kindOf a = some .local := by
  unfold isLoc at h
  split at h
  · rename_i e; rw [hs, look_lookup] at e; exact e
  · exact no_ft h
theorem nameAt_some {e : Expr} {q : Str × Pos} (h : nameAt e = some q) : e = .Name q.1 q.2 := by
  cases e with
  | Name a p => rw [← Option.some.inj h]
  | _ => exact no_some h
theorem two_some {α : Type} {l : List α} {q : α × α} (h : two l = some q) : l = [q.1, q.2] := by
  unfold two at h
  split at h
  · exact no_some h
  · split at h
    · rename_i e; rw [one_some e, ← Option.some.inj h]
    · exact no_some h
theorem nameTwo_some {q : Expr × Expr} {n : (Str × Pos) × (Str × Pos)} (h : nameTwo q = some n) : q.1 = .Name n.1.1 n.1.2 ∧ q.2 = .Name n.2.1 n.2.2 := by
  unfold nameTwo at h
  split at h
  · rename_i e
    split at h
    · rename_i e2; rw [← Option.some.inj h]; exact ⟨nameAt_some e, nameAt_some e2⟩
    · exact no_some h
  · exact no_some h
theorem swapOk_parts (k : c.Ok S n) (hs : en.sc = c.sc) {a b : Str × Pos} {v w : Expr} {k1 k2 : Nat} {p1 p2 : Pos} (q : swapOk en a b v w = true) :
    swappedStores [.Tuple [.Name a.1 a.2, .Name b.1 b.2] k1 p1] (.Tuple [v, w] k2 p2) c.env = pure (some [a.1, b.1]) := by
  unfold swapOk at q
  obtain ⟨q, q8⟩ := Bool.and_eq_true_iff.mp q
  obtain ⟨q, q7⟩ := Bool.and_eq_true_iff.mp q
  obtain ⟨q, q6⟩ := Bool.and_eq_true_iff.mp q
  obtain ⟨q, q5⟩ := Bool.and_eq_true_iff.mp q
  obtain ⟨q, q4⟩ := Bool.and_eq_true_iff.mp q
  obtain ⟨q, q3⟩ := Bool.and_eq_true_iff.mp q
  obtain ⟨q1, q2⟩ := Bool.and_eq_true_iff.mp q
  have ka := isLoc_kind hs q3
  have kb := isLoc_kind hs q4
  have hne : a.1 ≠ b.1 := sEq_false ((Bool.not_eq_true' _).mp q6)
  have hline : a.2.line = b.2.line := Nat.eq_of_beq_eq_true q5
  have hblock : (c.env.blockKind != .function) = false := by
    show ((if c.sc.kind.isAnnotationScope = true then ScopeKind.function else c.sc.kind) != .function) = false
    rw [k.fn]; rfl
  have er : ([a.1, b.1].eraseDups.length != 2) = false := by
    have : (b.1 == a.1) = false := beq_eq_false_iff_ne.mpr fun e => hne e.symm
    simp [List.eraseDups_cons, this]
  have hfm : [Expr.Name a.1 a.2, Expr.Name b.1 b.2].filterMap (nmOn c.env a.2.line) = [a.1, b.1] := by
    simp [nmOn, ka, kb, hline]
  exact swappedStores_two a.1 b.1 a.2 b.2 v w _ _ _ _ c.env hblock (star_plain' q1) (star_plain' q2) hfm er ((Bool.not_eq_true' _).mp q7) ((Bool.not_eq_true' _).mp q8)
theorem swapTo_cases {ts vs : List Expr} {e : Expr} {G : Prop} (h1 : swapTo en e ts vs = [e] → G) (h2 : ∀ a b v w, ts = [.Name a.1 a.2, .Name b.1 b.2] → vs = [v, w] → swapOk en a b v w = true → swapTo en e ts vs = [.Name b.1 b.2, .Name a.1 a.2] → G) : G := by
  cases e1 : two ts with
  | none => exact h1 (by unfold swapTo; rw [e1])
  | some q => cases e2 : nameTwo q with
    | none => exact h1 (by unfold swapTo; rw [e1]; dsimp only; rw [e2])
    | some n => cases e3 : two vs with
      | none => exact h1 (by unfold swapTo; rw [e1, e3]; dsimp only; rw [e2])
      | some r => cases e4 : swapOk en n.1 n.2 r.1 r.2 with
        | false => exact h1 (by unfold swapTo; rw [e1, e3]; dsimp only; rw [e2]; dsimp only; rw [e4])
        | true =>
          refine h2 n.1 n.2 r.1 r.2 ?_ (two_some e3) e4 (by unfold swapTo; rw [e1, e3]; dsimp only; rw [e2]; dsimp only; rw [e4])
          rw [two_some e1, (nameTwo_some e2).1, (nameTwo_some e2).2]
theorem swapped_none {e : Expr} {ts : List Expr} {kk : Nat} {p : Pos} (h : swapped en (.Tuple ts kk p) e = none) (env : Env) : swappedStores [.Tuple ts kk p] e env = pure none := by
  cases e with
  | Tuple => exact no_some h.symm
  | _ => rfl
section
variable {e : Expr} {p : Pos} {σ σ' : St} {o : List Ob} {z : Rz} {m : Str → Option Value} {s : Shared} {Q : Flow → Shared → Prop} {E : Value → Shared → Prop} {v : SV} {b : Unit}
theorem good_store (V : Valid S.K S.mg S.mb S.Γ) (k : c.Ok S (n + 1)) (I : Sound S (Ob.H S) n r) {t : Expr} {σ₁ : St} {o1 : List Ob} (hc : notComp e = true) (hsw : swapped en t e = none) (e2 : r.ev en e σ = some (v, σ₁, o1)) (he2 : Owed S o1) (e3 : assign S.Γ r en t v σ₁ = some (b, σ', o)) (ho : Owed S o) (R : Rep S en c z m σ s.heap)
    (hQ : ∀ z' m' h' tk', z.Le z' → Rep S en c z' m' σ' h' → Q .next (Sh s h' tk')) : wpAny S.M c.A (exec (.Assign [t] e p) c.env) Q E s := by
  cases t with
  | Attribute ob x px =>
    unfold assign at e3; dsimp only at e3
    refine andThen_el e3 ho ?_; clear e3 ho; intro w σ₃ o5 o6 e4 he4 e3 ho
    refine plainObj_wpAny_Assign_Attribute (I.ev en c k.lt e _ v σ₁ o1 e2 he2 z m s _ E R fun u z₁ m₁ h₁ tk₁ le R₁ du => ?_) (notComp_swaps hc _ _ _)
    refine I.ev en c k.lt ob σ₁ w σ₃ o5 e4 he4 z₁ m₁ (Sh s h₁ tk₁) _ E R₁ fun ov z₂ m₂ h₂ tk₂ le₂ R₂ dw => ?_
    exact good_setAttr (s := Sh s h₂ tk₂) V k e3 ho R₂ dw (du.mono le₂) fun z' m' h' tk' le' R' => hQ z' m' h' tk' ((le.trans le₂).trans le') R'
  | Subscript ob i px =>
    unfold assign at e3; dsimp only at e3
    refine isTrue_el e3 ?_; clear e3; intro hsl e3
    refine andThen_el e3 ho ?_; clear e3 ho; intro w σ₃ o5 o6 e4 he4 e3 ho
    refine andThen_el e3 ho ?_; clear e3 ho; intro kk σ₄ o7 o8 e5 he5 e3 ho
    refine wpAny_Assign_Subscript (I.ev en c k.lt e _ v _ o1 e2 he2 z m s _ E R fun u z₁ m₁ h₁ tk₁ le R₁ du => ?_) (notComp_swaps hc _ _ _)
    refine I.ev en c k.lt ob _ w σ₃ o5 e4 he4 z₁ m₁ (Sh s h₁ tk₁) _ E R₁ fun ov z₂ m₂ h₂ tk₂ le₂ R₂ dw => ?_
    refine I.ev en c k.lt i _ kk σ₄ o7 e5 he5 z₂ m₂ (Sh s h₂ tk₂) _ E R₂ fun iv z₃ m₃ h₃ tk₃ le₃ R₃ di => ?_
    exact good_setItem (s := Sh s h₃ tk₃) k e3 ho R₃ (dw.mono le₃) di (du.mono (le₂.trans le₃)) fun z' h' tk' le' R' => hQ z' _ h' tk' (((le.trans le₂).trans le₃).trans le') R'
  | Name x px =>
    refine wpAny_Assign_Name (I.ev en c k.lt e _ v σ₁ o1 e2 he2 z m s _ E R fun u z₁ m₁ h₁ tk₁ le R₁ du => ?_) (notComp_swaps hc _ _ _)
    exact good_putLoc (s := Sh s h₁ tk₁) k e3 R₁ du fun z' m' h' tk' le' R' => hQ z' m' h' tk' (le.trans le') R'
  | Tuple ts kk px =>
    refine Assign_Tuple (I.ev en c k.lt e _ v σ₁ o1 e2 he2 z m s _ E R fun u z₁ m₁ h₁ tk₁ le R₁ du => ?_) (by rw [show swapsWithSole [Expr.Tuple ts kk px] e p.line c.env = swapsWith e (some (.Tuple ts kk px)) p.line c.env from rfl]; exact notComp_swaps hc _ _ _) (swapped_none hsw c.env)
    exact good_bind (s := Sh s h₁ tk₁) k (show bind en (.Tuple ts kk px) v σ₁ = _ from e3) R₁ du fun z' m' h' tk' le' R' => hQ z' m' h' tk' (le.trans le') R'
  | _ => exact no_some e3
theorem put_two (k : c.Ok S n) {a a' : Str × Pos} {x1 x2 : SV} {u1 u2 : Value} (e3 : putTup en [.Name a'.1 a'.2, .Name a.1 a.2] [x2, x1] σ = some (b, σ', o)) (R : Rep S en c z m σ s.heap) (d1 : Den z x1 u1) (d2 : Den z x2 u2)
    (hQ : ∀ z' m' h' tk', z.Le z' → Rep S en c z' m' σ' h' → Q .next (Sh s h' tk')) {Q' : Unit → Shared → Prop} (hq : ∀ s, Q .next s → Q' () s) : wpAny S.M c.A (assignInOrder [bindName c.env a'.1, bindName c.env a.1] [u2, u1]) Q' E s := by
  obtain ⟨_, _, σ₃, o5, o6, h1, e4, e6⟩ := putTup_cons e3
  obtain ⟨_, _, σ₄, o7, o8, h2, e5, e7⟩ := putTup_cons e6
  rw [← (Expr.Name.inj h1).1] at e4
  rw [← (Expr.Name.inj h2).1] at e5
  have hσ : σ₄ = σ' := (ret_some (show ret () σ₄ = some (b, σ', o8) from e7)).2.1
  refine assignInOrder_cons (wpAny_bindName (good_putLoc (s := s) k e4 R d2 fun z₃ m₃ h₃ tk₃ le₃ R₃ => ?_))
  refine assignInOrder_cons (wpAny_bindName (good_putLoc (s := Sh s h₃ tk₃) k e5 R₃ (d1.mono le₃) fun z₄ m₄ h₄ tk₄ le₄ R₄ => ?_))
  exact assignInOrder_nil (hq _ (hQ z₄ m₄ h₄ tk₄ (le₃.trans le₄) (hσ ▸ R₄)))
theorem DenL.two {l : List SV} {us : List Value} (d : DenL z l us) (h : 2 = l.length) : ∃ x1 x2 u1 u2, l = [x1, x2] ∧ us = [u1, u2] ∧ Den z x1 u1 ∧ Den z x2 u2 := by
  match l, h with
  | [x1, x2], _ => exact DenL.cons_el d fun u1 us d1 d => DenL.cons_el d fun u2 us d2 d => DenL.nil_el d ⟨x1, x2, u1, u2, rfl, rfl, d1, d2⟩
theorem good_swap (k : c.Ok S (n + 1)) (I : Sound S (Ob.H S) n r) {t : Expr} {σ₁ : St} {o1 : List Ob} {rs : List Expr} {fl : Fl} (hsw : swapped en t e = some rs) (e2 : r.ev en e σ = some (v, σ₁, o1)) (he2 : Owed S o1) (e0 : putSwap en rs v σ₁ = some (fl, σ', o)) (R : Rep S en c z m σ s.heap)
    (hQ : ∀ f z' m' h' tk', z.Le z' → Rep S en c z' m' σ' h' → DenF z' fl f → Q f (Sh s h' tk')) : wpAny S.M c.A (exec (.Assign [t] e p) c.env) Q E s := by
  cases v with
  | tup l =>
    unfold putSwap at e0; dsimp only at e0
    refine andThen_pu e0 ?_; clear e0; intro _ σ₂ o3 o4 e3 e0
    have hQ := retF e0 (fun _ => .next) hQ
    clear e0
    cases t with
    | Tuple ts k1 p1 => cases e with
      | Tuple vs k2 p2 =>
        have hrs : swapTo en (.Tuple vs k2 p2) ts vs = rs := Option.some.inj hsw
        clear hsw
        rw [← hrs] at e3
        refine swapTo_cases (en := en) (ts := ts) (vs := vs) (e := .Tuple vs k2 p2) (fun hw => ?_) fun a a' x y hts hvs hok hw => ?_
        · rw [hw] at e3
          cases hl : l.reverse with
          | nil => rw [hl] at e3; exact no_some e3
          | cons q qs =>
            rw [hl] at e3
            obtain ⟨_, _, _, _, _, h, _⟩ := putTup_cons e3
            exact Expr.noConfusion h
        · rw [hw] at e3
          subst hts hvs
          refine Assign_Tuple_swapped (names := [a.1, a'.1]) (I.ev en c k.lt _ _ _ σ₁ o1 e2 he2 z m s _ E R fun u z₁ m₁ h₁ tk₁ le R₁ du => ?_) rfl (swapOk_parts k R.scope hok)
          refine Den.tup_el du fun x us m1 w1 dl => ?_
          have hlen : 2 = l.length := by rw [← List.length_reverse]; exact (putTup_names _ _ _ _ _ _ e3).1
          refine unpackItemsN_ (s := Sh s h₁ tk₁) R₁.fr R₁.news (R₁.news.isTup m1) k.hd (by rw [List.size_toArray, ← dl.length]; exact hlen) fun h' F' N' => ?_
          have R' : Rep S en c z₁ m₁ σ₁ h' := ⟨F', N', R₁.nd, R₁.dom, R₁.len, R₁.led, R₁.loc, R₁.cells, R₁.scope, R₁.lvn, R₁.lvk⟩
          obtain ⟨x1, x2, u1, u2, rfl, rfl, d1, d2⟩ := dl.two hlen
          exact put_two (s := Sh s h' tk₁) k e3 R' d1 d2 (fun z' m' h' tk' le' R' => hQ z' m' h' tk' (le.trans le') R') fun _ h => h
      | _ => exact no_some hsw
    | _ => exact no_some hsw
  | _ => exact no_some e0
end
theorem good_assign (V : Valid S.K S.mg S.mb S.Γ) (k : c.Ok S (n + 1)) (I : Sound S (Ob.H S) n r) (t e : Expr) (p : Pos) (σ : St) : Good S (Ob.H S) en c (exec (.Assign [t] e p) c.env) σ (stAssign S.Γ r en t e σ) DenF := by
  intro fl σ' o e0 ho z m s Q E R hQ
  unfold stAssign at e0
  refine isTrue_el e0 ?_; clear e0; intro hc e0
  refine andThen_el e0 ho ?_; clear e0 ho; intro v σ₁ o1 o2 e2 he2 e0 ho
  unfold storeTo at e0
  split at e0
  · rename_i hsw
    refine andThen_el e0 ho ?_; clear e0 ho; intro _ σ₂ o3 o4 e3 he3 e0 _
    exact good_store V k I hc hsw e2 he2 e3 he3 R (retF e0 (fun _ => .next) hQ)
  · rename_i rs hsw
    exact good_swap k I hsw e2 he2 e0 R hQ
section
variable {σ : St}
theorem good_return (k : c.Ok S (n + 1)) (I : Sound S (Ob.H S) n r) (e : Expr) (p : Pos) : Good S (Ob.H S) en c (exec (.Return (some e) p) c.env) σ (andThen (r.ev en e σ) fun v σ => ret (.ret v) σ) DenF := by
  intro fl σ' o e0 ho z m s Q E R hQ
  refine andThen_el e0 ho ?_; clear e0 ho; intro v σ₁ o1 o2 e1 he1 e0 ho
  exact wpAny_Return_some (I.ev en c k.lt e _ v _ o1 e1 he1 z m s _ E R fun u z₁ m₁ h₁ tk₁ le R₁ du => retA e0 hQ _ z₁ m₁ h₁ tk₁ le R₁ (.ret du))
theorem good_expr (k : c.Ok S (n + 1)) (I : Sound S (Ob.H S) n r) (e : Expr) (p : Pos) : Good S (Ob.H S) en c (exec (.Expr e p) c.env) σ (andThen (isTrue! (notComp e) σ) fun _ σ => andThen (r.ev en e σ) fun _ σ => ret .next σ) DenF := by
  intro fl σ' o e0 ho z m s Q E R hQ
  refine isTrue_el e0 ?_; clear e0; intro hnc e0
  refine andThen_el e0 ho ?_; clear e0 ho; intro v σ₁ o1 o2 e1 he1 e0 ho
  exact wpAny_Expr_any (I.ev en c k.lt e _ v _ o1 e1 he1 z m s _ E R fun u z₁ m₁ h₁ tk₁ le R₁ du => retF e0 (fun _ => .next) hQ z₁ m₁ h₁ tk₁ le R₁) (fn_interactive k) (notComp_swaps hnc _ _ _)
theorem good_if (k : c.Ok S (n + 1)) (I : Sound S (Ob.H S) n r) (t : Expr) (a b : List Stmt) (p : Pos) : Good S (Ob.H S) en c (exec (.If t a b p) c.env) σ (stIf r en t a b σ) DenF := by
  intro fl σ' o e0 ho z m s Q E R hQ
  unfold stIf at e0
  refine andThen_el e0 ho ?_; clear e0 ho; intro q σ₁ o1 o2 e1 he1 e0 ho
  refine wpAny_If (I.ts en c k.lt t _ q σ₁ o1 e1 he1 z m s _ E R fun u z₁ m₁ h₁ tk₁ le R₁ hu => ?_)
  have hQ : ∀ f z₂ m₂ h₂ tk₂, z₁.Le z₂ → Rep S en c z₂ m₂ σ' h₂ → DenF z₂ fl f → Q f (Sh (Sh s h₁ tk₁) h₂ tk₂) := fun f z₂ m₂ h₂ tk₂ le₂ R₂ df => hQ f z₂ m₂ h₂ tk₂ (le.trans le₂) R₂ df
  rw [show u = q from hu]
  clear e1 hu
  cases q with
  | true =>
    rw [if_pos rfl]
    exact I.ex en c k.lt a σ₁ fl σ' o2 e0 ho z₁ m₁ (Sh s h₁ tk₁) Q E R₁ hQ
  | false =>
    rw [if_neg (by decide)]
    exact I.ex en c k.lt b σ₁ fl σ' o2 e0 ho z₁ m₁ (Sh s h₁ tk₁) Q E R₁ hQ
theorem good_for (k : c.Ok S (n + 1)) (I : Sound S (Ob.H S) n r) (t it : Expr) (body : List Stmt) (p : Pos) : Good S (Ob.H S) en c (exec (.For t it body [] p) c.env) σ (stFor S.Γ r en (.For t it body [] p) t it body [] p σ) DenF := by
  intro fl σ' o e0 ho z m s Q E R hQ
  unfold stFor at e0; dsimp only at e0
  split at e0
  · exact good_popLoop k I fl σ' o e0 ho z m s Q E R hQ
  · refine isTrue_el e0 ?_; clear e0; intro hns e0
    refine andThen_el e0 ho ?_; clear e0 ho; intro v σ₁ o1 o2 e1 he1 e0 ho
    refine wpAny_For (I.ev en c k.lt it _ v σ₁ o1 e1 he1 z m s _ E R fun u z₁ m₁ h₁ tk₁ le R₁ du => ?_) (fun x => notSet_folded hns c.env x)
    exact over_sound (s := Sh s h₁ tk₁) (pos := p) k.lt (fun σ => I.ex en c k.lt body σ) (forOver_over t body e0 ho) R₁ du fun f z₂ m₂ h₂ tk₂ le₂ R₂ df => hQ f z₂ m₂ h₂ tk₂ (le.trans le₂) R₂ df
theorem good_while (k : c.Ok S (n + 1)) (I : Sound S (Ob.H S) n r) (t : Expr) (body : List Stmt) (p : Pos) : Good S (Ob.H S) en c (exec (.While t body [] p) c.env) σ (stWhile S.Γ r en (.While t body [] p) t body [] p σ) DenF := by
  intro fl σ' o e0 ho z m s Q E R hQ
  unfold stWhile at e0; dsimp only at e0
  split at e0
  · exact good_popLoop k I fl σ' o e0 ho z m s Q E R hQ
  · exact while_sound k.lt (fun σ => I.ts en c k.lt t σ) (fun σ => I.ex en c k.lt body σ) (whileLoop_turns t body 200 σ fl σ' o e0 ho) R hQ
end
theorem good_st (V : Valid S.K S.mg S.mb S.Γ) (k : c.Ok S (n + 1)) (I : Sound S (Ob.H S) n r) (st : Stmt) (σ : St) : Good S (Ob.H S) en c (exec st c.env) σ (stStep S.Γ r en st σ) DenF := by
  cases st with
  | Expr e p => exact good_expr k I e p
  | Return v p =>
    cases v with
    | none => exact fun fl σ' o e0 ho z m s Q E R hQ => wpAny_Return_none (retA e0 hQ _ z m s.heap s.toks (.refl z) R (.ret .none))
    | some e => exact good_return k I e p
  | Assign ts e p =>
    cases h1 : one ts with
    | none => intro b σ' o e; unfold stStep at e; dsimp only at e; rw [h1] at e; exact no_some e
    | some t =>
      have e1 := one_some h1
      subst e1
      exact good_assign V k I t e p σ
  | AugAssign t op e p => exact good_augment V k I t op e p σ
  | If t a b p => exact good_if k I t a b p
  | For t it body els p => cases els with
    | nil => exact good_for k I t it body p
    | cons => exact good_none
  | While t body els p => cases els with
    | nil => exact good_while k I t body p
    | cons => exact good_none
  | Continue p => exact fun fl σ' o e0 ho z m s Q E R hQ => wpAny_Continue (retF e0 (fun _ => .cont) hQ z m s.heap s.toks (.refl z) R)
  | Break p => exact fun fl σ' o e0 ho z m s Q E R hQ => wpAny_Break (retF e0 (fun _ => .brk) hQ z m s.heap s.toks (.refl z) R)
  | Pass p => exact fun fl σ' o e0 ho z m s Q E R hQ => wpAny_Pass (retF e0 (fun _ => .next) hQ z m s.heap s.toks (.refl z) R)
  | _ => exact good_none
theorem good_ex (V : Valid S.K S.mg S.mb S.Γ) (k : c.Ok S (n + 1)) (I : Sound S (Ob.H S) n r) : ∀ (l : List Stmt) (σ : St), Good S (Ob.H S) en c (execs l c.env) σ (exStep S.Γ r en l σ) DenF := by
  intro l
  induction l with
  | nil => exact fun σ fl σ' o e0 ho z m s Q E R hQ => wpAny_execs_nil (retF e0 (fun _ => .next) hQ z m s.heap s.toks (.refl z) R)
  | cons st rest ih =>
    intro σ fl σ' o e0 ho z m s Q E R hQ
    unfold exStep at e0
    refine andThen_el e0 ho ?_; clear e0 ho; intro f σ₁ o1 o2 e1 he1 e0 ho
    refine wpAny_execs_cons (good_st V k I st σ f σ₁ o1 e1 he1 z m s _ E R fun g z₁ m₁ h₁ tk₁ le R₁ dg => ?_)
    clear e1
    cases f with
    | next => exact DenF.next_el dg (ih σ₁ fl σ' o2 e0 ho z₁ m₁ (Sh s h₁ tk₁) Q E R₁ fun f z₂ m₂ h₂ tk₂ le₂ R₂ df => hQ f z₂ m₂ h₂ tk₂ (le.trans le₂) R₂ df)
    | cont => exact DenF.cont_el dg (retF e0 (fun _ => .cont) hQ z₁ m₁ h₁ tk₁ le R₁)
    | brk => exact DenF.brk_el dg (retF e0 (fun _ => .brk) hQ z₁ m₁ h₁ tk₁ le R₁)
    | ret v => exact DenF.ret_el dg fun w d => retA e0 hQ _ z₁ m₁ h₁ tk₁ le R₁ (.ret d)
theorem sound (V : Valid S.K S.mg S.mb S.Γ) : ∀ n, Sound S (Ob.H S) n (run S.Γ n)
  | 0 => ⟨fun en c k e σ b σ' o e0 => (nomatch e0), fun en c k e σ b σ' o e0 => (nomatch e0), fun en c k e σ b σ' o e0 => (nomatch e0), fun en c k f a σ b σ' o e0 => (nomatch e0), fun en c k f a σ _ b σ' o e0 => (nomatch e0), Nat.le_refl _⟩
  | n + 1 =>
    have I := sound V n
    ⟨fun en c k e σ => good_ev V k I e σ, fun en c k e σ => good_ts k I e σ, fun en c k l σ => good_ex V k I l σ, fun en c k f a σ => good_apply V builtinFns k I f a σ, fun en c k f a σ hf => good_applyCd V k I f a σ hf, Nat.succ_le_succ I.fuel⟩
end
set_option tactic.hygienic false
open PySem PySem.W PySem.Calls PyProof.Rows PySem.SeqAt
theorem zip_lookup {xs : List Str} {vs : List Value} (hl : xs.length = vs.length) (hn : xs.Nodup) : xs.filterMap (fun n => ((xs.zip vs).lookup n).map (n, ·)) = xs.zip vs := by
  have key : ∀ (xs : List Str) (vs : List Value), xs.length = vs.length → xs.Nodup → ∀ (ys : List (Str × Value)), (∀ x ∈ xs, ys.lookup x = none) → xs.filterMap (fun n => ((ys ++ xs.zip vs).lookup n).map (n, ·)) = xs.zip vs := by
    intro xs
    induction xs with
    | nil => intro vs h _ ys _; simp
    | cons x xs ih =>
      intro vs h hn ys hy
      cases vs with
      | nil => cases h
      | cons v vs =>
        rw [List.nodup_cons] at hn
        have h1 : (ys ++ (x, v) :: xs.zip vs).lookup x = some v := by
          have : ys.lookup x = none := hy x (.head _)
          rw [List.lookup_append, this]
          simp
        simp only [List.zip_cons_cons, List.filterMap_cons, h1, Option.map_some]
        congr 1
        have := ih vs (by simpa using h) hn.2 (ys ++ [(x, v)]) (fun y hy' => by
          rw [List.lookup_append, hy y (.tail _ hy')]
          have : (y == x) = false := by simp; rintro rfl; exact hn.1 hy'
          simp [List.lookup_cons, this])
        simpa using this
  simpa using key xs vs hl hn [] (fun _ _ => rfl)
theorem zip_has {xs : List Str} {vs : List Value} (hl : xs.length = vs.length) : ∀ x ∈ xs, (xs.zip vs).lookup x ≠ none := by
  induction xs generalizing vs with
  | nil => intro x h; cases h
  | cons y ys ih =>
    cases vs with
    | nil => cases hl
    | cons v vs =>
      intro x hx
      rw [List.zip_cons_cons, List.lookup_cons]
      by_cases q : x = y
      · subst q; simp
      · have : (x == y) = false := by simpa using q
        rw [this]
        rcases List.mem_cons.mp hx with h | h
        · exact absurd h q
        · exact ih (by simpa using hl) x h
theorem bind_plain {name qual : Str} {args : List Arg} {kd : List (Option Expr)} {df : List Expr} {body : List Stmt} {scope : Scope} {kV doc pm : Value} {an : Option Addr} {cdv ct : Value} {vs : List Value} (hl : (args.map (·.arg)).length = vs.length) (hn : (args.map (·.arg)).Nodup) :
    bindArgs (fnOf name qual ⟨[], args, none, [], kd, none, df⟩ body scope .none kV doc pm an cdv ct) ⟨vs, []⟩ = pure ((args.map (·.arg)).zip vs) := by
  have h1 : ¬ ((decide (vs.length > (([] : List Str) ++ args.map (fun a : Arg => a.arg)).length) && (none : Option PySem.Arg).isNone) = true) := by
    rw [List.nil_append, hl, decide_eq_false (Nat.lt_irrefl _)]; exact Bool.false_ne_true
  have h2 : ¬ ((!(List.filter (fun n => (((([] : List Str) ++ args.map (fun a : Arg => a.arg)).zip vs).lookup n).isNone) ((([] : List Str) ++ args.map (fun a : Arg => a.arg)).take ((([] : List Str) ++ args.map (fun a : Arg => a.arg)).length - (List.drop ((#[] : Array Value).toList.length - (([] : List Str) ++ args.map (fun a : Arg => a.arg)).length) (#[] : Array Value).toList).length))).isEmpty) = true) := by
    rw [List.filter_eq_nil_iff.mpr fun x hx => ?_]
    · decide
    · have := zip_has hl x (List.mem_of_mem_take hx)
      simpa [Option.isNone_iff_eq_none] using this
  refine (if_neg h1).trans ((if_neg h2).trans ?_)
  show (forIn (List.zip (List.drop _ (([] : List Str) ++ args.map (fun a : Arg => a.arg))) (List.drop _ ([] : List Value))) _ _ >>= _) = _
  rw [List.drop_nil, List.zip_nil_right]
  refine Eq.trans ?_ (congrArg pure (zip_lookup hl hn))
  show (pure (List.filterMap _ ((args.map (fun a : Arg => a.arg)) ++ [])) : Sem (List (Str × Value))) = _
  rw [List.append_nil]; rfl
set_option tactic.hygienic false
open PySem PySem.W PySem.Calls PyProof.Rows PySem.SeqAt
noncomputable def findDef (x : Str) : List Stmt → Fn
  | [] => ⟨[], [], { kind := .function, names := [], isGenerator := false, isCoroutine := false, more := [] }⟩
  | st :: r => match st with
    | .FunctionDef nm args body _ _ _ sc _ _ _ => match sEq nm x with
      | true => ⟨args.args.map (·.arg), body, sc⟩
      | false => findDef x r
    | _ => findDef x r
noncomputable def findCls (x : Str) : List Stmt → List Stmt
  | [] => []
  | st :: r => match st with
    | .ClassDef nm _ _ body _ _ _ _ _ _ _ => match sEq nm x with
      | true => body
      | false => findCls x r
    | _ => findCls x r
noncomputable def topBody : List Stmt := PySem.Challenge.pw_sa0165_01.main.body
noncomputable def defOf (x : String) : Fn := findDef (Str.ofString x) topBody
noncomputable def methOf (C x : String) : Fn := findDef (Str.ofString x) (findCls (Str.ofString C) topBody)
noncomputable def f_fixed_atoms := defOf "fixed_atoms"
noncomputable def f_fixed_functors := defOf "fixed_functors"
noncomputable def f_Symbols_init := methOf "Symbols" "__init__"
noncomputable def f_Symbols_atom := methOf "Symbols" "atom"
noncomputable def f_Symbols_functor := methOf "Symbols" "functor"
noncomputable def f_Symbols_func := methOf "Symbols" "func"
noncomputable def f_KernelClause_init := methOf "KernelClause" "__init__"
noncomputable def f_goal_terms := defOf "goal_terms"
noncomputable def f_goal_special := defOf "goal_special"
noncomputable def f_VarInfo_init := methOf "VarInfo" "__init__"
noncomputable def f_ClausePlan_init := methOf "ClausePlan" "__init__"
noncomputable def f_chunk_numbers := defOf "chunk_numbers"
noncomputable def f_Survey_init := methOf "Survey" "__init__"
noncomputable def f_Survey_meet := methOf "Survey" "meet"
noncomputable def f_Survey_terms := methOf "Survey" "terms"
noncomputable def f_kind_of := defOf "kind_of"
noncomputable def f_slot_order := defOf "slot_order"
noncomputable def f_classify := defOf "classify"
noncomputable def f_CodeState_init := methOf "CodeState" "__init__"
noncomputable def f_emit := methOf "CodeState" "emit"
noncomputable def f_is_void := methOf "CodeState" "is_void"
noncomputable def f_place := methOf "CodeState" "place"
noncomputable def f_head_argument := methOf "Matcher" "head_argument"
noncomputable def f_load_arguments := methOf "CodeMaker" "load_arguments"
noncomputable def f_load_variable := methOf "CodeMaker" "load_variable"
noncomputable def f_goal := methOf "CodeMaker" "goal"
noncomputable def f_clause := methOf "CodeMaker" "clause"
noncomputable def f_abstract_code := defOf "abstract_code"
noncomputable def f_operand_roles := defOf "operand_roles"
noncomputable def f_ends_arguments := defOf "ends_arguments"
noncomputable def f_Occupation_init := methOf "Occupation" "__init__"
noncomputable def f_overlaps := methOf "Occupation" "overlaps"
noncomputable def f_intervals := defOf "intervals"
noncomputable def f_wishes := defOf "wishes"
noncomputable def f_RegisterFile_init := methOf "RegisterFile" "__init__"
noncomputable def f_occupy := methOf "RegisterFile" "occupy"
noncomputable def f_is_free := methOf "RegisterFile" "is_free"
noncomputable def f_wished := methOf "RegisterFile" "wished"
noncomputable def f_rplace := methOf "RegisterFile" "place"
noncomputable def f_by_start := defOf "by_start"
noncomputable def f_real_operand := defOf "real_operand"
noncomputable def f_allocate := defOf "allocate"
noncomputable def f_is_idle := defOf "is_idle"
noncomputable def f_peephole := defOf "peephole"
noncomputable def f_greatest := defOf "greatest"
noncomputable def f_ClauseCode_init := methOf "ClauseCode" "__init__"
noncomputable def f_first_argument_key := defOf "first_argument_key"
noncomputable def f_compile_kernel := defOf "compile_kernel"
noncomputable def f_law_digit := defOf "_law_digit"
noncomputable def f_law_order := defOf "_law_order"
noncomputable def f_law_run := defOf "_law_run"
noncomputable def f_law := defOf "law"
noncomputable def myFns : List (Nat × Fn) := [(88, f_Symbols_atom), (102, f_Symbols_functor), (109, f_Symbols_func), (403, f_emit), (417, f_is_void), (431, f_place), (452, f_head_argument), (621, f_load_variable), (340, f_Survey_meet), (661, f_operand_roles), (668, f_ends_arguments),
  (682, f_Occupation_init), (689, f_overlaps), (729, f_occupy), (736, f_is_free), (743, f_wished), (750, f_rplace), (771, f_real_operand), (764, f_by_start), (785, f_is_idle), (797, f_greatest), (361, f_kind_of), (249, f_VarInfo_init), (60, f_fixed_atoms), (67, f_fixed_functors), (81, f_Symbols_init),
  (214, f_KernelClause_init), (228, f_goal_terms), (235, f_goal_special), (270, f_ClausePlan_init), (319, f_chunk_numbers), (333, f_Survey_init), (347, f_Survey_terms), (368, f_slot_order), (375, f_classify), (396, f_CodeState_init), (614, f_load_arguments), (635, f_goal), (642, f_clause),
  (654, f_abstract_code), (701, f_intervals), (708, f_wishes), (722, f_RegisterFile_init), (778, f_allocate), (790, f_peephole), (811, f_ClauseCode_init), (825, f_first_argument_key), (832, f_compile_kernel), (839, f_law_digit), (846, f_law_order), (853, f_law_run)]
noncomputable def names (l : List String) : List Str := l.map Str.ofString
noncomputable def meths (l : List (String × Nat)) : List (Str × Nat) := l.map fun p => (Str.ofString p.1, p.2)
noncomputable def myCls : List (Nat × Cl) := [
  (154, ⟨some 81, meths [("atom", 88), ("functor", 102), ("func", 109)], names ["texts", "atom_numbers", "functors", "functor_numbers"]⟩),
  (217, ⟨some 214, [], names ["functor", "args", "goals", "count"]⟩),
  (252, ⟨some 249, [], names ["var", "kind", "slot", "first", "unsafe", "last_goal", "count", "first_chunk", "last_chunk"]⟩),
  (308, ⟨some 270, [], names ["infos", "chunks", "needs_env", "env_size", "live_after"]⟩),
  (350, ⟨some 333, meths [("meet", 340), ("terms", 347)], names ["infos"]⟩),
  (645, ⟨some 396, meths [("emit", 403), ("is_void", 417), ("place", 431), ("head_argument", 452), ("load_arguments", 614), ("load_variable", 621), ("goal", 635), ("clause", 642)], names ["kernel", "plan", "code", "seen", "local", "next_temporary"]⟩),
  (692, ⟨some 682, meths [("overlaps", 689)], names ["kind", "number", "start", "stop"]⟩),
  (753, ⟨some 722, meths [("occupy", 729), ("is_free", 736), ("wished", 743), ("place", 750)], names ["taken", "home"]⟩),
  (814, ⟨some 811, [], names ["functor", "key", "instrs", "used"]⟩)]
noncomputable def gRef (x : String) (a : Nat) : Str × SV := (Str.ofString x, .val (.ref a))
noncomputable def gInt (x : String) (i : Int) : Str × SV := (Str.ofString x, .int true i)
noncomputable def myGlobs : List (Str × SV) := [gInt "READS" 1, gInt "WRITES" 2, gInt "UPDATES" 3, gRef "operand_roles" 661, gRef "ends_arguments" 668, gRef "Occupation" 692, gRef "real_operand" 771, gRef "is_idle" 785, gRef "greatest" 797, gRef "VarInfo" 252, gRef "kind_of" 361,
  gInt "F_DOT" 0, gRef "Symbols" 154, gRef "fixed_atoms" 60, gRef "fixed_functors" 67, gRef "KernelClause" 217, gRef "goal_terms" 228, gRef "goal_special" 235, gRef "ClausePlan" 308, gRef "chunk_numbers" 319, gRef "Survey" 350, gRef "slot_order" 368, gRef "classify" 375,
  gRef "CodeMaker" 645, gRef "abstract_code" 654, gRef "intervals" 701, gRef "wishes" 708, gRef "RegisterFile" 753, gRef "by_start" 764, gRef "allocate" 778, gRef "peephole" 790, gRef "ClauseCode" 814, gRef "first_argument_key" 825, gRef "compile_kernel" 832,
  gRef "_law_digit" 839, gRef "_law_order" 846, gRef "_law_run" 853]
noncomputable def myBuiltins : List (Str × Value) := [(Str.ofString "len", .builtin "len"), (Str.ofString "range", .type "range"), (Str.ofString "tuple", .type "tuple"), (Str.ofString "list", .type "list"), (Str.ofString "set", .type "set"), (Str.ofString "isinstance", .builtin "isinstance"), (Str.ofString "sorted", .builtin "sorted")]
noncomputable def Γ₀ : Sta := ⟨myGlobs ++ myBuiltins.map fun p => (p.1, .val p.2), myFns, myCls, [(764, 8), (839, 20), (846, 60), (375, 80), (654, 80), (701, 80), (708, 80), (778, 100), (790, 80), (797, 60), (832, 120), (853, 80)],
  [(188, 30), (203, 30), (226, 30), (518, 40), (575, 40), (646, 20), (653, 40), (655, 20), (675, 30), (718, 40), (734, 90), (740, 60), (743, 40), (760, 30), (808, 40), (815, 20), (817, 30), (843, 20)]⟩
noncomputable def natRun : Option (SV × Led) := match (run Γ₀ 200).ap (.val (.ref 154)) [] ⟨[], [], []⟩ with
  | some (v, σ, _) => some (v, σ.led)
  | none => none
set_option tactic.hygienic true
open PySem PySem.W PySem.Calls PyProof.Rows PySem.SeqAt
noncomputable def fdAt (K : Frag) (a : Nat) : FuncData := match K.lookup a with
  | some ⟨_, _, .func fd, _⟩ => fd
  | _ => default
noncomputable def objAt (K : Frag) (a : Nat) : Obj := (K.lookup a).getD default
noncomputable def FnEq (K : Frag) (a : Nat) (fn : Fn) : Prop :=
  K.lookup a = some ⟨(objAt K a).cls, (objAt K a).dict, .func (fnOf (fdAt K a).name (fdAt K a).qualname ⟨[], (fdAt K a).params.args, none, [], (fdAt K a).params.kw_defaults, none, (fdAt K a).params.defaults⟩ fn.body fn.sc .none (fdAt K a).kwdefaults (fdAt K a).doc
    (fdAt K a).pyModule (fdAt K a).annotations (fdAt K a).code (fdAt K a).closureTuple), (objAt K a).slots⟩
noncomputable def nodupB : List Str → Bool
  | [] => true
  | x :: r => match hasS x r with
    | true => false
    | false => nodupB r
noncomputable def isLocK : Option NameKind → Bool
  | some .local => true
  | _ => false
noncomputable def notCellK : NameKind → Bool
  | .cell => false
  | _ => true
noncomputable def isFnK : ScopeKind → Bool
  | .function => true
  | _ => false
noncomputable def parOk : List Str → List Arg → Bool
  | [], [] => true
  | x :: r, a :: s => match sEq x a.arg with
    | true => parOk r s
    | false => false
  | _, _ => false
noncomputable def FnB (K : Frag) (a : Nat) (fn : Fn) : Bool :=
  keepIn K (.ref a) && codeIn K (fdAt K a).code (fdAt K a).qualname && parOk fn.params (fdAt K a).params.args && fn.params.all (fun x => isLocK (look x fn.sc.names)) && nodupB fn.params && fn.sc.names.all (fun p => notCellK p.2) &&
    !fn.sc.isCoroutine && !fn.sc.isGenerator && isFnK fn.sc.kind
theorem hasS_iff {x : Str} : ∀ {l : List Str}, hasS x l = true ↔ x ∈ l
  | [] => by simp [hasS]
  | a :: r => by
    simp only [hasS]
    cases h : sEq a x with
    | true => rw [sEq_iff.mp h]; simp
    | false => have := sEq_false h; simp only [List.mem_cons]; rw [hasS_iff (l := r)]; exact ⟨.inr, fun q => q.resolve_left fun e => this e.symm⟩
theorem nodupB_ok : ∀ {l : List Str}, nodupB l = true → l.Nodup
  | [], _ => List.nodup_nil
  | x :: r, h => by
    simp only [nodupB] at h
    split at h
    · cases h
    · rename_i q
      exact List.nodup_cons.mpr ⟨fun e => (by rw [hasS_iff.mpr e] at q; cases q), nodupB_ok h⟩
theorem parOk_ok : ∀ {l : List Str} {m : List Arg}, parOk l m = true → l = m.map (·.arg)
  | [], [], _ => rfl
  | x :: r, a :: s, h => by
    simp only [parOk] at h
    split at h
    · rename_i q; rw [List.map_cons, ← parOk_ok h, sEq_iff.mp q]
    · cases h
  | [], _ :: _, h => by cases h
  | _ :: _, [], h => by cases h
theorem fnOk_of {K : Frag} {a : Nat} {fn : Fn} (h1 : FnEq K a fn) (h2 : FnB K a fn = true) : FnOk K a fn := by
  unfold FnB at h2
  simp only [Bool.and_eq_true, Bool.not_eq_true'] at h2
  obtain ⟨⟨⟨⟨⟨⟨⟨⟨h3, h4⟩, h5⟩, h6⟩, h7⟩, h8⟩, h9⟩, h10⟩, h11⟩ := h2
  have hp := parOk_ok h5
  refine ⟨h3, ⟨_, _, _, _, _, _, _, _, _, _, _, _, _, h1, h4, fun vs hl => ?_⟩, fun x hx => ?_, nodupB_ok h7, fun x hx => ?_, h9, h10, ?_⟩
  · rw [bind_plain (by rw [← hp]; exact hl.symm) (by rw [← hp]; exact nodupB_ok h7), ← hp]
  · have := List.all_eq_true.mp h6 x hx
    unfold isLocK at this
    split at this
    · rename_i e; rw [look_lookup] at e; exact e
    · cases this
  · have := List.all_eq_true.mp h8 x hx
    intro e
    rw [e] at this; cases this
  · unfold isFnK at h11
    split at h11
    · assumption
    · cases h11
noncomputable def ClB (K : Frag) (C : Nat) (cl : Cl) : Bool :=
  keepIn K (.ref C) && cl.flds.all (fun x => fldK K C x) && makesIn K C && (match cl.init with
    | some g => (findIn K (.ref C) "__init__" == some (some (.ref g))) && isFn K (.ref g)
    | none => true) && cl.meths.all (fun p => methK K C p.1 p.2)
theorem clOk_of {K : Frag} {C : Nat} {cl : Cl} (h : ClB K C cl = true) : ClOk K C cl := by
  unfold ClB at h
  simp only [Bool.and_eq_true] at h
  obtain ⟨⟨⟨⟨h1, h2⟩, h3⟩, h4⟩, h5⟩ := h
  refine ⟨h1, fun x hx => List.all_eq_true.mp h2 x (hasS_iff.mp hx), h3, fun g hg => ?_, fun x f hx => ?_⟩
  · rw [hg] at h4
    simp only [Bool.and_eq_true, beq_iff_eq] at h4
    exact h4
  · rw [look_lookup] at hx
    have hm : (x, f) ∈ cl.meths := by
      have : ∀ {l : List (Str × Nat)}, l.lookup x = some f → (x, f) ∈ l := by
        intro l
        induction l with
        | nil => intro h; cases h
        | cons p r ih =>
          intro h
          obtain ⟨y, g⟩ := p
          rw [List.lookup_cons] at h
          by_cases q : x = y
          · subst q; simp at h; subst h; exact .head _
          · have : (x == y) = false := by simpa using q
            rw [this] at h; exact .tail _ (ih h)
      exact this hx
    exact List.all_eq_true.mp h5 (x, f) hm
noncomputable def gOk (K : Frag) (p : Str × SV) : Prop := match p.2 with
  | .val v => nsIn K mainGlobals p.1 = some (some v)
  | .int _ i => ∃ t, nsIn K mainGlobals p.1 = some (some (.int i t))
  | _ => False
noncomputable def gOkB (K : Frag) (p : Str × SV) : Bool := match p.2 with
  | .val v => match nsIn K mainGlobals p.1, v with
    | some (some (.ref a)), .ref b => Nat.beq a b
    | _, _ => false
  | .int _ i => match nsIn K mainGlobals p.1 with
    | some (some (.int j _)) => intEq j i
    | _ => false
  | _ => false
theorem gOk_of {K : Frag} {p : Str × SV} (h : gOkB K p = true) : gOk K p := by
  obtain ⟨x, w⟩ := p
  unfold gOkB at h
  unfold gOk
  dsimp only at h ⊢
  split at h
  · split at h
    · rename_i a b e; rw [e, Nat.eq_of_beq_eq_true h]
    · cases h
  · split at h
    · rename_i t e; rw [intEq_iff] at h; rw [of_decide_eq_true h] at e; exact ⟨_, e⟩
    · cases h
  · cases h
noncomputable def bOkB (K : Frag) (p : Str × Value) : Bool := match nsIn K mainGlobals p.1 with
  | some none => !sEq p.1 (Str.ofString "__name__")
  | _ => false
noncomputable def AllFn (K : Frag) : List (Nat × Fn) → Prop
  | [] => True
  | p :: r => FnEq K p.1 p.2 ∧ AllFn K r
structure TopOk (K : Frag) : Prop where
  fe : AllFn K myFns
  fb : myFns.all (fun p => FnB K p.1 p.2) = true
  cb : myCls.all (fun p => ClB K p.1 p.2) = true
  gb : myGlobs.all (gOkB K) = true
  bb : myBuiltins.all (bOkB K) = true
theorem lookN_mem {α : Type} {x : Nat} {v : α} : ∀ {l : List (Nat × α)}, lookN x l = some v → (x, v) ∈ l
  | [], h => by cases h
  | p :: r, h => by
    simp only [lookN] at h
    split at h
    · rename_i q
      cases h
      have : p.1 = x := Nat.eq_of_beq_eq_true q
      subst this; exact .head _
    · exact .tail _ (lookN_mem h)
theorem allFn_mem {K : Frag} : ∀ {l : List (Nat × Fn)}, AllFn K l → ∀ p ∈ l, FnEq K p.1 p.2
  | [], _, p, hp => nomatch hp
  | q :: r, h, p, hp => by
    rcases List.mem_cons.mp hp with rfl | hp
    · exact h.1
    · exact allFn_mem h.2 p hp
theorem look_mem' {α : Type} {x : Str} {v : α} {l : List (Str × α)} (h : look x l = some v) : (x, v) ∈ l := by
  induction l with
  | nil => cases h
  | cons p r ih =>
    simp only [look] at h
    split at h
    · rename_i q
      cases h
      have := sEq_iff.mp q
      subst this; exact .head _
    · exact .tail _ (ih h)
theorem valid_of {K : Frag} (T : TopOk K) {h : Heap} {mg mb : Str → Option Value} (X : K.In h) (G : h.Ns mainGlobals mg) (B : ∀ x : Str, x ≠ "__name__" → mb x = bootBuiltins x) (hb : ∀ p ∈ myBuiltins, bootBuiltins p.1 = some p.2) : Valid K mg mb Γ₀ := by
  refine ⟨fun x w e => ?_, fun a fn e => ?_, fun a cl e => ?_⟩
  · have hm := look_mem' e
    have hm : (x, w) ∈ myGlobs ++ myBuiltins.map fun p => (p.1, SV.val p.2) := hm
    rcases List.mem_append.mp hm with hm | hm
    · have g := gOk_of (List.all_eq_true.mp T.gb (x, w) hm)
      unfold gOk at g
      dsimp only at g
      split at g
      · exact ⟨_, fun z => .val _, .inl (mg_of X G g)⟩
      · obtain ⟨t, g⟩ := g
        exact ⟨_, fun z => .int _ _ _, .inl (mg_of X G g)⟩
      · exact g.elim
    · obtain ⟨p, hp, e⟩ := List.mem_map.mp hm
      cases e
      have g := List.all_eq_true.mp T.bb p hp
      unfold bOkB at g
      split at g
      · rename_i q
        exact ⟨_, fun z => .val _, .inr ⟨mg_none_of X G q, (B _ (sEq_false (by simpa using g))).trans (hb p hp)⟩⟩
      · cases g
  · have hm : (a, fn) ∈ myFns := lookN_mem e
    exact fnOk_of (allFn_mem T.fe _ hm) (List.all_eq_true.mp T.fb (a, fn) hm)
  · have hm : (a, cl) ∈ myCls := lookN_mem e
    exact clOk_of (List.all_eq_true.mp T.cb (a, cl) hm)
set_option tactic.hygienic false
open PySem PySem.W PySem.Calls PyProof.Rows PySem.SeqAt
section
variable {S : Fix} {en : En} {c : Cx} {n : Nat} {r : Rec} {z : Rz} {m : Str → Option Value} {σ : St}
theorem Rep.joins {h : Heap} : ∀ {l : List (Addr × Obj)} {z : Rz}, Rep S en c z m σ h → (l.map (·.1)).Nodup → (∀ q ∈ l, c.h₀.objs.size ≤ q.1 ∧ c.L ≠ q.1 ∧ (∀ p ∈ z.all, p.1 ≠ q.1) ∧ h.get? q.1 = some q.2) →
    ∃ z', z.Le z' ∧ Rep S en c z' m σ h ∧ (∀ q ∈ l, q ∈ z'.all ∧ z'.own q.1 = none) ∧ (∀ a o, (a, o) ∈ z'.all → (a, o) ∈ z.all ∨ (a, o) ∈ l)
  | [], z, R, _, _ => ⟨z, .refl z, R, fun _ hq => (nomatch hq), fun a o x => .inl x⟩
  | q :: l, z, R, nd, h => by
    rw [List.map_cons, List.nodup_cons] at nd
    obtain ⟨h1, h2, h3, h4⟩ := h q (.head _)
    obtain ⟨R', ho⟩ := R.join h1 h2 h3 h4
    obtain ⟨z', le, R'', hin, hall⟩ := R'.joins (l := l) nd.2 fun q' hq' => by
      obtain ⟨g1, g2, g3, g4⟩ := h q' (.tail _ hq')
      refine ⟨g1, g2, fun p hp => ?_, g4⟩
      rcases List.mem_cons.mp hp with rfl | hp
      · exact fun e => nd.1 (e ▸ List.mem_map_of_mem hq')
      · exact g3 p hp
    refine ⟨z', (z.pool_le q.1 q.2).trans le, R'', fun q' hq' => ?_, fun a o x => ?_⟩
    · rcases List.mem_cons.mp hq' with rfl | hq'
      · exact le.pool _ _ (.head _) ho
      · exact hin q' hq'
    · rcases hall a o x with x | x
      · rcases List.mem_cons.mp x with x | x
        · exact .inr (x ▸ .head _)
        · exact .inl x
      · exact .inr (.tail _ x)
noncomputable def Rz.drops (z : Rz) (l : List Addr) : Rz := ⟨z.all.filter (fun p => decide (p.1 ∉ l)), z.own, z.ad, z.n, z.lv⟩
theorem mem_drops {z : Rz} {l : List Addr} {a : Addr} {o : Obj} : (a, o) ∈ (z.drops l).all ↔ (a, o) ∈ z.all ∧ a ∉ l := by
  unfold Rz.drops; simp [List.mem_filter]
theorem Rep.drops {h : Heap} (R : Rep S en c z m σ h) {l : List (Addr × Obj)} (hl : ∀ q ∈ l, q ∈ z.all ∧ z.own q.1 = none ∧ ¬ stays q.2) : z.Lw (z.drops (l.map (·.1))) ∧ Rep S en c (z.drops (l.map (·.1))) m σ h := by
  have lw : z.Lw (z.drops (l.map (·.1))) := ⟨Nat.le_refl _, fun _ _ h => ⟨h, rfl⟩, fun a o' st m1 o1 => ⟨mem_drops.mpr ⟨m1, fun e => by
    obtain ⟨q, hq, e⟩ := List.mem_map.mp e
    subst e
    obtain ⟨h1, _, h3⟩ := hl q hq
    exact h3 (R.one m1 h1 ▸ st)⟩, o1⟩⟩
  have hne : ∀ {a : Addr} {k : Nat × Int}, z.own a = some k → a ∉ l.map (·.1) := fun q e => by
    obtain ⟨q', hq', e⟩ := List.mem_map.mp e
    rw [← e, (hl q' hq').2.1] at q; cases q
  refine ⟨lw, R.fr, fun p hp => R.news p (List.mem_filter.mp hp).1, List.Sublist.nodup (List.Sublist.map _ List.filter_sublist) R.nd, fun a k e => ⟨(R.dom a k e).1, ?_⟩, R.len, fun t q e => ?_, fun x w e => ?_, R.cells, R.scope, R.lvn, R.lvk⟩
  · obtain ⟨p, hp, e2⟩ := List.mem_map.mp (R.dom a k e).2
    exact List.mem_map.mpr ⟨p, List.mem_filter.mpr ⟨hp, decide_eq_true (e2 ▸ hne e)⟩, e2⟩
  · exact (R.led t q e).keepw lw fun i a o' x y => ⟨mem_drops.mpr ⟨x, hne y⟩, y⟩
  · obtain ⟨v, a, b⟩ := R.loc x w e
    exact ⟨v, a, b.monow lw⟩
noncomputable abbrev testsOf (ifs : List Expr) (env : Env) : Sem Bool := forIn ifs true fun c r => if r = true then do let ok ← isTrue c env (eval c env); pure (ForInStep.yield ok) else pure (ForInStep.yield r)
structure Three (c : Cx) (I C D : Addr) : Prop where
  hI : c.h₀.objs.size ≤ I
  hL : c.L ≠ I
  hC : c.h₀.objs.size ≤ C
  hLC : c.L ≠ C
  hD : c.h₀.objs.size ≤ D
  hLD : c.L ≠ D
  hIC : I ≠ C
  hID : I ≠ D
  hDC : D ≠ C
structure CompAt (Src : Source S en c) (σ : St) (z z₁ : Rz) (m₁ : Str → Option Value) (h : Heap) (I C D : Addr) : Prop where
  le : z.Le z₁
  P : Src.P z₁
  R : Rep S en c z₁ m₁ σ h
  no : ∀ q ∈ z₁.all, q.1 ≠ I ∧ q.1 ≠ C ∧ q.1 ≠ D
theorem CompAt.other {Src : Source S en c} {z₁ : Rz} {m₁ : Str → Option Value} {h h' : Heap} {I C D X : Addr} (A : CompAt Src σ z z₁ m₁ h I C D) (hX : c.h₀.objs.size ≤ X) (hL : c.L ≠ X) (hn : ∀ q ∈ z₁.all, q.1 ≠ X) (hs : Heap.ExtBut X h h') : CompAt Src σ z z₁ m₁ h' I C D :=
  ⟨A.le, A.P, A.R.other hX hL hn hs, A.no⟩
theorem comp_leave {Src : Source S en c} {z₁ : Rz} {m₁ : Str → Option Value} {h₃ : Heap} {I C D : Addr} {oI oC oD : Obj} (T : Three c I C D) (A : CompAt Src σ z z₁ m₁ h₃ I C D) (gI : h₃.get? I = some oI) (gC : h₃.get? C = some oC) (gD : h₃.get? D = some oD) (nI : ¬ stays oI) (nC : ¬ stays oC) (nD : ¬ stays oD)
    {G : Prop} (g : ∀ z₄, z₁.Le z₄ → Rep S en c z₄ m₁ σ h₃ → (C, oC) ∈ z₄.all ∧ z₄.own C = none → (∀ z₅ m₅ h₅, z₄.Le z₅ → Rep S en c z₅ m₅ σ h₅ → ∃ z₆, z₅.Lw z₆ ∧ z₁.Le z₆ ∧ CompAt Src σ z z₆ m₅ h₅ I C D ∧ h₅.get? I = some oI ∧ h₅.get? C = some oC ∧ h₅.get? D = some oD) → G) : G := by
  have three : ∀ q ∈ [(I, oI), (C, oC), (D, oD)], c.h₀.objs.size ≤ q.1 ∧ c.L ≠ q.1 ∧ (∀ p ∈ z₁.all, p.1 ≠ q.1) ∧ h₃.get? q.1 = some q.2 :=
    List.forall_mem_cons.mpr ⟨⟨T.hI, T.hL, fun p hp => (A.no p hp).1, gI⟩, List.forall_mem_cons.mpr ⟨⟨T.hC, T.hLC, fun p hp => (A.no p hp).2.1, gC⟩, List.forall_mem_singleton.mpr ⟨T.hD, T.hLD, fun p hp => (A.no p hp).2.2, gD⟩⟩⟩
  have nst : ∀ q ∈ [(I, oI), (C, oC), (D, oD)], ¬ stays q.2 := List.forall_mem_cons.mpr ⟨nI, List.forall_mem_cons.mpr ⟨nC, List.forall_mem_singleton.mpr nD⟩⟩
  have nd3 : ([(I, oI), (C, oC), (D, oD)].map (·.1)).Nodup := by simp [T.hIC, T.hID, Ne.symm T.hDC]
  obtain ⟨z₄, le₄, R₄, hin₄, _⟩ := A.R.joins nd3 three
  refine g z₄ le₄ R₄ (hin₄ _ (.tail _ (.head _))) fun z₅ m₅ h₅ le₅ R₅ => ?_
  have hq : ∀ q ∈ [(I, oI), (C, oC), (D, oD)], q ∈ z₅.all ∧ z₅.own q.1 = none ∧ ¬ stays q.2 := fun q hq => ⟨(le₅.pool _ _ (hin₄ q hq).1 (hin₄ q hq).2).1, (le₅.pool _ _ (hin₄ q hq).1 (hin₄ q hq).2).2, nst q hq⟩
  have R₆ := R₅.drops hq
  have l14 := le₄.trans le₅
  have le₆ : z₁.Le (z₅.drops ([(I, oI), (C, oC), (D, oD)].map (·.1))) := ⟨l14.n, l14.ad, fun a o x y => ⟨mem_drops.mpr ⟨(l14.pool a o x y).1, fun h => by
    have := A.no _ x
    rcases List.mem_cons.mp h with h | h
    · exact this.1 h
    · rcases List.mem_cons.mp h with h | h
      · exact this.2.1 h
      · exact this.2.2 (List.mem_singleton.mp h)⟩, (l14.pool a o x y).2⟩⟩
  refine ⟨_, R₆.1, le₆, ⟨A.le.trans le₆, Src.mono le₆.w A.P, R₆.2, fun q hq' => ?_⟩, (R₅.news _ (hq _ (.head _)).1).1, (R₅.news _ (hq _ (.tail _ (.head _))).1).1, (R₅.news _ (hq _ (.tail _ (.tail _ (.head _)))).1).1⟩
  have h := of_decide_eq_true (List.mem_filter.mp hq').2
  exact ⟨fun e => h (e ▸ .head _), fun e => h (e ▸ .tail _ (.head _)), fun e => h (e ▸ .tail _ (.tail _ (.head _)))⟩
theorem range_filter (p : Nat → Bool) (i : Nat) : (List.range (i + 1)).filter p = (List.range i).filter p ++ (if p i = true then [i] else []) := by
  rw [List.range_succ, List.filter_append]
  by_cases q : p i = true
  · simp [q]
  · simp [q]
noncomputable def CompInv (Src : Source S en c) (σ : St) (N : Nat) (p : Nat → Bool) (y : Nat → SV) (z : Rz) (s : Shared) (I C D : Addr) (n' : Nat) (s' : Shared) : Prop :=
  ∃ h' tk i z₁ m₁ mC o₁ ys, s' = Sh s h' tk ∧ i ≤ N ∧ n' = N + 1 - i ∧ CompAt Src σ z z₁ m₁ h' I C D ∧ h'.get? I = some o₁ ∧ Src.It i o₁ ∧ h'.Ns C mC ∧ h'.PlainList D ys ∧ DenL z₁ (((List.range i).filter p).map y) ys.toList
@[elab_as_elim] theorem CompInv.el {Src : Source S en c} {N : Nat} {p : Nat → Bool} {y : Nat → SV} {s s' : Shared} {I C D : Addr} {n' : Nat} (h : CompInv Src σ N p y z s I C D n' s') {G : Nat → Shared → Prop}
    (k : ∀ h' tk i z₁ m₁ mC o₁ ys, i ≤ N → CompAt Src σ z z₁ m₁ h' I C D → h'.get? I = some o₁ → Src.It i o₁ → h'.Ns C mC → h'.PlainList D ys → DenL z₁ (((List.range i).filter p).map y) ys.toList → G (N + 1 - i) (Sh s h' tk)) : G n' s' := by
  obtain ⟨h', tk, i, z₁, m₁, mC, o₁, ys, rfl, a, rfl, b, c, d, e, f, g⟩ := h
  exact k h' tk i z₁ m₁ mC o₁ ys a b c d e f g
theorem CompInv.next {Src : Source S en c} {N : Nat} {p : Nat → Bool} {y : Nat → SV} {s : Shared} {I C D : Addr} {i : Nat} (hlt : i < N) {h' : Heap} {tk : Nat} {z₁ : Rz} {m₁ mC : Str → Option Value} {o₁ : Obj} {ys : Array Value} (A : CompAt Src σ z z₁ m₁ h' I C D) (g1 : h'.get? I = some o₁) (hIt : Src.It (i + 1) o₁) (hC : h'.Ns C mC) (hD : h'.PlainList D ys)
    (d : DenL z₁ (((List.range (i + 1)).filter p).map y) ys.toList) : ∃ m, m < N + 1 - i ∧ CompInv Src σ N p y z s I C D m (Sh s h' tk) :=
  ⟨N + 1 - (i + 1), by omega, h', tk, i + 1, z₁, m₁, mC, o₁, ys, rfl, hlt, rfl, A, g1, hIt, hC, hD, d⟩
theorem comp_end {Src : Source S en c} {N : Nat} {p : Nat → Bool} {y : Nat → SV} {s : Shared} {Q : Value → Shared → Prop} {z₁ : Rz} {m₁ : Str → Option Value} {h₃ : Heap} {tk : Nat} {I C D : Addr} {ys : Array Value} {nD : Nat} (T : Three c I C D) (A : CompAt Src σ z z₁ m₁ h₃ I C D) (hoD : h₃.get? D = some (W.listOf ys nD))
    (hden : DenL z₁ (((List.range N).filter p).map y) ys.toList) (hQ : ∀ a z' m' h' tk', z.Le z' → Rep S en c z' m' ⟨σ.loc, σ.led ++ [.list false (((List.range N).filter p).map y)], σ.orc⟩ h' → Den z' (.ref σ.led.length) a → Q a (Sh s h' tk')) : Q (.ref D) (Sh s h₃ tk) := by
  have hzn : c.h₀.get? D = none := by
    cases e : c.h₀.get? D with
    | none => rfl
    | some o => exact absurd (Heap.lt_size e) (Nat.not_lt.mpr T.hD)
  obtain ⟨z₄, le₄, R₄, d₄⟩ := rep_alloc (S := S) (l := [(D, W.listOf ys nD)]) (d := D) (q := .list false (((List.range N).filter p).map y)) (b := .ref σ.led.length) (σ := ⟨σ.loc, σ.led, []⟩) (σ' := ⟨σ.loc, σ.led ++ [.list false (((List.range N).filter p).map y)], []⟩) (o := []) rfl (fun _ h => nomatch h) rfl (A.R.orc []) A.R.fr
    (fun q hq => (List.mem_cons.mp hq).elim (fun e => by rw [e]; exact ⟨hoD, Ne.symm T.hLD, hzn⟩) (A.R.news q)) (fun q hq p' hp' => by rw [List.mem_singleton.mp hq]; exact (A.no p' hp').2.2) (by simp) fun z' k' le' hx => .list (vs := ys.toList) (by simpa using (hx _ (.head _)).1) (hx _ (.head _)).2 (hden.mono le')
  exact hQ _ z₄ m₁ h₃ tk (A.le.trans le₄) (R₄.orc σ.orc) d₄
section
variable {Src : Source S en c} {elt it : Expr} {x : Str} {px : Pos} {ifs : List Expr} {scope : Scope} {pos : Pos} {cl : List (Str × Addr)} {N : Nat} {items : Nat → SV} {p : Nat → Bool} {y : Nat → SV}
theorem comp_turn (hN : N < 1000) {i : Nat} (hlt : i < N)
    (htest : ∀ i, i < N → ∀ C z m m₂ (s : Shared) u (Q : Bool → Shared → Prop) (E : Value → Shared → Prop), Rep S en c z m σ s.heap → s.heap.Ns C m₂ → m₂ x = some u → Den z (items i) u → (∀ z' m' h' tk', z.Le z' → Rep S en c z' m' σ h' → Q (p i) (Sh s h' tk')) →
      (∃ oC, (C, oC) ∈ z.all ∧ z.own C = none) → wpAny S.M c.A (testsOf ifs (compEnvC scope cl C c.env)) Q E s)
    (helt : ∀ i, i < N → p i = true → ∀ C z m m₂ (s : Shared) u (Q : Value → Shared → Prop) (E : Value → Shared → Prop), Rep S en c z m σ s.heap → s.heap.Ns C m₂ → m₂ x = some u → Den z (items i) u → (∀ a z' m' h' tk', z.Le z' → Rep S en c z' m' σ h' → Den z' (y i) a → Q a (Sh s h' tk')) →
      (∃ oC, (C, oC) ∈ z.all ∧ z.own C = none) → wpAny S.M c.A (eval elt (compEnvC scope cl C c.env)) Q E s)
    {s : Shared} {I C D : Addr} (T : Three c I C D) {z₁ : Rz} {m₁ mC : Str → Option Value} {h₃ : Heap} {tk₂ : Nat} {o₂ : Obj} {ys : Array Value} {u : Value} (A : CompAt Src σ z z₁ m₁ h₃ I C D) (ho₃ : h₃.get? I = some o₂) (hIt : Src.It (i + 1) o₂) (hn₃ : h₃.Ns C mC) (hu : mC x = some u) (hpl₃ : h₃.PlainList D ys)
    (hden : DenL z₁ (((List.range i).filter p).map y) ys.toList) (du : Den z₁ (items i) u) {E : Value → Shared → Prop} :
    wpAny S.M c.A (testsOf ifs (compEnvC scope cl C c.env)) (fun ok s₃ => if ok = true then wpAny S.M c.A (eval elt (compEnvC scope cl C c.env)) (fun x s₄ =>
        wpAny S.M c.A (call (.builtin "list.append") [.ref D, x]) (fun _ s₅ => ∃ m, m < N + 1 - i ∧ CompInv Src σ N p y z s I C D m s₅) E s₄) E s₃
      else ∃ m, m < N + 1 - i ∧ CompInv Src σ N p y z s I C D m s₃) E (Sh s h₃ tk₂) := by
  obtain ⟨oC, esC, epC, hoC, hdC, hrC⟩ := hn₃
  obtain ⟨nD, hoD⟩ := hpl₃
  refine comp_leave T A ho₃ hoC hoD (let ⟨_, _, _, q⟩ := Src.calm hIt; q) (by rintro (⟨vs, rfl⟩ | ⟨lo, hi, t1, t2, t3, rfl⟩) <;> cases hdC) (by rintro (⟨vs, e⟩ | ⟨lo, hi, t1, t2, t3, e⟩) <;> (injection e with e1; injection e1 with e2; exact absurd e2 (by decide))) fun z₄ le₄ R₄ hin₄ fin => ?_
  clear A ho₃
  refine htest i hlt C z₄ _ mC (Sh s h₃ tk₂) u _ _ R₄ ⟨oC, esC, epC, hoC, hdC, hrC⟩ hu (du.mono le₄) (fun z₅ m₅ h₅ tk₅ le₅ R₅ => ?_) ⟨oC, hin₄⟩
  have hlist := range_filter p i
  cases hp : p i with
  | false =>
    rw [if_neg (by decide)]
    rw [hp, if_neg (by decide), List.append_nil] at hlist
    obtain ⟨z₆, lw, l16, A₆, g1, g2, g3⟩ := fin z₅ m₅ h₅ le₅ R₅
    exact CompInv.next hlt A₆ g1 hIt ⟨oC, esC, epC, g2, hdC, hrC⟩ ⟨nD, g3⟩ (by rw [hlist]; exact hden.mono l16)
  | true =>
    rw [if_pos rfl]
    rw [hp, if_pos rfl] at hlist
    have hC₅ := le₅.pool _ _ hin₄.1 hin₄.2
    refine helt i hlt hp C z₅ m₅ mC (Sh s h₅ tk₅) u _ _ R₅ ⟨oC, esC, epC, (R₅.news _ hC₅.1).1, hdC, hrC⟩ hu ((du.mono le₄).mono le₅) (fun a z₇ m₇ h₇ tk₇ le₇ R₇ da => ?_) ⟨oC, hC₅⟩
    obtain ⟨z₆, lw, l16, A₆, g1, g2, g3⟩ := fin z₇ m₇ h₇ (le₅.trans le₇) R₇
    have hys : ys.size ≤ sizeLine := by
      have := hden.length
      rw [List.length_map] at this
      have h2 := List.length_filter_le p (List.range i)
      rw [List.length_range] at h2
      rw [sizeLine_eq, ← Array.length_toList, ← this]; omega
    refine wpAny_list_append_plain (hsz := hys) (s := Sh s h₇ tk₇) (⟨nD, g3⟩ : h₇.PlainList D ys) fun h₈ hl₈ hs₈ => ?_
    refine CompInv.next hlt (A₆.other T.hD T.hLD (fun q hq => (A₆.no q hq).2.2) hs₈.extBut) (hs₈.extBut _ _ T.hID g1) hIt ⟨oC, esC, epC, hs₈.extBut _ _ (Ne.symm T.hDC) g2, hdC, hrC⟩ hl₈ ?_
    rw [hlist, List.map_append, Array.toList_push]
    exact (hden.mono l16).append (.cons (da.monow lw) .nil)
theorem comp_loop (hkind : scope.kind = .function) (hx : scope.names.lookup x = some .local) (hN : N < 1000) (hval : ∀ i, Src.val i σ = some (if i < N then some (items i) else none))
    (htest : ∀ i, i < N → ∀ C z m m₂ (s : Shared) u (Q : Bool → Shared → Prop) (E : Value → Shared → Prop), Rep S en c z m σ s.heap → s.heap.Ns C m₂ → m₂ x = some u → Den z (items i) u → (∀ z' m' h' tk', z.Le z' → Rep S en c z' m' σ h' → Q (p i) (Sh s h' tk')) →
      (∃ oC, (C, oC) ∈ z.all ∧ z.own C = none) → wpAny S.M c.A (testsOf ifs (compEnvC scope cl C c.env)) Q E s)
    (helt : ∀ i, i < N → p i = true → ∀ C z m m₂ (s : Shared) u (Q : Value → Shared → Prop) (E : Value → Shared → Prop), Rep S en c z m σ s.heap → s.heap.Ns C m₂ → m₂ x = some u → Den z (items i) u → (∀ a z' m' h' tk', z.Le z' → Rep S en c z' m' σ h' → Den z' (y i) a → Q a (Sh s h' tk')) →
      (∃ oC, (C, oC) ∈ z.all ∧ z.own C = none) → wpAny S.M c.A (eval elt (compEnvC scope cl C c.env)) Q E s)
    {s : Shared} {I C D : Addr} (T : Three c I C D) {h₁ : Heap} {tk : Nat} {mC : Str → Option Value} {o : Obj} {Q : Value → Shared → Prop} {E : Value → Shared → Prop} (A : CompAt Src σ z z m h₁ I C D) (ho : h₁.get? I = some o) (hIt : Src.It 0 o) (hns : h₁.Ns C mC) (hacc : h₁.PlainList D #[])
    (hQ : ∀ a z' m' h' tk', z.Le z' → Rep S en c z' m' ⟨σ.loc, σ.led ++ [.list false (((List.range N).filter p).map y)], σ.orc⟩ h' → Den z' (.ref σ.led.length) a → Q a (Sh s h' tk')) :
    codeAny S.M c.A (.compLoop (.ListComp elt [⟨.Name x px, it, ifs, 0⟩] scope pos) 0 (.ref I) (.ref D) (compEnvC scope cl C c.env)) (compPost S.M c.A E none Q (.ref D) C) (Sh s h₁ tk) := by
  refine codeAny_compLoop_tests (CompInv Src σ N p y z s I C D) ?_ (N + 1) ⟨h₁, tk, 0, z, m, mC, o, #[], rfl, Nat.zero_le _, rfl, A, ho, hIt, hns, hacc, .nil⟩
  clear A ho hIt hns hacc
  intro n' s' hinv
  refine CompInv.el hinv fun h' tk i z₁ m₁ mC o₁ ys hi A ho₁ hIt₁ hnC hpl hden => ?_
  clear hinv
  refine Src.next (s := Sh s h' tk) (q := if i < N then some (items i) else none) _ _ A.P A.R (fun q hq => (A.no q hq).1) ho₁ hIt₁ (hval i) ?_
  by_cases hlt : i < N
  · rw [if_pos hlt]
    intro u h₂ o₂ tk₂ du hs₂ ho₂ hIt₂
    refine wpAny_assign_Name (wpAny_storeName_local (env := compEnvC scope cl C c.env) (lookup_relabel_local hx) (hnC.at' fun o e => hs₂.extBut _ o (Ne.symm T.hIC) e) (fun h₃ hn₃ hs₃ => ?_) (by simp [compEnvC, relabel, hkind]))
    exact comp_turn hN hlt htest helt T ((A.other T.hI T.hL (fun q hq => (A.no q hq).1) hs₂.extBut).other T.hC T.hLC (fun q hq => (A.no q hq).2.1) hs₃.extBut) (hs₃.extBut _ _ T.hIC ho₂) hIt₂ hn₃ (by simp) ((hpl.at fun o e => hs₂.extBut _ o (Ne.symm T.hID) e).at fun o e => hs₃.extBut _ o T.hDC e) hden du
  · rw [if_neg hlt]
    intro h₂ tk₂ hs₂
    have hin : i = N := Nat.le_antisymm hi (Nat.not_lt.mp hlt)
    rw [hin] at hden
    refine ⟨mC, hnC.at' fun o e => hs₂ _ o (Ne.symm T.hIC) e, fun h₃ hs₃ => ?_⟩
    obtain ⟨nD, hoD⟩ := hpl
    exact comp_end T ((A.other T.hI T.hL (fun q hq => (A.no q hq).1) hs₂).other T.hC T.hLC (fun q hq => (A.no q hq).2.1) hs₃.extBut) (hs₃.extBut _ _ T.hDC (hs₂ _ _ (Ne.symm T.hID) hoD)) hden hQ
end
theorem comp_sound (k : c.Ok S n) (Src : Source S en c) {elt it : Expr} {x : Str} {px : Pos} {ifs : List Expr} {scope : Scope} {pos : Pos} {cl : List (Str × Addr)} {N : Nat} {items : Nat → SV} {p : Nat → Bool} {y : Nat → SV}
    (hclos : closureFor scope c.env = pure cl) (hcell : ∀ y ∈ scope.names, y.2 ≠ .cell) (hkind : scope.kind = .function) (hnames : ∀ y ∈ scope.names, y.2 = .local → scope.names.lookup y.1 = some .local) (hx : scope.names.lookup x = some .local)
    (hN : N < 1000) (hval : ∀ i, Src.val i σ = some (if i < N then some (items i) else none))
    (htest : ∀ i, i < N → ∀ C z m m₂ (s : Shared) u (Q : Bool → Shared → Prop) (E : Value → Shared → Prop), Rep S en c z m σ s.heap → s.heap.Ns C m₂ → m₂ x = some u → Den z (items i) u → (∀ z' m' h' tk', z.Le z' → Rep S en c z' m' σ h' → Q (p i) (Sh s h' tk')) →
      (∃ oC, (C, oC) ∈ z.all ∧ z.own C = none) → wpAny S.M c.A (testsOf ifs (compEnvC scope cl C c.env)) Q E s)
    (helt : ∀ i, i < N → p i = true → ∀ C z m m₂ (s : Shared) u (Q : Value → Shared → Prop) (E : Value → Shared → Prop), Rep S en c z m σ s.heap → s.heap.Ns C m₂ → m₂ x = some u → Den z (items i) u → (∀ a z' m' h' tk', z.Le z' → Rep S en c z' m' σ h' → Den z' (y i) a → Q a (Sh s h' tk')) →
      (∃ oC, (C, oC) ∈ z.all ∧ z.own C = none) → wpAny S.M c.A (eval elt (compEnvC scope cl C c.env)) Q E s)
    {s : Shared} {I : Addr} {o : Obj} {Q : Value → Shared → Prop} {E : Value → Shared → Prop} (hP : Src.P z) (R : Rep S en c z m σ s.heap) (hI : c.h₀.objs.size ≤ I) (hL : c.L ≠ I) (hn : ∀ p ∈ z.all, p.1 ≠ I) (ho : s.heap.get? I = some o) (hIt : Src.It 0 o)
    (self : ∀ (s : Shared) (o : Obj) (Q : Value → Shared → Prop) (E : Value → Shared → Prop), s.heap.get? I = some o → Src.It 0 o → Q (.ref I) s → wpAny S.M c.A (pyIter (.ref I)) Q E s)
    (hQ : ∀ a z' m' h' tk', z.Le z' → Rep S en c z' m' ⟨σ.loc, σ.led ++ [.list false (((List.range N).filter p).map y)], σ.orc⟩ h' → Den z' (.ref σ.led.length) a → Q a (Sh s h' tk')) :
    wpAny S.M c.A (newList []) (fun acc s₃ => wpAny S.M c.A (newFunctionEnv scope c.env.globals cl [] c.env.qual none .none (some c.env)) (fun cenv s₄ =>
      codeAny S.M c.A (.compStart (.ListComp elt [⟨.Name x px, it, ifs, 0⟩] scope pos) 0 (.ref I) acc { cenv with scope := relabel scope c.env }) (compPost S.M c.A E none Q acc cenv.locals) s₄) E s₃) E s := by
  have hlt : ∀ {b : Addr} {o : Obj}, s.heap.get? b = some o → b ≠ s.heap.objs.size ∧ b ≠ s.heap.objs.size + 1 := fun e => ⟨Nat.ne_of_lt (Heap.lt_size e), Nat.ne_of_lt (Nat.lt_succ_of_lt (Heap.lt_size e))⟩
  refine wpAny_newObj_type (wpAny_newFunctionEnv hcell (by intro y hy; simp at hy) (fun h₁ hns₁ hsb₁ => ?_) hkind)
  dsimp only at hns₁ hsb₁ ⊢
  rw [Heap.size_push] at hns₁ hsb₁ ⊢
  have hDC : s.heap.objs.size ≠ s.heap.objs.size + 1 := Nat.ne_of_lt (Nat.lt_succ_self _)
  have old : ∀ b o, s.heap.get? b = some o → h₁.get? b = some o := fun b o e => hsb₁.extBut b o (hlt e).2 (Heap.get?_push_of_some _ (Heap.get?_push_of_some _ e))
  have hacc : h₁.PlainList s.heap.objs.size #[] := ⟨_, hsb₁.extBut _ _ hDC (Heap.get?_push_of_some _ (Heap.get?_push_size _ rfl))⟩
  have hsz : c.h₀.objs.size ≤ s.heap.objs.size := Nat.le_trans R.fr.above (Nat.le_of_lt R.fr.ns.lt)
  have T : Three c I (s.heap.objs.size + 1) s.heap.objs.size := ⟨hI, hL, Nat.le_succ_of_le hsz, Nat.ne_of_lt (Nat.lt_succ_of_lt R.fr.ns.lt), hsz, Nat.ne_of_lt R.fr.ns.lt, (hlt ho).2, (hlt ho).1, hDC⟩
  have A : CompAt Src σ z z m h₁ I (s.heap.objs.size + 1) s.heap.objs.size := ⟨.refl z, hP, ⟨R.fr.keeps old, fun q hq => ⟨old _ _ (R.news q hq).1, (R.news q hq).2⟩, R.nd, R.dom, R.len, R.led, R.loc, R.cells, R.scope, R.lvn, R.lvk⟩, fun q hq => ⟨hn q hq, (hlt (R.news q hq).1).2, (hlt (R.news q hq).1).1⟩⟩
  have loop : ∀ tk, codeAny S.M c.A (.compLoop (.ListComp elt [⟨.Name x px, it, ifs, 0⟩] scope pos) 0 (.ref I) (.ref s.heap.objs.size) (compEnvC scope cl (s.heap.objs.size + 1) c.env)) (compPost S.M c.A E none Q (.ref s.heap.objs.size) (s.heap.objs.size + 1)) (Sh s h₁ tk) := fun tk =>
    comp_loop hkind hx hN hval htest helt T A (old _ _ ho) hIt hns₁ hacc hQ
  exact codeAny_compStart_list (loop _) (self _ o _ _ (old _ _ ho) hIt (loop _))
end
set_option tactic.hygienic false
open PySem PySem.W PySem.Calls PyProof.Rows PySem.SeqAt
section
variable {S : Fix} {en : En} {n : Nat}
theorem Sub.refl (σ : St) : Sub S en σ σ := fun _ _ _ _ x => x
theorem Sub.trans {a b c : St} (x : Sub S en a b) (y : Sub S en b c) : Sub S en a c := fun c z m h r => y c z m h (x c z m h r)
theorem Sub.loc {loc loc' : Loc} {led : Led} {o o' : List Orc} (h : ∀ x w, look x loc' = some w → look x loc = some w) : Sub S en ⟨loc, led, o⟩ ⟨loc', led, o'⟩ :=
  fun c z m hh R => ⟨R.fr, R.news, R.nd, R.dom, R.len, R.led, fun x w e => R.loc x w (h x w e), R.cells, R.scope, R.lvn, R.lvk⟩
theorem Sub.orc {loc : Loc} {led : Led} (o o' : List Orc) : Sub S en ⟨loc, led, o⟩ ⟨loc, led, o'⟩ := Sub.loc fun _ _ h => h
noncomputable def WV (a b : SV) : Prop := ∀ z v, Den z a v → Den z b v
noncomputable def WL (a b : List SV) : Prop := ∀ z v, DenL z a v → DenL z b v
theorem WV.refl (a : SV) : WV a a := fun _ _ h => h
theorem WV.int (c d : Bool) (i : Int) : WV (.int c i) (.int d i) := fun z v h => Den.int_el h fun t => .int _ _ t
theorem WV.bool (c d : Bool) (i : Bool) : WV (.bool c i) (.bool d i) := fun z v h => Den.bool_el h (.bool _ _)
theorem WL.nil : WL [] [] := fun _ _ h => h
theorem WL.refl (a : List SV) : WL a a := fun _ _ h => h
theorem WL.cons {a b : SV} {l m : List SV} (x : WV a b) (y : WL l m) : WL (a :: l) (b :: m) := fun z v h => DenL.cons_el h fun u us d r => .cons (x z _ d) (y z _ r)
noncomputable def WO (S : Fix) (a b : SO) : Prop := (∀ z k x, At S z k a x → At S z k b x) ∧ ksOf a = none ∧ ksOf b = none
theorem WO.list {c d : Bool} {l m : List SV} (h : WL l m) : WO S (.list c l) (.list d m) := ⟨fun z k x a => a.list_el fun _ _ m1 w1 d => .list m1 w1 (h z _ d), rfl, rfl⟩
theorem WO.dict {c d : Bool} {l : List (SV × SV)} : WO S (.dict c l) (.dict d l) := ⟨fun z k x a => a.dict_el fun _ m1 w1 d => .dict m1 w1 d, rfl, rfl⟩
theorem Sits.lv {z : Rz} {t : Nat} {o : SO} (h : Sits S z t o) (hk : ksOf o = none) : z.lv t 0 := by
  cases o with
  | fam => exact no_some hk.symm
  | ffam => exact no_some hk.symm
  | _ => exact h.1
theorem Sub.chunk {loc : Loc} {led : Led} {o : List Orc} {t : Nat} {a b : SO} (h : led[t]? = some a) (w : WO S a b) : Sub S en ⟨loc, led, o⟩ ⟨loc, led.set t b, o⟩ := fun c z m hh R => by
  have ht : t < z.n := by rw [R.len]; exact (List.getElem?_eq_some_iff.mp h).1
  have s : Sits S z t a := R.led t a h
  exact R.swap (q := b) (.of_at (w.1 _ _ _ (s.at w.2.1)) (s.lv w.2.1)) ht w.2.2
noncomputable def memOf : SO → Int → Option SO
  | .fam ks f, i => if i ∈ ks then some (f i) else none
  | .ffam ks f j o, i => if i = j then some o else if i ∈ ks then some (f i) else none
  | _, _ => none
theorem mem_sits {z : Rz} {t : Nat} {a : SO} {ks : List Int} {i : Int} {o : SO} (s : Sits S z t a) (ha : ksOf a = some ks) (hi : i ∈ ks) (hm : memOf a i = some o) : z.lv t i ∧ At S z (t, i) o (z.ad t i) := by
  cases a with
  | fam ks0 f =>
    have h0 : ks0 = ks := Option.some.inj ha
    unfold memOf at hm
    dsimp only at hm
    rw [h0, if_pos hi] at hm
    exact Option.some.inj hm ▸ s i (h0 ▸ hi)
  | ffam ks0 f j o' =>
    have h0 : ks0 = ks := Option.some.inj ha
    unfold memOf at hm
    dsimp only at hm
    by_cases q : i = j
    · rw [if_pos q] at hm
      rw [q, ← Option.some.inj hm]; exact s.2.1
    · rw [if_neg q, h0, if_pos hi] at hm
      exact Option.some.inj hm ▸ s.2.2 i (h0 ▸ hi) q
  | _ => exact no_some ha
theorem Sub.fam {loc : Loc} {led : Led} {o : List Orc} {t : Nat} {a : SO} {ks ks' : List Int} {g : Int → SO} (h : led[t]? = some a) (ha : ksOf a = some ks) (hk : ∀ i, i ∈ ks ↔ i ∈ ks') (hg : ∀ i, i ∈ ks → memOf a i = some (g i)) : Sub S en ⟨loc, led, o⟩ ⟨loc, led.set t (.fam ks' g), o⟩ := fun c z m hh R => by
  refine R.reset (q := .fam ks' g) (fun i p hi hp ks2 ek => ?_) fun i hi => mem_sits (R.led t a h) ha ((hk i).mpr hi) (hg i ((hk i).mpr hi))
  rw [← Option.some.inj ek]
  exact (hk i).mp (R.lvk t i hi a ks h ha)
theorem Rep.addFam {c : Cx} {z : Rz} {m : Str → Option Value} {σ : St} {h : Heap} (R : Rep S en c z m σ h) (f : Int → SO) : ∃ z', z.Le z' ∧ Rep S en c z' m ⟨σ.loc, σ.led ++ [.fam [] f], σ.orc⟩ h := by
  let z' : Rz := ⟨z.all, z.own, z.ad, z.n + 1, z.lv⟩
  have le : z.Le z' := ⟨Nat.le_succ _, fun _ _ h => ⟨h, rfl⟩, fun _ _ x y => ⟨x, y⟩⟩
  refine ⟨z', le, R.fr, R.news, R.nd, fun a k e => ⟨Nat.lt_succ_of_lt (R.dom a k e).1, (R.dom a k e).2⟩, ?_, fun t q e => ?_, fun x w e => ?_, fun x t e => ?_, R.scope, fun t i x => Nat.lt_succ_of_lt (R.lvn t i x), fun t i x q ks e ek => ?_⟩
  · show z.n + 1 = (σ.led ++ [SO.fam [] f]).length
    rw [List.length_append, R.len]; rfl
  · have e : (σ.led ++ [SO.fam [] f])[t]? = some q := e
    by_cases ht : t < σ.led.length
    · rw [List.getElem?_append_left ht] at e
      exact (R.led t q e).keep le fun i a o x y => ⟨x, y⟩
    · have : t = σ.led.length := by
        have := (List.getElem?_eq_some_iff.mp e).1
        rw [List.length_append, List.length_singleton] at this
        omega
      subst this
      rw [List.getElem?_append_right (Nat.le_refl _), Nat.sub_self] at e
      obtain rfl : SO.fam [] f = q := by simpa using e
      exact fun i hi => nomatch hi
  · obtain ⟨v, a, b⟩ := R.loc x w e
    exact ⟨v, a, b.mono le⟩
  · exact R.cells x t e
  · have e : (σ.led ++ [SO.fam [] f])[t]? = some q := e
    have := R.lvn t i x
    rw [R.len] at this
    rw [List.getElem?_append_left this] at e
    exact R.lvk t i x q ks e ek
theorem LoopOk.fam {k : Nat} {st : Stmt} {loc loc' : Loc} {led led' : Led} (f : Int → SO) (L : LoopOk S k en st loc (led ++ [.fam [] f]) loc' led') : LoopOk S k en st loc led loc' led' := fun c hc orc z m s Q E R hQ => by
  obtain ⟨z', le, R'⟩ := R.addFam f
  exact L c hc orc z' m s Q E R' fun z'' m' h' tk' le' R'' => hQ z'' m' h' tk' (le.trans le') R''
theorem LoopOk.sub {k : Nat} {st : Stmt} {loc₀ loc loc' : Loc} {led₀ led led' : Led} (h : Sub S en ⟨loc₀, led₀, []⟩ ⟨loc, led, []⟩) (L : LoopOk S k en st loc led loc' led') : LoopOk S k en st loc₀ led₀ loc' led' := fun c hc orc z m s Q E R hQ =>
  L c hc orc z m s Q E ((h c z m s.heap (R.orc [])).orc orc) hQ
theorem loopOk_for (V : Valid S.K S.mg S.mb S.Γ) {t it : Expr} {body : List Stmt} {p : Pos} {loc loc' : Loc} {led led' : Led} {o0 oc : List Orc} {v : SV} {σ₁ : St} {o1 : List Ob} (hns : notSet it = true)
    (e1 : (run S.Γ n).ev en it ⟨loc, led, o0⟩ = some (v, σ₁, o1)) (ho : Owed S o1) (T : Over S (run S.Γ n) en t body v σ₁ .next ⟨loc', led', oc⟩) : LoopOk S (n + 1) en (.For t it body [] p) loc led loc' led' := by
  intro c k orc z m s Q E R hQ
  have I := sound V n
  refine wpAny_For (I.ev en c k.lt it _ v σ₁ o1 e1 ho z m s _ E (R.orc o0) fun u z₁ m₁ h₁ tk₁ le R₁ du => ?_) (fun x => notSet_folded hns c.env x)
  refine over_sound (s := Sh s h₁ tk₁) (pos := p) k.lt (fun σ => I.ex en c k.lt body σ) T R₁ du fun f z₂ m₂ h₂ tk₂ le₂ R₂ df => ?_
  cases df
  exact hQ z₂ m₂ h₂ tk₂ (le.trans le₂) (R₂.orc orc)
theorem loopOk_while (V : Valid S.K S.mg S.mb S.Γ) {t : Expr} {body : List Stmt} {p : Pos} {loc loc' : Loc} {led led' : Led} {o0 oc : List Orc} {nn : Nat} (T : WTurns S (run S.Γ n) en t body nn ⟨loc, led, o0⟩ .next ⟨loc', led', oc⟩) :
    LoopOk S (n + 1) en (.While t body [] p) loc led loc' led' := by
  intro c k orc z m s Q E R hQ
  have I := sound V n
  exact while_sound k.lt (fun σ => I.ts en c k.lt t σ) (fun σ => I.ex en c k.lt body σ) T (R.orc o0) fun f z₂ m₂ h₂ tk₂ le₂ R₂ df => by cases df; exact hQ z₂ m₂ h₂ tk₂ le₂ (R₂.orc orc)
theorem callOk_def (V : Valid S.K S.mg S.mb S.Γ) {a : Nat} {fn : Fn} (hfn : lookN a S.Γ.fns = some fn) {args : List SV} {l : Loc} (hz : zipArgs fn.params args = some l) {led led' : Led} {o0 oc : List Orc} {loc' : Loc} {fl : Fl} {o1 : List Ob}
    (e : (run S.Γ n).ex ⟨fn.sc, []⟩ fn.body ⟨l, led, o0⟩ = some (fl, ⟨loc', led', oc⟩, o1)) (ho : Owed S o1) : CallOk S (n + 1) a args led (retOf fl) led' := by
  intro en c k loc orc z m s Q vs R d hQ
  refine good_def (σ := ⟨loc, led, o0⟩) (σ' := ⟨loc, led', oc⟩) (o := o1 ++ []) V k (sound V n) hfn hz ?_ (by rw [List.append_nil]; exact ho) (R.orc o0) d fun a z' m' h' tk' le R' da => hQ a z' m' h' tk' le (R'.orc orc) da
  rw [e]
  rfl
theorem CallOk.fam {k a : Nat} {args : List SV} {b : SV} {led led' : Led} (f : Int → SO) (L : CallOk S k a args (led ++ [.fam [] f]) b led') : CallOk S k a args led b led' := fun en c hc loc orc z m s Q vs R d hQ => by
  obtain ⟨z', le, R'⟩ := R.addFam f
  exact L en c hc loc orc z' m s Q vs R' (d.mono le) fun a z'' m' h' tk' le' R'' da => hQ a z'' m' h' tk' (le.trans le') R'' da
end
set_option tactic.hygienic false
open PySem PySem.W PySem.Calls PyProof.Rows PySem.SeqAt
noncomputable def nthS : List Stmt → Nat → Stmt
  | [], _ => .Pass ⟨0, 0, 0, 0⟩
  | s :: r, n => match n with
    | 0 => s
    | n + 1 => nthS r n
noncomputable def forBody : Stmt → List Stmt
  | .For _ _ b _ _ => b
  | .While _ b _ _ => b
  | _ => []
noncomputable def forTgt : Stmt → Expr
  | .For t _ _ _ _ => t
  | .While t _ _ _ => t
  | _ => .Constant .none 0 ⟨0, 0, 0, 0⟩
noncomputable def forIt : Stmt → Expr
  | .For _ i _ _ _ => i
  | _ => .Constant .none 0 ⟨0, 0, 0, 0⟩
noncomputable def outOf {α : Type} (x : R α) : Option (α × St) := match x with | some (a, σ, _) => some (a, σ) | none => none
noncomputable def obsOf {α : Type} (x : R α) : List Ob := match x with | some (_, _, o) => o | none => []
noncomputable def AllH (S : Fix) : List Ob → Prop
  | [] => True
  | q :: r => q.H S ∧ AllH S r
theorem AllH.owed {S : Fix} : ∀ {l : List Ob}, AllH S l → Owed S l
  | [], _, q, hq => nomatch hq
  | p :: r, h, q, hq => by
    rcases List.mem_cons.mp hq with rfl | hq
    · exact h.1
    · exact AllH.owed h.2 q hq
theorem run_ok {S : Fix} {α : Type} {x : R α} {a : α} {σ : St} (h1 : outOf x = some (a, σ)) (h2 : AllH S (obsOf x)) : ∃ o, x = some (a, σ, o) ∧ Owed S o := by
  cases x with
  | none => cases h1
  | some q =>
    obtain ⟨b, τ, o⟩ := q
    cases h1
    exact ⟨o, rfl, AllH.owed h2⟩
noncomputable def rdict (n : Nat) (kf vf : Nat → SV) : List (SV × SV) := (List.range n).map fun i => (kf i, vf i)
noncomputable def updF (vf : Nat → SV) (i : Nat) (v : SV) : Nat → SV := fun j => if j = i then v else vf j
theorem rdict_len (n : Nat) (kf vf : Nat → SV) : (rdict n kf vf).length = n := by simp [rdict]
theorem rdict_succ (n : Nat) (kf vf : Nat → SV) : rdict (n + 1) kf vf = rdict n kf vf ++ [(kf n, vf n)] := by
  unfold rdict; rw [List.range_succ, List.map_append]; rfl
theorem rdict_kind {n : Nat} {kf vf : Nat → SV} {k : SV} (h : ∀ i, i < n → isTup (kf i) = isTup k) : KindOk k (rdict n kf vf) := by
  intro p hp
  obtain ⟨i, hi, rfl⟩ := List.mem_map.mp hp
  exact h i (List.mem_range.mp hi)
theorem rdict_find_none {n : Nat} {kf vf : Nat → SV} {k : SV} (h : ∀ i, i < n → keyV (kf i) ≠ keyV k) : dfind k (rdict n kf vf) = none := by
  unfold dfind
  rw [Option.map_eq_none_iff, List.find?_eq_none]
  intro p hp
  obtain ⟨i, hi, rfl⟩ := List.mem_map.mp hp
  simpa using h i (List.mem_range.mp hi)
theorem rdict_find {n : Nat} {kf vf : Nat → SV} {k : SV} {i : Nat} (hi : i < n) (he : keyV (kf i) = keyV k) (h : ∀ j, j < n → keyV (kf j) = keyV k → j = i) : dfind k (rdict n kf vf) = some (vf i) := by
  induction n with
  | zero => omega
  | succ n ih =>
    rw [rdict_succ]
    unfold dfind at ih ⊢
    rw [List.find?_append, Option.map_or]
    by_cases q : i = n
    · subst q
      have : ((rdict i kf vf).find? fun p => decide (keyV p.1 = keyV k)) = none := by
        rw [List.find?_eq_none]
        intro p hp
        obtain ⟨j, hj, rfl⟩ := List.mem_map.mp hp
        have hj := List.mem_range.mp hj
        intro e
        have := h j (by omega) (by simpa using e)
        omega
      rw [this]
      simp [he]
    · rw [ih (by omega) fun j hj => h j (by omega)]
      rfl
theorem rdict_put_new {n : Nat} {kf vf : Nat → SV} {k v : SV} (h : ∀ i, i < n → keyV (kf i) ≠ keyV k) : dstore k v (rdict n kf vf) = rdict n kf vf ++ [(k, v)] := by
  unfold dstore
  rw [if_neg]
  intro e
  obtain ⟨p, hp, e⟩ := List.any_eq_true.mp e
  obtain ⟨i, hi, rfl⟩ := List.mem_map.mp hp
  exact h i (List.mem_range.mp hi) (by simpa using e)
noncomputable abbrev Sx (prog : Program) (w : World) (K : Frag) (mg mb : Str → Option Value) : Fix := ⟨prog, w, K, mg, mb, Γ₀⟩
noncomputable def nm (x : String) : Str := Str.ofString x
noncomputable def s815 : Stmt := nthS f_law_run.body 1
noncomputable def xk (i : Int) : SV := .tup [.str (nm "x"), .int false i]
noncomputable def d815 (j : Nat) : List (SV × SV) := rdict j (fun i => xk ((i : Int) + 1)) (fun i => .int false i)
section
variable {prog : Program} {w : World} {K : Frag} {mg mb : Str → Option Value}
noncomputable abbrev l815 (v : SV) (n : Nat) (t : Nat) : Loc := [(nm "rows", v), (nm "count", .int false n), (nm "held", .ref t)]
noncomputable def posOfS : Stmt → Pos
  | .For _ _ _ _ p => p
  | .While _ _ _ p => p
  | _ => ⟨0, 0, 0, 0⟩
theorem s815_eq : s815 = .For (forTgt s815) (forIt s815) (forBody s815) [] (posOfS s815) := by kernel_rfl
end
set_option tactic.hygienic false
open PySem PySem.W PySem.Calls PyProof.Rows PySem.SeqAt
noncomputable def preF (p : Nat → SO) : Nat → Nat → Led → Led
  | _, 0, r => r
  | i, n + 1, r => p i :: preF p (i + 1) n r
noncomputable def pre (p : Nat → SO) (n : Nat) (r : Led) : Led := preF p 0 n r
noncomputable def turnR (n : Nat) (en : En) (t : Expr) (body : List Stmt) (v : SV) (σ : St) : R Fl := andThen (bind en t v σ) fun _ σ => (run Γ₀ n).ex en body σ
section
variable {S : Fix} {en : En}
theorem turn_split {n : Nat} {t : Expr} {body : List Stmt} {v : SV} {σ σ₂ : St} {fl : Fl} (h1 : outOf (turnR n en t body v σ) = some (fl, σ₂)) (h2 : AllH S (obsOf (turnR n en t body v σ))) :
    ∃ σ₁ o1 o2, bind en t v σ = some ((), σ₁, o1) ∧ (run Γ₀ n).ex en body σ₁ = some (fl, σ₂, o2) ∧ Owed S o2 := by
  obtain ⟨o, e, ho⟩ := run_ok h1 h2
  obtain ⟨_, σ₁, o1, o2, e1, e2, rfl⟩ := andThen_some e
  exact ⟨σ₁, o1, o2, e1, e2, ho.right⟩
theorem turns_gen {r : Rec} {t : Expr} {body : List Stmt} {val : Nat → St → Option (Option SV)} (N : Nat) (D : Nat → St) (τ : St) (hEnd : Sub S en (D N) τ) (hend : val N τ = some none)
    (step : ∀ i, i < N → ∃ σ₀ v σ₁ o1 σ₂ o2 fl, Sub S en (D i) σ₀ ∧ val i σ₀ = some (some v) ∧ bind en t v σ₀ = some ((), σ₁, o1) ∧ r.ex en body σ₁ = some (fl, σ₂, o2) ∧ Owed S o2 ∧ (fl = .next ∨ fl = .cont) ∧ Sub S en σ₂ (D (i + 1))) :
    Turns S r en t body val N 0 (D 0) .next τ := by
  suffices H : ∀ (d i : Nat), i + d = N → Turns S r en t body val d i (D i) .next τ from H N 0 (by omega)
  intro d
  induction d with
  | zero => intro i h; obtain rfl : i = N := by omega
            exact .sub hEnd (.done hend)
  | succ d ih =>
    intro i h
    obtain ⟨σ₀, v, σ₁, o1, σ₂, o2, fl, h0, h1, h2, h3, h4, h5, h6⟩ := step i (by omega)
    exact .sub h0 (.step h1 h2 h3 h4 h5 (.sub h6 (ih (i + 1) (by omega))))
theorem turns_seg {r : Rec} {t : Expr} {body : List Stmt} {val : Nat → St → Option (Option SV)} (N i0 : Nat) (D : Nat → St) {nn : Nat} {fl : Fl} {τ : St} (T : Turns S r en t body val nn (i0 + N) (D N) fl τ)
    (step : ∀ i, i < N → ∃ σ₀ v σ₁ o1 σ₂ o2 fl, Sub S en (D i) σ₀ ∧ val (i0 + i) σ₀ = some (some v) ∧ bind en t v σ₀ = some ((), σ₁, o1) ∧ r.ex en body σ₁ = some (fl, σ₂, o2) ∧ Owed S o2 ∧ (fl = .next ∨ fl = .cont) ∧ Sub S en σ₂ (D (i + 1))) :
    Turns S r en t body val (N + nn) i0 (D 0) fl τ := by
  suffices H : ∀ (d i : Nat), i + d = N → Turns S r en t body val (d + nn) (i0 + i) (D i) fl τ from H N 0 (by omega)
  intro d
  induction d with
  | zero => intro i h; obtain rfl : i = N := by omega
            rw [Nat.zero_add]; exact T
  | succ d ih =>
    intro i h
    obtain ⟨σ₀, v, σ₁, o1, σ₂, o2, fl, h0, h1, h2, h3, h4, h5, h6⟩ := step i (by omega)
    rw [show d + 1 + nn = d + nn + 1 by omega]
    exact .sub h0 (.step h1 h2 h3 h4 h5 (.sub h6 (ih (i + 1) (by omega))))
theorem turn_ex {n : Nat} {t : Expr} {body : List Stmt} {val : Nat → St → Option (Option SV)} {i : Nat} {D D' σ₀ σ₂ : St} {v : SV} {fl : Fl} (h0 : Sub S en D σ₀) (hv : val i σ₀ = some (some v))
    (h1 : outOf (turnR n en t body v σ₀) = some (fl, σ₂)) (h2 : AllH S (obsOf (turnR n en t body v σ₀))) (hf : fl = .next ∨ fl = .cont) (h3 : Sub S en σ₂ D') :
    ∃ σ₀ v σ₁ o1 σ₂ o2 fl, Sub S en D σ₀ ∧ val i σ₀ = some (some v) ∧ bind en t v σ₀ = some ((), σ₁, o1) ∧ (run Γ₀ n).ex en body σ₁ = some (fl, σ₂, o2) ∧ Owed S o2 ∧ (fl = .next ∨ fl = .cont) ∧ Sub S en σ₂ D' := by
  obtain ⟨σ₁, o1, o2, a, b, c⟩ := turn_split h1 h2
  exact ⟨σ₀, v, σ₁, o1, σ₂, o2, fl, h0, hv, a, b, c, hf, h3⟩
theorem turns_last {r : Rec} {t : Expr} {body : List Stmt} {val : Nat → St → Option (Option SV)} {i : Nat} {D D' : St}
    (step : ∃ σ₀ v σ₁ o1 σ₂ o2 fl, Sub S en D σ₀ ∧ val i σ₀ = some (some v) ∧ bind en t v σ₀ = some ((), σ₁, o1) ∧ r.ex en body σ₁ = some (fl, σ₂, o2) ∧ Owed S o2 ∧ (fl = .next ∨ fl = .cont) ∧ Sub S en σ₂ D') (hend : val (i + 1) D' = some none) :
    Turns S r en t body val (1 + 0) i D .next D' := by
  obtain ⟨σ₀, v, σ₁, o1, σ₂, o2, fl, h0, h1, h2, h3, h4, h5, h6⟩ := step
  exact .sub h0 (.step h1 h2 h3 h4 h5 (.sub h6 (.done hend)))
theorem Sub.locw {loc loc' : Loc} {led : Led} {o o' : List Orc} (h : ∀ x w, look x loc' = some w → ∃ w', look x loc = some w' ∧ WV w' w) : Sub S en ⟨loc, led, o⟩ ⟨loc', led, o'⟩ :=
  fun c z m hh R => ⟨R.fr, R.news, R.nd, R.dom, R.len, R.led, fun x w e => by
    obtain ⟨w', e', hw⟩ := h x w e
    obtain ⟨v, a, b⟩ := R.loc x w' e'
    exact ⟨v, a, hw z v b⟩, R.cells, R.scope, R.lvn, R.lvk⟩
noncomputable def LocW : Loc → Loc → Prop
  | _, [] => True
  | loc, (x, w) :: r => (∃ w', look x loc = some w' ∧ WV w' w) ∧ LocW loc r
theorem LocW.all {loc : Loc} : ∀ {loc' : Loc}, LocW loc loc' → ∀ x w, look x loc' = some w → ∃ w', look x loc = some w' ∧ WV w' w
  | [], _, x, w, h => by cases h
  | (y, v) :: r, h, x, w, e => by
    simp only [look] at e
    split at e
    · rename_i q
      cases e
      rw [← sEq_iff.mp q]
      exact h.1
    · exact LocW.all h.2 x w e
theorem Sub.locW {loc loc' : Loc} {led : Led} {o o' : List Orc} (h : LocW loc loc') : Sub S en ⟨loc, led, o⟩ ⟨loc', led, o'⟩ := Sub.locw h.all
noncomputable def WS (S : Fix) (a b : SO) : Prop := a = b ∨ WO S a b
noncomputable def LedW (S : Fix) : Led → Led → Prop
  | [], [] => True
  | a :: x, b :: y => WS S a b ∧ LedW S x y
  | _, _ => False
theorem LedW.refl : ∀ l : Led, LedW S l l
  | [] => trivial
  | a :: r => ⟨.inl rfl, LedW.refl r⟩
theorem LedW.spec : ∀ {l m : Led}, LedW S l m → l.length = m.length ∧ ∀ t : Nat, ∀ b : SO, m[t]? = some b → ∃ a, l[t]? = some a ∧ WS S a b
  | [], [], _ => ⟨rfl, fun t b h => by simp at h⟩
  | a :: x, b :: y, h => by
    obtain ⟨h1, h2⟩ := h
    obtain ⟨h3, h4⟩ := h2.spec
    refine ⟨by simp [h3], fun t q e => ?_⟩
    cases t with
    | zero => simp at e; subst e; exact ⟨a, rfl, h1⟩
    | succ t => simp at e; simpa using h4 t q e
  | [], _ :: _, h => h.elim
  | _ :: _, [], h => h.elim
theorem Sub.ledW {loc : Loc} {led led' : Led} {o : List Orc} (h : LedW S led led') : Sub S en ⟨loc, led, o⟩ ⟨loc, led', o⟩ := fun c z m hh R => by
  obtain ⟨hl, hs⟩ := h.spec
  refine ⟨R.fr, R.news, R.nd, R.dom, R.len.trans hl, fun t b e => ?_, R.loc, R.cells, R.scope, R.lvn, fun t i hv q ks e ek => ?_⟩
  · obtain ⟨a, e', w⟩ := hs t b e
    have s : Sits S z t a := R.led t a e'
    rcases w with rfl | w
    · exact s
    · exact .of_at (w.1 _ _ _ (s.at w.2.1)) (s.lv w.2.1)
  · obtain ⟨a, e', w⟩ := hs t q e
    rcases w with rfl | w
    · exact R.lvk t i hv _ ks e' ek
    · have := w.2.2; rw [this] at ek; cases ek
theorem LedW.pre (p : Nat → SO) : ∀ (n i : Nat) {a b : Led}, LedW S a b → LedW S (preF p i n a) (preF p i n b)
  | 0, _, _, _, h => h
  | n + 1, i, _, _, h => ⟨.inl rfl, LedW.pre p n (i + 1) h⟩
theorem wturns_gen {n : Nat} {t : Expr} {body : List Stmt} (N : Nat) (D : Nat → St) (σ₀ τ : St) (hEnd : Sub S en (D N) σ₀) (h1 : outOf ((run Γ₀ n).ts en t σ₀) = some (false, τ)) (h2 : AllH S (obsOf ((run Γ₀ n).ts en t σ₀)))
    (step : ∀ i, i < N → ∃ σ₀ σ₁ σ₂ fl, Sub S en (D i) σ₀ ∧ outOf ((run Γ₀ n).ts en t σ₀) = some (true, σ₁) ∧ AllH S (obsOf ((run Γ₀ n).ts en t σ₀)) ∧ outOf ((run Γ₀ n).ex en body σ₁) = some (fl, σ₂) ∧ AllH S (obsOf ((run Γ₀ n).ex en body σ₁)) ∧ (fl = .next ∨ fl = .cont) ∧ Sub S en σ₂ (D (i + 1))) :
    WTurns S (run Γ₀ n) en t body N (D 0) .next τ := by
  suffices H : ∀ (d i : Nat), i + d = N → WTurns S (run Γ₀ n) en t body d (D i) .next τ from H N 0 (by omega)
  intro d
  induction d with
  | zero =>
    intro i h; obtain rfl : i = N := by omega
    obtain ⟨o, e, ho⟩ := run_ok h1 h2
    exact .sub hEnd (.done e ho)
  | succ d ih =>
    intro i h
    obtain ⟨σ₀, σ₁, σ₂, fl, h0, h1, h2, h3, h4, h5, h6⟩ := step i (by omega)
    obtain ⟨oa, ea, ha⟩ := run_ok h1 h2
    obtain ⟨ob, eb, hb⟩ := run_ok h3 h4
    exact .sub h0 (.step ea ha eb hb h5 (.sub h6 (ih (i + 1) (by omega))))
end
noncomputable abbrev ii (k : Nat) : SV := .int false k
noncomputable def vk (k : Nat) : SV := .tup [.str (nm "v"), ii k]
noncomputable def upTo (j : Nat) : List Int := (List.range j).map fun (i : Nat) => (i : Int)
theorem keyI {c d : Bool} {i j : Int} (h : keyV (.int c i) = keyV (.int d j)) : i = j := by simpa [keyV, atomOf] using h
theorem mem_upTo {j : Nat} {i : Int} : i ∈ upTo j ↔ ∃ k : Nat, k < j ∧ i = k := by
  unfold upTo
  rw [List.mem_map]
  exact ⟨fun ⟨k, hk, e⟩ => ⟨k, List.mem_range.mp hk, e.symm⟩, fun ⟨k, hk, e⟩ => ⟨k, List.mem_range.mpr hk, e.symm⟩⟩
theorem upTo_succ (j : Nat) : upTo (j + 1) = upTo j ++ [(j : Int)] := by unfold upTo; rw [List.range_succ, List.map_append]; rfl
theorem in_upTo {j k : Nat} (h : k < j) : (k : Int) ∈ upTo j := mem_upTo.mpr ⟨k, h, rfl⟩
theorem notin_upTo {j : Nat} {k : Int} (h : (j : Int) ≤ k) : k ∉ upTo j := fun e => by obtain ⟨i, hi, e⟩ := mem_upTo.mp e; omega
section
variable {S : Fix} {en : En}
theorem Sub.focus {loc : Loc} {led : Led} {o o' : List Orc} {t : Nat} {ks : List Int} {f : Int → SO} {i : Int} {q : SO} (h : led[t]? = some (.fam ks f)) (hi : i ∈ ks) (hq : f i = q) : Sub S en ⟨loc, led, o⟩ ⟨loc, led.set t (.ffam ks f i q), o'⟩ := fun c z m hh R => by
  refine (R.reset (u := t) (q := .ffam ks f i q) (fun j p hj hp ks2 ek => ?_) ⟨hi, hq ▸ R.led t _ h i hi, fun j hj _ => R.led t _ h j hj⟩).orc o'
  rw [← Option.some.inj ek]
  exact R.lvk t j hj _ ks h rfl
end
end Mine
namespace Mine
open PySem PySem.W PySem.Calls PyProof.Rows PySem.SeqAt
section
variable {S : Fix} {en : En}
theorem look_app {x : Str} {w : SV} : ∀ {loc extra : Loc}, look x loc = some w → look x (loc ++ extra) = some w
  | [], _, h => by cases h
  | p :: r, extra, h => by
    simp only [look, List.cons_append] at h ⊢
    split at h
    · exact h
    · exact look_app h
theorem Sub.drop (loc extra : Loc) {led : Led} {o : List Orc} : Sub S en ⟨loc ++ extra, led, o⟩ ⟨loc, led, []⟩ := Sub.loc fun x w h => look_app h
theorem iiL_get {n i : Nat} {α : Type} (f : Nat → α) (h : i < n) : ((List.range n).map f)[i]? = some (f i) := by
  rw [List.getElem?_eq_getElem (by simpa using h)]; simp
theorem iiL_none {n : Nat} {α : Type} (f : Nat → α) : ((List.range n).map f)[n]? = none := List.getElem?_eq_none (by simp)
end
section
variable {prog : Program} {w : World} {K : Frag} {mg mb : Str → Option Value}
theorem callOk_run (V : Valid K mg mb Γ₀) {n a : Nat} {fn : Fn} {args : List SV} {l loc' : Loc} {led led' : Led} {o0 oc : List Orc} {fl : Fl} {P : Prop} (hfn : lookN a Γ₀.fns = some fn) (hz : zipArgs fn.params args = some l)
    (h1 : outOf ((run Γ₀ n).ex ⟨fn.sc, []⟩ fn.body ⟨l, led, o0⟩) = some (fl, ⟨loc', led', oc⟩)) (h2 : AllH (Sx prog w K mg mb) (obsOf ((run Γ₀ n).ex ⟨fn.sc, []⟩ fn.body ⟨l, led, o0⟩)) = P) (h3 : P) : CallOk (Sx prog w K mg mb) (n + 1) a args led (retOf fl) led' := by
  obtain ⟨o, e, ho⟩ := run_ok (S := Sx prog w K mg mb) h1 (by rw [h2]; exact h3)
  exact callOk_def (n := n) (fn := fn) V hfn hz e ho
end
set_option tactic.hygienic false
open PySem PySem.W PySem.Calls PyProof.Rows PySem.SeqAt
noncomputable def s188 : Stmt := nthS f_Survey_terms.body 0
noncomputable abbrev en188 : En := ⟨f_Survey_terms.sc, []⟩
noncomputable def headsV (n : Nat) : List SV := (List.range n).map vk
noncomputable def goalV (n : Nat) (O : Nat → Nat) : List SV := (List.range n).map fun j => vk (O j)
noncomputable def vinfo (c lg : Int) (k : Int) : SO := .inst 252 [(nm "var", .int false k), (nm "kind", .str (nm "temp")), (nm "slot", .int true 0), (nm "first", .str (nm "head_arg")), (nm "unsafe", .bool true false), (nm "last_goal", .int true lg), (nm "count", .int true c), (nm "first_chunk", .int true 0), (nm "last_chunk", .int true 0)]
noncomputable def d19 (j : Nat) : List (SV × SV) := rdict j ii (fun i => .fam 20 i)
noncomputable abbrev iSurvey : SO := .inst 350 [(nm "infos", .ref 19)]
noncomputable abbrev l188h (n : Nat) : Loc := [(nm "self", .ref 18), (nm "terms", .tup (headsV n)), (nm "place", .str (nm "head")), (nm "goal", .int true (-1)), (nm "chunk", .int true 0)]
noncomputable abbrev l188g (n : Nat) (O : Nat → Nat) : Loc := [(nm "self", .ref 18), (nm "terms", .tup (goalV n O)), (nm "place", .str (nm "goal")), (nm "goal", .int true 0), (nm "chunk", .int true 0)]
noncomputable def metB (O : Nat → Nat) (j : Nat) (k : Int) : Bool := (List.range j).any fun i => decide ((O i : Int) = k)
noncomputable def fG (O : Nat → Nat) (j : Nat) (k : Int) : SO := match metB O j k with
  | true => vinfo 2 0 k
  | false => vinfo 1 (-1) k
theorem stepL188h (p : Nat → SO) (n j : Nat) :
    outOf (turnR 29 en188 (forTgt s188) (forBody s188) (vk j) ⟨l188h n, pre p 18 [iSurvey, .dict false (d19 j), .fam (upTo j) (vinfo 1 (-1))], [.look none, .home 20 j, .put (d19 (j + 1)), .look (some (.fam 20 j)), .look (some (.fam 20 j))]⟩) =
    some (.next, { loc := [(nm "self", .ref 18), (nm "terms", .tup (headsV n)), (nm "place", .str (nm "head")), (nm "goal", .int true (-1)), (nm "chunk", .int true 0), (nm "term", vk j)], led := pre p 18 [iSurvey, .dict false (d19 (j + 1)), .ffam (upTo j ++ [(↑j : Int)]) (vinfo 1 (-1)) (↑j : Int) (.inst 252 [(nm "var", .int false (↑j : Int)), (nm "kind", .str (nm "temp")), (nm "slot", .int true 0), (nm "first", .str (nm "head_arg")), (nm "unsafe", .bool true false), (nm "last_goal", .int true (-1)), (nm "count", .int true 1), (nm "first_chunk", .int true 0), (nm "last_chunk", .int true 0)])], orc := [] }) := by kernel_rfl
theorem obsL188h (S : Fix) (p : Nat → SO) (n j : Nat) :
    AllH S (obsOf (turnR 29 en188 (forTgt s188) (forBody s188) (vk j) ⟨l188h n, pre p 18 [iSurvey, .dict false (d19 j), .fam (upTo j) (vinfo 1 (-1))], [.look none, .home 20 j, .put (d19 (j + 1)), .look (some (.fam 20 j)), .look (some (.fam 20 j))]⟩)) =
    (LookOk (d19 j) (.int false (↑j : Int)) (none) ∧ (((↑j : Int)) ∉ (upTo j)) ∧ ((((↑j : Int)) : Int) = ((↑j : Int))) ∧ ((((↑j : Int)) : Int) = ((↑j : Int))) ∧ ((((↑j : Int)) : Int) = ((↑j : Int))) ∧ ((((↑j : Int)) : Int) = ((↑j : Int))) ∧ ((((↑j : Int)) : Int) = ((↑j : Int))) ∧ ((((↑j : Int)) : Int) = ((↑j : Int))) ∧ ((((↑j : Int)) : Int) = ((↑j : Int))) ∧ ((((↑j : Int)) : Int) = ((↑j : Int))) ∧ ((((↑j : Int)) : Int) = ((↑j : Int))) ∧ ((((↑(d19 j).length : Int)) : Int) ≤ (999)) ∧ PutOk (d19 j) (.int false (↑j : Int)) (.fam 20 (↑j : Int)) (d19 (j + 1)) ∧ LookOk (d19 (j + 1)) (.int false (↑j : Int)) (some (.fam 20 (↑j : Int))) ∧ ((((↑j : Int)) : Int) = ((↑j : Int))) ∧ LookOk (d19 (j + 1)) (.int false (↑j : Int)) (some (.fam 20 (↑j : Int))) ∧ ((((↑j : Int)) : Int) = ((↑j : Int))) ∧ ((((↑j : Int)) : Int) = ((↑j : Int))) ∧ ((((↑j : Int)) : Int) = ((↑j : Int))) ∧ ((((↑j : Int)) : Int) = ((↑j : Int))) ∧ True) := by kernel_rfl
theorem stepL188g (p : Nat → SO) (O : Nat → Nat) (n j : Nat) :
    outOf (turnR 29 en188 (forTgt s188) (forBody s188) (vk (O j)) ⟨l188g n O, pre p 18 [iSurvey, .dict false (d19 n), .ffam (upTo n) (fG O j) (O j) (vinfo 1 (-1) (O j))], [.look (some (.fam 20 (O j))), .look (some (.fam 20 (O j)))]⟩) =
    some (.next, { loc := [(nm "self", .ref 18), (nm "terms", .tup (goalV n O)), (nm "place", .str (nm "goal")), (nm "goal", .int true 0), (nm "chunk", .int true 0), (nm "term", vk (O j))], led := pre p 18 [iSurvey, .dict false (d19 n), .ffam (upTo n) (fG O j) (↑(O j) : Int) (.inst 252 [(nm "var", .int false (↑(O j) : Int)), (nm "kind", .str (nm "temp")), (nm "slot", .int true 0), (nm "first", .str (nm "head_arg")), (nm "unsafe", .bool true false), (nm "last_goal", .int true 0), (nm "count", .int true 2), (nm "first_chunk", .int true 0), (nm "last_chunk", .int true 0)])], orc := [] }) := by kernel_rfl
theorem obsL188g (S : Fix) (p : Nat → SO) (O : Nat → Nat) (n j : Nat) :
    AllH S (obsOf (turnR 29 en188 (forTgt s188) (forBody s188) (vk (O j)) ⟨l188g n O, pre p 18 [iSurvey, .dict false (d19 n), .ffam (upTo n) (fG O j) (O j) (vinfo 1 (-1) (O j))], [.look (some (.fam 20 (O j))), .look (some (.fam 20 (O j)))]⟩)) =
    (LookOk (d19 n) (.int false (↑(O j) : Int)) (some (.fam 20 (↑(O j) : Int))) ∧ LookOk (d19 n) (.int false (↑(O j) : Int)) (some (.fam 20 (↑(O j) : Int))) ∧ ((((↑(O j) : Int)) : Int) = ((↑(O j) : Int))) ∧ ((((↑(O j) : Int)) : Int) = ((↑(O j) : Int))) ∧ ((((↑(O j) : Int)) : Int) = ((↑(O j) : Int))) ∧ ((((↑(O j) : Int)) : Int) = ((↑(O j) : Int))) ∧ True) := by kernel_rfl
theorem look19 {j k : Nat} (h : k < j) : LookOk (d19 j) (ii k) (some (.fam 20 k)) :=
  ⟨rdict_kind fun _ _ => rfl, rdict_find h rfl fun i _ e => by have := keyI e; omega⟩
theorem new19 (j : Nat) : LookOk (d19 j) (ii j) none ∧ PutOk (d19 j) (ii j) (.fam 20 j) (d19 (j + 1)) := by
  have hn : ∀ i, i < j → keyV (ii i) ≠ keyV (ii j) := fun i hi e => by have := keyI e; omega
  exact ⟨⟨rdict_kind fun _ _ => rfl, rdict_find_none hn⟩, rdict_kind fun _ _ => rfl, by unfold d19; rw [rdict_put_new hn, rdict_succ]⟩
theorem len19 (j : Nat) : (d19 j).length = j := rdict_len j _ _
theorem s188_eq : s188 = .For (forTgt s188) (forIt s188) (forBody s188) [] (posOfS s188) := by kernel_rfl
theorem iter188h (p : Nat → SO) (d f : SO) (n : Nat) : (run Γ₀ 29).ev en188 (forIt s188) ⟨l188h n, pre p 18 [iSurvey, d, f], []⟩ = some (.tup (headsV n), ⟨l188h n, pre p 18 [iSurvey, d, f], []⟩, []) := by kernel_rfl
theorem iter188g (p : Nat → SO) (d f : SO) (O : Nat → Nat) (n : Nat) : (run Γ₀ 29).ev en188 (forIt s188) ⟨l188g n O, pre p 18 [iSurvey, d, f], []⟩ = some (.tup (goalV n O), ⟨l188g n O, pre p 18 [iSurvey, d, f], []⟩, []) := by kernel_rfl
theorem metB_iff {O : Nat → Nat} {j : Nat} {k : Int} : metB O j k = true ↔ ∃ i, i < j ∧ (O i : Int) = k := by
  unfold metB
  simp [List.any_eq_true]
theorem fG_met {O : Nat → Nat} {j : Nat} {k : Int} (h : ∃ i, i < j ∧ (O i : Int) = k) : fG O j k = vinfo 2 0 k := by unfold fG; rw [metB_iff.mpr h]
theorem fG_not {O : Nat → Nat} {j : Nat} {k : Int} (h : ¬ ∃ i, i < j ∧ (O i : Int) = k) : fG O j k = vinfo 1 (-1) k := by
  unfold fG
  cases q : metB O j k with
  | true => exact absurd (metB_iff.mp q) h
  | false => rfl
structure Perm (n : Nat) (O : Nat → Nat) : Prop where
  lt : ∀ j, j < n → O j < n
  inj : ∀ i j, i < n → j < n → O i = O j → i = j
  sur : ∀ k, k < n → ∃ j, j < n ∧ O j = k
section
variable {prog : Program} {w : World} {K : Frag} {mg mb : Str → Option Value}
theorem loop188h (V : Valid K mg mb Γ₀) (p : Nat → SO) {n : Nat} (hn : n ≤ 60) : LoopOk (Sx prog w K mg mb) 30 en188 s188 (l188h n) (pre p 18 [iSurvey, .dict true []]) (l188h n) (pre p 18 [iSurvey, .dict false (d19 n), .fam (upTo n) (vinfo 1 (-1))]) := by
  refine LoopOk.fam (vinfo 1 (-1)) (LoopOk.sub (Sub.ledW (led' := pre p 18 [iSurvey, .dict false (d19 0), .fam (upTo 0) (vinfo 1 (-1))]) (LedW.pre p 18 0 ⟨.inl rfl, .inr WO.dict, .inl rfl, trivial⟩)) ?_)
  rw [s188_eq]
  refine loopOk_for (n := 29) V (v := .tup (headsV n)) (oc := []) rfl (iter188h p _ _ n) (fun _ h => nomatch h) (.tup n ?_)
  refine turns_gen n (fun j => ⟨l188h n, pre p 18 [iSurvey, .dict false (d19 j), .fam (upTo j) (vinfo 1 (-1))], []⟩) _ (Sub.refl _) (by show some (headsV n)[n]? = _; rw [headsV, iiL_none]) fun i hi => ?_
  refine turn_ex (Sub.orc _ _) (by show some (headsV n)[i]? = _; rw [headsV, iiL_get _ hi]) (stepL188h p n i) ?_ (.inl rfl) ?_
  · rw [obsL188h]
    have l := look19 (j := i + 1) (k := i) (by omega)
    exact ⟨(new19 i).1, notin_upTo (Int.le_refl _), rfl, rfl, rfl, rfl, rfl, rfl, rfl, rfl, rfl, by rw [len19]; omega, (new19 i).2, l, rfl, l, rfl, rfl, rfl, rfl, trivial⟩
  · refine Sub.trans (Sub.drop (l188h n) [_]) ?_
    exact Sub.fam (t := 20) (o := []) (g := vinfo 1 (-1)) rfl rfl (fun k => by rw [upTo_succ]) fun k hk => by
      simp only [memOf]
      by_cases q : k = i
      · rw [if_pos q, q]; rfl
      · rw [if_neg q, if_pos hk]
theorem loop188g (V : Valid K mg mb Γ₀) (p : Nat → SO) {n : Nat} (hn : n ≤ 60) {O : Nat → Nat} (P : Perm n O) :
    LoopOk (Sx prog w K mg mb) 30 en188 s188 (l188g n O) (pre p 18 [iSurvey, .dict false (d19 n), .fam (upTo n) (vinfo 1 (-1))]) (l188g n O) (pre p 18 [iSurvey, .dict false (d19 n), .fam (upTo n) (vinfo 2 0)]) := by
  refine LoopOk.sub (Sub.fam (t := 20) (g := fG O 0) rfl rfl (fun _ => Iff.rfl) fun k hk => by simp only [memOf, if_pos hk]; rw [fG_not (by rintro ⟨i, hi, _⟩; omega)]) ?_
  rw [s188_eq]
  refine loopOk_for (n := 29) V (v := .tup (goalV n O)) (oc := []) rfl (iter188g p _ _ O n) (fun _ h => nomatch h) (.tup n ?_)
  refine turns_gen n (fun j => ⟨l188g n O, pre p 18 [iSurvey, .dict false (d19 n), .fam (upTo n) (fG O j)], []⟩) _ (Sub.fam (t := 20) (g := vinfo 2 0) rfl rfl (fun _ => Iff.rfl) fun k hk => ?_) (by show some (goalV n O)[n]? = _; rw [goalV, iiL_none]) fun i hi => ?_
  · obtain ⟨q, hq, e⟩ := mem_upTo.mp hk
    obtain ⟨j, hj, e2⟩ := P.sur q hq
    simp only [memOf, if_pos hk]
    rw [fG_met ⟨j, hj, by omega⟩]
  have hm : (O i : Int) ∈ upTo n := in_upTo (P.lt i hi)
  have hnot : ¬ ∃ j, j < i ∧ (O j : Int) = (O i : Int) := by rintro ⟨j, hj, e⟩; have := P.inj j i (by omega) hi (by omega); omega
  have l := look19 (P.lt i hi)
  refine turn_ex ?_ (by show some (goalV n O)[i]? = _; rw [goalV, iiL_get _ hi]) (stepL188g p O n i) ?_ (.inl rfl) ?_
  · exact Sub.focus (t := 20) (i := O i) (q := vinfo 1 (-1) (O i)) rfl hm (fG_not hnot)
  · rw [obsL188g]; exact ⟨l, l, rfl, rfl, rfl, rfl, trivial⟩
  · refine Sub.trans (Sub.drop (l188g n O) [_]) ?_
    exact Sub.fam (t := 20) (o := []) (g := fG O (i + 1)) rfl rfl (fun k => Iff.rfl) fun k hk => by
      simp only [memOf]
      by_cases q : k = (O i : Int)
      · rw [if_pos q, fG_met ⟨i, by omega, q.symm⟩, q]; rfl
      · rw [if_neg q, if_pos hk]
        congr 1
        by_cases q2 : ∃ j, j < i ∧ (O j : Int) = k
        · rw [fG_met q2, fG_met (let ⟨j, hj, e⟩ := q2; ⟨j, by omega, e⟩)]
        · rw [fG_not q2, fG_not]
          rintro ⟨j, hj, e⟩
          by_cases q3 : j = i
          · subst q3; exact q e.symm
          · exact q2 ⟨j, by omega, e⟩
end
set_option tactic.hygienic false
open PySem PySem.W PySem.Calls PyProof.Rows PySem.SeqAt
noncomputable def takeS : Nat → List Stmt → List Stmt
  | 0, _ => []
  | n + 1, [] => []
  | n + 1, a :: r => a :: takeS n r
noncomputable abbrev en375 : En := ⟨f_classify.sc, []⟩
noncomputable def theGoal (n : Nat) (O : Nat → Nat) : SV := .tup [.str (nm "call"), .int true 33, .tup (goalV n O)]
noncomputable abbrev iKernel (n : Nat) : SO := .inst 217 [(nm "functor", .int true 32), (nm "args", .tup (headsV n)), (nm "goals", .ref 15), (nm "count", .int false n)]
noncomputable abbrev c15 (n : Nat) (O : Nat → Nat) : SO := .list true [theGoal n O]
noncomputable def s226 : Stmt := nthS f_classify.body 7
noncomputable abbrev en226 : En := en375
noncomputable abbrev l226 (v : Nat → SV) : Loc := [(nm "kernel", v 0), (nm "goals", v 1), (nm "chunks", v 2), (nm "survey", v 3), (nm "needs_env", v 4), (nm "at", v 5), (nm "goal", v 6), (nm "special", v 7), (nm "infos", .ref 19)]
theorem stepL226 (p : Nat → SO) (v : Nat → SV) (n j ep : Nat) :
    outOf (turnR 29 en226 (forTgt s226) (forBody s226) (ii j) ⟨l226 v, pre p 19 [.fdict (d19 n) ep, .fam (upTo n) (vinfo 2 0)], [.look (some (.fam 20 j)), .look (some (.fam 20 j))]⟩) =
    some (.next, { loc := [(nm "kernel", v 0), (nm "goals", v 1), (nm "chunks", v 2), (nm "survey", v 3), (nm "needs_env", v 4), (nm "at", v 5), (nm "goal", v 6), (nm "special", v 7), (nm "infos", .ref 19), (nm "k", ii j)], led := pre p 19 [.fdict (d19 n) ep, .ffam (upTo n) (vinfo 2 0) (↑j : Int) (.inst 252 [(nm "var", .int false (↑j : Int)), (nm "kind", .str (nm "temp")), (nm "slot", .int true 0), (nm "first", .str (nm "head_arg")), (nm "unsafe", .bool true false), (nm "last_goal", .int true 0), (nm "count", .int true 2), (nm "first_chunk", .int true 0), (nm "last_chunk", .int true 0)])], orc := [] }) := by kernel_rfl
theorem obsL226 (S : Fix) (p : Nat → SO) (v : Nat → SV) (n j ep : Nat) :
    AllH S (obsOf (turnR 29 en226 (forTgt s226) (forBody s226) (ii j) ⟨l226 v, pre p 19 [.fdict (d19 n) ep, .fam (upTo n) (vinfo 2 0)], [.look (some (.fam 20 j)), .look (some (.fam 20 j))]⟩)) =
    (LookOk (d19 n) (.int false (↑j : Int)) (some (.fam 20 (↑j : Int))) ∧ (((↑j : Int)) ∈ (upTo n)) ∧ (((↑j : Int)) ∈ (upTo n)) ∧ (((↑j : Int)) ∈ (upTo n)) ∧ LookOk (d19 n) (.int false (↑j : Int)) (some (.fam 20 (↑j : Int))) ∧ (((↑j : Int)) ∈ (upTo n)) ∧ True) := by kernel_rfl
noncomputable def s203 : Stmt := nthS f_slot_order.body 1
noncomputable abbrev en203 : En := ⟨f_slot_order.sc, []⟩
noncomputable abbrev l203 : Loc := [(nm "infos", .ref 19), (nm "order", .ref 21)]
noncomputable def upL (n : Nat) : List SV := (List.range n).map ii
theorem stepI203 (p : Nat → SO) (n : Nat) (f g : SO) :
    outOf ((run Γ₀ 29).ev en203 (forIt s203) ⟨l203, pre p 19 [.dict false (d19 n), f, g], [.sput (upTo n)]⟩) =
    some (.ref 22, { loc := [(nm "infos", .ref 19), (nm "order", .ref 21)], led := pre p 19 [.dict false (d19 n), f, g, .list false (List.map (.int false) (upTo n))], orc := [] }) := by kernel_rfl
theorem obsI203 (S : Fix) (p : Nat → SO) (n : Nat) (f g : SO) :
    AllH S (obsOf ((run Γ₀ 29).ev en203 (forIt s203) ⟨l203, pre p 19 [.dict false (d19 n), f, g], [.sput (upTo n)]⟩)) =
    ((((List.map Prod.fst (d19 n)).map keyV = (upTo n).map (fun i => keyV (.int false i))) ∧ (upTo n).Pairwise (· ≤ ·) ∧ (upTo n).length < 64) ∧ True) := by kernel_rfl
theorem stepL203 (p : Nat → SO) (n j : Nat) (g : SO) :
    outOf (turnR 29 en203 (forTgt s203) (forBody s203) (ii j) ⟨l203, pre p 19 [.dict false (d19 n), .fam (upTo n) (vinfo 2 0), g, .list false (upL n)], [.look (some (.fam 20 j))]⟩) =
    some (.next, { loc := [(nm "infos", .ref 19), (nm "order", .ref 21), (nm "k", ii j), (nm "info", .fam 20 (↑j : Int))], led := pre p 19 [.dict false (d19 n), .fam (upTo n) (vinfo 2 0), g, .list false (upL n)], orc := [] }) := by kernel_rfl
theorem obsL203 (S : Fix) (p : Nat → SO) (n j : Nat) (g : SO) :
    AllH S (obsOf (turnR 29 en203 (forTgt s203) (forBody s203) (ii j) ⟨l203, pre p 19 [.dict false (d19 n), .fam (upTo n) (vinfo 2 0), g, .list false (upL n)], [.look (some (.fam 20 j))]⟩)) =
    (LookOk (d19 n) (.int false (↑j : Int)) (some (.fam 20 (↑j : Int))) ∧ (((↑j : Int)) ∈ (upTo n)) ∧ True) := by kernel_rfl
noncomputable abbrev v226 (n : Nat) (O : Nat → Nat) (i : Nat) : SV := match i with
  | 0 => .ref 16
  | 1 => .ref 15
  | 2 => .ref 17
  | 3 => .ref 18
  | 4 => .bool true false
  | 5 => .int true 0
  | 6 => theGoal n O
  | _ => .int true (-1)
noncomputable abbrev iPlan : SO := .inst 308 [(nm "infos", .ref 19), (nm "chunks", .ref 17), (nm "needs_env", .bool true false), (nm "env_size", .int true 0), (nm "live_after", .ref 23)]
noncomputable abbrev led375 (p : Nat → SO) (n : Nat) (O : Nat → Nat) : Led := pre p 15 [c15 n O, iKernel n, .list true [.int true 0], iSurvey, .dict false (d19 n), .fam (upTo n) (vinfo 2 0), .list true [], .list false (upL n), .list true [.int true 0], iPlan]
noncomputable abbrev o375 (p : Nat → SO) (n : Nat) (O : Nat → Nat) : List Orc := [.loop (l188h n) (pre p 15 [c15 n O, iKernel n, .list true [.int true 0], iSurvey, .dict false (d19 n), .fam (upTo n) (vinfo 1 (-1))]),
    .loop (l188g n O) (pre p 15 [c15 n O, iKernel n, .list true [.int true 0], iSurvey, .dict false (d19 n), .fam (upTo n) (vinfo 2 0)]),
    .loop (l226 (v226 n O)) (pre p 15 [c15 n O, iKernel n, .list true [.int true 0], iSurvey, .dict false (d19 n), .fam (upTo n) (vinfo 2 0)]),
    .loop l203 (pre p 15 [c15 n O, iKernel n, .list true [.int true 0], iSurvey, .dict false (d19 n), .fam (upTo n) (vinfo 2 0), .list true [], .list false (upL n)])]
theorem stepF375 (p : Nat → SO) (n : Nat) (O : Nat → Nat) :
    outOf ((run Γ₀ 79).ex en375 f_classify.body ⟨[(nm "kernel", .ref 16)], pre p 15 [c15 n O, iKernel n], o375 p n O⟩) =
    some (.ret (.ref 24), { loc := [(nm "kernel", v226 n O 0), (nm "goals", v226 n O 1), (nm "chunks", v226 n O 2), (nm "survey", v226 n O 3), (nm "needs_env", v226 n O 4), (nm "at", .int true 0), (nm "goal", v226 n O 6), (nm "special", v226 n O 7), (nm "infos", .ref 19), (nm "order", .ref 21), (nm "live_after", .ref 23), (nm "live", .int true 0)], led := pre p 15 [c15 n O, iKernel n, .list true [.int true 0], iSurvey, .dict false (d19 n), .fam (upTo n) (vinfo 2 0), .list true [], .list false (upL n), .list true [.int true 0], .inst 308 [(nm "infos", .ref 19), (nm "chunks", .ref 17), (nm "needs_env", .bool true false), (nm "env_size", .int true 0), (nm "live_after", .ref 23)]], orc := [] }) := by kernel_rfl
theorem obsF375 (S : Fix) (p : Nat → SO) (n : Nat) (O : Nat → Nat) :
    AllH S (obsOf ((run Γ₀ 79).ex en375 f_classify.body ⟨[(nm "kernel", .ref 16)], pre p 15 [c15 n O, iKernel n], o375 p n O⟩)) =
    (LoopOk S (30) en188 s188 ([(nm "self", .ref 18), (nm "terms", .tup (headsV n)), (nm "place", .str (nm "head")), (nm "goal", .int true (-1)), (nm "chunk", .int true 0)]) (pre p 15 [c15 n O, iKernel n, .list true [.int true 0], .inst 350 [(nm "infos", .ref 19)], .dict true []]) (l188h n) (pre p 15 [c15 n O, iKernel n, .list true [.int true 0], iSurvey, .dict false (d19 n), .fam (upTo n) (vinfo 1 (-1))]) ∧ LoopOk S (30) en188 s188 ([(nm "self", .ref 18), (nm "terms", .tup (goalV n O)), (nm "place", .str (nm "goal")), (nm "goal", .int true 0), (nm "chunk", .int true 0)]) (pre p 15 [c15 n O, iKernel n, .list true [.int true 0], iSurvey, .dict false (d19 n), .fam (upTo n) (vinfo 1 (-1))]) (l188g n O) (pre p 15 [c15 n O, iKernel n, .list true [.int true 0], iSurvey, .dict false (d19 n), .fam (upTo n) (vinfo 2 0)]) ∧ LoopOk S (30) en226 s226 ([(nm "kernel", .ref 16), (nm "goals", .ref 15), (nm "chunks", .ref 17), (nm "survey", .ref 18), (nm "needs_env", .bool true false), (nm "at", .int true 0), (nm "goal", theGoal n O), (nm "special", .int true (-1)), (nm "infos", .ref 19)]) (pre p 15 [c15 n O, iKernel n, .list true [.int true 0], iSurvey, .dict false (d19 n), .fam (upTo n) (vinfo 2 0)]) (l226 (v226 n O)) (pre p 15 [c15 n O, iKernel n, .list true [.int true 0], iSurvey, .dict false (d19 n), .fam (upTo n) (vinfo 2 0)]) ∧ LoopOk S (30) en203 s203 ([(nm "infos", .ref 19), (nm "order", .ref 21)]) (pre p 15 [c15 n O, iKernel n, .list true [.int true 0], iSurvey, .dict false (d19 n), .fam (upTo n) (vinfo 2 0), .list true []]) (l203) (pre p 15 [c15 n O, iKernel n, .list true [.int true 0], iSurvey, .dict false (d19 n), .fam (upTo n) (vinfo 2 0), .list true [], .list false (upL n)]) ∧ True) := by kernel_rfl
noncomputable def pf (l : Led) (i : Nat) : SO := (l[i]?).getD .nocell
theorem pre18 (p : Nat → SO) (a b c : SO) (r : Led) : pre (pf (pre p 15 [a, b, c])) 18 r = pre p 15 (a :: b :: c :: r) := by kernel_rfl
theorem pre19 (p : Nat → SO) (a b c d : SO) (r : Led) : pre (pf (pre p 15 [a, b, c, d])) 19 r = pre p 15 (a :: b :: c :: d :: r) := by kernel_rfl
theorem rise19 (n : Nat) (hn : n ≤ 60) : (List.map keyV (List.map Prod.fst (d19 n)) = (upTo n).map (fun i => keyV (.int false i))) ∧ (upTo n).Pairwise (· ≤ ·) ∧ (upTo n).length < 64 := by
  refine ⟨?_, ?_, ?_⟩
  · unfold d19 rdict upTo; simp only [List.map_map]; rfl
  · unfold upTo; rw [List.pairwise_map]; exact List.pairwise_lt_range.imp fun h => by omega
  · unfold upTo; simp; omega
theorem s203_eq : s203 = .For (forTgt s203) (forIt s203) (forBody s203) [] (posOfS s203) := by kernel_rfl
theorem s226_eq : s226 = .For (forTgt s226) (forIt s226) (forBody s226) [] (posOfS s226) := by kernel_rfl
theorem upL_upTo (n : Nat) : List.map (SV.int false) (upTo n) = upL n := by unfold upL upTo; rw [List.map_map]; rfl
theorem iter226 (p : Nat → SO) (v : Nat → SV) (d f : SO) : (run Γ₀ 29).ev en226 (forIt s226) ⟨l226 v, pre p 19 [d, f], []⟩ = some (.ref 19, ⟨l226 v, pre p 19 [d, f], []⟩, []) := by kernel_rfl
section
variable {prog : Program} {w : World} {K : Frag} {mg mb : Str → Option Value}
theorem loop203 (V : Valid K mg mb Γ₀) (p : Nat → SO) (g : SO) {n : Nat} (hn : n ≤ 60) :
    LoopOk (Sx prog w K mg mb) 30 en203 s203 l203 (pre p 19 [.dict false (d19 n), .fam (upTo n) (vinfo 2 0), g]) l203 (pre p 19 [.dict false (d19 n), .fam (upTo n) (vinfo 2 0), g, .list false (upL n)]) := by
  rw [s203_eq]
  obtain ⟨oi, e1, e2⟩ := run_ok (S := Sx prog w K mg mb) (stepI203 p n (.fam (upTo n) (vinfo 2 0)) g) (by rw [obsI203]; exact ⟨rise19 n hn, trivial⟩)
  rw [upL_upTo] at e1
  refine loopOk_for (n := 29) V (v := .ref 22) (oc := []) rfl e1 e2 (.list n ⟨false, upL n, rfl⟩ ?_)
  refine turns_gen n (fun _ => ⟨l203, pre p 19 [.dict false (d19 n), .fam (upTo n) (vinfo 2 0), g, .list false (upL n)], []⟩) _ (Sub.refl _) (by show some (upL n)[n]? = _; rw [upL, iiL_none]) fun i hi => ?_
  refine turn_ex (Sub.orc _ _) (by show some (upL n)[i]? = _; rw [upL, iiL_get _ hi]) (stepL203 p n i g) ?_ (.inl rfl) (Sub.drop l203 [_, _])
  rw [obsL203]
  exact ⟨look19 hi, in_upTo hi, trivial⟩
theorem loop226 (V : Valid K mg mb Γ₀) (p : Nat → SO) (v : Nat → SV) {n : Nat} (hn : n ≤ 60) :
    LoopOk (Sx prog w K mg mb) 30 en226 s226 (l226 v) (pre p 19 [.dict false (d19 n), .fam (upTo n) (vinfo 2 0)]) (l226 v) (pre p 19 [.dict false (d19 n), .fam (upTo n) (vinfo 2 0)]) := by
  rw [s226_eq]
  refine loopOk_for (n := 29) V (v := .ref 19) (oc := []) rfl (iter226 p v _ _) (fun _ h => nomatch h) ?_
  refine Over.dict (d := d19 n) (d' := d19 n) n (l226 v) (pre p 19 [.dict false (d19 n), .fam (upTo n) (vinfo 2 0)]) [] [] rfl (fun q hq => ?_) (by show 19 < 21; decide) fun ep => ?_
  · obtain ⟨i, _, rfl⟩ := List.mem_map.mp hq
    exact ⟨_, rfl⟩
  rw [len19]
  refine turns_gen n (fun _ => ⟨l226 v, pre p 19 [.fdict (d19 n) ep, .fam (upTo n) (vinfo 2 0)], []⟩) _ (Sub.refl _) ?_ fun i hi => ?_
  · show (if (d19 n).length = n ∧ ep = ep then some ((d19 n)[n]?.map (·.1)) else none) = _
    rw [if_pos ⟨len19 n, rfl⟩, List.getElem?_eq_none (by rw [len19]; exact Nat.le_refl _)]; rfl
  refine turn_ex (v := ii i) (Sub.orc _ _) ?_ (stepL226 p v n i ep) ?_ (.inl rfl) (Sub.trans (Sub.drop (l226 v) [_]) ?_)
  · show (if (d19 n).length = n ∧ ep = ep then some ((d19 n)[i]?.map (·.1)) else none) = _
    rw [if_pos ⟨len19 n, rfl⟩, d19, rdict, iiL_get _ hi]; rfl
  · rw [obsL226]
    have l := look19 hi
    have m := in_upTo hi
    exact ⟨l, m, m, m, l, m, trivial⟩
  · exact Sub.fam (t := 20) (o := []) (g := vinfo 2 0) rfl rfl (fun k => Iff.rfl) fun k hk => by
      simp only [memOf]
      by_cases q : k = i
      · rw [if_pos q, q]; rfl
      · rw [if_neg q, if_pos hk]
theorem fn375 : lookN 375 Γ₀.fns = some f_classify := by kernel_rfl
theorem za375 : zipArgs f_classify.params [.ref 16] = some [(nm "kernel", .ref 16)] := by kernel_rfl
theorem call375 (V : Valid K mg mb Γ₀) (p : Nat → SO) {n : Nat} (hn : n ≤ 60) {O : Nat → Nat} (P : Perm n O) :
    CallOk (Sx prog w K mg mb) 80 375 [.ref 16] (pre p 15 [c15 n O, iKernel n]) (.ref 24) (led375 p n O) := by
  have h1 := loop188h (prog := prog) (w := w) V (pf (pre p 15 [c15 n O, iKernel n, .list true [.int true 0]])) hn
  have h2 := loop188g (prog := prog) (w := w) V (pf (pre p 15 [c15 n O, iKernel n, .list true [.int true 0]])) hn P
  have h3 := loop226 (prog := prog) (w := w) V (pf (pre p 15 [c15 n O, iKernel n, .list true [.int true 0], iSurvey])) (v226 n O) hn
  have h4 := loop203 (prog := prog) (w := w) V (pf (pre p 15 [c15 n O, iKernel n, .list true [.int true 0], iSurvey])) (.list true []) hn
  simp only [pre18] at h1 h2
  simp only [pre19] at h3 h4
  exact callOk_run (n := 79) V fn375 za375 (stepF375 p n O) (obsF375 _ p n O) ⟨h1, h2, h3, h4, trivial⟩
end
set_option tactic.hygienic false
open PySem PySem.W PySem.Calls PyProof.Rows PySem.SeqAt
noncomputable def s575 : Stmt := nthS f_clause.body 4
noncomputable abbrev en575 : En := ⟨f_clause.sc, []⟩
noncomputable def s518 : Stmt := nthS f_load_arguments.body 1
noncomputable abbrev en518 : En := ⟨f_load_arguments.sc, []⟩
noncomputable def tK (k : Nat) : SV := .tup [.str (nm "t"), ii k]
noncomputable def aK (k : Nat) : SV := .tup [.str (nm "a"), ii (k + 1)]
noncomputable def gv (k : Nat) : SV := .tup [.str (nm "get_variable"), tK k, aK k]
noncomputable def pv (O : Nat → Nat) (j : Nat) : SV := .tup [.str (nm "put_value"), tK (O j), aK j]
noncomputable def gvL (j : Nat) : List SV := (List.range j).map gv
noncomputable def pvL (O : Nat → Nat) (j : Nat) : List SV := (List.range j).map (pv O)
noncomputable abbrev iMaker (n : Nat) : SO := .inst 645 [(nm "kernel", .ref 16), (nm "plan", .ref 24), (nm "code", .ref 26), (nm "seen", .ref 27), (nm "local", .ref 28), (nm "next_temporary", ii n)]
noncomputable abbrev l575 (j : Nat) : Loc := [(nm "self", .ref 25), (nm "plan", .ref 24), (nm "goals", .ref 15), (nm "number", ii j)]
noncomputable abbrev led25 (p : Nat → SO) (n : Nat) (code seen loc : SO) : Led := pre p 19 [.dict false (d19 n), .fam (upTo n) (vinfo 2 0), p 21, p 22, p 23, iPlan, iMaker n, code, seen, loc]
theorem stepL575 (p : Nat → SO) (n j : Nat) :
    outOf (turnR 39 en575 (forTgt s575) (forBody s575) (vk j) ⟨l575 j, led25 p n (.list false (gvL j)) (.set false (upTo j)) (.set false (upTo j)), [.look (some (.fam 20 j)), .bit false, .sput (upTo (j + 1)), .sput (upTo (j + 1)), .look (some (.fam 20 j))]⟩) =
    some (.next, { loc := [(nm "self", .ref 25), (nm "plan", .ref 24), (nm "goals", .ref 15), (nm "number", .int false ((↑j : Int) + 1)), (nm "arg", vk j)], led := pre p 19 [.dict false (d19 n), .fam (upTo n) (vinfo 2 0), p 21, p 22, p 23, iPlan, iMaker n, .list false (gvL j ++ [.tup [.str (nm "get_variable"), .tup [.str (nm "t"), .int false (↑j : Int)], .tup [.str (nm "a"), .int false ((↑j : Int) + 1)]]]), .set false (upTo (j + 1)), .set false (upTo (j + 1))], orc := [] }) := by kernel_rfl
theorem obsL575 (S : Fix) (p : Nat → SO) (n j : Nat) :
    AllH S (obsOf (turnR 39 en575 (forTgt s575) (forBody s575) (vk j) ⟨l575 j, led25 p n (.list false (gvL j)) (.set false (upTo j)) (.set false (upTo j)), [.look (some (.fam 20 j)), .bit false, .sput (upTo (j + 1)), .sput (upTo (j + 1)), .look (some (.fam 20 j))]⟩)) =
    (LookOk (d19 n) (.int false (↑j : Int)) (some (.fam 20 (↑j : Int))) ∧ (((↑j : Int)) ∈ (upTo n)) ∧ ((((↑(upTo j).length : Int)) : Int) ≤ (999)) ∧ (decide (((↑j : Int)) ∈ (upTo j)) = (false)) ∧ ((((↑(upTo j).length : Int)) : Int) ≤ (999)) ∧ ((upTo (j + 1)) = if ((↑j : Int)) ∈ (upTo j) then (upTo j) else (upTo j) ++ [(((↑j : Int)) : Int)]) ∧ ((((↑(upTo j).length : Int)) : Int) ≤ (999)) ∧ ((upTo (j + 1)) = if ((↑j : Int)) ∈ (upTo j) then (upTo j) else (upTo j) ++ [(((↑j : Int)) : Int)]) ∧ LookOk (d19 n) (.int false (↑j : Int)) (some (.fam 20 (↑j : Int))) ∧ (((↑j : Int)) ∈ (upTo n)) ∧ ((((↑(gvL j).length : Int)) : Int) ≤ (999)) ∧ True) := by kernel_rfl
noncomputable abbrev l518 (n : Nat) (O : Nat → Nat) (j : Nat) : Loc := [(nm "self", .ref 25), (nm "args", .tup (goalV n O)), (nm "leaving", .int true 0), (nm "number", ii j)]
theorem stepL518 (p : Nat → SO) (n j : Nat) (O : Nat → Nat) (loc : SO) :
    outOf (turnR 39 en518 (forTgt s518) (forBody s518) (vk (O j)) ⟨l518 n O j, led25 p n (.list false (gvL n ++ pvL O j)) (.set false (upTo n)) loc, [.look (some (.fam 20 (O j))), .bit true, .look (some (.fam 20 (O j)))]⟩) =
    some (.next, { loc := [(nm "self", .ref 25), (nm "args", .tup (goalV n O)), (nm "leaving", .int true 0), (nm "number", .int false ((↑j : Int) + 1)), (nm "arg", vk (O j)), (nm "target", .tup [.str (nm "a"), .int false ((↑j : Int) + 1)])], led := pre p 19 [.dict false (d19 n), .fam (upTo n) (vinfo 2 0), p 21, p 22, p 23, iPlan, iMaker n, .list false (gvL n ++ pvL O j ++ [.tup [.str (nm "put_value"), .tup [.str (nm "t"), .int false (↑(O j) : Int)], .tup [.str (nm "a"), .int false ((↑j : Int) + 1)]]]), .set false (upTo n), loc], orc := [] }) := by kernel_rfl
theorem obsL518 (S : Fix) (p : Nat → SO) (n j : Nat) (O : Nat → Nat) (loc : SO) :
    AllH S (obsOf (turnR 39 en518 (forTgt s518) (forBody s518) (vk (O j)) ⟨l518 n O j, led25 p n (.list false (gvL n ++ pvL O j)) (.set false (upTo n)) loc, [.look (some (.fam 20 (O j))), .bit true, .look (some (.fam 20 (O j)))]⟩)) =
    (LookOk (d19 n) (.int false (↑(O j) : Int)) (some (.fam 20 (↑(O j) : Int))) ∧ (((↑(O j) : Int)) ∈ (upTo n)) ∧ ((((↑(upTo n).length : Int)) : Int) ≤ (999)) ∧ (decide (((↑(O j) : Int)) ∈ (upTo n)) = (true)) ∧ (((↑(O j) : Int)) ∈ (upTo n)) ∧ LookOk (d19 n) (.int false (↑(O j) : Int)) (some (.fam 20 (↑(O j) : Int))) ∧ (((↑(O j) : Int)) ∈ (upTo n)) ∧ ((((↑(gvL n ++ pvL O j).length : Int)) : Int) ≤ (999)) ∧ True) := by kernel_rfl
noncomputable def exI : SV := .tup [.str (nm "execute"), .int true 33]
noncomputable def codeL (n : Nat) (O : Nat → Nat) : List SV := gvL n ++ pvL O n ++ [exI]
noncomputable abbrev led654 (p : Nat → SO) (n : Nat) (O : Nat → Nat) : Led := pre p 15 [c15 n O, iKernel n, .list true [.int true 0], iSurvey, .dict false (d19 n), .fam (upTo n) (vinfo 2 0), .list true [], .list false (upL n), .list true [.int true 0], iPlan, iMaker n, .list false (codeL n O), .set false (upTo n), .set false (upTo n)]
noncomputable abbrev en654 : En := ⟨f_abstract_code.sc, []⟩
noncomputable abbrev o654 (p : Nat → SO) (n : Nat) (O : Nat → Nat) : List Orc := [
  .loop (l575 n) (pre p 15 [c15 n O, iKernel n, .list true [.int true 0], iSurvey, .dict false (d19 n), .fam (upTo n) (vinfo 2 0), .list true [], .list false (upL n), .list true [.int true 0], iPlan, iMaker n, .list false (gvL n), .set false (upTo n), .set false (upTo n)]),
  .loop (l518 n O n) (pre p 15 [c15 n O, iKernel n, .list true [.int true 0], iSurvey, .dict false (d19 n), .fam (upTo n) (vinfo 2 0), .list true [], .list false (upL n), .list true [.int true 0], iPlan, iMaker n, .list false (gvL n ++ pvL O n), .set false (upTo n), .set false (upTo n)])]
theorem stepF654 (p : Nat → SO) (n : Nat) (O : Nat → Nat) :
    outOf ((run Γ₀ 79).ex en654 f_abstract_code.body ⟨[(nm "symbols", .ref 4), (nm "kernel", .ref 16), (nm "plan", .ref 24)], led375 p n O, o654 p n O⟩) =
    some (.ret (.ref 26), { loc := [(nm "symbols", .ref 4), (nm "kernel", .ref 16), (nm "plan", .ref 24)], led := pre p 15 [c15 n O, iKernel n, .list true [.int true 0], iSurvey, .dict false (d19 n), .fam (upTo n) (vinfo 2 0), .list true [], .list false (upL n), .list true [.int true 0], iPlan, iMaker n, .list false (gvL n ++ pvL O n ++ [.tup [.str (nm "execute"), .int true 33]]), .set false (upTo n), .set false (upTo n)], orc := [] }) := by kernel_rfl
theorem obsF654 (S : Fix) (p : Nat → SO) (n : Nat) (O : Nat → Nat) :
    AllH S (obsOf ((run Γ₀ 79).ex en654 f_abstract_code.body ⟨[(nm "symbols", .ref 4), (nm "kernel", .ref 16), (nm "plan", .ref 24)], led375 p n O, o654 p n O⟩)) =
    (LoopOk S (40) en575 s575 ([(nm "self", .ref 25), (nm "plan", .ref 24), (nm "goals", .ref 15), (nm "number", .int true 0)]) (pre p 15 [c15 n O, iKernel n, .list true [.int true 0], iSurvey, .dict false (d19 n), .fam (upTo n) (vinfo 2 0), .list true [], .list false (upL n), .list true [.int true 0], iPlan, .inst 645 [(nm "kernel", .ref 16), (nm "plan", .ref 24), (nm "code", .ref 26), (nm "seen", .ref 27), (nm "local", .ref 28), (nm "next_temporary", .int false (↑n : Int))], .list true [], .set false [], .set false []]) (l575 n) (pre p 15 [c15 n O, iKernel n, .list true [.int true 0], iSurvey, .dict false (d19 n), .fam (upTo n) (vinfo 2 0), .list true [], .list false (upL n), .list true [.int true 0], iPlan, iMaker n, .list false (gvL n), .set false (upTo n), .set false (upTo n)]) ∧ LoopOk S (40) en518 s518 ([(nm "self", .ref 25), (nm "args", .tup (goalV n O)), (nm "leaving", .int true (↑0 : Int)), (nm "number", .int true 0)]) (pre p 15 [c15 n O, iKernel n, .list true [.int true 0], iSurvey, .dict false (d19 n), .fam (upTo n) (vinfo 2 0), .list true [], .list false (upL n), .list true [.int true 0], iPlan, iMaker n, .list false (gvL n), .set false (upTo n), .set false (upTo n)]) (l518 n O n) (pre p 15 [c15 n O, iKernel n, .list true [.int true 0], iSurvey, .dict false (d19 n), .fam (upTo n) (vinfo 2 0), .list true [], .list false (upL n), .list true [.int true 0], iPlan, iMaker n, .list false (gvL n ++ pvL O n), .set false (upTo n), .set false (upTo n)]) ∧ ((((↑(gvL n ++ pvL O n).length : Int)) : Int) ≤ (999)) ∧ True) := by kernel_rfl
theorem s575_eq : s575 = .For (forTgt s575) (forIt s575) (forBody s575) [] (posOfS s575) := by kernel_rfl
theorem s518_eq : s518 = .For (forTgt s518) (forIt s518) (forBody s518) [] (posOfS s518) := by kernel_rfl
theorem sput_upTo (j : Nat) : upTo (j + 1) = if (j : Int) ∈ upTo j then upTo j else upTo j ++ [(j : Int)] := by
  rw [if_neg (notin_upTo (Int.le_refl _)), upTo_succ]
theorem len_upTo (j : Nat) : (upTo j).length = j := by simp [upTo]
theorem has_upTo {j k : Nat} (h : k < j) : decide ((k : Int) ∈ upTo j) = true := decide_eq_true (in_upTo h)
theorem hasnt_upTo (j : Nat) : decide ((j : Int) ∈ upTo j) = false := decide_eq_false (notin_upTo (Int.le_refl _))
theorem len_gvL (j : Nat) : (gvL j).length = j := by simp [gvL]
theorem len_pvL (O : Nat → Nat) (j : Nat) : (pvL O j).length = j := by simp [pvL]
theorem gvL_succ (j : Nat) : gvL (j + 1) = gvL j ++ [gv j] := by unfold gvL; rw [List.range_succ, List.map_append]; rfl
theorem pvL_succ (O : Nat → Nat) (j : Nat) : pvL O (j + 1) = pvL O j ++ [pv O j] := by unfold pvL; rw [List.range_succ, List.map_append]; rfl
theorem iter575 (p : Nat → SO) (n : Nat) (a b c : SO) (v : SV) (kc : SO) : (run Γ₀ 39).ev en575 (forIt s575) ⟨[(nm "self", .ref 25), (nm "plan", .ref 24), (nm "goals", .ref 15), (nm "number", v)], pre p 16 [iKernel n, p 17, p 18, .dict false (d19 n), .fam (upTo n) (vinfo 2 0), p 21, p 22, p 23, iPlan, iMaker n, a, b, c], []⟩ = some (.tup (headsV n), ⟨[(nm "self", .ref 25), (nm "plan", .ref 24), (nm "goals", .ref 15), (nm "number", v)], pre p 16 [iKernel n, p 17, p 18, .dict false (d19 n), .fam (upTo n) (vinfo 2 0), p 21, p 22, p 23, iPlan, iMaker n, a, b, c], []⟩, []) := by kernel_rfl
theorem iter518 (l : Led) (n : Nat) (O : Nat → Nat) (v : SV) : (run Γ₀ 39).ev en518 (forIt s518) ⟨[(nm "self", .ref 25), (nm "args", .tup (goalV n O)), (nm "leaving", .int true 0), (nm "number", v)], l, []⟩ = some (.tup (goalV n O), ⟨[(nm "self", .ref 25), (nm "args", .tup (goalV n O)), (nm "leaving", .int true 0), (nm "number", v)], l, []⟩, []) := by kernel_rfl
section
variable {prog : Program} {w : World} {K : Frag} {mg mb : Str → Option Value}
theorem loop575 (V : Valid K mg mb Γ₀) (p : Nat → SO) {n : Nat} (hn : n ≤ 60) :
    LoopOk (Sx prog w K mg mb) 40 en575 s575 [(nm "self", .ref 25), (nm "plan", .ref 24), (nm "goals", .ref 15), (nm "number", .int true 0)] (pre p 16 [iKernel n, p 17, p 18, .dict false (d19 n), .fam (upTo n) (vinfo 2 0), p 21, p 22, p 23, iPlan, iMaker n, .list true [], .set false [], .set false []])
      (l575 n) (pre p 16 [iKernel n, p 17, p 18, .dict false (d19 n), .fam (upTo n) (vinfo 2 0), p 21, p 22, p 23, iPlan, iMaker n, .list false (gvL n), .set false (upTo n), .set false (upTo n)]) := by
  rw [s575_eq]
  refine loopOk_for (n := 39) V (v := .tup (headsV n)) (oc := []) rfl (iter575 p n _ _ _ _ .nocell) (fun _ h => nomatch h) (.tup n ?_)
  refine .sub (τ := ⟨l575 0, pre (fun i => if i = 16 then iKernel n else p i) 19 [.dict false (d19 n), .fam (upTo n) (vinfo 2 0), p 21, p 22, p 23, iPlan, iMaker n, .list false (gvL 0), .set false (upTo 0), .set false (upTo 0)], []⟩) ?_ ?_
  · refine Sub.trans (Sub.locW (loc' := l575 0) (o' := []) ⟨⟨_, by kernel_rfl, .refl _⟩, ⟨_, by kernel_rfl, .refl _⟩, ⟨_, by kernel_rfl, .refl _⟩, ⟨.int true 0, by kernel_rfl, .int _ _ _⟩, trivial⟩) ?_
    exact Sub.ledW (LedW.pre p 16 0 ⟨.inl rfl, .inl rfl, .inl rfl, .inl rfl, .inl rfl, .inl rfl, .inl rfl, .inl rfl, .inl rfl, .inl rfl, .inr (WO.list .nil), .inl rfl, .inl rfl, trivial⟩)
  refine turns_gen n (fun j => ⟨l575 j, led25 (fun i => if i = 16 then iKernel n else p i) n (.list false (gvL j)) (.set false (upTo j)) (.set false (upTo j)), []⟩) _ (Sub.refl _) (by show some (headsV n)[n]? = _; rw [headsV, iiL_none]) fun i hi => ?_
  refine turn_ex (Sub.orc _ _) (by show some (headsV n)[i]? = _; rw [headsV, iiL_get _ hi]) (stepL575 _ n i) ?_ (.inl rfl) ?_
  · rw [obsL575]
    have l := look19 hi
    have m := in_upTo hi
    have z := len_upTo i
    exact ⟨l, m, by omega, hasnt_upTo i, by omega, sput_upTo i, by omega, sput_upTo i, l, m, by rw [len_gvL]; omega, trivial⟩
  · show Sub _ _ _ (⟨_, led25 _ n (.list false (gvL (i + 1))) _ _, []⟩ : St)
    rw [gvL_succ]
    exact Sub.drop (l575 (i + 1)) [_]
theorem loop518 (V : Valid K mg mb Γ₀) (p : Nat → SO) {n : Nat} (hn : n ≤ 60) {O : Nat → Nat} (P : Perm n O) (loc : SO) :
    LoopOk (Sx prog w K mg mb) 40 en518 s518 [(nm "self", .ref 25), (nm "args", .tup (goalV n O)), (nm "leaving", .int true 0), (nm "number", .int true 0)] (led25 p n (.list false (gvL n)) (.set false (upTo n)) loc) (l518 n O n) (led25 p n (.list false (gvL n ++ pvL O n)) (.set false (upTo n)) loc) := by
  rw [s518_eq]
  refine loopOk_for (n := 39) V (v := .tup (goalV n O)) (oc := []) rfl (iter518 _ n O _) (fun _ h => nomatch h) (.tup n ?_)
  refine .sub (τ := ⟨l518 n O 0, led25 p n (.list false (gvL n ++ pvL O 0)) (.set false (upTo n)) loc, []⟩) ?_ ?_
  · rw [show gvL n ++ pvL O 0 = gvL n from List.append_nil _]
    exact Sub.locW (loc' := l518 n O 0) (o' := []) ⟨⟨_, by kernel_rfl, .refl _⟩, ⟨_, by kernel_rfl, .refl _⟩, ⟨_, by kernel_rfl, .refl _⟩, ⟨.int true 0, by kernel_rfl, .int _ _ _⟩, trivial⟩
  refine turns_gen n (fun j => ⟨l518 n O j, led25 p n (.list false (gvL n ++ pvL O j)) (.set false (upTo n)) loc, []⟩) _ (Sub.refl _) (by show some (goalV n O)[n]? = _; rw [goalV, iiL_none]) fun i hi => ?_
  refine turn_ex (Sub.orc _ _) (by show some (goalV n O)[i]? = _; rw [goalV, iiL_get _ hi]) (stepL518 _ n i O loc) ?_ (.inl rfl) ?_
  · rw [obsL518]
    have l := look19 (P.lt i hi)
    have m := in_upTo (P.lt i hi)
    have z := len_upTo n
    exact ⟨l, m, by omega, has_upTo (P.lt i hi), m, l, m, by rw [List.length_append, len_gvL, len_pvL]; omega, trivial⟩
  · show Sub _ _ _ (⟨_, led25 _ n (.list false (gvL n ++ pvL O (i + 1))) _ _, []⟩ : St)
    rw [pvL_succ, ← List.append_assoc]
    exact Sub.drop (l518 n O (i + 1)) [_, _]
theorem fn654 : lookN 654 Γ₀.fns = some f_abstract_code := by kernel_rfl
theorem za654 : zipArgs f_abstract_code.params [.ref 4, .ref 16, .ref 24] = some [(nm "symbols", .ref 4), (nm "kernel", .ref 16), (nm "plan", .ref 24)] := by kernel_rfl
theorem call654 (V : Valid K mg mb Γ₀) (p : Nat → SO) {n : Nat} (hn : n ≤ 60) {O : Nat → Nat} (P : Perm n O) :
    CallOk (Sx prog w K mg mb) 80 654 [.ref 4, .ref 16, .ref 24] (led375 p n O) (.ref 26) (led654 p n O) :=
  callOk_run (n := 79) V fn654 za654 (stepF654 p n O) (obsF654 _ p n O) ⟨loop575 V (pf (led654 p n O)) hn, loop518 V (pf (led654 p n O)) hn P (.set false (upTo n)), by rw [List.length_append, len_gvL, len_pvL]; omega, trivial⟩
end
set_option tactic.hygienic false
open PySem PySem.W PySem.Calls PyProof.Rows PySem.SeqAt
noncomputable def s646 : Stmt := nthS f_intervals.body 3
noncomputable def s653 : Stmt := nthS f_intervals.body 7
noncomputable def s655 : Stmt := match nthS (forBody s653) 0 with
  | .If _ b _ _ => nthS b 0
  | _ => .Pass ⟨0, 0, 0, 0⟩
noncomputable abbrev en701 : En := ⟨f_intervals.sc, []⟩
noncomputable abbrev en646 : En := en701
noncomputable abbrev en653 : En := en701
noncomputable abbrev en655 : En := en701
noncomputable abbrev occ (kind : String) (number start stop : SV) : SO := .inst 692 [(nm "kind", .str (nm kind)), (nm "number", number), (nm "start", start), (nm "stop", stop)]
noncomputable def fIn (i : Nat) (m : Int) : SO := occ "in" (.int false m) (.int true (-1)) (if m ≤ i then .int false (m - 1) else .int true (-1))
noncomputable def fIn0 (m : Int) : SO := occ "in" (.int false m) (.int true (-1)) (.int true (-1))
noncomputable def up1 (j : Nat) : List Int := (List.range j).map fun (i : Nat) => ((i + 1 : Nat) : Int)
noncomputable def dIn (j : Nat) : List (SV × SV) := rdict j (fun i => ii (i + 1)) (fun i => .fam 37 ((i + 1 : Nat) : Int))
noncomputable def inL (j : Nat) : List SV := (List.range j).map fun i => .fam 37 ((i + 1 : Nat) : Int)
noncomputable abbrev l646 (n j : Nat) : Loc := [(nm "instrs", .ref 26), (nm "arity", ii n), (nm "found", .ref 35), (nm "incoming", .ref 36), (nm "number", ii (j + 1))]
theorem stepT646 (n j : Nat) (b : Bool) (l : Led) (o : List Orc) :
    outOf ((run Γ₀ 19).ts en646 (forTgt s646) ⟨l646 n j, l, .bit b :: o⟩) =
    some (b, { loc := [(nm "instrs", .ref 26), (nm "arity", ii n), (nm "found", .ref 35), (nm "incoming", .ref 36), (nm "number", ii (j + 1))], led := l, orc := o }) := by kernel_rfl
theorem obsT646 (S : Fix) (n j : Nat) (b : Bool) (l : Led) (o : List Orc) :
    AllH S (obsOf ((run Γ₀ 19).ts en646 (forTgt s646) ⟨l646 n j, l, .bit b :: o⟩)) =
    (((decide ((↑(j + 1) : Int) ≤ (↑n : Int))) = (b)) ∧ True) := by kernel_rfl
theorem stepL646 (p : Nat → SO) (n j : Nat) :
    outOf ((run Γ₀ 19).ex en646 (forBody s646) ⟨l646 n j, pre p 35 [.list false (inL j), .dict false (dIn j), .fam (up1 j) fIn0], [.home 37 ((j + 1 : Nat) : Int), .put (dIn (j + 1)), .look (some (.fam 37 ((j + 1 : Nat) : Int)))]⟩) =
    some (.next, { loc := [(nm "instrs", .ref 26), (nm "arity", ii n), (nm "found", .ref 35), (nm "incoming", .ref 36), (nm "number", .int false ((↑(j + 1) : Int) + 1))], led := pre p 35 [.list false (inL j ++ [.fam 37 (↑(j + 1) : Int)]), .dict false (dIn (j + 1)), .ffam (up1 j ++ [(↑(j + 1) : Int)]) fIn0 (↑(j + 1) : Int) (.inst 692 [(nm "kind", .str (nm "in")), (nm "number", .int false (↑(j + 1) : Int)), (nm "start", .int true (-1)), (nm "stop", .int true (-1))])], orc := [] }) := by kernel_rfl
theorem obsL646 (S : Fix) (p : Nat → SO) (n j : Nat) :
    AllH S (obsOf ((run Γ₀ 19).ex en646 (forBody s646) ⟨l646 n j, pre p 35 [.list false (inL j), .dict false (dIn j), .fam (up1 j) fIn0], [.home 37 ((j + 1 : Nat) : Int), .put (dIn (j + 1)), .look (some (.fam 37 ((j + 1 : Nat) : Int)))]⟩)) =
    ((((↑(j + 1) : Int)) ∉ (up1 j)) ∧ ((((↑(j + 1) : Int)) : Int) = ((↑(j + 1) : Int))) ∧ ((((↑(j + 1) : Int)) : Int) = ((↑(j + 1) : Int))) ∧ ((((↑(j + 1) : Int)) : Int) = ((↑(j + 1) : Int))) ∧ ((((↑(j + 1) : Int)) : Int) = ((↑(j + 1) : Int))) ∧ ((((↑(dIn j).length : Int)) : Int) ≤ (999)) ∧ PutOk (dIn j) (.int false (↑(j + 1) : Int)) (.fam 37 (↑(j + 1) : Int)) (dIn (j + 1)) ∧ LookOk (dIn (j + 1)) (.int false (↑(j + 1) : Int)) (some (.fam 37 (↑(j + 1) : Int))) ∧ ((((↑(inL j).length : Int)) : Int) ≤ (999)) ∧ True) := by kernel_rfl
noncomputable def tL (j : Nat) : List SV := (List.range j).map fun (i : Nat) => .fam 40 (i : Int)
noncomputable def ouL (j : Nat) : List SV := (List.range j).map fun i => .fam 41 ((i + 1 : Nat) : Int)
noncomputable def dT (j : Nat) : List (SV × SV) := rdict j ii (fun i => .fam 40 i)
noncomputable def dOu (j : Nat) : List (SV × SV) := rdict j (fun i => ii (i + 1)) (fun i => .fam 41 ((i + 1 : Nat) : Int))
noncomputable def fT0 (k : Int) : SO := occ "temp" (.int false k) (.int false k) (.int false (k + 1))
noncomputable def fT (n : Nat) (I : Nat → Nat) (j : Nat) (k : Int) : SO := occ "temp" (.int false k) (.int false k) (.int false (if I k.toNat < j then n + I k.toNat else k + 1))
noncomputable def fOu0 (n : Nat) (m : Int) : SO := occ "out" (.int false m) (.int false (n + m - 1)) (.int false (n + m))
noncomputable def fOu (n i : Nat) (m : Int) : SO := occ "out" (.int false m) (.int false (n + m - 1)) (.int false (if m ≤ i then n + n else n + m))
noncomputable abbrev l653 (n : Nat) (i : SV) : Loc := [(nm "instrs", .ref 26), (nm "arity", ii n), (nm "found", .ref 35), (nm "incoming", .ref 36), (nm "outgoing", .ref 38), (nm "temporaries", .ref 39), (nm "at", i)]
noncomputable def fR (n : Nat) (O : Nat → Nat) (i : Int) : SO := .list true (if i < n then [.tup [.int true 1, aK i.toNat], .tup [.int true 2, tK i.toNat]] else [.tup [.int true 1, tK (O (i.toNat - n))], .tup [.int true 2, aK (i.toNat - n)]])
theorem stepG653 (p : Nat → SO) (n j : Nat) (d f : SO) (fr : Int → SO) :
    outOf (turnR 39 en653 (forTgt s653) (forBody s653) (gv j) ⟨l653 n (ii j), pre p 35 [.list false (inL n ++ tL j), .dict false (dIn n), .fam (up1 n) (fIn j), d, .dict false (dT j), .fam (upTo j) fT0, f, .fam (upTo j) fr], [.home 42 j, .look (some (.fam 37 ((j + 1 : Nat) : Int))), .look none, .home 40 j, .put (dT (j + 1)), .look (some (.fam 40 j))]⟩) =
    some (.next, { loc := [(nm "instrs", .ref 26), (nm "arity", ii n), (nm "found", .ref 35), (nm "incoming", .ref 36), (nm "outgoing", .ref 38), (nm "temporaries", .ref 39), (nm "at", .int false ((↑j : Int) + 1)), (nm "instruction", gv j), (nm "role", .int true 2), (nm "operand", tK j), (nm "number", ii j)], led := pre p 35 [.list false (inL n ++ tL j ++ [.fam 40 (↑j : Int)]), .dict false (dIn n), .ffam (up1 n) (fIn j) (↑(j + 1) : Int) (.inst 692 [(nm "kind", .str (nm "in")), (nm "number", .int false (↑(j + 1) : Int)), (nm "start", .int true (-1)), (nm "stop", .int false (↑j : Int))]), d, .dict false (dT (j + 1)), .ffam (upTo j ++ [(↑j : Int)]) fT0 (↑j : Int) (.inst 692 [(nm "kind", .str (nm "temp")), (nm "number", .int false (↑j : Int)), (nm "start", .int false (↑j : Int)), (nm "stop", .int false ((↑j : Int) + 1))]), f, .ffam (upTo j ++ [(↑j : Int)]) fr (↑j : Int) (.list true [.tup [.int true 1, aK j], .tup [.int true 2, tK j]])], orc := [] }) := by kernel_rfl
theorem obsG653 (S : Fix) (p : Nat → SO) (n j : Nat) (d f : SO) (fr : Int → SO) :
    AllH S (obsOf (turnR 39 en653 (forTgt s653) (forBody s653) (gv j) ⟨l653 n (ii j), pre p 35 [.list false (inL n ++ tL j), .dict false (dIn n), .fam (up1 n) (fIn j), d, .dict false (dT j), .fam (upTo j) fT0, f, .fam (upTo j) fr], [.home 42 j, .look (some (.fam 37 ((j + 1 : Nat) : Int))), .look none, .home 40 j, .put (dT (j + 1)), .look (some (.fam 40 j))]⟩)) =
    ((((↑j : Int)) ∉ (upTo j)) ∧ ((((↑j : Int)) : Int) = ((↑j : Int))) ∧ LookOk (dIn n) (.int false (↑(j + 1) : Int)) (some (.fam 37 (↑(j + 1) : Int))) ∧ (((↑(j + 1) : Int)) ∈ (up1 n)) ∧ ((((↑j : Int)) : Int) = ((↑j : Int))) ∧ LookOk (dT j) (.int false (↑j : Int)) (none) ∧ (((↑j : Int)) ∉ (upTo j)) ∧ ((((↑j : Int)) : Int) = ((↑j : Int))) ∧ ((((↑j : Int)) : Int) = ((↑j : Int))) ∧ ((((↑j : Int)) : Int) = ((↑j : Int))) ∧ ((((↑j : Int)) : Int) = ((↑j : Int))) ∧ ((((↑(dT j).length : Int)) : Int) ≤ (999)) ∧ PutOk (dT j) (.int false (↑j : Int)) (.fam 40 (↑j : Int)) (dT (j + 1)) ∧ LookOk (dT (j + 1)) (.int false (↑j : Int)) (some (.fam 40 (↑j : Int))) ∧ ((((↑(inL n ++ tL j).length : Int)) : Int) ≤ (999)) ∧ ((((↑j : Int)) : Int) = ((↑j : Int))) ∧ True) := by kernel_rfl
theorem stepP653 (p : Nat → SO) (n j : Nat) (O : Nat → Nat) (I : Nat → Nat) (di fi : SO) (fr : Int → SO) :
    outOf (turnR 39 en653 (forTgt s653) (forBody s653) (pv O j) ⟨l653 n (ii (n + j)), pre p 35 [.list false (inL n ++ tL n ++ ouL j), di, fi, .dict false (dOu j), .dict false (dT n), .ffam (upTo n) (fT n I j) (O j) (fT0 (O j)), .fam (up1 j) (fOu0 n), .fam (upTo (n + j)) fr], [.home 42 ((n + j : Nat) : Int), .look (some (.fam 40 (O j))), .look (some (.fam 40 (O j))), .bit true, .look (some (.fam 40 (O j))), .home 41 ((j + 1 : Nat) : Int), .put (dOu (j + 1)), .look (some (.fam 41 ((j + 1 : Nat) : Int)))]⟩) =
    some (.next, { loc := [(nm "instrs", .ref 26), (nm "arity", ii n), (nm "found", .ref 35), (nm "incoming", .ref 36), (nm "outgoing", .ref 38), (nm "temporaries", .ref 39), (nm "at", .int false ((↑(n + j) : Int) + 1)), (nm "instruction", pv O j), (nm "role", .int true 2), (nm "operand", aK j), (nm "number", ii (j + 1))], led := pre p 35 [.list false (inL n ++ tL n ++ ouL j ++ [.fam 41 (↑(j + 1) : Int)]), di, fi, .dict false (dOu (j + 1)), .dict false (dT n), .ffam (upTo n) (fT n I j) (↑(O j) : Int) (.inst 692 [(nm "kind", .str (nm "temp")), (nm "number", .int false (↑(O j) : Int)), (nm "start", .int false (↑(O j) : Int)), (nm "stop", .int false (↑(n + j) : Int))]), .ffam (up1 j ++ [(↑(j + 1) : Int)]) (fOu0 n) (↑(j + 1) : Int) (.inst 692 [(nm "kind", .str (nm "out")), (nm "number", .int false (↑(j + 1) : Int)), (nm "start", .int false (↑(n + j) : Int)), (nm "stop", .int false ((↑(n + j) : Int) + 1))]), .ffam (upTo (n + j) ++ [(↑(n + j) : Int)]) fr (↑(n + j) : Int) (.list true [.tup [.int true 1, tK (O j)], .tup [.int true 2, aK j]])], orc := [] }) := by kernel_rfl
theorem obsP653 (S : Fix) (p : Nat → SO) (n j : Nat) (O : Nat → Nat) (I : Nat → Nat) (di fi : SO) (fr : Int → SO) :
    AllH S (obsOf (turnR 39 en653 (forTgt s653) (forBody s653) (pv O j) ⟨l653 n (ii (n + j)), pre p 35 [.list false (inL n ++ tL n ++ ouL j), di, fi, .dict false (dOu j), .dict false (dT n), .ffam (upTo n) (fT n I j) (O j) (fT0 (O j)), .fam (up1 j) (fOu0 n), .fam (upTo (n + j)) fr], [.home 42 ((n + j : Nat) : Int), .look (some (.fam 40 (O j))), .look (some (.fam 40 (O j))), .bit true, .look (some (.fam 40 (O j))), .home 41 ((j + 1 : Nat) : Int), .put (dOu (j + 1)), .look (some (.fam 41 ((j + 1 : Nat) : Int)))]⟩)) =
    ((((↑(n + j) : Int)) ∉ (upTo (n + j))) ∧ ((((↑(n + j) : Int)) : Int) = ((↑(n + j) : Int))) ∧ LookOk (dT n) (.int false (↑(O j) : Int)) (some (.fam 40 (↑(O j) : Int))) ∧ LookOk (dT n) (.int false (↑(O j) : Int)) (some (.fam 40 (↑(O j) : Int))) ∧ ((((↑(O j) : Int)) : Int) = ((↑(O j) : Int))) ∧ ((decide ((↑(n + j) : Int) > (↑(O j) : Int) + 1)) = (true)) ∧ LookOk (dT n) (.int false (↑(O j) : Int)) (some (.fam 40 (↑(O j) : Int))) ∧ ((((↑(O j) : Int)) : Int) = ((↑(O j) : Int))) ∧ ((((↑(n + j) : Int)) : Int) = ((↑(n + j) : Int))) ∧ (((↑(j + 1) : Int)) ∉ (up1 j)) ∧ ((((↑(j + 1) : Int)) : Int) = ((↑(j + 1) : Int))) ∧ ((((↑(j + 1) : Int)) : Int) = ((↑(j + 1) : Int))) ∧ ((((↑(j + 1) : Int)) : Int) = ((↑(j + 1) : Int))) ∧ ((((↑(j + 1) : Int)) : Int) = ((↑(j + 1) : Int))) ∧ ((((↑(dOu j).length : Int)) : Int) ≤ (999)) ∧ PutOk (dOu j) (.int false (↑(j + 1) : Int)) (.fam 41 (↑(j + 1) : Int)) (dOu (j + 1)) ∧ LookOk (dOu (j + 1)) (.int false (↑(j + 1) : Int)) (some (.fam 41 (↑(j + 1) : Int))) ∧ ((((↑(inL n ++ tL n ++ ouL j).length : Int)) : Int) ≤ (999)) ∧ ((((↑(n + j) : Int)) : Int) = ((↑(n + j) : Int))) ∧ True) := by kernel_rfl
theorem stepQ653 (p : Nat → SO) (n j : Nat) (O : Nat → Nat) (I : Nat → Nat) (di fi : SO) (fr : Int → SO) :
    outOf (turnR 39 en653 (forTgt s653) (forBody s653) (pv O j) ⟨l653 n (ii (n + j)), pre p 35 [.list false (inL n ++ tL n ++ ouL j), di, fi, .dict false (dOu j), .dict false (dT n), .ffam (upTo n) (fT n I j) (O j) (fT0 (O j)), .fam (up1 j) (fOu0 n), .fam (upTo (n + j)) fr], [.home 42 ((n + j : Nat) : Int), .look (some (.fam 40 (O j))), .look (some (.fam 40 (O j))), .bit false, .home 41 ((j + 1 : Nat) : Int), .put (dOu (j + 1)), .look (some (.fam 41 ((j + 1 : Nat) : Int)))]⟩) =
    some (.next, { loc := [(nm "instrs", .ref 26), (nm "arity", ii n), (nm "found", .ref 35), (nm "incoming", .ref 36), (nm "outgoing", .ref 38), (nm "temporaries", .ref 39), (nm "at", .int false ((↑(n + j) : Int) + 1)), (nm "instruction", pv O j), (nm "role", .int true 2), (nm "operand", aK j), (nm "number", ii (j + 1))], led := pre p 35 [.list false (inL n ++ tL n ++ ouL j ++ [.fam 41 (↑(j + 1) : Int)]), di, fi, .dict false (dOu (j + 1)), .dict false (dT n), .ffam (upTo n) (fT n I j) (↑(O j) : Int) (fT0 (↑(O j) : Int)), .ffam (up1 j ++ [(↑(j + 1) : Int)]) (fOu0 n) (↑(j + 1) : Int) (.inst 692 [(nm "kind", .str (nm "out")), (nm "number", .int false (↑(j + 1) : Int)), (nm "start", .int false (↑(n + j) : Int)), (nm "stop", .int false ((↑(n + j) : Int) + 1))]), .ffam (upTo (n + j) ++ [(↑(n + j) : Int)]) fr (↑(n + j) : Int) (.list true [.tup [.int true 1, tK (O j)], .tup [.int true 2, aK j]])], orc := [] }) := by kernel_rfl
theorem obsQ653 (S : Fix) (p : Nat → SO) (n j : Nat) (O : Nat → Nat) (I : Nat → Nat) (di fi : SO) (fr : Int → SO) :
    AllH S (obsOf (turnR 39 en653 (forTgt s653) (forBody s653) (pv O j) ⟨l653 n (ii (n + j)), pre p 35 [.list false (inL n ++ tL n ++ ouL j), di, fi, .dict false (dOu j), .dict false (dT n), .ffam (upTo n) (fT n I j) (O j) (fT0 (O j)), .fam (up1 j) (fOu0 n), .fam (upTo (n + j)) fr], [.home 42 ((n + j : Nat) : Int), .look (some (.fam 40 (O j))), .look (some (.fam 40 (O j))), .bit false, .home 41 ((j + 1 : Nat) : Int), .put (dOu (j + 1)), .look (some (.fam 41 ((j + 1 : Nat) : Int)))]⟩)) =
    ((((↑(n + j) : Int)) ∉ (upTo (n + j))) ∧ ((((↑(n + j) : Int)) : Int) = ((↑(n + j) : Int))) ∧ LookOk (dT n) (.int false (↑(O j) : Int)) (some (.fam 40 (↑(O j) : Int))) ∧ LookOk (dT n) (.int false (↑(O j) : Int)) (some (.fam 40 (↑(O j) : Int))) ∧ ((((↑(O j) : Int)) : Int) = ((↑(O j) : Int))) ∧ ((decide ((↑(n + j) : Int) > (↑(O j) : Int) + 1)) = (false)) ∧ ((((↑(n + j) : Int)) : Int) = ((↑(n + j) : Int))) ∧ (((↑(j + 1) : Int)) ∉ (up1 j)) ∧ ((((↑(j + 1) : Int)) : Int) = ((↑(j + 1) : Int))) ∧ ((((↑(j + 1) : Int)) : Int) = ((↑(j + 1) : Int))) ∧ ((((↑(j + 1) : Int)) : Int) = ((↑(j + 1) : Int))) ∧ ((((↑(j + 1) : Int)) : Int) = ((↑(j + 1) : Int))) ∧ ((((↑(dOu j).length : Int)) : Int) ≤ (999)) ∧ PutOk (dOu j) (.int false (↑(j + 1) : Int)) (.fam 41 (↑(j + 1) : Int)) (dOu (j + 1)) ∧ LookOk (dOu (j + 1)) (.int false (↑(j + 1) : Int)) (some (.fam 41 (↑(j + 1) : Int))) ∧ ((((↑(inL n ++ tL n ++ ouL j).length : Int)) : Int) ≤ (999)) ∧ ((((↑(n + j) : Int)) : Int) = ((↑(n + j) : Int))) ∧ True) := by kernel_rfl
noncomputable abbrev l655 (n : Nat) : Loc := [(nm "instrs", .ref 26), (nm "arity", ii n), (nm "found", .ref 35), (nm "incoming", .ref 36), (nm "outgoing", .ref 38), (nm "temporaries", .ref 39), (nm "at", ii (n + n)), (nm "instruction", exI)]
theorem stepE653 (p : Nat → SO) (n : Nat) (a b c t x r : SO) :
    outOf (turnR 39 en653 (forTgt s653) (forBody s653) exI ⟨l653 n (ii (n + n)), pre p 35 [a, b, c, .dict false (dOu n), t, x, .fam (up1 n) (fOu0 n), r], [.loop (l655 n) (pre p 35 [a, b, c, .dict false (dOu n), t, x, .fam (up1 n) (fOu n n), r])]⟩) =
    some (.next, { loc := [(nm "instrs", .ref 26), (nm "arity", ii n), (nm "found", .ref 35), (nm "incoming", .ref 36), (nm "outgoing", .ref 43), (nm "temporaries", .ref 39), (nm "at", .int false ((↑(n + n) : Int) + 1)), (nm "instruction", exI)], led := pre p 35 [a, b, c, .dict false (dOu n), t, x, .fam (up1 n) (fOu n n), r, .dict true [], .list true []], orc := [] }) := by kernel_rfl
theorem obsE653 (S : Fix) (p : Nat → SO) (n : Nat) (a b c t x r : SO) :
    AllH S (obsOf (turnR 39 en653 (forTgt s653) (forBody s653) exI ⟨l653 n (ii (n + n)), pre p 35 [a, b, c, .dict false (dOu n), t, x, .fam (up1 n) (fOu0 n), r], [.loop (l655 n) (pre p 35 [a, b, c, .dict false (dOu n), t, x, .fam (up1 n) (fOu n n), r])]⟩)) =
    (LoopOk S (20) en655 s655 ([(nm "instrs", .ref 26), (nm "arity", ii n), (nm "found", .ref 35), (nm "incoming", .ref 36), (nm "outgoing", .ref 38), (nm "temporaries", .ref 39), (nm "at", ii (n + n)), (nm "instruction", exI)]) (pre p 35 [a, b, c, .dict false (dOu n), t, x, .fam (up1 n) (fOu0 n), r]) (l655 n) (pre p 35 [a, b, c, .dict false (dOu n), t, x, .fam (up1 n) (fOu n n), r]) ∧ True) := by kernel_rfl
theorem stepL655 (p : Nat → SO) (n j ep : Nat) (t x r : SO) :
    outOf (turnR 19 en655 (forTgt s655) (forBody s655) (ii (j + 1)) ⟨l655 n, pre p 38 [.fdict (dOu n) ep, t, x, .fam (up1 n) (fOu n j), r], [.look (some (.fam 41 ((j + 1 : Nat) : Int)))]⟩) =
    some (.next, { loc := [(nm "instrs", .ref 26), (nm "arity", ii n), (nm "found", .ref 35), (nm "incoming", .ref 36), (nm "outgoing", .ref 38), (nm "temporaries", .ref 39), (nm "at", ii (n + n)), (nm "instruction", exI), (nm "number", ii (j + 1))], led := pre p 38 [.fdict (dOu n) ep, t, x, .ffam (up1 n) (fOu n j) (↑(j + 1) : Int) (.inst 692 [(nm "kind", .str (nm "out")), (nm "number", .int false (↑(j + 1) : Int)), (nm "start", .int false ((↑n : Int) + (↑(j + 1) : Int) - 1)), (nm "stop", .int false (↑(n + n) : Int))]), r], orc := [] }) := by kernel_rfl
theorem obsL655 (S : Fix) (p : Nat → SO) (n j ep : Nat) (t x r : SO) :
    AllH S (obsOf (turnR 19 en655 (forTgt s655) (forBody s655) (ii (j + 1)) ⟨l655 n, pre p 38 [.fdict (dOu n) ep, t, x, .fam (up1 n) (fOu n j), r], [.look (some (.fam 41 ((j + 1 : Nat) : Int)))]⟩)) =
    (LookOk (dOu n) (.int false (↑(j + 1) : Int)) (some (.fam 41 (↑(j + 1) : Int))) ∧ (((↑(j + 1) : Int)) ∈ (up1 n)) ∧ True) := by kernel_rfl
theorem look0 {n i : Nat} (vf : Nat → SV) (h : i < n) : LookOk (rdict n ii vf) (ii i) (some (vf i)) := ⟨rdict_kind fun _ _ => rfl, rdict_find h rfl fun j _ e => by have := keyI e; omega⟩
theorem none0 (n : Nat) (vf : Nat → SV) : LookOk (rdict n ii vf) (ii n) none := ⟨rdict_kind fun _ _ => rfl, rdict_find_none fun i hi e => by have := keyI e; omega⟩
theorem put0 (n : Nat) (vf : Nat → SV) : PutOk (rdict n ii vf) (ii n) (vf n) (rdict (n + 1) ii vf) := ⟨rdict_kind fun _ _ => rfl, by rw [rdict_put_new fun i hi e => by have := keyI e; omega, rdict_succ]⟩
theorem look1 {n i : Nat} (vf : Nat → SV) (h : i < n) : LookOk (rdict n (fun i => ii (i + 1)) vf) (ii (i + 1)) (some (vf i)) := ⟨rdict_kind fun _ _ => rfl, rdict_find h rfl fun j _ e => by have := keyI e; omega⟩
theorem none1 (n : Nat) (vf : Nat → SV) : LookOk (rdict n (fun i => ii (i + 1)) vf) (ii (n + 1)) none := ⟨rdict_kind fun _ _ => rfl, rdict_find_none fun i hi e => by have := keyI e; omega⟩
theorem put1 (n : Nat) (vf : Nat → SV) : PutOk (rdict n (fun i => ii (i + 1)) vf) (ii (n + 1)) (vf n) (rdict (n + 1) (fun i => ii (i + 1)) vf) := ⟨rdict_kind fun _ _ => rfl, by rw [rdict_put_new fun i hi e => by have := keyI e; omega, rdict_succ]⟩
theorem mem_up1 {j : Nat} {i : Int} : i ∈ up1 j ↔ ∃ k : Nat, k < j ∧ i = ((k + 1 : Nat) : Int) := by
  unfold up1
  rw [List.mem_map]
  exact ⟨fun ⟨k, hk, e⟩ => ⟨k, List.mem_range.mp hk, e.symm⟩, fun ⟨k, hk, e⟩ => ⟨k, List.mem_range.mpr hk, e.symm⟩⟩
theorem in_up1 {j k : Nat} (h : k < j) : ((k + 1 : Nat) : Int) ∈ up1 j := mem_up1.mpr ⟨k, h, rfl⟩
theorem notin_up1 (j : Nat) : ((j + 1 : Nat) : Int) ∉ up1 j := fun e => by obtain ⟨i, hi, e⟩ := mem_up1.mp e; omega
theorem up1_succ (j : Nat) : up1 (j + 1) = up1 j ++ [((j + 1 : Nat) : Int)] := by unfold up1; rw [List.range_succ, List.map_append]; rfl
theorem map_succ {α : Type} (f : Nat → α) (j : Nat) : (List.range (j + 1)).map f = (List.range j).map f ++ [f j] := by rw [List.range_succ, List.map_append]; rfl
theorem map_len {α : Type} (f : Nat → α) (j : Nat) : ((List.range j).map f).length = j := by simp
structure Inv (n : Nat) (O I : Nat → Nat) : Prop where
  lt : ∀ j, j < n → O j < n
  ltI : ∀ k, k < n → I k < n
  OI : ∀ k, k < n → O (I k) = k
  IO : ∀ j, j < n → I (O j) = j
theorem Inv.perm {n : Nat} {O I : Nat → Nat} (h : Inv n O I) : Perm n O := ⟨h.lt, fun i j hi hj e => by rw [← h.IO i hi, ← h.IO j hj, e], fun k hk => ⟨I k, h.ltI k hk, h.OI k hk⟩⟩
theorem s646_eq : s646 = .While (forTgt s646) (forBody s646) [] (posOfS s646) := by kernel_rfl
theorem s653_eq : s653 = .For (forTgt s653) (forIt s653) (forBody s653) [] (posOfS s653) := by kernel_rfl
theorem s655_eq : s655 = .For (forTgt s655) (forIt s655) (forBody s655) [] (posOfS s655) := by kernel_rfl
theorem Sub.grow {S : Fix} {en : En} {loc : Loc} {led : Led} {o : List Orc} {t : Nat} {ks ks' : List Int} {f g : Int → SO} {i : Int} {q : SO} (h : led[t]? = some (.ffam ks f i q)) (hk : ∀ k, k ∈ ks ↔ k ∈ ks') (hi : q = g i) (ho : ∀ k, k ∈ ks → k ≠ i → f k = g k) :
    Sub S en ⟨loc, led, o⟩ ⟨loc, led.set t (.fam ks' g), []⟩ := Sub.trans (Sub.fam (o := o) (t := t) (g := g) h rfl hk fun k hk => by
  simp only [memOf]
  by_cases q : k = i
  · rw [if_pos q, q, hi]
  · rw [if_neg q, if_pos hk, ho k hk q]) (Sub.orc _ _)
section
variable {prog : Program} {w : World} {K : Frag} {mg mb : Str → Option Value}
theorem loop646 (V : Valid K mg mb Γ₀) (p : Nat → SO) {n : Nat} (hn : n ≤ 60) :
    LoopOk (Sx prog w K mg mb) 20 en646 s646 [(nm "instrs", .ref 26), (nm "arity", ii n), (nm "found", .ref 35), (nm "incoming", .ref 36), (nm "number", .int true 1)] (pre p 35 [.list true [], .dict true []])
      (l646 n n) (pre p 35 [.list false (inL n), .dict false (dIn n), .fam (up1 n) fIn0]) := by
  refine LoopOk.fam fIn0 ?_
  rw [s646_eq]
  refine loopOk_while (n := 19) (o0 := []) (oc := []) (nn := n) V ?_
  refine .sub (τ := ⟨l646 n 0, pre p 35 [.list false (inL 0), .dict false (dIn 0), .fam (up1 0) fIn0], []⟩) ?_ ?_
  · refine Sub.trans (Sub.locW (loc' := l646 n 0) (o' := []) ⟨⟨_, by kernel_rfl, .refl _⟩, ⟨_, by kernel_rfl, .refl _⟩, ⟨_, by kernel_rfl, .refl _⟩, ⟨_, by kernel_rfl, .refl _⟩, ⟨.int true 1, by kernel_rfl, .int _ _ _⟩, trivial⟩) ?_
    exact Sub.ledW (LedW.pre p 35 0 ⟨.inr (WO.list .nil), .inr WO.dict, .inl rfl, trivial⟩)
  refine wturns_gen n (fun j => ⟨l646 n j, pre p 35 [.list false (inL j), .dict false (dIn j), .fam (up1 j) fIn0], []⟩) _ _ (Sub.orc _ _) (stepT646 n n false _ []) ?_ fun i hi => ?_
  · rw [obsT646]; exact ⟨decide_eq_false (by omega), trivial⟩
  refine ⟨_, _, _, .next, Sub.orc _ _, stepT646 n i true _ _, ?_, stepL646 p n i, ?_, .inl rfl, ?_⟩
  · rw [obsT646]; exact ⟨decide_eq_true (by omega), trivial⟩
  · rw [obsL646]
    exact ⟨notin_up1 i, rfl, rfl, rfl, rfl, by unfold dIn; rw [rdict_len]; omega, put1 i _, look1 (n := i + 1) _ (by omega), by unfold inL; rw [map_len]; omega, trivial⟩
  · show Sub _ _ _ (⟨l646 n (i + 1), pre p 35 [.list false (inL (i + 1)), _, _], _⟩ : St)
    unfold inL; rw [map_succ]
    exact Sub.grow (t := 37) rfl (fun k => by rw [up1_succ]) rfl fun _ _ _ => rfl
theorem iter655 (p : Nat → SO) (n : Nat) (d t x f r : SO) : (run Γ₀ 19).ev en655 (forIt s655) ⟨l655 n, pre p 38 [d, t, x, f, r], []⟩ = some (.ref 38, ⟨l655 n, pre p 38 [d, t, x, f, r], []⟩, []) := by kernel_rfl
theorem dictVal_some {u len ep i : Nat} {σ : St} {n : Nat} {kf vf : Nat → SV} (h : σ.led[u]? = some (.fdict (rdict n kf vf) ep)) (hl : len = n) (hi : i < n) : dictVal u len ep i σ = some (some (kf i)) := by
  unfold dictVal; rw [h]
  show (if _ ∧ _ then _ else _) = _
  rw [if_pos ⟨by rw [rdict_len, hl], rfl⟩, rdict, iiL_get _ hi]; rfl
theorem dictVal_none {u len ep : Nat} {σ : St} {n : Nat} {kf vf : Nat → SV} (h : σ.led[u]? = some (.fdict (rdict n kf vf) ep)) (hl : len = n) : dictVal u len ep n σ = some none := by
  unfold dictVal; rw [h]
  show (if _ ∧ _ then _ else _) = _
  rw [if_pos ⟨by rw [rdict_len, hl], rfl⟩, rdict, iiL_none]; rfl
theorem loop655 (V : Valid K mg mb Γ₀) (p : Nat → SO) {n : Nat} (hn : n ≤ 60) (t x r : SO) :
    LoopOk (Sx prog w K mg mb) 20 en655 s655 (l655 n) (pre p 38 [.dict false (dOu n), t, x, .fam (up1 n) (fOu0 n), r]) (l655 n) (pre p 38 [.dict false (dOu n), t, x, .fam (up1 n) (fOu n n), r]) := by
  rw [s655_eq]
  refine loopOk_for (n := 19) V (v := .ref 38) (oc := []) rfl (iter655 p n _ _ _ _ _) (fun _ h => nomatch h) ?_
  refine Over.dict (d := dOu n) (d' := dOu n) n (l655 n) (pre p 38 [.dict false (dOu n), t, x, .fam (up1 n) (fOu n n), r]) [] [] rfl (fun q hq => ?_) (by show 38 < 43; decide) fun ep => ?_
  · obtain ⟨i, _, rfl⟩ := List.mem_map.mp hq
    exact ⟨_, rfl⟩
  refine .sub (τ := ⟨l655 n, pre p 38 [.fdict (dOu n) ep, t, x, .fam (up1 n) (fOu n 0), r], []⟩) ?_ ?_
  · exact Sub.fam (t := 41) (o := []) (g := fOu n 0) rfl rfl (fun k => Iff.rfl) fun k hk => by
      simp only [memOf, if_pos hk]
      obtain ⟨i, hi, rfl⟩ := mem_up1.mp hk
      show some (fOu0 n _) = some (occ _ _ _ (.int false (if _ then _ else _)))
      rw [if_neg (by omega)]; rfl
  refine turns_gen n (fun j => ⟨l655 n, pre p 38 [.fdict (dOu n) ep, t, x, .fam (up1 n) (fOu n j), r], []⟩) _ (Sub.refl _) (dictVal_none (kf := fun i => ii (i + 1)) rfl (rdict_len _ _ _)) fun i hi => ?_
  refine turn_ex (v := ii (i + 1)) (Sub.orc _ _) (dictVal_some (kf := fun i => ii (i + 1)) rfl (rdict_len _ _ _) hi) (stepL655 p n i ep t x r) ?_ (.inl rfl) (Sub.trans (Sub.drop (l655 n) [_]) ?_)
  · rw [obsL655]
    exact ⟨look1 _ hi, in_up1 hi, trivial⟩
  · refine Sub.grow (t := 41) rfl (fun k => Iff.rfl) ?_ fun k _ hk => ?_
    · show _ = occ _ _ _ (.int false (if _ then _ else _))
      rw [if_pos (by omega)]; rfl
    · show occ _ _ _ (.int false (if _ then _ else _)) = occ _ _ _ (.int false (if _ then _ else _))
      by_cases q : k ≤ (i : Int)
      · rw [if_pos q, if_pos (by omega)]
      · rw [if_neg q, if_neg (by omega)]
noncomputable def fInF (m : Int) : SO := occ "in" (.int false m) (.int true (-1)) (.int false (m - 1))
noncomputable def fTF (n : Nat) (I : Nat → Nat) (k : Int) : SO := occ "temp" (.int false k) (.int false k) (.int false (n + I k.toNat))
noncomputable def fOuF (n : Nat) (m : Int) : SO := occ "out" (.int false m) (.int false (n + m - 1)) (.int false (n + n))
noncomputable abbrev l653e (n : Nat) : Loc := [(nm "instrs", .ref 26), (nm "arity", ii n), (nm "found", .ref 35), (nm "incoming", .ref 36)]
noncomputable abbrev led653 (q : Nat → SO) (n : Nat) (O I : Nat → Nat) : Led := pre q 35 [.list false (inL n ++ tL n ++ ouL n), .dict false (dIn n), .fam (up1 n) fInF, .dict false (dOu n), .dict false (dT n), .fam (upTo n) (fTF n I), .fam (up1 n) (fOuF n), .fam (upTo (n + n)) (fR n O), .dict true [], .list true []]
theorem iter653 (q : Nat → SO) (n : Nat) (a b c d e : SO) (v w : SV) (F : Led) : (run Γ₀ 39).ev en653 (forIt s653) ⟨[(nm "instrs", .ref 26), (nm "arity", ii n), (nm "found", .ref 35), (nm "incoming", .ref 36), (nm "number", w), (nm "outgoing", .ref 38), (nm "temporaries", .ref 39), (nm "at", v)], F, []⟩ = some (.ref 26, ⟨[(nm "instrs", .ref 26), (nm "arity", ii n), (nm "found", .ref 35), (nm "incoming", .ref 36), (nm "number", w), (nm "outgoing", .ref 38), (nm "temporaries", .ref 39), (nm "at", v)], F, []⟩, []) := by kernel_rfl
theorem code_gv {n : Nat} {O : Nat → Nat} {i : Nat} (h : i < n) : (codeL n O)[i]? = some (gv i) := by
  unfold codeL
  rw [List.append_assoc, List.getElem?_append_left (by rw [len_gvL]; exact h), gvL, iiL_get _ h]
theorem code_pv {n : Nat} {O : Nat → Nat} {j : Nat} (h : j < n) : (codeL n O)[n + j]? = some (pv O j) := by
  unfold codeL
  rw [List.append_assoc, List.getElem?_append_right (by rw [len_gvL]; omega), List.getElem?_append_left (by rw [len_gvL, len_pvL]; omega), len_gvL, Nat.add_sub_cancel_left, pvL, iiL_get _ h]
theorem code_ex {n : Nat} {O : Nat → Nat} : (codeL n O)[n + n]? = some exI := by
  unfold codeL
  rw [List.getElem?_append_right (by rw [List.length_append, len_gvL, len_pvL]; exact Nat.le_refl _), List.length_append, len_gvL, len_pvL, Nat.sub_self]; rfl
theorem code_len {n : Nat} {O : Nat → Nat} : (codeL n O).length = n + n + 1 := by
  unfold codeL; simp only [List.length_append, len_gvL, len_pvL, List.length_singleton]
theorem seeObj_ref {t : Nat} {σ : St} {o : SO} (h : σ.led[t]? = some o) (hf : ksOf o = none) : seeObj (.ref t) σ = some o := by
  unfold seeObj; dsimp only; rw [h]
  cases o <;> first | rfl | cases hf
theorem listVal_ref {t i : Nat} {σ : St} {C : Bool} {l : List SV} {v : Option SV} (h : σ.led[t]? = some (.list C l)) (hv : l[i]? = v) : listVal (.ref t) i σ = some v := by
  unfold listVal; rw [seeObj_ref h rfl, ← hv]
theorem loop653 (V : Valid K mg mb Γ₀) (q : Nat → SO) {n : Nat} (hn : n ≤ 60) {O I : Nat → Nat} (h26 : q 26 = .list false (codeL n O)) (P : Inv n O I) :
    LoopOk (Sx prog w K mg mb) 40 en653 s653 [(nm "instrs", .ref 26), (nm "arity", ii n), (nm "found", .ref 35), (nm "incoming", .ref 36), (nm "number", ii (n + 1)), (nm "outgoing", .ref 38), (nm "temporaries", .ref 39), (nm "at", .int true 0)]
      (pre q 35 [.list false (inL n), .dict false (dIn n), .fam (up1 n) fIn0, .dict true [], .dict true []]) (l653e n) (led653 q n O I) := by
  refine LoopOk.fam fT0 (LoopOk.fam (fOu0 n) (LoopOk.fam (fR n O) ?_))
  rw [s653_eq]
  have hl : ∀ (loc : Loc) (r : Led) (o : List Orc), (⟨loc, pre q 35 r, o⟩ : St).led[26]? = some (.list false (codeL n O)) := fun loc r o => by show some (q 26) = _; rw [h26]
  refine loopOk_for (n := 39) V (v := .ref 26) (oc := []) rfl (iter653 q n .nocell .nocell .nocell .nocell .nocell _ _ _) (fun _ h => nomatch h) (.list (n + (n + (1 + 0))) ⟨false, codeL n O, seeObj_ref (hl _ _ _) rfl⟩ ?_)
  refine .sub (τ := ⟨l653 n (ii 0), pre q 35 [.list false (inL n ++ tL 0), .dict false (dIn n), .fam (up1 n) (fIn 0), .dict false [], .dict false (dT 0), .fam (upTo 0) fT0, .fam [] (fOu0 n), .fam (upTo 0) (fR n O)], []⟩) ?_ ?_
  · refine Sub.trans (Sub.locW (loc' := l653 n (ii 0)) (o' := []) ⟨⟨_, by kernel_rfl, .refl _⟩, ⟨_, by kernel_rfl, .refl _⟩, ⟨_, by kernel_rfl, .refl _⟩, ⟨_, by kernel_rfl, .refl _⟩, ⟨_, by kernel_rfl, .refl _⟩, ⟨_, by kernel_rfl, .refl _⟩, ⟨.int true 0, by kernel_rfl, .int _ _ _⟩, trivial⟩) ?_
    refine Sub.trans (b := ⟨l653 n (ii 0), pre q 35 [.list false (inL n), .dict false (dIn n), .fam (up1 n) fIn0, .dict false [], .dict false [], .fam [] fT0, .fam [] (fOu0 n), .fam [] (fR n O)], []⟩) (Sub.ledW (LedW.pre q 35 0 ⟨.inl rfl, .inl rfl, .inl rfl, .inr WO.dict, .inr WO.dict, .inl rfl, .inl rfl, .inl rfl, trivial⟩)) ?_
    rw [show inL n ++ tL 0 = inL n from List.append_nil _]
    exact Sub.fam (t := 37) (o := []) (g := fIn 0) rfl rfl (fun k => Iff.rfl) fun k hk => by
      simp only [memOf, if_pos hk]
      obtain ⟨i, hi, rfl⟩ := mem_up1.mp hk
      show some (fIn0 _) = some (occ _ _ _ (if _ then _ else _))
      rw [if_neg (by omega)]; rfl
  refine turns_seg n 0 (fun j => ⟨l653 n (ii j), pre q 35 [.list false (inL n ++ tL j), .dict false (dIn n), .fam (up1 n) (fIn j), .dict false [], .dict false (dT j), .fam (upTo j) fT0, .fam [] (fOu0 n), .fam (upTo j) (fR n O)], []⟩) ?_ fun i hi => ?_
  · rw [Nat.zero_add]
    refine .sub (τ := ⟨l653 n (ii n), pre q 35 [.list false (inL n ++ tL n ++ ouL 0), .dict false (dIn n), .fam (up1 n) (fIn n), .dict false (dOu 0), .dict false (dT n), .fam (upTo n) (fT n I 0), .fam (up1 0) (fOu0 n), .fam (upTo (n + 0)) (fR n O)], []⟩) ?_ ?_
    · rw [show inL n ++ tL n ++ ouL 0 = inL n ++ tL n from List.append_nil _]
      exact Sub.fam (t := 40) (o := []) (g := fT n I 0) rfl rfl (fun k => Iff.rfl) fun k hk => by
        simp only [memOf, if_pos hk]
        show some (fT0 k) = some (occ _ _ _ (.int false (if _ then _ else _)))
        rw [if_neg (by omega)]; rfl
    refine turns_seg n n (fun j => ⟨l653 n (ii (n + j)), pre q 35 [.list false (inL n ++ tL n ++ ouL j), .dict false (dIn n), .fam (up1 n) (fIn n), .dict false (dOu j), .dict false (dT n), .fam (upTo n) (fT n I j), .fam (up1 j) (fOu0 n), .fam (upTo (n + j)) (fR n O)], []⟩) ?_ fun j hj => ?_
    · have fin0 : Sub (Sx prog w K mg mb) en653 ⟨l653e n, pre q 35 [.list false (inL n ++ tL n ++ ouL n), .dict false (dIn n), .fam (up1 n) (fIn n), .dict false (dOu n), .dict false (dT n), .fam (upTo n) (fT n I n), .fam (up1 n) (fOu n n), .fam (upTo (n + n)) (fR n O), .dict true [], .list true []], []⟩ ⟨l653e n, led653 q n O I, []⟩ := by
        refine Sub.trans (Sub.fam (o := []) (t := 37) (g := fInF) rfl rfl (fun k => Iff.rfl) fun k hk => ?_) (Sub.trans (Sub.fam (o := []) (t := 40) (g := fTF n I) rfl rfl (fun k => Iff.rfl) fun k hk => ?_) (Sub.fam (o := []) (t := 41) (g := fOuF n) rfl rfl (fun k => Iff.rfl) fun k hk => ?_))
        · simp only [memOf, if_pos hk]
          obtain ⟨i, hi, rfl⟩ := mem_up1.mp hk
          show some (occ _ _ _ (if _ then _ else _)) = some (fInF _)
          rw [if_pos (by omega)]; rfl
        · simp only [memOf, if_pos hk]
          obtain ⟨i, hi, rfl⟩ := mem_upTo.mp hk
          show some (occ _ _ _ (.int false (if _ then _ else _))) = some (fTF n I _)
          rw [if_pos (by rw [Int.toNat_natCast]; exact P.ltI i hi)]; rfl
        · simp only [memOf, if_pos hk]
          obtain ⟨i, hi, rfl⟩ := mem_up1.mp hk
          show some (occ _ _ _ (.int false (if _ then _ else _))) = some (fOuF n _)
          rw [if_pos (by omega)]; rfl
      exact turns_last (turn_ex (v := exI) (Sub.orc _ _) (listVal_ref (hl _ _ _) code_ex) (stepE653 q n _ _ _ _ _ _) (by rw [obsE653]; exact ⟨loop655 V (pf (pre q 35 [.list false (inL n ++ tL n ++ ouL n), .dict false (dIn n), .fam (up1 n) (fIn n)])) hn _ _ _, trivial⟩) (.inl rfl) (Sub.trans (Sub.drop (l653e n) [_, _, _, _]) fin0)) (listVal_ref (hl _ _ _) (by rw [List.getElem?_eq_none_iff, code_len]; exact Nat.le_refl _))
    · have hO := P.lt j hj
      have hm : (O j : Int) ∈ upTo n := in_upTo hO
      have hfo : fT n I j (O j) = fT0 (O j) := by
        show occ _ _ _ (.int false (if _ then _ else _)) = _
        rw [Int.toNat_natCast, P.IO j hj, if_neg (by omega)]; rfl
      have fin : ∀ (o : SO), o = fT n I (j + 1) (O j) → Sub (Sx prog w K mg mb) en653 ⟨l653 n (ii (n + (j + 1))) ++ [(nm "instruction", pv O j), (nm "role", .int true 2), (nm "operand", aK j), (nm "number", ii (j + 1))], pre q 35 [.list false (inL n ++ tL n ++ ouL j ++ [.fam 41 ((j + 1 : Nat) : Int)]), .dict false (dIn n), .fam (up1 n) (fIn n), .dict false (dOu (j + 1)), .dict false (dT n), .ffam (upTo n) (fT n I j) (O j) o, .ffam (up1 j ++ [((j + 1 : Nat) : Int)]) (fOu0 n) ((j + 1 : Nat) : Int) (occ "out" (ii (j + 1)) (ii (n + j)) (ii (n + j + 1))), .ffam (upTo (n + j) ++ [((n + j : Nat) : Int)]) (fR n O) ((n + j : Nat) : Int) (.list true [.tup [.int true 1, tK (O j)], .tup [.int true 2, aK j]])], []⟩
          ⟨l653 n (ii (n + (j + 1))), pre q 35 [.list false (inL n ++ tL n ++ ouL (j + 1)), .dict false (dIn n), .fam (up1 n) (fIn n), .dict false (dOu (j + 1)), .dict false (dT n), .fam (upTo n) (fT n I (j + 1)), .fam (up1 (j + 1)) (fOu0 n), .fam (upTo (n + (j + 1))) (fR n O)], []⟩ := by
        intro o ho
        refine Sub.trans (Sub.drop _ _) ?_
        unfold ouL; rw [map_succ, ← List.append_assoc]
        refine Sub.trans (Sub.grow (t := 40) (ks' := upTo n) (g := fT n I (j + 1)) rfl (fun k => Iff.rfl) ho fun k hk hne => ?_) ?_
        · show occ _ _ _ (.int false (if _ then _ else _)) = occ _ _ _ (.int false (if _ then _ else _))
          obtain ⟨i, hi, rfl⟩ := mem_upTo.mp hk
          rw [Int.toNat_natCast]
          have : I i ≠ j := fun e => hne (by rw [← e, P.OI i hi])
          by_cases q : I i < j
          · rw [if_pos q, if_pos (by omega)]
          · rw [if_neg q, if_neg (by omega)]
        refine Sub.trans (Sub.grow (t := 41) (ks' := up1 (j + 1)) (g := fOu0 n) rfl (fun k => by rw [up1_succ]) ?_ fun _ _ _ => rfl) ?_
        · show occ _ _ (.int false ((n + j : Nat) : Int)) (.int false ((n + j + 1 : Nat) : Int)) = occ _ _ (.int false _) (.int false _)
          rw [show ((n + j : Nat) : Int) = (n : Int) + ((j + 1 : Nat) : Int) - 1 by omega, show ((n + j + 1 : Nat) : Int) = (n : Int) + ((j + 1 : Nat) : Int) by omega]
        · refine Sub.grow (t := 42) (ks' := upTo (n + (j + 1))) (g := fR n O) rfl (fun k => by rw [← Nat.add_assoc, upTo_succ]) ?_ fun _ _ _ => rfl
          show _ = SO.list true (if _ then _ else _)
          rw [if_neg (by omega), show ((n + j : Nat) : Int).toNat - n = j by omega]
      have lk := look0 (n := n) (i := O j) (fun i => SV.fam 40 i) hO
      have val : ∀ loc r o, listVal (.ref 26) (n + j) (⟨loc, pre q 35 r, o⟩ : St) = some (some (pv O j)) := fun loc r o => listVal_ref (hl _ _ _) (code_pv hj)
      have bd : ((((inL n ++ tL n ++ ouL j).length : Nat)) : Int) ≤ 999 := by unfold inL tL ouL; rw [List.length_append, List.length_append, map_len, map_len, map_len]; omega
      have bd2 : (((dOu j).length : Nat) : Int) ≤ 999 := by unfold dOu; rw [rdict_len]; omega
      by_cases hc : O j + 1 < n + j
      · refine turn_ex (v := pv O j) ?_ (val _ _ _) (stepP653 q n j O I _ _ (fR n O)) ?_ (.inl rfl) (fin _ ?_)
        · exact Sub.focus (t := 40) rfl hm hfo
        · rw [obsP653]
          exact ⟨notin_upTo (Int.le_refl _), rfl, lk, lk, rfl, decide_eq_true (by omega), lk, rfl, rfl, notin_up1 j, rfl, rfl, rfl, rfl, bd2, put1 j _, look1 (n := j + 1) _ (by omega), bd, rfl, trivial⟩
        · show occ _ _ _ _ = occ _ _ _ (.int false (if _ then _ else _))
          rw [Int.toNat_natCast, P.IO j hj, if_pos (by omega)]; rfl
      · refine turn_ex (v := pv O j) ?_ (val _ _ _) (stepQ653 q n j O I _ _ (fR n O)) ?_ (.inl rfl) (fin _ ?_)
        · exact Sub.focus (t := 40) rfl hm hfo
        · rw [obsQ653]
          exact ⟨notin_upTo (Int.le_refl _), rfl, lk, lk, rfl, decide_eq_false (by omega), rfl, notin_up1 j, rfl, rfl, rfl, rfl, bd2, put1 j _, look1 (n := j + 1) _ (by omega), bd, rfl, trivial⟩
        · show occ _ _ _ _ = occ _ _ _ (.int false (if _ then _ else _))
          rw [Int.toNat_natCast, P.IO j hj, if_pos (by omega), show ((n : Int) + (j : Int)) = (O j : Int) + 1 by omega]
  · refine turn_ex (v := gv i) (Sub.orc _ _) (listVal_ref (hl _ _ _) (by rw [Nat.zero_add]; exact code_gv hi)) (stepG653 q n i _ _ (fR n O)) ?_ (.inl rfl) (Sub.trans (Sub.drop (l653 n (ii (i + 1))) [_, _, _, _]) ?_)
    · rw [obsG653]
      exact ⟨notin_upTo (Int.le_refl _), rfl, look1 _ hi, in_up1 hi, rfl, none0 i _, notin_upTo (Int.le_refl _), rfl, rfl, rfl, rfl, by unfold dT; rw [rdict_len]; omega, put0 i _, look0 (n := i + 1) _ (by omega), by unfold inL tL; rw [List.length_append, map_len, map_len]; omega, rfl, trivial⟩
    · show Sub _ _ _ (⟨_, pre q 35 [.list false (inL n ++ tL (i + 1)), _, _, _, _, _, _, _], _⟩ : St)
      unfold tL; rw [map_succ, ← List.append_assoc]
      refine Sub.trans (Sub.grow (t := 37) (ks' := up1 n) (g := fIn (i + 1)) rfl (fun k => Iff.rfl) ?_ fun k _ hk => ?_) ?_
      · show _ = occ _ _ _ (if _ then _ else _)
        rw [if_pos (by omega), show (((i + 1 : Nat) : Int) - 1) = i by omega]
      · show occ _ _ _ (if _ then _ else _) = occ _ _ _ (if _ then _ else _)
        by_cases q : k ≤ (i : Int)
        · rw [if_pos q, if_pos (by omega)]
        · rw [if_neg q, if_neg (by omega)]
      · refine Sub.trans (Sub.grow (t := 40) (ks' := upTo (i + 1)) (g := fT0) rfl (fun k => by rw [upTo_succ]) rfl fun _ _ _ => rfl) ?_
        refine Sub.grow (t := 42) (ks' := upTo (i + 1)) (g := fR n O) rfl (fun k => by rw [upTo_succ]) ?_ fun _ _ _ => rfl
        show _ = SO.list true (if _ then _ else _)
        rw [if_pos (by omega)]; rfl
end
set_option tactic.hygienic true
open PySem PySem.W PySem.Calls PyProof.Rows PySem.SeqAt
structure CIn (S : Fix) (en : En) (c : Cx) (C : Addr) (x : Str) (v : SV) (z : Rz) (m : Str → Option Value) (σ : St) (h : Heap) : Prop where
  rep : Rep S en c z m σ h
  ns : ∃ m₂, h.Ns C m₂ ∧ ∃ u, m₂ x = some u ∧ Den z v u
  pool : ∃ oC, (C, oC) ∈ z.all ∧ z.own C = none
theorem CIn.next {S : Fix} {en : En} {c : Cx} {C : Addr} {x : Str} {v : SV} {z z' : Rz} {m m' : Str → Option Value} {σ : St} {h h' : Heap} (H : CIn S en c C x v z m σ h) (le : z.Le z') (R : Rep S en c z' m' σ h') : CIn S en c C x v z' m' σ h' := by
  obtain ⟨m₂, hns, u, hu, d⟩ := H.ns
  obtain ⟨oC, p1, p2⟩ := H.pool
  have q := le.pool _ _ p1 p2
  have e1 := (H.rep.news _ p1).1
  have e2 := (R.news _ q.1).1
  exact ⟨R, ⟨m₂, hns.at' fun o e => by rw [e1] at e; cases e; exact e2, u, hu, d.mono le⟩, ⟨oC, q⟩⟩
noncomputable def CEv (S : Fix) (en : En) (c : Cx) (scope : Scope) (cl : List (Str × Addr)) (x : Str) (v : SV) (σ : St) (e : Expr) (b : SV) : Prop :=
  ∀ C z m (s : Shared) (Q : Value → Shared → Prop) (E : Value → Shared → Prop), CIn S en c C x v z m σ s.heap → (∀ a z' m' h' tk', z.Le z' → CIn S en c C x v z' m' σ h' → Den z' b a → Q a (Sh s h' tk')) →
    wpAny S.M c.A (eval e (compEnvC scope cl C c.env)) Q E s
noncomputable def CTs (S : Fix) (en : En) (c : Cx) (scope : Scope) (cl : List (Str × Addr)) (x : Str) (v : SV) (σ : St) (ifs : List Expr) (b : Bool) : Prop :=
  ∀ C z m (s : Shared) (Q : Bool → Shared → Prop) (E : Value → Shared → Prop), CIn S en c C x v z m σ s.heap → (∀ z' m' h' tk', z.Le z' → CIn S en c C x v z' m' σ h' → Q b (Sh s h' tk')) →
    wpAny S.M c.A (testsOf ifs (compEnvC scope cl C c.env)) Q E s
section
variable {S : Fix} {en : En} {c : Cx} {n : Nat} {scope : Scope} {cl : List (Str × Addr)} {x : Str} {v : SV} {σ : St}
theorem cev_name {p : Pos} (hk : scope.kind = .function) (hx : scope.names.lookup x = some .local) (hd : (x == ("__debug__" : Str)) = false) : CEv S en c scope cl x v σ (.Name x p) v := by
  intro C z m s Q E H hQ
  obtain ⟨m₂, hns, u, hu, d⟩ := H.ns
  exact ldVarK hns hu (hQ u z m s.heap s.toks (.refl z) H d) (by simp [compEnvC, relabel, hk]) (lookup_relabel_local hx) hd
theorem cev_const {ct : Const} {kk : Nat} {p : Pos} {b : SV} (e1 : evConst ct = some b) : CEv S en c scope cl x v σ (.Constant ct kk p) b := by
  intro C z m s Q E H hQ
  cases ct <;> cases e1
  · exact wpAny_Constant_none (hQ _ z m s.heap s.toks (.refl z) H .none)
  · exact wpAny_Constant_bool (hQ _ z m s.heap s.toks (.refl z) H (.bool true _))
  · exact wpAny_Constant_int (hQ _ z m s.heap _ (.refl z) H (.int true _ _))
  · exact wpAny_Constant_str (hQ _ z m s.heap _ (.refl z) H (.str _ _))
theorem cev_pair {e1 e2 : Expr} {kk : Nat} {p : Pos} {a b : SV} (h1 : plainArg e1 = true) (h2 : plainArg e2 = true) (g1 : CEv S en c scope cl x v σ e1 a) (g2 : CEv S en c scope cl x v σ e2 b) : CEv S en c scope cl x v σ (.Tuple [e1, e2] kk p) (.tup [a, b]) := by
  intro C z m s Q E H hQ
  refine Tuple_ ?_
  rw [star_plain h1, star_plain h2]
  refine spliced_cons (g1 C z m s _ E H fun u z₁ m₁ h₁ tk₁ le₁ H₁ d₁ => ?_)
  refine spliced_cons (g2 C z₁ m₁ (Sh s h₁ tk₁) _ E H₁ fun w z₂ m₂ h₂ tk₂ le₂ H₂ d₂ => ?_)
  refine spliced_nil ?_
  have R₂ := H₂.rep
  have dl : DenL z₂ [a, b] [u, w] := .cons (d₁.mono le₂) (.cons d₂ .nil)
  refine newTuple_N R₂.fr R₂.news (fun h' F' N' => ?_) (small dl rfl)
  obtain ⟨R₃, d₃⟩ := rep_tuple R₂ F' N' (fun q hq => Heap.lt_size (R₂.news q hq).1) dl
  exact hQ _ _ m₂ h' _ ((le₁.trans le₂).trans (z₂.pool_le _ _)) (H₂.next (z₂.pool_le _ _) R₃) d₃
theorem cev_attr (V : Valid S.K S.mg S.mb S.Γ) (k : c.Ok S n) {e : Expr} {f : Str} {p : Pos} {a b : SV} {o : List Ob} (hb : baseOk e = true) (g : CEv S en c scope cl x v σ e a) (h : getAttr S.Γ a f σ = some (b, σ, o)) (ho : Owed S o) :
    CEv S en c scope cl x v σ (.Attribute e f p) b := by
  intro C z m s Q E H hQ
  refine Attribute_any_ (g C z m s _ E H fun u z₁ m₁ h₁ tk₁ le₁ H₁ d₁ => ?_) ?_
  · exact good_getAttr V k h ho H₁.rep d₁ fun w z₂ m₂ h₂ tk₂ le₂ R₂ d₂ => hQ w z₂ m₂ h₂ tk₂ (le₁.trans le₂) (H₁.next le₂ R₂) d₂
  · rw [arm_eval_Attribute, attr_base hb]
theorem cev_cell {y : Str} {p : Pos} {t : Nat} {b : SV} (hk : scope.kind = .function) (hl : ∀ C, (compEnvC scope cl C c.env).kindOf y = some .cell) (hd : (y == ("__debug__" : Str)) = false) (ht : look y en.cells = some t) (hc : σ.led[t]? = some (.cell b)) (hcl : cl.lookup y = c.cl.lookup y) :
    CEv S en c scope cl x v σ (.Name y p) b := by
  intro C z m s Q E H hQ
  obtain ⟨a1, a2⟩ := H.rep.cells y t ht
  have := (H.rep.led t _ hc).2
  cases this with
  | cell m1 dd o1 d1 =>
    rename_i w o
    exact ldCellK (hcl.trans a1) ⟨_, (H.rep.news _ m1).1, dd⟩ (hQ w z m s.heap s.toks (.refl z) H d1) (by simp [compEnvC, relabel, hk]) (hl C) hd
theorem cts_nil : CTs S en c scope cl x v σ [] true := by
  intro C z m s Q E H hQ
  exact wpAny_pure (hQ z m s.heap s.toks (.refl z) H)
theorem cts_of {e : Expr} {b : Bool} (g : ∀ C z m (s : Shared) (Q : Bool → Shared → Prop) (E : Value → Shared → Prop), CIn S en c C x v z m σ s.heap → (∀ z' m' h' tk', z.Le z' → CIn S en c C x v z' m' σ h' → Q b (Sh s h' tk')) →
    wpAny S.M c.A (isTrue e (compEnvC scope cl C c.env) (eval e (compEnvC scope cl C c.env))) Q E s) : CTs S en c scope cl x v σ [e] b := by
  intro C z m s Q E H hQ
  unfold testsOf
  rw [List.forIn_cons]
  refine wpAny_bind ?_
  rw [if_pos rfl]
  refine wpAny_bind (wpAny_mono (g C z m s (fun q s' => q = b ∧ ∃ z' m' h' tk', s' = Sh s h' tk' ∧ z.Le z' ∧ CIn S en c C x v z' m' σ h') E H fun z' m' h' tk' le H' => ⟨rfl, z', m', h', tk', rfl, le, H'⟩) (fun q s' hq => ?_) fun _ _ e => e)
  obtain ⟨rfl, z', m', h', tk', rfl, le, H'⟩ := hq
  refine wpAny_pure ?_
  dsimp only
  rw [List.forIn_nil]
  exact wpAny_pure (hQ z' m' h' tk' le H')
theorem cts_cmp (k : c.Ok S (n + 1)) {l m' : Expr} {op : CmpOp} {p : Pos} {a b w : SV} {o : List Ob} {C' q : Bool} (hm : behindInMarks op m' = false) (g1 : CEv S en c scope cl x v σ l a) (g2 : CEv S en c scope cl x v σ m' b) (h : compare op a b σ = some (w, σ, o)) (ho : Owed S o)
    (ht : truth w = some (C', q)) : CTs S en c scope cl x v σ [.Compare l [op] [m'] p] q := by
  refine cts_of fun C z m s Q E H hQ => ?_
  refine wpAny_isTrue_Compare1 (g1 C z m s _ E H fun u z₁ m₁ h₁ tk₁ le₁ H₁ d₁ => g2 C z₁ m₁ (Sh s h₁ tk₁) _ E H₁ fun w' z₂ m₂ h₂ tk₂ le₂ H₂ d₂ => ?_) hm
  exact good_compare k h ho (s := Sh s h₂ tk₂) H₂.rep (d₁.mono le₂) d₂ fun y tk R' d' => truth_ok (S := S) ht d' (hQ z₂ m₂ h₂ tk (le₁.trans le₂) (H₂.next (.refl _) R'))
theorem cts_not_call (V : Valid S.K S.mg S.mb S.Γ) (k : c.Ok S (n + 1)) {f : Str} {a : Nat} {pf pu pc : Pos} {e : Expr} {b w : SV} {C' q : Bool} {o : List Ob} {fn : Fn} (hk : scope.kind = .function) (hl : ∀ C, (compEnvC scope cl C c.env).kindOf f = some .globalImplicit) (hd : (f == ("__debug__" : Str)) = false)
    (hg : look f S.Γ.glob = some (.val (.ref a))) (hfn : lookN a S.Γ.fns = some fn) (hp : plainArg e = true) (g : CEv S en c scope cl x v σ e b)
    (h : (run S.Γ n).ap (.val (.ref a)) [b] σ = some (w, σ, o)) (ho : Owed S o) (ht : truth w = some (C', q)) : CTs S en c scope cl x v σ [.UnaryOp .Not (.Call (.Name f pf) [e] [] pc) pu] (!q) := by
  refine cts_of fun C z m s Q E H hQ => ?_
  refine isTrue_not (isTrue_plain (e := .Call (.Name f pf) [e] [] pc) ?_ rfl)
  refine Call_ ?_ rfl
  obtain ⟨u, hden, hm⟩ := V.glob f _ hg
  cases hden ⟨[], fun _ => none, fun _ _ => 0, 0, fun _ _ => False⟩
  have T := k.top.keeps H.rep.fr.keep
  have hkc : (compEnvC scope cl C c.env).scope.kind = .function := by simp [compEnvC, relabel, hk]
  refine Name_function_global hkc (hl C) ?_ hd
  have key : wpAny S.M c.A (callWith pc (.ref a) [] (backTo pc (starEach [e] (compEnvC scope cl C c.env))) []) (fun v s₁ => wpAny S.M c.A (truthy v) (fun b s => Q (!b) s) E s₁) E s := by
    refine callWith_of (P := fun h => S.K.In h) (by rw [any_plain [e] (by simpa using hp)]; rfl) (fun h X => keeps_K ((V.fns a fn hfn).kept) h X) ?_
    rw [star_plain hp]
    refine evalArgs_plain (spliced_cons (g C z m s _ E H fun u z₁ m₁ h₁ tk₁ le₁ H₁ d₁ => ?_))
    refine spliced_nil ⟨k.inK.keeps H₁.rep.fr.keep, ?_⟩
    refine (sound V n).ap en c k.lt (.val (.ref a)) [b] σ w σ o h ho z₁ m₁ (Sh s h₁ tk₁) _ E (.ref a) [u] H₁.rep (.val _) (.cons d₁ .nil) fun y z₂ m₂ h₂ tk₂ le₂ R₂ d₂ => ?_
    refine truth_ok (S := S) ht d₂ ?_
    exact hQ z₂ m₂ h₂ tk₂ (le₁.trans le₂) (H₁.next le₂ R₂)
  rcases hm with hm | ⟨hm, hb⟩
  · exact loadGlobal_global (env := compEnvC scope cl C c.env) T.g hm key
  · exact loadGlobal_builtin (env := compEnvC scope cl C c.env) T.g hm T.b hb key
end
structure CompSc (scope : Scope) (x : Str) : Prop where
  cell : ∀ y ∈ scope.names, y.2 ≠ .cell
  kind : scope.kind = .function
  names : ∀ y ∈ scope.names, y.2 = .local → scope.names.lookup y.1 = some .local
  own : scope.names.lookup x = some .local
noncomputable def CompIt (S : Fix) (en : En) (n : Nat) (scope : Scope) (x : Str) (ifs : List Expr) (elt : Expr) (loc : Loc) (led : Led) (N : Nat) (items : Nat → SV) (p : Nat → Bool) (y : Nat → SV) : Prop :=
  ∀ c, c.Ok S (n + 1) → ∀ orc z m h, Rep S en c z m ⟨loc, led, orc⟩ h → ∃ cl, closureFor scope c.env = pure cl ∧ (∀ i, i < N → CTs S en c scope cl x (items i) ⟨loc, led, orc⟩ ifs (p i)) ∧ (∀ i, i < N → p i = true → CEv S en c scope cl x (items i) ⟨loc, led, orc⟩ elt (y i))
section
variable {S : Fix} {en : En} {n : Nat}
theorem compOk_list (V : Valid S.K S.mg S.mb S.Γ) {elt it : Expr} {x : Str} {px : Pos} {ifs : List Expr} {scope : Scope} {pos : Pos} {loc : Loc} {led : Led} {o0 oc : List Orc} {u : SV} {o1 : List Ob} {C : Bool} {l : List SV} {N : Nat} {items : Nat → SV} {p : Nat → Bool} {y : Nat → SV}
    (hns : notSet it = true) (hsc : CompSc scope x) (e1 : (run S.Γ n).ev en it ⟨loc, led, o0⟩ = some (u, ⟨loc, led, oc⟩, o1)) (ho : Owed S o1) (hu : ∀ orc, seeObj u ⟨loc, led, orc⟩ = some (.list C l)) (hl : ∀ i, l[i]? = if i < N then some (items i) else none) (hN : N < 1000)
    (hit : CompIt S en n scope x ifs elt loc led N items p y) : CompOk S (n + 1) en (.ListComp elt [⟨.Name x px, it, ifs, 0⟩] scope pos) loc led (((List.range N).filter p).map y) led := by
  intro c k orc z m s Q E R hQ
  obtain ⟨cl, hclos, hts, hev⟩ := hit c k orc z m s.heap R
  have I := sound V n
  rw [eval_ListComp]
  refine wpAny_comprehension_free (use := none) rfl (fun x => notSet_folded hns c.env x) hclos hsc.kind hsc.names (I.ev en c k.lt it ⟨loc, led, o0⟩ u _ o1 e1 ho z m s _ E (R.orc o0) fun a z₁ m₁ h₁ tk₁ le R₁ d => ?_)
  replace R₁ := R₁.orc orc
  have key : ∃ t j, keyOf u = some (t, j) ∧ a = .ref (z₁.ad t j) ∧ z₁.lv t j := by
    cases d with
    | ref t ht => exact ⟨t, 0, rfl, rfl, ht⟩
    | fam t j ht => exact ⟨t, j, rfl, rfl, ht⟩
    | _ => cases hu orc
  obtain ⟨t', j, hk, rfl, ht⟩ := key
  have sit := seeObj_at (hu orc) R₁ hk
  cases sit with
  | list m1 w1 dl =>
    have hI : c.h₀.objs.size ≤ h₁.objs.size := Nat.le_trans R₁.fr.above (Nat.le_of_lt R₁.fr.ns.lt)
    have hL : c.L ≠ h₁.objs.size := Nat.ne_of_lt R₁.fr.ns.lt
    have hn : ∀ p ∈ z₁.all, p.1 ≠ h₁.objs.size := fun p hp => Nat.ne_of_lt (Heap.lt_size (R₁.news p hp).1)
    refine wpAny_pyIter_list (s := Sh s h₁ tk₁) ⟨_, (R₁.news _ m1).1, rfl, _, rfl⟩ ?_
    refine comp_sound (z := z₁) (s := Sh s (h₁.push _) tk₁) (σ := ⟨loc, led, orc⟩) (N := N) (items := items) (p := p) (y := y) k (srcList k u t' j hk (z₁.ad t' j)) hclos hsc.cell hsc.kind hsc.names hsc.own hN (fun i => ?_)
      (fun i hi C z m m₂ s u Q E R' hns hu hd hQ hp => hts i hi C z m s Q E ⟨R', ⟨m₂, hns, u, hu, hd⟩, hp⟩ fun z' m' h' tk' le H' => hQ z' m' h' tk' le H'.rep)
      (fun i hi hpi C z m m₂ s u Q E R' hns hu hd hQ hp => hev i hi hpi C z m s Q E ⟨R', ⟨m₂, hns, u, hu, hd⟩, hp⟩ fun a z' m' h' tk' le H' d' => hQ a z' m' h' tk' le H'.rep d')
      ⟨rfl, ht⟩ (R₁.push _) hI hL hn (Heap.get?_push_size _ rfl) ⟨rfl, rfl⟩ (fun s' o' Q' E' ho' hI' hq => wpAny_pyIter_listiter ⟨_, ho', hI'.1, hI'.2⟩ hq)
      (fun a z' m' h' tk' le' R' d' => hQ a z' m' h' tk' (le.trans le') R' d')
    show listVal u i _ = _
    unfold listVal; rw [hu orc, ← hl i]
theorem compOk_rng (V : Valid S.K S.mg S.mb S.Γ) {elt it : Expr} {x : Str} {px : Pos} {ifs : List Expr} {scope : Scope} {pos : Pos} {loc : Loc} {led : Led} {o0 oc : List Orc} {o1 : List Ob} {C : Bool} {N : Nat} {p : Nat → Bool} {y : Nat → SV}
    (hns : notSet it = true) (hsc : CompSc scope x) (e1 : (run S.Γ n).ev en it ⟨loc, led, o0⟩ = some (.rng C 0 N, ⟨loc, led, oc⟩, o1)) (ho : Owed S o1) (hN : N < 1000)
    (hit : CompIt S en n scope x ifs elt loc led N (fun i => .int C i) p y) : CompOk S (n + 1) en (.ListComp elt [⟨.Name x px, it, ifs, 0⟩] scope pos) loc led (((List.range N).filter p).map y) led := by
  intro c k orc z m s Q E R hQ
  obtain ⟨cl, hclos, hts, hev⟩ := hit c k orc z m s.heap R
  have I := sound V n
  rw [eval_ListComp]
  refine wpAny_comprehension_free (use := none) rfl (fun x => notSet_folded hns c.env x) hclos hsc.kind hsc.names (I.ev en c k.lt it ⟨loc, led, o0⟩ _ _ o1 e1 ho z m s _ E (R.orc o0) fun a z₁ m₁ h₁ tk₁ le R₁ d => ?_)
  replace R₁ := R₁.orc orc
  cases d with
  | rng _ _ _ a t1 t2 t3 m1 ow =>
    have hI : c.h₀.objs.size ≤ h₁.objs.size := Nat.le_trans R₁.fr.above (Nat.le_of_lt R₁.fr.ns.lt)
    have hL : c.L ≠ h₁.objs.size := Nat.ne_of_lt R₁.fr.ns.lt
    have hn : ∀ p ∈ z₁.all, p.1 ≠ h₁.objs.size := fun p hp => Nat.ne_of_lt (Heap.lt_size (R₁.news p hp).1)
    refine wpAny_pyIter_range (s := Sh s h₁ tk₁) (R₁.news _ m1).1 (range_small (by omega) (by omega)) ?_
    refine comp_sound (z := z₁) (s := Sh s (h₁.push _) tk₁) (σ := ⟨loc, led, orc⟩) (N := N) (items := fun i => .int C i) (p := p) (y := y) k (srcRng k C N) hclos hsc.cell hsc.kind hsc.names hsc.own hN (fun i => rfl)
      (fun i hi C z m m₂ s u Q E R' hns hu hd hQ hp => hts i hi C z m s Q E ⟨R', ⟨m₂, hns, u, hu, hd⟩, hp⟩ fun z' m' h' tk' le H' => hQ z' m' h' tk' le H'.rep)
      (fun i hi hpi C z m m₂ s u Q E R' hns hu hd hQ hp => hev i hi hpi C z m s Q E ⟨R', ⟨m₂, hns, u, hu, hd⟩, hp⟩ fun a z' m' h' tk' le H' d' => hQ a z' m' h' tk' le H'.rep d')
      trivial (R₁.push _) hI hL hn (Heap.get?_push_size _ rfl) ?_ (fun s' o' Q' E' ho' hI' hq => wpAny_pyIter_rangeiter (step := 1) (by rw [show o' = rngIt _ _ from hI'] at ho'; exact ho') hq)
      (fun a z' m' h' tk' le' R' d' => hQ a z' m' h' tk' (le.trans le') R' d')
    show _ = rngIt ((0 : Nat) : Int) (((N : Int).toNat : Int) - ((0 : Nat) : Int))
    rw [rangeSize_nat]
    simp [rngIt]
theorem filter_items {l : List SV} {q : SV → Bool} : ((List.range l.length).filter fun i => q ((l[i]?).getD .none)).map (fun i => (l[i]?).getD .none) = l.filter q := by
  have h : (List.range l.length).map (fun i => (l[i]?).getD SV.none) = l := by
    refine List.ext_getElem (by simp) fun i h1 h2 => ?_
    simp [List.getElem?_eq_getElem h2]
  conv => rhs; rw [← h]
  rw [List.filter_map]; rfl
theorem items_get {l : List SV} (i : Nat) : l[i]? = if i < l.length then some ((l[i]?).getD .none) else none := by
  by_cases h : i < l.length
  · rw [if_pos h, List.getElem?_eq_getElem h]; rfl
  · rw [if_neg h, List.getElem?_eq_none (by omega)]
theorem items_mem {l : List SV} {i : Nat} (h : i < l.length) : (l[i]?).getD .none ∈ l := by
  rw [List.getElem?_eq_getElem h]; exact List.getElem_mem h
theorem compOk_filter (V : Valid S.K S.mg S.mb S.Γ) {it : Expr} {x : Str} {px p0 : Pos} {ifs : List Expr} {scope : Scope} {pos : Pos} {loc : Loc} {led : Led} {o0 oc : List Orc} {u : SV} {o1 : List Ob} {C : Bool} {l : List SV} {q : SV → Bool}
    (hns : notSet it = true) (hsc : CompSc scope x) (hd : (x == ("__debug__" : Str)) = false) (e1 : (run S.Γ n).ev en it ⟨loc, led, o0⟩ = some (u, ⟨loc, led, oc⟩, o1)) (ho : Owed S o1) (hu : ∀ orc, seeObj u ⟨loc, led, orc⟩ = some (.list C l)) (hN : l.length < 1000)
    (hit : ∀ c, c.Ok S (n + 1) → ∃ cl, closureFor scope c.env = pure cl ∧ ∀ orc, ∀ v ∈ l, CTs S en c scope cl x v ⟨loc, led, orc⟩ ifs (q v)) : CompOk S (n + 1) en (.ListComp (.Name x p0) [⟨.Name x px, it, ifs, 0⟩] scope pos) loc led (l.filter q) led := by
  have := compOk_list (n := n) (en := en) (elt := .Name x p0) (px := px) (pos := pos) (N := l.length) (items := fun i => (l[i]?).getD .none) (p := fun i => q ((l[i]?).getD .none)) (y := fun i => (l[i]?).getD .none) V hns hsc e1 ho hu items_get hN fun c k orc z m h R => by
    obtain ⟨cl, h1, h2⟩ := hit c k
    exact ⟨cl, h1, fun i hi => h2 orc _ (items_mem hi), fun i hi _ => cev_name hsc.kind hsc.own hd⟩
  rwa [filter_items] at this
theorem closure_nil {scope : Scope} {env : Env} (h : ∀ y ∈ scope.names, y.2 ≠ .free) : closureFor scope env = pure [] := by
  unfold closureFor
  suffices H : ∀ (l : List (Str × NameKind)) (cs : List (Str × Addr)), (∀ y ∈ l, y.2 ≠ .free) → (forIn l cs fun (x : Str × NameKind) r => match x with | (name, kind) => if (kind == .free) = true then do let __do_lift ← cellOf env name; pure (ForInStep.yield ((name, __do_lift) :: r)) else pure (ForInStep.yield r) : Sem _) = pure cs by
    have := H scope.names [] h
    exact (congrArg (fun t => t >>= fun cs => pure cs) this).trans (pure_bind _ _)
  intro l
  induction l with
  | nil => intro cs _; rfl
  | cons a r ih =>
    intro cs hl
    rw [List.forIn_cons]
    have : (a.2 == .free) = false := by simpa using hl a (.head _)
    obtain ⟨x, y⟩ := a
    dsimp only at this ⊢
    rw [this]
    show (pure _ >>= _) = _
    rw [pure_bind]
    exact ih cs fun y hy => hl y (.tail _ hy)
end
set_option tactic.hygienic false
open PySem PySem.W PySem.Calls PyProof.Rows PySem.SeqAt
noncomputable def ps (l a b : Nat) : Pos := ⟨l, a, l, b⟩
noncomputable def sc672 : Scope := { kind := .function, names := [(nm ".0", .local), (nm "taken", .local)], isGenerator := false, isCoroutine := false }
noncomputable def if672 : List Expr := [.Compare (.Attribute (.Name (nm "taken") (ps 672 40 45)) (nm "stop") (ps 672 40 50)) [.Gt] [.Attribute (.Name (nm "taken") (ps 672 53 58)) (nm "start") (ps 672 53 64)] (ps 672 40 64)]
noncomputable def s672 : Expr := .ListComp (.Name (nm "taken") (ps 672 12 17)) [⟨.Name (nm "taken") (ps 672 22 27), .Name (nm "found") (ps 672 31 36), if672, 0⟩] sc672 (ps 672 11 65)
noncomputable abbrev en672 : En := en701
noncomputable def foundL (n : Nat) : List SV := inL n ++ tL n ++ ouL n
theorem stepI672 (q : Nat → SO) (n : Nat) (O I : Nat → Nat) (orc : List Orc) :
    outOf ((run Γ₀ 76).ev en672 (.Name (nm "found") (ps 672 31 36)) ⟨l653e n, led653 q n O I, orc⟩) =
    some (.ref 35, { loc := l653e n, led := led653 q n O I, orc := orc }) := by kernel_rfl
theorem obsI672 (S : Fix) (q : Nat → SO) (n : Nat) (O I : Nat → Nat) (orc : List Orc) :
    AllH S (obsOf ((run Γ₀ 76).ev en672 (.Name (nm "found") (ps 672 31 36)) ⟨l653e n, led653 q n O I, orc⟩)) =
    (True) := by kernel_rfl
theorem stepA672 (q : Nat → SO) (n : Nat) (O I : Nat → Nat) (orc : List Orc) (i : Int) :
    outOf (getAttr Γ₀ (.fam 37 i) (nm "stop") ⟨l653e n, led653 q n O I, orc⟩) =
    some (.int false (i - 1), { loc := l653e n, led := led653 q n O I, orc := orc }) := by kernel_rfl
theorem obsA672 (S : Fix) (q : Nat → SO) (n : Nat) (O I : Nat → Nat) (orc : List Orc) (i : Int) :
    AllH S (obsOf (getAttr Γ₀ (.fam 37 i) (nm "stop") ⟨l653e n, led653 q n O I, orc⟩)) =
    (((i) ∈ (up1 n)) ∧ True) := by kernel_rfl
theorem stepB672 (q : Nat → SO) (n : Nat) (O I : Nat → Nat) (orc : List Orc) (i : Int) :
    outOf (getAttr Γ₀ (.fam 37 i) (nm "start") ⟨l653e n, led653 q n O I, orc⟩) =
    some (.int true (-1), { loc := l653e n, led := led653 q n O I, orc := orc }) := by kernel_rfl
theorem obsB672 (S : Fix) (q : Nat → SO) (n : Nat) (O I : Nat → Nat) (orc : List Orc) (i : Int) :
    AllH S (obsOf (getAttr Γ₀ (.fam 37 i) (nm "start") ⟨l653e n, led653 q n O I, orc⟩)) =
    (((i) ∈ (up1 n)) ∧ True) := by kernel_rfl
theorem stepC672 (q : Nat → SO) (n : Nat) (O I : Nat → Nat) (orc : List Orc) (i : Int) :
    outOf (getAttr Γ₀ (.fam 40 i) (nm "stop") ⟨l653e n, led653 q n O I, orc⟩) =
    some (.int false ((↑n : Int) + (↑(I i.toNat) : Int)), { loc := l653e n, led := led653 q n O I, orc := orc }) := by kernel_rfl
theorem obsC672 (S : Fix) (q : Nat → SO) (n : Nat) (O I : Nat → Nat) (orc : List Orc) (i : Int) :
    AllH S (obsOf (getAttr Γ₀ (.fam 40 i) (nm "stop") ⟨l653e n, led653 q n O I, orc⟩)) =
    (((i) ∈ (upTo n)) ∧ True) := by kernel_rfl
theorem stepD672 (q : Nat → SO) (n : Nat) (O I : Nat → Nat) (orc : List Orc) (i : Int) :
    outOf (getAttr Γ₀ (.fam 40 i) (nm "start") ⟨l653e n, led653 q n O I, orc⟩) =
    some (.int false i, { loc := l653e n, led := led653 q n O I, orc := orc }) := by kernel_rfl
theorem obsD672 (S : Fix) (q : Nat → SO) (n : Nat) (O I : Nat → Nat) (orc : List Orc) (i : Int) :
    AllH S (obsOf (getAttr Γ₀ (.fam 40 i) (nm "start") ⟨l653e n, led653 q n O I, orc⟩)) =
    (((i) ∈ (upTo n)) ∧ True) := by kernel_rfl
theorem stepE672 (q : Nat → SO) (n : Nat) (O I : Nat → Nat) (orc : List Orc) (i : Int) :
    outOf (getAttr Γ₀ (.fam 41 i) (nm "stop") ⟨l653e n, led653 q n O I, orc⟩) =
    some (.int false ((↑n : Int) + (↑n : Int)), { loc := l653e n, led := led653 q n O I, orc := orc }) := by kernel_rfl
theorem obsE672 (S : Fix) (q : Nat → SO) (n : Nat) (O I : Nat → Nat) (orc : List Orc) (i : Int) :
    AllH S (obsOf (getAttr Γ₀ (.fam 41 i) (nm "stop") ⟨l653e n, led653 q n O I, orc⟩)) =
    (((i) ∈ (up1 n)) ∧ True) := by kernel_rfl
theorem stepF672 (q : Nat → SO) (n : Nat) (O I : Nat → Nat) (orc : List Orc) (i : Int) :
    outOf (getAttr Γ₀ (.fam 41 i) (nm "start") ⟨l653e n, led653 q n O I, orc⟩) =
    some (.int false ((↑n : Int) + i - 1), { loc := l653e n, led := led653 q n O I, orc := orc }) := by kernel_rfl
theorem obsF672 (S : Fix) (q : Nat → SO) (n : Nat) (O I : Nat → Nat) (orc : List Orc) (i : Int) :
    AllH S (obsOf (getAttr Γ₀ (.fam 41 i) (nm "start") ⟨l653e n, led653 q n O I, orc⟩)) =
    (((i) ∈ (up1 n)) ∧ True) := by kernel_rfl
noncomputable abbrev q701 (p : Nat → SO) (n : Nat) (O : Nat → Nat) : Nat → SO := fun i => if i = 26 then .list false (codeL n O) else p i
theorem stepF701 (q : Nat → SO) (n : Nat) (O I : Nat → Nat) :
    outOf ((run Γ₀ 79).ex en701 f_intervals.body ⟨[(nm "instrs", .ref 26), (nm "arity", ii n)], pre q 35 [], [.loop (l646 n n) (pre q 35 [.list false (inL n), .dict false (dIn n), .fam (up1 n) fIn0]), .loop (l653e n) (led653 q n O I), .comp (foundL n) (led653 q n O I)]⟩) =
    some (.ret (.ref 45), { loc := [(nm "instrs", .ref 26), (nm "arity", ii n), (nm "found", .ref 35), (nm "incoming", .ref 36)], led := pre q 35 [.list false (inL n ++ tL n ++ ouL n), .dict false (dIn n), .fam (up1 n) fInF, .dict false (dOu n), .dict false (dT n), .fam (upTo n) (fTF n I), .fam (up1 n) (fOuF n), .fam (upTo (n + n)) (fR n O), .dict true [], .list true [], .list false (foundL n)], orc := [] }) := by kernel_rfl
theorem obsF701 (S : Fix) (q : Nat → SO) (n : Nat) (O I : Nat → Nat) :
    AllH S (obsOf ((run Γ₀ 79).ex en701 f_intervals.body ⟨[(nm "instrs", .ref 26), (nm "arity", ii n)], pre q 35 [], [.loop (l646 n n) (pre q 35 [.list false (inL n), .dict false (dIn n), .fam (up1 n) fIn0]), .loop (l653e n) (led653 q n O I), .comp (foundL n) (led653 q n O I)]⟩)) =
    (LoopOk S (20) en646 s646 ([(nm "instrs", .ref 26), (nm "arity", ii n), (nm "found", .ref 35), (nm "incoming", .ref 36), (nm "number", .int true 1)]) (pre q 35 [.list true [], .dict true []]) (l646 n n) (pre q 35 [.list false (inL n), .dict false (dIn n), .fam (up1 n) fIn0]) ∧ LoopOk S (40) en653 s653 ([(nm "instrs", .ref 26), (nm "arity", ii n), (nm "found", .ref 35), (nm "incoming", .ref 36), (nm "number", ii (n + 1)), (nm "outgoing", .ref 38), (nm "temporaries", .ref 39), (nm "at", .int true 0)]) (pre q 35 [.list false (inL n), .dict false (dIn n), .fam (up1 n) fIn0, .dict true [], .dict true []]) (l653e n) (led653 q n O I) ∧ CompOk S (77) en672 s672 ([(nm "instrs", .ref 26), (nm "arity", ii n), (nm "found", .ref 35), (nm "incoming", .ref 36)]) (pre q 35 [.list false (inL n ++ tL n ++ ouL n), .dict false (dIn n), .fam (up1 n) fInF, .dict false (dOu n), .dict false (dT n), .fam (upTo n) (fTF n I), .fam (up1 n) (fOuF n), .fam (upTo (n + n)) (fR n O), .dict true [], .list true []]) (foundL n) (led653 q n O I) ∧ True) := by kernel_rfl
theorem sc672_ok : CompSc sc672 (nm "taken") := ⟨by decide +kernel, rfl, by decide +kernel, by decide +kernel⟩
theorem sc672_nf : ∀ y ∈ sc672.names, y.2 ≠ .free := by decide +kernel
section
variable {prog : Program} {w : World} {K : Frag} {mg mb : Str → Option Value}
theorem cev_attr_run {S : Fix} {en : En} {c : Cx} {n : Nat} {scope : Scope} {cl : List (Str × Addr)} {x : Str} {v : SV} {σ : St} (V : Valid S.K S.mg S.mb S.Γ) (k : c.Ok S n) {e : Expr} {f : Str} {p : Pos} {a b : SV} {P : Prop} (hb : baseOk e = true) (g : CEv S en c scope cl x v σ e a)
    (h1 : outOf (getAttr S.Γ a f σ) = some (b, σ)) (h2 : AllH S (obsOf (getAttr S.Γ a f σ)) = P) (h3 : P) : CEv S en c scope cl x v σ (.Attribute e f p) b := by
  obtain ⟨o, e, ho⟩ := run_ok h1 (by rw [h2]; exact h3)
  exact cev_attr V k hb g e ho
theorem comp672 (V : Valid K mg mb Γ₀) (q : Nat → SO) {n : Nat} (hn : n ≤ 60) (O I : Nat → Nat) (hI : ∀ k, k < n → I k < n) : CompOk (Sx prog w K mg mb) 77 en672 s672 (l653e n) (led653 q n O I) (foundL n) (led653 q n O I) := by
  have hlen : (foundL n).length < 1000 := by unfold foundL inL tL ouL; rw [List.length_append, List.length_append, map_len, map_len, map_len]; omega
  obtain ⟨o, e1, ho⟩ := run_ok (S := Sx prog w K mg mb) (stepI672 q n O I []) (by rw [obsI672]; trivial)
  have := compOk_filter (S := Sx prog w K mg mb) (n := 76) (en := en672) (ifs := if672) (pos := ps 672 11 65) (px := ps 672 22 27) (p0 := ps 672 12 17) (q := fun _ => true) V (it := .Name (nm "found") (ps 672 31 36)) rfl sc672_ok (by decide +kernel) e1 ho (C := false) (l := foundL n) (fun orc => seeObj_ref rfl rfl) hlen fun c k => ⟨[], closure_nil sc672_nf, fun orc v hv => by
    have cn : ∀ v pos, CEv (Sx prog w K mg mb) en672 c sc672 [] (nm "taken") v ⟨l653e n, led653 q n O I, orc⟩ (.Name (nm "taken") pos) v := fun v pos => cev_name sc672_ok.kind sc672_ok.own (by decide +kernel)
    have fin : ∀ {c1 c2 : Bool} {i j : Int}, j < i → truth (cInt (c1 && c2) (intLt j i) (decide (i > j))) = some (c1 && c2, true) := by
      intro c1 c2 i j h
      have h2 : intLt j i = true := by
        cases i <;> cases j <;> simp only [Int.ofNat_eq_natCast, Int.negSucc_eq] at h <;> simp only [intLt] <;> first | omega | (exact Nat.ble_eq_true_of_le (by omega))
      unfold cInt
      cases c1 && c2
      · show some (false, decide _) = _; rw [decide_eq_true h]
      · show some (true, _) = _; rw [h2]
    unfold foundL at hv
    rcases List.mem_append.mp hv with hv | hv
    · rcases List.mem_append.mp hv with hv | hv
      · obtain ⟨i, hi, rfl⟩ := List.mem_map.mp hv
        have hi := List.mem_range.mp hi
        exact cts_cmp k rfl (cev_attr_run V k rfl (cn _ _) (stepA672 q n O I orc _) (obsA672 _ q n O I orc _) ⟨in_up1 hi, trivial⟩) (cev_attr_run V k rfl (cn _ _) (stepB672 q n O I orc _) (obsB672 _ q n O I orc _) ⟨in_up1 hi, trivial⟩) rfl (fun _ h => nomatch h) (fin (by omega))
      · obtain ⟨i, hi, rfl⟩ := List.mem_map.mp hv
        have hi := List.mem_range.mp hi
        exact cts_cmp k rfl (cev_attr_run V k rfl (cn _ _) (stepC672 q n O I orc _) (obsC672 _ q n O I orc _) ⟨in_upTo hi, trivial⟩) (cev_attr_run V k rfl (cn _ _) (stepD672 q n O I orc _) (obsD672 _ q n O I orc _) ⟨in_upTo hi, trivial⟩) rfl (fun _ h => nomatch h) (fin (by omega))
    · obtain ⟨i, hi, rfl⟩ := List.mem_map.mp hv
      have hi := List.mem_range.mp hi
      exact cts_cmp k rfl (cev_attr_run V k rfl (cn _ _) (stepE672 q n O I orc _) (obsE672 _ q n O I orc _) ⟨in_up1 hi, trivial⟩) (cev_attr_run V k rfl (cn _ _) (stepF672 q n O I orc _) (obsF672 _ q n O I orc _) ⟨in_up1 hi, trivial⟩) rfl (fun _ h => nomatch h) (fin (by omega))⟩
  rw [List.filter_eq_self.mpr fun _ _ => rfl] at this
  exact this
theorem fn701 : lookN 701 Γ₀.fns = some f_intervals := by kernel_rfl
theorem za701 (n : Nat) : zipArgs f_intervals.params [.ref 26, ii n] = some [(nm "instrs", .ref 26), (nm "arity", ii n)] := by kernel_rfl
theorem call701 (V : Valid K mg mb Γ₀) (q : Nat → SO) {n : Nat} (hn : n ≤ 60) {O I : Nat → Nat} (P : Inv n O I) (h26 : q 26 = .list false (codeL n O)) :
    CallOk (Sx prog w K mg mb) 80 701 [.ref 26, ii n] (pre q 35 []) (.ref 45) (led653 q n O I ++ [.list false (foundL n)]) :=
  callOk_run (n := 79) V fn701 (za701 n) (stepF701 q n O I) (obsF701 _ q n O I) ⟨loop646 V q hn, loop653 V q hn h26 P, comp672 V q hn O I P.ltI, trivial⟩
end
set_option tactic.hygienic false
open PySem PySem.W PySem.Calls PyProof.Rows PySem.SeqAt
noncomputable def s734 : Stmt := nthS f_allocate.body 2
noncomputable abbrev en778 : En := ⟨f_allocate.sc, []⟩
noncomputable abbrev en734 : En := en778
noncomputable abbrev l778 (n : Nat) : Loc := [(nm "symbols", .ref 4), (nm "instrs", .ref 26), (nm "arity", ii n), (nm "limit", .int true 60), (nm "file", .ref 29), (nm "temporaries", .ref 32)]
noncomputable abbrev iFile : SO := .inst 753 [(nm "taken", .ref 30), (nm "home", .ref 31)]
noncomputable def dK (j : Nat) : List (SV × SV) := rdict j (fun i => ii (i + 1)) (fun i => .fam 33 ((i + 1 : Nat) : Int))
noncomputable def fK1 (m : Int) : SO := .list true [.fam 37 m]
noncomputable def fK2 (j : Nat) (m : Int) : SO := .list true (if m ≤ j then [.fam 37 m, .fam 41 m] else [.fam 37 m])
noncomputable def fNil (_ : Int) : SO := .list true []
noncomputable abbrev led701 (n : Nat) (O I : Nat → Nat) (kg : Led) : Led := kg ++ [.list false (inL n ++ tL n ++ ouL n), .dict false (dIn n), .fam (up1 n) fInF, .dict false (dOu n), .dict false (dT n), .fam (upTo n) (fTF n I), .fam (up1 n) (fOuF n), .fam (upTo (n + n)) (fR n O), .dict true [], .list true [], .list false (foundL n)]
theorem stepI734 (q : Nat → SO) (n : Nat) (O I : Nat → Nat) (a b c d k g : SO) :
    outOf ((run Γ₀ 89).ev en734 (forIt s734) ⟨l778 n, pre q 29 [a, b, c, d, k, g], [.call (.ref 45) (pre q 29 (a :: b :: c :: d :: led701 n O I [k, g]))]⟩) =
    some (.ref 45, { loc := [(nm "symbols", .ref 4), (nm "instrs", .ref 26), (nm "arity", ii n), (nm "limit", .int true 60), (nm "file", .ref 29), (nm "temporaries", .ref 32)], led := pre q 29 (a :: b :: c :: d :: led701 n O I [k, g]), orc := [] }) := by kernel_rfl
theorem obsI734 (S : Fix) (q : Nat → SO) (n : Nat) (O I : Nat → Nat) (a b c d k g : SO) :
    AllH S (obsOf ((run Γ₀ 89).ev en734 (forIt s734) ⟨l778 n, pre q 29 [a, b, c, d, k, g], [.call (.ref 45) (pre q 29 (a :: b :: c :: d :: led701 n O I [k, g]))]⟩)) =
    (CallOk S (80) (701) ([.ref 26, .int false (↑n : Int)]) (pre q 29 [a, b, c, d, k, g]) (.ref 45) (pre q 29 (a :: b :: c :: d :: led701 n O I [k, g])) ∧ True) := by kernel_rfl
theorem stepN734 (q : Nat → SO) (n : Nat) (O I : Nat → Nat) (j : Nat) (h g : SO) :
    outOf (turnR 89 en734 (forTgt s734) (forBody s734) (.fam 37 ((j + 1 : Nat) : Int)) ⟨l778 n, pre q 29 (iFile :: .dict false (dK j) :: h :: .list false [] :: led701 n O I [.fam (up1 j) fK1, g]), [.home 33 ((j + 1 : Nat) : Int), .look none, .put (dK (j + 1))]⟩) =
    some (.next, { loc := [(nm "symbols", .ref 4), (nm "instrs", .ref 26), (nm "arity", ii n), (nm "limit", .int true 60), (nm "file", .ref 29), (nm "temporaries", .ref 32), (nm "taken", .fam 37 (↑(j + 1) : Int))], led := pre q 29 [iFile, .dict false (dK (j + 1)), h, .list false [], .ffam (up1 j ++ [(↑(j + 1) : Int)]) fK1 (↑(j + 1) : Int) (.list true [.fam 37 (↑(j + 1) : Int)]), g, .list false (inL n ++ tL n ++ ouL n), .dict false (dIn n), .fam (up1 n) fInF, .dict false (dOu n), .dict false (dT n), .fam (upTo n) (fTF n I), .fam (up1 n) (fOuF n), .fam (upTo (n + n)) (fR n O), .dict true [], .list true [], .list false (foundL n)], orc := [] }) := by kernel_rfl
theorem obsN734 (S : Fix) (q : Nat → SO) (n : Nat) (O I : Nat → Nat) (j : Nat) (h g : SO) :
    AllH S (obsOf (turnR 89 en734 (forTgt s734) (forBody s734) (.fam 37 ((j + 1 : Nat) : Int)) ⟨l778 n, pre q 29 (iFile :: .dict false (dK j) :: h :: .list false [] :: led701 n O I [.fam (up1 j) fK1, g]), [.home 33 ((j + 1 : Nat) : Int), .look none, .put (dK (j + 1))]⟩)) =
    ((((↑(j + 1) : Int)) ∈ (up1 n)) ∧ (((↑(j + 1) : Int)) ∈ (up1 n)) ∧ (((↑(j + 1) : Int)) ∉ (up1 j)) ∧ ((((↑(dK j).length : Int)) : Int) ≤ (999)) ∧ LookOk (dK j) (.int false (↑(j + 1) : Int)) (none) ∧ ((((↑(dK j).length : Int)) : Int) ≤ (999)) ∧ PutOk (dK j) (.int false (↑(j + 1) : Int)) (.fam 33 (↑(j + 1) : Int)) (dK (j + 1)) ∧ ((((↑(j + 1) : Int)) : Int) = ((↑(j + 1) : Int))) ∧ ((((↑(j + 1) : Int)) : Int) = ((↑(j + 1) : Int))) ∧ True) := by kernel_rfl
theorem stepT734 (q : Nat → SO) (n : Nat) (O I : Nat → Nat) (j : Nat) (d h k g : SO) :
    outOf (turnR 89 en734 (forTgt s734) (forBody s734) (.fam 40 (j : Int)) ⟨l778 n, pre q 29 (iFile :: d :: h :: .list false (tL j) :: led701 n O I [k, g]), []⟩) =
    some (.next, { loc := [(nm "symbols", .ref 4), (nm "instrs", .ref 26), (nm "arity", ii n), (nm "limit", .int true 60), (nm "file", .ref 29), (nm "temporaries", .ref 32), (nm "taken", .fam 40 (↑j : Int))], led := pre q 29 (iFile :: d :: h :: .list false (tL j ++ [.fam 40 (↑j : Int)]) :: led701 n O I [k, g]), orc := [] }) := by kernel_rfl
theorem obsT734 (S : Fix) (q : Nat → SO) (n : Nat) (O I : Nat → Nat) (j : Nat) (d h k g : SO) :
    AllH S (obsOf (turnR 89 en734 (forTgt s734) (forBody s734) (.fam 40 (j : Int)) ⟨l778 n, pre q 29 (iFile :: d :: h :: .list false (tL j) :: led701 n O I [k, g]), []⟩)) =
    ((((↑j : Int)) ∈ (upTo n)) ∧ ((((↑(tL j).length : Int)) : Int) ≤ (999)) ∧ True) := by kernel_rfl
theorem stepO734 (q : Nat → SO) (n : Nat) (O I : Nat → Nat) (j : Nat) (h t : SO) :
    outOf (turnR 89 en734 (forTgt s734) (forBody s734) (.fam 41 ((j + 1 : Nat) : Int)) ⟨l778 n, pre q 29 (iFile :: .dict false (dK n) :: h :: t :: led701 n O I [.ffam (up1 n) (fK2 j) ((j + 1 : Nat) : Int) (fK1 ((j + 1 : Nat) : Int)), .fam (up1 j) fNil]), [.home 34 ((j + 1 : Nat) : Int), .look (some (.fam 33 ((j + 1 : Nat) : Int)))]⟩) =
    some (.next, { loc := [(nm "symbols", .ref 4), (nm "instrs", .ref 26), (nm "arity", ii n), (nm "limit", .int true 60), (nm "file", .ref 29), (nm "temporaries", .ref 32), (nm "taken", .fam 41 (↑(j + 1) : Int))], led := pre q 29 [iFile, .dict false (dK n), h, t, .ffam (up1 n) (fK2 j) (↑(j + 1) : Int) (.list true [.fam 37 (↑(j + 1) : Int), .fam 41 (↑(j + 1) : Int)]), .ffam (up1 j ++ [(↑(j + 1) : Int)]) fNil (↑(j + 1) : Int) (.list true []), .list false (inL n ++ tL n ++ ouL n), .dict false (dIn n), .fam (up1 n) fInF, .dict false (dOu n), .dict false (dT n), .fam (upTo n) (fTF n I), .fam (up1 n) (fOuF n), .fam (upTo (n + n)) (fR n O), .dict true [], .list true [], .list false (foundL n)], orc := [] }) := by kernel_rfl
theorem obsO734 (S : Fix) (q : Nat → SO) (n : Nat) (O I : Nat → Nat) (j : Nat) (h t : SO) :
    AllH S (obsOf (turnR 89 en734 (forTgt s734) (forBody s734) (.fam 41 ((j + 1 : Nat) : Int)) ⟨l778 n, pre q 29 (iFile :: .dict false (dK n) :: h :: t :: led701 n O I [.ffam (up1 n) (fK2 j) ((j + 1 : Nat) : Int) (fK1 ((j + 1 : Nat) : Int)), .fam (up1 j) fNil]), [.home 34 ((j + 1 : Nat) : Int), .look (some (.fam 33 ((j + 1 : Nat) : Int)))]⟩)) =
    ((((↑(j + 1) : Int)) ∈ (up1 n)) ∧ (((↑(j + 1) : Int)) ∈ (up1 n)) ∧ (((↑(j + 1) : Int)) ∉ (up1 j)) ∧ ((((↑(dK n).length : Int)) : Int) ≤ (999)) ∧ LookOk (dK n) (.int false (↑(j + 1) : Int)) (some (.fam 33 (↑(j + 1) : Int))) ∧ ((((↑(j + 1) : Int)) : Int) = ((↑(j + 1) : Int))) ∧ ((((↑(j + 1) : Int)) : Int) = ((↑(j + 1) : Int))) ∧ True) := by kernel_rfl
noncomputable def fKF (m : Int) : SO := .list true [.fam 37 m, .fam 41 m]
theorem s734_eq : s734 = .For (forTgt s734) (forIt s734) (forBody s734) [] (posOfS s734) := by kernel_rfl
theorem found_in {n i : Nat} (h : i < n) : (foundL n)[i]? = some (.fam 37 ((i + 1 : Nat) : Int)) := by
  unfold foundL inL tL ouL
  rw [List.append_assoc, List.getElem?_append_left (by rw [map_len]; exact h), iiL_get _ h]
theorem found_t {n i : Nat} (h : i < n) : (foundL n)[n + i]? = some (.fam 40 (i : Int)) := by
  unfold foundL inL tL ouL
  rw [List.append_assoc, List.getElem?_append_right (by rw [map_len]; omega), map_len, Nat.add_sub_cancel_left, List.getElem?_append_left (by rw [map_len]; exact h), iiL_get _ h]
theorem found_ou {n i : Nat} (h : i < n) : (foundL n)[n + n + i]? = some (.fam 41 ((i + 1 : Nat) : Int)) := by
  unfold foundL inL tL ouL
  rw [List.getElem?_append_right (by rw [List.length_append, map_len, map_len]; omega), List.length_append, map_len, map_len, Nat.add_sub_cancel_left, iiL_get _ h]
theorem found_len (n : Nat) : (foundL n).length = n + n + n := by
  unfold foundL inL tL ouL; rw [List.length_append, List.length_append, map_len, map_len, map_len]
noncomputable abbrev led734 (q : Nat → SO) (n : Nat) (O I : Nat → Nat) : Led := pre q 29 (iFile :: .dict false (dK n) :: .dict true [] :: .list false (tL n) :: led701 n O I [.fam (up1 n) fKF, .fam (up1 n) fNil])
section
variable {prog : Program} {w : World} {K : Frag} {mg mb : Str → Option Value}
theorem loop734 (V : Valid K mg mb Γ₀) (q : Nat → SO) {n : Nat} (hn : n ≤ 60) {O I : Nat → Nat} (h26 : q 26 = .list false (codeL n O)) (P : Inv n O I) :
    LoopOk (Sx prog w K mg mb) 90 en734 s734 (l778 n) (pre q 29 [iFile, .dict true [], .dict true [], .list true []]) (l778 n) (led734 q n O I) := by
  refine LoopOk.fam fK1 (LoopOk.fam fNil ?_)
  rw [s734_eq]
  obtain ⟨oi, e1, e2⟩ := run_ok (S := Sx prog w K mg mb) (stepI734 q n O I iFile (.dict true []) (.dict true []) (.list true []) (.fam [] fK1) (.fam [] fNil)) (by
    rw [obsI734]; exact ⟨call701 V (pf (pre q 29 [iFile, .dict true [], .dict true [], .list true [], .fam [] fK1, .fam [] fNil])) hn P h26, trivial⟩)
  refine loopOk_for (n := 89) V (v := .ref 45) (oc := []) rfl e1 e2 (.list (n + (n + (n + 0))) ⟨false, foundL n, seeObj_ref rfl rfl⟩ ?_)
  refine .sub (τ := ⟨l778 n, pre q 29 (iFile :: .dict false (dK 0) :: .dict true [] :: .list false [] :: led701 n O I [.fam (up1 0) fK1, .fam [] fNil]), []⟩) ?_ ?_
  · exact Sub.ledW (LedW.pre q 29 0 ⟨.inl rfl, .inr WO.dict, .inl rfl, .inr (WO.list .nil), LedW.refl _⟩)
  refine turns_seg n 0 (fun j => ⟨l778 n, pre q 29 (iFile :: .dict false (dK j) :: .dict true [] :: .list false [] :: led701 n O I [.fam (up1 j) fK1, .fam [] fNil]), []⟩) ?_ fun j hj => ?_
  · rw [Nat.zero_add]
    refine turns_seg n n (fun j => ⟨l778 n, pre q 29 (iFile :: .dict false (dK n) :: .dict true [] :: .list false (tL j) :: led701 n O I [.fam (up1 n) fK1, .fam [] fNil]), []⟩) ?_ fun j hj => ?_
    · refine .sub (τ := ⟨l778 n, pre q 29 (iFile :: .dict false (dK n) :: .dict true [] :: .list false (tL n) :: led701 n O I [.fam (up1 n) (fK2 0), .fam (up1 0) fNil]), []⟩) ?_ ?_
      · exact Sub.fam (t := 33) (o := []) (g := fK2 0) rfl rfl (fun k => Iff.rfl) fun k hk => by
          simp only [memOf, if_pos hk]
          obtain ⟨i, hi, rfl⟩ := mem_up1.mp hk
          show some (fK1 _) = some (SO.list true (if _ then _ else _))
          rw [if_neg (by omega)]; rfl
      refine turns_seg n (n + n) (fun j => ⟨l778 n, pre q 29 (iFile :: .dict false (dK n) :: .dict true [] :: .list false (tL n) :: led701 n O I [.fam (up1 n) (fK2 j), .fam (up1 j) fNil]), []⟩) ?_ fun j hj => ?_
      · refine .sub (τ := ⟨l778 n, led734 q n O I, []⟩) ?_ (.done (listVal_ref (l := foundL n) rfl (by rw [List.getElem?_eq_none_iff, found_len]; exact Nat.le_refl _)))
        exact Sub.fam (t := 33) (o := []) (g := fKF) rfl rfl (fun k => Iff.rfl) fun k hk => by
          simp only [memOf, if_pos hk]
          obtain ⟨i, hi, rfl⟩ := mem_up1.mp hk
          show some (SO.list true (if _ then _ else _)) = some (fKF _)
          rw [if_pos (by omega)]; rfl
      · refine turn_ex (v := .fam 41 ((j + 1 : Nat) : Int)) ?_ (listVal_ref (l := foundL n) rfl (found_ou hj)) (stepO734 q n O I j (.dict true []) (.list false (tL n))) ?_ (.inl rfl) ?_
        · exact Sub.focus (t := 33) rfl (in_up1 hj) (by show SO.list true (if _ then _ else _) = _; rw [if_neg (by omega)]; rfl)
        · rw [obsO734]
          exact ⟨in_up1 hj, in_up1 hj, notin_up1 j, by unfold dK; rw [rdict_len]; omega, look1 _ hj, rfl, rfl, trivial⟩
        · refine Sub.trans (Sub.drop (l778 n) [_]) (Sub.trans (Sub.grow (t := 33) (ks' := up1 n) (g := fK2 (j + 1)) rfl (fun k => Iff.rfl) ?_ fun k _ hk => ?_) (Sub.grow (t := 34) (ks' := up1 (j + 1)) (g := fNil) rfl (fun k => by rw [up1_succ]) rfl fun _ _ _ => rfl))
          · show _ = SO.list true (if _ then _ else _)
            rw [if_pos (by omega)]
          · show SO.list true (if _ then _ else _) = SO.list true (if _ then _ else _)
            by_cases q : k ≤ (j : Int)
            · rw [if_pos q, if_pos (by omega)]
            · rw [if_neg q, if_neg (by omega)]
    · refine turn_ex (v := .fam 40 (j : Int)) (Sub.orc _ _) (listVal_ref (l := foundL n) rfl (found_t hj)) (stepT734 q n O I j (.dict false (dK n)) (.dict true []) (.fam (up1 n) fK1) (.fam [] fNil)) ?_ (.inl rfl) ?_
      · rw [obsT734]; exact ⟨in_upTo hj, by unfold tL; rw [map_len]; omega, trivial⟩
      · show Sub _ _ _ (⟨_, pre q 29 (_ :: _ :: _ :: .list false (tL (j + 1)) :: _), _⟩ : St)
        unfold tL; rw [map_succ]
        exact Sub.drop (l778 n) [_]
  · refine turn_ex (v := .fam 37 ((j + 1 : Nat) : Int)) (Sub.orc _ _) (listVal_ref (l := foundL n) rfl (by rw [Nat.zero_add]; exact found_in hj)) (stepN734 q n O I j (.dict true []) (.fam [] fNil)) ?_ (.inl rfl) ?_
    · rw [obsN734]
      exact ⟨in_up1 hj, in_up1 hj, notin_up1 j, by unfold dK; rw [rdict_len]; omega, none1 j _, by unfold dK; rw [rdict_len]; omega, put1 j _, rfl, rfl, trivial⟩
    · refine Sub.trans (Sub.drop (l778 n) [_]) ?_
      exact Sub.grow (t := 33) (ks' := up1 (j + 1)) (g := fK1) rfl (fun k => by rw [up1_succ]) rfl fun _ _ _ => rfl
end
set_option tactic.hygienic false
open PySem PySem.W PySem.Calls PyProof.Rows PySem.SeqAt
noncomputable def s675 : Stmt := nthS f_wishes.body 1
noncomputable abbrev en708 : En := ⟨f_wishes.sc, []⟩
noncomputable abbrev en675 : En := en708
noncomputable abbrev l708 : Loc := [(nm "instrs", .ref 26), (nm "table", .ref 46)]
noncomputable def dW (j : Nat) : List (SV × SV) := rdict j ii (fun i => .fam 47 (i : Int))
noncomputable def aI (k : Int) : SV := .tup [.str (nm "a"), .int false k]
noncomputable def fW1 (k : Int) : SO := .list true [aI (k + 1)]
noncomputable def fW2 (I : Nat → Nat) (j : Nat) (k : Int) : SO := .list true (if I k.toNat < j then [aI (k + 1), aI (I k.toNat + 1)] else [aI (k + 1)])
noncomputable def fWF (I : Nat → Nat) (k : Int) : SO := .list true [aI (k + 1), aI (I k.toNat + 1)]
theorem stepG675 (q : Nat → SO) (j : Nat) (g : SO) :
    outOf (turnR 29 en675 (forTgt s675) (forBody s675) (gv j) ⟨l708, pre q 46 [.dict false (dW j), .fam (upTo j) fW1, g], [.home 47 j, .look none, .put (dW (j + 1))]⟩) =
    some (.next, { loc := [(nm "instrs", .ref 26), (nm "table", .ref 46), (nm "instruction", gv j), (nm "name", .str (nm "get_variable")), (nm "source", aK j), (nm "target", tK j)], led := pre q 46 [.dict false (dW (j + 1)), .ffam (upTo j ++ [(↑j : Int)]) fW1 (↑j : Int) (.list true [.tup [.str (nm "a"), ii (j + 1)]]), g], orc := [] }) := by kernel_rfl
theorem obsG675 (S : Fix) (q : Nat → SO) (j : Nat) (g : SO) :
    AllH S (obsOf (turnR 29 en675 (forTgt s675) (forBody s675) (gv j) ⟨l708, pre q 46 [.dict false (dW j), .fam (upTo j) fW1, g], [.home 47 j, .look none, .put (dW (j + 1))]⟩)) =
    ((((↑j : Int)) ∉ (upTo j)) ∧ ((((↑(dW j).length : Int)) : Int) ≤ (999)) ∧ LookOk (dW j) (ii j) (none) ∧ ((((↑(dW j).length : Int)) : Int) ≤ (999)) ∧ PutOk (dW j) (ii j) (.fam 47 (↑j : Int)) (dW (j + 1)) ∧ ((((↑j : Int)) : Int) = ((↑j : Int))) ∧ ((((↑j : Int)) : Int) = ((↑j : Int))) ∧ True) := by kernel_rfl
theorem stepP675 (q : Nat → SO) (n j : Nat) (O I : Nat → Nat) :
    outOf (turnR 29 en675 (forTgt s675) (forBody s675) (pv O j) ⟨l708, pre q 46 [.dict false (dW n), .ffam (upTo n) (fW2 I j) (O j) (fW1 (O j)), .fam (upTo j) fNil], [.home 48 j, .look (some (.fam 47 (O j)))]⟩) =
    some (.next, { loc := [(nm "instrs", .ref 26), (nm "table", .ref 46), (nm "instruction", pv O j), (nm "name", .str (nm "put_value")), (nm "target", aK j), (nm "source", tK (O j))], led := pre q 46 [.dict false (dW n), .ffam (upTo n) (fW2 I j) (↑(O j) : Int) (.list true [aI ((↑(O j) : Int) + 1), .tup [.str (nm "a"), ii (j + 1)]]), .ffam (upTo j ++ [(↑j : Int)]) fNil (↑j : Int) (.list true [])], orc := [] }) := by kernel_rfl
theorem obsP675 (S : Fix) (q : Nat → SO) (n j : Nat) (O I : Nat → Nat) :
    AllH S (obsOf (turnR 29 en675 (forTgt s675) (forBody s675) (pv O j) ⟨l708, pre q 46 [.dict false (dW n), .ffam (upTo n) (fW2 I j) (O j) (fW1 (O j)), .fam (upTo j) fNil], [.home 48 j, .look (some (.fam 47 (O j)))]⟩)) =
    ((((↑j : Int)) ∉ (upTo j)) ∧ ((((↑(dW n).length : Int)) : Int) ≤ (999)) ∧ LookOk (dW n) (ii (O j)) (some (.fam 47 (↑(O j) : Int))) ∧ ((((↑(O j) : Int)) : Int) = ((↑(O j) : Int))) ∧ ((((↑(O j) : Int)) : Int) = ((↑(O j) : Int))) ∧ True) := by kernel_rfl
theorem stepE675 (q : Nat → SO) (a b c : SO) :
    outOf (turnR 29 en675 (forTgt s675) (forBody s675) exI ⟨l708, pre q 46 [a, b, c], []⟩) =
    some (.cont, { loc := [(nm "instrs", .ref 26), (nm "table", .ref 46), (nm "instruction", exI), (nm "name", .str (nm "execute"))], led := pre q 46 [a, b, c], orc := [] }) := by kernel_rfl
theorem obsE675 (S : Fix) (q : Nat → SO) (a b c : SO) :
    AllH S (obsOf (turnR 29 en675 (forTgt s675) (forBody s675) exI ⟨l708, pre q 46 [a, b, c], []⟩)) =
    (True) := by kernel_rfl
noncomputable abbrev led708 (q : Nat → SO) (n : Nat) (I : Nat → Nat) : Led := pre q 46 [.dict false (dW n), .fam (upTo n) (fWF I), .fam (upTo n) fNil]
theorem stepF708 (q : Nat → SO) (n : Nat) (I : Nat → Nat) :
    outOf ((run Γ₀ 79).ex en708 f_wishes.body ⟨[(nm "instrs", .ref 26)], pre q 46 [], [.loop l708 (led708 q n I)]⟩) =
    some (.ret (.ref 46), { loc := l708, led := led708 q n I, orc := [] }) := by kernel_rfl
theorem obsF708 (S : Fix) (q : Nat → SO) (n : Nat) (I : Nat → Nat) :
    AllH S (obsOf ((run Γ₀ 79).ex en708 f_wishes.body ⟨[(nm "instrs", .ref 26)], pre q 46 [], [.loop l708 (led708 q n I)]⟩)) =
    (LoopOk S (30) en675 s675 ([(nm "instrs", .ref 26), (nm "table", .ref 46)]) (pre q 46 [.dict true []]) (l708) (led708 q n I) ∧ True) := by kernel_rfl
theorem s675_eq : s675 = .For (forTgt s675) (forIt s675) (forBody s675) [] (posOfS s675) := by kernel_rfl
theorem iter675 (F : Led) : (run Γ₀ 29).ev en675 (forIt s675) ⟨l708, F, []⟩ = some (.ref 26, ⟨l708, F, []⟩, []) := by kernel_rfl
section
variable {prog : Program} {w : World} {K : Frag} {mg mb : Str → Option Value}
theorem loop675 (V : Valid K mg mb Γ₀) (q : Nat → SO) {n : Nat} (hn : n ≤ 60) {O I : Nat → Nat} (h26 : q 26 = .list false (codeL n O)) (P : Inv n O I) :
    LoopOk (Sx prog w K mg mb) 30 en675 s675 l708 (pre q 46 [.dict true []]) l708 (led708 q n I) := by
  refine LoopOk.fam fW1 (LoopOk.fam fNil ?_)
  rw [s675_eq]
  have hl : ∀ (loc : Loc) (r : Led) (o : List Orc), (⟨loc, pre q 46 r, o⟩ : St).led[26]? = some (.list false (codeL n O)) := fun loc r o => by show some (q 26) = _; rw [h26]
  refine loopOk_for (n := 29) V (v := .ref 26) (oc := []) rfl (iter675 _) (fun _ h => nomatch h) (.list (n + (n + (1 + 0))) ⟨false, codeL n O, seeObj_ref (hl _ _ _) rfl⟩ ?_)
  refine .sub (τ := ⟨l708, pre q 46 [.dict false (dW 0), .fam (upTo 0) fW1, .fam [] fNil], []⟩) ?_ ?_
  · exact Sub.ledW (LedW.pre q 46 0 ⟨.inr WO.dict, .inl rfl, .inl rfl, trivial⟩)
  refine turns_seg n 0 (fun j => ⟨l708, pre q 46 [.dict false (dW j), .fam (upTo j) fW1, .fam [] fNil], []⟩) ?_ fun j hj => ?_
  · rw [Nat.zero_add]
    refine .sub (τ := ⟨l708, pre q 46 [.dict false (dW n), .fam (upTo n) (fW2 I 0), .fam (upTo 0) fNil], []⟩) ?_ ?_
    · exact Sub.fam (t := 47) (o := []) (g := fW2 I 0) rfl rfl (fun k => Iff.rfl) fun k hk => by
        simp only [memOf, if_pos hk]
        show some (fW1 k) = some (SO.list true (if _ then _ else _))
        rw [if_neg (by omega)]; rfl
    refine turns_seg n n (fun j => ⟨l708, pre q 46 [.dict false (dW n), .fam (upTo n) (fW2 I j), .fam (upTo j) fNil], []⟩) ?_ fun j hj => ?_
    · have fin : Sub (Sx prog w K mg mb) en675 ⟨l708, pre q 46 [.dict false (dW n), .fam (upTo n) (fW2 I n), .fam (upTo n) fNil], []⟩ ⟨l708, led708 q n I, []⟩ := by
        exact Sub.fam (t := 47) (o := []) (g := fWF I) rfl rfl (fun k => Iff.rfl) fun k hk => by
          simp only [memOf, if_pos hk]
          obtain ⟨i, hi, rfl⟩ := mem_upTo.mp hk
          show some (SO.list true (if _ then _ else _)) = some (fWF I _)
          rw [if_pos (by rw [Int.toNat_natCast]; exact P.ltI i hi)]; rfl
      exact turns_last (turn_ex (v := exI) (Sub.orc _ _) (listVal_ref (hl _ _ _) code_ex) (stepE675 q _ _ _) (by rw [obsE675]; trivial) (.inr rfl) (Sub.trans (Sub.drop l708 [_, _]) fin)) (listVal_ref (hl _ _ _) (by rw [List.getElem?_eq_none_iff, code_len]; exact Nat.le_refl _))
    · have hO := P.lt j hj
      refine turn_ex (v := pv O j) ?_ (listVal_ref (hl _ _ _) (code_pv hj)) (stepP675 q n j O I) ?_ (.inl rfl) ?_
      · exact Sub.focus (t := 47) rfl (in_upTo hO) (by show SO.list true (if _ then _ else _) = _; rw [Int.toNat_natCast, P.IO j hj, if_neg (by omega)]; rfl)
      · rw [obsP675]
        exact ⟨notin_upTo (Int.le_refl _), by unfold dW; rw [rdict_len]; omega, look0 _ hO, rfl, rfl, trivial⟩
      · refine Sub.trans (Sub.drop l708 [_, _, _, _]) (Sub.trans (Sub.grow (t := 47) (ks' := upTo n) (g := fW2 I (j + 1)) rfl (fun k => Iff.rfl) ?_ fun k hk hne => ?_) (Sub.grow (t := 48) (ks' := upTo (j + 1)) (g := fNil) rfl (fun k => by rw [upTo_succ]) rfl fun _ _ _ => rfl))
        · show _ = SO.list true (if _ then _ else _)
          rw [Int.toNat_natCast, P.IO j hj, if_pos (by omega)]; rfl
        · show SO.list true (if _ then _ else _) = SO.list true (if _ then _ else _)
          obtain ⟨i, hi, rfl⟩ := mem_upTo.mp hk
          rw [Int.toNat_natCast]
          have : I i ≠ j := fun e => hne (by rw [← e, P.OI i hi])
          by_cases q : I i < j
          · rw [if_pos q, if_pos (by omega)]
          · rw [if_neg q, if_neg (by omega)]
  · refine turn_ex (v := gv j) (Sub.orc _ _) (listVal_ref (hl _ _ _) (by rw [Nat.zero_add]; exact code_gv hj)) (stepG675 q j (.fam [] fNil)) ?_ (.inl rfl) ?_
    · rw [obsG675]
      exact ⟨notin_upTo (Int.le_refl _), by unfold dW; rw [rdict_len]; omega, none0 j _, by unfold dW; rw [rdict_len]; omega, put0 j _, rfl, rfl, trivial⟩
    · refine Sub.trans (Sub.drop l708 [_, _, _, _]) ?_
      exact Sub.grow (t := 47) (ks' := upTo (j + 1)) (g := fW1) rfl (fun k => by rw [upTo_succ]) rfl fun _ _ _ => rfl
theorem fn708 : lookN 708 Γ₀.fns = some f_wishes := by kernel_rfl
theorem za708 : zipArgs f_wishes.params [.ref 26] = some [(nm "instrs", .ref 26)] := by kernel_rfl
theorem call708 (V : Valid K mg mb Γ₀) (q : Nat → SO) {n : Nat} (hn : n ≤ 60) {O I : Nat → Nat} (h26 : q 26 = .list false (codeL n O)) (P : Inv n O I) : CallOk (Sx prog w K mg mb) 80 708 [.ref 26] (pre q 46 []) (.ref 46) (led708 q n I) :=
  callOk_run (n := 79) V fn708 za708 (stepF708 q n I) (obsF708 _ q n I) ⟨loop675 V q hn h26 P, trivial⟩
end
set_option tactic.hygienic false
open PySem PySem.W PySem.Calls PyProof.Rows PySem.SeqAt
noncomputable def ifThen : Stmt → List Stmt
  | .If _ b _ _ => b
  | _ => []
noncomputable def s718 : Stmt := nthS (ifThen (nthS f_rplace.body 1)) 1
noncomputable abbrev en718 : En := ⟨f_rplace.sc, []⟩
noncomputable def cB (I : Nat → Nat) : Nat → Nat
  | 0 => 0
  | k + 1 => if I k ≤ k then cB I k else cB I k + 1
noncomputable def hm (n : Nat) (I : Nat → Nat) (k : Nat) : Nat := if I k ≤ k then k + 1 else n + cB I k + 1
noncomputable def fK3 (I : Nat → Nat) (k : Nat) (m : Int) : SO := .list true (.fam 37 m :: .fam 41 m :: (if m ≤ k ∧ I (m.toNat - 1) ≤ m.toNat - 1 then [.fam 40 (m - 1)] else []))
noncomputable def fX (n : Nat) (I : Nat → Nat) : Nat → Int → SO
  | 0 => fun _ => .list true []
  | k + 1 => fun m => if I k ≤ k then fX n I k m else if m = ((n + cB I k + 1 : Nat) : Int) then .list true [.fam 40 k] else fX n I k m
noncomputable def ksX (n c : Nat) : List Int := (List.range c).map fun (i : Nat) => ((n + i + 1 : Nat) : Int)
noncomputable def vK (n : Nat) (i : Nat) : SV := if i < n then .fam 33 ((i + 1 : Nat) : Int) else .fam 52 ((i + 1 : Nat) : Int)
noncomputable def dK3 (n c : Nat) : List (SV × SV) := rdict (n + c) (fun i => ii (i + 1)) (vK n)
noncomputable def dH (n : Nat) (I : Nat → Nat) (k : Nat) : List (SV × SV) := rdict k ii (fun i => ii (hm n I i))
noncomputable abbrev l718 (k r : Nat) : Loc := [(nm "self", .ref 29), (nm "occupation", .fam 40 k), (nm "operands", .fam 47 k), (nm "register", ii (r + 1))]
noncomputable abbrev led718 (q : Nat → SO) (n : Nat) (I : Nat → Nat) (k : Nat) (X G : SO) (x : Nat → SO) : Led := pre q 29 [iFile, .dict false (dK3 n (cB I k)), x 31, x 32, .fam (up1 n) (fK3 I k), x 34, x 35, x 36, .fam (up1 n) fInF, x 38, x 39, .fam (upTo n) (fTF n I), .fam (up1 n) (fOuF n), x 42, x 43, x 44, x 45, x 46, x 47, x 48, x 49, x 50, x 51, X, x 53, G, x 55]
theorem stepA718 (q x : Nat → SO) (n k r g : Nat) (I : Nat → Nat) (X : SO) :
    outOf ((run Γ₀ 39).ts en718 (forTgt s718) ⟨l718 k r, led718 q n I k X (.fam (upTo g) fNil) x, [.home 54 g, .look (some (.fam 33 ((r + 1 : Nat) : Int))), .bit true, .bit true]⟩) =
    some (true, { loc := [(nm "self", .ref 29), (nm "occupation", .fam 40 (↑k : Int)), (nm "operands", .fam 47 (↑k : Int)), (nm "register", ii (r + 1))], led := pre q 29 [iFile, .dict false (dK3 n (cB I k)), x 31, x 32, .fam (up1 n) (fK3 I k), x 34, x 35, x 36, .fam (up1 n) fInF, x 38, x 39, .fam (upTo n) (fTF n I), .fam (up1 n) (fOuF n), x 42, x 43, x 44, x 45, x 46, x 47, x 48, x 49, x 50, x 51, X, x 53, .ffam (upTo g ++ [(↑g : Int)]) fNil (↑g : Int) (.list true []), x 55], orc := [] }) := by kernel_rfl
theorem obsA718 (S : Fix) (q x : Nat → SO) (n k r g : Nat) (I : Nat → Nat) (X : SO) :
    AllH S (obsOf ((run Γ₀ 39).ts en718 (forTgt s718) ⟨l718 k r, led718 q n I k X (.fam (upTo g) fNil) x, [.home 54 g, .look (some (.fam 33 ((r + 1 : Nat) : Int))), .bit true, .bit true]⟩)) =
    ((((↑g : Int)) ∉ (upTo g)) ∧ LookOk (dK3 n (cB I k)) (.int false (↑(r + 1) : Int)) (some (.fam 33 (↑(r + 1) : Int))) ∧ (((↑(r + 1) : Int)) ∈ (up1 n)) ∧ (((↑k : Int)) ∈ (upTo n)) ∧ (((↑k : Int)) ∈ (upTo n)) ∧ (((↑(r + 1) : Int)) ∈ (up1 n)) ∧ ((decide ((↑k : Int) < (↑(r + 1) : Int) - 1)) = (true)) ∧ (((↑(r + 1) : Int)) ∈ (up1 n)) ∧ (((↑k : Int)) ∈ (upTo n)) ∧ ((decide (-1 < (↑n : Int) + (↑(I (↑k : Int).toNat) : Int))) = (true)) ∧ True) := by kernel_rfl
theorem stepB718 (q x : Nat → SO) (n k r g : Nat) (I : Nat → Nat) (X : SO) :
    outOf ((run Γ₀ 39).ts en718 (forTgt s718) ⟨l718 k r, led718 q n I k X (.fam (upTo g) fNil) x, [.home 54 g, .look (some (.fam 33 ((r + 1 : Nat) : Int))), .bit false, .bit false, .bit true, .bit true]⟩) =
    some (true, { loc := [(nm "self", .ref 29), (nm "occupation", .fam 40 (↑k : Int)), (nm "operands", .fam 47 (↑k : Int)), (nm "register", ii (r + 1))], led := pre q 29 [iFile, .dict false (dK3 n (cB I k)), x 31, x 32, .fam (up1 n) (fK3 I k), x 34, x 35, x 36, .fam (up1 n) fInF, x 38, x 39, .fam (upTo n) (fTF n I), .fam (up1 n) (fOuF n), x 42, x 43, x 44, x 45, x 46, x 47, x 48, x 49, x 50, x 51, X, x 53, .ffam (upTo g ++ [(↑g : Int)]) fNil (↑g : Int) (.list true []), x 55], orc := [] }) := by kernel_rfl
theorem obsB718 (S : Fix) (q x : Nat → SO) (n k r g : Nat) (I : Nat → Nat) (X : SO) :
    AllH S (obsOf ((run Γ₀ 39).ts en718 (forTgt s718) ⟨l718 k r, led718 q n I k X (.fam (upTo g) fNil) x, [.home 54 g, .look (some (.fam 33 ((r + 1 : Nat) : Int))), .bit false, .bit false, .bit true, .bit true]⟩)) =
    ((((↑g : Int)) ∉ (upTo g)) ∧ LookOk (dK3 n (cB I k)) (.int false (↑(r + 1) : Int)) (some (.fam 33 (↑(r + 1) : Int))) ∧ (((↑(r + 1) : Int)) ∈ (up1 n)) ∧ (((↑k : Int)) ∈ (upTo n)) ∧ (((↑k : Int)) ∈ (upTo n)) ∧ (((↑(r + 1) : Int)) ∈ (up1 n)) ∧ ((decide ((↑k : Int) < (↑(r + 1) : Int) - 1)) = (false)) ∧ ((decide ((↑k : Int) < (↑(r + 1) : Int) - 1)) = (false)) ∧ (((↑(r + 1) : Int)) ∈ (up1 n)) ∧ (((↑k : Int)) ∈ (upTo n)) ∧ (((↑k : Int)) ∈ (upTo n)) ∧ (((↑(r + 1) : Int)) ∈ (up1 n)) ∧ ((decide ((↑k : Int) < (↑n : Int) + (↑n : Int))) = (true)) ∧ (((↑(r + 1) : Int)) ∈ (up1 n)) ∧ (((↑k : Int)) ∈ (upTo n)) ∧ ((decide ((↑n : Int) + (↑(r + 1) : Int) - 1 < (↑n : Int) + (↑(I (↑k : Int).toNat) : Int))) = (true)) ∧ True) := by kernel_rfl
theorem stepC718 (q x : Nat → SO) (n k r g k' : Nat) (I : Nat → Nat) (ks : List Int) (f : Int → SO) :
    outOf ((run Γ₀ 39).ts en718 (forTgt s718) ⟨l718 k r, led718 q n I k (.ffam ks f ((r + 1 : Nat) : Int) (.list true [.fam 40 k'])) (.fam (upTo g) fNil) x, [.home 54 g, .look (some (.fam 52 ((r + 1 : Nat) : Int))), .bit true, .bit true]⟩) =
    some (true, { loc := [(nm "self", .ref 29), (nm "occupation", .fam 40 (↑k : Int)), (nm "operands", .fam 47 (↑k : Int)), (nm "register", ii (r + 1))], led := pre q 29 [iFile, .dict false (dK3 n (cB I k)), x 31, x 32, .fam (up1 n) (fK3 I k), x 34, x 35, x 36, .fam (up1 n) fInF, x 38, x 39, .fam (upTo n) (fTF n I), .fam (up1 n) (fOuF n), x 42, x 43, x 44, x 45, x 46, x 47, x 48, x 49, x 50, x 51, .ffam ks f (↑(r + 1) : Int) (.list true [.fam 40 (↑k' : Int)]), x 53, .ffam (upTo g ++ [(↑g : Int)]) fNil (↑g : Int) (.list true []), x 55], orc := [] }) := by kernel_rfl
theorem obsC718 (S : Fix) (q x : Nat → SO) (n k r g k' : Nat) (I : Nat → Nat) (ks : List Int) (f : Int → SO) :
    AllH S (obsOf ((run Γ₀ 39).ts en718 (forTgt s718) ⟨l718 k r, led718 q n I k (.ffam ks f ((r + 1 : Nat) : Int) (.list true [.fam 40 k'])) (.fam (upTo g) fNil) x, [.home 54 g, .look (some (.fam 52 ((r + 1 : Nat) : Int))), .bit true, .bit true]⟩)) =
    ((((↑g : Int)) ∉ (upTo g)) ∧ LookOk (dK3 n (cB I k)) (.int false (↑(r + 1) : Int)) (some (.fam 52 (↑(r + 1) : Int))) ∧ ((((↑(r + 1) : Int)) : Int) = ((↑(r + 1) : Int))) ∧ (((↑k : Int)) ∈ (upTo n)) ∧ (((↑k : Int)) ∈ (upTo n)) ∧ (((↑k' : Int)) ∈ (upTo n)) ∧ ((decide ((↑k : Int) < (↑n : Int) + (↑(I (↑k' : Int).toNat) : Int))) = (true)) ∧ (((↑k' : Int)) ∈ (upTo n)) ∧ (((↑k : Int)) ∈ (upTo n)) ∧ ((decide ((↑k' : Int) < (↑n : Int) + (↑(I (↑k : Int).toNat) : Int))) = (true)) ∧ True) := by kernel_rfl
theorem stepD718 (q x : Nat → SO) (n k r g : Nat) (I : Nat → Nat) (X : SO) :
    outOf ((run Γ₀ 39).ts en718 (forTgt s718) ⟨l718 k r, led718 q n I k X (.fam (upTo g) fNil) x, [.home 54 g, .look none]⟩) =
    some (false, { loc := [(nm "self", .ref 29), (nm "occupation", .fam 40 (↑k : Int)), (nm "operands", .fam 47 (↑k : Int)), (nm "register", ii (r + 1))], led := pre q 29 [iFile, .dict false (dK3 n (cB I k)), x 31, x 32, .fam (up1 n) (fK3 I k), x 34, x 35, x 36, .fam (up1 n) fInF, x 38, x 39, .fam (upTo n) (fTF n I), .fam (up1 n) (fOuF n), x 42, x 43, x 44, x 45, x 46, x 47, x 48, x 49, x 50, x 51, X, x 53, .ffam (upTo g ++ [(↑g : Int)]) fNil (↑g : Int) (.list true []), x 55], orc := [] }) := by kernel_rfl
theorem obsD718 (S : Fix) (q x : Nat → SO) (n k r g : Nat) (I : Nat → Nat) (X : SO) :
    AllH S (obsOf ((run Γ₀ 39).ts en718 (forTgt s718) ⟨l718 k r, led718 q n I k X (.fam (upTo g) fNil) x, [.home 54 g, .look none]⟩)) =
    ((((↑g : Int)) ∉ (upTo g)) ∧ LookOk (dK3 n (cB I k)) (.int false (↑(r + 1) : Int)) (none) ∧ ((((↑g : Int)) : Int) = ((↑g : Int))) ∧ True) := by kernel_rfl
theorem stepL718 (l : Led) (k r : Nat) :
    outOf ((run Γ₀ 39).ex en718 (forBody s718) ⟨l718 k r, l, []⟩) =
    some (.next, { loc := [(nm "self", .ref 29), (nm "occupation", .fam 40 (↑k : Int)), (nm "operands", .fam 47 (↑k : Int)), (nm "register", .int false ((↑(r + 1) : Int) + 1))], led := l, orc := [] }) := by kernel_rfl
theorem obsL718 (S : Fix) (l : Led) (k r : Nat) :
    AllH S (obsOf ((run Γ₀ 39).ex en718 (forBody s718) ⟨l718 k r, l, []⟩)) =
    (True) := by kernel_rfl
theorem s718_eq : s718 = .While (forTgt s718) (forBody s718) [] (posOfS s718) := by kernel_rfl
theorem cB_le (I : Nat → Nat) (k : Nat) : cB I k ≤ k := by
  induction k with
  | zero => exact Nat.le_refl _
  | succ k ih => unfold cB; split <;> omega
theorem lookK3 {n c r : Nat} (h : r < n + c) : LookOk (dK3 n c) (ii (r + 1)) (some (vK n r)) := look1 _ h
theorem vK_lt {n r : Nat} (h : r < n) : vK n r = .fam 33 ((r + 1 : Nat) : Int) := if_pos h
theorem vK_ge {n r : Nat} (h : n ≤ r) : vK n r = .fam 52 ((r + 1 : Nat) : Int) := if_neg (by omega)
theorem in_ksX {n c r : Nat} (h1 : n ≤ r) (h2 : r < n + c) : ((r + 1 : Nat) : Int) ∈ ksX n c := by
  unfold ksX
  exact List.mem_map.mpr ⟨r - n, List.mem_range.mpr (by omega), by rw [show n + (r - n) + 1 = r + 1 by omega]⟩
theorem mem_ksX {n c : Nat} {k : Int} (h : k ∈ ksX n c) : ∃ i, i < c ∧ k = ((n + i + 1 : Nat) : Int) := by
  unfold ksX at h
  obtain ⟨i, hi, e⟩ := List.mem_map.mp h
  exact ⟨i, List.mem_range.mp hi, e.symm⟩
theorem fX_at (n : Nat) (I : Nat → Nat) : ∀ (k : Nat) (i : Nat), i < cB I k → ∃ k', k' < k ∧ fX n I k ((n + i + 1 : Nat) : Int) = .list true [.fam 40 (k' : Int)]
  | 0, i, h => by simp [cB] at h
  | k + 1, i, h => by
    unfold cB at h
    unfold fX
    by_cases q : I k ≤ k
    · rw [if_pos q] at h
      obtain ⟨k', h1, h2⟩ := fX_at n I k i h
      exact ⟨k', by omega, by rw [if_pos q]; exact h2⟩
    · rw [if_neg q] at h
      by_cases e : i = cB I k
      · subst e
        exact ⟨k, by omega, by rw [if_neg q, if_pos rfl]⟩
      · obtain ⟨k', h1, h2⟩ := fX_at n I k i (by omega)
        exact ⟨k', by omega, by rw [if_neg q, if_neg (by omega)]; exact h2⟩
section
variable {prog : Program} {w : World} {K : Frag} {mg mb : Str → Option Value}
theorem loop718 (V : Valid K mg mb Γ₀) (q x : Nat → SO) {n k g : Nat} {O I : Nat → Nat} (hn : n ≤ 60) (P : Inv n O I) (hk : k < n) (hB : k < I k) :
    LoopOk (Sx prog w K mg mb) 40 en718 s718 [(nm "self", .ref 29), (nm "occupation", .fam 40 k), (nm "operands", .fam 47 k), (nm "register", .int true 1)] (led718 q n I k (.fam (ksX n (cB I k)) (fX n I k)) (.fam (upTo g) fNil) x)
      (l718 k (n + cB I k)) (led718 q n I k (.fam (ksX n (cB I k)) (fX n I k)) (.ffam (upTo (g + (n + cB I k)) ++ [((g + (n + cB I k) : Nat) : Int)]) fNil ((g + (n + cB I k) : Nat) : Int) (.list true [])) x) := by
  rw [s718_eq]
  refine loopOk_while (n := 39) (o0 := []) (oc := []) (nn := n + cB I k) V ?_
  refine .sub (τ := ⟨l718 k 0, led718 q n I k (.fam (ksX n (cB I k)) (fX n I k)) (.fam (upTo (g + 0)) fNil) x, []⟩) (Sub.locW (loc' := l718 k 0) (o' := []) ⟨⟨_, by kernel_rfl, .refl _⟩, ⟨_, by kernel_rfl, .refl _⟩, ⟨_, by kernel_rfl, .refl _⟩, ⟨.int true 1, by kernel_rfl, .int _ _ _⟩, trivial⟩) ?_
  have hin := in_upTo hk
  refine wturns_gen (n + cB I k) (fun r => ⟨l718 k r, led718 q n I k (.fam (ksX n (cB I k)) (fX n I k)) (.fam (upTo (g + r)) fNil) x, []⟩) _ _ (Sub.orc _ _) (stepD718 q x n k (n + cB I k) _ I _) ?_ fun r hr => ?_
  · rw [obsD718]; exact ⟨notin_upTo (Int.le_refl _), none1 _ _, rfl, trivial⟩
  have fin : Sub (Sx prog w K mg mb) en718 ⟨l718 k (r + 1), led718 q n I k (.fam (ksX n (cB I k)) (fX n I k)) (.ffam (upTo (g + r) ++ [((g + r : Nat) : Int)]) fNil ((g + r : Nat) : Int) (.list true [])) x, []⟩ ⟨l718 k (r + 1), led718 q n I k (.fam (ksX n (cB I k)) (fX n I k)) (.fam (upTo (g + (r + 1))) fNil) x, []⟩ :=
    Sub.grow (t := 54) (ks' := upTo (g + (r + 1))) (g := fNil) rfl (fun k => by rw [← Nat.add_assoc, upTo_succ]) rfl fun _ _ _ => rfl
  by_cases h1 : r < n
  · have lk : LookOk (dK3 n (cB I k)) (ii (r + 1)) (some (.fam 33 ((r + 1 : Nat) : Int))) := by rw [← vK_lt h1]; exact lookK3 (by omega)
    have hm := in_up1 h1
    by_cases h2 : k < r
    · refine ⟨_, _, _, .next, Sub.orc _ _, stepA718 q x n k r (g + r) I _, ?_, stepL718 _ k r, by rw [obsL718]; trivial, .inl rfl, fin⟩
      rw [obsA718]
      exact ⟨notin_upTo (Int.le_refl _), lk, hm, hin, hin, hm, decide_eq_true (by omega), hm, hin, decide_eq_true (by omega), trivial⟩
    · refine ⟨_, _, _, .next, Sub.orc _ _, stepB718 q x n k r (g + r) I _, ?_, stepL718 _ k r, by rw [obsL718]; trivial, .inl rfl, fin⟩
      rw [obsB718]
      exact ⟨notin_upTo (Int.le_refl _), lk, hm, hin, hin, hm, decide_eq_false (by omega), decide_eq_false (by omega), hm, hin, hin, hm, decide_eq_true (by omega), hm, hin, decide_eq_true (by rw [Int.toNat_natCast]; omega), trivial⟩
  · obtain ⟨k', hk', e⟩ := fX_at n I k (r - n) (by omega)
    rw [show n + (r - n) + 1 = r + 1 by omega] at e
    have hin' := in_upTo (show k' < n by omega)
    have lk : LookOk (dK3 n (cB I k)) (ii (r + 1)) (some (.fam 52 ((r + 1 : Nat) : Int))) := by rw [← vK_ge (by omega : n ≤ r)]; exact lookK3 (by omega)
    refine ⟨_, _, _, .next, ?_, stepC718 q x n k r (g + r) k' I (ksX n (cB I k)) (fX n I k), ?_, stepL718 _ k r, by rw [obsL718]; trivial, .inl rfl, ?_⟩
    · exact Sub.focus (t := 52) rfl (in_ksX (by omega) (by omega)) e
    · rw [obsC718]
      exact ⟨notin_upTo (Int.le_refl _), lk, rfl, hin, hin, hin', decide_eq_true (by omega), hin', hin, decide_eq_true (by omega), trivial⟩
    · refine Sub.trans (Sub.grow (t := 52) (ks' := ksX n (cB I k)) (g := fX n I k) rfl (fun k => Iff.rfl) e.symm fun _ _ _ => rfl) fin
end
set_option tactic.hygienic false
open PySem PySem.W PySem.Calls PyProof.Rows PySem.SeqAt
noncomputable def s740 : Stmt := nthS f_allocate.body 4
noncomputable abbrev en740 : En := en778
noncomputable abbrev l740 (n : Nat) : Loc := [(nm "symbols", .ref 4), (nm "instrs", .ref 26), (nm "arity", ii n), (nm "limit", .int true 60), (nm "file", .ref 29), (nm "temporaries", .ref 32), (nm "wanted", .ref 46)]
noncomputable abbrev led740 (q x : Nat → SO) (n : Nat) (I : Nat → Nat) (c k : Nat) (K a49 a50 a51 a52 a53 a54 : SO) : Led := pre q 29 [iFile, .dict false (dK3 n c), .dict false (dH n I k), x 32, K, x 34, x 35, x 36, .fam (up1 n) fInF, x 38, x 39, .fam (upTo n) (fTF n I), .fam (up1 n) (fOuF n), x 42, x 43, x 44, x 45, .dict false (dW n), .fam (upTo n) (fWF I), x 48, a49, a50, a51, a52, a53, a54, .list false (tL n)]
noncomputable abbrev grownN (ks : List Int) (k : Int) : SO := .ffam (ks ++ [k]) fNil k (.list true [])
theorem stepA740 (q x : Nat → SO) (n k : Nat) (I : Nat → Nat) (ks : List Int) (X B G : SO) :
    outOf (turnR 59 en740 (forTgt s740) (forBody s740) (.fam 40 k) ⟨l740 n, led740 q x n I (cB I k) k (.ffam (up1 n) (fK3 I k) ((k + 1 : Nat) : Int) (.list true [.fam 37 ((k + 1 : Nat) : Int), .fam 41 ((k + 1 : Nat) : Int)])) (.fam (upTo k) fNil) (.fam (upTo k) fNil) (.fam ks fNil) X B G,
  [.home 49 k, .look (some (.fam 47 k)), .bit true, .home 50 k, .look (some (.fam 33 ((k + 1 : Nat) : Int))), .bit false, .bit false, .bit true, .bit false, .bit false, .home 51 k, .look (some (.fam 33 ((k + 1 : Nat) : Int))), .put (dH n I (k + 1))]⟩) =
    some (.next, { loc := [(nm "symbols", .ref 4), (nm "instrs", .ref 26), (nm "arity", ii n), (nm "limit", .int true 60), (nm "file", .ref 29), (nm "temporaries", .ref 32), (nm "wanted", .ref 46), (nm "taken", .fam 40 (↑k : Int))], led := pre q 29 [iFile, .dict false (dK3 n (cB I k)), .dict false (dH n I (k + 1)), x 32, .ffam (up1 n) (fK3 I k) (↑(k + 1) : Int) (.list true [.fam 37 (↑(k + 1) : Int), .fam 41 (↑(k + 1) : Int), .fam 40 (↑k : Int)]), x 34, x 35, x 36, .fam (up1 n) fInF, x 38, x 39, .fam (upTo n) (fTF n I), .fam (up1 n) (fOuF n), x 42, x 43, x 44, x 45, .dict false (dW n), .fam (upTo n) (fWF I), x 48, .ffam (upTo k ++ [(↑k : Int)]) fNil (↑k : Int) (.list true []), .ffam (upTo k ++ [(↑k : Int)]) fNil (↑k : Int) (.list true []), .ffam (ks ++ [(↑k : Int)]) fNil (↑k : Int) (.list true []), X, B, G, .list false (tL n)], orc := [] }) := by kernel_rfl
theorem obsA740 (S : Fix) (q x : Nat → SO) (n k : Nat) (I : Nat → Nat) (ks : List Int) (X B G : SO) :
    AllH S (obsOf (turnR 59 en740 (forTgt s740) (forBody s740) (.fam 40 k) ⟨l740 n, led740 q x n I (cB I k) k (.ffam (up1 n) (fK3 I k) ((k + 1 : Nat) : Int) (.list true [.fam 37 ((k + 1 : Nat) : Int), .fam 41 ((k + 1 : Nat) : Int)])) (.fam (upTo k) fNil) (.fam (upTo k) fNil) (.fam ks fNil) X B G,
  [.home 49 k, .look (some (.fam 47 k)), .bit true, .home 50 k, .look (some (.fam 33 ((k + 1 : Nat) : Int))), .bit false, .bit false, .bit true, .bit false, .bit false, .home 51 k, .look (some (.fam 33 ((k + 1 : Nat) : Int))), .put (dH n I (k + 1))]⟩)) =
    ((((↑k : Int)) ∈ (upTo n)) ∧ (((↑k : Int)) ∉ (upTo k)) ∧ LookOk (dW n) (.int false (↑k : Int)) (some (.fam 47 (↑k : Int))) ∧ (((↑k : Int)) ∈ (upTo n)) ∧ ((decide ((↑k : Int) + 1 > 0)) = (true)) ∧ (((↑k : Int)) ∉ (upTo k)) ∧ LookOk (dK3 n (cB I k)) (.int false ((↑k : Int) + 1)) (some (.fam 33 (↑(k + 1) : Int))) ∧ ((((↑(k + 1) : Int)) : Int) = ((↑(k + 1) : Int))) ∧ (((↑k : Int)) ∈ (upTo n)) ∧ (((↑k : Int)) ∈ (upTo n)) ∧ (((↑(k + 1) : Int)) ∈ (up1 n)) ∧ ((decide ((↑k : Int) < (↑(k + 1) : Int) - 1)) = (false)) ∧ ((decide ((↑k : Int) < (↑(k + 1) : Int) - 1)) = (false)) ∧ ((((↑(k + 1) : Int)) : Int) = ((↑(k + 1) : Int))) ∧ (((↑k : Int)) ∈ (upTo n)) ∧ (((↑k : Int)) ∈ (upTo n)) ∧ (((↑(k + 1) : Int)) ∈ (up1 n)) ∧ ((decide ((↑k : Int) < (↑n : Int) + (↑n : Int))) = (true)) ∧ (((↑(k + 1) : Int)) ∈ (up1 n)) ∧ (((↑k : Int)) ∈ (upTo n)) ∧ ((decide ((↑n : Int) + (↑(k + 1) : Int) - 1 < (↑n : Int) + (↑(I (↑k : Int).toNat) : Int))) = (false)) ∧ ((((↑(k + 1) : Int)) : Int) = ((↑(k + 1) : Int))) ∧ ((decide ((↑k : Int) + 1 = 0)) = (false)) ∧ (((↑k : Int)) ∉ (ks)) ∧ ((((↑(dK3 n (cB I k)).length : Int)) : Int) ≤ (999)) ∧ LookOk (dK3 n (cB I k)) (.int false ((↑k : Int) + 1)) (some (.fam 33 (↑(k + 1) : Int))) ∧ ((((↑(k + 1) : Int)) : Int) = ((↑(k + 1) : Int))) ∧ ((((↑(k + 1) : Int)) : Int) = ((↑(k + 1) : Int))) ∧ (((↑k : Int)) ∈ (upTo n)) ∧ ((((↑(dH n I k).length : Int)) : Int) ≤ (999)) ∧ PutOk (dH n I k) (.int false (↑k : Int)) (.int false ((↑k : Int) + 1)) (dH n I (k + 1)) ∧ True) := by kernel_rfl
theorem stepB740 (q x : Nat → SO) (n k g : Nat) (I : Nat → Nat) (ks : List Int) (A : SO) :
    outOf (turnR 59 en740 (forTgt s740) (forBody s740) (.fam 40 k) ⟨l740 n, led740 q x n I (cB I k) k (.fam (up1 n) (fK3 I k)) (.fam (upTo k) fNil) (.fam (upTo k) fNil) A (.fam (ksX n (cB I k)) (fX n I k)) (.fam ks fNil) (.fam (upTo g) fNil),
  [.home 49 k, .look (some (.fam 47 k)), .bit true, .home 50 k, .look (some (.fam 33 ((k + 1 : Nat) : Int))), .bit false, .bit false, .bit true, .bit true, .bit true, .home 53 k, .look (some (.fam 33 ((I k + 1 : Nat) : Int))), .bit true, .bit true,
   .loop (l718 k (n + cB I k)) (led740 q x n I (cB I k) k (.fam (up1 n) (fK3 I k)) (grownN (upTo k) k) (grownN (upTo k) k) A (.fam (ksX n (cB I k)) (fX n I k)) (grownN ks k) (grownN (upTo (g + (n + cB I k))) ((g + (n + cB I k) : Nat) : Int))),
   .home 52 ((n + cB I k + 1 : Nat) : Int), .look none, .put (dK3 n (cB I k + 1)), .put (dH n I (k + 1))]⟩) =
    some (.next, { loc := [(nm "symbols", .ref 4), (nm "instrs", .ref 26), (nm "arity", ii n), (nm "limit", .int true 60), (nm "file", .ref 29), (nm "temporaries", .ref 32), (nm "wanted", .ref 46), (nm "taken", .fam 40 (↑k : Int))], led := pre q 29 [iFile, .dict false (dK3 n (cB I k + 1)), .dict false (dH n I (k + 1)), x 32, .fam (up1 n) (fK3 I k), x 34, x 35, x 36, .fam (up1 n) fInF, x 38, x 39, .fam (upTo n) (fTF n I), .fam (up1 n) (fOuF n), x 42, x 43, x 44, x 45, .dict false (dW n), .fam (upTo n) (fWF I), x 48, grownN (upTo k) (↑k : Int), grownN (upTo k) (↑k : Int), A, .ffam (ksX n (cB I k) ++ [(↑(n + cB I k + 1) : Int)]) (fX n I k) (↑(n + cB I k + 1) : Int) (.list true [.fam 40 (↑k : Int)]), grownN ks (↑k : Int), grownN (upTo (g + (n + cB I k))) (↑(g + (n + cB I k)) : Int), .list false (tL n)], orc := [] }) := by kernel_rfl
theorem obsB740 (S : Fix) (q x : Nat → SO) (n k g : Nat) (I : Nat → Nat) (ks : List Int) (A : SO) :
    AllH S (obsOf (turnR 59 en740 (forTgt s740) (forBody s740) (.fam 40 k) ⟨l740 n, led740 q x n I (cB I k) k (.fam (up1 n) (fK3 I k)) (.fam (upTo k) fNil) (.fam (upTo k) fNil) A (.fam (ksX n (cB I k)) (fX n I k)) (.fam ks fNil) (.fam (upTo g) fNil),
  [.home 49 k, .look (some (.fam 47 k)), .bit true, .home 50 k, .look (some (.fam 33 ((k + 1 : Nat) : Int))), .bit false, .bit false, .bit true, .bit true, .bit true, .home 53 k, .look (some (.fam 33 ((I k + 1 : Nat) : Int))), .bit true, .bit true,
   .loop (l718 k (n + cB I k)) (led740 q x n I (cB I k) k (.fam (up1 n) (fK3 I k)) (grownN (upTo k) k) (grownN (upTo k) k) A (.fam (ksX n (cB I k)) (fX n I k)) (grownN ks k) (grownN (upTo (g + (n + cB I k))) ((g + (n + cB I k) : Nat) : Int))),
   .home 52 ((n + cB I k + 1 : Nat) : Int), .look none, .put (dK3 n (cB I k + 1)), .put (dH n I (k + 1))]⟩)) =
    ((((↑k : Int)) ∈ (upTo n)) ∧ (((↑k : Int)) ∉ (upTo k)) ∧ LookOk (dW n) (.int false (↑k : Int)) (some (.fam 47 (↑k : Int))) ∧ (((↑k : Int)) ∈ (upTo n)) ∧ ((decide ((↑k : Int) + 1 > 0)) = (true)) ∧ (((↑k : Int)) ∉ (upTo k)) ∧ LookOk (dK3 n (cB I k)) (.int false ((↑k : Int) + 1)) (some (.fam 33 (↑(k + 1) : Int))) ∧ (((↑(k + 1) : Int)) ∈ (up1 n)) ∧ (((↑k : Int)) ∈ (upTo n)) ∧ (((↑k : Int)) ∈ (upTo n)) ∧ (((↑(k + 1) : Int)) ∈ (up1 n)) ∧ ((decide ((↑k : Int) < (↑(k + 1) : Int) - 1)) = (false)) ∧ ((decide ((↑k : Int) < (↑(k + 1) : Int) - 1)) = (false)) ∧ (((↑(k + 1) : Int)) ∈ (up1 n)) ∧ (((↑k : Int)) ∈ (upTo n)) ∧ (((↑k : Int)) ∈ (upTo n)) ∧ (((↑(k + 1) : Int)) ∈ (up1 n)) ∧ ((decide ((↑k : Int) < (↑n : Int) + (↑n : Int))) = (true)) ∧ (((↑(k + 1) : Int)) ∈ (up1 n)) ∧ (((↑k : Int)) ∈ (upTo n)) ∧ ((decide ((↑n : Int) + (↑(k + 1) : Int) - 1 < (↑n : Int) + (↑(I (↑k : Int).toNat) : Int))) = (true)) ∧ (((↑k : Int)) ∈ (upTo n)) ∧ ((decide ((↑(I (↑k : Int).toNat) : Int) + 1 > 0)) = (true)) ∧ (((↑k : Int)) ∉ (ks)) ∧ LookOk (dK3 n (cB I k)) (.int false ((↑(I (↑k : Int).toNat) : Int) + 1)) (some (.fam 33 (↑(I k + 1) : Int))) ∧ (((↑(I k + 1) : Int)) ∈ (up1 n)) ∧ (((↑k : Int)) ∈ (upTo n)) ∧ (((↑k : Int)) ∈ (upTo n)) ∧ (((↑(I k + 1) : Int)) ∈ (up1 n)) ∧ ((decide ((↑k : Int) < (↑(I k + 1) : Int) - 1)) = (true)) ∧ (((↑(I k + 1) : Int)) ∈ (up1 n)) ∧ (((↑k : Int)) ∈ (upTo n)) ∧ ((decide (-1 < (↑n : Int) + (↑(I (↑k : Int).toNat) : Int))) = (true)) ∧ (((↑k : Int)) ∈ (upTo n)) ∧ LoopOk S (40) en718 s718 ([(nm "self", .ref 29), (nm "occupation", .fam 40 (↑k : Int)), (nm "operands", .fam 47 (↑k : Int)), (nm "register", .int true 1)]) (pre q 29 [iFile, .dict false (dK3 n (cB I k)), .dict false (dH n I k), x 32, .fam (up1 n) (fK3 I k), x 34, x 35, x 36, .fam (up1 n) fInF, x 38, x 39, .fam (upTo n) (fTF n I), .fam (up1 n) (fOuF n), x 42, x 43, x 44, x 45, .dict false (dW n), .fam (upTo n) (fWF I), x 48, .ffam (upTo k ++ [(↑k : Int)]) fNil (↑k : Int) (.list true []), .ffam (upTo k ++ [(↑k : Int)]) fNil (↑k : Int) (.list true []), A, .fam (ksX n (cB I k)) (fX n I k), .ffam (ks ++ [(↑k : Int)]) fNil (↑k : Int) (.list true []), .fam (upTo g) fNil, .list false (tL n)]) (l718 k (n + cB I k)) (led740 q x n I (cB I k) k (.fam (up1 n) (fK3 I k)) (grownN (upTo k) (↑k : Int)) (grownN (upTo k) (↑k : Int)) A (.fam (ksX n (cB I k)) (fX n I k)) (grownN ks (↑k : Int)) (grownN (upTo (g + (n + cB I k))) (↑(g + (n + cB I k)) : Int))) ∧ (((↑(n + cB I k + 1) : Int)) ∉ (ksX n (cB I k))) ∧ ((((↑(dK3 n (cB I k)).length : Int)) : Int) ≤ (999)) ∧ LookOk (dK3 n (cB I k)) (.int false (↑(n + cB I k + 1) : Int)) (none) ∧ ((((↑(dK3 n (cB I k)).length : Int)) : Int) ≤ (999)) ∧ PutOk (dK3 n (cB I k)) (.int false (↑(n + cB I k + 1) : Int)) (.fam 52 (↑(n + cB I k + 1) : Int)) (dK3 n (cB I k + 1)) ∧ ((((↑(n + cB I k + 1) : Int)) : Int) = ((↑(n + cB I k + 1) : Int))) ∧ ((((↑(n + cB I k + 1) : Int)) : Int) = ((↑(n + cB I k + 1) : Int))) ∧ (((↑k : Int)) ∈ (upTo n)) ∧ ((((↑(dH n I k).length : Int)) : Int) ≤ (999)) ∧ PutOk (dH n I k) (.int false (↑k : Int)) (.int false (↑(n + cB I k + 1) : Int)) (dH n I (k + 1)) ∧ True) := by kernel_rfl
noncomputable def q0 (q : Nat → SO) (i : Nat) : SO := match i with
  | 0 => .tab false
  | i + 1 => q (i + 1)
noncomputable abbrev led740s (q x : Nat → SO) (n : Nat) (I : Nat → Nat) (a49 a50 a51 a52 a53 a54 : SO) (r : Led) : Led := pre q 29 (iFile :: .dict false (dK n) :: .dict true [] :: x 32 :: .fam (up1 n) fKF :: x 34 :: x 35 :: x 36 :: .fam (up1 n) fInF :: x 38 :: x 39 :: .fam (upTo n) (fTF n I) :: .fam (up1 n) (fOuF n) :: x 42 :: x 43 :: x 44 :: x 45 :: .dict false (dW n) :: .fam (upTo n) (fWF I) :: x 48 :: a49 :: a50 :: a51 :: a52 :: a53 :: a54 :: r)
theorem stepI740 (q x : Nat → SO) (n : Nat) (I : Nat → Nat) (a49 a50 a51 a52 a53 a54 : SO) :
    outOf ((run Γ₀ 59).ev en740 (forIt s740) ⟨l740 n, led740s q x n I a49 a50 a51 a52 a53 a54 [], [.call (.ref 55) (led740s (q0 q) x n I a49 a50 a51 a52 a53 a54 [.list false (tL n)])]⟩) =
    some (.ref 55, { loc := [(nm "symbols", .ref 4), (nm "instrs", .ref 26), (nm "arity", ii n), (nm "limit", .int true 60), (nm "file", .ref 29), (nm "temporaries", .ref 32), (nm "wanted", .ref 46)], led := led740s (q0 q) x n I a49 a50 a51 a52 a53 a54 [.list false (tL n)], orc := [] }) := by kernel_rfl
theorem obsI740 (S : Fix) (q x : Nat → SO) (n : Nat) (I : Nat → Nat) (a49 a50 a51 a52 a53 a54 : SO) :
    AllH S (obsOf ((run Γ₀ 59).ev en740 (forIt s740) ⟨l740 n, led740s q x n I a49 a50 a51 a52 a53 a54 [], [.call (.ref 55) (led740s (q0 q) x n I a49 a50 a51 a52 a53 a54 [.list false (tL n)])]⟩)) =
    (CallOk S (8) (764) ([.ref 32]) (pre q 29 [iFile, .dict false (dK n), .dict true [], x 32, .fam (up1 n) fKF, x 34, x 35, x 36, .fam (up1 n) fInF, x 38, x 39, .fam (upTo n) (fTF n I), .fam (up1 n) (fOuF n), x 42, x 43, x 44, x 45, .dict false (dW n), .fam (upTo n) (fWF I), x 48, a49, a50, a51, a52, a53, a54]) (.ref 55) (led740s (q0 q) x n I a49 a50 a51 a52 a53 a54 [.list false (tL n)]) ∧ True) := by kernel_rfl
theorem s740_eq : s740 = .For (forTgt s740) (forIt s740) (forBody s740) [] (posOfS s740) := by kernel_rfl
noncomputable def ksA (I : Nat → Nat) : Nat → List Int
  | 0 => []
  | k + 1 => if I k ≤ k then ksA I k ++ [(k : Int)] else ksA I k
noncomputable def ksB (I : Nat → Nat) : Nat → List Int
  | 0 => []
  | k + 1 => if I k ≤ k then ksB I k else ksB I k ++ [(k : Int)]
noncomputable def gC (n : Nat) (I : Nat → Nat) : Nat → Nat
  | 0 => 0
  | k + 1 => if I k ≤ k then gC n I k else gC n I k + (n + cB I k) + 1
theorem ksA_lt (I : Nat → Nat) : ∀ (k : Nat) (i : Int), i ∈ ksA I k → i < k
  | 0, i, h => nomatch h
  | k + 1, i, h => by
    unfold ksA at h
    split at h
    · rcases List.mem_append.mp h with h | h
      · have := ksA_lt I k i h; omega
      · rw [List.mem_singleton.mp h]; omega
    · have := ksA_lt I k i h; omega
theorem ksB_lt (I : Nat → Nat) : ∀ (k : Nat) (i : Int), i ∈ ksB I k → i < k
  | 0, i, h => nomatch h
  | k + 1, i, h => by
    unfold ksB at h
    split at h
    · have := ksB_lt I k i h; omega
    · rcases List.mem_append.mp h with h | h
      · have := ksB_lt I k i h; omega
      · rw [List.mem_singleton.mp h]; omega
theorem ksX_succ (n c : Nat) : ksX n (c + 1) = ksX n c ++ [((n + c + 1 : Nat) : Int)] := by unfold ksX; exact map_succ _ _
theorem dK3_len (n c : Nat) : (dK3 n c).length = n + c := rdict_len _ _ _
theorem dH_len (n : Nat) (I : Nat → Nat) (k : Nat) : (dH n I k).length = k := rdict_len _ _ _
theorem Sub.growN {S : Fix} {en : En} {loc : Loc} {led : Led} {o : List Orc} {t : Nat} {ks ks' : List Int} {i : Int} (h : led[t]? = some (grownN ks i)) (hk : ks ++ [i] = ks') : Sub S en ⟨loc, led, o⟩ ⟨loc, led.set t (.fam ks' fNil), []⟩ :=
  Sub.grow h (fun k => by rw [hk]) rfl fun _ _ _ => rfl
section
variable {prog : Program} {w : World} {K : Frag} {mg mb : Str → Option Value}
noncomputable abbrev led740k (q x : Nat → SO) (n : Nat) (I : Nat → Nat) (k : Nat) : Led := led740 q x n I (cB I k) k (.fam (up1 n) (fK3 I k)) (.fam (upTo k) fNil) (.fam (upTo k) fNil) (.fam (ksA I k) fNil) (.fam (ksX n (cB I k)) (fX n I k)) (.fam (ksB I k) fNil) (.fam (upTo (gC n I k)) fNil)
theorem turn740 (V : Valid K mg mb Γ₀) (q x : Nat → SO) {n k : Nat} {O I : Nat → Nat} (hn : n ≤ 60) (P : Inv n O I) (hk : k < n) {val : Nat → St → Option (Option SV)} (hv : ∀ σ : St, σ.led[55]? = some (.list false (tL n)) → val k σ = some (some (.fam 40 k))) :
    ∃ σ₀ v σ₁ o1 σ₂ o2 fl, Sub (Sx prog w K mg mb) en740 ⟨l740 n, led740k q x n I k, []⟩ σ₀ ∧ val k σ₀ = some (some v) ∧ bind en740 (forTgt s740) v σ₀ = some ((), σ₁, o1) ∧ (run Γ₀ 59).ex en740 (forBody s740) σ₁ = some (fl, σ₂, o2) ∧ Owed (Sx prog w K mg mb) o2 ∧ (fl = .next ∨ fl = .cont) ∧ Sub (Sx prog w K mg mb) en740 σ₂ ⟨l740 n, led740k q x n I (k + 1), []⟩ := by
  have hin := in_upTo hk
  have hup := in_up1 hk
  have lw : LookOk (dW n) (ii k) (some (.fam 47 (k : Int))) := look0 _ hk
  have lk : LookOk (dK3 n (cB I k)) (ii (k + 1)) (some (.fam 33 ((k + 1 : Nat) : Int))) := by rw [← vK_lt hk]; exact lookK3 (by omega)
  have hp : PutOk (dH n I k) (ii k) (ii (hm n I k)) (dH n I (k + 1)) := put0 k _
  have hb := cB_le I k
  by_cases hA : I k ≤ k
  · have e1 : hm n I k = k + 1 := if_pos hA
    have e2 : cB I (k + 1) = cB I k := by show (if _ then _ else _) = _; rw [if_pos hA]
    have e3 : fX n I (k + 1) = fX n I k := by funext m; show (if _ then _ else _) = _; rw [if_pos hA]
    have e4 : ksA I (k + 1) = ksA I k ++ [(k : Int)] := by show (if _ then _ else _) = _; rw [if_pos hA]
    have e5 : ksB I (k + 1) = ksB I k := by show (if _ then _ else _) = _; rw [if_pos hA]
    have e6 : gC n I (k + 1) = gC n I k := by show (if _ then _ else _) = _; rw [if_pos hA]
    rw [e1] at hp
    refine turn_ex (v := .fam 40 k) ?_ (hv _ rfl) (stepA740 q x n k I (ksA I k) (.fam (ksX n (cB I k)) (fX n I k)) (.fam (ksB I k) fNil) (.fam (upTo (gC n I k)) fNil)) ?_ (.inl rfl) ?_
    · exact Sub.focus (t := 33) rfl hup (by show SO.list true (_ :: _ :: (if _ then _ else _)) = _; rw [if_neg (by omega)])
    · rw [obsA740]
      exact ⟨hin, notin_upTo (Int.le_refl _), lw, hin, decide_eq_true (by omega), notin_upTo (Int.le_refl _), lk, rfl, hin, hin, hup, decide_eq_false (by omega), decide_eq_false (by omega), rfl, hin, hin, hup, decide_eq_true (by omega), hup, hin,
        decide_eq_false (by rw [Int.toNat_natCast]; omega), rfl, decide_eq_false (by omega), (fun h => by have := ksA_lt I k _ h; omega), by rw [dK3_len]; omega, lk, rfl, rfl, hin, by rw [dH_len]; omega, hp, trivial⟩
    · unfold led740k
      rw [e2, e3, e4, e5, e6]
      refine Sub.trans (Sub.drop (l740 n) [_]) (Sub.trans (Sub.grow (t := 33) (ks' := up1 n) (g := fK3 I (k + 1)) rfl (fun _ => Iff.rfl) ?_ fun m hm hne => ?_) (Sub.trans (Sub.growN (t := 49) (ks' := upTo (k + 1)) rfl (upTo_succ k).symm) (Sub.trans (Sub.growN (t := 50) (ks' := upTo (k + 1)) rfl (upTo_succ k).symm) (Sub.growN (t := 51) rfl rfl))))
      · show _ = SO.list true (_ :: _ :: (if _ then _ else _))
        rw [if_pos ⟨by omega, by rw [show (((k + 1 : Nat) : Int)).toNat - 1 = k by omega]; exact hA⟩, show (((k + 1 : Nat) : Int) - 1) = (k : Int) by omega]
      · obtain ⟨i, hi, rfl⟩ := mem_up1.mp hm
        show SO.list true (_ :: _ :: (if _ then _ else _)) = SO.list true (_ :: _ :: (if _ then _ else _))
        by_cases q : (((i + 1 : Nat) : Int) ≤ k ∧ I ((((i + 1 : Nat) : Int)).toNat - 1) ≤ (((i + 1 : Nat) : Int)).toNat - 1)
        · rw [if_pos q, if_pos ⟨by omega, q.2⟩]
        · rw [if_neg q, if_neg (fun h => q ⟨by have := h.1; omega, h.2⟩)]
  · have e1 : hm n I k = n + cB I k + 1 := if_neg hA
    have e2 : cB I (k + 1) = cB I k + 1 := by show (if _ then _ else _) = _; rw [if_neg hA]
    have e4 : ksA I (k + 1) = ksA I k := by show (if _ then _ else _) = _; rw [if_neg hA]
    have e5 : ksB I (k + 1) = ksB I k ++ [(k : Int)] := by show (if _ then _ else _) = _; rw [if_neg hA]
    have e6 : gC n I (k + 1) = gC n I k + (n + cB I k) + 1 := by show (if _ then _ else _) = _; rw [if_neg hA]
    rw [e1] at hp
    have hIk := P.ltI k hk
    have lk2 : LookOk (dK3 n (cB I k)) (ii (I k + 1)) (some (.fam 33 ((I k + 1 : Nat) : Int))) := by rw [← vK_lt hIk]; exact lookK3 (by omega)
    have pk : PutOk (dK3 n (cB I k)) (ii (n + cB I k + 1)) (.fam 52 ((n + cB I k + 1 : Nat) : Int)) (dK3 n (cB I k + 1)) := by rw [← vK_ge (by omega : n ≤ n + cB I k)]; exact put1 _ _
    refine turn_ex (v := .fam 40 k) (Sub.orc _ _) (hv _ rfl) (stepB740 q x n k (gC n I k) I (ksB I k) (.fam (ksA I k) fNil)) ?_ (.inl rfl) ?_
    · rw [obsB740]
      refine ⟨hin, notin_upTo (Int.le_refl _), lw, hin, decide_eq_true (by omega), notin_upTo (Int.le_refl _), lk, hup, hin, hin, hup, decide_eq_false (by omega), decide_eq_false (by omega), hup, hin, hin, hup, decide_eq_true (by omega), hup, hin,
        decide_eq_true (by rw [Int.toNat_natCast]; omega), hin, decide_eq_true (by omega), (fun h => by have := ksB_lt I k _ h; omega), lk2, in_up1 hIk, hin, hin, in_up1 hIk, decide_eq_true (by omega), in_up1 hIk, hin, decide_eq_true (by omega), hin, ?_,
        (fun h => by obtain ⟨i, hi, e⟩ := mem_ksX h; omega), by rw [dK3_len]; omega, none1 _ _, by rw [dK3_len]; omega, pk, rfl, rfl, hin, by rw [dH_len]; omega, hp, trivial⟩
      exact loop718 V q (pf (led740 q x n I (cB I k) k (.fam (up1 n) (fK3 I k)) (grownN (upTo k) k) (grownN (upTo k) k) (.fam (ksA I k) fNil) .nocell (grownN (ksB I k) k) .nocell)) (g := gC n I k) hn P hk (by omega)
    · unfold led740k
      rw [e2, e4, e5, e6]
      refine Sub.trans (Sub.drop (l740 n) [_]) (Sub.trans (Sub.fam (o := []) (t := 33) (ks' := up1 n) (g := fK3 I (k + 1)) rfl rfl (fun _ => Iff.rfl) fun m hm => ?_) (Sub.trans (Sub.growN (t := 49) (ks' := upTo (k + 1)) rfl (upTo_succ k).symm) (Sub.trans (Sub.growN (t := 50) (ks' := upTo (k + 1)) rfl (upTo_succ k).symm) (Sub.trans (Sub.growN (t := 53) rfl rfl)
        (Sub.trans (Sub.growN (t := 54) (ks' := upTo (gC n I k + (n + cB I k) + 1)) rfl (upTo_succ _).symm) (Sub.grow (t := 52) (ks' := ksX n (cB I k + 1)) (g := fX n I (k + 1)) rfl (fun m => by rw [ksX_succ]) ?_ fun m hm hne => ?_))))))
      · simp only [memOf, if_pos hm]
        obtain ⟨i, hi, rfl⟩ := mem_up1.mp hm
        show some (SO.list true (_ :: _ :: (if _ then _ else _))) = some (SO.list true (_ :: _ :: (if _ then _ else _)))
        by_cases q : (((i + 1 : Nat) : Int) ≤ k ∧ I ((((i + 1 : Nat) : Int)).toNat - 1) ≤ (((i + 1 : Nat) : Int)).toNat - 1)
        · rw [if_pos q, if_pos ⟨by omega, q.2⟩]
        · rw [if_neg q, if_neg (fun h => q ⟨by
            have h1 := h.1
            have h2 := h.2
            rw [show (((i + 1 : Nat) : Int)).toNat - 1 = i by omega] at h2
            by_cases e : i = k
            · subst e; omega
            · omega, h.2⟩)]
      · show _ = (if _ then _ else if _ then _ else _)
        rw [if_neg hA, if_pos rfl]
      · show _ = (if _ then _ else if _ then _ else _)
        rw [if_neg hA, if_neg hne]
theorem loop740 (V : Valid K mg mb Γ₀) (q x : Nat → SO) {n : Nat} {O I : Nat → Nat} (hn : n ≤ 60) (P : Inv n O I) (hx : x 32 = .list false (tL n))
    (hby : ∀ a49 a50 a51 a52 a53 a54, CallOk (Sx prog w K mg mb) 8 764 [.ref 32] (led740s q x n I a49 a50 a51 a52 a53 a54 []) (.ref 55) (led740s (q0 q) x n I a49 a50 a51 a52 a53 a54 [.list false (tL n)])) :
    LoopOk (Sx prog w K mg mb) 60 en740 s740 (l740 n) (pre q 29 (iFile :: .dict false (dK n) :: .dict true [] :: x 32 :: .fam (up1 n) fKF :: x 34 :: x 35 :: x 36 :: .fam (up1 n) fInF :: x 38 :: x 39 :: .fam (upTo n) (fTF n I) :: .fam (up1 n) (fOuF n) :: x 42 :: x 43 :: x 44 :: x 45 :: .dict false (dW n) :: .fam (upTo n) (fWF I) :: x 48 :: []))
      (l740 n) (led740k (q0 q) x n I n) := by
  refine LoopOk.fam fNil (LoopOk.fam fNil (LoopOk.fam fNil (LoopOk.fam (fX n I 0) (LoopOk.fam fNil (LoopOk.fam fNil ?_)))))
  rw [s740_eq]
  obtain ⟨oi, e1, e2⟩ := run_ok (S := Sx prog w K mg mb) (stepI740 q x n I (.fam [] fNil) (.fam [] fNil) (.fam [] fNil) (.fam [] (fX n I 0)) (.fam [] fNil) (.fam [] fNil)) (by rw [obsI740]; exact ⟨hby _ _ _ _ _ _, trivial⟩)
  refine loopOk_for (n := 59) V (v := .ref 55) (oc := []) rfl e1 e2 (.list (n + 0) ⟨false, tL n, seeObj_ref rfl rfl⟩ ?_)
  refine .sub (τ := ⟨l740 n, led740k (q0 q) x n I 0, []⟩) ?_ ?_
  · have ek : dK n = dK3 n (cB I 0) := by
      unfold dK dK3 rdict
      refine List.map_congr_left fun i hi => ?_
      rw [vK_lt (List.mem_range.mp hi)]
    unfold led740k led740
    rw [← ek]
    refine Sub.trans (Sub.fam (o := []) (t := 33) (ks' := up1 n) (g := fK3 I 0) rfl rfl (fun _ => Iff.rfl) fun m hm => ?_) ?_
    · simp only [memOf, if_pos hm]
      obtain ⟨i, hi, rfl⟩ := mem_up1.mp hm
      show some (fKF _) = some (SO.list true (_ :: _ :: (if _ then _ else _)))
      rw [if_neg (by omega)]; rfl
    · exact Sub.ledW (LedW.pre (q0 q) 29 0 ⟨.inl rfl, .inl rfl, .inr WO.dict, LedW.refl _⟩)
  exact turns_seg n 0 (fun k => ⟨l740 n, led740k (q0 q) x n I k, []⟩) (.done (listVal_ref (l := tL n) rfl (by unfold tL; rw [Nat.zero_add, iiL_none]))) fun k hk => by
    rw [Nat.zero_add]
    exact turn740 V (q0 q) x hn P hk fun σ h => listVal_ref h (by unfold tL; rw [iiL_get _ hk])
end
set_option tactic.hygienic false
open PySem PySem.W PySem.Calls PyProof.Rows PySem.SeqAt
noncomputable def s743 : Stmt := nthS f_allocate.body 6
noncomputable abbrev en743 : En := en778
noncomputable abbrev l743 (n : Nat) : Loc := [(nm "symbols", .ref 4), (nm "instrs", .ref 26), (nm "arity", ii n), (nm "limit", .int true 60), (nm "file", .ref 29), (nm "temporaries", .ref 32), (nm "wanted", .ref 46), (nm "real", .ref 56)]
noncomputable def xI (k : Int) : SV := .tup [.str (nm "x"), .int false k]
noncomputable def rgv (n : Nat) (I : Nat → Nat) (k : Nat) : SV := .tup [.str (nm "get_variable"), xI (hm n I k), xI ((k + 1 : Nat) : Int)]
noncomputable def rpv (n : Nat) (O I : Nat → Nat) (j : Nat) : SV := .tup [.str (nm "put_value"), xI (hm n I (O j)), xI ((j + 1 : Nat) : Int)]
noncomputable def rgvL (n : Nat) (I : Nat → Nat) (k : Nat) : List SV := (List.range k).map (rgv n I)
noncomputable def rpvL (n : Nat) (O I : Nat → Nat) (j : Nat) : List SV := (List.range j).map (rpv n O I)
noncomputable abbrev led743 (q x : Nat → SO) (n : Nat) (I : Nat → Nat) (real fam : SO) : Led := pre q 29 (iFile :: x 30 :: .dict false (dH n I n) :: preF x 32 24 [real, fam])
noncomputable def fP (n : Nat) (O I : Nat → Nat) (i : Int) : SO := .list true (if i < n then [.str (nm "get_variable"), xI (hm n I i.toNat), xI ((i.toNat + 1 : Nat) : Int)] else if i < n + n then [.str (nm "put_value"), xI (hm n I (O (i.toNat - n))), xI ((i.toNat - n + 1 : Nat) : Int)] else [.str (nm "execute"), .int true 33])
theorem stepG743 (q x : Nat → SO) (n k : Nat) (O I : Nat → Nat) :
    outOf (turnR 39 en743 (forTgt s743) (forBody s743) (gv k) ⟨l743 n, led743 q x n I (.list false (rgvL n I k)) (.fam (upTo k) (fP n O I)), [.home 57 k, .bit true, .look (some (ii (hm n I k))), .bit true]⟩) =
    some (.next, { loc := [(nm "symbols", .ref 4), (nm "instrs", .ref 26), (nm "arity", ii n), (nm "limit", .int true 60), (nm "file", .ref 29), (nm "temporaries", .ref 32), (nm "wanted", .ref 46), (nm "real", .ref 56), (nm "instruction", gv k), (nm "parts", .fam 57 (↑k : Int)), (nm "operand", aK k)], led := pre q 29 [iFile, x 30, .dict false (dH n I n), x 32, x 33, x 34, x 35, x 36, x 37, x 38, x 39, x 40, x 41, x 42, x 43, x 44, x 45, x 46, x 47, x 48, x 49, x 50, x 51, x 52, x 53, x 54, x 55, .list false (rgvL n I k ++ [.tup [.str (nm "get_variable"), .tup [.str (nm "x"), ii (hm n I k)], .tup [.str (nm "x"), ii (k + 1)]]]), .ffam (upTo k ++ [(↑k : Int)]) (fP n O I) (↑k : Int) (.list true [.str (nm "get_variable"), .tup [.str (nm "x"), ii (hm n I k)], .tup [.str (nm "x"), ii (k + 1)]])], orc := [] }) := by kernel_rfl
theorem obsG743 (S : Fix) (q x : Nat → SO) (n k : Nat) (O I : Nat → Nat) :
    AllH S (obsOf (turnR 39 en743 (forTgt s743) (forBody s743) (gv k) ⟨l743 n, led743 q x n I (.list false (rgvL n I k)) (.fam (upTo k) (fP n O I)), [.home 57 k, .bit true, .look (some (ii (hm n I k))), .bit true]⟩)) =
    ((((↑k : Int)) ∉ (upTo k)) ∧ ((((↑k : Int)) : Int) = ((↑k : Int))) ∧ ((((↑2 : Int)) : Int) ≤ (999)) ∧ ((true) = (true)) ∧ LookOk (dH n I n) (ii k) (some (ii (hm n I k))) ∧ ((((↑k : Int)) : Int) = ((↑k : Int))) ∧ ((((↑k : Int)) : Int) = ((↑k : Int))) ∧ ((((↑2 : Int)) : Int) ≤ (999)) ∧ ((true) = (true)) ∧ ((((↑k : Int)) : Int) = ((↑k : Int))) ∧ ((((↑k : Int)) : Int) = ((↑k : Int))) ∧ ((((↑(rgvL n I k).length : Int)) : Int) ≤ (999)) ∧ True) := by kernel_rfl
theorem stepP743 (q x : Nat → SO) (n j : Nat) (O I : Nat → Nat) :
    outOf (turnR 39 en743 (forTgt s743) (forBody s743) (pv O j) ⟨l743 n, led743 q x n I (.list false (rgvL n I n ++ rpvL n O I j)) (.fam (upTo (n + j)) (fP n O I)), [.home 57 ((n + j : Nat) : Int), .bit true, .look (some (ii (hm n I (O j)))), .bit true]⟩) =
    some (.next, { loc := [(nm "symbols", .ref 4), (nm "instrs", .ref 26), (nm "arity", ii n), (nm "limit", .int true 60), (nm "file", .ref 29), (nm "temporaries", .ref 32), (nm "wanted", .ref 46), (nm "real", .ref 56), (nm "instruction", pv O j), (nm "parts", .fam 57 (↑(n + j) : Int)), (nm "operand", aK j)], led := pre q 29 [iFile, x 30, .dict false (dH n I n), x 32, x 33, x 34, x 35, x 36, x 37, x 38, x 39, x 40, x 41, x 42, x 43, x 44, x 45, x 46, x 47, x 48, x 49, x 50, x 51, x 52, x 53, x 54, x 55, .list false (rgvL n I n ++ rpvL n O I j ++ [.tup [.str (nm "put_value"), .tup [.str (nm "x"), ii (hm n I (O j))], .tup [.str (nm "x"), ii (j + 1)]]]), .ffam (upTo (n + j) ++ [(↑(n + j) : Int)]) (fP n O I) (↑(n + j) : Int) (.list true [.str (nm "put_value"), .tup [.str (nm "x"), ii (hm n I (O j))], .tup [.str (nm "x"), ii (j + 1)]])], orc := [] }) := by kernel_rfl
theorem obsP743 (S : Fix) (q x : Nat → SO) (n j : Nat) (O I : Nat → Nat) :
    AllH S (obsOf (turnR 39 en743 (forTgt s743) (forBody s743) (pv O j) ⟨l743 n, led743 q x n I (.list false (rgvL n I n ++ rpvL n O I j)) (.fam (upTo (n + j)) (fP n O I)), [.home 57 ((n + j : Nat) : Int), .bit true, .look (some (ii (hm n I (O j)))), .bit true]⟩)) =
    ((((↑(n + j) : Int)) ∉ (upTo (n + j))) ∧ ((((↑(n + j) : Int)) : Int) = ((↑(n + j) : Int))) ∧ ((((↑2 : Int)) : Int) ≤ (999)) ∧ ((true) = (true)) ∧ LookOk (dH n I n) (ii (O j)) (some (ii (hm n I (O j)))) ∧ ((((↑(n + j) : Int)) : Int) = ((↑(n + j) : Int))) ∧ ((((↑(n + j) : Int)) : Int) = ((↑(n + j) : Int))) ∧ ((((↑2 : Int)) : Int) ≤ (999)) ∧ ((true) = (true)) ∧ ((((↑(n + j) : Int)) : Int) = ((↑(n + j) : Int))) ∧ ((((↑(n + j) : Int)) : Int) = ((↑(n + j) : Int))) ∧ ((((↑(rgvL n I n ++ rpvL n O I j).length : Int)) : Int) ≤ (999)) ∧ True) := by kernel_rfl
theorem stepE743 (q x : Nat → SO) (n : Nat) (O I : Nat → Nat) :
    outOf (turnR 39 en743 (forTgt s743) (forBody s743) exI ⟨l743 n, led743 q x n I (.list false (rgvL n I n ++ rpvL n O I n)) (.fam (upTo (n + n)) (fP n O I)), [.home 57 ((n + n : Nat) : Int)]⟩) =
    some (.next, { loc := [(nm "symbols", .ref 4), (nm "instrs", .ref 26), (nm "arity", ii n), (nm "limit", .int true 60), (nm "file", .ref 29), (nm "temporaries", .ref 32), (nm "wanted", .ref 46), (nm "real", .ref 56), (nm "instruction", exI), (nm "parts", .fam 57 (↑(n + n) : Int)), (nm "operand", .int true 33)], led := pre q 29 [iFile, x 30, .dict false (dH n I n), x 32, x 33, x 34, x 35, x 36, x 37, x 38, x 39, x 40, x 41, x 42, x 43, x 44, x 45, x 46, x 47, x 48, x 49, x 50, x 51, x 52, x 53, x 54, x 55, .list false (rgvL n I n ++ rpvL n O I n ++ [.tup [.str (nm "execute"), .int true 33]]), .ffam (upTo (n + n) ++ [(↑(n + n) : Int)]) (fP n O I) (↑(n + n) : Int) (.list true [.str (nm "execute"), .int true 33])], orc := [] }) := by kernel_rfl
theorem obsE743 (S : Fix) (q x : Nat → SO) (n : Nat) (O I : Nat → Nat) :
    AllH S (obsOf (turnR 39 en743 (forTgt s743) (forBody s743) exI ⟨l743 n, led743 q x n I (.list false (rgvL n I n ++ rpvL n O I n)) (.fam (upTo (n + n)) (fP n O I)), [.home 57 ((n + n : Nat) : Int)]⟩)) =
    ((((↑(n + n) : Int)) ∉ (upTo (n + n))) ∧ ((((↑(n + n) : Int)) : Int) = ((↑(n + n) : Int))) ∧ ((((↑(n + n) : Int)) : Int) = ((↑(n + n) : Int))) ∧ ((((↑(n + n) : Int)) : Int) = ((↑(n + n) : Int))) ∧ ((((↑(rgvL n I n ++ rpvL n O I n).length : Int)) : Int) ≤ (999)) ∧ True) := by kernel_rfl
theorem s743_eq : s743 = .For (forTgt s743) (forIt s743) (forBody s743) [] (posOfS s743) := by kernel_rfl
theorem iter743 (n : Nat) (F : Led) : (run Γ₀ 39).ev en743 (forIt s743) ⟨l743 n, F, []⟩ = some (.ref 26, ⟨l743 n, F, []⟩, []) := by kernel_rfl
noncomputable def realL (n : Nat) (O I : Nat → Nat) : List SV := rgvL n I n ++ rpvL n O I n ++ [exI]
theorem lookH {n k : Nat} {I : Nat → Nat} (h : k < n) : LookOk (dH n I n) (ii k) (some (ii (hm n I k))) := look0 _ h
section
variable {prog : Program} {w : World} {K : Frag} {mg mb : Str → Option Value}
theorem loop743 (V : Valid K mg mb Γ₀) (q x : Nat → SO) {n : Nat} (hn : n ≤ 60) {O I : Nat → Nat} (h26 : q 26 = .list false (codeL n O)) (P : Inv n O I) :
    LoopOk (Sx prog w K mg mb) 40 en743 s743 (l743 n) (pre q 29 (iFile :: x 30 :: .dict false (dH n I n) :: preF x 32 24 [.list true []])) (l743 n) (led743 q x n I (.list false (realL n O I)) (.fam (upTo (n + n + 1)) (fP n O I))) := by
  refine LoopOk.fam (fP n O I) ?_
  rw [s743_eq]
  have hl : ∀ (loc : Loc) (r : Led) (o : List Orc), (⟨loc, pre q 29 r, o⟩ : St).led[26]? = some (.list false (codeL n O)) := fun loc r o => by show some (q 26) = _; rw [h26]
  refine loopOk_for (n := 39) V (v := .ref 26) (oc := []) rfl (iter743 n _) (fun _ h => nomatch h) (.list (n + (n + (1 + 0))) ⟨false, codeL n O, seeObj_ref (hl _ _ _) rfl⟩ ?_)
  refine .sub (τ := ⟨l743 n, led743 q x n I (.list false (rgvL n I 0)) (.fam (upTo 0) (fP n O I)), []⟩) ?_ ?_
  · exact Sub.chunk (t := 56) rfl (WO.list .nil)
  refine turns_seg n 0 (fun k => ⟨l743 n, led743 q x n I (.list false (rgvL n I k)) (.fam (upTo k) (fP n O I)), []⟩) ?_ fun k hk => ?_
  · rw [Nat.zero_add]
    refine .sub (τ := ⟨l743 n, led743 q x n I (.list false (rgvL n I n ++ rpvL n O I 0)) (.fam (upTo (n + 0)) (fP n O I)), []⟩) ?_ ?_
    · rw [show rgvL n I n ++ rpvL n O I 0 = rgvL n I n from List.append_nil _]; exact Sub.refl _
    refine turns_seg n n (fun j => ⟨l743 n, led743 q x n I (.list false (rgvL n I n ++ rpvL n O I j)) (.fam (upTo (n + j)) (fP n O I)), []⟩) ?_ fun j hj => ?_
    · refine turns_last (turn_ex (v := exI) (Sub.orc _ _) (listVal_ref (hl _ _ _) code_ex) (stepE743 q x n O I) ?_ (.inl rfl) (Sub.trans (Sub.drop (l743 n) [_, _, _]) (Sub.grow (t := 57) (ks' := upTo (n + n + 1)) (g := fP n O I) rfl (fun k => by rw [upTo_succ]) ?_ fun _ _ _ => rfl))) (listVal_ref (hl _ _ _) (by rw [List.getElem?_eq_none_iff, code_len]; exact Nat.le_refl _))
      · rw [obsE743]
        exact ⟨notin_upTo (Int.le_refl _), rfl, rfl, rfl, by unfold rgvL rpvL; rw [List.length_append, map_len, map_len]; omega, trivial⟩
      · show _ = SO.list true (if _ then _ else if _ then _ else _)
        rw [if_neg (by omega), if_neg (by omega)]
    · refine turn_ex (v := pv O j) (Sub.orc _ _) (listVal_ref (hl _ _ _) (code_pv hj)) (stepP743 q x n j O I) ?_ (.inl rfl) ?_
      · rw [obsP743]
        exact ⟨notin_upTo (Int.le_refl _), rfl, by omega, rfl, lookH (P.lt j hj), rfl, rfl, by omega, rfl, rfl, rfl, by unfold rgvL rpvL; rw [List.length_append, map_len, map_len]; omega, trivial⟩
      · show Sub _ _ _ (⟨_, led743 q x n I (.list false (rgvL n I n ++ rpvL n O I (j + 1))) _, _⟩ : St)
        unfold rpvL; rw [map_succ, ← List.append_assoc]
        refine Sub.trans (Sub.drop (l743 n) [_, _, _]) (Sub.grow (t := 57) (ks' := upTo (n + (j + 1))) (g := fP n O I) rfl (fun k => by rw [← Nat.add_assoc, upTo_succ]) ?_ fun _ _ _ => rfl)
        show _ = SO.list true (if _ then _ else if _ then _ else _)
        rw [if_neg (by omega), if_pos (by omega), Int.toNat_natCast, Nat.add_sub_cancel_left]; rfl
  · refine turn_ex (v := gv k) (Sub.orc _ _) (listVal_ref (hl _ _ _) (by rw [Nat.zero_add]; exact code_gv hk)) (stepG743 q x n k O I) ?_ (.inl rfl) ?_
    · rw [obsG743]
      exact ⟨notin_upTo (Int.le_refl _), rfl, by omega, rfl, lookH hk, rfl, rfl, by omega, rfl, rfl, rfl, by unfold rgvL; rw [map_len]; omega, trivial⟩
    · show Sub _ _ _ (⟨_, led743 q x n I (.list false (rgvL n I (k + 1))) _, _⟩ : St)
      unfold rgvL; rw [map_succ]
      refine Sub.trans (Sub.drop (l743 n) [_, _, _]) (Sub.grow (t := 57) (ks' := upTo (k + 1)) (g := fP n O I) rfl (fun k => by rw [upTo_succ]) ?_ fun _ _ _ => rfl)
      show _ = SO.list true (if _ then _ else if _ then _ else _)
      rw [if_pos (by omega), Int.toNat_natCast]; rfl
end
set_option tactic.hygienic false
open PySem PySem.W PySem.Calls PyProof.Rows PySem.SeqAt
noncomputable def s760 : Stmt := nthS f_greatest.body 1
noncomputable abbrev en797 : En := ⟨f_greatest.sc, []⟩
noncomputable abbrev en760 : En := en797
noncomputable abbrev Row := Bool × Int × Int
noncomputable def rowV : Row → SV
  | (true, a, b) => .tup [.str (nm "get_variable"), xI a, xI b]
  | (false, a, b) => .tup [.str (nm "put_value"), xI a, xI b]
noncomputable def rowsL (l : List Row) : List SV := l.map rowV ++ [exI]
noncomputable def mxR (m : Int) (r : Row) : Int := max (max m r.2.1) r.2.2
noncomputable def mx (l : List Row) : Int := l.foldl mxR 0
noncomputable def rolesV : Row → List SV
  | (true, a, b) => [.tup [.int true 1, xI b], .tup [.int true 2, xI a]]
  | (false, a, b) => [.tup [.int true 1, xI a], .tup [.int true 2, xI b]]
noncomputable def fRo (l : List Row) (i : Int) : SO := .list true (match l[i.toNat]? with
  | some r => rolesV r
  | none => [])
theorem s760_eq : s760 = .For (forTgt s760) (forIt s760) (forBody s760) [] (posOfS s760) := by kernel_rfl
noncomputable abbrev l760a (m : Int) : Loc := [(nm "instrs", .ref 56), (nm "most", .int false m)]
theorem stepGtt760a (q : Nat → SO) (l : List Row) (i : Nat) (m a b : Int) :
    outOf (turnR 29 en760 (forTgt s760) (forBody s760) (rowV (true, a, b)) ⟨l760a m, pre q 56 [.list false (rowsL l), q 57, .fam (upTo i) (fRo l)], [.home 58 i, .bit true, .bit true]⟩) =
    some (.next, { loc := [(nm "instrs", .ref 56), (nm "most", .int false a), (nm "instruction", rowV (true, a, b)), (nm "role", .int true 2), (nm "operand", xI a)], led := pre q 56 [.list false (rowsL l), q 57, .ffam (upTo i ++ [(↑i : Int)]) (fRo l) (↑i : Int) (.list true [.tup [.int true 1, xI b], .tup [.int true 2, xI a]])], orc := [] }) := by kernel_rfl
theorem obsGtt760a (S : Fix) (q : Nat → SO) (l : List Row) (i : Nat) (m a b : Int) :
    AllH S (obsOf (turnR 29 en760 (forTgt s760) (forBody s760) (rowV (true, a, b)) ⟨l760a m, pre q 56 [.list false (rowsL l), q 57, .fam (upTo i) (fRo l)], [.home 58 i, .bit true, .bit true]⟩)) =
    ((((↑i : Int)) ∉ (upTo i)) ∧ ((((↑i : Int)) : Int) = ((↑i : Int))) ∧ ((decide (b > m)) = (true)) ∧ ((((↑i : Int)) : Int) = ((↑i : Int))) ∧ ((decide (a > b)) = (true)) ∧ ((((↑i : Int)) : Int) = ((↑i : Int))) ∧ True) := by kernel_rfl
theorem stepGtf760a (q : Nat → SO) (l : List Row) (i : Nat) (m a b : Int) :
    outOf (turnR 29 en760 (forTgt s760) (forBody s760) (rowV (true, a, b)) ⟨l760a m, pre q 56 [.list false (rowsL l), q 57, .fam (upTo i) (fRo l)], [.home 58 i, .bit true, .bit false]⟩) =
    some (.next, { loc := [(nm "instrs", .ref 56), (nm "most", .int false b), (nm "instruction", rowV (true, a, b)), (nm "role", .int true 2), (nm "operand", xI a)], led := pre q 56 [.list false (rowsL l), q 57, .ffam (upTo i ++ [(↑i : Int)]) (fRo l) (↑i : Int) (.list true [.tup [.int true 1, xI b], .tup [.int true 2, xI a]])], orc := [] }) := by kernel_rfl
theorem obsGtf760a (S : Fix) (q : Nat → SO) (l : List Row) (i : Nat) (m a b : Int) :
    AllH S (obsOf (turnR 29 en760 (forTgt s760) (forBody s760) (rowV (true, a, b)) ⟨l760a m, pre q 56 [.list false (rowsL l), q 57, .fam (upTo i) (fRo l)], [.home 58 i, .bit true, .bit false]⟩)) =
    ((((↑i : Int)) ∉ (upTo i)) ∧ ((((↑i : Int)) : Int) = ((↑i : Int))) ∧ ((decide (b > m)) = (true)) ∧ ((((↑i : Int)) : Int) = ((↑i : Int))) ∧ ((decide (a > b)) = (false)) ∧ ((((↑i : Int)) : Int) = ((↑i : Int))) ∧ True) := by kernel_rfl
theorem stepGft760a (q : Nat → SO) (l : List Row) (i : Nat) (m a b : Int) :
    outOf (turnR 29 en760 (forTgt s760) (forBody s760) (rowV (true, a, b)) ⟨l760a m, pre q 56 [.list false (rowsL l), q 57, .fam (upTo i) (fRo l)], [.home 58 i, .bit false, .bit true]⟩) =
    some (.next, { loc := [(nm "instrs", .ref 56), (nm "most", .int false a), (nm "instruction", rowV (true, a, b)), (nm "role", .int true 2), (nm "operand", xI a)], led := pre q 56 [.list false (rowsL l), q 57, .ffam (upTo i ++ [(↑i : Int)]) (fRo l) (↑i : Int) (.list true [.tup [.int true 1, xI b], .tup [.int true 2, xI a]])], orc := [] }) := by kernel_rfl
theorem obsGft760a (S : Fix) (q : Nat → SO) (l : List Row) (i : Nat) (m a b : Int) :
    AllH S (obsOf (turnR 29 en760 (forTgt s760) (forBody s760) (rowV (true, a, b)) ⟨l760a m, pre q 56 [.list false (rowsL l), q 57, .fam (upTo i) (fRo l)], [.home 58 i, .bit false, .bit true]⟩)) =
    ((((↑i : Int)) ∉ (upTo i)) ∧ ((((↑i : Int)) : Int) = ((↑i : Int))) ∧ ((decide (b > m)) = (false)) ∧ ((((↑i : Int)) : Int) = ((↑i : Int))) ∧ ((decide (a > m)) = (true)) ∧ ((((↑i : Int)) : Int) = ((↑i : Int))) ∧ True) := by kernel_rfl
theorem stepGff760a (q : Nat → SO) (l : List Row) (i : Nat) (m a b : Int) :
    outOf (turnR 29 en760 (forTgt s760) (forBody s760) (rowV (true, a, b)) ⟨l760a m, pre q 56 [.list false (rowsL l), q 57, .fam (upTo i) (fRo l)], [.home 58 i, .bit false, .bit false]⟩) =
    some (.next, { loc := [(nm "instrs", .ref 56), (nm "most", .int false m), (nm "instruction", rowV (true, a, b)), (nm "role", .int true 2), (nm "operand", xI a)], led := pre q 56 [.list false (rowsL l), q 57, .ffam (upTo i ++ [(↑i : Int)]) (fRo l) (↑i : Int) (.list true [.tup [.int true 1, xI b], .tup [.int true 2, xI a]])], orc := [] }) := by kernel_rfl
theorem obsGff760a (S : Fix) (q : Nat → SO) (l : List Row) (i : Nat) (m a b : Int) :
    AllH S (obsOf (turnR 29 en760 (forTgt s760) (forBody s760) (rowV (true, a, b)) ⟨l760a m, pre q 56 [.list false (rowsL l), q 57, .fam (upTo i) (fRo l)], [.home 58 i, .bit false, .bit false]⟩)) =
    ((((↑i : Int)) ∉ (upTo i)) ∧ ((((↑i : Int)) : Int) = ((↑i : Int))) ∧ ((decide (b > m)) = (false)) ∧ ((((↑i : Int)) : Int) = ((↑i : Int))) ∧ ((decide (a > m)) = (false)) ∧ ((((↑i : Int)) : Int) = ((↑i : Int))) ∧ True) := by kernel_rfl
theorem stepPtt760a (q : Nat → SO) (l : List Row) (i : Nat) (m a b : Int) :
    outOf (turnR 29 en760 (forTgt s760) (forBody s760) (rowV (false, a, b)) ⟨l760a m, pre q 56 [.list false (rowsL l), q 57, .fam (upTo i) (fRo l)], [.home 58 i, .bit true, .bit true]⟩) =
    some (.next, { loc := [(nm "instrs", .ref 56), (nm "most", .int false b), (nm "instruction", rowV (false, a, b)), (nm "role", .int true 2), (nm "operand", xI b)], led := pre q 56 [.list false (rowsL l), q 57, .ffam (upTo i ++ [(↑i : Int)]) (fRo l) (↑i : Int) (.list true [.tup [.int true 1, xI a], .tup [.int true 2, xI b]])], orc := [] }) := by kernel_rfl
theorem obsPtt760a (S : Fix) (q : Nat → SO) (l : List Row) (i : Nat) (m a b : Int) :
    AllH S (obsOf (turnR 29 en760 (forTgt s760) (forBody s760) (rowV (false, a, b)) ⟨l760a m, pre q 56 [.list false (rowsL l), q 57, .fam (upTo i) (fRo l)], [.home 58 i, .bit true, .bit true]⟩)) =
    ((((↑i : Int)) ∉ (upTo i)) ∧ ((((↑i : Int)) : Int) = ((↑i : Int))) ∧ ((decide (a > m)) = (true)) ∧ ((((↑i : Int)) : Int) = ((↑i : Int))) ∧ ((decide (b > a)) = (true)) ∧ ((((↑i : Int)) : Int) = ((↑i : Int))) ∧ True) := by kernel_rfl
theorem stepPtf760a (q : Nat → SO) (l : List Row) (i : Nat) (m a b : Int) :
    outOf (turnR 29 en760 (forTgt s760) (forBody s760) (rowV (false, a, b)) ⟨l760a m, pre q 56 [.list false (rowsL l), q 57, .fam (upTo i) (fRo l)], [.home 58 i, .bit true, .bit false]⟩) =
    some (.next, { loc := [(nm "instrs", .ref 56), (nm "most", .int false a), (nm "instruction", rowV (false, a, b)), (nm "role", .int true 2), (nm "operand", xI b)], led := pre q 56 [.list false (rowsL l), q 57, .ffam (upTo i ++ [(↑i : Int)]) (fRo l) (↑i : Int) (.list true [.tup [.int true 1, xI a], .tup [.int true 2, xI b]])], orc := [] }) := by kernel_rfl
theorem obsPtf760a (S : Fix) (q : Nat → SO) (l : List Row) (i : Nat) (m a b : Int) :
    AllH S (obsOf (turnR 29 en760 (forTgt s760) (forBody s760) (rowV (false, a, b)) ⟨l760a m, pre q 56 [.list false (rowsL l), q 57, .fam (upTo i) (fRo l)], [.home 58 i, .bit true, .bit false]⟩)) =
    ((((↑i : Int)) ∉ (upTo i)) ∧ ((((↑i : Int)) : Int) = ((↑i : Int))) ∧ ((decide (a > m)) = (true)) ∧ ((((↑i : Int)) : Int) = ((↑i : Int))) ∧ ((decide (b > a)) = (false)) ∧ ((((↑i : Int)) : Int) = ((↑i : Int))) ∧ True) := by kernel_rfl
theorem stepPft760a (q : Nat → SO) (l : List Row) (i : Nat) (m a b : Int) :
    outOf (turnR 29 en760 (forTgt s760) (forBody s760) (rowV (false, a, b)) ⟨l760a m, pre q 56 [.list false (rowsL l), q 57, .fam (upTo i) (fRo l)], [.home 58 i, .bit false, .bit true]⟩) =
    some (.next, { loc := [(nm "instrs", .ref 56), (nm "most", .int false b), (nm "instruction", rowV (false, a, b)), (nm "role", .int true 2), (nm "operand", xI b)], led := pre q 56 [.list false (rowsL l), q 57, .ffam (upTo i ++ [(↑i : Int)]) (fRo l) (↑i : Int) (.list true [.tup [.int true 1, xI a], .tup [.int true 2, xI b]])], orc := [] }) := by kernel_rfl
theorem obsPft760a (S : Fix) (q : Nat → SO) (l : List Row) (i : Nat) (m a b : Int) :
    AllH S (obsOf (turnR 29 en760 (forTgt s760) (forBody s760) (rowV (false, a, b)) ⟨l760a m, pre q 56 [.list false (rowsL l), q 57, .fam (upTo i) (fRo l)], [.home 58 i, .bit false, .bit true]⟩)) =
    ((((↑i : Int)) ∉ (upTo i)) ∧ ((((↑i : Int)) : Int) = ((↑i : Int))) ∧ ((decide (a > m)) = (false)) ∧ ((((↑i : Int)) : Int) = ((↑i : Int))) ∧ ((decide (b > m)) = (true)) ∧ ((((↑i : Int)) : Int) = ((↑i : Int))) ∧ True) := by kernel_rfl
theorem stepPff760a (q : Nat → SO) (l : List Row) (i : Nat) (m a b : Int) :
    outOf (turnR 29 en760 (forTgt s760) (forBody s760) (rowV (false, a, b)) ⟨l760a m, pre q 56 [.list false (rowsL l), q 57, .fam (upTo i) (fRo l)], [.home 58 i, .bit false, .bit false]⟩) =
    some (.next, { loc := [(nm "instrs", .ref 56), (nm "most", .int false m), (nm "instruction", rowV (false, a, b)), (nm "role", .int true 2), (nm "operand", xI b)], led := pre q 56 [.list false (rowsL l), q 57, .ffam (upTo i ++ [(↑i : Int)]) (fRo l) (↑i : Int) (.list true [.tup [.int true 1, xI a], .tup [.int true 2, xI b]])], orc := [] }) := by kernel_rfl
theorem obsPff760a (S : Fix) (q : Nat → SO) (l : List Row) (i : Nat) (m a b : Int) :
    AllH S (obsOf (turnR 29 en760 (forTgt s760) (forBody s760) (rowV (false, a, b)) ⟨l760a m, pre q 56 [.list false (rowsL l), q 57, .fam (upTo i) (fRo l)], [.home 58 i, .bit false, .bit false]⟩)) =
    ((((↑i : Int)) ∉ (upTo i)) ∧ ((((↑i : Int)) : Int) = ((↑i : Int))) ∧ ((decide (a > m)) = (false)) ∧ ((((↑i : Int)) : Int) = ((↑i : Int))) ∧ ((decide (b > m)) = (false)) ∧ ((((↑i : Int)) : Int) = ((↑i : Int))) ∧ True) := by kernel_rfl
theorem stepE760a (q : Nat → SO) (l : List Row) (i : Nat) (m : Int) :
    outOf (turnR 29 en760 (forTgt s760) (forBody s760) exI ⟨l760a m, pre q 56 [.list false (rowsL l), q 57, .fam (upTo i) (fRo l)], [.home 58 i]⟩) =
    some (.next, { loc := [(nm "instrs", .ref 56), (nm "most", .int false m), (nm "instruction", exI)], led := pre q 56 [.list false (rowsL l), q 57, .ffam (upTo i ++ [(↑i : Int)]) (fRo l) (↑i : Int) (.list true [])], orc := [] }) := by kernel_rfl
theorem obsE760a (S : Fix) (q : Nat → SO) (l : List Row) (i : Nat) (m : Int) :
    AllH S (obsOf (turnR 29 en760 (forTgt s760) (forBody s760) exI ⟨l760a m, pre q 56 [.list false (rowsL l), q 57, .fam (upTo i) (fRo l)], [.home 58 i]⟩)) =
    ((((↑i : Int)) ∉ (upTo i)) ∧ ((((↑i : Int)) : Int) = ((↑i : Int))) ∧ True) := by kernel_rfl
theorem stepF797a (q : Nat → SO) (l : List Row) (m : Int) (ks : List Int) :
    outOf ((run Γ₀ 59).ex en797 f_greatest.body ⟨[(nm "instrs", .ref 56)], pre q 56 [.list false (rowsL l), q 57], [.loop (l760a m) (pre q 56 [.list false (rowsL l), q 57, .fam ks (fRo l)])]⟩) =
    some (.ret (.int false m), { loc := l760a m, led := pre q 56 [.list false (rowsL l), q 57, .fam ks (fRo l)], orc := [] }) := by kernel_rfl
theorem obsF797a (S : Fix) (q : Nat → SO) (l : List Row) (m : Int) (ks : List Int) :
    AllH S (obsOf ((run Γ₀ 59).ex en797 f_greatest.body ⟨[(nm "instrs", .ref 56)], pre q 56 [.list false (rowsL l), q 57], [.loop (l760a m) (pre q 56 [.list false (rowsL l), q 57, .fam ks (fRo l)])]⟩)) =
    (LoopOk S (30) en760 s760 ([(nm "instrs", .ref 56), (nm "most", .int true 0)]) (pre q 56 [.list false (rowsL l), q 57]) (l760a m) (pre q 56 [.list false (rowsL l), q 57, .fam ks (fRo l)]) ∧ True) := by kernel_rfl
noncomputable abbrev l760b (m : Int) : Loc := [(nm "instrs", .ref 59), (nm "most", .int false m)]
theorem stepGtt760b (q : Nat → SO) (l : List Row) (i : Nat) (m a b : Int) :
    outOf (turnR 29 en760 (forTgt s760) (forBody s760) (rowV (true, a, b)) ⟨l760b m, pre q 59 [.list false (rowsL l), .fam (upTo i) (fRo l)], [.home 60 i, .bit true, .bit true]⟩) =
    some (.next, { loc := [(nm "instrs", .ref 59), (nm "most", .int false a), (nm "instruction", rowV (true, a, b)), (nm "role", .int true 2), (nm "operand", xI a)], led := pre q 59 [.list false (rowsL l), .ffam (upTo i ++ [(↑i : Int)]) (fRo l) (↑i : Int) (.list true [.tup [.int true 1, xI b], .tup [.int true 2, xI a]])], orc := [] }) := by kernel_rfl
theorem obsGtt760b (S : Fix) (q : Nat → SO) (l : List Row) (i : Nat) (m a b : Int) :
    AllH S (obsOf (turnR 29 en760 (forTgt s760) (forBody s760) (rowV (true, a, b)) ⟨l760b m, pre q 59 [.list false (rowsL l), .fam (upTo i) (fRo l)], [.home 60 i, .bit true, .bit true]⟩)) =
    ((((↑i : Int)) ∉ (upTo i)) ∧ ((((↑i : Int)) : Int) = ((↑i : Int))) ∧ ((decide (b > m)) = (true)) ∧ ((((↑i : Int)) : Int) = ((↑i : Int))) ∧ ((decide (a > b)) = (true)) ∧ ((((↑i : Int)) : Int) = ((↑i : Int))) ∧ True) := by kernel_rfl
theorem stepGtf760b (q : Nat → SO) (l : List Row) (i : Nat) (m a b : Int) :
    outOf (turnR 29 en760 (forTgt s760) (forBody s760) (rowV (true, a, b)) ⟨l760b m, pre q 59 [.list false (rowsL l), .fam (upTo i) (fRo l)], [.home 60 i, .bit true, .bit false]⟩) =
    some (.next, { loc := [(nm "instrs", .ref 59), (nm "most", .int false b), (nm "instruction", rowV (true, a, b)), (nm "role", .int true 2), (nm "operand", xI a)], led := pre q 59 [.list false (rowsL l), .ffam (upTo i ++ [(↑i : Int)]) (fRo l) (↑i : Int) (.list true [.tup [.int true 1, xI b], .tup [.int true 2, xI a]])], orc := [] }) := by kernel_rfl
theorem obsGtf760b (S : Fix) (q : Nat → SO) (l : List Row) (i : Nat) (m a b : Int) :
    AllH S (obsOf (turnR 29 en760 (forTgt s760) (forBody s760) (rowV (true, a, b)) ⟨l760b m, pre q 59 [.list false (rowsL l), .fam (upTo i) (fRo l)], [.home 60 i, .bit true, .bit false]⟩)) =
    ((((↑i : Int)) ∉ (upTo i)) ∧ ((((↑i : Int)) : Int) = ((↑i : Int))) ∧ ((decide (b > m)) = (true)) ∧ ((((↑i : Int)) : Int) = ((↑i : Int))) ∧ ((decide (a > b)) = (false)) ∧ ((((↑i : Int)) : Int) = ((↑i : Int))) ∧ True) := by kernel_rfl
theorem stepGft760b (q : Nat → SO) (l : List Row) (i : Nat) (m a b : Int) :
    outOf (turnR 29 en760 (forTgt s760) (forBody s760) (rowV (true, a, b)) ⟨l760b m, pre q 59 [.list false (rowsL l), .fam (upTo i) (fRo l)], [.home 60 i, .bit false, .bit true]⟩) =
    some (.next, { loc := [(nm "instrs", .ref 59), (nm "most", .int false a), (nm "instruction", rowV (true, a, b)), (nm "role", .int true 2), (nm "operand", xI a)], led := pre q 59 [.list false (rowsL l), .ffam (upTo i ++ [(↑i : Int)]) (fRo l) (↑i : Int) (.list true [.tup [.int true 1, xI b], .tup [.int true 2, xI a]])], orc := [] }) := by kernel_rfl
theorem obsGft760b (S : Fix) (q : Nat → SO) (l : List Row) (i : Nat) (m a b : Int) :
    AllH S (obsOf (turnR 29 en760 (forTgt s760) (forBody s760) (rowV (true, a, b)) ⟨l760b m, pre q 59 [.list false (rowsL l), .fam (upTo i) (fRo l)], [.home 60 i, .bit false, .bit true]⟩)) =
    ((((↑i : Int)) ∉ (upTo i)) ∧ ((((↑i : Int)) : Int) = ((↑i : Int))) ∧ ((decide (b > m)) = (false)) ∧ ((((↑i : Int)) : Int) = ((↑i : Int))) ∧ ((decide (a > m)) = (true)) ∧ ((((↑i : Int)) : Int) = ((↑i : Int))) ∧ True) := by kernel_rfl
theorem stepGff760b (q : Nat → SO) (l : List Row) (i : Nat) (m a b : Int) :
    outOf (turnR 29 en760 (forTgt s760) (forBody s760) (rowV (true, a, b)) ⟨l760b m, pre q 59 [.list false (rowsL l), .fam (upTo i) (fRo l)], [.home 60 i, .bit false, .bit false]⟩) =
    some (.next, { loc := [(nm "instrs", .ref 59), (nm "most", .int false m), (nm "instruction", rowV (true, a, b)), (nm "role", .int true 2), (nm "operand", xI a)], led := pre q 59 [.list false (rowsL l), .ffam (upTo i ++ [(↑i : Int)]) (fRo l) (↑i : Int) (.list true [.tup [.int true 1, xI b], .tup [.int true 2, xI a]])], orc := [] }) := by kernel_rfl
theorem obsGff760b (S : Fix) (q : Nat → SO) (l : List Row) (i : Nat) (m a b : Int) :
    AllH S (obsOf (turnR 29 en760 (forTgt s760) (forBody s760) (rowV (true, a, b)) ⟨l760b m, pre q 59 [.list false (rowsL l), .fam (upTo i) (fRo l)], [.home 60 i, .bit false, .bit false]⟩)) =
    ((((↑i : Int)) ∉ (upTo i)) ∧ ((((↑i : Int)) : Int) = ((↑i : Int))) ∧ ((decide (b > m)) = (false)) ∧ ((((↑i : Int)) : Int) = ((↑i : Int))) ∧ ((decide (a > m)) = (false)) ∧ ((((↑i : Int)) : Int) = ((↑i : Int))) ∧ True) := by kernel_rfl
theorem stepPtt760b (q : Nat → SO) (l : List Row) (i : Nat) (m a b : Int) :
    outOf (turnR 29 en760 (forTgt s760) (forBody s760) (rowV (false, a, b)) ⟨l760b m, pre q 59 [.list false (rowsL l), .fam (upTo i) (fRo l)], [.home 60 i, .bit true, .bit true]⟩) =
    some (.next, { loc := [(nm "instrs", .ref 59), (nm "most", .int false b), (nm "instruction", rowV (false, a, b)), (nm "role", .int true 2), (nm "operand", xI b)], led := pre q 59 [.list false (rowsL l), .ffam (upTo i ++ [(↑i : Int)]) (fRo l) (↑i : Int) (.list true [.tup [.int true 1, xI a], .tup [.int true 2, xI b]])], orc := [] }) := by kernel_rfl
theorem obsPtt760b (S : Fix) (q : Nat → SO) (l : List Row) (i : Nat) (m a b : Int) :
    AllH S (obsOf (turnR 29 en760 (forTgt s760) (forBody s760) (rowV (false, a, b)) ⟨l760b m, pre q 59 [.list false (rowsL l), .fam (upTo i) (fRo l)], [.home 60 i, .bit true, .bit true]⟩)) =
    ((((↑i : Int)) ∉ (upTo i)) ∧ ((((↑i : Int)) : Int) = ((↑i : Int))) ∧ ((decide (a > m)) = (true)) ∧ ((((↑i : Int)) : Int) = ((↑i : Int))) ∧ ((decide (b > a)) = (true)) ∧ ((((↑i : Int)) : Int) = ((↑i : Int))) ∧ True) := by kernel_rfl
theorem stepPtf760b (q : Nat → SO) (l : List Row) (i : Nat) (m a b : Int) :
    outOf (turnR 29 en760 (forTgt s760) (forBody s760) (rowV (false, a, b)) ⟨l760b m, pre q 59 [.list false (rowsL l), .fam (upTo i) (fRo l)], [.home 60 i, .bit true, .bit false]⟩) =
    some (.next, { loc := [(nm "instrs", .ref 59), (nm "most", .int false a), (nm "instruction", rowV (false, a, b)), (nm "role", .int true 2), (nm "operand", xI b)], led := pre q 59 [.list false (rowsL l), .ffam (upTo i ++ [(↑i : Int)]) (fRo l) (↑i : Int) (.list true [.tup [.int true 1, xI a], .tup [.int true 2, xI b]])], orc := [] }) := by kernel_rfl
theorem obsPtf760b (S : Fix) (q : Nat → SO) (l : List Row) (i : Nat) (m a b : Int) :
    AllH S (obsOf (turnR 29 en760 (forTgt s760) (forBody s760) (rowV (false, a, b)) ⟨l760b m, pre q 59 [.list false (rowsL l), .fam (upTo i) (fRo l)], [.home 60 i, .bit true, .bit false]⟩)) =
    ((((↑i : Int)) ∉ (upTo i)) ∧ ((((↑i : Int)) : Int) = ((↑i : Int))) ∧ ((decide (a > m)) = (true)) ∧ ((((↑i : Int)) : Int) = ((↑i : Int))) ∧ ((decide (b > a)) = (false)) ∧ ((((↑i : Int)) : Int) = ((↑i : Int))) ∧ True) := by kernel_rfl
theorem stepPft760b (q : Nat → SO) (l : List Row) (i : Nat) (m a b : Int) :
    outOf (turnR 29 en760 (forTgt s760) (forBody s760) (rowV (false, a, b)) ⟨l760b m, pre q 59 [.list false (rowsL l), .fam (upTo i) (fRo l)], [.home 60 i, .bit false, .bit true]⟩) =
    some (.next, { loc := [(nm "instrs", .ref 59), (nm "most", .int false b), (nm "instruction", rowV (false, a, b)), (nm "role", .int true 2), (nm "operand", xI b)], led := pre q 59 [.list false (rowsL l), .ffam (upTo i ++ [(↑i : Int)]) (fRo l) (↑i : Int) (.list true [.tup [.int true 1, xI a], .tup [.int true 2, xI b]])], orc := [] }) := by kernel_rfl
theorem obsPft760b (S : Fix) (q : Nat → SO) (l : List Row) (i : Nat) (m a b : Int) :
    AllH S (obsOf (turnR 29 en760 (forTgt s760) (forBody s760) (rowV (false, a, b)) ⟨l760b m, pre q 59 [.list false (rowsL l), .fam (upTo i) (fRo l)], [.home 60 i, .bit false, .bit true]⟩)) =
    ((((↑i : Int)) ∉ (upTo i)) ∧ ((((↑i : Int)) : Int) = ((↑i : Int))) ∧ ((decide (a > m)) = (false)) ∧ ((((↑i : Int)) : Int) = ((↑i : Int))) ∧ ((decide (b > m)) = (true)) ∧ ((((↑i : Int)) : Int) = ((↑i : Int))) ∧ True) := by kernel_rfl
theorem stepPff760b (q : Nat → SO) (l : List Row) (i : Nat) (m a b : Int) :
    outOf (turnR 29 en760 (forTgt s760) (forBody s760) (rowV (false, a, b)) ⟨l760b m, pre q 59 [.list false (rowsL l), .fam (upTo i) (fRo l)], [.home 60 i, .bit false, .bit false]⟩) =
    some (.next, { loc := [(nm "instrs", .ref 59), (nm "most", .int false m), (nm "instruction", rowV (false, a, b)), (nm "role", .int true 2), (nm "operand", xI b)], led := pre q 59 [.list false (rowsL l), .ffam (upTo i ++ [(↑i : Int)]) (fRo l) (↑i : Int) (.list true [.tup [.int true 1, xI a], .tup [.int true 2, xI b]])], orc := [] }) := by kernel_rfl
theorem obsPff760b (S : Fix) (q : Nat → SO) (l : List Row) (i : Nat) (m a b : Int) :
    AllH S (obsOf (turnR 29 en760 (forTgt s760) (forBody s760) (rowV (false, a, b)) ⟨l760b m, pre q 59 [.list false (rowsL l), .fam (upTo i) (fRo l)], [.home 60 i, .bit false, .bit false]⟩)) =
    ((((↑i : Int)) ∉ (upTo i)) ∧ ((((↑i : Int)) : Int) = ((↑i : Int))) ∧ ((decide (a > m)) = (false)) ∧ ((((↑i : Int)) : Int) = ((↑i : Int))) ∧ ((decide (b > m)) = (false)) ∧ ((((↑i : Int)) : Int) = ((↑i : Int))) ∧ True) := by kernel_rfl
theorem stepE760b (q : Nat → SO) (l : List Row) (i : Nat) (m : Int) :
    outOf (turnR 29 en760 (forTgt s760) (forBody s760) exI ⟨l760b m, pre q 59 [.list false (rowsL l), .fam (upTo i) (fRo l)], [.home 60 i]⟩) =
    some (.next, { loc := [(nm "instrs", .ref 59), (nm "most", .int false m), (nm "instruction", exI)], led := pre q 59 [.list false (rowsL l), .ffam (upTo i ++ [(↑i : Int)]) (fRo l) (↑i : Int) (.list true [])], orc := [] }) := by kernel_rfl
theorem obsE760b (S : Fix) (q : Nat → SO) (l : List Row) (i : Nat) (m : Int) :
    AllH S (obsOf (turnR 29 en760 (forTgt s760) (forBody s760) exI ⟨l760b m, pre q 59 [.list false (rowsL l), .fam (upTo i) (fRo l)], [.home 60 i]⟩)) =
    ((((↑i : Int)) ∉ (upTo i)) ∧ ((((↑i : Int)) : Int) = ((↑i : Int))) ∧ True) := by kernel_rfl
theorem stepF797b (q : Nat → SO) (l : List Row) (m : Int) (ks : List Int) :
    outOf ((run Γ₀ 59).ex en797 f_greatest.body ⟨[(nm "instrs", .ref 59)], pre q 59 [.list false (rowsL l)], [.loop (l760b m) (pre q 59 [.list false (rowsL l), .fam ks (fRo l)])]⟩) =
    some (.ret (.int false m), { loc := l760b m, led := pre q 59 [.list false (rowsL l), .fam ks (fRo l)], orc := [] }) := by kernel_rfl
theorem obsF797b (S : Fix) (q : Nat → SO) (l : List Row) (m : Int) (ks : List Int) :
    AllH S (obsOf ((run Γ₀ 59).ex en797 f_greatest.body ⟨[(nm "instrs", .ref 59)], pre q 59 [.list false (rowsL l)], [.loop (l760b m) (pre q 59 [.list false (rowsL l), .fam ks (fRo l)])]⟩)) =
    (LoopOk S (30) en760 s760 ([(nm "instrs", .ref 59), (nm "most", .int true 0)]) (pre q 59 [.list false (rowsL l)]) (l760b m) (pre q 59 [.list false (rowsL l), .fam ks (fRo l)]) ∧ True) := by kernel_rfl
noncomputable def mxN (l : List Row) (i : Nat) : Int := (l.take i).foldl mxR 0
theorem mxN_all (l : List Row) : mxN l l.length = mx l := by unfold mxN mx; rw [List.take_length]
theorem mxN_succ {l : List Row} {i : Nat} (h : i < l.length) : mxN l (i + 1) = mxR (mxN l i) l[i] := by
  unfold mxN
  rw [List.take_succ_eq_append_getElem h, List.foldl_append]; rfl
theorem rows_at {l : List Row} {i : Nat} (h : i < l.length) : (rowsL l)[i]? = some (rowV l[i]) := by
  unfold rowsL
  rw [List.getElem?_append_left (by simpa using h)]; simp [h]
theorem rows_ex (l : List Row) : (rowsL l)[l.length]? = some exI := by
  unfold rowsL
  rw [List.getElem?_append_right (by simp)]; simp
theorem rows_len (l : List Row) : (rowsL l).length = l.length + 1 := by unfold rowsL; simp
theorem roles_at {l : List Row} {i : Nat} (h : i < l.length) : fRo l (i : Int) = .list true (rolesV l[i]) := by
  unfold fRo; rw [Int.toNat_natCast, List.getElem?_eq_getElem h]
theorem fn797 : lookN 797 Γ₀.fns = some f_greatest := by kernel_rfl
section
variable {prog : Program} {w : World} {K : Frag} {mg mb : Str → Option Value}
theorem iter760a (v : SV) (F : Led) : (run Γ₀ 29).ev en760 (forIt s760) ⟨[(nm "instrs", .ref 56), (nm "most", v)], F, []⟩ = some (.ref 56, ⟨[(nm "instrs", .ref 56), (nm "most", v)], F, []⟩, []) := by kernel_rfl
theorem loop760a (V : Valid K mg mb Γ₀) (q : Nat → SO) (l : List Row) (hl : l.length ≤ 900) :
    LoopOk (Sx prog w K mg mb) 30 en760 s760 [(nm "instrs", .ref 56), (nm "most", .int true 0)] (pre q 56 [.list false (rowsL l), q 57]) (l760a (mx l)) (pre q 56 [.list false (rowsL l), q 57, .fam (upTo (l.length + 1)) (fRo l)]) := by
  refine LoopOk.fam (fRo l) ?_
  rw [s760_eq]
  refine loopOk_for (n := 29) V (v := .ref 56) (oc := []) rfl (iter760a _ _) (fun _ h => nomatch h) (.list (l.length + (1 + 0)) ⟨false, rowsL l, seeObj_ref rfl rfl⟩ ?_)
  refine .sub (τ := ⟨l760a (mxN l 0), pre q 56 [.list false (rowsL l), q 57, .fam (upTo 0) (fRo l)], []⟩) (Sub.locW (loc' := l760a (mxN l 0)) (o' := []) ⟨⟨_, by kernel_rfl, .refl _⟩, ⟨.int true 0, by kernel_rfl, .int _ _ _⟩, trivial⟩) ?_
  refine turns_seg l.length 0 (fun i => ⟨l760a (mxN l i), pre q 56 [.list false (rowsL l), q 57, .fam (upTo i) (fRo l)], []⟩) ?_ fun i hi => ?_
  · rw [Nat.zero_add, mxN_all]
    refine turns_last (turn_ex (v := exI) (Sub.orc _ _) (listVal_ref (l := rowsL l) rfl (rows_ex l)) (stepE760a q l l.length (mx l)) ?_ (.inl rfl) (Sub.trans (Sub.drop (l760a (mx l)) [_]) (Sub.grow (t := 58) (ks' := upTo (l.length + 1)) (g := fRo l) rfl (fun k => by rw [upTo_succ]) ?_ fun _ _ _ => rfl))) (listVal_ref (l := rowsL l) rfl (by rw [List.getElem?_eq_none_iff, rows_len]; exact Nat.le_refl _))
    · rw [obsE760a]
      first | exact ⟨notin_upTo (Int.le_refl _), rfl, trivial⟩ | exact ⟨notin_upTo (Int.le_refl _), trivial⟩
    · show _ = SO.list true (match l[((l.length : Nat) : Int).toNat]? with | some r => rolesV r | none => [])
      rw [Int.toNat_natCast, List.getElem?_eq_none (Nat.le_refl _)]
  · have hv := rows_at hi
    have hs := mxN_succ hi
    have hr := roles_at hi
    have fin : ∀ (loc ex : Loc) (o : SO), loc = l760a (mxN l (i + 1)) → o = fRo l i → Sub (Sx prog w K mg mb) en760 ⟨loc ++ ex, pre q 56 [.list false (rowsL l), q 57, .ffam (upTo i ++ [(i : Int)]) (fRo l) i o], []⟩ ⟨l760a (mxN l (i + 1)), pre q 56 [.list false (rowsL l), q 57, .fam (upTo (i + 1)) (fRo l)], []⟩ := by
      rintro loc ex o rfl rfl
      exact Sub.trans (Sub.drop _ ex) (Sub.grow (t := 58) (ks' := upTo (i + 1)) (g := fRo l) rfl (fun k => by rw [upTo_succ]) rfl fun _ _ _ => rfl)
    obtain ⟨c, a, b, er⟩ : ∃ c a b, l[i] = (c, a, b) := ⟨l[i].1, l[i].2.1, l[i].2.2, rfl⟩
    rw [er] at hv hs hr
    have hnot := notin_upTo (Int.le_refl (i : Int))
    cases c with
    | true =>
      by_cases h1 : b > mxN l i
      · by_cases h2 : a > b
        · exact turn_ex (v := rowV (true, a, b)) (Sub.orc _ _) (listVal_ref (l := rowsL l) rfl (by rw [Nat.zero_add]; exact hv)) (stepGtt760a q l i (mxN l i) a b) (by rw [obsGtt760a]; exact ⟨hnot, rfl, decide_eq_true h1, rfl, decide_eq_true h2, rfl, trivial⟩) (.inl rfl) (fin [_, _] [_, _, _] _ (by rw [hs, show mxR (mxN l i) (true, a, b) = a by simp only [mxR]; omega]) hr.symm)
        · exact turn_ex (v := rowV (true, a, b)) (Sub.orc _ _) (listVal_ref (l := rowsL l) rfl (by rw [Nat.zero_add]; exact hv)) (stepGtf760a q l i (mxN l i) a b) (by rw [obsGtf760a]; exact ⟨hnot, rfl, decide_eq_true h1, rfl, decide_eq_false h2, rfl, trivial⟩) (.inl rfl) (fin [_, _] [_, _, _] _ (by rw [hs, show mxR (mxN l i) (true, a, b) = b by simp only [mxR]; omega]) hr.symm)
      · by_cases h2 : a > mxN l i
        · exact turn_ex (v := rowV (true, a, b)) (Sub.orc _ _) (listVal_ref (l := rowsL l) rfl (by rw [Nat.zero_add]; exact hv)) (stepGft760a q l i (mxN l i) a b) (by rw [obsGft760a]; exact ⟨hnot, rfl, decide_eq_false h1, rfl, decide_eq_true h2, rfl, trivial⟩) (.inl rfl) (fin [_, _] [_, _, _] _ (by rw [hs, show mxR (mxN l i) (true, a, b) = a by simp only [mxR]; omega]) hr.symm)
        · exact turn_ex (v := rowV (true, a, b)) (Sub.orc _ _) (listVal_ref (l := rowsL l) rfl (by rw [Nat.zero_add]; exact hv)) (stepGff760a q l i (mxN l i) a b) (by rw [obsGff760a]; exact ⟨hnot, rfl, decide_eq_false h1, rfl, decide_eq_false h2, rfl, trivial⟩) (.inl rfl) (fin [_, _] [_, _, _] _ (by rw [hs, show mxR (mxN l i) (true, a, b) = mxN l i by simp only [mxR]; omega]) hr.symm)
    | false =>
      by_cases h1 : a > mxN l i
      · by_cases h2 : b > a
        · exact turn_ex (v := rowV (false, a, b)) (Sub.orc _ _) (listVal_ref (l := rowsL l) rfl (by rw [Nat.zero_add]; exact hv)) (stepPtt760a q l i (mxN l i) a b) (by rw [obsPtt760a]; exact ⟨hnot, rfl, decide_eq_true h1, rfl, decide_eq_true h2, rfl, trivial⟩) (.inl rfl) (fin [_, _] [_, _, _] _ (by rw [hs, show mxR (mxN l i) (false, a, b) = b by simp only [mxR]; omega]) hr.symm)
        · exact turn_ex (v := rowV (false, a, b)) (Sub.orc _ _) (listVal_ref (l := rowsL l) rfl (by rw [Nat.zero_add]; exact hv)) (stepPtf760a q l i (mxN l i) a b) (by rw [obsPtf760a]; exact ⟨hnot, rfl, decide_eq_true h1, rfl, decide_eq_false h2, rfl, trivial⟩) (.inl rfl) (fin [_, _] [_, _, _] _ (by rw [hs, show mxR (mxN l i) (false, a, b) = a by simp only [mxR]; omega]) hr.symm)
      · by_cases h2 : b > mxN l i
        · exact turn_ex (v := rowV (false, a, b)) (Sub.orc _ _) (listVal_ref (l := rowsL l) rfl (by rw [Nat.zero_add]; exact hv)) (stepPft760a q l i (mxN l i) a b) (by rw [obsPft760a]; exact ⟨hnot, rfl, decide_eq_false h1, rfl, decide_eq_true h2, rfl, trivial⟩) (.inl rfl) (fin [_, _] [_, _, _] _ (by rw [hs, show mxR (mxN l i) (false, a, b) = b by simp only [mxR]; omega]) hr.symm)
        · exact turn_ex (v := rowV (false, a, b)) (Sub.orc _ _) (listVal_ref (l := rowsL l) rfl (by rw [Nat.zero_add]; exact hv)) (stepPff760a q l i (mxN l i) a b) (by rw [obsPff760a]; exact ⟨hnot, rfl, decide_eq_false h1, rfl, decide_eq_false h2, rfl, trivial⟩) (.inl rfl) (fin [_, _] [_, _, _] _ (by rw [hs, show mxR (mxN l i) (false, a, b) = mxN l i by simp only [mxR]; omega]) hr.symm)
theorem za797a : zipArgs f_greatest.params [.ref 56] = some [(nm "instrs", .ref 56)] := by kernel_rfl
theorem call797a (V : Valid K mg mb Γ₀) (q : Nat → SO) (l : List Row) (hl : l.length ≤ 900) : CallOk (Sx prog w K mg mb) 60 797 [.ref 56] (pre q 56 [.list false (rowsL l), q 57]) (.int false (mx l)) (pre q 56 [.list false (rowsL l), q 57, .fam (upTo (l.length + 1)) (fRo l)]) :=
  callOk_run (n := 59) V fn797 za797a (stepF797a q l (mx l) (upTo (l.length + 1))) (obsF797a _ q l (mx l) (upTo (l.length + 1))) ⟨loop760a V q l hl, trivial⟩
theorem iter760b (v : SV) (F : Led) : (run Γ₀ 29).ev en760 (forIt s760) ⟨[(nm "instrs", .ref 59), (nm "most", v)], F, []⟩ = some (.ref 59, ⟨[(nm "instrs", .ref 59), (nm "most", v)], F, []⟩, []) := by kernel_rfl
theorem loop760b (V : Valid K mg mb Γ₀) (q : Nat → SO) (l : List Row) (hl : l.length ≤ 900) :
    LoopOk (Sx prog w K mg mb) 30 en760 s760 [(nm "instrs", .ref 59), (nm "most", .int true 0)] (pre q 59 [.list false (rowsL l)]) (l760b (mx l)) (pre q 59 [.list false (rowsL l), .fam (upTo (l.length + 1)) (fRo l)]) := by
  refine LoopOk.fam (fRo l) ?_
  rw [s760_eq]
  refine loopOk_for (n := 29) V (v := .ref 59) (oc := []) rfl (iter760b _ _) (fun _ h => nomatch h) (.list (l.length + (1 + 0)) ⟨false, rowsL l, seeObj_ref rfl rfl⟩ ?_)
  refine .sub (τ := ⟨l760b (mxN l 0), pre q 59 [.list false (rowsL l), .fam (upTo 0) (fRo l)], []⟩) (Sub.locW (loc' := l760b (mxN l 0)) (o' := []) ⟨⟨_, by kernel_rfl, .refl _⟩, ⟨.int true 0, by kernel_rfl, .int _ _ _⟩, trivial⟩) ?_
  refine turns_seg l.length 0 (fun i => ⟨l760b (mxN l i), pre q 59 [.list false (rowsL l), .fam (upTo i) (fRo l)], []⟩) ?_ fun i hi => ?_
  · rw [Nat.zero_add, mxN_all]
    refine turns_last (turn_ex (v := exI) (Sub.orc _ _) (listVal_ref (l := rowsL l) rfl (rows_ex l)) (stepE760b q l l.length (mx l)) ?_ (.inl rfl) (Sub.trans (Sub.drop (l760b (mx l)) [_]) (Sub.grow (t := 60) (ks' := upTo (l.length + 1)) (g := fRo l) rfl (fun k => by rw [upTo_succ]) ?_ fun _ _ _ => rfl))) (listVal_ref (l := rowsL l) rfl (by rw [List.getElem?_eq_none_iff, rows_len]; exact Nat.le_refl _))
    · rw [obsE760b]
      first | exact ⟨notin_upTo (Int.le_refl _), rfl, trivial⟩ | exact ⟨notin_upTo (Int.le_refl _), trivial⟩
    · show _ = SO.list true (match l[((l.length : Nat) : Int).toNat]? with | some r => rolesV r | none => [])
      rw [Int.toNat_natCast, List.getElem?_eq_none (Nat.le_refl _)]
  · have hv := rows_at hi
    have hs := mxN_succ hi
    have hr := roles_at hi
    have fin : ∀ (loc ex : Loc) (o : SO), loc = l760b (mxN l (i + 1)) → o = fRo l i → Sub (Sx prog w K mg mb) en760 ⟨loc ++ ex, pre q 59 [.list false (rowsL l), .ffam (upTo i ++ [(i : Int)]) (fRo l) i o], []⟩ ⟨l760b (mxN l (i + 1)), pre q 59 [.list false (rowsL l), .fam (upTo (i + 1)) (fRo l)], []⟩ := by
      rintro loc ex o rfl rfl
      exact Sub.trans (Sub.drop _ ex) (Sub.grow (t := 60) (ks' := upTo (i + 1)) (g := fRo l) rfl (fun k => by rw [upTo_succ]) rfl fun _ _ _ => rfl)
    obtain ⟨c, a, b, er⟩ : ∃ c a b, l[i] = (c, a, b) := ⟨l[i].1, l[i].2.1, l[i].2.2, rfl⟩
    rw [er] at hv hs hr
    have hnot := notin_upTo (Int.le_refl (i : Int))
    cases c with
    | true =>
      by_cases h1 : b > mxN l i
      · by_cases h2 : a > b
        · exact turn_ex (v := rowV (true, a, b)) (Sub.orc _ _) (listVal_ref (l := rowsL l) rfl (by rw [Nat.zero_add]; exact hv)) (stepGtt760b q l i (mxN l i) a b) (by rw [obsGtt760b]; exact ⟨hnot, rfl, decide_eq_true h1, rfl, decide_eq_true h2, rfl, trivial⟩) (.inl rfl) (fin [_, _] [_, _, _] _ (by rw [hs, show mxR (mxN l i) (true, a, b) = a by simp only [mxR]; omega]) hr.symm)
        · exact turn_ex (v := rowV (true, a, b)) (Sub.orc _ _) (listVal_ref (l := rowsL l) rfl (by rw [Nat.zero_add]; exact hv)) (stepGtf760b q l i (mxN l i) a b) (by rw [obsGtf760b]; exact ⟨hnot, rfl, decide_eq_true h1, rfl, decide_eq_false h2, rfl, trivial⟩) (.inl rfl) (fin [_, _] [_, _, _] _ (by rw [hs, show mxR (mxN l i) (true, a, b) = b by simp only [mxR]; omega]) hr.symm)
      · by_cases h2 : a > mxN l i
        · exact turn_ex (v := rowV (true, a, b)) (Sub.orc _ _) (listVal_ref (l := rowsL l) rfl (by rw [Nat.zero_add]; exact hv)) (stepGft760b q l i (mxN l i) a b) (by rw [obsGft760b]; exact ⟨hnot, rfl, decide_eq_false h1, rfl, decide_eq_true h2, rfl, trivial⟩) (.inl rfl) (fin [_, _] [_, _, _] _ (by rw [hs, show mxR (mxN l i) (true, a, b) = a by simp only [mxR]; omega]) hr.symm)
        · exact turn_ex (v := rowV (true, a, b)) (Sub.orc _ _) (listVal_ref (l := rowsL l) rfl (by rw [Nat.zero_add]; exact hv)) (stepGff760b q l i (mxN l i) a b) (by rw [obsGff760b]; exact ⟨hnot, rfl, decide_eq_false h1, rfl, decide_eq_false h2, rfl, trivial⟩) (.inl rfl) (fin [_, _] [_, _, _] _ (by rw [hs, show mxR (mxN l i) (true, a, b) = mxN l i by simp only [mxR]; omega]) hr.symm)
    | false =>
      by_cases h1 : a > mxN l i
      · by_cases h2 : b > a
        · exact turn_ex (v := rowV (false, a, b)) (Sub.orc _ _) (listVal_ref (l := rowsL l) rfl (by rw [Nat.zero_add]; exact hv)) (stepPtt760b q l i (mxN l i) a b) (by rw [obsPtt760b]; exact ⟨hnot, rfl, decide_eq_true h1, rfl, decide_eq_true h2, rfl, trivial⟩) (.inl rfl) (fin [_, _] [_, _, _] _ (by rw [hs, show mxR (mxN l i) (false, a, b) = b by simp only [mxR]; omega]) hr.symm)
        · exact turn_ex (v := rowV (false, a, b)) (Sub.orc _ _) (listVal_ref (l := rowsL l) rfl (by rw [Nat.zero_add]; exact hv)) (stepPtf760b q l i (mxN l i) a b) (by rw [obsPtf760b]; exact ⟨hnot, rfl, decide_eq_true h1, rfl, decide_eq_false h2, rfl, trivial⟩) (.inl rfl) (fin [_, _] [_, _, _] _ (by rw [hs, show mxR (mxN l i) (false, a, b) = a by simp only [mxR]; omega]) hr.symm)
      · by_cases h2 : b > mxN l i
        · exact turn_ex (v := rowV (false, a, b)) (Sub.orc _ _) (listVal_ref (l := rowsL l) rfl (by rw [Nat.zero_add]; exact hv)) (stepPft760b q l i (mxN l i) a b) (by rw [obsPft760b]; exact ⟨hnot, rfl, decide_eq_false h1, rfl, decide_eq_true h2, rfl, trivial⟩) (.inl rfl) (fin [_, _] [_, _, _] _ (by rw [hs, show mxR (mxN l i) (false, a, b) = b by simp only [mxR]; omega]) hr.symm)
        · exact turn_ex (v := rowV (false, a, b)) (Sub.orc _ _) (listVal_ref (l := rowsL l) rfl (by rw [Nat.zero_add]; exact hv)) (stepPff760b q l i (mxN l i) a b) (by rw [obsPff760b]; exact ⟨hnot, rfl, decide_eq_false h1, rfl, decide_eq_false h2, rfl, trivial⟩) (.inl rfl) (fin [_, _] [_, _, _] _ (by rw [hs, show mxR (mxN l i) (false, a, b) = mxN l i by simp only [mxR]; omega]) hr.symm)
theorem za797b : zipArgs f_greatest.params [.ref 59] = some [(nm "instrs", .ref 59)] := by kernel_rfl
theorem call797b (V : Valid K mg mb Γ₀) (q : Nat → SO) (l : List Row) (hl : l.length ≤ 900) : CallOk (Sx prog w K mg mb) 60 797 [.ref 59] (pre q 59 [.list false (rowsL l)]) (.int false (mx l)) (pre q 59 [.list false (rowsL l), .fam (upTo (l.length + 1)) (fRo l)]) :=
  callOk_run (n := 59) V fn797 za797b (stepF797b q l (mx l) (upTo (l.length + 1))) (obsF797b _ q l (mx l) (upTo (l.length + 1))) ⟨loop760b V q l hl, trivial⟩
end
set_option tactic.hygienic false
open PySem PySem.W PySem.Calls PyProof.Rows PySem.SeqAt
noncomputable def sc757 : Scope := { kind := .function, names := [(nm ".0", .local), (nm "instruction", .local), (nm "is_idle", .globalImplicit)], isGenerator := false, isCoroutine := false }
noncomputable def if757 : List Expr := [.UnaryOp .Not (.Call (.Name (nm "is_idle") (ps 757 57 64)) [.Name (nm "instruction") (ps 757 65 76)] [] (ps 757 57 77)) (ps 757 53 77)]
noncomputable def s757 : Expr := .ListComp (.Name (nm "instruction") (ps 757 12 23)) [⟨.Name (nm "instruction") (ps 757 28 39), .Name (nm "instrs") (ps 757 43 49), if757, 0⟩] sc757 (ps 757 11 78)
noncomputable abbrev en790 : En := ⟨f_peephole.sc, []⟩
noncomputable abbrev en757 : En := en790
noncomputable def idleB (r : Row) : Bool := decide (r.2.1 = r.2.2)
noncomputable def busy (l : List Row) : List Row := l.filter fun r => !idleB r
theorem stepI757 (led : Led) (orc : List Orc) :
    outOf ((run Γ₀ 76).ev en757 (.Name (nm "instrs") (ps 757 43 49)) ⟨[(nm "instrs", .ref 56)], led, orc⟩) =
    some (.ref 56, { loc := [(nm "instrs", .ref 56)], led := led, orc := orc }) := by kernel_rfl
theorem obsI757 (S : Fix) (led : Led) (orc : List Orc) :
    AllH S (obsOf ((run Γ₀ 76).ev en757 (.Name (nm "instrs") (ps 757 43 49)) ⟨[(nm "instrs", .ref 56)], led, orc⟩)) =
    (True) := by kernel_rfl
theorem stepG757 (loc : Loc) (led : Led) (orc : List Orc) (a b : Int) :
    outOf ((run Γ₀ 76).ap (.val (.ref 785)) [rowV (true, a, b)] ⟨loc, led, orc⟩) =
    some (.bool false (decide (a = b)), { loc := loc, led := led, orc := orc }) := by kernel_rfl
theorem obsG757 (S : Fix) (loc : Loc) (led : Led) (orc : List Orc) (a b : Int) :
    AllH S (obsOf ((run Γ₀ 76).ap (.val (.ref 785)) [rowV (true, a, b)] ⟨loc, led, orc⟩)) =
    (True) := by kernel_rfl
theorem stepP757 (loc : Loc) (led : Led) (orc : List Orc) (a b : Int) :
    outOf ((run Γ₀ 76).ap (.val (.ref 785)) [rowV (false, a, b)] ⟨loc, led, orc⟩) =
    some (.bool false (decide (a = b)), { loc := loc, led := led, orc := orc }) := by kernel_rfl
theorem obsP757 (S : Fix) (loc : Loc) (led : Led) (orc : List Orc) (a b : Int) :
    AllH S (obsOf ((run Γ₀ 76).ap (.val (.ref 785)) [rowV (false, a, b)] ⟨loc, led, orc⟩)) =
    (True) := by kernel_rfl
theorem stepE757 (loc : Loc) (led : Led) (orc : List Orc) :
    outOf ((run Γ₀ 76).ap (.val (.ref 785)) [exI] ⟨loc, led, orc⟩) =
    some (.bool true false, { loc := loc, led := led, orc := orc }) := by kernel_rfl
theorem obsE757 (S : Fix) (loc : Loc) (led : Led) (orc : List Orc) :
    AllH S (obsOf ((run Γ₀ 76).ap (.val (.ref 785)) [exI] ⟨loc, led, orc⟩)) =
    (True) := by kernel_rfl
theorem stepF790 (q : Nat → SO) (r x57 x58 : SO) (l : List SV) :
    outOf ((run Γ₀ 79).ex en790 f_peephole.body ⟨[(nm "instrs", .ref 56)], pre q 56 [r, x57, x58], [.comp l (pre q 56 [r, x57, x58])]⟩) =
    some (.ret (.ref 59), { loc := [(nm "instrs", .ref 56)], led := pre q 56 [r, x57, x58, .list false l], orc := [] }) := by kernel_rfl
theorem obsF790 (S : Fix) (q : Nat → SO) (r x57 x58 : SO) (l : List SV) :
    AllH S (obsOf ((run Γ₀ 79).ex en790 f_peephole.body ⟨[(nm "instrs", .ref 56)], pre q 56 [r, x57, x58], [.comp l (pre q 56 [r, x57, x58])]⟩)) =
    (CompOk S (77) en757 s757 ([(nm "instrs", .ref 56)]) (pre q 56 [r, x57, x58]) (l) (pre q 56 [r, x57, x58]) ∧ True) := by kernel_rfl
noncomputable abbrev lA (n : Nat) (O I : Nat → Nat) (t : SO) (h : SO) (K G : SO) (r : Led) : Led := iFile :: t :: h :: .list false (tL n) :: K :: G :: .list false (inL n ++ tL n ++ ouL n) :: .dict false (dIn n) :: .fam (up1 n) fInF :: .dict false (dOu n) :: .dict false (dT n) :: .fam (upTo n) (fTF n I) :: .fam (up1 n) (fOuF n) :: .fam (upTo (n + n)) (fR n O) :: .dict true [] :: .list true [] :: .list false (foundL n) :: r
noncomputable abbrev lW (n : Nat) (I : Nat → Nat) (r : Led) : Led := .dict false (dW n) :: .fam (upTo n) (fWF I) :: .fam (upTo n) fNil :: r
noncomputable abbrev lP (n : Nat) (I : Nat → Nat) (ga : List Int) (gb : List Int) (gc : List Int) (r : Led) : Led := .fam (upTo n) fNil :: .fam (upTo n) fNil :: .fam ga fNil :: .fam (ksX n (cB I n)) (fX n I n) :: .fam gb fNil :: .fam gc fNil :: .list false (tL n) :: r
noncomputable abbrev led778 (q : Nat → SO) (n : Nat) (O I : Nat → Nat) (ga gb gc : List Int) (r : Led) : Led := pre q 29 (lA n O I (.dict false (dK3 n (cB I n))) (.dict false (dH n I n)) (.fam (up1 n) (fK3 I n)) (.fam (up1 n) fNil) (lW n I (lP n I ga gb gc r)))
theorem stepF778 (q u : Nat → SO) (n : Nat) (O I : Nat → Nat) (m : Int) (l : List SV) (ga gb gc ks : List Int) (f57 f58 : SO) :
    outOf ((run Γ₀ 99).ex en778 f_allocate.body ⟨[(nm "symbols", .ref 4), (nm "instrs", .ref 26), (nm "arity", ii n), (nm "limit", .int true 60)], pre q 29 [],
  [.loop (l778 n) (pre q 29 (lA n O I (.dict false (dK n)) (.dict true []) (.fam (up1 n) fKF) (.fam (up1 n) fNil) [])),
   .call (.ref 46) (pre q 29 (lA n O I (.dict false (dK n)) (.dict true []) (.fam (up1 n) fKF) (.fam (up1 n) fNil) (lW n I []))),
   .loop (l740 n) (led778 u n O I ga gb gc []),
   .loop (l743 n) (led778 u n O I ga gb gc [.list false l, f57]),
   .bit false, .call (.int false m) (led778 u n O I ga gb gc [.list false l, f57, f58]), .bit false]⟩) =
    some (.ret (.ref 56), { loc := [(nm "symbols", .ref 4), (nm "instrs", .ref 26), (nm "arity", ii n), (nm "limit", .int true 60), (nm "file", .ref 29), (nm "temporaries", .ref 32), (nm "wanted", .ref 46), (nm "real", .ref 56)], led := pre u 29 (iFile :: .dict false (dK3 n (cB I n)) :: .dict false (dH n I n) :: .list false (tL n) :: .fam (up1 n) (fK3 I n) :: .fam (up1 n) fNil :: .list false (inL n ++ tL n ++ ouL n) :: .dict false (dIn n) :: .fam (up1 n) fInF :: .dict false (dOu n) :: .dict false (dT n) :: .fam (upTo n) (fTF n I) :: .fam (up1 n) (fOuF n) :: .fam (upTo (n + n)) (fR n O) :: .dict true [] :: .list true [] :: .list false (foundL n) :: lW n I (lP n I ga gb gc [.list false l, f57, f58])), orc := [] }) := by kernel_rfl
theorem obsF778 (S : Fix) (q u : Nat → SO) (n : Nat) (O I : Nat → Nat) (m : Int) (l : List SV) (ga gb gc ks : List Int) (f57 f58 : SO) :
    AllH S (obsOf ((run Γ₀ 99).ex en778 f_allocate.body ⟨[(nm "symbols", .ref 4), (nm "instrs", .ref 26), (nm "arity", ii n), (nm "limit", .int true 60)], pre q 29 [],
  [.loop (l778 n) (pre q 29 (lA n O I (.dict false (dK n)) (.dict true []) (.fam (up1 n) fKF) (.fam (up1 n) fNil) [])),
   .call (.ref 46) (pre q 29 (lA n O I (.dict false (dK n)) (.dict true []) (.fam (up1 n) fKF) (.fam (up1 n) fNil) (lW n I []))),
   .loop (l740 n) (led778 u n O I ga gb gc []),
   .loop (l743 n) (led778 u n O I ga gb gc [.list false l, f57]),
   .bit false, .call (.int false m) (led778 u n O I ga gb gc [.list false l, f57, f58]), .bit false]⟩)) =
    (LoopOk S (90) en734 s734 ([(nm "symbols", .ref 4), (nm "instrs", .ref 26), (nm "arity", ii n), (nm "limit", .int true 60), (nm "file", .ref 29), (nm "temporaries", .ref 32)]) (pre q 29 [.inst 753 [(nm "taken", .ref 30), (nm "home", .ref 31)], .dict true [], .dict true [], .list true []]) (l778 n) (pre q 29 [iFile, .dict false (dK n), .dict true [], .list false (tL n), .fam (up1 n) fKF, .fam (up1 n) fNil, .list false (inL n ++ tL n ++ ouL n), .dict false (dIn n), .fam (up1 n) fInF, .dict false (dOu n), .dict false (dT n), .fam (upTo n) (fTF n I), .fam (up1 n) (fOuF n), .fam (upTo (n + n)) (fR n O), .dict true [], .list true [], .list false (foundL n)]) ∧ CallOk S (80) (708) ([.ref 26]) (pre q 29 [iFile, .dict false (dK n), .dict true [], .list false (tL n), .fam (up1 n) fKF, .fam (up1 n) fNil, .list false (inL n ++ tL n ++ ouL n), .dict false (dIn n), .fam (up1 n) fInF, .dict false (dOu n), .dict false (dT n), .fam (upTo n) (fTF n I), .fam (up1 n) (fOuF n), .fam (upTo (n + n)) (fR n O), .dict true [], .list true [], .list false (foundL n)]) (.ref 46) (pre q 29 (iFile :: .dict false (dK n) :: .dict true [] :: .list false (tL n) :: .fam (up1 n) fKF :: .fam (up1 n) fNil :: .list false (inL n ++ tL n ++ ouL n) :: .dict false (dIn n) :: .fam (up1 n) fInF :: .dict false (dOu n) :: .dict false (dT n) :: .fam (upTo n) (fTF n I) :: .fam (up1 n) (fOuF n) :: .fam (upTo (n + n)) (fR n O) :: .dict true [] :: .list true [] :: .list false (foundL n) :: lW n I [])) ∧ LoopOk S (60) en740 s740 ([(nm "symbols", .ref 4), (nm "instrs", .ref 26), (nm "arity", ii n), (nm "limit", .int true 60), (nm "file", .ref 29), (nm "temporaries", .ref 32), (nm "wanted", .ref 46)]) (pre q 29 (iFile :: .dict false (dK n) :: .dict true [] :: .list false (tL n) :: .fam (up1 n) fKF :: .fam (up1 n) fNil :: .list false (inL n ++ tL n ++ ouL n) :: .dict false (dIn n) :: .fam (up1 n) fInF :: .dict false (dOu n) :: .dict false (dT n) :: .fam (upTo n) (fTF n I) :: .fam (up1 n) (fOuF n) :: .fam (upTo (n + n)) (fR n O) :: .dict true [] :: .list true [] :: .list false (foundL n) :: lW n I [])) (l740 n) (led778 u n O I ga gb gc []) ∧ LoopOk S (40) en743 s743 ([(nm "symbols", .ref 4), (nm "instrs", .ref 26), (nm "arity", ii n), (nm "limit", .int true 60), (nm "file", .ref 29), (nm "temporaries", .ref 32), (nm "wanted", .ref 46), (nm "real", .ref 56)]) (pre u 29 [iFile, .dict false (dK3 n (cB I n)), .dict false (dH n I n), .list false (tL n), .fam (up1 n) (fK3 I n), .fam (up1 n) fNil, .list false (inL n ++ tL n ++ ouL n), .dict false (dIn n), .fam (up1 n) fInF, .dict false (dOu n), .dict false (dT n), .fam (upTo n) (fTF n I), .fam (up1 n) (fOuF n), .fam (upTo (n + n)) (fR n O), .dict true [], .list true [], .list false (foundL n), .dict false (dW n), .fam (upTo n) (fWF I), .fam (upTo n) fNil, .fam (upTo n) fNil, .fam (upTo n) fNil, .fam ga fNil, .fam (ksX n (cB I n)) (fX n I n), .fam gb fNil, .fam gc fNil, .list false (tL n), .list true []]) (l743 n) (led778 u n O I ga gb gc [.list false l, f57]) ∧ ((decide ((↑n : Int) > 60)) = (false)) ∧ CallOk S (60) (797) ([.ref 56]) (pre u 29 (iFile :: .dict false (dK3 n (cB I n)) :: .dict false (dH n I n) :: .list false (tL n) :: .fam (up1 n) (fK3 I n) :: .fam (up1 n) fNil :: .list false (inL n ++ tL n ++ ouL n) :: .dict false (dIn n) :: .fam (up1 n) fInF :: .dict false (dOu n) :: .dict false (dT n) :: .fam (upTo n) (fTF n I) :: .fam (up1 n) (fOuF n) :: .fam (upTo (n + n)) (fR n O) :: .dict true [] :: .list true [] :: .list false (foundL n) :: lW n I (lP n I ga gb gc [.list false l, f57]))) (.int false m) (led778 u n O I ga gb gc [.list false l, f57, f58]) ∧ ((decide (m > 60)) = (false)) ∧ True) := by kernel_rfl
noncomputable def ByStartOk (S : Fix) : Prop := ∀ (n : Nat) (I : Nat → Nat) (L : Led), 1 ≤ n → n ≤ 60 → L[0]? = some (.tab true) → L[32]? = some (.list false (tL n)) → L[40]? = some (.fam (upTo n) (fTF n I)) →
  CallOk S 8 764 [.ref 32] L (.ref L.length) (L.set 0 (.tab false) ++ [.list false (tL n)])
theorem sc757_ok : CompSc sc757 (nm "instruction") := ⟨by decide +kernel, rfl, by decide +kernel, by decide +kernel⟩
theorem sc757_nf : ∀ y ∈ sc757.names, y.2 ≠ .free := by decide +kernel
theorem idle_glob : look (nm "is_idle") Γ₀.glob = some (.val (.ref 785)) := by kernel_rfl
theorem idle_fn : lookN 785 Γ₀.fns = some f_is_idle := by kernel_rfl
theorem idle_kind (c : Cx) (C : Addr) : (compEnvC sc757 [] C c.env).kindOf (nm "is_idle") = some .globalImplicit := by kernel_rfl
noncomputable def keepQ (l : List SV) (p : SV → Bool) : List SV := l.filter p
noncomputable def idleV : SV → Bool
  | .tup [_, .tup [_, .int _ a], .tup [_, .int _ b]] => decide (a = b)
  | _ => false
theorem busy_rows (l : List Row) : (rowsL l).filter (fun v => !idleV v) = rowsL (busy l) := by
  unfold rowsL busy
  rw [List.filter_append, List.filter_map]
  congr 1
  refine congrArg _ (List.filter_congr fun r _ => ?_)
  obtain ⟨c, a, b⟩ := r
  cases c <;> rfl
noncomputable def rowsR (n : Nat) (O I : Nat → Nat) : List Row := (List.range n).map (fun k => (true, ((hm n I k : Nat) : Int), ((k + 1 : Nat) : Int))) ++ (List.range n).map (fun j => (false, ((hm n I (O j) : Nat) : Int), ((j + 1 : Nat) : Int)))
theorem real_rows (n : Nat) (O I : Nat → Nat) : realL n O I = rowsL (rowsR n O I) := by
  unfold realL rowsL rowsR rgvL rpvL
  rw [List.map_append, List.map_map, List.map_map]; rfl
theorem rowsR_len (n : Nat) (O I : Nat → Nat) : (rowsR n O I).length = n + n := by unfold rowsR; rw [List.length_append, map_len, map_len]
theorem mx_le {l : List Row} {B : Int} (hB : 0 ≤ B) (h : ∀ r ∈ l, r.2.1 ≤ B ∧ r.2.2 ≤ B) : mx l ≤ B := by
  unfold mx
  suffices H : ∀ (l : List Row) (m : Int), m ≤ B → (∀ r ∈ l, r.2.1 ≤ B ∧ r.2.2 ≤ B) → l.foldl mxR m ≤ B from H l 0 hB h
  intro l
  induction l with
  | nil => intro m hm _; exact hm
  | cons r l ih =>
    intro m hm h
    have := h r (.head _)
    exact ih _ (by unfold mxR; omega) fun r hr => h r (.tail _ hr)
theorem hm_le {n k : Nat} (I : Nat → Nat) (h : k < n) : hm n I k ≤ n + n := by
  unfold hm
  have := cB_le I k
  split <;> omega
theorem rowsR_le {n : Nat} {O I : Nat → Nat} (P : Inv n O I) : ∀ r ∈ rowsR n O I, r.2.1 ≤ ((n + n : Nat) : Int) ∧ r.2.2 ≤ ((n + n : Nat) : Int) := by
  intro r hr
  unfold rowsR at hr
  rcases List.mem_append.mp hr with hr | hr
  · obtain ⟨k, hk, rfl⟩ := List.mem_map.mp hr
    have hk := List.mem_range.mp hk
    have := hm_le I hk
    exact ⟨by show ((hm n I k : Nat) : Int) ≤ _; omega, by show ((k + 1 : Nat) : Int) ≤ _; omega⟩
  · obtain ⟨j, hj, rfl⟩ := List.mem_map.mp hr
    have hj := List.mem_range.mp hj
    have := hm_le I (P.lt j hj)
    exact ⟨by show ((hm n I (O j) : Nat) : Int) ≤ _; omega, by show ((j + 1 : Nat) : Int) ≤ _; omega⟩
theorem fn790 : lookN 790 Γ₀.fns = some f_peephole := by kernel_rfl
theorem za790 : zipArgs f_peephole.params [.ref 56] = some [(nm "instrs", .ref 56)] := by kernel_rfl
theorem fn778 : lookN 778 Γ₀.fns = some f_allocate := by kernel_rfl
theorem za778 (n : Nat) : zipArgs f_allocate.params [.ref 4, .ref 26, ii n, .int true 60] = some [(nm "symbols", .ref 4), (nm "instrs", .ref 26), (nm "arity", ii n), (nm "limit", .int true 60)] := by kernel_rfl
section
variable {prog : Program} {w : World} {K : Frag} {mg mb : Str → Option Value}
theorem comp757 (V : Valid K mg mb Γ₀) (q : Nat → SO) (x57 x58 : SO) (l : List Row) (hl : l.length ≤ 900) : CompOk (Sx prog w K mg mb) 77 en757 s757 [(nm "instrs", .ref 56)] (pre q 56 [.list false (rowsL l), x57, x58]) (rowsL (busy l)) (pre q 56 [.list false (rowsL l), x57, x58]) := by
  obtain ⟨o, e1, ho⟩ := run_ok (S := Sx prog w K mg mb) (stepI757 (pre q 56 [.list false (rowsL l), x57, x58]) []) (by rw [obsI757]; trivial)
  rw [← busy_rows]
  refine compOk_filter (S := Sx prog w K mg mb) (n := 76) (en := en757) (ifs := if757) (pos := ps 757 11 78) (px := ps 757 28 39) (p0 := ps 757 12 23) (q := fun v => !idleV v) V (it := .Name (nm "instrs") (ps 757 43 49)) rfl sc757_ok (by decide +kernel) e1 ho (C := false) (l := rowsL l) (fun orc => seeObj_ref rfl rfl) (by rw [rows_len]; omega) fun c k => ⟨[], closure_nil sc757_nf, fun orc v hv => ?_⟩
  have cn : ∀ v pos, CEv (Sx prog w K mg mb) en757 c sc757 [] (nm "instruction") v ⟨[(nm "instrs", .ref 56)], pre q 56 [.list false (rowsL l), x57, x58], orc⟩ (.Name (nm "instruction") pos) v := fun v pos => cev_name sc757_ok.kind sc757_ok.own (by decide +kernel)
  unfold rowsL at hv
  rcases List.mem_append.mp hv with hv | hv
  · obtain ⟨⟨cc, a, b⟩, _, rfl⟩ := List.mem_map.mp hv
    cases cc with
    | true =>
      obtain ⟨o, e, h⟩ := run_ok (S := Sx prog w K mg mb) (stepG757 [(nm "instrs", .ref 56)] (pre q 56 [.list false (rowsL l), x57, x58]) orc a b) (by rw [obsG757]; trivial)
      exact cts_not_call (n := 76) V k (a := 785) rfl (idle_kind c) (by decide +kernel) idle_glob idle_fn rfl (cn _ _) e h rfl
    | false =>
      obtain ⟨o, e, h⟩ := run_ok (S := Sx prog w K mg mb) (stepP757 [(nm "instrs", .ref 56)] (pre q 56 [.list false (rowsL l), x57, x58]) orc a b) (by rw [obsP757]; trivial)
      exact cts_not_call (n := 76) V k (a := 785) rfl (idle_kind c) (by decide +kernel) idle_glob idle_fn rfl (cn _ _) e h rfl
  · obtain rfl := List.mem_singleton.mp hv
    obtain ⟨o, e, h⟩ := run_ok (S := Sx prog w K mg mb) (stepE757 [(nm "instrs", .ref 56)] (pre q 56 [.list false (rowsL l), x57, x58]) orc) (by rw [obsE757]; trivial)
    exact cts_not_call (n := 76) V k (a := 785) rfl (idle_kind c) (by decide +kernel) idle_glob idle_fn rfl (cn _ _) e h rfl
theorem call790 (V : Valid K mg mb Γ₀) (q : Nat → SO) (x57 x58 : SO) (l : List Row) (hl : l.length ≤ 900) : CallOk (Sx prog w K mg mb) 80 790 [.ref 56] (pre q 56 [.list false (rowsL l), x57, x58]) (.ref 59) (pre q 56 [.list false (rowsL l), x57, x58, .list false (rowsL (busy l))]) :=
  callOk_run (n := 79) V fn790 za790 (stepF790 q (.list false (rowsL l)) x57 x58 (rowsL (busy l))) (obsF790 _ q (.list false (rowsL l)) x57 x58 (rowsL (busy l))) ⟨comp757 V q x57 x58 l hl, trivial⟩
noncomputable abbrev ledA (q : Nat → SO) (n : Nat) (O I : Nat → Nat) : Led := led778 (q0 q) n O I (ksA I n) (ksB I n) (upTo (gC n I n)) [.list false (rowsL (rowsR n O I)), .fam (upTo (n + n + 1)) (fP n O I), .fam (upTo ((rowsR n O I).length + 1)) (fRo (rowsR n O I))]
theorem call778 (V : Valid K mg mb Γ₀) (B : ByStartOk (Sx prog w K mg mb)) (q : Nat → SO) {n : Nat} (h1 : 1 ≤ n) (hn : n ≤ 20) {O I : Nat → Nat} (P : Inv n O I) (ht : q 0 = .tab true) (h26 : q 26 = .list false (codeL n O)) :
    CallOk (Sx prog w K mg mb) 100 778 [.ref 4, .ref 26, ii n, .int true 60] (pre q 29 []) (.ref 56) (ledA q n O I) := by
  have hm := mx_le (l := rowsR n O I) (B := ((n + n : Nat) : Int)) (by omega) (rowsR_le P)
  have h743 := loop743 (prog := prog) (w := w) V (q0 q) (pf (led778 (q0 q) n O I (ksA I n) (ksB I n) (upTo (gC n I n)) [])) (show n ≤ 60 by omega) (by exact h26) P
  rw [real_rows] at h743
  refine callOk_run (n := 99) V fn778 (za778 n) (stepF778 q (q0 q) n O I (mx (rowsR n O I)) (rowsL (rowsR n O I)) (ksA I n) (ksB I n) (upTo (gC n I n)) [] (.fam (upTo (n + n + 1)) (fP n O I)) (.fam (upTo ((rowsR n O I).length + 1)) (fRo (rowsR n O I)))) (obsF778 _ q (q0 q) n O I (mx (rowsR n O I)) (rowsL (rowsR n O I)) (ksA I n) (ksB I n) (upTo (gC n I n)) [] (.fam (upTo (n + n + 1)) (fP n O I)) (.fam (upTo ((rowsR n O I).length + 1)) (fRo (rowsR n O I))))
    ⟨loop734 V q (by omega) h26 P, ?_, ?_, h743, decide_eq_false (by omega), ?_, decide_eq_false (by omega), trivial⟩
  · exact call708 V (pf (pre q 29 (lA n O I (.dict false (dK n)) (.dict true []) (.fam (up1 n) fKF) (.fam (up1 n) fNil) []))) (by omega) h26 P
  · exact loop740 V q (pf (pre q 29 (lA n O I (.dict false (dK n)) (.dict true []) (.fam (up1 n) fKF) (.fam (up1 n) fNil) (lW n I [])))) (by omega) P rfl fun a49 a50 a51 a52 a53 a54 => B n I _ h1 (by omega) (congrArg some ht) rfl rfl
  · exact call797a V (pf (led778 (q0 q) n O I (ksA I n) (ksB I n) (upTo (gC n I n)) [.list false (rowsL (rowsR n O I)), .fam (upTo (n + n + 1)) (fP n O I)])) (rowsR n O I) (by rw [rowsR_len]; omega)
end
set_option tactic.hygienic false
open PySem PySem.W PySem.Calls PyProof.Rows PySem.SeqAt
noncomputable abbrev en832 : En := ⟨f_compile_kernel.sc, []⟩
noncomputable abbrev iK2 (n : Nat) (hs : List SV) : SO := .inst 217 [(nm "functor", .int true 32), (nm "args", .tup (vk 0 :: hs)), (nm "goals", .ref 15), (nm "count", .int false n)]
noncomputable abbrev lB (n : Nat) (O : Nat → Nat) (K : SO) (r : Led) : Led := c15 n O :: K :: .list true [.int true 0] :: iSurvey :: .dict false (d19 n) :: .fam (upTo n) (vinfo 2 0) :: .list true [] :: .list false (upL n) :: .list true [.int true 0] :: iPlan :: iMaker n :: .list false (codeL n O) :: .set false (upTo n) :: .set false (upTo n) :: r
noncomputable abbrev lB0 (n : Nat) (O : Nat → Nat) (K : SO) : Led := [c15 n O, K, .list true [.int true 0], iSurvey, .dict false (d19 n), .fam (upTo n) (vinfo 2 0), .list true [], .list false (upL n), .list true [.int true 0], iPlan]
noncomputable abbrev lF (n : Nat) (O I : Nat → Nat) (ga gb gc : List Int) (r : Led) : Led := lA n O I (.dict false (dK3 n (cB I n))) (.dict false (dH n I n)) (.fam (up1 n) (fK3 I n)) (.fam (up1 n) fNil) (lW n I (lP n I ga gb gc r))
noncomputable abbrev o832 (p u : Nat → SO) (n : Nat) (O I : Nat → Nat) (hs l l' : List SV) (m : Int) (b : Bool) (ga gb gc : List Int) (f57 f58 f60 : SO) : List Orc := [.call (.ref 24) (pre p 15 (lB0 n O (iK2 n hs))), .call (.ref 26) (pre p 15 (lB n O (iK2 n hs) [])),
  .call (.ref 56) (pre u 15 (lB n O (iK2 n hs) (lF n O I ga gb gc [.list false l, f57, f58]))), .call (.ref 59) (pre u 15 (lB n O (iK2 n hs) (lF n O I ga gb gc [.list false l, f57, f58, .list false l']))),
  .call (.int false m) (pre u 15 (lB n O (iK2 n hs) (lF n O I ga gb gc [.list false l, f57, f58, .list false l', f60]))), .bit b, .bit false]
theorem stepT832 (p u : Nat → SO) (n : Nat) (O I : Nat → Nat) (hs l l' : List SV) (m : Int) (ga gb gc : List Int) (f57 f58 f60 : SO) :
    outOf ((run Γ₀ 119).ex en832 f_compile_kernel.body ⟨[(nm "symbols", .ref 4), (nm "kernel", .ref 16), (nm "limit", .int true 60)], pre p 15 [c15 n O, iK2 n hs], o832 p u n O I hs l l' m true ga gb gc f57 f58 f60⟩) =
    some (.ret (.ref 61), { loc := [(nm "symbols", .ref 4), (nm "kernel", .ref 16), (nm "limit", .int true 60), (nm "plan", .ref 24), (nm "abstract", .ref 26), (nm "arity", .int false (↑(vk 0 :: hs).length : Int)), (nm "instrs", .ref 59), (nm "used", .int false (↑(vk 0 :: hs).length : Int))], led := pre u 15 [c15 n O, iK2 n hs, .list true [.int true 0], iSurvey, .dict false (d19 n), .fam (upTo n) (vinfo 2 0), .list true [], .list false (upL n), .list true [.int true 0], iPlan, iMaker n, .list false (codeL n O), .set false (upTo n), .set false (upTo n), iFile, .dict false (dK3 n (cB I n)), .dict false (dH n I n), .list false (tL n), .fam (up1 n) (fK3 I n), .fam (up1 n) fNil, .list false (inL n ++ tL n ++ ouL n), .dict false (dIn n), .fam (up1 n) fInF, .dict false (dOu n), .dict false (dT n), .fam (upTo n) (fTF n I), .fam (up1 n) (fOuF n), .fam (upTo (n + n)) (fR n O), .dict true [], .list true [], .list false (foundL n), .dict false (dW n), .fam (upTo n) (fWF I), .fam (upTo n) fNil, .fam (upTo n) fNil, .fam (upTo n) fNil, .fam ga fNil, .fam (ksX n (cB I n)) (fX n I n), .fam gb fNil, .fam gc fNil, .list false (tL n), .list false l, f57, f58, .list false l', f60, .inst 814 [(nm "functor", .int true 32), (nm "key", .tup [.str (nm "var")]), (nm "instrs", .ref 59), (nm "used", .int false (↑(vk 0 :: hs).length : Int))]], orc := [] }) := by kernel_rfl
theorem obsT832 (S : Fix) (p u : Nat → SO) (n : Nat) (O I : Nat → Nat) (hs l l' : List SV) (m : Int) (ga gb gc : List Int) (f57 f58 f60 : SO) :
    AllH S (obsOf ((run Γ₀ 119).ex en832 f_compile_kernel.body ⟨[(nm "symbols", .ref 4), (nm "kernel", .ref 16), (nm "limit", .int true 60)], pre p 15 [c15 n O, iK2 n hs], o832 p u n O I hs l l' m true ga gb gc f57 f58 f60⟩)) =
    (CallOk S (80) (375) ([.ref 16]) (pre p 15 [c15 n O, iK2 n hs]) (.ref 24) (pre p 15 [c15 n O, iK2 n hs, .list true [.int true 0], iSurvey, .dict false (d19 n), .fam (upTo n) (vinfo 2 0), .list true [], .list false (upL n), .list true [.int true 0], iPlan]) ∧ CallOk S (80) (654) ([.ref 4, .ref 16, .ref 24]) (pre p 15 [c15 n O, iK2 n hs, .list true [.int true 0], iSurvey, .dict false (d19 n), .fam (upTo n) (vinfo 2 0), .list true [], .list false (upL n), .list true [.int true 0], iPlan]) (.ref 26) (pre p 15 [c15 n O, iK2 n hs, .list true [.int true 0], iSurvey, .dict false (d19 n), .fam (upTo n) (vinfo 2 0), .list true [], .list false (upL n), .list true [.int true 0], iPlan, iMaker n, .list false (codeL n O), .set false (upTo n), .set false (upTo n)]) ∧ ((((↑(vk 0 :: hs).length : Int)) : Int) ≤ (999)) ∧ CallOk S (100) (778) ([.ref 4, .ref 26, .int false (↑(vk 0 :: hs).length : Int), .int true 60]) (pre p 15 [c15 n O, iK2 n hs, .list true [.int true 0], iSurvey, .dict false (d19 n), .fam (upTo n) (vinfo 2 0), .list true [], .list false (upL n), .list true [.int true 0], iPlan, iMaker n, .list false (codeL n O), .set false (upTo n), .set false (upTo n)]) (.ref 56) (pre u 15 (c15 n O :: iK2 n hs :: .list true [.int true 0] :: iSurvey :: .dict false (d19 n) :: .fam (upTo n) (vinfo 2 0) :: .list true [] :: .list false (upL n) :: .list true [.int true 0] :: iPlan :: iMaker n :: .list false (codeL n O) :: .set false (upTo n) :: .set false (upTo n) :: lF n O I ga gb gc [.list false l, f57, f58])) ∧ CallOk S (80) (790) ([.ref 56]) (pre u 15 (c15 n O :: iK2 n hs :: .list true [.int true 0] :: iSurvey :: .dict false (d19 n) :: .fam (upTo n) (vinfo 2 0) :: .list true [] :: .list false (upL n) :: .list true [.int true 0] :: iPlan :: iMaker n :: .list false (codeL n O) :: .set false (upTo n) :: .set false (upTo n) :: lF n O I ga gb gc [.list false l, f57, f58])) (.ref 59) (pre u 15 (c15 n O :: iK2 n hs :: .list true [.int true 0] :: iSurvey :: .dict false (d19 n) :: .fam (upTo n) (vinfo 2 0) :: .list true [] :: .list false (upL n) :: .list true [.int true 0] :: iPlan :: iMaker n :: .list false (codeL n O) :: .set false (upTo n) :: .set false (upTo n) :: lF n O I ga gb gc [.list false l, f57, f58, .list false l'])) ∧ CallOk S (60) (797) ([.ref 59]) (pre u 15 (c15 n O :: iK2 n hs :: .list true [.int true 0] :: iSurvey :: .dict false (d19 n) :: .fam (upTo n) (vinfo 2 0) :: .list true [] :: .list false (upL n) :: .list true [.int true 0] :: iPlan :: iMaker n :: .list false (codeL n O) :: .set false (upTo n) :: .set false (upTo n) :: lF n O I ga gb gc [.list false l, f57, f58, .list false l'])) (.int false m) (pre u 15 (c15 n O :: iK2 n hs :: .list true [.int true 0] :: iSurvey :: .dict false (d19 n) :: .fam (upTo n) (vinfo 2 0) :: .list true [] :: .list false (upL n) :: .list true [.int true 0] :: iPlan :: iMaker n :: .list false (codeL n O) :: .set false (upTo n) :: .set false (upTo n) :: lF n O I ga gb gc [.list false l, f57, f58, .list false l', f60])) ∧ ((decide (m < (↑(vk 0 :: hs).length : Int))) = (true)) ∧ ((((↑(vk 0 :: hs).length : Int)) : Int) ≤ (999)) ∧ ((decide ((↑(vk 0 :: hs).length : Int) = 0)) = (false)) ∧ True) := by kernel_rfl
theorem stepF832 (p u : Nat → SO) (n : Nat) (O I : Nat → Nat) (hs l l' : List SV) (m : Int) (ga gb gc : List Int) (f57 f58 f60 : SO) :
    outOf ((run Γ₀ 119).ex en832 f_compile_kernel.body ⟨[(nm "symbols", .ref 4), (nm "kernel", .ref 16), (nm "limit", .int true 60)], pre p 15 [c15 n O, iK2 n hs], o832 p u n O I hs l l' m false ga gb gc f57 f58 f60⟩) =
    some (.ret (.ref 61), { loc := [(nm "symbols", .ref 4), (nm "kernel", .ref 16), (nm "limit", .int true 60), (nm "plan", .ref 24), (nm "abstract", .ref 26), (nm "arity", .int false (↑(vk 0 :: hs).length : Int)), (nm "instrs", .ref 59), (nm "used", .int false m)], led := pre u 15 [c15 n O, iK2 n hs, .list true [.int true 0], iSurvey, .dict false (d19 n), .fam (upTo n) (vinfo 2 0), .list true [], .list false (upL n), .list true [.int true 0], iPlan, iMaker n, .list false (codeL n O), .set false (upTo n), .set false (upTo n), iFile, .dict false (dK3 n (cB I n)), .dict false (dH n I n), .list false (tL n), .fam (up1 n) (fK3 I n), .fam (up1 n) fNil, .list false (inL n ++ tL n ++ ouL n), .dict false (dIn n), .fam (up1 n) fInF, .dict false (dOu n), .dict false (dT n), .fam (upTo n) (fTF n I), .fam (up1 n) (fOuF n), .fam (upTo (n + n)) (fR n O), .dict true [], .list true [], .list false (foundL n), .dict false (dW n), .fam (upTo n) (fWF I), .fam (upTo n) fNil, .fam (upTo n) fNil, .fam (upTo n) fNil, .fam ga fNil, .fam (ksX n (cB I n)) (fX n I n), .fam gb fNil, .fam gc fNil, .list false (tL n), .list false l, f57, f58, .list false l', f60, .inst 814 [(nm "functor", .int true 32), (nm "key", .tup [.str (nm "var")]), (nm "instrs", .ref 59), (nm "used", .int false m)]], orc := [] }) := by kernel_rfl
theorem obsF832 (S : Fix) (p u : Nat → SO) (n : Nat) (O I : Nat → Nat) (hs l l' : List SV) (m : Int) (ga gb gc : List Int) (f57 f58 f60 : SO) :
    AllH S (obsOf ((run Γ₀ 119).ex en832 f_compile_kernel.body ⟨[(nm "symbols", .ref 4), (nm "kernel", .ref 16), (nm "limit", .int true 60)], pre p 15 [c15 n O, iK2 n hs], o832 p u n O I hs l l' m false ga gb gc f57 f58 f60⟩)) =
    (CallOk S (80) (375) ([.ref 16]) (pre p 15 [c15 n O, iK2 n hs]) (.ref 24) (pre p 15 [c15 n O, iK2 n hs, .list true [.int true 0], iSurvey, .dict false (d19 n), .fam (upTo n) (vinfo 2 0), .list true [], .list false (upL n), .list true [.int true 0], iPlan]) ∧ CallOk S (80) (654) ([.ref 4, .ref 16, .ref 24]) (pre p 15 [c15 n O, iK2 n hs, .list true [.int true 0], iSurvey, .dict false (d19 n), .fam (upTo n) (vinfo 2 0), .list true [], .list false (upL n), .list true [.int true 0], iPlan]) (.ref 26) (pre p 15 [c15 n O, iK2 n hs, .list true [.int true 0], iSurvey, .dict false (d19 n), .fam (upTo n) (vinfo 2 0), .list true [], .list false (upL n), .list true [.int true 0], iPlan, iMaker n, .list false (codeL n O), .set false (upTo n), .set false (upTo n)]) ∧ ((((↑(vk 0 :: hs).length : Int)) : Int) ≤ (999)) ∧ CallOk S (100) (778) ([.ref 4, .ref 26, .int false (↑(vk 0 :: hs).length : Int), .int true 60]) (pre p 15 [c15 n O, iK2 n hs, .list true [.int true 0], iSurvey, .dict false (d19 n), .fam (upTo n) (vinfo 2 0), .list true [], .list false (upL n), .list true [.int true 0], iPlan, iMaker n, .list false (codeL n O), .set false (upTo n), .set false (upTo n)]) (.ref 56) (pre u 15 (c15 n O :: iK2 n hs :: .list true [.int true 0] :: iSurvey :: .dict false (d19 n) :: .fam (upTo n) (vinfo 2 0) :: .list true [] :: .list false (upL n) :: .list true [.int true 0] :: iPlan :: iMaker n :: .list false (codeL n O) :: .set false (upTo n) :: .set false (upTo n) :: lF n O I ga gb gc [.list false l, f57, f58])) ∧ CallOk S (80) (790) ([.ref 56]) (pre u 15 (c15 n O :: iK2 n hs :: .list true [.int true 0] :: iSurvey :: .dict false (d19 n) :: .fam (upTo n) (vinfo 2 0) :: .list true [] :: .list false (upL n) :: .list true [.int true 0] :: iPlan :: iMaker n :: .list false (codeL n O) :: .set false (upTo n) :: .set false (upTo n) :: lF n O I ga gb gc [.list false l, f57, f58])) (.ref 59) (pre u 15 (c15 n O :: iK2 n hs :: .list true [.int true 0] :: iSurvey :: .dict false (d19 n) :: .fam (upTo n) (vinfo 2 0) :: .list true [] :: .list false (upL n) :: .list true [.int true 0] :: iPlan :: iMaker n :: .list false (codeL n O) :: .set false (upTo n) :: .set false (upTo n) :: lF n O I ga gb gc [.list false l, f57, f58, .list false l'])) ∧ CallOk S (60) (797) ([.ref 59]) (pre u 15 (c15 n O :: iK2 n hs :: .list true [.int true 0] :: iSurvey :: .dict false (d19 n) :: .fam (upTo n) (vinfo 2 0) :: .list true [] :: .list false (upL n) :: .list true [.int true 0] :: iPlan :: iMaker n :: .list false (codeL n O) :: .set false (upTo n) :: .set false (upTo n) :: lF n O I ga gb gc [.list false l, f57, f58, .list false l'])) (.int false m) (pre u 15 (c15 n O :: iK2 n hs :: .list true [.int true 0] :: iSurvey :: .dict false (d19 n) :: .fam (upTo n) (vinfo 2 0) :: .list true [] :: .list false (upL n) :: .list true [.int true 0] :: iPlan :: iMaker n :: .list false (codeL n O) :: .set false (upTo n) :: .set false (upTo n) :: lF n O I ga gb gc [.list false l, f57, f58, .list false l', f60])) ∧ ((decide (m < (↑(vk 0 :: hs).length : Int))) = (false)) ∧ ((((↑(vk 0 :: hs).length : Int)) : Int) ≤ (999)) ∧ ((decide ((↑(vk 0 :: hs).length : Int) = 0)) = (false)) ∧ True) := by kernel_rfl
theorem fn832 : lookN 832 Γ₀.fns = some f_compile_kernel := by kernel_rfl
theorem za832 : zipArgs f_compile_kernel.params [.ref 4, .ref 16, .int true 60] = some [(nm "symbols", .ref 4), (nm "kernel", .ref 16), (nm "limit", .int true 60)] := by kernel_rfl
theorem heads_cons {n : Nat} (h : 1 ≤ n) : ∃ hs, headsV n = vk 0 :: hs := by
  obtain ⟨m, rfl⟩ : ∃ m, n = m + 1 := ⟨n - 1, by omega⟩
  exact ⟨_, by unfold headsV; rw [List.range_succ_eq_map, List.map_cons]⟩
noncomputable abbrev iCode (u : Int) : SO := .inst 814 [(nm "functor", .int true 32), (nm "key", .tup [.str (nm "var")]), (nm "instrs", .ref 59), (nm "used", .int false u)]
noncomputable abbrev led832 (p : Nat → SO) (n : Nat) (O I : Nat → Nat) : Led := pre (q0 p) 15 (lB n O (iKernel n) (lF n O I (ksA I n) (ksB I n) (upTo (gC n I n)) [.list false (rowsL (rowsR n O I)), .fam (upTo (n + n + 1)) (fP n O I), .fam (upTo ((rowsR n O I).length + 1)) (fRo (rowsR n O I)),
  .list false (rowsL (busy (rowsR n O I))), .fam (upTo ((busy (rowsR n O I)).length + 1)) (fRo (busy (rowsR n O I))), iCode (max (mx (busy (rowsR n O I))) n)]))
section
variable {prog : Program} {w : World} {K : Frag} {mg mb : Str → Option Value}
theorem call832 (V : Valid K mg mb Γ₀) (B : ByStartOk (Sx prog w K mg mb)) (p : Nat → SO) {n : Nat} (h1 : 1 ≤ n) (hn : n ≤ 20) {O I : Nat → Nat} (P : Inv n O I) (ht : p 0 = .tab true) :
    CallOk (Sx prog w K mg mb) 120 832 [.ref 4, .ref 16, .int true 60] (pre p 15 [c15 n O, iKernel n]) (.ref 61) (led832 p n O I) := by
  obtain ⟨hs, e⟩ := heads_cons h1
  have ek : iKernel n = iK2 n hs := by show SO.inst 217 _ = SO.inst 217 _; rw [e]
  have hlen : (vk 0 :: hs).length = n := by rw [← e]; simp [headsV]
  have hR := rowsR_len n O I
  have hR2 : (busy (rowsR n O I)).length ≤ 900 := by
    have := List.length_filter_le (fun r : Row => !idleB r) (rowsR n O I)
    unfold busy; omega
  have c1 : CallOk (Sx prog w K mg mb) 80 375 [.ref 16] (pre p 15 [c15 n O, iK2 n hs]) (.ref 24) (pre p 15 (lB0 n O (iK2 n hs))) := by
    rw [← ek]; exact call375 V p (by omega) P.perm
  have c2 : CallOk (Sx prog w K mg mb) 80 654 [.ref 4, .ref 16, .ref 24] (pre p 15 (lB0 n O (iK2 n hs))) (.ref 26) (pre p 15 (lB n O (iK2 n hs) [])) := by
    rw [← ek]; exact call654 V p (by omega) P.perm
  have c3 : CallOk (Sx prog w K mg mb) 100 778 [.ref 4, .ref 26, .int false ((vk 0 :: hs).length : Nat), .int true 60] (pre p 15 (lB n O (iK2 n hs) [])) (.ref 56) (pre (q0 p) 15 (lB n O (iK2 n hs) (lF n O I (ksA I n) (ksB I n) (upTo (gC n I n)) [.list false (rowsL (rowsR n O I)), .fam (upTo (n + n + 1)) (fP n O I), .fam (upTo ((rowsR n O I).length + 1)) (fRo (rowsR n O I))]))) := by
    rw [hlen]
    exact call778 V B (pf (pre p 15 (lB n O (iK2 n hs) []))) h1 hn P ht rfl
  have c4 : CallOk (Sx prog w K mg mb) 80 790 [.ref 56] (pre (q0 p) 15 (lB n O (iK2 n hs) (lF n O I (ksA I n) (ksB I n) (upTo (gC n I n)) [.list false (rowsL (rowsR n O I)), .fam (upTo (n + n + 1)) (fP n O I), .fam (upTo ((rowsR n O I).length + 1)) (fRo (rowsR n O I))]))) (.ref 59)
      (pre (q0 p) 15 (lB n O (iK2 n hs) (lF n O I (ksA I n) (ksB I n) (upTo (gC n I n)) [.list false (rowsL (rowsR n O I)), .fam (upTo (n + n + 1)) (fP n O I), .fam (upTo ((rowsR n O I).length + 1)) (fRo (rowsR n O I)), .list false (rowsL (busy (rowsR n O I)))]))) :=
    call790 V (pf (pre (q0 p) 15 (lB n O (iK2 n hs) (lF n O I (ksA I n) (ksB I n) (upTo (gC n I n)) [])))) _ _ (rowsR n O I) (by omega)
  have c5 : CallOk (Sx prog w K mg mb) 60 797 [.ref 59] (pre (q0 p) 15 (lB n O (iK2 n hs) (lF n O I (ksA I n) (ksB I n) (upTo (gC n I n)) [.list false (rowsL (rowsR n O I)), .fam (upTo (n + n + 1)) (fP n O I), .fam (upTo ((rowsR n O I).length + 1)) (fRo (rowsR n O I)), .list false (rowsL (busy (rowsR n O I)))]))) (.int false (mx (busy (rowsR n O I))))
      (pre (q0 p) 15 (lB n O (iK2 n hs) (lF n O I (ksA I n) (ksB I n) (upTo (gC n I n)) [.list false (rowsL (rowsR n O I)), .fam (upTo (n + n + 1)) (fP n O I), .fam (upTo ((rowsR n O I).length + 1)) (fRo (rowsR n O I)), .list false (rowsL (busy (rowsR n O I))), .fam (upTo ((busy (rowsR n O I)).length + 1)) (fRo (busy (rowsR n O I)))]))) :=
    call797b V (pf (pre (q0 p) 15 (lB n O (iK2 n hs) (lF n O I (ksA I n) (ksB I n) (upTo (gC n I n)) [.list false (rowsL (rowsR n O I)), .fam (upTo (n + n + 1)) (fP n O I), .fam (upTo ((rowsR n O I).length + 1)) (fRo (rowsR n O I))])))) (busy (rowsR n O I)) hR2
  unfold led832
  rw [ek]
  by_cases hb : mx (busy (rowsR n O I)) < n
  · rw [show max (mx (busy (rowsR n O I))) (n : Int) = ((vk 0 :: hs).length : Nat) by rw [hlen]; omega]
    exact callOk_run (n := 119) V fn832 za832 (stepT832 p (q0 p) n O I hs _ _ _ _ _ _ _ _ _) (obsT832 _ p (q0 p) n O I hs _ _ _ _ _ _ _ _ _) ⟨c1, c2, by rw [hlen]; omega, c3, c4, c5, decide_eq_true (by rw [hlen]; exact hb), by rw [hlen]; omega, decide_eq_false (by rw [hlen]; omega), trivial⟩
  · rw [show max (mx (busy (rowsR n O I))) (n : Int) = mx (busy (rowsR n O I)) by omega]
    exact callOk_run (n := 119) V fn832 za832 (stepF832 p (q0 p) n O I hs _ _ _ _ _ _ _ _ _) (obsF832 _ p (q0 p) n O I hs _ _ _ _ _ _ _ _ _) ⟨c1, c2, by rw [hlen]; omega, c3, c4, c5, decide_eq_false (by rw [hlen]; exact hb), by rw [hlen]; omega, decide_eq_false (by rw [hlen]; omega), trivial⟩
end
set_option tactic.hygienic false
open PySem PySem.W PySem.Calls PyProof.Rows PySem.SeqAt
noncomputable def s815' : Stmt := nthS f_law_run.body 1
noncomputable def s817 : Stmt := nthS f_law_run.body 2
noncomputable abbrev en853 : En := ⟨f_law_run.sc, []⟩
noncomputable abbrev en815 : En := en853
noncomputable abbrev en817 : En := en853
noncomputable abbrev Held := List (Int × Int)
noncomputable def heldD (h : Held) : List (SV × SV) := h.map fun p => (xI p.1, .int false p.2)
noncomputable def held0 (n : Nat) : Held := (List.range n).map fun k => (((k + 1 : Nat) : Int), (k : Int))
noncomputable def hget (h : Held) (k : Int) : Option Int := (h.find? fun p => decide (p.1 = k)).map (·.2)
noncomputable def hput (h : Held) (k v : Int) : Held := if h.any (fun p => decide (p.1 = k)) then h.map (fun p => if p.1 = k then (p.1, v) else p) else h ++ [(k, v)]
noncomputable def rsrc : Row → Int
  | (true, _, b) => b
  | (false, a, _) => a
noncomputable def rdst : Row → Int
  | (true, a, _) => a
  | (false, _, b) => b
noncomputable def stepH (h : Held) (r : Row) : Held := hput h (rdst r) ((hget h (rsrc r)).getD (-1))
noncomputable abbrev l853 (n : Nat) : Loc := [(nm "rows", .ref 64), (nm "count", ii n), (nm "held", .ref 65)]
theorem stepL815 (q : Nat → SO) (n k : Nat) :
    outOf (turnR 19 en815 (forTgt s815') (forBody s815') (ii k) ⟨l853 n, pre q 65 [.dict false (heldD (held0 k))], [.put (heldD (held0 (k + 1)))]⟩) =
    some (.next, { loc := [(nm "rows", .ref 64), (nm "count", ii n), (nm "held", .ref 65), (nm "k", ii k)], led := pre q 65 [.dict false (heldD (held0 (k + 1)))], orc := [] }) := by kernel_rfl
theorem obsL815 (S : Fix) (q : Nat → SO) (n k : Nat) :
    AllH S (obsOf (turnR 19 en815 (forTgt s815') (forBody s815') (ii k) ⟨l853 n, pre q 65 [.dict false (heldD (held0 k))], [.put (heldD (held0 (k + 1)))]⟩)) =
    (((((↑(heldD (held0 k)).length : Int)) : Int) ≤ (999)) ∧ PutOk (heldD (held0 k)) (.tup [.str (nm "x"), .int false ((↑k : Int) + 1)]) (.int false (↑k : Int)) (heldD (held0 (k + 1))) ∧ True) := by kernel_rfl
theorem stepG817 (q : Nat → SO) (n : Nat) (a b v : Int) (h h' : Held) :
    outOf (turnR 29 en817 (forTgt s817) (forBody s817) (rowV (true, a, b)) ⟨l853 n, pre q 65 [.dict false (heldD h)], [.look (some (.int false v)), .put (heldD h')]⟩) =
    some (.next, { loc := [(nm "rows", .ref 64), (nm "count", ii n), (nm "held", .ref 65), (nm "row", rowV (true, a, b))], led := pre q 65 [.dict false (heldD h')], orc := [] }) := by kernel_rfl
theorem obsG817 (S : Fix) (q : Nat → SO) (n : Nat) (a b v : Int) (h h' : Held) :
    AllH S (obsOf (turnR 29 en817 (forTgt s817) (forBody s817) (rowV (true, a, b)) ⟨l853 n, pre q 65 [.dict false (heldD h)], [.look (some (.int false v)), .put (heldD h')]⟩)) =
    (LookOk (heldD h) (xI b) (some (.int false v)) ∧ ((((↑(heldD h).length : Int)) : Int) ≤ (999)) ∧ PutOk (heldD h) (xI a) (.int false v) (heldD h') ∧ True) := by kernel_rfl
theorem stepP817 (q : Nat → SO) (n : Nat) (a b v : Int) (h h' : Held) :
    outOf (turnR 29 en817 (forTgt s817) (forBody s817) (rowV (false, a, b)) ⟨l853 n, pre q 65 [.dict false (heldD h)], [.look (some (.int false v)), .put (heldD h')]⟩) =
    some (.next, { loc := [(nm "rows", .ref 64), (nm "count", ii n), (nm "held", .ref 65), (nm "row", rowV (false, a, b))], led := pre q 65 [.dict false (heldD h')], orc := [] }) := by kernel_rfl
theorem obsP817 (S : Fix) (q : Nat → SO) (n : Nat) (a b v : Int) (h h' : Held) :
    AllH S (obsOf (turnR 29 en817 (forTgt s817) (forBody s817) (rowV (false, a, b)) ⟨l853 n, pre q 65 [.dict false (heldD h)], [.look (some (.int false v)), .put (heldD h')]⟩)) =
    (LookOk (heldD h) (xI a) (some (.int false v)) ∧ ((((↑(heldD h).length : Int)) : Int) ≤ (999)) ∧ PutOk (heldD h) (xI b) (.int false v) (heldD h') ∧ True) := by kernel_rfl
theorem stepF853 (q : Nat → SO) (n : Nat) (h h' : Held) :
    outOf ((run Γ₀ 79).ex en853 f_law_run.body ⟨[(nm "rows", .ref 64), (nm "count", ii n)], pre q 65 [], [.loop (l853 n) (pre q 65 [.dict false (heldD h)]), .loop (l853 n) (pre q 65 [.dict false (heldD h')])]⟩) =
    some (.ret (.ref 65), { loc := l853 n, led := pre q 65 [.dict false (heldD h')], orc := [] }) := by kernel_rfl
theorem obsF853 (S : Fix) (q : Nat → SO) (n : Nat) (h h' : Held) :
    AllH S (obsOf ((run Γ₀ 79).ex en853 f_law_run.body ⟨[(nm "rows", .ref 64), (nm "count", ii n)], pre q 65 [], [.loop (l853 n) (pre q 65 [.dict false (heldD h)]), .loop (l853 n) (pre q 65 [.dict false (heldD h')])]⟩)) =
    (LoopOk S (20) en815 s815 ([(nm "rows", .ref 64), (nm "count", ii n), (nm "held", .ref 65)]) (pre q 65 [.dict true []]) (l853 n) (pre q 65 [.dict false (heldD h)]) ∧ LoopOk S (30) en817 s817 ([(nm "rows", .ref 64), (nm "count", ii n), (nm "held", .ref 65)]) (pre q 65 [.dict false (heldD h)]) (l853 n) (pre q 65 [.dict false (heldD h')]) ∧ True) := by kernel_rfl
theorem s815_eq' : s815' = .For (forTgt s815') (forIt s815') (forBody s815') [] (posOfS s815') := by kernel_rfl
theorem s817_eq : s817 = .For (forTgt s817) (forIt s817) (forBody s817) [] (posOfS s817) := by kernel_rfl
theorem iter815' (n : Nat) (F : Led) : (run Γ₀ 19).ev en815 (forIt s815') ⟨l853 n, F, []⟩ = some (.rng false 0 n, ⟨l853 n, F, []⟩, []) := by kernel_rfl
theorem iter817 (n : Nat) (F : Led) : (run Γ₀ 29).ev en817 (forIt s817) ⟨l853 n, F, []⟩ = some (.ref 64, ⟨l853 n, F, []⟩, []) := by kernel_rfl
theorem xI_inj {a b : Int} : keyV (xI a) = keyV (xI b) ↔ a = b := by
  constructor
  · intro h; simpa [keyV, xI, atomsOf, atomOf] using h
  · rintro rfl; rfl
theorem heldD_kind (h : Held) (k : Int) : KindOk (xI k) (heldD h) := by
  intro p hp
  obtain ⟨q, _, rfl⟩ := List.mem_map.mp hp
  rfl
theorem heldD_get (h : Held) (k : Int) : dfind (xI k) (heldD h) = (hget h k).map (SV.int false) := by
  unfold dfind hget heldD
  rw [List.find?_map]
  have : (fun p : SV × SV => decide (keyV p.1 = keyV (xI k))) ∘ (fun p : Int × Int => (xI p.1, SV.int false p.2)) = fun p => decide (p.1 = k) := by
    funext p; exact decide_eq_decide.mpr xI_inj
  rw [this]
  cases (h.find? fun p => decide (p.1 = k)) <;> rfl
theorem heldD_put (h : Held) (k v : Int) : dstore (xI k) (.int false v) (heldD h) = heldD (hput h k v) := by
  unfold dstore hput heldD
  have e : (h.map fun p => (xI p.1, SV.int false p.2)).any (fun p => decide (keyV p.1 = keyV (xI k))) = h.any fun p => decide (p.1 = k) := by
    rw [List.any_map]; congr 1; funext p; exact decide_eq_decide.mpr xI_inj
  rw [e]
  split
  · rw [List.map_map, List.map_map]
    refine List.map_congr_left fun p _ => ?_
    show (if keyV (xI p.1) = keyV (xI k) then (xI p.1, SV.int false v) else (xI p.1, SV.int false p.2)) = (xI (if p.1 = k then (p.1, v) else p).1, SV.int false (if p.1 = k then (p.1, v) else p).2)
    by_cases q : p.1 = k
    · rw [if_pos (xI_inj.mpr q), if_pos q]
    · rw [if_neg (fun h => q (xI_inj.mp h)), if_neg q]
  · rw [List.map_append]; rfl
theorem held_look {h : Held} {k v : Int} (e : hget h k = some v) : LookOk (heldD h) (xI k) (some (.int false v)) := ⟨heldD_kind h k, by rw [heldD_get, e]; rfl⟩
theorem held_put {h h' : Held} {k v : Int} (e : hput h k v = h') : PutOk (heldD h) (xI k) (.int false v) (heldD h') := ⟨heldD_kind h k, by rw [heldD_put, e]⟩
theorem heldD_len (h : Held) : (heldD h).length = h.length := by unfold heldD; rw [List.length_map]
theorem held0_succ (k : Nat) : hput (held0 k) ((k + 1 : Nat) : Int) k = held0 (k + 1) := by
  unfold hput
  rw [if_neg]
  · unfold held0; rw [map_succ]
  · intro e
    obtain ⟨p, hp, e⟩ := List.any_eq_true.mp e
    obtain ⟨i, hi, rfl⟩ := List.mem_map.mp hp
    have hi := List.mem_range.mp hi
    have e := of_decide_eq_true e
    dsimp only at e
    omega
theorem held0_len (n : Nat) : (held0 n).length = n := by unfold held0; exact map_len _ _
noncomputable def heldN (h : Held) (l : List Row) (i : Nat) : Held := (l.take i).foldl stepH h
theorem heldN_succ {h : Held} {l : List Row} {i : Nat} (hi : i < l.length) : heldN h l (i + 1) = stepH (heldN h l i) l[i] := by
  unfold heldN
  rw [List.take_succ_eq_append_getElem hi, List.foldl_append]; rfl
noncomputable def RunsOk (h : Held) (l : List Row) : Prop := ∀ i (hi : i < l.length), (hget (heldN h l i) (rsrc l[i])).isSome
theorem hput_len (h : Held) (k v : Int) : (hput h k v).length ≤ h.length + 1 := by
  unfold hput; split <;> simp
theorem heldN_len (h : Held) (l : List Row) : ∀ i, i ≤ l.length → (heldN h l i).length ≤ h.length + i
  | 0, _ => Nat.le_refl _
  | i + 1, hi => by
    rw [heldN_succ (by omega)]
    have := heldN_len h l i (by omega)
    have := hput_len (heldN h l i) (rdst l[i]) ((hget (heldN h l i) (rsrc l[i])).getD (-1))
    unfold stepH; omega
section
variable {prog : Program} {w : World} {K : Frag} {mg mb : Str → Option Value}
theorem loop815' (V : Valid K mg mb Γ₀) (q : Nat → SO) {n : Nat} (hn : n ≤ 60) : LoopOk (Sx prog w K mg mb) 20 en815 s815' (l853 n) (pre q 65 [.dict true []]) (l853 n) (pre q 65 [.dict false (heldD (held0 n))]) := by
  rw [s815_eq']
  refine loopOk_for (n := 19) V (v := .rng false 0 n) (oc := []) rfl (iter815' n _) (fun _ h => nomatch h) (.rng (n + 0) (by omega) (by omega) ?_)
  refine .sub (τ := ⟨l853 n, pre q 65 [.dict false (heldD (held0 0))], []⟩) (Sub.chunk (t := 65) rfl WO.dict) ?_
  refine turns_seg n 0 (fun k => ⟨l853 n, pre q 65 [.dict false (heldD (held0 k))], []⟩) (.done (by show some (if _ then _ else none) = _; rw [if_neg (by omega)])) fun k hk => ?_
  refine turn_ex (v := ii k) (Sub.orc _ _) (by show some (if _ then some (SV.int false ((0 + k : Nat) : Int)) else none) = _; rw [if_pos (by omega), Nat.zero_add]) (stepL815 q n k) ?_ (.inl rfl) (Sub.drop (l853 n) [_])
  rw [obsL815]
  exact ⟨by rw [heldD_len, held0_len]; omega, held_put (held0_succ k), trivial⟩
theorem loop817 (V : Valid K mg mb Γ₀) (q : Nat → SO) {n : Nat} (h : Held) (l : List Row) (h64 : q 64 = .list false (l.map rowV)) (hl : h.length + l.length ≤ 900) (R : RunsOk h l) :
    LoopOk (Sx prog w K mg mb) 30 en817 s817 (l853 n) (pre q 65 [.dict false (heldD h)]) (l853 n) (pre q 65 [.dict false (heldD (heldN h l l.length))]) := by
  rw [s817_eq]
  have hl64 : ∀ (loc : Loc) (r : Led) (o : List Orc), (⟨loc, pre q 65 r, o⟩ : St).led[64]? = some (.list false (l.map rowV)) := fun loc r o => by show some (q 64) = _; rw [h64]
  refine loopOk_for (n := 29) V (v := .ref 64) (oc := []) rfl (iter817 n _) (fun _ h => nomatch h) (.list (l.length + 0) ⟨false, l.map rowV, seeObj_ref (hl64 _ _ _) rfl⟩ ?_)
  refine turns_seg l.length 0 (fun i => ⟨l853 n, pre q 65 [.dict false (heldD (heldN h l i))], []⟩) (.done (listVal_ref (hl64 _ _ _) (by rw [List.getElem?_eq_none_iff, List.length_map]; omega))) fun i hi => ?_
  have hv : (l.map rowV)[0 + i]? = some (rowV l[i]) := by rw [Nat.zero_add, List.getElem?_map, List.getElem?_eq_getElem hi]; rfl
  have hs := heldN_succ (h := h) hi
  have hk := R i hi
  have hln := heldN_len h l i (by omega)
  obtain ⟨c, a, b, er⟩ : ∃ c a b, l[i] = (c, a, b) := ⟨l[i].1, l[i].2.1, l[i].2.2, rfl⟩
  rw [er] at hv hs hk
  obtain ⟨v, ev⟩ := Option.isSome_iff_exists.mp hk
  unfold stepH at hs
  rw [ev] at hs
  cases c with
  | true =>
    refine turn_ex (v := rowV (true, a, b)) (Sub.orc _ _) (listVal_ref (hl64 _ _ _) hv) (stepG817 q n a b v (heldN h l i) (heldN h l (i + 1))) ?_ (.inl rfl) (Sub.drop (l853 n) [_])
    rw [obsG817]
    exact ⟨held_look ev, by rw [heldD_len]; omega, held_put hs.symm, trivial⟩
  | false =>
    refine turn_ex (v := rowV (false, a, b)) (Sub.orc _ _) (listVal_ref (hl64 _ _ _) hv) (stepP817 q n a b v (heldN h l i) (heldN h l (i + 1))) ?_ (.inl rfl) (Sub.drop (l853 n) [_])
    rw [obsP817]
    exact ⟨held_look ev, by rw [heldD_len]; omega, held_put hs.symm, trivial⟩
theorem fn853 : lookN 853 Γ₀.fns = some f_law_run := by kernel_rfl
theorem za853 (n : Nat) : zipArgs f_law_run.params [.ref 64, ii n] = some [(nm "rows", .ref 64), (nm "count", ii n)] := by kernel_rfl
theorem call853 (V : Valid K mg mb Γ₀) (q : Nat → SO) {n : Nat} (hn : n ≤ 60) (l : List Row) (h64 : q 64 = .list false (l.map rowV)) (hl : l.length ≤ 500) (R : RunsOk (held0 n) l) :
    CallOk (Sx prog w K mg mb) 80 853 [.ref 64, ii n] (pre q 65 []) (.ref 65) (pre q 65 [.dict false (heldD (heldN (held0 n) l l.length))]) :=
  callOk_run (n := 79) V fn853 (za853 n) (stepF853 q n (held0 n) (heldN (held0 n) l l.length)) (obsF853 _ q n (held0 n) (heldN (held0 n) l l.length)) ⟨loop815' V q hn, loop817 V q (held0 n) l h64 (by rw [held0_len]; omega) R, trivial⟩
end
set_option tactic.hygienic false
theorem len_le_of_inj {l m : List Nat} (f : Nat → Nat) (hl : l.Nodup) (hm : ∀ x ∈ l, f x ∈ m) (hf : ∀ x ∈ l, ∀ y ∈ l, f x = f y → x = y) : l.length ≤ m.length := by
  induction l generalizing m with
  | nil => exact Nat.zero_le _
  | cons x l ih =>
    have hx := hm x (.head _)
    rw [List.nodup_cons] at hl
    have := ih (m := m.erase (f x)) hl.2 (fun y hy => (List.mem_erase_of_ne (fun e => hl.1 (by rw [← hf y (.tail _ hy) x (.head _) e]; exact hy))).mpr (hm y (.tail _ hy))) fun a ha b hb => hf a (.tail _ ha) b (.tail _ hb)
    rw [List.length_erase_of_mem hx] at this
    have : 0 < m.length := List.length_pos_of_mem hx
    simp only [List.length_cons]; omega
noncomputable def laterL (n : Nat) (O : Nat → Nat) : List Nat := (List.range n).filter fun j => decide (O j < j)
noncomputable def earlierL (n : Nat) (O : Nat → Nat) : List Nat := (List.range n).filter fun j => decide (O j > j)
theorem cB_count (I : Nat → Nat) : ∀ k, cB I k = ((List.range k).filter fun i => decide (i < I i)).length
  | 0 => rfl
  | k + 1 => by
    rw [List.range_succ, List.filter_append, List.length_append, ← cB_count I k]
    show (if I k ≤ k then cB I k else cB I k + 1) = _
    by_cases h : I k ≤ k
    · rw [if_pos h, List.filter_cons_of_neg (by simpa using h)]; rfl
    · rw [if_neg h, List.filter_cons_of_pos (by simpa using h)]; rfl
theorem later_count {n : Nat} {O I : Nat → Nat} (P : Inv n O I) : (laterL n O).length = cB I n := by
  rw [cB_count]
  refine Nat.le_antisymm ?_ ?_
  · refine len_le_of_inj O (List.Pairwise.filter _ List.nodup_range) (fun j hj => ?_) fun i hi j hj e => ?_
    · obtain ⟨h1, h2⟩ := List.mem_filter.mp hj
      have h1 := List.mem_range.mp h1
      have h2 := of_decide_eq_true h2
      exact List.mem_filter.mpr ⟨List.mem_range.mpr (P.lt j h1), decide_eq_true (by rw [P.IO j h1]; exact h2)⟩
    · have h1 := List.mem_range.mp (List.mem_filter.mp hi).1
      have h2 := List.mem_range.mp (List.mem_filter.mp hj).1
      rw [← P.IO i h1, ← P.IO j h2, e]
  · refine len_le_of_inj I (List.Pairwise.filter _ List.nodup_range) (fun k hk => ?_) fun i hi j hj e => ?_
    · obtain ⟨h1, h2⟩ := List.mem_filter.mp hk
      have h1 := List.mem_range.mp h1
      have h2 := of_decide_eq_true h2
      exact List.mem_filter.mpr ⟨List.mem_range.mpr (P.ltI k h1), decide_eq_true (by rw [P.OI k h1]; exact h2)⟩
    · have h1 := List.mem_range.mp (List.mem_filter.mp hi).1
      have h2 := List.mem_range.mp (List.mem_filter.mp hj).1
      rw [← P.OI i h1, ← P.OI j h2, e]
theorem cB_mono (I : Nat → Nat) {a b : Nat} (h : a ≤ b) : cB I a ≤ cB I b := by
  induction b with
  | zero => obtain rfl : a = 0 := by omega
            exact Nat.le_refl _
  | succ b ih =>
    by_cases q : a = b + 1
    · subst q; exact Nat.le_refl _
    · have := ih (by omega)
      show cB I a ≤ (if I b ≤ b then cB I b else cB I b + 1)
      split <;> omega
theorem cB_lt {I : Nat → Nat} {a b : Nat} (h : a < b) (ha : a < I a) : cB I a < cB I b := by
  have := cB_mono I (show a + 1 ≤ b from h)
  have e : cB I (a + 1) = cB I a + 1 := by show (if _ then _ else _) = _; rw [if_neg (by omega)]
  omega
noncomputable def gvR (n : Nat) (I : Nat → Nat) (k : Nat) : Row := (true, ((hm n I k : Nat) : Int), ((k + 1 : Nat) : Int))
noncomputable def pvR (n : Nat) (O I : Nat → Nat) (j : Nat) : Row := (false, ((hm n I (O j) : Nat) : Int), ((j + 1 : Nat) : Int))
noncomputable def gvB (n : Nat) (I : Nat → Nat) (m : Nat) : List Row := busy ((List.range m).map (gvR n I))
noncomputable def pvB (n : Nat) (O I : Nat → Nat) (m : Nat) : List Row := busy ((List.range m).map (pvR n O I))
theorem busy_eq (n : Nat) (O I : Nat → Nat) : busy (rowsR n O I) = gvB n I n ++ pvB n O I n := by
  unfold busy rowsR gvB pvB busy; rw [List.filter_append]; rfl
theorem gvB_succ (n : Nat) (I : Nat → Nat) (m : Nat) : gvB n I (m + 1) = gvB n I m ++ busy [gvR n I m] := by
  unfold gvB busy; rw [map_succ, List.filter_append]
theorem pvB_succ (n : Nat) (O I : Nat → Nat) (m : Nat) : pvB n O I (m + 1) = pvB n O I m ++ busy [pvR n O I m] := by
  unfold pvB busy; rw [map_succ, List.filter_append]
theorem gv_idle {n k : Nat} {I : Nat → Nat} (hk : k < n) (h : I k ≤ k) : busy [gvR n I k] = [] := by
  have : hm n I k = k + 1 := if_pos h
  unfold busy idleB gvR; simp [this]
theorem gv_busy {n k : Nat} {I : Nat → Nat} (hk : k < n) (h : k < I k) : busy [gvR n I k] = [gvR n I k] ∧ hm n I k = n + cB I k + 1 := by
  have e : hm n I k = n + cB I k + 1 := if_neg (by omega)
  refine ⟨?_, e⟩
  unfold busy idleB gvR
  rw [List.filter_cons_of_pos]
  · rfl
  · show (!decide (((hm n I k : Nat) : Int) = ((k + 1 : Nat) : Int))) = true
    rw [e, decide_eq_false (by omega)]; rfl
theorem pv_idle {n j : Nat} {O I : Nat → Nat} (P : Inv n O I) (hj : j < n) (h : O j = j) : busy [pvR n O I j] = [] := by
  have hI : I (O j) ≤ O j := by rw [P.IO j hj]; omega
  have e : hm n I (O j) = j + 1 := (if_pos hI).trans (by omega)
  unfold busy idleB pvR; rw [e]; simp
theorem pv_busy {n j : Nat} {O I : Nat → Nat} (P : Inv n O I) (hj : j < n) (h : O j ≠ j) : busy [pvR n O I j] = [pvR n O I j] := by
  have hm1 : hm n I (O j) ≠ j + 1 := by
    unfold hm
    rw [P.IO j hj]
    split <;> omega
  unfold busy idleB pvR
  rw [List.filter_cons_of_pos]
  · rfl
  · show (!decide (((hm n I (O j) : Nat) : Int) = ((j + 1 : Nat) : Int))) = true
    rw [decide_eq_false (by omega)]; rfl
theorem gvB_len {n : Nat} {I : Nat → Nat} : ∀ m, m ≤ n → (gvB n I m).length = cB I m
  | 0, _ => rfl
  | m + 1, h => by
    rw [gvB_succ, List.length_append, gvB_len m (by omega)]
    show _ = (if _ then _ else _)
    by_cases q : I m ≤ m
    · rw [gv_idle (by omega) q, if_pos q]; rfl
    · rw [(gv_busy (by omega) (by omega)).1, if_neg q]; rfl
theorem pvB_len {n : Nat} {O I : Nat → Nat} (P : Inv n O I) : ∀ m, m ≤ n → (pvB n O I m).length = (laterL m O).length + (earlierL m O).length
  | 0, _ => rfl
  | m + 1, h => by
    rw [pvB_succ, List.length_append, pvB_len P m (by omega)]
    unfold laterL earlierL
    rw [List.range_succ, List.filter_append, List.filter_append, List.length_append, List.length_append]
    rcases Nat.lt_trichotomy (O m) m with q | q | q
    · rw [pv_busy P (by omega) (by omega), List.filter_cons_of_pos (by simpa using q), List.filter_cons_of_neg (by simp; omega)]
      simp; omega
    · rw [pv_idle P (by omega) q, List.filter_cons_of_neg (by simp; omega), List.filter_cons_of_neg (by simp; omega)]
      simp
    · rw [pv_busy P (by omega) (by omega), List.filter_cons_of_neg (by simp; omega), List.filter_cons_of_pos (by simpa using q)]
      simp; omega
theorem busy_len {n : Nat} {O I : Nat → Nat} (P : Inv n O I) : (busy (rowsR n O I)).length = (earlierL n O).length + 2 * (laterL n O).length := by
  rw [busy_eq, List.length_append, gvB_len n (Nat.le_refl _), pvB_len P n (Nat.le_refl _), ← later_count P]
  omega
theorem le_mx {l : List Row} {r : Row} (h : r ∈ l) : r.2.1 ≤ mx l ∧ r.2.2 ≤ mx l := by
  unfold mx
  have mono : ∀ (l : List Row) (m : Int), m ≤ l.foldl mxR m := by
    intro l
    induction l with
    | nil => intro m; exact Int.le_refl _
    | cons r l ih => intro m; exact Int.le_trans (by unfold mxR; omega) (ih (mxR m r))
  suffices H : ∀ (l : List Row) (m : Int), r ∈ l → r.2.1 ≤ l.foldl mxR m ∧ r.2.2 ≤ l.foldl mxR m from H l 0 h
  intro l
  induction l with
  | nil => intro m h; nomatch h
  | cons a l ih =>
    intro m h
    rcases List.mem_cons.mp h with rfl | h
    · have := mono l (mxR m r)
      have h1 : r.2.1 ≤ mxR m r := by unfold mxR; omega
      have h2 : r.2.2 ≤ mxR m r := by unfold mxR; omega
      exact ⟨Int.le_trans h1 this, Int.le_trans h2 this⟩
    · exact ih _ h
theorem hm_le2 {n k : Nat} (I : Nat → Nat) (h : k < n) : hm n I k ≤ n + cB I n := by
  unfold hm
  by_cases q : I k ≤ k
  · rw [if_pos q]; omega
  · rw [if_neg q]
    have := cB_lt (I := I) h (by omega)
    omega
theorem busy_mx {n : Nat} {O I : Nat → Nat} (P : Inv n O I) : max (mx (busy (rowsR n O I))) (n : Int) = ((n + (laterL n O).length : Nat) : Int) := by
  rw [later_count P]
  have h1 : mx (busy (rowsR n O I)) ≤ ((n + cB I n : Nat) : Int) := by
    refine mx_le (by omega) fun r hr => ?_
    have hr := (List.mem_filter.mp hr).1
    unfold rowsR at hr
    rcases List.mem_append.mp hr with hr | hr
    · obtain ⟨k, hk, rfl⟩ := List.mem_map.mp hr
      have hk := List.mem_range.mp hk
      have := hm_le2 I hk
      exact ⟨by show ((hm n I k : Nat) : Int) ≤ _; omega, by show ((k + 1 : Nat) : Int) ≤ _; omega⟩
    · obtain ⟨j, hj, rfl⟩ := List.mem_map.mp hr
      have hj := List.mem_range.mp hj
      have := hm_le2 I (P.lt j hj)
      exact ⟨by show ((hm n I (O j) : Nat) : Int) ≤ _; omega, by show ((j + 1 : Nat) : Int) ≤ _; omega⟩
  by_cases q : cB I n = 0
  · rw [q] at h1 ⊢; omega
  · -- the last that goes to a later place
    have : ∃ k, k < n ∧ k < I k ∧ cB I k + 1 = cB I n := by
      have key : ∀ m, cB I m ≠ 0 → ∃ k, k < m ∧ k < I k ∧ cB I k + 1 = cB I m := by
        intro m
        induction m with
        | zero => intro h; exact absurd rfl h
        | succ m ih =>
          intro h
          by_cases a : I m ≤ m
          · have e : cB I (m + 1) = cB I m := by show (if _ then _ else _) = _; rw [if_pos a]
            obtain ⟨k, h1, h2, h3⟩ := ih (by rw [e] at h; exact h)
            exact ⟨k, by omega, h2, by rw [e]; exact h3⟩
          · have e : cB I (m + 1) = cB I m + 1 := by show (if _ then _ else _) = _; rw [if_neg a]
            exact ⟨m, by omega, by omega, e.symm⟩
      exact key n q
    obtain ⟨k, h2, h3, h4⟩ := this
    have hb := gv_busy h2 h3
    have hr : gvR n I k ∈ busy (rowsR n O I) := by
      have : gvR n I k ∈ busy [gvR n I k] := by rw [hb.1]; exact .head _
      refine List.mem_filter.mpr ⟨?_, (List.mem_filter.mp this).2⟩
      unfold rowsR
      exact List.mem_append_left _ (List.mem_map.mpr ⟨k, List.mem_range.mpr h2, rfl⟩)
    have := (le_mx hr).1
    have e : ((gvR n I k).2.1 : Int) = ((n + cB I n : Nat) : Int) := by show ((hm n I k : Nat) : Int) = _; rw [hb.2]; omega
    rw [e] at this
    omega
set_option tactic.hygienic false
inductive Runs : Held → List Row → Held → Prop where
  | nil (h : Held) : Runs h [] h
  | cons {h : Held} {r : Row} {l : List Row} {h' : Held} {v : Int} : hget h (rsrc r) = some v → Runs (hput h (rdst r) v) l h' → Runs h (r :: l) h'
theorem Runs.append {h a b : Held} {l m : List Row} (x : Runs h l a) (y : Runs a m b) : Runs h (l ++ m) b := by
  induction x with
  | nil h => exact y
  | cons e _ ih => exact .cons e (ih y)
theorem Runs.spec {h h' : Held} {l : List Row} (x : Runs h l h') : RunsOk h l ∧ heldN h l l.length = h' := by
  induction x with
  | nil h => exact ⟨fun i hi => by simp at hi, rfl⟩
  | @cons h r l h' v e _ ih =>
    have es : stepH h r = hput h (rdst r) v := by unfold stepH; rw [e]; rfl
    have step : ∀ i, heldN h (r :: l) (i + 1) = heldN (hput h (rdst r) v) l i := fun i => by
      unfold heldN; rw [List.take_succ_cons, List.foldl_cons, es]
    refine ⟨fun i hi => ?_, ?_⟩
    · cases i with
      | zero => show (hget h (rsrc r)).isSome = true; rw [e]; rfl
      | succ i => rw [step]; exact ih.1 i (by simpa using hi)
    · rw [List.length_cons, step]; exact ih.2
noncomputable def tailH (n : Nat) (I : Nat → Nat) (m : Nat) : Held := ((List.range m).filter fun k => decide (k < I k)).map fun k => (((hm n I k : Nat) : Int), (k : Int))
noncomputable def argsH (n : Nat) (O : Nat → Nat) (m : Nat) : Held := (List.range n).map fun j => (((j + 1 : Nat) : Int), ((if j < m then O j else j : Nat) : Int))
theorem argsH_0 (n : Nat) (O : Nat → Nat) : argsH n O 0 = held0 n := by
  unfold argsH held0
  exact List.map_congr_left fun j _ => by rw [if_neg (Nat.not_lt_zero j)]
theorem hget_append {a b : Held} {k : Int} : hget (a ++ b) k = (hget a k).or (hget b k) := by
  unfold hget
  rw [List.find?_append]
  cases a.find? fun p => decide (p.1 = k) <;> rfl
theorem argsH_get {n m j : Nat} {O : Nat → Nat} (h : j < n) : hget (argsH n O m) ((j + 1 : Nat) : Int) = some ((if j < m then O j else j : Nat) : Int) := by
  unfold argsH hget
  rw [List.find?_map]
  have : (fun p : Int × Int => decide (p.1 = ((j + 1 : Nat) : Int))) ∘ (fun j : Nat => (((j + 1 : Nat) : Int), ((if j < m then O j else j : Nat) : Int))) = fun i => decide (i = j) := by
    funext i; show decide (((i + 1 : Nat) : Int) = ((j + 1 : Nat) : Int)) = decide (i = j)
    exact decide_eq_decide.mpr ⟨fun e => by omega, fun e => by rw [e]⟩
  rw [this]
  have e : (List.range n).find? (fun i => decide (i = j)) = some j := by
    rw [List.find?_eq_some_iff_getElem]
    refine ⟨by simp, j, by simpa using h, by simp, fun i hi => by simp; omega⟩
  rw [e]; rfl
theorem argsH_none {n m : Nat} {O : Nat → Nat} {k : Int} (h : (n : Int) < k) : hget (argsH n O m) k = none := by
  unfold argsH hget
  rw [Option.map_eq_none_iff, List.find?_eq_none]
  intro p hp
  obtain ⟨i, hi, rfl⟩ := List.mem_map.mp hp
  have := List.mem_range.mp hi
  simp; omega
theorem tailH_mem {n m : Nat} {I : Nat → Nat} {p : Int × Int} (h : p ∈ tailH n I m) : ∃ k, k < m ∧ k < I k ∧ p = (((hm n I k : Nat) : Int), (k : Int)) := by
  unfold tailH at h
  obtain ⟨k, hk, rfl⟩ := List.mem_map.mp h
  obtain ⟨h1, h2⟩ := List.mem_filter.mp hk
  exact ⟨k, List.mem_range.mp h1, of_decide_eq_true h2, rfl⟩
theorem hm_later {n k : Nat} {I : Nat → Nat} (h : k < I k) : hm n I k = n + cB I k + 1 := if_neg (by omega)
theorem hm_inj {n a b : Nat} {I : Nat → Nat} (ha : a < I a) (hb : b < I b) (e : hm n I a = hm n I b) : a = b := by
  rw [hm_later ha, hm_later hb] at e
  rcases Nat.lt_trichotomy a b with h | h | h
  · have := cB_lt h ha; omega
  · exact h
  · have := cB_lt h hb; omega
theorem tailH_get {n m k : Nat} {I : Nat → Nat} (hk : k < m) (h : k < I k) : hget (tailH n I m) ((hm n I k : Nat) : Int) = some (k : Int) := by
  unfold hget
  cases e : (tailH n I m).find? fun p => decide (p.1 = ((hm n I k : Nat) : Int)) with
  | none =>
    rw [List.find?_eq_none] at e
    have := e (((hm n I k : Nat) : Int), (k : Int)) (List.mem_map.mpr ⟨k, List.mem_filter.mpr ⟨List.mem_range.mpr hk, decide_eq_true h⟩, rfl⟩)
    simp at this
  | some p =>
    have h1 := List.find?_some e
    have h2 := List.mem_of_find?_eq_some e
    obtain ⟨k', hk', h3, rfl⟩ := tailH_mem h2
    have h1 := of_decide_eq_true h1
    have : k' = k := hm_inj (n := n) h3 h (by dsimp only at h1; omega)
    subst this; rfl
theorem hput_new {h : Held} {k v : Int} (hn : ∀ p ∈ h, p.1 ≠ k) : hput h k v = h ++ [(k, v)] := by
  unfold hput
  rw [if_neg]
  intro e
  obtain ⟨p, hp, e⟩ := List.any_eq_true.mp e
  exact hn p hp (of_decide_eq_true e)
theorem tailH_succ (n : Nat) (I : Nat → Nat) (m : Nat) : tailH n I (m + 1) = tailH n I m ++ (if m < I m then [(((hm n I m : Nat) : Int), (m : Int))] else []) := by
  unfold tailH
  rw [List.range_succ, List.filter_append, List.map_append]
  by_cases h : m < I m
  · rw [if_pos h, List.filter_cons_of_pos (by simpa using h)]; rfl
  · rw [if_neg h, List.filter_cons_of_neg (by simpa using h)]; rfl
theorem runs_gv {n : Nat} {O I : Nat → Nat} : ∀ m, m ≤ n → Runs (held0 n) (gvB n I m) (held0 n ++ tailH n I m)
  | 0, _ => by
    show Runs (held0 n) [] (held0 n ++ [])
    rw [List.append_nil]; exact .nil _
  | m + 1, h => by
    rw [gvB_succ, tailH_succ]
    have ih := runs_gv (n := n) (O := O) (I := I) m (by omega)
    by_cases q : m < I m
    · rw [if_pos q, (gv_busy (by omega) q).1, ← List.append_assoc]
      refine ih.append (.cons (v := (m : Int)) ?_ ?_)
      · show hget (held0 n ++ tailH n I m) ((m + 1 : Nat) : Int) = _
        rw [hget_append, ← argsH_0 n O, argsH_get (by omega), if_neg (Nat.not_lt_zero m)]; rfl
      · rw [hput_new]
        · exact .nil _
        · intro p hp
          show p.1 ≠ ((hm n I m : Nat) : Int)
          rcases List.mem_append.mp hp with hp | hp
          · obtain ⟨i, hi, rfl⟩ := List.mem_map.mp hp
            have := List.mem_range.mp hi
            rw [hm_later q]
            show ((i + 1 : Nat) : Int) ≠ _
            omega
          · obtain ⟨k, h1, h2, rfl⟩ := tailH_mem hp
            intro e
            have : k = m := hm_inj (n := n) h2 q (by dsimp only at e; omega)
            omega
    · rw [if_neg q, gv_idle (by omega) (by omega), List.append_nil, List.append_nil]
      exact ih
theorem argsH_any {n m j : Nat} {O : Nat → Nat} {t : Held} (h : j < n) : ((argsH n O m ++ t).any fun p => decide (p.1 = ((j + 1 : Nat) : Int))) = true := by
  refine List.any_eq_true.mpr ⟨(((j + 1 : Nat) : Int), ((if j < m then O j else j : Nat) : Int)), List.mem_append_left _ (List.mem_map.mpr ⟨j, List.mem_range.mpr h, rfl⟩), by simp⟩
theorem argsH_put {n m : Nat} {O I : Nat → Nat} (h : m < n) : hput (argsH n O m ++ tailH n I n) ((m + 1 : Nat) : Int) (O m) = argsH n O (m + 1) ++ tailH n I n := by
  unfold hput
  rw [if_pos (argsH_any h), List.map_append]
  congr 1
  · unfold argsH
    rw [List.map_map]
    refine List.map_congr_left fun j hj => ?_
    show (if ((j + 1 : Nat) : Int) = ((m + 1 : Nat) : Int) then (((j + 1 : Nat) : Int), (O m : Int)) else (((j + 1 : Nat) : Int), ((if j < m then O j else j : Nat) : Int))) = (((j + 1 : Nat) : Int), ((if j < m + 1 then O j else j : Nat) : Int))
    by_cases e : j = m
    · subst e; rw [if_pos rfl, if_pos (by omega)]
    · rw [if_neg (by omega)]
      by_cases q : j < m
      · rw [if_pos q, if_pos (by omega)]
      · rw [if_neg q, if_neg (by omega)]
  · have : ∀ p ∈ tailH n I n, (if p.1 = ((m + 1 : Nat) : Int) then (p.1, (O m : Int)) else p) = p := by
      intro p hp
      obtain ⟨k, h1, h2, rfl⟩ := tailH_mem hp
      rw [if_neg]
      show ((hm n I k : Nat) : Int) ≠ _
      rw [hm_later h2]; omega
    rw [List.map_congr_left this, List.map_id']
theorem argsH_same {n m : Nat} {O : Nat → Nat} (h : O m = m) : argsH n O (m + 1) = argsH n O m := by
  unfold argsH
  refine List.map_congr_left fun j _ => ?_
  by_cases e : j = m
  · subst e; rw [if_pos (by omega), if_neg (by omega), h]
  · by_cases q : j < m
    · rw [if_pos (by omega), if_pos q]
    · rw [if_neg (by omega), if_neg q]
theorem runs_pv {n : Nat} {O I : Nat → Nat} (P : Inv n O I) : ∀ m, m ≤ n → Runs (argsH n O 0 ++ tailH n I n) (pvB n O I m) (argsH n O m ++ tailH n I n)
  | 0, _ => .nil _
  | m + 1, h => by
    rw [pvB_succ]
    have ih := runs_pv P m (by omega)
    have hO := P.lt m (by omega)
    by_cases q : O m = m
    · rw [pv_idle P (by omega) q, List.append_nil, argsH_same q]; exact ih
    · rw [pv_busy P (by omega) q, ← argsH_put (by omega)]
      refine ih.append (.cons (v := (O m : Int)) ?_ (.nil _))
      show hget (argsH n O m ++ tailH n I n) ((hm n I (O m) : Nat) : Int) = _
      rw [hget_append]
      by_cases a : m ≤ O m
      · have e : hm n I (O m) = O m + 1 := if_pos (by rw [P.IO m (by omega)]; exact a)
        rw [e, argsH_get hO, if_neg (by omega)]; rfl
      · have a2 : O m < I (O m) := by rw [P.IO m (by omega)]; omega
        rw [argsH_none (by rw [hm_later a2]; omega), tailH_get hO a2]; rfl
theorem runs_all {n : Nat} {O I : Nat → Nat} (P : Inv n O I) : Runs (held0 n) (busy (rowsR n O I)) (argsH n O n ++ tailH n I n) := by
  rw [busy_eq]
  refine (runs_gv (O := O) n (Nat.le_refl _)).append ?_
  rw [← argsH_0 n O]
  exact runs_pv P n (Nat.le_refl _)
noncomputable def heldE (n : Nat) (O I : Nat → Nat) : Held := argsH n O n ++ tailH n I n
theorem heldE_len {n : Nat} {O I : Nat → Nat} (P : Inv n O I) : (heldE n O I).length = n + (laterL n O).length := by
  rw [later_count P, cB_count]
  unfold heldE argsH tailH
  rw [List.length_append, map_len, List.length_map]
theorem heldE_get {n j : Nat} {O I : Nat → Nat} (h : j < n) : hget (heldE n O I) ((j + 1 : Nat) : Int) = some (O j : Int) := by
  unfold heldE
  rw [hget_append, argsH_get h, if_pos h]; rfl
set_option tactic.hygienic false
open PySem PySem.W PySem.Calls PyProof.Rows PySem.SeqAt
noncomputable abbrev en839 : En := ⟨f_law_digit.sc, []⟩
noncomputable abbrev tapeL (x0 x1 : SO) (L : List SV) (a b : Int) (r : Led) : Led := x0 :: x1 :: .list false L :: .list true [.ref 2, .int false a, .int false b] :: r
theorem stepA839 (x0 x1 : SO) (L : List SV) (a b : Int) (r : Led) :
    outOf ((run Γ₀ 19).ex en839 f_law_digit.body ⟨[(nm "tape", .ref 3), (nm "limit", .int true 9)], tapeL x0 x1 L a b r, [.bit true]⟩) =
    some (.ret (.int true 0), { loc := [(nm "tape", .ref 3), (nm "limit", .int true 9)], led := x0 :: x1 :: .list false L :: .list true [.ref 2, .int false a, .int false b] :: r, orc := [] }) := by kernel_rfl
theorem obsA839 (S : Fix) (x0 x1 : SO) (L : List SV) (a b : Int) (r : Led) :
    AllH S (obsOf ((run Γ₀ 19).ex en839 f_law_digit.body ⟨[(nm "tape", .ref 3), (nm "limit", .int true 9)], tapeL x0 x1 L a b r, [.bit true]⟩)) =
    (((((↑L.length : Int)) : Int) ≤ (999)) ∧ ((decide (a ≥ (↑L.length : Int))) = (true)) ∧ True) := by kernel_rfl
theorem stepB839 (x0 x1 : SO) (L : List SV) (a b x : Int) (r : Led) :
    outOf ((run Γ₀ 19).ex en839 f_law_digit.body ⟨[(nm "tape", .ref 3), (nm "limit", .int true 9)], tapeL x0 x1 L a b r, [.bit false, .item (.int false x), .bit true]⟩) =
    some (.ret (.int false (x.fmod 9)), { loc := [(nm "tape", .ref 3), (nm "limit", .int true 9), (nm "cell", .int false x), (nm "figure", .int false (x.fmod 9)), (nm "rest", .int false (x.fdiv 9))], led := x0 :: x1 :: .list false L :: .list true [.ref 2, .int false (a + 1), .int true 0] :: r, orc := [] }) := by kernel_rfl
theorem obsB839 (S : Fix) (x0 x1 : SO) (L : List SV) (a b x : Int) (r : Led) :
    AllH S (obsOf ((run Γ₀ 19).ex en839 f_law_digit.body ⟨[(nm "tape", .ref 3), (nm "limit", .int true 9)], tapeL x0 x1 L a b r, [.bit false, .item (.int false x), .bit true]⟩)) =
    (((((↑L.length : Int)) : Int) ≤ (999)) ∧ ((decide (a ≥ (↑L.length : Int))) = (false)) ∧ (0 ≤ (a) ∧ (L)[Int.toNat (a)]? = some (.int false x)) ∧ (((a) : Int) ≤ (999)) ∧ (((1) : Int) ≤ (9)) ∧ (((1) : Int) ≤ (9)) ∧ (((9) : Int) ≤ (999)) ∧ (((0) : Int) ≤ (2)) ∧ (((3) : Int) ≤ (3)) ∧ (((3) : Int) ≤ (999)) ∧ ((decide (x.fdiv 9 = 0)) = (true)) ∧ (((0) : Int) ≤ (1)) ∧ (((2) : Int) ≤ ((↑3 : Int))) ∧ ((((↑3 : Int)) : Int) ≤ (999)) ∧ (((0) : Int) ≤ (2)) ∧ (((3) : Int) ≤ ((↑3 : Int))) ∧ ((((↑3 : Int)) : Int) ≤ (999)) ∧ True) := by kernel_rfl
theorem stepC839 (x0 x1 : SO) (L : List SV) (a b x : Int) (r : Led) :
    outOf ((run Γ₀ 19).ex en839 f_law_digit.body ⟨[(nm "tape", .ref 3), (nm "limit", .int true 9)], tapeL x0 x1 L a b r, [.bit false, .item (.int false x), .bit false, .bit true]⟩) =
    some (.ret (.int false (x.fmod 9)), { loc := [(nm "tape", .ref 3), (nm "limit", .int true 9), (nm "cell", .int false x), (nm "figure", .int false (x.fmod 9)), (nm "rest", .int false (x.fdiv 9))], led := x0 :: x1 :: .list false L :: .list true [.ref 2, .int false (a + 1), .int true 0] :: r, orc := [] }) := by kernel_rfl
theorem obsC839 (S : Fix) (x0 x1 : SO) (L : List SV) (a b x : Int) (r : Led) :
    AllH S (obsOf ((run Γ₀ 19).ex en839 f_law_digit.body ⟨[(nm "tape", .ref 3), (nm "limit", .int true 9)], tapeL x0 x1 L a b r, [.bit false, .item (.int false x), .bit false, .bit true]⟩)) =
    (((((↑L.length : Int)) : Int) ≤ (999)) ∧ ((decide (a ≥ (↑L.length : Int))) = (false)) ∧ (0 ≤ (a) ∧ (L)[Int.toNat (a)]? = some (.int false x)) ∧ (((a) : Int) ≤ (999)) ∧ (((1) : Int) ≤ (9)) ∧ (((1) : Int) ≤ (9)) ∧ (((9) : Int) ≤ (999)) ∧ (((0) : Int) ≤ (2)) ∧ (((3) : Int) ≤ (3)) ∧ (((3) : Int) ≤ (999)) ∧ ((decide (x.fdiv 9 = 0)) = (false)) ∧ ((decide (x.fdiv 9 = -1)) = (true)) ∧ (((0) : Int) ≤ (1)) ∧ (((2) : Int) ≤ ((↑3 : Int))) ∧ ((((↑3 : Int)) : Int) ≤ (999)) ∧ (((0) : Int) ≤ (2)) ∧ (((3) : Int) ≤ ((↑3 : Int))) ∧ ((((↑3 : Int)) : Int) ≤ (999)) ∧ True) := by kernel_rfl
theorem stepD839 (x0 x1 : SO) (L : List SV) (a b x : Int) (r : Led) :
    outOf ((run Γ₀ 19).ex en839 f_law_digit.body ⟨[(nm "tape", .ref 3), (nm "limit", .int true 9)], tapeL x0 x1 L a b r, [.bit false, .item (.int false x), .bit false, .bit false, .bit true]⟩) =
    some (.ret (.int false (x.fmod 9)), { loc := [(nm "tape", .ref 3), (nm "limit", .int true 9), (nm "cell", .int false x), (nm "figure", .int false (x.fmod 9)), (nm "rest", .int false (x.fdiv 9))], led := x0 :: x1 :: .list false L :: .list true [.ref 2, .int false (a + 1), .int true 0] :: r, orc := [] }) := by kernel_rfl
theorem obsD839 (S : Fix) (x0 x1 : SO) (L : List SV) (a b x : Int) (r : Led) :
    AllH S (obsOf ((run Γ₀ 19).ex en839 f_law_digit.body ⟨[(nm "tape", .ref 3), (nm "limit", .int true 9)], tapeL x0 x1 L a b r, [.bit false, .item (.int false x), .bit false, .bit false, .bit true]⟩)) =
    (((((↑L.length : Int)) : Int) ≤ (999)) ∧ ((decide (a ≥ (↑L.length : Int))) = (false)) ∧ (0 ≤ (a) ∧ (L)[Int.toNat (a)]? = some (.int false x)) ∧ (((a) : Int) ≤ (999)) ∧ (((1) : Int) ≤ (9)) ∧ (((1) : Int) ≤ (9)) ∧ (((9) : Int) ≤ (999)) ∧ (((0) : Int) ≤ (2)) ∧ (((3) : Int) ≤ (3)) ∧ (((3) : Int) ≤ (999)) ∧ ((decide (x.fdiv 9 = 0)) = (false)) ∧ ((decide (x.fdiv 9 = -1)) = (false)) ∧ ((decide (b + 1 = 30)) = (true)) ∧ (((0) : Int) ≤ (1)) ∧ (((2) : Int) ≤ ((↑3 : Int))) ∧ ((((↑3 : Int)) : Int) ≤ (999)) ∧ (((0) : Int) ≤ (2)) ∧ (((3) : Int) ≤ ((↑3 : Int))) ∧ ((((↑3 : Int)) : Int) ≤ (999)) ∧ True) := by kernel_rfl
theorem stepE839 (x0 x1 : SO) (L : List SV) (a b x : Int) (r : Led) :
    outOf ((run Γ₀ 19).ex en839 f_law_digit.body ⟨[(nm "tape", .ref 3), (nm "limit", .int true 9)], tapeL x0 x1 L a b r, [.bit false, .item (.int false x), .bit false, .bit false, .bit false]⟩) =
    some (.ret (.int false (x.fmod 9)), { loc := [(nm "tape", .ref 3), (nm "limit", .int true 9), (nm "cell", .int false x), (nm "figure", .int false (x.fmod 9)), (nm "rest", .int false (x.fdiv 9))], led := x0 :: x1 :: .list false (L.set a.toNat (.int false (x.fdiv 9))) :: .list true [.ref 2, .int false a, .int false (b + 1)] :: r, orc := [] }) := by kernel_rfl
theorem obsE839 (S : Fix) (x0 x1 : SO) (L : List SV) (a b x : Int) (r : Led) :
    AllH S (obsOf ((run Γ₀ 19).ex en839 f_law_digit.body ⟨[(nm "tape", .ref 3), (nm "limit", .int true 9)], tapeL x0 x1 L a b r, [.bit false, .item (.int false x), .bit false, .bit false, .bit false]⟩)) =
    (((((↑L.length : Int)) : Int) ≤ (999)) ∧ ((decide (a ≥ (↑L.length : Int))) = (false)) ∧ (0 ≤ (a) ∧ (L)[Int.toNat (a)]? = some (.int false x)) ∧ (((a) : Int) ≤ (999)) ∧ (((1) : Int) ≤ (9)) ∧ (((1) : Int) ≤ (9)) ∧ (((9) : Int) ≤ (999)) ∧ (((0) : Int) ≤ (2)) ∧ (((3) : Int) ≤ (3)) ∧ (((3) : Int) ≤ (999)) ∧ ((decide (x.fdiv 9 = 0)) = (false)) ∧ ((decide (x.fdiv 9 = -1)) = (false)) ∧ ((decide (b + 1 = 30)) = (false)) ∧ (((0) : Int) ≤ (a)) ∧ (((a + 1) : Int) ≤ ((↑L.length : Int))) ∧ ((((↑L.length : Int)) : Int) ≤ (999)) ∧ True) := by kernel_rfl
noncomputable def s808 : Stmt := nthS f_law_order.body 2
noncomputable abbrev en846 : En := ⟨f_law_order.sc, []⟩
noncomputable abbrev en808 : En := en846
noncomputable def fLst (F : Int → List SV) (j : Int) : SO := .list false (F j)
noncomputable abbrev l808 (n : Nat) (i : Nat) : Loc := [(nm "tape", .ref 3), (nm "count", ii n), (nm "left", .fam 9 i), (nm "order_", .ref 12)]
noncomputable abbrev led808 (x : Nat → SO) (L : List SV) (a b : Int) (A B C : SO) (ord : List SV) : Led := tapeL (x 0) (x 1) L a b (preF x 4 5 [A, B, C, .list false ord])
theorem stepT808 (x : Nat → SO) (L : List SV) (a b : Int) (n i : Nat) (F : Int → List SV) (ks : List Int) (B C : SO) (ord : List SV) (q : Bool) (o : List Orc) :
    outOf ((run Γ₀ 39).ts en808 (forTgt s808) ⟨l808 n i, led808 x L a b (.fam ks (fLst F)) B C ord, .bit q :: o⟩) =
    some (q, { loc := [(nm "tape", .ref 3), (nm "count", ii n), (nm "left", .fam 9 (↑i : Int)), (nm "order_", .ref 12)], led := [x 0, x 1, .list false L, .list true [.ref 2, .int false a, .int false b], x 4, x 5, x 6, x 7, x 8, .fam ks (fLst F), B, C, .list false ord], orc := o }) := by kernel_rfl
theorem obsT808 (S : Fix) (x : Nat → SO) (L : List SV) (a b : Int) (n i : Nat) (F : Int → List SV) (ks : List Int) (B C : SO) (ord : List SV) (q : Bool) (o : List Orc) :
    AllH S (obsOf ((run Γ₀ 39).ts en808 (forTgt s808) ⟨l808 n i, led808 x L a b (.fam ks (fLst F)) B C ord, .bit q :: o⟩)) =
    (((((↑i : Int)) : Int) ∈ (ks)) ∧ ((((↑(F (↑i : Int)).length : Int)) : Int) ≤ (999)) ∧ ((decide ((↑(F (↑i : Int)).length : Int) > 0)) = (q)) ∧ True) := by kernel_rfl
theorem stepL808 (x : Nat → SO) (L L' : List SV) (a b a' b' d : Int) (n i : Nat) (F G H : Int → List SV) (ord : List SV) (v : SV) :
    outOf ((run Γ₀ 39).ex en808 (forBody s808) ⟨l808 n i, led808 x L a b (.fam (upTo (i + 1)) (fLst F)) (.fam (upTo i) (fLst G)) (.fam (upTo i) (fLst H)) ord,
  [.call (.int false d) (led808 x L' a' b' (.fam (upTo (i + 1)) (fLst F)) (.fam (upTo i) (fLst G)) (.fam (upTo i) (fLst H)) ord), .item v, .home 10 i, .home 11 i, .home 9 ((i + 1 : Nat) : Int)]⟩) =
    some (.next, { loc := [(nm "tape", .ref 3), (nm "count", ii n), (nm "left", .fam 9 (↑(i + 1) : Int)), (nm "order_", .ref 12), (nm "spot", .int false ((↑(F (↑i : Int)).length : Int) - 1 - d.fmod (↑(F (↑i : Int)).length : Int)))], led := [x 0, x 1, .list false L', .list true [.ref 2, .int false a', .int false b'], x 4, x 5, x 6, x 7, x 8, .ffam (upTo (i + 1) ++ [(↑(i + 1) : Int)]) (fLst F) (↑(i + 1) : Int) (.list false (List.take ((↑(F (↑i : Int)).length : Int) - 1 - d.fmod (↑(F (↑i : Int)).length : Int)).toNat (F (↑i : Int)) ++ List.drop ((↑(F (↑i : Int)).length : Int) - 1 - d.fmod (↑(F (↑i : Int)).length : Int) + 1).toNat (F (↑i : Int)))), .ffam (upTo i ++ [(↑i : Int)]) (fLst G) (↑i : Int) (.list false (List.take ((↑(F (↑i : Int)).length : Int) - 1 - d.fmod (↑(F (↑i : Int)).length : Int)).toNat (F (↑i : Int)))), .ffam (upTo i ++ [(↑i : Int)]) (fLst H) (↑i : Int) (.list false (List.drop ((↑(F (↑i : Int)).length : Int) - 1 - d.fmod (↑(F (↑i : Int)).length : Int) + 1).toNat (F (↑i : Int)))), .list false (ord ++ [v])], orc := [] }) := by kernel_rfl
theorem obsL808 (S : Fix) (x : Nat → SO) (L L' : List SV) (a b a' b' d : Int) (n i : Nat) (F G H : Int → List SV) (ord : List SV) (v : SV) :
    AllH S (obsOf ((run Γ₀ 39).ex en808 (forBody s808) ⟨l808 n i, led808 x L a b (.fam (upTo (i + 1)) (fLst F)) (.fam (upTo i) (fLst G)) (.fam (upTo i) (fLst H)) ord,
  [.call (.int false d) (led808 x L' a' b' (.fam (upTo (i + 1)) (fLst F)) (.fam (upTo i) (fLst G)) (.fam (upTo i) (fLst H)) ord), .item v, .home 10 i, .home 11 i, .home 9 ((i + 1 : Nat) : Int)]⟩)) =
    (((((↑i : Int)) : Int) ∈ (upTo (i + 1))) ∧ ((((↑(F (↑i : Int)).length : Int)) : Int) ≤ (999)) ∧ CallOk S (20) (839) ([.ref 3, .int true 9]) ([x 0, x 1, .list false L, .list true [.ref 2, .int false a, .int false b], x 4, x 5, x 6, x 7, x 8, .fam (upTo (i + 1)) (fLst F), .fam (upTo i) (fLst G), .fam (upTo i) (fLst H), .list false ord]) (.int false d) (led808 x L' a' b' (.fam (upTo (i + 1)) (fLst F)) (.fam (upTo i) (fLst G)) (.fam (upTo i) (fLst H)) ord) ∧ ((((↑i : Int)) : Int) ∈ (upTo (i + 1))) ∧ ((((↑(F (↑i : Int)).length : Int)) : Int) ≤ (999)) ∧ (((1) : Int) ≤ ((↑(F (↑i : Int)).length : Int))) ∧ ((((↑i : Int)) : Int) ∈ (upTo (i + 1))) ∧ (0 ≤ ((↑(F (↑i : Int)).length : Int) - 1 - d.fmod (↑(F (↑i : Int)).length : Int)) ∧ (F (↑i : Int))[Int.toNat ((↑(F (↑i : Int)).length : Int) - 1 - d.fmod (↑(F (↑i : Int)).length : Int))]? = some (v)) ∧ ((((↑(F (↑i : Int)).length : Int) - 1 - d.fmod (↑(F (↑i : Int)).length : Int)) : Int) ≤ (999)) ∧ ((((↑ord.length : Int)) : Int) ≤ (999)) ∧ ((((↑i : Int)) : Int) ∈ (upTo (i + 1))) ∧ ((((↑(F (↑i : Int)).length : Int)) : Int) ≤ (16777216)) ∧ (((0) : Int) ≤ ((↑(F (↑i : Int)).length : Int) - 1 - d.fmod (↑(F (↑i : Int)).length : Int))) ∧ ((((↑i : Int)) : Int) ∉ (upTo i)) ∧ ((((↑i : Int)) : Int) ∈ (upTo (i + 1))) ∧ ((((↑(F (↑i : Int)).length : Int)) : Int) ≤ (16777216)) ∧ (((0) : Int) ≤ ((↑(F (↑i : Int)).length : Int) - 1 - d.fmod (↑(F (↑i : Int)).length : Int) + 1)) ∧ ((((↑i : Int)) : Int) ∉ (upTo i)) ∧ ((((↑i : Int)) : Int) = ((↑i : Int))) ∧ ((((↑i : Int)) : Int) = ((↑i : Int))) ∧ ((((↑((List.take ((↑(F (↑i : Int)).length : Int) - 1 - d.fmod (↑(F (↑i : Int)).length : Int)).toNat (F (↑i : Int))).length + (List.drop ((↑(F (↑i : Int)).length : Int) - 1 - d.fmod (↑(F (↑i : Int)).length : Int) + 1).toNat (F (↑i : Int))).length) : Int)) : Int) ≤ (999)) ∧ ((((↑(i + 1) : Int)) : Int) ∉ (upTo (i + 1))) ∧ True) := by kernel_rfl
theorem stepF846 (x : Nat → SO) (L L' : List SV) (a b a' b' : Int) (n m : Nat) (A B C B' C' : SO) (ord : List SV) (F0 : Int → SO) :
    outOf ((run Γ₀ 59).ex en846 f_law_order.body ⟨[(nm "tape", .ref 3), (nm "count", ii n)], tapeL (x 0) (x 1) L a b (preF x 4 5 [.fam [] F0, B, C]), [.home 9 0, .loop (l808 n m) (led808 x L' a' b' A B' C' ord)]⟩) =
    some (.ret (.ref 12), { loc := l808 n m, led := led808 x L' a' b' A B' C' ord, orc := [] }) := by kernel_rfl
theorem obsF846 (S : Fix) (x : Nat → SO) (L L' : List SV) (a b a' b' : Int) (n m : Nat) (A B C B' C' : SO) (ord : List SV) (F0 : Int → SO) :
    AllH S (obsOf ((run Γ₀ 59).ex en846 f_law_order.body ⟨[(nm "tape", .ref 3), (nm "count", ii n)], tapeL (x 0) (x 1) L a b (preF x 4 5 [.fam [] F0, B, C]), [.home 9 0, .loop (l808 n m) (led808 x L' a' b' A B' C' ord)]⟩)) =
    ((((-999) : Int) ≤ ((↑n : Int))) ∧ ((((↑n : Int)) : Int) ≤ (999)) ∧ (((0) : Int) ∉ ([])) ∧ LoopOk S (40) en808 s808 ([(nm "tape", .ref 3), (nm "count", ii n), (nm "left", .fam 9 0), (nm "order_", .ref 12)]) ([x 0, x 1, .list false L, .list true [.ref 2, .int false a, .int false b], x 4, x 5, x 6, x 7, x 8, .ffam [0] F0 0 (.list false (List.map (fun (i : Nat) => .int false (0 + (↑i : Int))) (List.range ((↑n : Int) - 0).toNat))), B, C, .list true []]) (l808 n m) (led808 x L' a' b' A B' C' ord) ∧ True) := by kernel_rfl
noncomputable def digs (L : List Int) : List SV := L.map (SV.int false)
theorem digs_len (L : List Int) : (digs L).length = L.length := by unfold digs; rw [List.length_map]
theorem CallOk.as {S : Fix} {k a : Nat} {args : List SV} {b b' : SV} {led led' led'' : Led} (C : CallOk S k a args led b led') (hw : WV b b') (h : LedW S led' led'') : CallOk S k a args led b' led'' := fun en c hc loc orc z m s Q vs R d hQ =>
  C en c hc loc orc z m s Q vs R d fun u z' m' h' tk' le R' da => hQ u z' m' h' tk' le (Sub.ledW h c z' m' h' R') (hw z' u da)
theorem fn839 : lookN 839 Γ₀.fns = some f_law_digit := by kernel_rfl
theorem za839 : zipArgs f_law_digit.params [.ref 3, .int true 9] = some [(nm "tape", .ref 3), (nm "limit", .int true 9)] := by kernel_rfl
theorem fn846 : lookN 846 Γ₀.fns = some f_law_order := by kernel_rfl
theorem za846 (n : Nat) : zipArgs f_law_order.params [.ref 3, ii n] = some [(nm "tape", .ref 3), (nm "count", ii n)] := by kernel_rfl
theorem s808_eq : s808 = .While (forTgt s808) (forBody s808) [] (posOfS s808) := by kernel_rfl
section
variable {prog : Program} {w : World} {K : Frag} {mg mb : Str → Option Value}
theorem call839 (V : Valid K mg mb Γ₀) (x0 x1 : SO) (L : List Int) (a b : Int) (r : Led) (hL : L.length ≤ 60) (ha : 0 ≤ a) : ∃ (L' : List Int) (a' b' d : Int), L'.length = L.length ∧ 0 ≤ a' ∧ 0 ≤ d ∧ d < 9 ∧
    CallOk (Sx prog w K mg mb) 20 839 [.ref 3, .int true 9] (tapeL x0 x1 (digs L) a b r) (.int false d) (tapeL x0 x1 (digs L') a' b' r) := by
  have hl := digs_len L
  have wk : ∀ u v : Int, LedW (Sx prog w K mg mb) (x0 :: x1 :: .list false (digs L) :: .list true [.ref 2, .int false u, .int true v] :: r) (tapeL x0 x1 (digs L) u v r) := fun u v =>
    ⟨.inl rfl, .inl rfl, .inl rfl, .inr (WO.list (.cons (.refl _) (.cons (.refl _) (.cons (.int _ _ _) .nil)))), LedW.refl r⟩
  by_cases h1 : a ≥ L.length
  · refine ⟨L, a, b, 0, rfl, ha, Int.le_refl _, by omega, ?_⟩
    exact (callOk_run (n := 19) V fn839 za839 (stepA839 x0 x1 (digs L) a b r) (obsA839 _ x0 x1 (digs L) a b r) ⟨by omega, decide_eq_true (by rw [hl]; exact h1), trivial⟩).as (.int _ _ _) (LedW.refl _)
  · have hi : a.toNat < L.length := by omega
    have hx : (digs L)[Int.toNat a]? = some (.int false L[a.toNat]) := by unfold digs; rw [List.getElem?_map, List.getElem?_eq_getElem hi]; rfl
    have f1 : 0 ≤ (L[a.toNat]).fmod 9 := Int.fmod_nonneg_of_pos _ (by decide)
    have f2 : (L[a.toNat]).fmod 9 < 9 := Int.fmod_lt_of_pos _ (by decide)
    have hd := decide_eq_false (show ¬ a ≥ (((digs L).length : Nat) : Int) by rw [hl]; omega)
    by_cases r1 : (L[a.toNat]).fdiv 9 = 0
    · exact ⟨L, a + 1, 0, _, rfl, by omega, f1, f2, (callOk_run (n := 19) V fn839 za839 (stepB839 x0 x1 (digs L) a b _ r) (obsB839 _ x0 x1 (digs L) a b _ r) ⟨by omega, hd, ⟨ha, hx⟩, by omega, by omega, by omega, by omega, by omega, by omega, by omega, decide_eq_true r1, by omega, by omega, by omega, by omega, by omega, by omega, trivial⟩).as (.refl _) (wk _ _)⟩
    by_cases r2 : (L[a.toNat]).fdiv 9 = -1
    · exact ⟨L, a + 1, 0, _, rfl, by omega, f1, f2, (callOk_run (n := 19) V fn839 za839 (stepC839 x0 x1 (digs L) a b _ r) (obsC839 _ x0 x1 (digs L) a b _ r) ⟨by omega, hd, ⟨ha, hx⟩, by omega, by omega, by omega, by omega, by omega, by omega, by omega, decide_eq_false r1, decide_eq_true r2, by omega, by omega, by omega, by omega, by omega, by omega, trivial⟩).as (.refl _) (wk _ _)⟩
    by_cases r3 : b + 1 = 30
    · exact ⟨L, a + 1, 0, _, rfl, by omega, f1, f2, (callOk_run (n := 19) V fn839 za839 (stepD839 x0 x1 (digs L) a b _ r) (obsD839 _ x0 x1 (digs L) a b _ r) ⟨by omega, hd, ⟨ha, hx⟩, by omega, by omega, by omega, by omega, by omega, by omega, by omega, decide_eq_false r1, decide_eq_false r2, decide_eq_true r3, by omega, by omega, by omega, by omega, by omega, by omega, trivial⟩).as (.refl _) (wk _ _)⟩
    refine ⟨L.set a.toNat ((L[a.toNat]).fdiv 9), a, b + 1, _, by rw [List.length_set], ha, f1, f2, ?_⟩
    have es : digs (L.set a.toNat ((L[a.toNat]).fdiv 9)) = (digs L).set a.toNat (.int false ((L[a.toNat]).fdiv 9)) := by unfold digs; rw [List.map_set]
    rw [es]
    exact callOk_run (n := 19) V fn839 za839 (stepE839 x0 x1 (digs L) a b _ r) (obsE839 _ x0 x1 (digs L) a b _ r) ⟨by omega, hd, ⟨ha, hx⟩, by omega, by omega, by omega, by omega, by omega, by omega, by omega, decide_eq_false r1, decide_eq_false r2, decide_eq_false r3, by omega, by omega, by omega, trivial⟩
noncomputable def updL (F : Int → List SV) (i : Int) (l : List SV) (j : Int) : List SV := if j = i then l else F j
theorem updL_at (F : Int → List SV) (i : Int) (l : List SV) : updL F i l i = l := if_pos rfl
theorem Sub.growL {S : Fix} {en : En} {loc : Loc} {led : Led} {o : List Orc} {t : Nat} {ks ks' : List Int} {F : Int → List SV} {i : Int} {l : List SV} (h : led[t]? = some (.ffam ks (fLst F) i (.list false l))) (hk : ks = ks') : Sub S en ⟨loc, led, o⟩ ⟨loc, led.set t (.fam ks' (fLst (updL F i l))), []⟩ :=
  Sub.grow h (fun k => by rw [hk]) (by unfold fLst; rw [updL_at]) fun k _ hne => by unfold fLst updL; rw [if_neg hne]
theorem turns808 (V : Valid K mg mb Γ₀) (x : Nat → SO) {n : Nat} (hn : n ≤ 60) : ∀ (m i : Nat) (left acc : List Nat) (L : List Int) (a b : Int) (F G H : Int → List SV), left.length = m → i + m = n → L.length ≤ 60 → 0 ≤ a → F i = left.map ii → acc.length = i →
    ∃ (L' : List Int) (a' b' : Int) (ord : List Nat) (F' G' H' : Int → List SV), ord.Perm (acc ++ left) ∧ WTurns (Sx prog w K mg mb) (run Γ₀ 39) en808 (forTgt s808) (forBody s808) m
      ⟨l808 n i, led808 x (digs L) a b (.fam (upTo (i + 1)) (fLst F)) (.fam (upTo i) (fLst G)) (.fam (upTo i) (fLst H)) (acc.map ii), []⟩ .next
      ⟨l808 n n, led808 x (digs L') a' b' (.fam (upTo (n + 1)) (fLst F')) (.fam (upTo n) (fLst G')) (.fam (upTo n) (fLst H')) (ord.map ii), []⟩
  | 0, i, left, acc, L, a, b, F, G, H, h1, h2, h3, h4, h5, h6 => by
    obtain rfl : i = n := by omega
    obtain rfl : left = [] := List.length_eq_zero_iff.mp h1
    refine ⟨L, a, b, acc, F, G, H, by rw [List.append_nil], ?_⟩
    obtain ⟨o, e, ho⟩ := run_ok (S := Sx prog w K mg mb) (stepT808 x (digs L) a b i i F (upTo (i + 1)) (.fam (upTo i) (fLst G)) (.fam (upTo i) (fLst H)) (acc.map ii) false []) (by
      rw [obsT808]; exact ⟨in_upTo (by omega), by rw [h5]; simp, decide_eq_false (by rw [h5]; simp), trivial⟩)
    exact .sub (Sub.orc _ _) (.done e ho)
  | m + 1, i, left, acc, L, a, b, F, G, H, h1, h2, h3, h4, h5, h6 => by
    obtain ⟨L', a', b', d, d1, d2, d3, d4, C⟩ := call839 (prog := prog) (w := w) V (x 0) (x 1) L a b (preF x 4 5 [.fam (upTo (i + 1)) (fLst F), .fam (upTo i) (fLst G), .fam (upTo i) (fLst H), .list false (acc.map ii)]) h3 h4
    have hF : (F i).length = m + 1 := by rw [h5, List.length_map, h1]
    have g1 : 0 ≤ d.fmod ((m + 1 : Nat) : Int) := Int.fmod_nonneg_of_pos _ (by omega)
    have g2 : d.fmod ((m + 1 : Nat) : Int) < ((m + 1 : Nat) : Int) := Int.fmod_lt_of_pos _ (by omega)
    obtain ⟨sN, hs⟩ : ∃ sN : Nat, (((F i).length : Nat) : Int) - 1 - d.fmod (((F i).length : Nat) : Int) = (sN : Int) := ⟨((((m + 1 : Nat) : Int) - 1 - d.fmod ((m + 1 : Nat) : Int))).toNat, by rw [hF]; omega⟩
    have hsN : sN < left.length := by rw [hF] at hs; omega
    have hget : (F i)[sN]? = some (ii left[sN]) := by rw [h5, List.getElem?_map, List.getElem?_eq_getElem hsN]; rfl
    have hin : (i : Int) ∈ upTo (i + 1) := in_upTo (by omega)
    have hnot := notin_upTo (Int.le_refl (i : Int))
    have st := stepL808 x (digs L) (digs L') a b a' b' d n i F G H (acc.map ii) (ii left[sN])
    have ob := obsL808 (Sx prog w K mg mb) x (digs L) (digs L') a b a' b' d n i F G H (acc.map ii) (ii left[sN])
    rw [hs] at st ob
    rw [show ((sN : Int)).toNat = sN from rfl, show ((sN : Int) + 1).toNat = sN + 1 from rfl] at st
    have newl : List.take sN (F i) ++ List.drop (sN + 1) (F i) = (left.take sN ++ left.drop (sN + 1)).map ii := by rw [h5, List.map_append, List.map_take, List.map_drop]
    obtain ⟨oT, eT, hoT⟩ := run_ok (S := Sx prog w K mg mb) (stepT808 x (digs L) a b n i F (upTo (i + 1)) (.fam (upTo i) (fLst G)) (.fam (upTo i) (fLst H)) (acc.map ii) true [.call (.int false d) (led808 x (digs L') a' b' (.fam (upTo (i + 1)) (fLst F)) (.fam (upTo i) (fLst G)) (.fam (upTo i) (fLst H)) (acc.map ii)), .item (ii left[sN]), .home 10 i, .home 11 i, .home 9 ((i + 1 : Nat) : Int)]) (by
      rw [obsT808]; exact ⟨hin, by rw [hF]; omega, decide_eq_true (by rw [hF]; omega), trivial⟩)
    obtain ⟨oB, eB, hoB⟩ := run_ok (S := Sx prog w K mg mb) st (by
      rw [ob]
      exact ⟨hin, by rw [hF]; omega, C, hin, by rw [hF]; omega, by rw [hF]; omega, hin, ⟨by omega, hget⟩, by omega, by rw [List.length_map, h6]; omega, hin, by rw [hF]; omega, by omega, hnot, hin, by rw [hF]; omega, by omega, hnot, rfl, rfl, by
        rw [List.length_take, List.length_drop, hF]; omega, notin_upTo (Int.le_refl _), trivial⟩)
    obtain ⟨L2, a2, b2, ord, F2, G2, H2, hp, T⟩ := turns808 V x hn m (i + 1) (left.take sN ++ left.drop (sN + 1)) (acc ++ [left[sN]]) L' a' b' (updL F ((i + 1 : Nat) : Int) ((left.take sN ++ left.drop (sN + 1)).map ii)) (updL G i (List.take sN (F i))) (updL H i (List.drop (sN + 1) (F i)))
      (by rw [List.length_append, List.length_take, List.length_drop]; omega) (by omega) (by omega) d2 (updL_at _ _ _) (by rw [List.length_append, h6]; rfl)
    refine ⟨L2, a2, b2, ord, F2, G2, H2, hp.trans ?_, .sub (Sub.orc _ _) (.step eT hoT eB hoB (.inl rfl) (.sub ?_ T))⟩
    · rw [List.append_assoc]
      refine List.Perm.append_left acc ?_
      show (left[sN] :: (left.take sN ++ left.drop (sN + 1))).Perm left
      have : left = left.take sN ++ left[sN] :: left.drop (sN + 1) := by rw [List.getElem_cons_drop, List.take_append_drop]
      conv => rhs; rw [this]
      exact List.perm_middle.symm
    · rw [newl]
      rw [show (acc ++ [left[sN]]).map ii = acc.map ii ++ [ii left[sN]] by rw [List.map_append]; rfl]
      exact Sub.trans (Sub.drop (l808 n (i + 1)) [_]) (Sub.trans (Sub.growL (t := 9) (ks' := upTo (i + 1 + 1)) rfl (upTo_succ _).symm) (Sub.trans (Sub.growL (t := 10) (ks' := upTo (i + 1)) rfl (upTo_succ _).symm) (Sub.growL (t := 11) (ks' := upTo (i + 1)) rfl (upTo_succ _).symm)))
theorem call846 (V : Valid K mg mb Γ₀) (x : Nat → SO) {n : Nat} (hn : n ≤ 60) (L : List Int) (a b : Int) (hL : L.length ≤ 60) (ha : 0 ≤ a) :
    ∃ (L' : List Int) (a' b' : Int) (ord : List Nat) (F' G' H' : Int → List SV), ord.Perm (List.range n) ∧ CallOk (Sx prog w K mg mb) 60 846 [.ref 3, ii n] (tapeL (x 0) (x 1) (digs L) a b (preF x 4 5 [])) (.ref 12)
      (led808 x (digs L') a' b' (.fam (upTo (n + 1)) (fLst F')) (.fam (upTo n) (fLst G')) (.fam (upTo n) (fLst H')) (ord.map ii)) := by
  obtain ⟨L', a', b', ord, F', G', H', hp, T⟩ := turns808 (prog := prog) (w := w) V x hn n 0 (List.range n) [] L a b (fun _ => (List.range n).map ii) (fun _ => []) (fun _ => []) (by simp) (by omega) hL ha rfl rfl
  refine ⟨L', a', b', ord, F', G', H', by simpa using hp, ?_⟩
  refine CallOk.fam (fLst fun _ => (List.range n).map ii) (CallOk.fam (fLst fun _ => []) (CallOk.fam (fLst fun _ => []) ?_))
  refine callOk_run (n := 59) V fn846 (za846 n) (stepF846 x (digs L) (digs L') a b a' b' n n (.fam (upTo (n + 1)) (fLst F')) (.fam [] (fLst fun _ => [])) (.fam [] (fLst fun _ => [])) (.fam (upTo n) (fLst G')) (.fam (upTo n) (fLst H')) (ord.map ii) (fLst fun _ => (List.range n).map ii)) (obsF846 _ x (digs L) (digs L') a b a' b' n n _ _ _ _ _ _ _) ⟨by omega, by omega, List.not_mem_nil, ?_, trivial⟩
  rw [s808_eq]
  refine loopOk_while (n := 39) (o0 := []) (oc := []) (nn := n) V (.sub ?_ T)
  have el : (List.range ((n : Int) - 0).toNat).map (fun i : Nat => SV.int false (0 + (i : Int))) = (List.range n).map ii := by
    rw [show ((n : Int) - 0).toNat = n by omega]
    exact List.map_congr_left fun i _ => by rw [Int.zero_add]
  rw [el]
  refine Sub.trans (Sub.grow (t := 9) (ks' := upTo 1) (g := fLst fun _ => (List.range n).map ii) rfl (fun _ => Iff.rfl) rfl fun _ _ _ => rfl) ?_
  exact Sub.trans (Sub.chunk (t := 12) (b := .list false []) rfl (WO.list .nil)) (Sub.locW (loc' := l808 n 0) (o' := []) ⟨⟨_, by kernel_rfl, .refl _⟩, ⟨_, by kernel_rfl, .refl _⟩, ⟨_, by kernel_rfl, .refl _⟩, ⟨_, by kernel_rfl, .refl _⟩, trivial⟩)
end
set_option tactic.hygienic false
open PySem PySem.W PySem.Calls PyProof.Rows PySem.SeqAt
noncomputable def StOk (S : Fix) (k : Nat) (en : En) (st : Stmt) (loc : Loc) (led : Led) (fl : Fl) (loc' : Loc) (led' : Led) : Prop :=
  ∀ c, c.Ok S k → ∀ orc z m (s : Shared) (Q : Flow → Shared → Prop) (E : Value → Shared → Prop), Rep S en c z m ⟨loc, led, orc⟩ s.heap →
    (∀ f z' m' h' tk', z.Le z' → Rep S en c z' m' ⟨loc', led', orc⟩ h' → DenF z' fl f → Q f (Sh s h' tk')) → wpAny S.M c.A (exec st c.env) Q E s
noncomputable def ExOk (S : Fix) (k : Nat) (en : En) (l : List Stmt) (loc : Loc) (led : Led) (fl : Fl) (P : Loc → Led → Prop) : Prop :=
  ∀ c, c.Ok S k → ∀ orc z m (s : Shared) (Q : Flow → Shared → Prop) (E : Value → Shared → Prop), Rep S en c z m ⟨loc, led, orc⟩ s.heap →
    (∀ loc' led' f z' m' h' tk', P loc' led' → z.Le z' → Rep S en c z' m' ⟨loc', led', orc⟩ h' → DenF z' fl f → Q f (Sh s h' tk')) → wpAny S.M c.A (execs l c.env) Q E s
section
variable {S : Fix} {en : En} {k : Nat}
theorem StOk.then {st : Stmt} {rest : List Stmt} {loc loc₁ : Loc} {led led₁ : Led} {fl : Fl} {P : Loc → Led → Prop} (a : StOk S k en st loc led .next loc₁ led₁) (b : ExOk S k en rest loc₁ led₁ fl P) : ExOk S k en (st :: rest) loc led fl P := by
  intro c hc orc z m s Q E R hQ
  refine wpAny_execs_cons (a c hc orc z m s _ E R fun g z₁ m₁ h₁ tk₁ le R₁ dg => ?_)
  cases dg
  exact b c hc orc z₁ m₁ (Sh s h₁ tk₁) Q E R₁ fun loc' led' f z₂ m₂ h₂ tk₂ hp le₂ R₂ df => hQ loc' led' f z₂ m₂ h₂ tk₂ hp (le.trans le₂) R₂ df
theorem StOk.last {st : Stmt} {rest : List Stmt} {loc loc₁ : Loc} {led led₁ : Led} {v : SV} {P : Loc → Led → Prop} (a : StOk S k en st loc led (.ret v) loc₁ led₁) (hp : P loc₁ led₁) : ExOk S k en (st :: rest) loc led (.ret v) P := by
  intro c hc orc z m s Q E R hQ
  refine wpAny_execs_cons (a c hc orc z m s _ E R fun g z₁ m₁ h₁ tk₁ le R₁ dg => ?_)
  cases dg with
  | ret d => exact hQ _ _ _ z₁ m₁ h₁ tk₁ hp le R₁ (.ret d)
end
section
variable {prog : Program} {w : World} {K : Frag} {mg mb : Str → Option Value}
theorem stOk_run (V : Valid K mg mb Γ₀) {n : Nat} {en : En} {st : Stmt} {loc loc' : Loc} {led led' : Led} {o0 oc : List Orc} {fl : Fl} {P : Prop}
    (h1 : outOf (stStep Γ₀ (run Γ₀ n) en st ⟨loc, led, o0⟩) = some (fl, ⟨loc', led', oc⟩)) (h2 : AllH (Sx prog w K mg mb) (obsOf (stStep Γ₀ (run Γ₀ n) en st ⟨loc, led, o0⟩)) = P) (h3 : P) : StOk (Sx prog w K mg mb) (n + 1) en st loc led fl loc' led' := by
  obtain ⟨o, e, ho⟩ := run_ok (S := Sx prog w K mg mb) h1 (by rw [h2]; exact h3)
  intro c k orc z m s Q E R hQ
  exact good_st (S := Sx prog w K mg mb) (n := n) (r := run Γ₀ n) V k (sound V n) st ⟨loc, led, o0⟩ fl _ o e ho z m s Q E (R.orc o0) fun f z' m' h' tk' le R' df => hQ f z' m' h' tk' le (R'.orc orc) df
end
noncomputable abbrev enL : En := ⟨f_law.sc, [(nm "order_", 1)]⟩
noncomputable def stL (i : Nat) : Stmt := nthS f_law.body i
noncomputable def sA4 : SO := .inst 154 [(nm "texts", .ref 5), (nm "atom_numbers", .ref 6), (nm "functors", .ref 7), (nm "functor_numbers", .ref 8)]
noncomputable def sA5 : SO := .list true [.str (nm "[]"), .str (nm "."), .str (nm "{}"), .str (nm "-"), .str (nm "+"), .str (nm "*"), .str (nm "/"), .str (nm ","), .str (nm "|"), .str (nm ";"), .str (nm "->"), .str (nm "\\+"), .str (nm ":-"), .str (nm "?-"), .str (nm "-->"), .str (nm "!"), .str (nm "true"), .str (nm "fail"), .str (nm "false"), .str (nm "call"), .str (nm "="), .str (nm "^"), .str (nm "error"), .str (nm ""), .str (nm "end_of_file"), .str (nm "system"), .str (nm "$VAR"), .str (nm "catch"), .str (nm "throw")]
noncomputable def sA6 : SO := .dict true [(.str (nm "[]"), .int true 0), (.str (nm "."), .int true 1), (.str (nm "{}"), .int true 2), (.str (nm "-"), .int true 3), (.str (nm "+"), .int true 4), (.str (nm "*"), .int true 5), (.str (nm "/"), .int true 6), (.str (nm ","), .int true 7), (.str (nm "|"), .int true 8), (.str (nm ";"), .int true 9), (.str (nm "->"), .int true 10), (.str (nm "\\+"), .int true 11), (.str (nm ":-"), .int true 12), (.str (nm "?-"), .int true 13), (.str (nm "-->"), .int true 14), (.str (nm "!"), .int true 15), (.str (nm "true"), .int true 16), (.str (nm "fail"), .int true 17), (.str (nm "false"), .int true 18), (.str (nm "call"), .int true 19), (.str (nm "="), .int true 20), (.str (nm "^"), .int true 21), (.str (nm "error"), .int true 22), (.str (nm ""), .int true 23), (.str (nm "end_of_file"), .int true 24), (.str (nm "system"), .int true 25), (.str (nm "$VAR"), .int true 26), (.str (nm "catch"), .int true 27), (.str (nm "throw"), .int true 28)]
noncomputable def sA7 : SO := .list true [.tup [.int true 1, .int true 2], .tup [.int true 7, .int true 2], .tup [.int true 9, .int true 2], .tup [.int true 10, .int true 2], .tup [.int true 11, .int true 1], .tup [.int true 12, .int true 2], .tup [.int true 12, .int true 1], .tup [.int true 13, .int true 1], .tup [.int true 14, .int true 2], .tup [.int true 2, .int true 1], .tup [.int true 20, .int true 2], .tup [.int true 21, .int true 2], .tup [.int true 3, .int true 1], .tup [.int true 3, .int true 2], .tup [.int true 4, .int true 2], .tup [.int true 6, .int true 2], .tup [.int true 22, .int true 2], .tup [.int true 26, .int true 1], .tup [.int true 27, .int true 3], .tup [.int true 28, .int true 1], .tup [.int true 15, .int true 0], .tup [.int true 16, .int true 0], .tup [.int true 17, .int true 0], .tup [.int true 18, .int true 0], .tup [.int true 19, .int true 1], .tup [.int true 19, .int true 2], .tup [.int true 19, .int true 3], .tup [.int true 19, .int true 4], .tup [.int true 19, .int true 5], .tup [.int true 19, .int true 6], .tup [.int true 19, .int true 7], .tup [.int true 19, .int true 8]]
noncomputable def sA8 : SO := .dict true [(.tup [.int true 1, .int true 2], .int true 0), (.tup [.int true 7, .int true 2], .int true 1), (.tup [.int true 9, .int true 2], .int true 2), (.tup [.int true 10, .int true 2], .int true 3), (.tup [.int true 11, .int true 1], .int true 4), (.tup [.int true 12, .int true 2], .int true 5), (.tup [.int true 12, .int true 1], .int true 6), (.tup [.int true 13, .int true 1], .int true 7), (.tup [.int true 14, .int true 2], .int true 8), (.tup [.int true 2, .int true 1], .int true 9), (.tup [.int true 20, .int true 2], .int true 10), (.tup [.int true 21, .int true 2], .int true 11), (.tup [.int true 3, .int true 1], .int true 12), (.tup [.int true 3, .int true 2], .int true 13), (.tup [.int true 4, .int true 2], .int true 14), (.tup [.int true 6, .int true 2], .int true 15), (.tup [.int true 22, .int true 2], .int true 16), (.tup [.int true 26, .int true 1], .int true 17), (.tup [.int true 27, .int true 3], .int true 18), (.tup [.int true 28, .int true 1], .int true 19), (.tup [.int true 15, .int true 0], .int true 20), (.tup [.int true 16, .int true 0], .int true 21), (.tup [.int true 17, .int true 0], .int true 22), (.tup [.int true 18, .int true 0], .int true 23), (.tup [.int true 19, .int true 1], .int true 24), (.tup [.int true 19, .int true 2], .int true 25), (.tup [.int true 19, .int true 3], .int true 26), (.tup [.int true 19, .int true 4], .int true 27), (.tup [.int true 19, .int true 5], .int true 28), (.tup [.int true 19, .int true 6], .int true 29), (.tup [.int true 19, .int true 7], .int true 30), (.tup [.int true 19, .int true 8], .int true 31)]
theorem stepS1 (t D T : SO) : outOf (stStep Γ₀ (run Γ₀ 149) enL (stL 1) ⟨[(nm "tape", .ref 3)], [t, .nocell, D, T], []⟩) =
    some (.next, { loc := [(nm "tape", .ref 3), (nm "names", .ref 4)], led := [t, .nocell, D, T, sA4, sA5, sA6, sA7, sA8], orc := [] }) := by kernel_rfl
theorem obsS1 (S : Fix) (t D T : SO) : AllH S (obsOf (stStep Γ₀ (run Γ₀ 149) enL (stL 1) ⟨[(nm "tape", .ref 3)], [t, .nocell, D, T], []⟩)) = True := by kernel_rfl
noncomputable abbrev lL1 : Loc := [(nm "tape", .ref 3), (nm "names", .ref 4)]
theorem stepS2 (x : Nat → SO) (L L' : List SV) (a b a' b' : Int) (d : Nat) :
    outOf (stStep Γ₀ (run Γ₀ 149) enL (stL 2) ⟨lL1, tapeL (x 0) (x 1) L a b (preF x 4 5 []), [.call (ii d) (tapeL (x 0) (x 1) L' a' b' (preF x 4 5 []))]⟩) =
    some (.next, { loc := [(nm "tape", .ref 3), (nm "names", .ref 4), (nm "count", .int (true && false) (1 + (↑d : Int)))], led := [x 0, x 1, .list false L', .list true [.ref 2, .int false a', .int false b'], x 4, x 5, x 6, x 7, x 8], orc := [] }) := by kernel_rfl
theorem obsS2 (S : Fix) (x : Nat → SO) (L L' : List SV) (a b a' b' : Int) (d : Nat) :
    AllH S (obsOf (stStep Γ₀ (run Γ₀ 149) enL (stL 2) ⟨lL1, tapeL (x 0) (x 1) L a b (preF x 4 5 []), [.call (ii d) (tapeL (x 0) (x 1) L' a' b' (preF x 4 5 []))]⟩)) =
    (CallOk S (20) (839) ([.ref 3, .int true 9]) ([x 0, x 1, .list false L, .list true [.ref 2, .int false a, .int false b], x 4, x 5, x 6, x 7, x 8]) (ii d) ([x 0, x 1, .list false L', .list true [.ref 2, .int false a', .int false b'], x 4, x 5, x 6, x 7, x 8]) ∧ True) := by kernel_rfl
noncomputable abbrev lL2 (n : Nat) : Loc := [(nm "tape", .ref 3), (nm "names", .ref 4), (nm "count", ii n)]
theorem stepS3 (x : Nat → SO) (L L' : List SV) (a b a' b' : Int) (n : Nat) (A B C : SO) (ord : List SV) :
    outOf (stStep Γ₀ (run Γ₀ 149) enL (stL 3) ⟨lL2 n, tapeL (x 0) .nocell L a b (preF x 4 5 []), [.call (.ref 12) (tapeL (x 0) .nocell L' a' b' (preF x 4 5 [A, B, C, .list false ord]))]⟩) =
    some (.next, { loc := [(nm "tape", .ref 3), (nm "names", .ref 4), (nm "count", ii n)], led := [x 0, .cell (.ref 12), .list false L', .list true [.ref 2, .int false a', .int false b'], x 4, x 5, x 6, x 7, x 8, A, B, C, .list false ord], orc := [] }) := by kernel_rfl
theorem obsS3 (S : Fix) (x : Nat → SO) (L L' : List SV) (a b a' b' : Int) (n : Nat) (A B C : SO) (ord : List SV) :
    AllH S (obsOf (stStep Γ₀ (run Γ₀ 149) enL (stL 3) ⟨lL2 n, tapeL (x 0) .nocell L a b (preF x 4 5 []), [.call (.ref 12) (tapeL (x 0) .nocell L' a' b' (preF x 4 5 [A, B, C, .list false ord]))]⟩)) =
    (CallOk S (60) (846) ([.ref 3, .int false (↑n : Int)]) ([x 0, .nocell, .list false L, .list true [.ref 2, .int false a, .int false b], x 4, x 5, x 6, x 7, x 8]) (.ref 12) ([x 0, .nocell, .list false L', .list true [.ref 2, .int false a', .int false b'], x 4, x 5, x 6, x 7, x 8, A, B, C, .list false ord]) ∧ True) := by kernel_rfl
noncomputable def apS (o : SO) (v : SV) : SO := match o with
  | .list c l => .list c (l ++ [v])
  | o => o
noncomputable def apD (o : SO) (k v : SV) : SO := match o with
  | .dict c d => .dict c (d ++ [(k, v)])
  | o => o
noncomputable def sB5 : SO := apS sA5 (.str (nm "p"))
noncomputable def sB6 : SO := apD sA6 (.str (nm "p")) (.int true 29)
noncomputable def sB7 (n : Nat) : SO := apS sA7 (.tup [.int true 29, ii n])
noncomputable def sB8 (n : Nat) : SO := apD sA8 (.tup [.int true 29, ii n]) (.int true 32)
noncomputable def sC5 : SO := apS sB5 (.str (nm "q"))
noncomputable def sC6 : SO := apD sB6 (.str (nm "q")) (.int true 30)
noncomputable def sC7 (n : Nat) : SO := apS (sB7 n) (.tup [.int true 30, ii n])
noncomputable def sC8 (n : Nat) : SO := apD (sB8 n) (.tup [.int true 30, ii n]) (.int true 33)
noncomputable abbrev lL4 (n : Nat) : Loc := [(nm "tape", .ref 3), (nm "names", .ref 4), (nm "count", ii n), (nm "own", .int true 32)]
noncomputable abbrev lL5 (n : Nat) : Loc := [(nm "tape", .ref 3), (nm "names", .ref 4), (nm "count", ii n), (nm "own", .int true 32), (nm "other", .int true 33)]
theorem stepS4 (n : Nat) (t c D T A B C ord : SO) : outOf (stStep Γ₀ (run Γ₀ 149) enL (stL 4) ⟨lL2 n, [t, c, D, T, sA4, sA5, sA6, sA7, sA8, A, B, C, ord], []⟩) =
    some (.next, ⟨lL4 n, [t, c, D, T, sA4, sB5, sB6, sB7 n, sB8 n, A, B, C, ord], []⟩) := by kernel_rfl
theorem obsS4 (S : Fix) (n : Nat) (t c D T A B C ord : SO) : AllH S (obsOf (stStep Γ₀ (run Γ₀ 149) enL (stL 4) ⟨lL2 n, [t, c, D, T, sA4, sA5, sA6, sA7, sA8, A, B, C, ord], []⟩)) = True := by kernel_rfl
theorem stepS5 (n : Nat) (t c D T A B C ord : SO) : outOf (stStep Γ₀ (run Γ₀ 149) enL (stL 5) ⟨lL4 n, [t, c, D, T, sA4, sB5, sB6, sB7 n, sB8 n, A, B, C, ord], []⟩) =
    some (.next, ⟨lL5 n, [t, c, D, T, sA4, sC5, sC6, sC7 n, sC8 n, A, B, C, ord], []⟩) := by kernel_rfl
theorem obsS5 (S : Fix) (n : Nat) (t c D T A B C ord : SO) : AllH S (obsOf (stStep Γ₀ (run Γ₀ 149) enL (stL 5) ⟨lL4 n, [t, c, D, T, sA4, sB5, sB6, sB7 n, sB8 n, A, B, C, ord], []⟩)) = True := by kernel_rfl
noncomputable def scK : Scope := { kind := .function, names := [(nm ".0", .local), (nm "k", .local)], isGenerator := false, isCoroutine := false }
noncomputable def scSp : Scope := { kind := .function, names := [(nm ".0", .local), (nm "spot", .local), (nm "order_", .free)], isGenerator := false, isCoroutine := false }
noncomputable def vkE (l a : Nat) : Expr := .Tuple [.Constant (.str (nm "v")) 0 (ps l a (a + 3)), .Name (nm "k") (ps l (a + 5) (a + 6))] 0 (ps l (a - 1) (a + 7))
noncomputable def rngE (l a : Nat) : Expr := .Call (.Name (nm "range") (ps l a (a + 5))) [.Name (nm "count") (ps l (a + 6) (a + 11))] [] (ps l a (a + 12))
noncomputable def c832 : Expr := .ListComp (vkE 832 20) [⟨.Name (nm "k") (ps 832 32 33), rngE 832 37, [], 0⟩] scK (ps 832 18 50)
noncomputable def c833 : Expr := .ListComp (vkE 833 38) [⟨.Name (nm "k") (ps 833 50 51), .Name (nm "order_") (ps 833 55 61), [], 0⟩] scK (ps 833 36 62)
noncomputable def ordE (l a : Nat) (op : CmpOp) : Expr := .Compare (.Subscript (.Name (nm "order_") (ps l a (a + 6))) (.Name (nm "spot") (ps l (a + 7) (a + 11))) (ps l a (a + 12))) [op] [.Name (nm "spot") (ps l (a + 15) (a + 19))] (ps l a (a + 19))
noncomputable def c835 : Expr := .ListComp (.Name (nm "spot") (ps 835 19 23)) [⟨.Name (nm "spot") (ps 835 28 32), rngE 835 36, [ordE 835 52 .Gt], 0⟩] scSp (ps 835 18 72)
noncomputable def c836 : Expr := .ListComp (.Name (nm "spot") (ps 836 17 21)) [⟨.Name (nm "spot") (ps 836 26 30), rngE 836 34, [ordE 836 50 .Lt], 0⟩] scSp (ps 836 16 70)
theorem stepS6 (x : Nat → SO) (n : Nat) (l : List SV) :
    outOf (stStep Γ₀ (run Γ₀ 149) enL (stL 6) ⟨lL5 n, pre x 13 [], [.comp l (pre x 13 [])]⟩) =
    some (.next, { loc := [(nm "tape", .ref 3), (nm "names", .ref 4), (nm "count", ii n), (nm "own", .int true 32), (nm "other", .int true 33), (nm "heads", .tup l)], led := [x 0, x 1, x 2, x 3, x 4, x 5, x 6, x 7, x 8, x 9, x 10, x 11, x 12, .list false l], orc := [] }) := by kernel_rfl
theorem obsS6 (S : Fix) (x : Nat → SO) (n : Nat) (l : List SV) :
    AllH S (obsOf (stStep Γ₀ (run Γ₀ 149) enL (stL 6) ⟨lL5 n, pre x 13 [], [.comp l (pre x 13 [])]⟩)) =
    (CompOk S (147) enL c832 ([(nm "tape", .ref 3), (nm "names", .ref 4), (nm "count", ii n), (nm "own", .int true 32), (nm "other", .int true 33)]) ([x 0, x 1, x 2, x 3, x 4, x 5, x 6, x 7, x 8, x 9, x 10, x 11, x 12]) (l) ([x 0, x 1, x 2, x 3, x 4, x 5, x 6, x 7, x 8, x 9, x 10, x 11, x 12]) ∧ ((((↑l.length : Int)) : Int) ≤ (999)) ∧ True) := by kernel_rfl
noncomputable abbrev lL6 (n : Nat) (h : SV) : Loc := [(nm "tape", .ref 3), (nm "names", .ref 4), (nm "count", ii n), (nm "own", .int true 32), (nm "other", .int true 33), (nm "heads", h)]
theorem stepS7 (x : Nat → SO) (n : Nat) (h : SV) (l : List SV) :
    outOf (stStep Γ₀ (run Γ₀ 149) enL (stL 7) ⟨lL6 n h, pre x 14 [], [.comp l (pre x 14 [])]⟩) =
    some (.next, { loc := [(nm "tape", .ref 3), (nm "names", .ref 4), (nm "count", ii n), (nm "own", .int true 32), (nm "other", .int true 33), (nm "heads", h), (nm "goals_", .ref 15)], led := [x 0, x 1, x 2, x 3, x 4, x 5, x 6, x 7, x 8, x 9, x 10, x 11, x 12, x 13, .list false l, .list true [.tup [.str (nm "call"), .int true 33, .tup l]]], orc := [] }) := by kernel_rfl
theorem obsS7 (S : Fix) (x : Nat → SO) (n : Nat) (h : SV) (l : List SV) :
    AllH S (obsOf (stStep Γ₀ (run Γ₀ 149) enL (stL 7) ⟨lL6 n h, pre x 14 [], [.comp l (pre x 14 [])]⟩)) =
    (CompOk S (145) enL c833 ([(nm "tape", .ref 3), (nm "names", .ref 4), (nm "count", ii n), (nm "own", .int true 32), (nm "other", .int true 33), (nm "heads", h)]) ([x 0, x 1, x 2, x 3, x 4, x 5, x 6, x 7, x 8, x 9, x 10, x 11, x 12, x 13]) (l) ([x 0, x 1, x 2, x 3, x 4, x 5, x 6, x 7, x 8, x 9, x 10, x 11, x 12, x 13]) ∧ ((((↑l.length : Int)) : Int) ≤ (999)) ∧ True) := by kernel_rfl
noncomputable abbrev lL7 (n : Nat) (h : SV) : Loc := [(nm "tape", .ref 3), (nm "names", .ref 4), (nm "count", ii n), (nm "own", .int true 32), (nm "other", .int true 33), (nm "heads", h), (nm "goals_", .ref 15)]
theorem stepS8 (x : Nat → SO) (n : Nat) (l : List SV) (g : SO) (U : Led) :
    outOf (stStep Γ₀ (run Γ₀ 149) enL (stL 8) ⟨lL7 n (.tup l), pre x 15 [g], [.call (.ref 61) U]⟩) =
    some (.next, { loc := [(nm "tape", .ref 3), (nm "names", .ref 4), (nm "count", ii n), (nm "own", .int true 32), (nm "other", .int true 33), (nm "heads", .tup l), (nm "goals_", .ref 15), (nm "made", .ref 61)], led := U, orc := [] }) := by kernel_rfl
theorem obsS8 (S : Fix) (x : Nat → SO) (n : Nat) (l : List SV) (g : SO) (U : Led) :
    AllH S (obsOf (stStep Γ₀ (run Γ₀ 149) enL (stL 8) ⟨lL7 n (.tup l), pre x 15 [g], [.call (.ref 61) U]⟩)) =
    (CallOk S (120) (832) ([.ref 4, .ref 16, .int true 60]) ([x 0, x 1, x 2, x 3, x 4, x 5, x 6, x 7, x 8, x 9, x 10, x 11, x 12, x 13, x 14, g, .inst 217 [(nm "functor", .int true 32), (nm "args", .tup l), (nm "goals", .ref 15), (nm "count", .int false (↑n : Int))]]) (.ref 61) (U) ∧ True) := by kernel_rfl
noncomputable abbrev lL8 (n : Nat) (h : SV) : Loc := [(nm "tape", .ref 3), (nm "names", .ref 4), (nm "count", ii n), (nm "own", .int true 32), (nm "other", .int true 33), (nm "heads", h), (nm "goals_", .ref 15), (nm "made", .ref 61)]
theorem stepS9 (u : Nat → SO) (n : Nat) (h : SV) (l : List SV) (a b c : SO) :
    outOf (stStep Γ₀ (run Γ₀ 149) enL (stL 9) ⟨lL8 n h, pre u 59 [a, b, c], [.comp l (pre u 59 [a, b, c])]⟩) =
    some (.next, { loc := [(nm "tape", .ref 3), (nm "names", .ref 4), (nm "count", ii n), (nm "own", .int true 32), (nm "other", .int true 33), (nm "heads", h), (nm "goals_", .ref 15), (nm "made", .ref 61), (nm "earlier", .int false (↑l.length : Int))], led := pre u 59 [a, b, c, .list false l], orc := [] }) := by kernel_rfl
theorem obsS9 (S : Fix) (u : Nat → SO) (n : Nat) (h : SV) (l : List SV) (a b c : SO) :
    AllH S (obsOf (stStep Γ₀ (run Γ₀ 149) enL (stL 9) ⟨lL8 n h, pre u 59 [a, b, c], [.comp l (pre u 59 [a, b, c])]⟩)) =
    (CompOk S (147) enL c835 ([(nm "tape", .ref 3), (nm "names", .ref 4), (nm "count", ii n), (nm "own", .int true 32), (nm "other", .int true 33), (nm "heads", h), (nm "goals_", .ref 15), (nm "made", .ref 61)]) (pre u 59 [a, b, c]) (l) (pre u 59 [a, b, c]) ∧ ((((↑l.length : Int)) : Int) ≤ (999)) ∧ True) := by kernel_rfl
noncomputable abbrev lL9 (n : Nat) (h : SV) (e : Int) : Loc := [(nm "tape", .ref 3), (nm "names", .ref 4), (nm "count", ii n), (nm "own", .int true 32), (nm "other", .int true 33), (nm "heads", h), (nm "goals_", .ref 15), (nm "made", .ref 61), (nm "earlier", .int false e)]
theorem stepS10 (u : Nat → SO) (n : Nat) (h : SV) (e : Int) (l : List SV) (a b c d : SO) :
    outOf (stStep Γ₀ (run Γ₀ 149) enL (stL 10) ⟨lL9 n h e, pre u 59 [a, b, c, d], [.comp l (pre u 59 [a, b, c, d])]⟩) =
    some (.next, { loc := [(nm "tape", .ref 3), (nm "names", .ref 4), (nm "count", ii n), (nm "own", .int true 32), (nm "other", .int true 33), (nm "heads", h), (nm "goals_", .ref 15), (nm "made", .ref 61), (nm "earlier", .int false e), (nm "later", .int false (↑l.length : Int))], led := pre u 59 [a, b, c, d, .list false l], orc := [] }) := by kernel_rfl
theorem obsS10 (S : Fix) (u : Nat → SO) (n : Nat) (h : SV) (e : Int) (l : List SV) (a b c d : SO) :
    AllH S (obsOf (stStep Γ₀ (run Γ₀ 149) enL (stL 10) ⟨lL9 n h e, pre u 59 [a, b, c, d], [.comp l (pre u 59 [a, b, c, d])]⟩)) =
    (CompOk S (147) enL c836 ([(nm "tape", .ref 3), (nm "names", .ref 4), (nm "count", ii n), (nm "own", .int true 32), (nm "other", .int true 33), (nm "heads", h), (nm "goals_", .ref 15), (nm "made", .ref 61), (nm "earlier", .int false e)]) (pre u 59 [a, b, c, d]) (l) (pre u 59 [a, b, c, d]) ∧ ((((↑l.length : Int)) : Int) ≤ (999)) ∧ True) := by kernel_rfl
noncomputable abbrev lL10 (n : Nat) (h : SV) (e la : Int) : Loc := [(nm "tape", .ref 3), (nm "names", .ref 4), (nm "count", ii n), (nm "own", .int true 32), (nm "other", .int true 33), (nm "heads", h), (nm "goals_", .ref 15), (nm "made", .ref 61), (nm "earlier", .int false e), (nm "later", .int false la)]
theorem stepS11 (u : Nat → SO) (n : Nat) (h : SV) (e la m : Int) (a b d f : SO) :
    outOf (stStep Γ₀ (run Γ₀ 149) enL (stL 11) ⟨lL10 n h e la, pre u 59 [a, b, iCode m, d, f], []⟩) =
    some (.next, { loc := [(nm "tape", .ref 3), (nm "names", .ref 4), (nm "count", ii n), (nm "own", .int true 32), (nm "other", .int true 33), (nm "heads", h), (nm "goals_", .ref 15), (nm "made", .ref 61), (nm "earlier", .int false e), (nm "later", .int false la), (nm "rows", .ref 59)], led := pre u 59 [a, b, iCode m, d, f], orc := [] }) := by kernel_rfl
theorem obsS11 (S : Fix) (u : Nat → SO) (n : Nat) (h : SV) (e la m : Int) (a b d f : SO) :
    AllH S (obsOf (stStep Γ₀ (run Γ₀ 149) enL (stL 11) ⟨lL10 n h e la, pre u 59 [a, b, iCode m, d, f], []⟩)) =
    (True) := by kernel_rfl
noncomputable abbrev lL11 (n : Nat) (h : SV) (e la : Int) : Loc := [(nm "tape", .ref 3), (nm "names", .ref 4), (nm "count", ii n), (nm "own", .int true 32), (nm "other", .int true 33), (nm "heads", h), (nm "goals_", .ref 15), (nm "made", .ref 61), (nm "earlier", .int false e), (nm "later", .int false la), (nm "rows", .ref 59)]
theorem stepS12 (u : Nat → SO) (n : Nat) (h : SV) (e la m : Int) (l : List SV) (a60 a62 a63 : SO) :
    outOf (stStep Γ₀ (run Γ₀ 149) enL (stL 12) ⟨lL11 n h e la, pre u 59 [.list false l, a60, iCode m, a62, a63], [.bit false, .bit false, .item exI]⟩) =
    some (.next, { loc := [(nm "tape", .ref 3), (nm "names", .ref 4), (nm "count", ii n), (nm "own", .int true 32), (nm "other", .int true 33), (nm "heads", h), (nm "goals_", .ref 15), (nm "made", .ref 61), (nm "earlier", .int false e), (nm "later", .int false la), (nm "rows", .ref 59)], led := pre u 59 [.list false l, a60, iCode m, a62, a63], orc := [] }) := by kernel_rfl
theorem obsS12 (S : Fix) (u : Nat → SO) (n : Nat) (h : SV) (e la m : Int) (l : List SV) (a60 a62 a63 : SO) :
    AllH S (obsOf (stStep Γ₀ (run Γ₀ 149) enL (stL 12) ⟨lL11 n h e la, pre u 59 [.list false l, a60, iCode m, a62, a63], [.bit false, .bit false, .item exI]⟩)) =
    (((!decide (m = (↑n : Int) + la)) = (false)) ∧ ((((↑l.length : Int)) : Int) ≤ (999)) ∧ (((0) : Int) ≤ (2)) ∧ (((2) : Int) ≤ (999)) ∧ ((!decide ((↑l.length : Int) = e + 2 * la + 1)) = (false)) ∧ ((((↑l.length : Int)) : Int) ≤ (999)) ∧ (0 ≤ ((↑l.length : Int) - 1) ∧ (l)[Int.toNat ((↑l.length : Int) - 1)]? = some (exI)) ∧ ((((↑l.length : Int) - 1) : Int) ≤ (999)) ∧ True) := by kernel_rfl
theorem stepS13 (u : Nat → SO) (n : Nat) (h : SV) (e la : Int) (l l' : List SV) (a60 a61 a62 a63 d : SO) :
    outOf (stStep Γ₀ (run Γ₀ 149) enL (stL 13) ⟨lL11 n h e la, pre u 59 [.list false l, a60, a61, a62, a63], [.call (.ref 65) (pre u 59 [.list false l, a60, a61, a62, a63, .list false l', d])]⟩) =
    some (.next, { loc := [(nm "tape", .ref 3), (nm "names", .ref 4), (nm "count", ii n), (nm "own", .int true 32), (nm "other", .int true 33), (nm "heads", h), (nm "goals_", .ref 15), (nm "made", .ref 61), (nm "earlier", .int false e), (nm "later", .int false la), (nm "rows", .ref 59), (nm "held", .ref 65)], led := pre u 59 [.list false l, a60, a61, a62, a63, .list false l', d], orc := [] }) := by kernel_rfl
theorem obsS13 (S : Fix) (u : Nat → SO) (n : Nat) (h : SV) (e la : Int) (l l' : List SV) (a60 a61 a62 a63 d : SO) :
    AllH S (obsOf (stStep Γ₀ (run Γ₀ 149) enL (stL 13) ⟨lL11 n h e la, pre u 59 [.list false l, a60, a61, a62, a63], [.call (.ref 65) (pre u 59 [.list false l, a60, a61, a62, a63, .list false l', d])]⟩)) =
    (((((↑l.length : Int)) : Int) ≤ (999)) ∧ ((((↑l.length : Int)) : Int) ≤ (16777216)) ∧ (((0) : Int) ≤ ((↑l.length : Int) - 1)) ∧ CallOk S (80) (853) ([.ref 64, .int false (↑n : Int)]) (pre u 59 [.list false l, a60, a61, a62, a63, .list false (List.take ((↑l.length : Int) - 1).toNat l)]) (.ref 65) (pre u 59 [.list false l, a60, a61, a62, a63, .list false l', d]) ∧ True) := by kernel_rfl
noncomputable abbrev lL13 (n : Nat) (h : SV) (e la : Int) : Loc := [(nm "tape", .ref 3), (nm "names", .ref 4), (nm "count", ii n), (nm "own", .int true 32), (nm "other", .int true 33), (nm "heads", h), (nm "goals_", .ref 15), (nm "made", .ref 61), (nm "earlier", .int false e), (nm "later", .int false la), (nm "rows", .ref 59), (nm "held", .ref 65)]
theorem stepS14 (u : Nat → SO) (n : Nat) (h : SV) (e la : Int) (d : Held) (a59 a60 a61 a62 a63 a64 : SO) :
    outOf (stStep Γ₀ (run Γ₀ 149) enL (stL 14) ⟨lL13 n h e la, pre u 59 [a59, a60, a61, a62, a63, a64, .dict false (heldD d)], [.bit false]⟩) =
    some (.next, { loc := [(nm "tape", .ref 3), (nm "names", .ref 4), (nm "count", ii n), (nm "own", .int true 32), (nm "other", .int true 33), (nm "heads", h), (nm "goals_", .ref 15), (nm "made", .ref 61), (nm "earlier", .int false e), (nm "later", .int false la), (nm "rows", .ref 59), (nm "held", .ref 65)], led := pre u 59 [a59, a60, a61, a62, a63, a64, .dict false (heldD d)], orc := [] }) := by kernel_rfl
theorem obsS14 (S : Fix) (u : Nat → SO) (n : Nat) (h : SV) (e la : Int) (d : Held) (a59 a60 a61 a62 a63 a64 : SO) :
    AllH S (obsOf (stStep Γ₀ (run Γ₀ 149) enL (stL 14) ⟨lL13 n h e la, pre u 59 [a59, a60, a61, a62, a63, a64, .dict false (heldD d)], [.bit false]⟩)) =
    (((((↑(heldD d).length : Int)) : Int) ≤ (999)) ∧ ((!decide ((↑(heldD d).length : Int) = (↑n : Int) + la)) = (false)) ∧ True) := by kernel_rfl
noncomputable def s843 : Stmt := stL 15
noncomputable abbrev en843 : En := enL
noncomputable def ordV (n : Nat) (O : Nat → Nat) : List SV := (List.range n).map fun j => ii (O j)
theorem stepL843 (x y : Nat → SO) (n j : Nat) (h : SV) (e la v : Int) (O : Nat → Nat) (d : Held) :
    outOf (turnR 19 en843 (forTgt s843) (forBody s843) (ii j) ⟨lL13 n h e la, x 0 :: .cell (.ref 12) :: preF x 2 10 (.list false (ordV n O) :: preF y 13 52 [.dict false (heldD d)]), [.look (some (.int false v)), .item (ii (O j)), .bit false]⟩) =
    some (.next, { loc := [(nm "tape", .ref 3), (nm "names", .ref 4), (nm "count", ii n), (nm "own", .int true 32), (nm "other", .int true 33), (nm "heads", h), (nm "goals_", .ref 15), (nm "made", .ref 61), (nm "earlier", .int false e), (nm "later", .int false la), (nm "rows", .ref 59), (nm "held", .ref 65), (nm "spot", ii j)], led := [x 0, .cell (.ref 12), x 2, x 3, x 4, x 5, x 6, x 7, x 8, x 9, x 10, x 11, .list false (ordV n O), y 13, y 14, y 15, y 16, y 17, y 18, y 19, y 20, y 21, y 22, y 23, y 24, y 25, y 26, y 27, y 28, y 29, y 30, y 31, y 32, y 33, y 34, y 35, y 36, y 37, y 38, y 39, y 40, y 41, y 42, y 43, y 44, y 45, y 46, y 47, y 48, y 49, y 50, y 51, y 52, y 53, y 54, y 55, y 56, y 57, y 58, y 59, y 60, y 61, y 62, y 63, y 64, .dict false (heldD d)], orc := [] }) := by kernel_rfl
theorem obsL843 (S : Fix) (x y : Nat → SO) (n j : Nat) (h : SV) (e la v : Int) (O : Nat → Nat) (d : Held) :
    AllH S (obsOf (turnR 19 en843 (forTgt s843) (forBody s843) (ii j) ⟨lL13 n h e la, x 0 :: .cell (.ref 12) :: preF x 2 10 (.list false (ordV n O) :: preF y 13 52 [.dict false (heldD d)]), [.look (some (.int false v)), .item (ii (O j)), .bit false]⟩)) =
    (LookOk (heldD d) (.tup [.str (nm "x"), .int (false && true) ((↑j : Int) + 1)]) (some (.int false v)) ∧ (0 ≤ ((↑j : Int)) ∧ (ordV n O)[Int.toNat ((↑j : Int))]? = some (ii (O j))) ∧ ((((↑j : Int)) : Int) ≤ (999)) ∧ ((!decide (v = (↑(O j) : Int))) = (false)) ∧ True) := by kernel_rfl
theorem stepR832 (n : Nat) (led : Led) :
    outOf ((run Γ₀ 146).ev enL (rngE 832 37) ⟨lL5 n, led, []⟩) =
    some (.rng false 0 (↑n : Int), { loc := lL5 n, led := led, orc := [] }) := by kernel_rfl
theorem obsR832 (S : Fix) (n : Nat) (led : Led) :
    AllH S (obsOf ((run Γ₀ 146).ev enL (rngE 832 37) ⟨lL5 n, led, []⟩)) =
    (True) := by kernel_rfl
theorem stepR833 (x : Nat → SO) (n : Nat) (h : SV) (r : Led) :
    outOf ((run Γ₀ 144).ev enL (.Name (nm "order_") (ps 833 55 61)) ⟨lL6 n h, x 0 :: .cell (.ref 12) :: r, []⟩) =
    some (.ref 12, { loc := lL6 n h, led := x 0 :: .cell (.ref 12) :: r, orc := [] }) := by kernel_rfl
theorem obsR833 (S : Fix) (x : Nat → SO) (n : Nat) (h : SV) (r : Led) :
    AllH S (obsOf ((run Γ₀ 144).ev enL (.Name (nm "order_") (ps 833 55 61)) ⟨lL6 n h, x 0 :: .cell (.ref 12) :: r, []⟩)) =
    (True) := by kernel_rfl
theorem stepR835 (n : Nat) (h : SV) (led : Led) :
    outOf ((run Γ₀ 146).ev enL (rngE 835 36) ⟨lL8 n h, led, []⟩) =
    some (.rng false 0 (↑n : Int), { loc := lL8 n h, led := led, orc := [] }) := by kernel_rfl
theorem obsR835 (S : Fix) (n : Nat) (h : SV) (led : Led) :
    AllH S (obsOf ((run Γ₀ 146).ev enL (rngE 835 36) ⟨lL8 n h, led, []⟩)) =
    (True) := by kernel_rfl
theorem stepR836 (n : Nat) (h : SV) (e : Int) (led : Led) :
    outOf ((run Γ₀ 146).ev enL (rngE 836 34) ⟨lL9 n h e, led, []⟩) =
    some (.rng false 0 (↑n : Int), { loc := lL9 n h e, led := led, orc := [] }) := by kernel_rfl
theorem obsR836 (S : Fix) (n : Nat) (h : SV) (e : Int) (led : Led) :
    AllH S (obsOf ((run Γ₀ 146).ev enL (rngE 836 34) ⟨lL9 n h e, led, []⟩)) =
    (True) := by kernel_rfl
theorem stepO835 (x : Nat → SO) (loc : Loc) (i : Int) (v : SV) (l : List SV) (r : Led) :
    outOf (item (.ref 12) (.int false i) ⟨loc, x 0 :: .cell (.ref 12) :: preF x 2 10 (.list false l :: r), [.item v]⟩) =
    some (v, { loc := loc, led := x 0 :: .cell (.ref 12) :: x 2 :: x 3 :: x 4 :: x 5 :: x 6 :: x 7 :: x 8 :: x 9 :: x 10 :: x 11 :: .list false l :: r, orc := [] }) := by kernel_rfl
theorem obsO835 (S : Fix) (x : Nat → SO) (loc : Loc) (i : Int) (v : SV) (l : List SV) (r : Led) :
    AllH S (obsOf (item (.ref 12) (.int false i) ⟨loc, x 0 :: .cell (.ref 12) :: preF x 2 10 (.list false l :: r), [.item v]⟩)) =
    ((0 ≤ (i) ∧ (l)[Int.toNat (i)]? = some (v)) ∧ (((i) : Int) ≤ (999)) ∧ True) := by kernel_rfl
theorem stepS15 (u : Nat → SO) (n : Nat) (h : SV) (e la : Int) (a59 a60 a61 a62 a63 a64 d : SO) :
    outOf (stStep Γ₀ (run Γ₀ 149) enL (stL 15) ⟨lL13 n h e la, pre u 59 [a59, a60, a61, a62, a63, a64, d], [.loop (lL13 n h e la) (pre u 59 [a59, a60, a61, a62, a63, a64, d])]⟩) =
    some (.next, { loc := lL13 n h e la, led := pre u 59 [a59, a60, a61, a62, a63, a64, d], orc := [] }) := by kernel_rfl
theorem obsS15 (S : Fix) (u : Nat → SO) (n : Nat) (h : SV) (e la : Int) (a59 a60 a61 a62 a63 a64 d : SO) :
    AllH S (obsOf (stStep Γ₀ (run Γ₀ 149) enL (stL 15) ⟨lL13 n h e la, pre u 59 [a59, a60, a61, a62, a63, a64, d], [.loop (lL13 n h e la) (pre u 59 [a59, a60, a61, a62, a63, a64, d])]⟩)) =
    (LoopOk S (20) en843 s843 ([(nm "tape", .ref 3), (nm "names", .ref 4), (nm "count", ii n), (nm "own", .int true 32), (nm "other", .int true 33), (nm "heads", h), (nm "goals_", .ref 15), (nm "made", .ref 61), (nm "earlier", .int false e), (nm "later", .int false la), (nm "rows", .ref 59), (nm "held", .ref 65)]) (pre u 59 [a59, a60, a61, a62, a63, a64, d]) (lL13 n h e la) (pre u 59 [a59, a60, a61, a62, a63, a64, d]) ∧ True) := by kernel_rfl
theorem stepS16 (l : Loc) (u : Led) :
    outOf (stStep Γ₀ (run Γ₀ 149) enL (stL 16) ⟨l, u, []⟩) =
    some (.ret (.bool true true), { loc := l, led := u, orc := [] }) := by kernel_rfl
theorem obsS16 (S : Fix) (l : Loc) (u : Led) :
    AllH S (obsOf (stStep Γ₀ (run Γ₀ 149) enL (stL 16) ⟨l, u, []⟩)) =
    (True) := by kernel_rfl
set_option tactic.hygienic false
open PySem PySem.W PySem.Calls PyProof.Rows PySem.SeqAt
section
variable {S : Fix} {en : En} {c : Cx} {n : Nat} {scope : Scope} {cl : List (Str × Addr)} {x : Str} {v : SV}
theorem cev_itemS (k : c.Ok S (n + 1)) {e i : Expr} {p : Pos} {a b q : SV} {o : List Ob} {loc : Loc} {led : Led} {orc o0 oc : List Orc} (hi : ∀ a b d p, i ≠ .Slice a b d p) (g1 : CEv S en c scope cl x v ⟨loc, led, orc⟩ e a) (g2 : CEv S en c scope cl x v ⟨loc, led, orc⟩ i b)
    (h : item a b ⟨loc, led, o0⟩ = some (q, ⟨loc, led, oc⟩, o)) (ho : Owed S o) : CEv S en c scope cl x v ⟨loc, led, orc⟩ (.Subscript e i p) q := by
  intro C z m s Q E H hQ
  refine Subscript_ (g1 C z m s _ E H fun u z₁ m₁ h₁ tk₁ le₁ H₁ d₁ => g2 C z₁ m₁ (Sh s h₁ tk₁) _ E H₁ fun w z₂ m₂ h₂ tk₂ le₂ H₂ d₂ => ?_)
  exact good_item k h ho hi (s := Sh s h₂ tk₂) (H₂.rep.orc o0) (d₁.mono le₂) d₂ fun y tk R' d' => hQ y z₂ m₂ h₂ tk (le₁.trans le₂) (H₂.next (.refl _) (R'.orc orc)) d'
end
theorem scK_ok : CompSc scK (nm "k") := ⟨by decide +kernel, rfl, by decide +kernel, by decide +kernel⟩
theorem scK_nf : ∀ y ∈ scK.names, y.2 ≠ .free := by decide +kernel
theorem scSp_ok : CompSc scSp (nm "spot") := ⟨by decide +kernel, rfl, by decide +kernel, by decide +kernel⟩
theorem closure_ord {env : Env} {a : Addr} (h : env.cells.lookup (nm "order_") = some a) : closureFor scSp env = pure [(nm "order_", a)] := by
  have e : cellOf env (nm "order_") = pure a := by unfold cellOf; rw [h]
  unfold closureFor scSp
  simp only [List.forIn_cons, List.forIn_nil, pure_bind]
  rw [if_neg (by decide)]
  simp only [pure_bind]
  rw [if_neg (by decide)]
  simp only [pure_bind]
  rw [if_pos (by decide), e]
  simp only [pure_bind]
theorem order_kind (c : Cx) (h : c.sc = f_law.sc) (cl : List (Str × Addr)) (C : Addr) : (compEnvC scSp cl C c.env).kindOf (nm "order_") = some .cell := by
  cases c
  dsimp only at h
  subst h
  kernel_rfl
theorem filter_all {α : Type} (l : List α) : l.filter (fun _ => true) = l := List.filter_eq_self.mpr fun _ _ => rfl
section
variable {prog : Program} {w : World} {K : Frag} {mg mb : Str → Option Value}
theorem vk_ev {S : Fix} {en : En} {c : Cx} {σ : St} (i l a : Nat) : CEv S en c scK [] (nm "k") (ii i) σ (vkE l a) (vk i) :=
  cev_pair rfl rfl (cev_const rfl) (cev_name scK_ok.kind scK_ok.own (by decide +kernel))
theorem comp832 (V : Valid K mg mb Γ₀) (n : Nat) (hn : n ≤ 60) (led : Led) : CompOk (Sx prog w K mg mb) 147 enL c832 (lL5 n) led (headsV n) led := by
  obtain ⟨o, e, ho⟩ := run_ok (S := Sx prog w K mg mb) (stepR832 n led) (by rw [obsR832]; trivial)
  have := compOk_rng (S := Sx prog w K mg mb) (n := 146) (en := enL) (elt := vkE 832 20) (x := nm "k") (px := ps 832 32 33) (ifs := []) (scope := scK) (pos := ps 832 18 50) (N := n) (p := fun _ => true) (y := vk) V rfl scK_ok e ho (by omega)
    fun c k orc z m h R => ⟨[], closure_nil scK_nf, fun i hi => cts_nil, fun i hi _ => vk_ev i 832 20⟩
  rw [filter_all] at this
  exact this
theorem comp833 (V : Valid K mg mb Γ₀) (x : Nat → SO) (n : Nat) (hn : n ≤ 60) (O : Nat → Nat) (h : SV) (r : Led) : CompOk (Sx prog w K mg mb) 145 enL c833 (lL6 n h) (x 0 :: .cell (.ref 12) :: preF x 2 10 (.list false (ordV n O) :: r)) (goalV n O) (x 0 :: .cell (.ref 12) :: preF x 2 10 (.list false (ordV n O) :: r)) := by
  obtain ⟨o, e, ho⟩ := run_ok (S := Sx prog w K mg mb) (stepR833 x n h (preF x 2 10 (.list false (ordV n O) :: r))) (by rw [obsR833]; trivial)
  have := compOk_list (S := Sx prog w K mg mb) (n := 144) (en := enL) (elt := vkE 833 38) (x := nm "k") (px := ps 833 50 51) (ifs := []) (scope := scK) (pos := ps 833 36 62) (N := n) (items := fun j => ii (O j)) (p := fun _ => true) (y := fun j => vk (O j)) V rfl scK_ok e ho (C := false) (l := ordV n O)
    (fun orc => seeObj_ref rfl rfl) (fun i => by
      by_cases q : i < n
      · rw [if_pos q, ordV, iiL_get _ q]
      · rw [if_neg q, List.getElem?_eq_none (by unfold ordV; rw [map_len]; omega)]) (by omega)
    fun c k orc z m h R => ⟨[], closure_nil scK_nf, fun i hi => cts_nil, fun i hi _ => vk_ev (O i) 833 38⟩
  rw [filter_all] at this
  exact this
theorem ord_ts (x : Nat → SO) (n : Nat) (hn : n ≤ 60) (O : Nat → Nat) (loc : Loc) (r : Led) (l a : Nat) (op : CmpOp) (q : Nat → Bool) {N : Nat} {c : Cx} (k : c.Ok (Sx prog w K mg mb) (N + 1)) {orc : List Orc} {z : Rz} {m : Str → Option Value} {h : Heap}
    (R : Rep (Sx prog w K mg mb) enL c z m ⟨loc, x 0 :: .cell (.ref 12) :: preF x 2 10 (.list false (ordV n O) :: r), orc⟩ h) (hop : ∀ p, behindInMarks op (.Name (nm "spot") p) = false)
    (hc : ∀ i σ, ∃ w, compare op (ii (O i)) (ii i) σ = some (w, σ, []) ∧ truth w = some (false, q i)) :
    ∃ cl, closureFor scSp c.env = pure cl ∧ (∀ i, i < n → CTs (Sx prog w K mg mb) enL c scSp cl (nm "spot") (ii i) ⟨loc, x 0 :: .cell (.ref 12) :: preF x 2 10 (.list false (ordV n O) :: r), orc⟩ [ordE l a op] (q i)) ∧
      (∀ (i : Nat) (p : Pos), CEv (Sx prog w K mg mb) enL c scSp cl (nm "spot") (ii i) ⟨loc, x 0 :: .cell (.ref 12) :: preF x 2 10 (.list false (ordV n O) :: r), orc⟩ (.Name (nm "spot") p) (ii i)) := by
  obtain ⟨a1, a2⟩ := R.cells (nm "order_") 1 rfl
  have hcl : [(nm "order_", z.ad 1 0)].lookup (nm "order_") = c.cl.lookup (nm "order_") := by rw [a1]; simp [List.lookup]
  have cn : ∀ (i : Nat) (p : Pos), CEv (Sx prog w K mg mb) enL c scSp [(nm "order_", z.ad 1 0)] (nm "spot") (ii i) ⟨loc, x 0 :: .cell (.ref 12) :: preF x 2 10 (.list false (ordV n O) :: r), orc⟩ (.Name (nm "spot") p) (ii i) := fun i p => cev_name scSp_ok.kind scSp_ok.own (by decide +kernel)
  refine ⟨_, closure_ord a1, fun i hi => ?_, cn⟩
  obtain ⟨w', hw, ht⟩ := hc i ⟨loc, x 0 :: .cell (.ref 12) :: preF x 2 10 (.list false (ordV n O) :: r), orc⟩
  obtain ⟨o, e, ho⟩ := run_ok (S := Sx prog w K mg mb) (stepO835 x loc i (ii (O i)) (ordV n O) r) (by rw [obsO835]; exact ⟨⟨by omega, by rw [Int.toNat_natCast, ordV, iiL_get _ hi]⟩, by omega, trivial⟩)
  exact cts_cmp k (hop _) (cev_itemS k (fun _ _ _ _ q => nomatch q) (cev_cell scSp_ok.kind (fun C => order_kind c R.scope.symm _ C) (by decide +kernel) rfl rfl hcl) (cn i _) e ho) (cn i _) hw (fun _ h => nomatch h) ht
theorem comp835 (V : Valid K mg mb Γ₀) (x : Nat → SO) (n : Nat) (hn : n ≤ 60) (O : Nat → Nat) (h : SV) (r : Led) : CompOk (Sx prog w K mg mb) 147 enL c835 (lL8 n h) (x 0 :: .cell (.ref 12) :: preF x 2 10 (.list false (ordV n O) :: r)) ((earlierL n O).map ii) (x 0 :: .cell (.ref 12) :: preF x 2 10 (.list false (ordV n O) :: r)) := by
  obtain ⟨o, e, ho⟩ := run_ok (S := Sx prog w K mg mb) (stepR835 n h (x 0 :: .cell (.ref 12) :: preF x 2 10 (.list false (ordV n O) :: r))) (by rw [obsR835]; trivial)
  exact compOk_rng (S := Sx prog w K mg mb) (n := 146) (en := enL) (elt := .Name (nm "spot") (ps 835 19 23)) (x := nm "spot") (px := ps 835 28 32) (ifs := [ordE 835 52 .Gt]) (scope := scSp) (pos := ps 835 18 72) (N := n) (p := fun j => decide (O j > j)) (y := ii) V rfl scSp_ok e ho (by omega)
    fun c k orc z m h R => by
      obtain ⟨cl, h1, h2, h3⟩ := ord_ts x n hn O _ r 835 52 .Gt (fun j => decide (O j > j)) k R (fun _ => rfl) fun i σ => ⟨.bool false (decide ((O i : Int) > (i : Int))), rfl, congrArg some (Prod.ext rfl (decide_eq_decide.mpr (by omega)))⟩
      exact ⟨cl, h1, h2, fun i hi _ => h3 i _⟩
theorem comp836 (V : Valid K mg mb Γ₀) (x : Nat → SO) (n : Nat) (hn : n ≤ 60) (O : Nat → Nat) (h : SV) (e' : Int) (r : Led) : CompOk (Sx prog w K mg mb) 147 enL c836 (lL9 n h e') (x 0 :: .cell (.ref 12) :: preF x 2 10 (.list false (ordV n O) :: r)) ((laterL n O).map ii) (x 0 :: .cell (.ref 12) :: preF x 2 10 (.list false (ordV n O) :: r)) := by
  obtain ⟨o, e, ho⟩ := run_ok (S := Sx prog w K mg mb) (stepR836 n h e' (x 0 :: .cell (.ref 12) :: preF x 2 10 (.list false (ordV n O) :: r))) (by rw [obsR836]; trivial)
  exact compOk_rng (S := Sx prog w K mg mb) (n := 146) (en := enL) (elt := .Name (nm "spot") (ps 836 17 21)) (x := nm "spot") (px := ps 836 26 30) (ifs := [ordE 836 50 .Lt]) (scope := scSp) (pos := ps 836 16 70) (N := n) (p := fun j => decide (O j < j)) (y := ii) V rfl scSp_ok e ho (by omega)
    fun c k orc z m h R => by
      obtain ⟨cl, h1, h2, h3⟩ := ord_ts x n hn O _ r 836 50 .Lt (fun j => decide (O j < j)) k R (fun _ => rfl) fun i σ => ⟨.bool false (decide ((O i : Int) < (i : Int))), rfl, congrArg some (Prod.ext rfl (decide_eq_decide.mpr (by omega)))⟩
      exact ⟨cl, h1, h2, fun i hi _ => h3 i _⟩
theorem s843_eq : s843 = .For (forTgt s843) (forIt s843) (forBody s843) [] (posOfS s843) := by kernel_rfl
theorem iter843 (n : Nat) (h : SV) (e la : Int) (F : Led) : (run Γ₀ 19).ev en843 (forIt s843) ⟨lL13 n h e la, F, []⟩ = some (.rng false 0 n, ⟨lL13 n h e la, F, []⟩, []) := by kernel_rfl
theorem loop843 (V : Valid K mg mb Γ₀) (x y : Nat → SO) (n : Nat) (hn : n ≤ 60) (O : Nat → Nat) (h : SV) (e la : Int) (d : Held) (hd : ∀ j, j < n → hget d ((j + 1 : Nat) : Int) = some (O j : Int)) :
    LoopOk (Sx prog w K mg mb) 20 en843 s843 (lL13 n h e la) (x 0 :: .cell (.ref 12) :: preF x 2 10 (.list false (ordV n O) :: preF y 13 52 [.dict false (heldD d)])) (lL13 n h e la) (x 0 :: .cell (.ref 12) :: preF x 2 10 (.list false (ordV n O) :: preF y 13 52 [.dict false (heldD d)])) := by
  rw [s843_eq]
  refine loopOk_for (n := 19) V (v := .rng false 0 n) (oc := []) rfl (iter843 n h e la _) (fun _ h => nomatch h) (.rng (n + 0) (by omega) (by omega) ?_)
  refine turns_seg n 0 (fun _ => ⟨lL13 n h e la, x 0 :: .cell (.ref 12) :: preF x 2 10 (.list false (ordV n O) :: preF y 13 52 [.dict false (heldD d)]), []⟩) (.done (by show some (if _ then _ else none) = _; rw [if_neg (by omega)])) fun j hj => ?_
  refine turn_ex (v := ii j) (Sub.orc _ _) (by show some (if _ then some (SV.int false ((0 + j : Nat) : Int)) else none) = _; rw [if_pos (by omega), Nat.zero_add]) (stepL843 x y n j h e la (O j) O d) ?_ (.inl rfl) (Sub.drop (lL13 n h e la) [_])
  rw [obsL843]
  exact ⟨held_look (hd j hj), ⟨by omega, by rw [Int.toNat_natCast, ordV, iiL_get _ hj]⟩, by omega, by simp, trivial⟩
end
set_option tactic.hygienic false
open PySem PySem.W PySem.Calls PyProof.Rows PySem.SeqAt
theorem body_eq : f_law.body = [stL 0, stL 1, stL 2, stL 3, stL 4, stL 5, stL 6, stL 7, stL 8, stL 9, stL 10, stL 11, stL 12, stL 13, stL 14, stL 15, stL 16] := by kernel_rfl
theorem inv_of {n : Nat} {ord : List Nat} (h : ord.Perm (List.range n)) : Inv n (fun j => ord.getD j 0) (fun k => ord.idxOf k) ∧ ord = (List.range n).map (fun j => ord.getD j 0) := by
  have hl : ord.length = n := by rw [h.length_eq, List.length_range]
  have hnd : ord.Nodup := h.nodup_iff.mpr List.nodup_range
  have hmem : ∀ k, k < n → k ∈ ord := fun k hk => h.mem_iff.mpr (List.mem_range.mpr hk)
  have hget : ∀ j (hj : j < n), ord.getD j 0 = ord[j]'(by omega) := fun j hj => by rw [List.getD_eq_getElem?_getD, List.getElem?_eq_getElem (by omega)]; rfl
  refine ⟨⟨fun j hj => ?_, fun k hk => ?_, fun k hk => ?_, fun j hj => ?_⟩, ?_⟩
  · show ord.getD j 0 < n
    rw [hget j hj]
    exact List.mem_range.mp (h.mem_iff.mp (List.getElem_mem _))
  · show ord.idxOf k < n
    rw [← hl]; exact List.idxOf_lt_length_of_mem (hmem k hk)
  · show ord.getD (ord.idxOf k) 0 = k
    have : ord.idxOf k < ord.length := List.idxOf_lt_length_of_mem (hmem k hk)
    rw [hget _ (by omega)]
    exact List.getElem_idxOf _
  · show ord.idxOf (ord.getD j 0) = j
    rw [hget j hj]
    exact hnd.idxOf_getElem j (by omega)
  · refine List.ext_getElem (by simp [hl]) fun i h1 h2 => ?_
    rw [List.getElem_map, List.getElem_range, hget i (by omega)]
theorem rows_take (b : List Row) : (rowsL b).take ((((rowsL b).length : Nat) : Int) - 1).toNat = b.map rowV := by
  rw [rows_len, show (((b.length + 1 : Nat) : Int) - 1).toNat = b.length by omega]
  unfold rowsL
  rw [List.take_left' (by simp)]
noncomputable def ext (u : Nat → SO) (k : Nat) (L : Led) (i : Nat) : SO := match Nat.blt i k with
  | true => u i
  | false => (L[i - k]?).getD .nocell
theorem ext65 (u : Nat → SO) (a b c d e f : SO) (r : Led) : pre (ext u 59 [a, b, c, d, e, f]) 65 r = pre u 59 (a :: b :: c :: d :: e :: f :: r) := by kernel_rfl
theorem ext13 (u : Nat → SO) (a b c d e f : SO) (v w : SO) (r : Led) : u 0 :: v :: preF u 2 10 (w :: preF (ext u 59 [a, b, c, d, e, f]) 13 52 r) = u 0 :: v :: preF u 2 10 (w :: preF u 13 46 (a :: b :: c :: d :: e :: f :: r)) := by kernel_rfl
theorem split59 (u : Nat → SO) (r : Led) : pre u 59 r = u 0 :: u 1 :: preF u 2 10 (u 12 :: preF u 13 46 r) := by kernel_rfl
theorem get0_59 (u : Nat → SO) (r : Led) : (pre u 59 r)[0]? = some (u 0) := by kernel_rfl
theorem led832_59 (p : Nat → SO) (n : Nat) (O I : Nat → Nat) : pre (pf (led832 p n O I)) 59 [.list false (rowsL (busy (rowsR n O I))), .fam (upTo ((busy (rowsR n O I)).length + 1)) (fRo (busy (rowsR n O I))), iCode (max (mx (busy (rowsR n O I))) n)] = led832 p n O I := by kernel_rfl
theorem led832_0 (p : Nat → SO) (n : Nat) (O I : Nat → Nat) : pf (led832 p n O I) 0 = .tab false := by kernel_rfl
theorem led832_1 (p : Nat → SO) (n : Nat) (O I : Nat → Nat) : pf (led832 p n O I) 1 = p 1 := by kernel_rfl
theorem led832_12 (p : Nat → SO) (n : Nat) (O I : Nat → Nat) : pf (led832 p n O I) 12 = p 12 := by kernel_rfl
section
variable {prog : Program} {w : World} {K : Frag} {mg mb : Str → Option Value}
theorem law_three (V : Valid K mg mb Γ₀) (u : Nat → SO) {n : Nat} (hn : n ≤ 20) {O I : Nat → Nat} (P : Inv n O I) (h0 : u 0 = .tab false) (h1 : u 1 = .cell (.ref 12)) (h12 : u 12 = .list false (ordV n O)) (h : SV) (f60 : SO) :
    ExOk (Sx prog w K mg mb) 150 enL [stL 9, stL 10, stL 11, stL 12, stL 13, stL 14, stL 15, stL 16] (lL8 n h) (pre u 59 [.list false (rowsL (busy (rowsR n O I))), f60, iCode (max (mx (busy (rowsR n O I))) n)]) (.ret (.bool true true)) (fun _ led' => led'[0]? = some (.tab false)) := by
  have hb : (busy (rowsR n O I)).length ≤ 200 := by
    have := List.length_filter_le (fun r : Row => !idleB r) (rowsR n O I)
    have e := rowsR_len n O I
    unfold busy; omega
  have hbl : (busy (rowsR n O I)).length = (earlierL n O).length + 2 * (laterL n O).length := busy_len P
  have hla : (laterL n O).length ≤ n := by
    have := List.length_filter_le (fun j => decide (O j < j)) (List.range n)
    rw [List.length_range] at this; exact this
  have hea : (earlierL n O).length ≤ n := by
    have := List.length_filter_le (fun j => decide (O j > j)) (List.range n)
    rw [List.length_range] at this; exact this
  have hmx : max (mx (busy (rowsR n O I))) (n : Int) = ((n + (laterL n O).length : Nat) : Int) := busy_mx P
  obtain ⟨hruns, hheld⟩ := (runs_all P).spec
  have sp : ∀ r : Led, pre u 59 r = u 0 :: .cell (.ref 12) :: preF u 2 10 (.list false (ordV n O) :: preF u 13 46 r) := fun r => by rw [split59, h1, h12]
  generalize hE : (((earlierL n O).map ii).length : Nat) = e
  generalize hL : (((laterL n O).map ii).length : Nat) = la
  have he : e = (earlierL n O).length := by rw [← hE, List.length_map]
  have hl : la = (laterL n O).length := by rw [← hL, List.length_map]
  generalize hbb : busy (rowsR n O I) = b at *
  have s9 := stepS9 u n h ((earlierL n O).map ii) (.list false (rowsL b)) f60 (iCode (max (mx b) n))
  have s10 := stepS10 u n h e ((laterL n O).map ii) (.list false (rowsL b)) f60 (iCode (max (mx b) n)) (.list false ((earlierL n O).map ii))
  rw [hE] at s9
  rw [hL] at s10
  have c835 := comp835 (prog := prog) (w := w) V u n (by omega) O h (preF u 13 46 [.list false (rowsL b), f60, iCode (max (mx b) n)])
  have c836 := comp836 (prog := prog) (w := w) V u n (by omega) O h e (preF u 13 46 [.list false (rowsL b), f60, iCode (max (mx b) n), .list false ((earlierL n O).map ii)])
  rw [← sp] at c835 c836
  refine StOk.then (stOk_run V s9 (obsS9 _ u n h _ _ _ _) ⟨c835, by rw [hE]; omega, trivial⟩) ?_
  refine StOk.then (stOk_run V s10 (obsS10 _ u n h e _ _ _ _ _) ⟨c836, by rw [hL]; omega, trivial⟩) ?_
  refine StOk.then (stOk_run V (stepS11 u n h e la (max (mx b) n) (.list false (rowsL b)) f60 (.list false ((earlierL n O).map ii)) (.list false ((laterL n O).map ii))) (obsS11 _ u n h e la _ _ _ _ _) trivial) ?_
  refine StOk.then (stOk_run V (stepS12 u n h e la (max (mx b) n) (rowsL b) f60 (.list false ((earlierL n O).map ii)) (.list false ((laterL n O).map ii))) (obsS12 _ u n h e la _ _ _ _ _) ⟨?_, ?_, ?_, ?_, ?_, ?_, ⟨?_, ?_⟩, ?_, trivial⟩) ?_
  · rw [decide_eq_true (by rw [hmx, hl]; omega)]; rfl
  · rw [rows_len]; omega
  · omega
  · omega
  · rw [decide_eq_true (by rw [rows_len, hbl, he, hl]; omega)]; rfl
  · rw [rows_len]; omega
  · rw [rows_len]; omega
  · rw [rows_len, show (((b.length + 1 : Nat) : Int) - 1).toNat = b.length by omega]; exact rows_ex b
  · rw [rows_len]; omega
  have c853 := call853 (prog := prog) (w := w) V (ext u 59 [.list false (rowsL b), f60, iCode (max (mx b) n), .list false ((earlierL n O).map ii), .list false ((laterL n O).map ii), .list false (b.map rowV)]) (n := n) (by omega) b rfl (by omega) hruns
  rw [hheld, ext65, ext65] at c853
  refine StOk.then (stOk_run V (stepS13 u n h e la (rowsL b) (b.map rowV) f60 (iCode (max (mx b) n)) (.list false ((earlierL n O).map ii)) (.list false ((laterL n O).map ii)) (.dict false (heldD (heldE n O I)))) (obsS13 _ u n h e la _ _ _ _ _ _ _) ⟨?_, ?_, ?_, ?_, trivial⟩) ?_
  · rw [rows_len]; omega
  · rw [rows_len]; omega
  · rw [rows_len]; omega
  · rw [rows_take]; exact c853
  refine StOk.then (stOk_run V (stepS14 u n h e la (heldE n O I) _ _ _ _ _ _) (obsS14 _ u n h e la _ _ _ _ _ _ _) ⟨?_, ?_, trivial⟩) ?_
  · rw [heldD_len, heldE_len P]; omega
  · rw [decide_eq_true (by rw [heldD_len, heldE_len P, hl]; omega)]; rfl
  have c843 := loop843 (prog := prog) (w := w) V u (ext u 59 [.list false (rowsL b), f60, iCode (max (mx b) n), .list false ((earlierL n O).map ii), .list false ((laterL n O).map ii), .list false (b.map rowV)]) n (by omega) O h e la (heldE n O I) fun j hj => heldE_get hj
  rw [ext13, ← sp] at c843
  refine StOk.then (stOk_run V (stepS15 u n h e la _ _ _ _ _ _ (.dict false (heldD (heldE n O I)))) (obsS15 _ u n h e la _ _ _ _ _ _ _) ⟨c843, trivial⟩) ?_
  exact StOk.last (stOk_run V (stepS16 _ _) (obsS16 _ _ _) trivial) (by rw [get0_59, h0])
theorem law_two (V : Valid K mg mb Γ₀) (B : ByStartOk (Sx prog w K mg mb)) (x : Nat → SO) {n : Nat} (h1 : 1 ≤ n) (hn : n ≤ 20) {O I : Nat → Nat} (P : Inv n O I) (ht : x 0 = .tab true) :
    ExOk (Sx prog w K mg mb) 150 enL [stL 6, stL 7, stL 8, stL 9, stL 10, stL 11, stL 12, stL 13, stL 14, stL 15, stL 16] (lL5 n) (x 0 :: .cell (.ref 12) :: preF x 2 10 [.list false (ordV n O)]) (.ret (.bool true true)) (fun _ led' => led'[0]? = some (.tab false)) := by
  let h := SV.tup (headsV n)
  let L13 : Led := x 0 :: .cell (.ref 12) :: preF x 2 10 [.list false (ordV n O)]
  let L14 : Led := x 0 :: .cell (.ref 12) :: preF x 2 10 [.list false (ordV n O), .list false (headsV n)]
  let L16 : Led := x 0 :: .cell (.ref 12) :: preF x 2 10 [.list false (ordV n O), .list false (headsV n), .list false (goalV n O), c15 n O]
  let p := pf L16
  let U := led832 p n O I
  refine StOk.then (led₁ := L14) (loc₁ := lL6 n h) (stOk_run V (stepS6 (pf L13) n (headsV n)) (obsS6 _ (pf L13) n (headsV n)) ⟨comp832 V n (by omega) _, by simp [headsV]; omega, trivial⟩) ?_
  refine StOk.then (led₁ := L16) (loc₁ := lL7 n h) (stOk_run V (stepS7 (pf L14) n h (goalV n O)) (obsS7 _ (pf L14) n h (goalV n O)) ⟨comp833 V x n (by omega) O h [.list false (headsV n)], by simp [goalV]; omega, trivial⟩) ?_
  refine StOk.then (led₁ := U) (loc₁ := lL8 n h) (stOk_run V (stepS8 p n (headsV n) (c15 n O) U) (obsS8 _ p n (headsV n) (c15 n O) U) ⟨call832 V B p h1 hn P ht, trivial⟩) ?_
  show ExOk _ _ _ _ _ (led832 p n O I) _ _
  rw [← led832_59]
  exact law_three V _ hn P (led832_0 p n O I) (led832_1 p n O I) (led832_12 p n O I) h _
end
set_option tactic.hygienic false
open PySem PySem.W PySem.Calls PyProof.Rows PySem.SeqAt
noncomputable def lawRest : List Stmt := [stL 1, stL 2, stL 3, stL 4, stL 5, stL 6, stL 7, stL 8, stL 9, stL 10, stL 11, stL 12, stL 13, stL 14, stL 15, stL 16]
theorem body_rest : f_law.body = stL 0 :: lawRest := body_eq
section
variable {prog : Program} {w : World} {K : Frag} {mg mb : Str → Option Value}
theorem law_one (V : Valid K mg mb Γ₀) (B : ByStartOk (Sx prog w K mg mb)) (L : List Int) (hL : L.length ≤ 60) :
    ExOk (Sx prog w K mg mb) 150 enL lawRest [(nm "tape", .ref 3)] (tapeL (.tab true) .nocell (digs L) 0 0 []) (.ret (.bool true true)) (fun _ led' => led'[0]? = some (.tab false)) := by
  let x := pf (tapeL (.tab true) .nocell (digs L) 0 0 [sA4, sA5, sA6, sA7, sA8])
  obtain ⟨L1, a1, b1, d, e1, e2, e3, e4, C⟩ := call839 (prog := prog) (w := w) V (.tab true) .nocell L 0 0 (preF x 4 5 []) hL (Int.le_refl _)
  obtain ⟨dn, rfl⟩ := Int.eq_ofNat_of_zero_le e3
  have hd : dn < 9 := by omega
  refine StOk.then (led₁ := tapeL (.tab true) .nocell (digs L) 0 0 [sA4, sA5, sA6, sA7, sA8]) (loc₁ := lL1) (stOk_run V (stepS1 (.tab true) (.list false (digs L)) (.list true [.ref 2, .int false 0, .int false 0])) (obsS1 _ _ _ _) trivial) ?_
  refine StOk.then (led₁ := tapeL (.tab true) .nocell (digs L1) a1 b1 [sA4, sA5, sA6, sA7, sA8]) (loc₁ := lL2 (1 + dn)) (stOk_run V (stepS2 x (digs L) (digs L1) 0 0 a1 b1 dn) (obsS2 _ x (digs L) (digs L1) 0 0 a1 b1 dn) ⟨C, trivial⟩) ?_
  obtain ⟨L2, a2, b2, ord, F, G, H, hp, C2⟩ := call846 (prog := prog) (w := w) V (pf (tapeL (.tab true) .nocell (digs L1) a1 b1 [sA4, sA5, sA6, sA7, sA8])) (n := 1 + dn) (by omega) L1 a1 b1 (by omega) e2
  obtain ⟨P, ho⟩ := inv_of hp
  have hov : ord.map ii = ordV (1 + dn) (fun j => ord.getD j 0) := by
    unfold ordV
    conv => lhs; rw [ho]
    rw [List.map_map]; rfl
  rw [hov] at C2
  generalize hO : (fun j => ord.getD j 0) = O at *
  generalize hI : (fun k => ord.idxOf k) = I at *
  let X : Led := [.tab true, .cell (.ref 12), .list false (digs L2), .list true [.ref 2, .int false a2, .int false b2], sA4, sA5, sA6, sA7, sA8, .fam (upTo (1 + dn + 1)) (fLst F), .fam (upTo (1 + dn)) (fLst G), .fam (upTo (1 + dn)) (fLst H), .list false (ordV (1 + dn) O)]
  refine StOk.then (led₁ := X) (loc₁ := lL2 (1 + dn)) (stOk_run V (stepS3 (pf (tapeL (.tab true) .nocell (digs L1) a1 b1 [sA4, sA5, sA6, sA7, sA8])) (digs L1) (digs L2) a1 b1 a2 b2 (1 + dn) (.fam (upTo (1 + dn + 1)) (fLst F)) (.fam (upTo (1 + dn)) (fLst G)) (.fam (upTo (1 + dn)) (fLst H)) (ordV (1 + dn) O))
    (obsS3 _ (pf (tapeL (.tab true) .nocell (digs L1) a1 b1 [sA4, sA5, sA6, sA7, sA8])) (digs L1) (digs L2) a1 b1 a2 b2 (1 + dn) (.fam (upTo (1 + dn + 1)) (fLst F)) (.fam (upTo (1 + dn)) (fLst G)) (.fam (upTo (1 + dn)) (fLst H)) (ordV (1 + dn) O)) ⟨C2, trivial⟩) ?_
  refine StOk.then (stOk_run V (stepS4 (1 + dn) _ _ _ _ _ _ _ _) (obsS4 _ (1 + dn) _ _ _ _ _ _ _ _) trivial) ?_
  refine StOk.then (stOk_run V (stepS5 (1 + dn) _ _ _ _ _ _ _ _) (obsS5 _ (1 + dn) _ _ _ _ _ _ _ _) trivial) ?_
  exact law_two V B (pf [.tab true, .cell (.ref 12), .list false (digs L2), .list true [.ref 2, .int false a2, .int false b2], sA4, sC5, sC6, sC7 (1 + dn), sC8 (1 + dn), .fam (upTo (1 + dn + 1)) (fLst F), .fam (upTo (1 + dn)) (fLst G), .fam (upTo (1 + dn)) (fLst H), .list false (ordV (1 + dn) O)]) (by omega) (by omega) P rfl
end
set_option tactic.hygienic false
open PySem PySem.W PySem.Calls PyProof.Rows PySem.SeqAt
theorem range_getD {n k : Nat} (h : k < n) : (List.toArray (List.range n)).getD k 0 = k := by
  simp [Array.getD, h]
theorem asc_wp {cmp : Nat → Nat → (Bool → Shared → Prop) → Shared → Prop} {n : Nat} {s : Shared} (hc : ∀ k C, 1 ≤ k → k < n → C false s → cmp k (k - 1) C s) {Q : Nat → Shared → Prop} (hQ : Q n s) :
    ∀ (f m : Nat), 1 ≤ m → m + f = n → (kas_asc (List.toArray (List.range n)) f m).kasWp cmp Q s
  | 0, m, h1, h2 => by
    obtain rfl : m = n := by omega
    exact hQ
  | f + 1, m, h1, h2 => by
    show cmp ((List.toArray (List.range n)).getD m 0) ((List.toArray (List.range n)).getD (m - 1) 0) _ s
    rw [range_getD (by omega), range_getD (by omega)]
    refine hc m _ h1 (by omega) ?_
    show (if false = true then _ else _ : KasT Nat).kasWp cmp Q s
    rw [if_neg (by decide)]
    exact asc_wp hc hQ f (m + 1) (by omega) (by omega)
theorem sort_asc {cmp : Nat → Nat → (Bool → Shared → Prop) → Shared → Prop} {n : Nat} {s : Shared} (h1 : 1 ≤ n) (hc : ∀ k C, 1 ≤ k → k < n → C false s → cmp k (k - 1) C s) {Q : Array Nat → Shared → Prop} (hQ : Q (List.toArray (List.range n)) s) : (kas_sort n).kasWp cmp Q s := by
  unfold kas_sort kas_count
  rw [KasT.kasWp_bind, KasT.kasWp_bind]
  refine asc_wp hc ?_ (n - 1) 1 (Nat.le_refl _) (by omega)
  rw [if_pos (by simp)]
  show (if n < n then _ else _ : KasT (Array Nat)).kasWp cmp Q s
  rw [if_neg (Nat.lt_irrefl n)]
  exact hQ
section
variable {prog : Program} {w : World} {A : Around} {E : Value → Shared → Prop} {s : Shared} {h₀ : Heap} {L a kS : Addr} {m : Str → Option Value} {news : List (Addr × Obj)} {vs : List Value}
theorem keys_then {f : Value} {e1 : Nat} {P : PySem.Fin → Shared → Prop} (hk : s.heap.get? kS = some (seqObj "list" #[] 0)) (h64 : vs.length < 64)
    (h : KatKeys prog w A h₀ L m kS f (fun ks e s' => s'.heap.get? kS = some (seqObj "list" (List.toArray ks) e) → ks.length = vs.length → wpAny (model prog w) A (ksk_end a false vs.toArray e1 (.ref kS) (List.toArray ks)) P E s') vs [] 0 s) : wpAny (model prog w) A (ksk_rest a f false vs.toArray e1 (.ref kS)) P E s := by
  unfold ksk_rest
  refine wpAny_bind (wpAny_rule ?_)
  rw [List.forIn_toArray]
  refine wpAny_bind (wpAny_mono (kat_fold h64 (fun x ks e s' C hz hx => ?_) vs [] 0 s (by simp) hk h) (fun _ s' hd => ?_) fun _ _ x => x)
  · refine wpAny_bind (wpAny_attempt (wpAny_mono hx (fun k s'' hk => ?_) fun _ _ hF => hF.elim))
    obtain ⟨news', g, F', N', U, c⟩ := hk
    obtain ⟨pre, post, e0, hg, x1, x2⟩ := U.split
    rw [e0] at N'
    have nk := N' (kS, seqObj "list" (List.toArray ks) e) (List.mem_append_right _ (.head _))
    have s1 := Heap.SameBut.update s''.heap kS (Obj.mapSeq (·.push k))
    have ea : (List.toArray ks).push k = List.toArray (ks ++ [k]) := by simp
    obtain ⟨c2, hc2⟩ : ∃ c2, (s''.heap.update kS (Obj.mapSeq (·.push k))).get? kS = some (seqObj "list" (List.toArray (ks ++ [k])) c2) := ⟨_, by rw [← ea]; exact get?_update_seq nk.1 (·.push k)⟩
    refine wpAny_bind (listUpdate_at nk.1 rfl ?_ (by rw [List.size_toArray, sizeLine_eq]; omega) (Nat.le_trans (Nat.le_of_eq (Array.size_push ..)) (by rw [List.size_toArray, sizeLine_eq]; omega)))
    exact wpAny_pure ⟨rfl, k, c2, hc2, c _ c2 (kas_fr F' s1 nk.2.1 nk.2.2) (by rw [hg]; exact news_set N' x1 x2 s1 hc2)⟩
  · obtain ⟨ks, e, hk', hl, fin⟩ := hd
    exact wpAny_bind (listItems_at hk' rfl (fin hk' hl))
theorem sorted_any {l : Addr} {f : Value} {kw : List (Str × Value)} {Q : Value → Shared → Prop} (F : Fr h₀ L s.heap m) (N : News h₀ L s.heap news) (hl : s.heap.IsList l vs.toArray) (h64 : vs.length < 64)
    (ha1 : argsOk "sorted" ⟨[.ref l], kw⟩) (ha2 : ∀ x, argsOk "list.sort" ⟨[.ref x], kw⟩) (ht : ∀ x, Builtin.«list.sort» ⟨[.ref x], kw⟩ = ksk_tree x f false)
    (h : ∀ D kS e1 h', Fr h₀ L h' m → News h₀ L h' ((kS, seqObj "list" #[] 0) :: (D, seqObj "list" #[] e1) :: news) → D < kS → (∀ q ∈ news, q.1 < D) → L < D →
      KatKeys prog w A.in1.in1 h₀ L m kS f (fun ks e s' => s'.heap.get? kS = some (seqObj "list" (List.toArray ks) e) → ks.length = vs.length → wpAny (model prog w) A.in1.in1 (ksk_end D false vs.toArray e1 (.ref kS) (List.toArray ks)) (fun fin s'' => ∃ v, fin = .done (.ret v) ∧ Q (.ref D) s'') E s') vs [] 0 { s with heap := h' }) :
    wpAny (model prog w) A (call (.builtin "sorted") [.ref l] kw) Q E s := by
  refine call_function_entry_kw kind_sorted plain_sorted entry_sorted ha1 ?_
  unfold Builtin.«sorted»
  refine wpAny_bind (m := checkCount "sorted" 1 1 _) (wpAny_pure ?_)
  refine wpAny_bind (collect_list hl ?_ (by rw [sizeLine_eq]; omega))
  refine wpAny_bind (wpAny_newList ?_ (by rw [sizeLine_eq]; omega))
  generalize hH : (s.heap.push (seqObj "list" #[] 0)).update s.heap.objs.size (Obj.mapSeq (· ++ vs.toArray)) = H1
  have hsz : H1.objs.size = s.heap.objs.size + 1 := by rw [← hH, Heap.size_update, size_push']
  have hoL : (H1.push (seqObj "list" vs.toArray 0)).get? (s.heap.objs.size + 1) = some (seqObj "list" vs.toArray 0) := by rw [← hsz]; exact Heap.get?_push_size _ rfl
  have keep : ∀ b o, s.heap.get? b = some o → (H1.push (seqObj "list" vs.toArray 0)).get? b = some o := fun b o q => by
    have hlt : b < s.heap.objs.size := Heap.lt_size q
    rw [Heap.get?_push_ne _ _ _ (by rw [hsz]; exact Nat.ne_of_lt (Nat.lt_succ_of_lt hlt)), ← hH, Heap.get?_update_ne _ _ _ _ (Nat.ne_of_lt hlt), Heap.get?_push_ne _ _ _ (Nat.ne_of_lt hlt)]
    exact q
  have hL : L < s.heap.objs.size := F.ns.lt
  show wpAny _ _ _ _ _ { s with heap := H1.push (seqObj "list" vs.toArray 0) }
  rw [hsz]
  have F2 := F.kept keep
  have N2 : News h₀ L (H1.push (seqObj "list" vs.toArray 0)) news := N.grown keep
  have hDL : s.heap.objs.size + 1 ≠ L := Nat.ne_of_gt (Nat.lt_succ_of_lt hL)
  have hD0 : h₀.get? (s.heap.objs.size + 1) = none := Heap.get?_none_of_le (Nat.le_trans F.above (Nat.le_succ_of_le (Nat.le_of_lt hL)))
  have hDn : ∀ p ∈ news, p.1 ≠ s.heap.objs.size + 1 := fun p hp => Nat.ne_of_lt (Nat.lt_succ_of_lt (Heap.lt_size (N p hp).1))
  generalize hH2 : H1.push (seqObj "list" vs.toArray 0) = H2 at *
  generalize hD : s.heap.objs.size + 1 = D at *
  refine wpAny_bind (wpAny_holding (wpAny_call_entry_kw slot_list_sort ⟨_, hoL, rfl⟩ entry_list_sort ?body (ha2 _)))
  case body =>
    show wpAny (model prog w) A.in1.in1 (Builtin.«list.sort» ⟨[.ref D], kw⟩) _ _ _
    rw [ht D]
    have s1 := Heap.SameBut.update H2 D (Obj.mapSeq fun _ => (#[] : Array Value))
    obtain ⟨e1, ho1⟩ : ∃ e1, (H2.update D (Obj.mapSeq fun _ => (#[] : Array Value))).get? D = some (seqObj "list" #[] e1) := ⟨_, get?_update_seq hoL fun _ => #[]⟩
    have F3 := kas_fr F2 s1 hDL hD0
    have N3 := kas_news N2 s1 hDn
    have hDlt : D < H2.objs.size := Heap.lt_size hoL
    generalize hH3 : H2.update D (Obj.mapSeq fun _ => (#[] : Array Value)) = H3 at *
    have hsz3 : H3.objs.size = H2.objs.size := by rw [← hH3, Heap.size_update]
    unfold ksk_tree
    refine wpAny_bind (listItems_at hoL rfl ?_)
    refine wpAny_bind (listUpdate_at hoL rfl ?_ (by rw [List.size_toArray, sizeLine_eq]; omega) (Nat.zero_le _))
    show wpAny _ _ _ _ _ { s with heap := H2.update D (Obj.mapSeq fun _ => (#[] : Array Value)) }
    rw [hH3]
    refine wpAny_bind (seqEpoch_at ho1 rfl ?_)
    refine wpAny_bind (wpAny_newTuple ?_ (by show vs.length ≤ _; rw [sizeLine_eq]; omega))
    refine wpAny_bind (wpAny_newList ?_ (Nat.zero_le _))
    refine wpAny_holding ?_
    have hLk : L < (H3.push (seqObj "tuple" vs.toArray 0)).objs.size := (F3.push _).ns.lt
    have hkS : (H3.push (seqObj "tuple" vs.toArray 0)).objs.size = H3.objs.size + 1 := size_push' _ _
    refine keys_then (h₀ := h₀) (L := L) (m := m) (s := { s with heap := (H3.push (seqObj "tuple" vs.toArray 0)).push (seqObj "list" #[] 0) }) (kS := (H3.push (seqObj "tuple" vs.toArray 0)).objs.size) (Heap.get?_push_size _ rfl) h64 ?_
    refine kat_keys_mono (h D _ e1 _ ((F3.push _).push _) (fun p hp => ?_) (by rw [hkS, hsz3]; exact Nat.lt_succ_of_lt hDlt) (fun q hq => ?_) (by rw [← hD]; exact Nat.lt_succ_of_lt hL)) fun ks e s' _ hd h1 h2 => ?_
    · rcases List.mem_cons.mp hp with rfl | hp
      · exact ⟨Heap.get?_push_size _ rfl, Nat.ne_of_gt hLk, Heap.get?_none_of_le (Nat.le_trans F.above (Nat.le_of_lt hLk))⟩
      · rcases List.mem_cons.mp hp with rfl | hp
        · exact ⟨Heap.get?_push_of_some _ (Heap.get?_push_of_some _ ho1), hDL, hD0⟩
        · exact ⟨Heap.get?_push_of_some _ (Heap.get?_push_of_some _ (N3 p hp).1), (N3 p hp).2⟩
    · rw [← hD]; exact Nat.lt_succ_of_lt (Heap.lt_size (N q hq).1)
    · exact wpAny_mono (hd h1 h2) (fun fin s'' hf => by obtain ⟨v, rfl, hq⟩ := hf; exact ⟨v, rfl, wpAny_pure ⟨_, rfl, hq⟩⟩) fun _ _ x => x
end
set_option tactic.hygienic false
open PySem PySem.W PySem.Calls PyProof.Rows PySem.SeqAt
section
variable {prog : Program} {w : World} {A : Around} {E : Value → Shared → Prop} {s : Shared} {h₀ : Heap} {L D kS : Addr} {m : Str → Option Value} {vs ks : List Value}
noncomputable def IsKey (h : Heap) (v : Value) : Prop := ∃ a i t u, v = .ref a ∧ h.get? a = some (tupO [.int i t, .int i u])
theorem key_firsts {h : Heap} : ∀ {ks : List Value}, (∀ v ∈ ks, IsKey h v) → ∃ fs, KatTups h ks fs ∧ fs.length = ks.length ∧ ∀ v ∈ fs, ∃ i t, v = .int i t
  | [], _ => ⟨[], trivial, rfl, fun _ h => nomatch h⟩
  | v :: r, H => by
    obtain ⟨fs, h1, h2, h3⟩ := key_firsts (ks := r) fun v hv => H v (.tail _ hv)
    obtain ⟨a, i, t, u, rfl, e⟩ := H v (.head _)
    exact ⟨.int i t :: fs, KatTups.cons e rfl rfl rfl h1, by simp [h2], fun v hv => by
      rcases List.mem_cons.mp hv with rfl | hv
      · exact ⟨i, t, rfl⟩
      · exact h3 v hv⟩
theorem kat_rev_false {α : Type} (l : List α) : katRev false l = l := if_neg (by decide)
theorem end_asc {e e1 : Nat} {P : PySem.Fin → Shared → Prop} (hl : ks.length = vs.length) (h1 : 1 ≤ vs.length) (h64 : vs.length < 64)
    (hk : ∀ i, i < vs.length → ∃ a t u, ks[i]? = some (.ref a) ∧ s.heap.get? a = some (tupO [.int (i : Int) t, .int (i : Int) u]))
    (h : KatFin h₀ L m kS D ks e e1 vs (fun s3 => P (.done (.ret .none)) s3) s) : wpAny (model prog w) A (ksk_end D false vs.toArray e1 (.ref kS) (List.toArray ks)) P E s := by
  by_cases h2 : 2 ≤ vs.length
  · refine kat_end (h₀ := h₀) (L := L) (m := m) (e := e) hl h2 h64 ?_
    have hall : ∀ v ∈ ks, IsKey s.heap v := fun v hv => by
      obtain ⟨i, hi, rfl⟩ := List.getElem_of_mem hv
      obtain ⟨a, t, u, e1, e2⟩ := hk i (by omega)
      rw [List.getElem?_eq_getElem hi] at e1
      exact ⟨a, i, t, u, Option.some.inj e1, e2⟩
    obtain ⟨fs, t1, t2, t3⟩ := key_firsts hall
    refine kat_kind (T := .type "int") t1 (by omega) (fun v hv => ?_) rfl ?_
    · obtain ⟨i, t, rfl⟩ := t3 v hv
      exact Looks.of_pure rfl
    · refine sort_asc h1 (fun k C hk1 hkn hC => ?_) ?_
      · rw [kat_rev_false]
        obtain ⟨a, t, u, a1, a2⟩ := hk k hkn
        obtain ⟨b, t', u', b1, b2⟩ := hk (k - 1) (by omega)
        show wpAny _ A (keyLt' (tuples' _) (ks.getD k Value.none) (ks.getD (k - 1) Value.none)) C _ s
        rw [List.getD_eq_getElem?_getD, List.getD_eq_getElem?_getD, a1, b1]
        refine kat_lt a2 rfl b2 rfl ?_
        show KatLex prog w A _ _ C [(Value.int (k : Int) t, Value.int ((k - 1 : Nat) : Int) t'), (Value.int (k : Int) u, Value.int ((k - 1 : Nat) : Int) u')] 0 s
        refine kat_cons (wpAny_eqBool_int ?_)
        rw [show ((k : Int) == ((k - 1 : Nat) : Int)) = false by rw [beq_eq_false_iff_ne]; omega]
        refine kat_no ?_
        show wpAny _ A (oneLt' true _ _) C _ s
        refine oneLt_int ?_
        rw [decide_eq_false (by omega)]
        exact hC
      · have : (List.toArray (List.range vs.length)).toList.map (fun i => (katRev false vs).getD i Value.none) = vs := by
          rw [kat_rev_false]
          refine List.ext_getElem (by simp) fun i a b => ?_
          simp [List.getElem?_eq_getElem b]
        rw [this, kat_rev_false]
        exact h
  · obtain ⟨v, rfl⟩ : ∃ v, vs = [v] := List.length_eq_one_iff.mp (by omega)
    obtain ⟨k, rfl⟩ : ∃ k, ks = [k] := List.length_eq_one_iff.mp (by simpa using hl)
    unfold ksk_end
    have h12 : (List.toArray [v]).size < 2 := Nat.lt_succ_self 1
    have hf : ¬ (false = true) := by decide
    rw [if_neg hf, if_pos h12]
    refine wpAny_bind (wpAny_pure ?_)
    rw [if_pos h12, if_neg hf]
    refine wpAny_bind (wpAny_pure ?_)
    have hz : (arrOf (SortSt.mk' general' ((List.toArray [k]).zip (List.toArray [v])) #[] 7 none)).map (·.2) = List.toArray [v] := by
      show ((List.toArray [k]).zip (List.toArray [v])).map (·.2) = List.toArray [v]
      simp
    exact kat_tail (ks := [k]) (b := false) (out := [v]) hz (Nat.lt_of_sub_eq_succ rfl) (Nat.lt_of_sub_eq_succ rfl) rfl (by rw [kat_rev_false]; exact h)
end
set_option tactic.hygienic false
open PySem PySem.W PySem.Calls PyProof.Rows PySem.SeqAt
noncomputable def scT : Scope := { kind := .function, names := [(nm "taken", .local)], isGenerator := false, isCoroutine := false }
noncomputable def parT : Arguments := { posonlyargs := [], args := [{ arg := nm "taken", annotation := none, pos := ps 723 42 47 }], vararg := none, kwonlyargs := [], kw_defaults := [], kwarg := none, defaults := [] }
noncomputable def bodyT : Expr := .Tuple [.Attribute (.Name (nm "taken") (ps 723 50 55)) (nm "start") (ps 723 50 61), .Attribute (.Name (nm "taken") (ps 723 63 68)) (nm "number") (ps 723 63 75)] 0 (ps 723 49 76)
noncomputable def lamT : Expr := .Lambda parT bodyT scT (ps 723 35 76)
noncomputable def callT : Expr := .Call (.Name (nm "sorted") (ps 723 11 17)) [.Name (nm "occupations") (ps 723 18 29)] [{ arg := some (nm "key"), value := lamT, pos := ps 723 31 76 }] (ps 723 11 77)
theorem body_by : f_by_start.body = [.Return (some callT) (ps 723 4 77)] := by kernel_rfl
theorem stepT (q : Nat → SO) (r : Led) (n : Nat) (I : Nat → Nat) (k : Int) (orc : List Orc) :
    outOf ((run Γ₀ 5).ev ⟨scT, []⟩ bodyT ⟨[(nm "taken", .fam 40 k)], pre q 40 (.fam (upTo n) (fTF n I) :: r), orc⟩) =
    some (.tup [.int false k, .int false k], ⟨[(nm "taken", .fam 40 k)], pre q 40 (.fam (upTo n) (fTF n I) :: r), orc⟩) := by kernel_rfl
theorem obsT (S : Fix) (q : Nat → SO) (r : Led) (n : Nat) (I : Nat → Nat) (k : Int) (orc : List Orc) :
    AllH S (obsOf ((run Γ₀ 5).ev ⟨scT, []⟩ bodyT ⟨[(nm "taken", .fam 40 k)], pre q 40 (.fam (upTo n) (fTF n I) :: r), orc⟩)) = (k ∈ upTo n ∧ k ∈ upTo n ∧ True) := by kernel_rfl
theorem preF_of (p : Nat → SO) : ∀ (k i : Nat) (L : Led), k ≤ L.length → (∀ j, j < k → L[j]? = some (p (i + j))) → L = preF p i k (L.drop k)
  | 0, i, L, _, _ => rfl
  | k + 1, i, [], h, _ => absurd h (Nat.not_succ_le_zero k)
  | k + 1, i, a :: L, h, H => by
    show a :: L = p i :: preF p (i + 1) k (L.drop k)
    have h0 := H 0 (Nat.succ_pos k)
    rw [List.getElem?_cons_zero] at h0
    cases Option.some.inj h0
    rw [← preF_of p k (i + 1) L (Nat.le_of_succ_le_succ h) fun j hj => by
      have := H (j + 1) (Nat.succ_lt_succ hj)
      rw [List.getElem?_cons_succ] at this
      rw [this]; congr 2; omega]
    rfl
theorem pre_of {L : Led} {o : SO} {k : Nat} (h : L[k]? = some o) : L = pre (fun i => L.getD i .nocell) k (o :: L.drop (k + 1)) := by
  obtain ⟨hk, e⟩ := List.getElem?_eq_some_iff.mp h
  have := preF_of (fun i => L.getD i .nocell) k 0 L (Nat.le_of_lt hk) fun j hj => by
    rw [Nat.zero_add, List.getD_eq_getElem?_getD, List.getElem?_eq_getElem (Nat.lt_trans hj hk)]; rfl
  rw [List.drop_eq_getElem_cons hk, e] at this
  exact this
section
variable {S : Fix} {en : En} {c : Cx} {z z₀ : Rz} {m : Str → Option Value} {σ : St} {s : Shared}
theorem lam_call (V : Valid S.K S.mg S.mb S.Γ) (k : c.Ok S 6) {f c' : Addr} {name qual : Str} {pm ctv : Value} {oc : Obj} {vs : Array Value} {t : Tok} (ho : (f, kla_obj name qual parT bodyT scT [] pm c' ctv) ∈ z.all)
    (hco : (c', oc) ∈ z.all) (hd : oc.data = .fields vs) (hv : vs[1]? = some (.str qual t)) (R : Rep S en c z m σ s.heap) {x b : SV} {v : Value} (dx : Den z x v) {loc' : Loc} {o : List Ob}
    (e : (run S.Γ 5).ev ⟨scT, []⟩ bodyT ⟨[(nm "taken", x)], σ.led, σ.orc⟩ = some (b, ⟨loc', σ.led, σ.orc⟩, o)) (ow : Owed S o) {Q : Value → Shared → Prop} {E : Value → Shared → Prop}
    (hQ : ∀ a z' h' tk', z.Le z' → Rep S en c z' m σ h' → Den z' b a → Q a (Sh s h' tk')) : wpAny S.M c.A (call (.ref f) [v]) Q E s := by
  refine wpAny_call ?_
  obtain ⟨FG, BG, st, lv⟩ := groundX (R := fun r s' => match r with | .ok (.ret v) => Q v s' | .ok _ => False | .error e => E e s') k.below R.fr R.news k.frames rfl k.fn
  refine kla_callFunE (by have := k.depth; omega) (R.news _ ho).1 rfl rfl rfl rfl (codeRec_news R.news hco hd hv) ?_
  rw [show bindArgs (kla_fn name qual parT bodyT scT [] pm (.ref c') ctv) ⟨[v], []⟩ = pure [(nm "taken", v)] from rfl]
  refine wpAny_pure (wpAny_newFunctionEnv (show ∀ x ∈ scT.names, x.2 ≠ .cell by decide +kernel) (fun y hy => by rw [List.mem_singleton.mp hy]; rfl) (fun h₁ hns hsb => ⟨((k.top.nolimit).keeps R.fr.keep).fresh _ hsb, ?_⟩) rfl)
  show codeAny _ _ (.expr bodyT (envX qual scT s.heap.objs.size f (.ref c') [])) _ _
  have hk₁ : ∀ b o, s.heap.get? b = some o → h₁.get? b = some o := fun b o e => hsb.extBut b o (Nat.ne_of_lt (Heap.lt_size e)) (Heap.get?_push_of_some _ e)
  generalize hg : hideAll s.heap (z.all.map (·.1)) = g at *
  have F' : Fr g s.heap.objs.size h₁ (fun y => [(nm "taken", v)].reverse.lookup y) := ⟨hns, fun b o e => hk₁ b o (of_hideAll _ (hg ▸ e)), by rw [← hg]; exact Nat.le_of_eq (hideAll_size _ _)⟩
  have N' : News g s.heap.objs.size h₁ z.all := fun p hp => ⟨hk₁ _ _ (R.news p hp).1, Nat.ne_of_lt (Heap.lt_size (R.news p hp).1), by rw [← hg]; exact hideAll_none _ (List.mem_map_of_mem hp)⟩
  have k3 : (c.callee g s.heap.objs.size qual scT f (.ref c')).Ok S 5 := by
    refine ⟨BG, k.top.keeps st, k.inK.keeps st, frames_deeper k.frames, rfl, k.hd, ?_, ?_⟩
    · have := k.depth
      show c.A.depth + 1 + 4 * 5 < recursionLimit
      omega
    · have := k.units
      show c.A.units + 3 + 16 * 5 < cLine
      omega
  have R3 : Rep S ⟨scT, []⟩ (c.callee g s.heap.objs.size qual scT f (.ref c')) z (fun y => [(nm "taken", v)].reverse.lookup y) ⟨[(nm "taken", x)], σ.led, σ.orc⟩ h₁ :=
    ⟨F', N', R.nd, R.dom, R.len, R.led, fun y w e => (by
      rw [look_lookup] at e
      have e : List.lookup y [(nm "taken", x)] = some w := e
      rw [List.lookup_cons] at e
      show ∃ u, List.lookup y [(nm "taken", v)] = some u ∧ Den z w u
      rw [List.lookup_cons]
      cases q : y == nm "taken" with
      | true => rw [q] at e; cases e; exact ⟨v, rfl, dx⟩
      | false => rw [q] at e; cases e), fun x t e => (nomatch e), rfl, R.lvn, R.lvk⟩
  refine kla_codeExpr (wpAny_mono ((sound V 5).ev ⟨scT, []⟩ _ k3 bodyT _ b _ o e ow z _ _ (fun v s' => LeaveK c.h₀ c.L m g _ v s') _ R3 fun a z₁ m₁ h₂ tk₂ le R₃ da => leaveK_ R₃.fr R₃.news fun F₄ N₄ => ?_) (fun v s' hl => lv _ _ hl) fun _ _ y => y)
  refine hQ a z₁ h₂ tk₂ le ⟨F₄, N₄, R₃.nd, R₃.dom, R₃.len, R₃.led, fun x w e => ?_, fun x t e => ?_, R.scope, R₃.lvn, R₃.lvk⟩ da
  · obtain ⟨v, q1, q2⟩ := R.loc x w e
    exact ⟨v, q1, q2.mono le⟩
  · obtain ⟨q1, q2⟩ := R.cells x t e
    exact ⟨by rw [(le.ad t 0 q2).2]; exact q1, (le.ad t 0 q2).1⟩
end
set_option tactic.hygienic false
open PySem PySem.W PySem.Calls PyProof.Rows PySem.SeqAt
noncomputable def keyT (i : Nat) : SV := .tup [.int false (i : Int), .int false (i : Int)]
structure Out2 (c : Cx) (z : Rz) (kS D : Addr) (ks : List Value) (e e1 : Nat) (h : Heap) : Prop where
  k1 : c.h₀.objs.size ≤ kS ∧ c.L ≠ kS ∧ (∀ p ∈ z.all, p.1 ≠ kS) ∧ h.get? kS = some (seqObj "list" (List.toArray ks) e)
  d1 : c.h₀.objs.size ≤ D ∧ c.L ≠ D ∧ (∀ p ∈ z.all, p.1 ≠ D) ∧ h.get? D = some (seqObj "list" #[] e1)
  ne : kS ≠ D
section
variable {S : Fix} {en : En} {c : Cx} {z z₀ : Rz} {m : Str → Option Value} {σ : St} {s : Shared} {kS D : Addr} {ks : List Value} {e e1 : Nat} {h h' : Heap}
theorem Rep.at (R : Rep S en c z m σ h) (F : Fr c.h₀ c.L h' m) (N : News c.h₀ c.L h' z.all) : Rep S en c z m σ h' := ⟨F, N, R.nd, R.dom, R.len, R.led, R.loc, R.cells, R.scope, R.lvn, R.lvk⟩
theorem none_h0 {a : Addr} (h1 : c.h₀.objs.size ≤ a) : c.h₀.get? a = none := by
  cases e : c.h₀.get? a with
  | none => rfl
  | some o => exact absurd (Heap.lt_size e) (Nat.not_lt.mpr h1)
theorem Out2.news (O : Out2 c z kS D ks e e1 h) (R : Rep S en c z m σ h) : News c.h₀ c.L h ((kS, seqObj "list" (List.toArray ks) e) :: (D, seqObj "list" #[] e1) :: z.all) := fun p hp => by
  rcases List.mem_cons.mp hp with rfl | hp
  · exact ⟨O.k1.2.2.2, Ne.symm O.k1.2.1, none_h0 O.k1.1⟩
  · rcases List.mem_cons.mp hp with rfl | hp
    · exact ⟨O.d1.2.2.2, Ne.symm O.d1.2.1, none_h0 O.d1.1⟩
    · exact R.news p hp
theorem Out2.upd (O : Out2 c z kS D ks e e1 h) : UpdF kS (seqObj "list" (List.toArray ks) e) ((kS, seqObj "list" (List.toArray ks) e) :: (D, seqObj "list" #[] e1) :: z.all) (fun o' => (kS, o') :: (D, seqObj "list" #[] e1) :: z.all) :=
  .head fun p hp => by
    rcases List.mem_cons.mp hp with rfl | hp
    · exact Ne.symm O.ne
    · exact O.k1.2.2.1 p hp
theorem not_stays_list {vs : Array Value} {n : Nat} : ¬ stays (seqObj "list" vs n) := by
  rintro (⟨vs, e⟩ | ⟨lo, hi, t1, t2, t3, e⟩) <;> (injection e with e1; injection e1 with e2; exact absurd e2 (by decide))
theorem keys_all (V : Valid S.K S.mg S.mb S.Γ) (k : c.Ok S 6) {n : Nat} {f c' : Addr} {name qual : Str} {pm ctv : Value} {oc : Obj} {vs : Array Value} {t : Tok} (ho : (f, kla_obj name qual parT bodyT scT [] pm c' ctv) ∈ z₀.all) (hf : z₀.own f = none)
    (hco : (c', oc) ∈ z₀.all) (hcn : z₀.own c' = none) (hd : oc.data = .fields vs) (hv : vs[1]? = some (.str qual t))
    (He : ∀ i, i < n → ∃ loc' o, (run S.Γ 5).ev ⟨scT, []⟩ bodyT ⟨[(nm "taken", .fam 40 (i : Int))], σ.led, σ.orc⟩ = some (keyT i, ⟨loc', σ.led, σ.orc⟩, o) ∧ Owed S o) {Fin : List Value → Nat → Shared → Prop} :
    ∀ (js : List Nat) (vs' : List Value), DenL z₀ (js.map fun (i : Nat) => SV.fam 40 (i : Int)) vs' → (∀ i ∈ js, i < n) → ∀ (done : List Nat) (ks : List Value) (e : Nat) (z : Rz) (s' : Shared), (∃ h tk, s' = Sh s h tk) → z₀.Le z → DenL z (done.map keyT) ks →
      Rep S en c z m σ s'.heap → Out2 c z kS D ks e e1 s'.heap →
      (∀ ks e z s', (∃ h tk, s' = Sh s h tk) → z₀.Le z → DenL z ((done ++ js).map keyT) ks → Rep S en c z m σ s'.heap → Out2 c z kS D ks e e1 s'.heap → Fin ks e s') →
      KatKeys S.prog S.w c.A c.h₀ c.L m kS (.ref f) Fin vs' ks e s'
  | [], _, .nil, _, done, ks, e, z, s', hs, le, dk, R, O, HF => HF ks e z s' hs le (by rw [List.append_nil]; exact dk) R O
  | j :: js, _, .cons (v := v) (vs := vs') dv dvs, hj, done, ks, e, z, s', hs, le, dk, R, O, HF => by
    refine KatKeys.cons ?_
    have two : ∀ q ∈ [(kS, seqObj "list" (List.toArray ks) e), (D, seqObj "list" #[] e1)], c.h₀.objs.size ≤ q.1 ∧ c.L ≠ q.1 ∧ (∀ p ∈ z.all, p.1 ≠ q.1) ∧ s'.heap.get? q.1 = some q.2 := by
      intro q hq
      simp only [List.mem_cons, List.not_mem_nil, or_false] at hq
      rcases hq with rfl | rfl
      · exact O.k1
      · exact O.d1
    have nd2 : ([(kS, seqObj "list" (List.toArray ks) e), (D, seqObj "list" #[] e1)].map (·.1)).Nodup := by simp [O.ne]
    have nst : ∀ q ∈ [(kS, seqObj "list" (List.toArray ks) e), (D, seqObj "list" #[] e1)], ¬ stays q.2 := by
      intro q hq
      simp only [List.mem_cons, List.not_mem_nil, or_false] at hq
      rcases hq with rfl | rfl
      · exact not_stays_list
      · exact not_stays_list
    obtain ⟨z₁, le₁, R₁, hin, _⟩ := R.joins nd2 two
    have l01 := le.trans le₁
    obtain ⟨loc', o, he, ow⟩ := He j (hj j (.head _))
    refine lam_call V k (l01.pool _ _ ho hf).1 (l01.pool _ _ hco hcn).1 hd hv R₁ (dv.mono l01) he ow fun a z₂ h₂ tk₂ le₂ R₂ d₂ => ?_
    have hq : ∀ q ∈ [(kS, seqObj "list" (List.toArray ks) e), (D, seqObj "list" #[] e1)], q ∈ z₂.all ∧ z₂.own q.1 = none ∧ ¬ stays q.2 := fun q hq => ⟨(le₂.pool _ _ (hin q hq).1 (hin q hq).2).1, (le₂.pool _ _ (hin q hq).1 (hin q hq).2).2, nst q hq⟩
    obtain ⟨lw, R₃⟩ := R₂.drops hq
    have l12 := le₁.trans le₂
    have l3 : z.Le (z₂.drops ([(kS, seqObj "list" (List.toArray ks) e), (D, seqObj "list" #[] e1)].map (·.1))) := ⟨l12.n, l12.ad, fun a o x y => by
      obtain ⟨x', y'⟩ := l12.pool a o x y
      refine ⟨mem_drops.mpr ⟨x', ?_⟩, y'⟩
      simp only [List.map_cons, List.map_nil, List.mem_cons, List.not_mem_nil, or_false, not_or]
      exact ⟨O.k1.2.2.1 _ x, O.d1.2.2.1 _ x⟩⟩
    have hno : ∀ q ∈ (z₂.drops ([(kS, seqObj "list" (List.toArray ks) e), (D, seqObj "list" #[] e1)].map (·.1))).all, q.1 ≠ kS ∧ q.1 ≠ D := fun q hq' => by
      have := (List.mem_filter.mp hq').2
      simpa using this
    have da := d₂.monow lw
    generalize z₂.drops ([(kS, seqObj "list" (List.toArray ks) e), (D, seqObj "list" #[] e1)].map (·.1)) = z₃ at *
    have O₃ : Out2 c z₃ kS D ks e e1 h₂ := ⟨⟨O.k1.1, O.k1.2.1, fun p hp => (hno p hp).1, (R₂.news _ (hq _ (.head _)).1).1⟩, ⟨O.d1.1, O.d1.2.1, fun p hp => (hno p hp).2, (R₂.news _ (hq _ (.tail _ (.head _))).1).1⟩, O.ne⟩
    refine KatBack.intro (s := Sh s' h₂ tk₂) R₃.fr (O₃.news R₃) O₃.upd fun h' cc F' N' => ?_
    refine keys_all V k ho hf hco hcn hd hv He js vs' dvs (fun i hi => hj i (.tail _ hi)) (done ++ [j]) (ks ++ [a]) cc z₃ _ ?_ (le.trans l3) ?_ (R₃.at F' fun p hp => N' p (.tail _ (.tail _ hp))) ⟨⟨O.k1.1, O.k1.2.1, fun p hp => (hno p hp).1, (N' _ (.head _)).1⟩, ⟨O.d1.1, O.d1.2.1, fun p hp => (hno p hp).2, (N' _ (.tail _ (.head _))).1⟩, O.ne⟩ ?_
    · obtain ⟨h, tk, rfl⟩ := hs
      exact ⟨h', tk₂, rfl⟩
    · rw [List.map_append]
      exact (dk.mono l3).append (.cons da .nil)
    · intro ks e z s' hs le dk R O
      exact HF ks e z s' hs le (by rw [List.append_assoc] at dk; exact dk) R O
end
set_option tactic.hygienic false
open PySem PySem.W PySem.Calls PyProof.Rows PySem.SeqAt
section
variable {S : Fix} {en : En} {c : Cx} {z : Rz} {m : Str → Option Value} {s : Shared}
theorem lam_make (CK : ∀ h, S.K.In h → CodeHd h 763 759) (k : c.Ok S 7) (hcd : c.cd = .ref 763) {loc : Loc} {L : Led} {orc : List Orc} (e0 : L[0]? = some (.tab true)) (R : Rep S en c z m ⟨loc, L, orc⟩ s.heap) {Q : Value → Shared → Prop} {E : Value → Shared → Prop}
    (hQ : ∀ f c' oc vs t ctv z' h' tk', z.Le z' → Rep S en c z' m ⟨loc, L.set 0 (.tab false), orc⟩ h' → (f, kla_obj "<lambda>" (c.env.qual ++ "<lambda>") parT bodyT scT [] ((S.mg "__name__").getD .none) c' ctv) ∈ z'.all → z'.own f = none → (c', oc) ∈ z'.all → z'.own c' = none →
      oc.data = .fields vs → vs[1]? = some (.str (c.env.qual ++ "<lambda>") t) → Q (.ref f) (Sh s h' tk')) : wpAny S.M c.A (eval lamT c.env) Q E s := by
  have sit := (R.led 0 _ e0)
  obtain ⟨hlv, hat⟩ : z.lv 0 0 ∧ At S z (0, 0) (.tab true) (z.ad 0 0) := sit
  have hx759 : z.ad 0 0 = 759 := by cases hat; assumption
  rw [hx759] at hat
  obtain ⟨ps, hm, hown, hps⟩ : ∃ ps, ((759 : Addr), tabO ps) ∈ z.all ∧ z.own 759 = some (0, 0) ∧ ps = #[] := by
    cases hat with
    | tab m o h x => exact ⟨_, m, o, h rfl⟩
  subst hps
  have N := R.news _ hm
  have T := k.top.keeps R.fr.keep
  have hgs := T.g
  have hgP : mainGlobals ≠ 759 := fun q => by
    obtain ⟨o, es, ep, e, hd, _⟩ := hgs
    rw [q, N.1] at e; cases e; cases hd
  obtain ⟨bm, ob, b1, b2, b3, b4, b5, b6⟩ := T.bmain
  have hbP : bm ≠ 759 := fun q => by
    rw [q, N.1] at b3; cases b3; cases b4
  have hbG : bm ≠ mainGlobals := fun q => by
    obtain ⟨o, es, ep, e, hd, _⟩ := hgs
    rw [q, e] at b3; cases b3; rw [hd] at b6; cases b6
  refine kla_eval rfl (kla_makeFunction (mg := S.mg) (ps := #[]) (P := 759) (c := 763) (clos := []) (closureFor_none (by decide +kernel)) rfl hgs hcd ((CK _ k.inK).keeps R.fr.keep) N.1 True.intro rfl hgP ⟨bm, ob, b1, b2, hbG, hbP, b3, b4, b5, b6⟩ fun c' ctv h' tk hx hge hlt hrec htb => ?_)
  obtain ⟨c₂, oc, vs, t, e2, hoc, hd, hv⟩ := hrec
  cases e2
  have hLs : c.L < s.heap.objs.size := R.fr.ns.lt
  have hLc : c.L < c' := Nat.lt_of_lt_of_le hLs hge
  have hLh : c.L ≠ 759 := Ne.symm N.2.1
  generalize hfo : kla_obj "<lambda>" (c.env.qual ++ "<lambda>") parT bodyT scT [] ((S.mg "__name__").getD .none) c' ctv = fo at *
  have old : ∀ b o, b ≠ 759 → s.heap.get? b = some o → (h'.push fo).get? b = some o := fun b o n e => Heap.get?_push_of_some _ (hx b o n e)
  have F' : Fr c.h₀ c.L (h'.push fo) m := ⟨(R.fr.ns.extBut hx hLh).push _, fun b o e => old b o (fun q => by rw [q, N.2.2] at e; cases e) (R.fr.keep b o e), R.fr.above⟩
  have hown' : ∀ p ∈ updA z.all 759 (tabO (#[] ++ #[rawInt 723, rawInt 35, .ref c'])), p = (759, tabO (#[] ++ #[rawInt 723, rawInt 35, .ref c'])) ∨ (p ∈ z.all ∧ p.1 ≠ 759) := fun p hp => by
    obtain ⟨q, hq, e⟩ := List.mem_map.mp hp
    by_cases h : q.1 = 759
    · rw [if_pos h] at e; exact .inl e.symm
    · rw [if_neg h] at e; exact .inr (e ▸ ⟨hq, h⟩)
  have N' : News c.h₀ c.L (h'.push fo) (updA z.all 759 (tabO (#[] ++ #[rawInt 723, rawInt 35, .ref c']))) := fun p hp => by
    rcases hown' p hp with rfl | ⟨hp, hn⟩
    · exact ⟨Heap.get?_push_of_some _ htb, N.2⟩
    · exact ⟨old _ _ hn (R.news _ hp).1, (R.news _ hp).2⟩
  have R₁ := R.turn (v := .ref 0) (o₀ := .tab true) (o₁ := .tab false) (σ₀ := ⟨loc, L, orc⟩) (σ₁ := ⟨loc, L.set 0 (.tab false), orc⟩) (ob := []) (ob' := []) (t := 0) (i := 0) hown F' N' rfl (by
      unfold objOf getChunk
      dsimp only
      rw [e0]) rfl (by rw [hx759]; exact .tab (mem_updA_self hm) hown (fun h => nomatch h) rfl) hlv (fun ks f j o q => by rw [e0] at q; cases q)
  have lt1 := z.turn_le (tabO (#[] ++ #[rawInt 723, rawInt 35, .ref c'])) hown
  have hs0 : ∀ p ∈ (z.turn 759 (tabO (#[] ++ #[rawInt 723, rawInt 35, .ref c']))).all, p.1 < s.heap.objs.size := fun p hp => by
    rcases hown' p hp with rfl | ⟨hp, _⟩
    · exact Heap.lt_size N.1
    · exact Heap.lt_size (R.news _ hp).1
  generalize z.turn 759 (tabO (#[] ++ #[rawInt 723, rawInt 35, .ref c'])) = z₁ at *
  have hsz : c.h₀.objs.size ≤ s.heap.objs.size := Nat.le_trans R.fr.above (Nat.le_of_lt hLs)
  obtain ⟨z₂, le₂, R₂, hin, _⟩ := R₁.joins (l := [(h'.objs.size, fo), (c', oc)]) (by simp [Nat.ne_of_gt hlt]) fun q hq => by
    simp only [List.mem_cons, List.not_mem_nil, or_false] at hq
    rcases hq with rfl | rfl
    · exact ⟨by dsimp only; omega, Nat.ne_of_lt (Nat.lt_trans hLc hlt), fun p hp => Nat.ne_of_lt (Nat.lt_of_lt_of_le (hs0 p hp) (Nat.le_trans hge (Nat.le_of_lt hlt))), Heap.get?_push_size _ (by rw [← hfo]; rfl)⟩
    · exact ⟨by dsimp only; omega, Nat.ne_of_lt hLc, fun p hp => Nat.ne_of_lt (Nat.lt_of_lt_of_le (hs0 p hp) hge), Heap.get?_push_of_some _ hoc⟩
  have a1 := hin _ (.head _)
  have a2 := hin _ (.tail _ (.head _))
  rw [← hfo] at a1
  exact hQ _ _ oc vs t ctv z₂ _ tk (lt1.trans le₂) R₂ a1.1 a1.2 a2.1 a2.2 hd hv
end
set_option tactic.hygienic true
open PySem PySem.W PySem.Calls PyProof.Rows PySem.SeqAt
theorem keys_at {z : Rz} {h : Heap} (hN : ∀ a o, (a, o) ∈ z.all → h.get? a = some o) : ∀ {js : List Nat} {ks : List Value}, DenL z (js.map keyT) ks → ∀ (i j : Nat), js[i]? = some j → ∃ (a : Addr) (t u : Tok), ks[i]? = some (Value.ref a) ∧ h.get? a = some (tupO [.int (j : Int) t, .int (j : Int) u]) := by
  intro js
  induction js with
  | nil => intro ks d i j e; cases e
  | cons j0 js ih =>
    intro ks d i j e
    rw [List.map_cons] at d
    cases d with
    | cons d ds =>
      cases i with
      | succ i => exact ih ds i j e
      | zero =>
        cases e
        unfold keyT at d
        cases d with
        | tup l a vs hm ho dl =>
          cases dl with
          | cons d1 dl =>
            cases dl with
            | cons d2 dl =>
              cases dl
              cases d1
              cases d2
              exact ⟨a, _, _, rfl, hN _ _ hm⟩
section
variable {S : Fix} {en : En} {c : Cx} {z : Rz} {m : Str → Option Value} {s : Shared}
theorem by_sort (V : Valid S.K S.mg S.mb S.Γ) (k : c.Ok S 7) {n : Nat} (h1 : 1 ≤ n) (h60 : n ≤ 60) {loc : Loc} {L : Led} {orc : List Orc} (e32 : L[32]? = some (.list false (tL n)))
    (He : ∀ i, i < n → ∃ loc' o, (run S.Γ 5).ev ⟨scT, []⟩ bodyT ⟨[(nm "taken", .fam 40 (i : Int))], L, orc⟩ = some (keyT i, ⟨loc', L, orc⟩, o) ∧ Owed S o)
    {f c' : Addr} {name qual : Str} {pm ctv : Value} {oc : Obj} {vs : Array Value} {t : Tok} (ho : (f, kla_obj name qual parT bodyT scT [] pm c' ctv) ∈ z.all) (hf : z.own f = none) (hco : (c', oc) ∈ z.all) (hcn : z.own c' = none) (hd : oc.data = .fields vs) (hv : vs[1]? = some (.str qual t))
    (R : Rep S en c z m ⟨loc, L, orc⟩ s.heap) {v : Value} (dv : Den z (.ref 32) v) {Q : Value → Shared → Prop} {E : Value → Shared → Prop}
    (hQ : ∀ a z' h' tk', z.Le z' → Rep S en c z' m ⟨loc, L ++ [.list false (tL n)], orc⟩ h' → Den z' (.ref L.length) a → Q a (Sh s h' tk')) : wpAny S.M c.A (call (.builtin "sorted") [v] [(Str.ofString "key", .ref f)]) Q E s := by
  cases dv with
  | ref _ hlv =>
  have sit := (R.led 32 _ e32).2
  cases sit with
  | list hm hown dl =>
  rename_i xs jj
  have hxl : xs.length = n := by rw [← dl.length]; unfold tL; simp
  refine sorted_any R.fr R.news (vs := xs) ⟨_, (R.news _ hm).1, rfl, _, rfl⟩ (by omega) (ksk_s1 _ _) (fun x => ksk_l1 _ _) (fun x => ksk_t1 f x) fun D kS e1 h' F' N' hDk hDn hLD => ?_
  have k' : (c.making c.A.in1.in1).Ok S 6 := by
    refine ⟨k.below, k.top, k.inK, k.frames, k.fn, k.hd, ?_, ?_⟩
    · have := k.depth
      show c.A.depth + 4 * 6 < recursionLimit
      omega
    · have := k.units
      show c.A.units + 1 + 1 + 16 * 6 < cLine
      omega
  have nD := N' _ (.tail _ (.head _))
  have nk := N' _ (.head _)
  have hsz : c.h₀.objs.size ≤ D := Nat.le_trans R.fr.above (Nat.le_of_lt hLD)
  have R₁ : Rep S en (c.making c.A.in1.in1) z m ⟨loc, L, orc⟩ h' := rep_cx (c := c) (c' := c.making c.A.in1.in1) rfl rfl rfl rfl (R.at F' fun p hp => N' p (.tail _ (.tail _ hp)))
  have O₁ : Out2 (c.making c.A.in1.in1) z kS D [] 0 e1 h' := ⟨⟨Nat.le_trans hsz (Nat.le_of_lt hDk), Ne.symm nk.2.1, fun p hp => Nat.ne_of_lt (Nat.lt_trans (hDn p hp) hDk), nk.1⟩, ⟨hsz, Ne.symm nD.2.1, fun p hp => Nat.ne_of_lt (hDn p hp), nD.1⟩, Nat.ne_of_gt hDk⟩
  refine keys_all (c := c.making c.A.in1.in1) (s := s) V k' ho hf hco hcn hd hv He (List.range n) xs dl (fun i hi => List.mem_range.mp hi) [] [] 0 z { s with heap := h' } ⟨h', s.toks, rfl⟩ (.refl z) .nil R₁ O₁ ?_
  rintro ks e z₂ _ ⟨h₂, tk₂, rfl⟩ le₂ dk R₂ O₂ hget hlen
  rw [List.nil_append] at dk
  refine end_asc (h₀ := c.h₀) (L := c.L) (m := m) (e := e) hlen (by omega) (by omega) (fun i hi => ?_) ?_
  · exact keys_at (fun a o x => (R₂.news _ x).1) dk i i (by rw [List.getElem?_range (by omega)])
  · refine KatFin.intro R₂.fr (O₂.news R₂) O₂.upd fun h₃ cc F₃ N₃ => ?_
    refine KasFin.intro (news := (D, seqObj "list" #[] e1) :: z₂.all) F₃ (fun p hp => N₃ p (.tail _ hp)) (.head O₂.d1.2.2.1) fun h₄ c4 F₄ N₄ => ?_
    have R₄ : Rep S en c z₂ m ⟨loc, L, orc⟩ h₄ := (rep_cx (c := c.making c.A.in1.in1) (c' := c) rfl rfl rfl rfl R₂).at F₄ fun p hp => N₄ p (.tail _ hp)
    obtain ⟨z₅, le₅, R₅, d₅⟩ := rep_alloc (S := S) (l := [(D, W.listOf (List.toArray xs) c4)]) (d := D) (q := .list false (tL n)) (b := .ref L.length) (σ := ⟨loc, L, []⟩) (σ' := ⟨loc, L ++ [.list false (tL n)], []⟩) (o := []) rfl (fun _ h => nomatch h) rfl (R₄.orc []) F₄ N₄
      (fun q hq p hp => by rw [List.mem_singleton.mp hq]; exact O₂.d1.2.2.1 p hp) (by simp) fun z' k' le' hx => .list (vs := xs) (by simpa using (hx _ (.head _)).1) (hx _ (.head _)).2 ((dl.mono le₂).mono le')
    exact ⟨.none, rfl, hQ _ z₅ h₄ tk₂ (le₂.trans le₅) (R₅.orc orc) d₅⟩
end
set_option tactic.hygienic false
open PySem PySem.W PySem.Calls PyProof.Rows PySem.SeqAt
theorem stepN1 (loc : Loc) (led : Led) (orc : List Orc) : (run Γ₀ 7).ev ⟨f_by_start.sc, []⟩ (.Name (nm "sorted") (ps 723 11 17)) ⟨loc, led, orc⟩ = some (.val (.builtin "sorted"), ⟨loc, led, orc⟩, []) := by kernel_rfl
theorem stepN2 (led : Led) (orc : List Orc) : (run Γ₀ 7).ev ⟨f_by_start.sc, []⟩ (.Name (nm "occupations") (ps 723 18 29)) ⟨[(nm "occupations", .ref 32)], led, orc⟩ = some (.ref 32, ⟨[(nm "occupations", .ref 32)], led, orc⟩, []) := by kernel_rfl
section
variable {prog : Program} {w : World} {K : Frag} {mg mb : Str → Option Value} {c : Cx} {z : Rz} {m : Str → Option Value} {s : Shared}
theorem by_call (V : Valid K mg mb Γ₀) (CK : ∀ h, K.In h → CodeHd h 763 759) (k : c.Ok (Sx prog w K mg mb) 7) (hcd : c.cd = .ref 763) {n : Nat} (h1 : 1 ≤ n) (h60 : n ≤ 60) {L : Led} {I : Nat → Nat} {orc : List Orc} (e0 : L[0]? = some (.tab true)) (e32 : L[32]? = some (.list false (tL n)))
    (e40 : L[40]? = some (.fam (upTo n) (fTF n I))) (R : Rep (Sx prog w K mg mb) ⟨f_by_start.sc, []⟩ c z m ⟨[(nm "occupations", .ref 32)], L, orc⟩ s.heap) {Q : Value → Shared → Prop} {E : Value → Shared → Prop}
    (hQ : ∀ a z' m' h' tk', z.Le z' → Rep (Sx prog w K mg mb) ⟨f_by_start.sc, []⟩ c z' m' ⟨[(nm "occupations", .ref 32)], L.set 0 (.tab false) ++ [.list false (tL n)], orc⟩ h' → Den z' (.ref L.length) a → Q a (Sh s h' tk')) :
    wpAny (Sx prog w K mg mb).M c.A (eval callT c.env) Q E s := by
  have he : eval callT c.env = (do callWith (ps 723 11 77) (← eval (.Name (nm "sorted") (ps 723 11 17)) c.env) [] (backTo (ps 723 11 77) (starEach [.Name (nm "occupations") (ps 723 18 29)] c.env)) (backToKw (ps 723 11 77) (keywordEach [{ arg := some (nm "key"), value := lamT, pos := ps 723 31 76 }] c.env))) := rfl
  rw [he]
  refine wpAny_bind ((sound (S := Sx prog w K mg mb) V 7).ev _ c k _ _ _ _ [] (stepN1 _ L orc) (fun _ h => nomatch h) z m s _ E R fun fv z₁ m₁ h₁ tk₁ le₁ R₁ d₁ => ?_)
  cases d₁
  refine callWith_kw (args_cons ((sound (S := Sx prog w K mg mb) V 7).ev _ c k _ _ _ _ [] (stepN2 L orc) (fun _ h => nomatch h) z₁ m₁ (Sh s h₁ tk₁) _ E R₁ fun v z₂ m₂ h₂ tk₂ le₂ R₂ d₂ => args_nil ?_))
  refine kws_cons (lam_make (S := Sx prog w K mg mb) (s := Sh s h₂ tk₂) CK k hcd e0 R₂ fun f c' oc vs t ctv z₃ h₃ tk₃ le₃ R₃ g1 g2 g3 g4 g5 g6 => kws_nil ?_)
  have hl : L.length = (L.set 0 (.tab false)).length := by rw [List.length_set]
  have e32' : (L.set 0 (.tab false))[32]? = some (.list false (tL n)) := by rw [List.getElem?_set_ne (by decide)]; exact e32
  have e40' : (L.set 0 (.tab false))[40]? = some (.fam (upTo n) (fTF n I)) := by rw [List.getElem?_set_ne (by decide)]; exact e40
  have hp := pre_of e40'
  show wpAny (Sx prog w K mg mb).M c.A (call (.builtin "sorted") [v] [(Str.ofString "key", .ref f)]) Q E (Sh s h₃ tk₃)
  refine by_sort (S := Sx prog w K mg mb) (s := Sh s h₃ tk₃) V k h1 h60 e32' (fun i hi => ?_) g1 g2 g3 g4 g5 g6 R₃ (d₂.mono le₃) fun a z₄ h₄ tk₄ le₄ R₄ d₄ => ?_
  · obtain ⟨o, q1, q2⟩ := run_ok (S := Sx prog w K mg mb) (stepT (fun i => (L.set 0 (.tab false)).getD i .nocell) ((L.set 0 (.tab false)).drop 41) n I i orc) (by
      rw [obsT]
      have : (i : Int) ∈ upTo n := List.mem_map.mpr ⟨i, List.mem_range.mpr hi, rfl⟩
      exact ⟨this, this, trivial⟩)
    rw [← hp] at q1
    exact ⟨_, o, q1, q2⟩
  · rw [← hl] at d₄
    exact hQ a z₄ _ h₄ tk₄ (((le₁.trans le₂).trans le₃).trans le₄) R₄ d₄
theorem by_start_ok (V : Valid K mg mb Γ₀) (HC : (fdAt K 764).code = .ref 763) (CK : ∀ h, K.In h → CodeHd h 763 759) : ByStartOk (Sx prog w K mg mb) := by
  intro n I L h1 h60 e0 e32 e40 en c k loc orc z m s Q vs R dl hQ
  have FO := V.fns 764 f_by_start (by kernel_rfl)
  obtain ⟨oc, od, osl, name, qual, params, dV, kV, doc, pm, cdv, ct, an, hl, hcd, hb⟩ := FO.at_
  have hcv : cdv = .ref 763 := by
    unfold fdAt at HC
    rw [hl] at HC
    exact HC
  subst hcv
  have hpar : f_by_start.params = [nm "occupations"] := by kernel_rfl
  have hvl : vs.length = f_by_start.params.length := by rw [hpar]; exact dl.length.symm
  have X := k.inK.keeps R.fr.keep
  refine callX_plain (cl := []) k.below R.fr R.news k.top.nolimit k.frames rfl k.fn (X _ _ hl) rfl (codeRec_of X hcd) (by have := k.depth; omega) (.of_eq (hb vs hvl)) (fun y hy => ?_) (fun g L' h₁ FG F' N' B' st lt => ?_) FO.cell FO.co FO.gen FO.kind
  · obtain ⟨y, u⟩ := y
    exact FO.loc _ (List.of_mem_zip hy).1
  · have k2 : (c.callee g L' qual f_by_start.sc 764 (.ref 763)).Ok (Sx prog w K mg mb) 7 := by
      refine ⟨B', k.top.keeps st, k.inK.keeps st, frames_deeper k.frames, FO.kind, k.hd, ?_, ?_⟩
      · have := k.depth
        show c.A.depth + 1 + 4 * 7 < recursionLimit
        omega
      · have := k.units
        show c.A.units + 3 + 16 * 7 < cLine
        omega
    have R2 : Rep (Sx prog w K mg mb) ⟨f_by_start.sc, []⟩ (c.callee g L' qual f_by_start.sc 764 (.ref 763)) z (fun y => (f_by_start.params.zip vs).reverse.lookup y) ⟨[(nm "occupations", .ref 32)], L, orc⟩ h₁ :=
      ⟨F', N', R.nd, R.dom, R.len, R.led, fun x w e => (look_zip (xs := f_by_start.params) dl (by rw [hpar]; exact e)).imp fun v q => ⟨lookup_reverse FO.nodup x q.1, q.2⟩, fun x t e => (nomatch e), rfl, R.lvn, R.lvk⟩
    rw [body_by]
    refine wpAny_execs_cons (wpAny_Return_some ?_)
    refine by_call V CK k2 rfl h1 h60 e0 e32 e40 R2 fun a z₁ m₁ h₂ tk₂ le R₃ da => ?_
    refine leaveK_ R₃.fr R₃.news fun F₄ N₄ => ?_
    refine hQ _ z₁ m h₂ tk₂ le ⟨F₄, N₄, R₃.nd, R₃.dom, R₃.len, R₃.led, fun x w e => ?_, fun x t e => ?_, R.scope, R₃.lvn, R₃.lvk⟩ da
    · obtain ⟨v, q1, q2⟩ := R.loc x w e
      exact ⟨v, q1, q2.mono le⟩
    · obtain ⟨q1, q2⟩ := R.cells x t e
      exact ⟨by rw [(le.ad t 0 q2).2]; exact q1, (le.ad t 0 q2).1⟩
end
set_option tactic.hygienic false
open PySem PySem.W PySem.Calls PyProof.Rows PySem.SeqAt
theorem cells_law (n : Nat) : cellsFrom n f_law.sc.names [] = [(nm "order_", n)] := by kernel_rfl
noncomputable def eSl : Expr := .Subscript (.Name (nm "script") (ps 826 12 18)) (.Slice none (some (.Constant (.int 60) 0 (ps 826 20 22))) none (ps 826 19 22)) (ps 826 12 23)
theorem stL0 : stL 0 = .Assign [.Name (nm "tape") (ps 826 4 8)] (.List [eSl, .Constant (.int 0) 0 (ps 826 25 26), .Constant (.int 0) 0 (ps 826 28 29)] (ps 826 11 30)) (ps 826 4 30) := by kernel_rfl
theorem sl60 : ∀ n : Fin 64, sliceBounds none (some 60) none n.val = (((0 : Nat) : Int), ((min 60 n.val : Nat) : Int), 1) := by decide +kernel
theorem pick60 (vs : List Value) (h : vs.length ≤ 63) : slicePick vs.toArray none (some 60) none = (vs.take 60).toArray := by
  rw [kmk_pick_nat vs.toArray (a := 0) (b := min 60 vs.length) (by have := sl60 ⟨vs.length, by omega⟩; simpa using this)]
  simp only [List.drop_zero, Nat.sub_zero]
  congr 1
  rw [← List.take_eq_take_min]
theorem den_digs {z : Rz} : ∀ {vs : List Value} {ns : List Int}, IntsAre vs ns → DenL z (digs ns) vs := by
  intro vs ns h
  induction h with
  | nil => exact .nil
  | cons _ _ _ ih => exact .cons (.int false _ _) ih
theorem ints_take : ∀ {vs : List Value} {ns : List Int}, IntsAre vs ns → ∀ k, IntsAre (vs.take k) (ns.take k)
  | _, _, .nil, k => by rw [List.take_nil, List.take_nil]; exact .nil
  | _, _, .cons n t r, 0 => .nil
  | _, _, .cons n t r, k + 1 => .cons n t (ints_take r k)
noncomputable def z₀ (c1 : Addr) (oc : Obj) : Rz := ⟨[(c1, oc), (759, tabObj #[])], fun a => if a = c1 then some (1, 0) else if a = 759 then some (0, 0) else none, fun t _ => if t = 0 then 759 else c1, 2, fun t i => t < 2 ∧ i = 0⟩
section
variable {prog : Program} {w : World} {K : Frag} {mg mb : Str → Option Value}
theorem rep0 {en : En} {c : Cx} {h : Heap} {m : Str → Option Value} {oc : Obj} {c1 : Addr} (F : Fr c.h₀ c.L h m) (N : News c.h₀ c.L h [(c1, oc), (759, tabObj #[])]) (hoc : oc.data = .cell none) (hne : c1 ≠ 759) (hcl : c.cl = [(nm "order_", c1)]) (hsc : c.sc = f_law.sc) :
    Rep (Sx prog w K mg mb) enL c (z₀ c1 oc) m ⟨[], [.tab true, .nocell], []⟩ h := by
  have a1 : (z₀ c1 oc).own c1 = some (1, 0) := if_pos rfl
  have a0 : (z₀ c1 oc).own 759 = some (0, 0) := by
    show (if (759 : Addr) = c1 then _ else _) = _
    rw [if_neg (Ne.symm hne), if_pos rfl]
  refine ⟨F, N, ?_, fun a k e => ?_, rfl, fun t o e => ?_, fun x w e => (nomatch e), fun x t e => ?_, hsc.symm, fun t i h => h.1, fun t i h q ks e ek => ?_⟩
  · show ([c1, 759] : List Addr).Nodup
    simp [hne]
  · have e : (if a = c1 then some ((1 : Nat), (0 : Int)) else if a = 759 then some (0, 0) else none) = some k := e
    show k.1 < 2 ∧ a ∈ ([c1, 759] : List Addr)
    by_cases h1 : a = c1
    · rw [if_pos h1] at e; cases e; exact ⟨by decide, by simp [h1]⟩
    · rw [if_neg h1] at e
      by_cases h2 : a = 759
      · rw [if_pos h2] at e; cases e; exact ⟨by decide, by simp [h2]⟩
      · rw [if_neg h2] at e; cases e
  · match t, e with
    | 0, e => cases e; exact ⟨⟨by decide, rfl⟩, .tab (.tail _ (.head _)) a0 (fun _ => rfl) rfl⟩
    | 1, e => cases e; exact ⟨⟨by decide, rfl⟩, .nocell (.head _) hoc a1⟩
    | t + 2, e => cases e
  · have e : look x [(nm "order_", 1)] = some t := e
    rw [look_lookup, List.lookup_cons] at e
    cases q : x == nm "order_" with
    | true =>
      rw [q] at e; cases e
      refine ⟨?_, by decide, rfl⟩
      rw [hcl, List.lookup_cons, q]; rfl
    | false => rw [q] at e; cases e
  · match t, e with
    | 0, e => cases e; cases ek
    | 1, e => cases e; cases ek
    | t + 2, e => cases e
theorem law_walk (TK : TopOk K) (HC : (fdAt K 764).code = .ref 763) (CK : ∀ h, K.In h → CodeHd h 763 759) (HB : ∀ p ∈ myBuiltins, bootBuiltins p.1 = some p.2) {h₀ : Heap} {s : Shared} {Lx fa x : Addr} {cd : Value} {m : Str → Option Value} {oc : Obj} {vs : List Value} {script : List Int}
    (X : K.In h₀) (T : Top0 mg mb h₀) (Bb : ∀ x : Str, x ≠ "__name__" → mb x = bootBuiltins x) (B : Below callerA h₀ [] h₀) (F : Fr h₀ Lx s.heap m) (hm : m (nm "script") = some (.ref x)) (hl : h₀.IsList x vs.toArray) (hI : IntsAre vs script) (hlen : script.length ≤ 63)
    (N : News h₀ Lx s.heap [(Lx + 1, oc), (759, tabObj #[])]) (hoc : oc.data = .cell none) (l0 : 759 < Lx) {Q : Flow → Shared → Prop} {E : Value → Shared → Prop}
    (hQ : ∀ h' tk' m', Fr h₀ Lx h' m' → (∃ ps, h'.get? 759 = some (tabObj ps)) → Q (.ret (.bool true)) (Sh s h' tk')) :
    wpAny (model prog w) (callerA.deeper (envOfC (nm "law") f_law.sc Lx fa cd)) (execs f_law.body (envOfC (nm "law") f_law.sc Lx fa cd)) Q E s := by
  have V : Valid K mg mb Γ₀ := valid_of TK X T.g Bb HB
  have BS := by_start_ok (prog := prog) (w := w) V HC CK
  let c : Cx := ⟨callerA.deeper (envOfC (nm "law") f_law.sc Lx fa cd), callerA, h₀, h₀, [], Lx, nm "law", f_law.sc, fa, cd, cellsFrom (Lx + 1) f_law.sc.names []⟩
  have k : c.Ok (Sx prog w K mg mb) 150 := by
    refine ⟨B, T, X, frames_deeper B.stack, by kernel_rfl, rfl, ?_, ?_⟩
    · show callerA.depth + 1 + 4 * 150 < recursionLimit
      decide
    · show callerA.units + 3 + 16 * 150 < cLine
      decide
  have R0 : Rep (Sx prog w K mg mb) enL c (z₀ (Lx + 1) oc) m ⟨[], [.tab true, .nocell], []⟩ s.heap := rep0 (en := enL) (c := c) F N hoc (Nat.ne_of_gt (Nat.lt_succ_of_lt l0)) (cells_law _) rfl
  show wpAny (model prog w) c.A (execs f_law.body c.env) Q E s
  rw [body_rest, stL0]
  have hvl : vs.length = script.length := hI.length
  refine wpAny_execs_cons (wpAny_Assign_Name (List_ ?_) rfl)
  rw [star_plain (e := eSl) rfl]
  have hl' : s.heap.IsList x vs.toArray := let ⟨o, e, r⟩ := hl; ⟨o, F.keep _ _ e, r⟩
  refine spliced_cons (Subscript_ (wpAny_Name (wpAny_loadName_local k.fn (by kernel_rfl) F.ns hm (wpAny_Slice (wpAny_pure (wpAny_Constant_int (k := 0) (pos := ps 826 20 22) (wpAny_pure ?_))))) (by kernel_rfl)))
  refine slice_list (s := { s with toks := s.toks + 1 }) F N hl' .none (.int 60 _) (fun h₁ F₁ N₁ => ?_) (by with_unfolding_all rfl) (by intro _; with_unfolding_all rfl) (by rw [List.size_toArray, sizeLine_eq]; omega)
  rw [pick60 vs (by omega)] at N₁
  have hI₁ : IntsAre (vs.take 60) (script.take 60) := ints_take hI 60
  have hsz : s.heap.objs.size + 1 > Lx + 1 := Nat.succ_lt_succ F.ns.lt
  obtain ⟨z₁, le₁, R₁, d₁⟩ := rep_new (S := Sx prog w K mg mb) (o := { cls := .type "list", data := .seq (vs.take 60).toArray }) (q := .list false (digs (script.take 60))) (σ' := ⟨[], [.tab true, .nocell, .list false (digs (script.take 60))], []⟩) (b := .ref 2) (ob := []) rfl (fun _ h => nomatch h) rfl R0 F₁ N₁
    (fun p hp => by
      have := Heap.lt_size (R0.news p hp).1
      exact Nat.lt_succ_of_lt this) fun z' k le' m' w' => .list (j := 0) m' w' (den_digs hI₁)
  refine spliced_cons (wpAny_Constant_int (k := 0) (pos := ps 826 25 26) ?_)
  refine spliced_cons (wpAny_Constant_int (k := 0) (pos := ps 826 28 29) ?_)
  refine spliced_nil ?_
  have dl : DenL z₁ [.ref 2, .int false 0, .int false 0] [.ref (s.heap.objs.size + 1), .int 0 (s.toks + 1), .int 0 (s.toks + 1 + 1)] := .cons d₁ (.cons (.int false 0 _) (.cons (.int false 0 _) .nil))
  refine newList_K R₁.fr R₁.news (fun a h₂ F₂ N₂ hlt => ?_) (small dl rfl)
  obtain ⟨z₂, le₂, R₂, d₂⟩ := rep_new (S := Sx prog w K mg mb) (q := .list true [.ref 2, .int false 0, .int false 0]) (σ' := ⟨[], tapeL (.tab true) .nocell (digs (script.take 60)) 0 0 [], []⟩) (b := .ref 3) (ob := []) rfl (fun _ h => nomatch h) rfl R₁ F₂ N₂ hlt fun z' k le' m' w' => .list m' w' (dl.mono le')
  refine good_putLoc (b := ()) k (σ' := ⟨[(nm "tape", .ref 3)], tapeL (.tab true) .nocell (digs (script.take 60)) 0 0 [], []⟩) (o := []) (by kernel_rfl) R₂ d₂ fun z₃ m₃ h₃ tk₃ le₃ R₃ => ?_
  refine law_one V BS (script.take 60) (by rw [List.length_take]; omega) c k [] z₃ m₃ _ _ _ R₃ fun loc' led' f z₄ m₄ h₄ tk₄ hp le₄ R₄ df => ?_
  cases df with
  | ret dv =>
    cases dv
    refine hQ h₄ tk₄ m₄ R₄.fr ?_
    have at0 : At (Sx prog w K mg mb) z₄ (0, 0) (.tab false) (z₄.ad 0 0) := (R₄.led 0 _ hp).2
    cases at0 with
    | tab hm' ho' hb' hx' => exact ⟨_, by rw [← hx']; exact (R₄.news _ hm').1⟩
end
set_option tactic.hygienic false
open PySem PySem.W PySem.Calls PyProof.Rows PySem.SeqAt
theorem top0_of {p p' : Program} {loose loose' : List Str} {mean mean' : ExcName → Option Value} {mg mb : Str → Option Value} {h₁ : Heap} (T : Top p loose mean mg mb h₁) (hi : importsNone p = true)
    (T' : Top p' loose' mean' mg mb (ghostOf h₁ [(763, 759)])) : Top0 mg mb (ghostOf h₁ [(763, 759)]) :=
  ⟨T'.g, T'.b, T'.nolimit, let ⟨_, ⟨o, _, _, e, _⟩, _⟩ := (T.seer hi).mods; ⟨o, ghost_ne e (by decide)⟩, T'.bmain⟩
theorem hb_all : ∀ p ∈ myBuiltins, bootBuiltins p.1 = some p.2 := by
  unfold myBuiltins
  simp only [List.forall_mem_cons]
  refine ⟨?_, ?_, ?_, ?_, ?_, ?_, ?_, fun _ h => nomatch h⟩
  all_goals kernel_rfl
theorem len63 {l : List Int} (h : ¬ ((63 : Nat) : Int) < (l.length : Int)) : l.length ≤ 63 := by omega
end Mine
set_option tactic.hygienic true
open PySem PySem.W PySem.W.X PyProof.Rows
set_option maxHeartbeats 0
theorem Mine.head.tw16470739840699324481 : True := trivial
theorem Mine.head.tw11636873012791513418 : True := trivial
theorem Mine.head.tw13942192884097748152 : True := trivial
theorem Mine.head.tw12310735299239354703 : True := trivial
theorem Mine.head.tw960817375230797323 : True := trivial
theorem Mine.head.tw976808484645153763 : True := trivial
theorem Mine.head.tw12460202669355646752 : True := trivial
theorem Mine.head.tw15501141472565082077 : True := trivial
theorem Mine.head.tw3715584954343283195 : True := trivial
theorem Mine.head.tw3453547403478019728 : True := trivial
theorem Mine.head.tw2554682012703037696 : True := trivial
theorem Mine.head.tw8159583801465064534 : True := trivial
theorem Mine.head.tw16871623187472473471 : True := trivial
theorem Mine.head.tw14788773977795034992 : True := trivial
theorem Mine.head.tw6772502638888315869 : True := trivial
theorem Mine.head.tw15127644999133008818 : True := trivial
theorem Mine.head.tw2393098407364606883 : True := trivial
theorem Mine.head.tw7156519585557434892 : True := trivial
theorem Mine.head.tw18007968972792079559 : True := trivial
theorem Mine.head.tw14740928361383774428 : True := trivial
theorem Mine.head.tw4473611206160876864 : True := trivial
theorem Mine.head.tw6836608696283027097 : True := trivial
theorem Mine.head.tw11289835788462762251 : True := trivial
theorem Mine.head.tw18176413224385145225 : True := trivial
theorem Mine.head.tw10116942457455264815 : True := trivial
theorem Mine.head.tw1056085985882870562 : True := trivial
theorem Mine.head.tw9186546921256032858 : True := trivial
theorem Mine.head.tw5501060405047882677 : True := trivial
theorem Mine.head.tw3986194592780655508 : True := trivial
theorem Mine.head.tw14139502460874162764 : True := trivial
theorem Mine.head.tw9984397402777080727 : True := trivial
theorem Mine.head.tw3696042808614700290 : True := trivial
theorem Mine.head.tw3790771472595898956 : True := trivial
theorem Mine.head.tw7494366503370351645 : True := trivial
theorem Mine.head.tw7270002223443293236 : True := trivial
theorem Mine.head.tw7450023128482652576 : True := trivial
theorem Mine.head.tw15181326774706428367 : True := trivial
theorem Mine.head.tw18384547517478447814 : True := trivial
theorem Mine.head.tw6600165084710513979 : True := trivial
theorem Mine.head.tw12352672977532951062 : True := trivial
theorem Mine.head.tw1134157569726261602 : True := trivial
theorem Mine.head.tw16845296645482713644 : True := trivial
theorem Mine.head.tw12870424476946447624 : True := trivial
theorem Mine.head.tw4834694072379752904 : True := trivial
theorem Mine.head.tw6088685845774392931 : True := trivial
theorem Mine.head.tw45052839361067614 : True := trivial
theorem Mine.head.tw8671685427711848851 : True := trivial
theorem Mine.head.tw4965378191221513410 : True := trivial
theorem Mine.head.tw14720509044617813951 : True := trivial
theorem Mine.head.tw1519320592345488741 : True := trivial
theorem Mine.head.tw17304152732226823993 : True := trivial
theorem Mine.head.tw6240353410654795137 : True := trivial
theorem Mine.head.tw8895791426145780158 : True := trivial
theorem Mine.head.tw8187629637223713605 : True := trivial
theorem Mine.head.tw17674571679781333832 : True := trivial
theorem Mine.head.tw9081032859969197901 : True := trivial
theorem Mine.head.tw15436542981012472205 : True := trivial
theorem Mine.head.tw13510609219080548989 : True := trivial
theorem Mine.head.tw11105056867450500199 : True := trivial
theorem Mine.head.tw14185411009657547218 : True := trivial
theorem Mine.head.tw16817119741492734445 : True := trivial
theorem Mine.head.tw7498250532897285284 : True := trivial
theorem Mine.head.tw10457615780465708087 : True := trivial
theorem Mine.head.tw5182153607120983317 : True := trivial
theorem Mine.head.tw18331532914195504034 : True := trivial
theorem Mine.head.tw12856577281151766611 : True := trivial
theorem Mine.head.tw9107825763807709430 : True := trivial
theorem Mine.head.tw7876399200375917224 : True := trivial
theorem Mine.head.tw9838509708139735780 : True := trivial
theorem Mine.head.tw9114333099845857663 : True := trivial
theorem Mine.head.tw2172669909848549399 : True := trivial
theorem Mine.head.tw8182079617134344778 : True := trivial
theorem Mine.head.tw14086173767186703872 : True := trivial
theorem Mine.head.tw17988201657351507238 : True := trivial
theorem Mine.head.tw4235852798576303577 : True := trivial
theorem Mine.head.tw907359911958329709 : True := trivial
theorem Mine.head.tw9767149119325585590 : True := trivial
theorem Mine.head.tw6099028997845504075 : True := trivial
theorem Mine.head.tw6889739017440866108 : True := trivial
theorem Mine.head.tw4693820183103290663 : True := trivial
theorem Mine.head.tw1976755195193171425 : True := trivial
theorem Mine.head.tw16903022960794457021 : True := trivial
theorem Mine.head.tw17782148633632673465 : True := trivial
theorem Mine.head.tw9464831228461672588 : True := trivial
theorem Mine.head.tw3746228215898030841 : True := trivial
theorem Mine.head.tw18264441199730398920 : True := trivial
theorem Mine.head.tw709382114072422158 : True := trivial
theorem Mine.head.tw13357441389134331599 : True := trivial
theorem Mine.head.tw7161073391023584161 : True := trivial
theorem Mine.head.tw15035418422258542911 : True := trivial
theorem Mine.head.tw1214346256449528893 : True := trivial
theorem Mine.head.tw16659920880120507502 : True := trivial
theorem Mine.head.tw16072502192527678464 : True := trivial
theorem Mine.head.tw12601080634535202701 : True := trivial
theorem Mine.head.tw6272251169252508156 : True := trivial
theorem Mine.head.tw17444863063712431705 : True := trivial
theorem Mine.head.tw5508695066786827253 : True := trivial
theorem Mine.head.tw1714602735852981970 : True := trivial
theorem Mine.head.tw16966009324859112401 : True := trivial
theorem Mine.head.tw67086481866811729 : True := trivial
theorem Mine.head.tw18125128294737035143 : True := trivial
theorem Mine.head.tw1212124681294104184 : True := trivial
theorem Mine.head.tw9388430590476628193 : True := trivial
theorem Mine.head.tw16446913148795680959 : True := trivial
theorem Mine.head.tw5515381820778694223 : True := trivial
theorem Mine.head.tw12822298378996975857 : True := trivial
theorem Mine.head.tw6521490308693473283 : True := trivial
theorem Mine.head.tw8169693465737517768 : True := trivial
theorem Mine.head.tw15798066900824788120 : True := trivial
theorem Mine.head.tw2907111362388958804 : True := trivial
theorem Mine.head.tw13335025841360890868 : True := trivial
theorem Mine.head.tw7758381527925395934 : True := trivial
theorem Mine.head.tw6522505103286579628 : True := trivial
theorem Mine.head.tw14597329475937083939 : True := trivial
theorem Mine.head.tw604627371996746742 : True := trivial
theorem Mine.head.tw12244833863542804788 : True := trivial
theorem Mine.head.tw5697773043789114877 : True := trivial
theorem Mine.head.tw5104563664521345299 : True := trivial
theorem Mine.head.tw10015159338476511836 : True := trivial
theorem Mine.head.tw3944913497352057107 : True := trivial
theorem Mine.head.tw12207028300977255130 : True := trivial
theorem Mine.head.tw11820730986300896962 : True := trivial
theorem Mine.head.tw17486074103640542121 : True := trivial
theorem Mine.head.tw7960053054240918295 : True := trivial
theorem Mine.head.tw12201952087667049370 : True := trivial
theorem Mine.head.tw9065935926736091543 : True := trivial
theorem Mine.head.tw17017319662998615 : True := trivial
theorem Mine.head.tw17194126546080390198 : True := trivial
theorem Mine.head.tw11427066125472700054 : True := trivial
theorem Mine.head.tw15539854500240908086 : True := trivial
theorem Mine.head.tw3062044705579621278 : True := trivial
theorem Mine.head.tw9987851973559822609 : True := trivial
theorem Mine.head.tw10706776884845955466 : True := trivial
theorem Mine.head.tw15604011560834605598 : True := trivial
theorem Mine.head.tw15735840784391694233 : True := trivial
theorem Mine.head.tw742351954350328859 : True := trivial
theorem Mine.head.tw1618804561499322139 : True := trivial
theorem Mine.head.tw6247268493268985975 : True := trivial
theorem Mine.head.tw12773685731770592110 : True := trivial
theorem Mine.head.tw14028522991509751376 : True := trivial
theorem Mine.head.tw7256407767356113836 : True := trivial
theorem Mine.head.tw13637325136056909300 : True := trivial
theorem Mine.head.tw7658410731251134818 : True := trivial
theorem Mine.head.tw12727220549172885185 : True := trivial
theorem Mine.head.tw14699756766385990792 : True := trivial
theorem Mine.head.tw11714945338242495837 : True := trivial
theorem Mine.head.tw17332727794074296334 : True := trivial
theorem Mine.head.tw13294958713779813728 : True := trivial
theorem Mine.head.tw532055438628499158 : True := trivial
theorem Mine.head.tw6211381574409162282 : True := trivial
theorem Mine.head.tw7726276186604432346 : True := trivial
theorem Mine.head.tw6858743491597560450 : True := trivial
theorem Mine.head.tw6588589085864783938 : True := trivial
theorem Mine.head.tw14643560169476415855 : True := trivial
theorem Mine.head.tw9196398404247428943 : True := trivial
theorem Mine.head.tw16111715859725283846 : True := trivial
theorem Mine.head.tw380116879960591498 : True := trivial
theorem Mine.head.tw1832916270232011604 : True := trivial
theorem Mine.head.tw7148437315225170067 : True := trivial
theorem Mine.head.tw6968674436765558698 : True := trivial
theorem Mine.head.tw15204471325056678010 : True := trivial
theorem Mine.head.tw2036672627364489746 : True := trivial
theorem Mine.head.tw15894371620910866019 : True := trivial
theorem Mine.head.tw2066564036433440168 : True := trivial
theorem Mine.head.tw15796087645652482245 : True := trivial
theorem Mine.head.tw4576125674228380541 : True := trivial
theorem Mine.head.tw18277060748420158845 : True := trivial
theorem Mine.head.tw9162278640276766204 : True := trivial
theorem Mine.head.tw10270352894671993868 : True := trivial
theorem Mine.head.tw12695399030622205104 : True := trivial
theorem Mine.head.tw5723944856813171866 : True := trivial
theorem Mine.head.tw15091486752826498866 : True := trivial
theorem Mine.head.tw15785421084128741142 : True := trivial
theorem Mine.head.tw7253898381062576733 : True := trivial
theorem Mine.head.tw12328230846540189838 : True := trivial
theorem Mine.head.tw290710125855613696 : True := trivial
theorem Mine.head.tw17608190574486352970 : True := trivial
theorem Mine.head.tw1457377512435260902 : True := trivial
theorem Mine.head.tw8603420104599213669 : True := trivial
theorem Mine.head.tw12362083183470981646 : True := trivial
theorem Mine.head.tw4964814941381164201 : True := trivial
theorem Mine.head.tw406033732963241760 : True := trivial
theorem Mine.head.tw3264716943610762504 : True := trivial
theorem Mine.head.tw6369041477666114370 : True := trivial
theorem Mine.head.tw7417405269818204032 : True := trivial
theorem Mine.head.tw739537129135343663 : True := trivial
theorem Mine.head.tw17552560543380974038 : True := trivial
theorem Mine.head.tw13295082483830516422 : True := trivial
theorem Mine.head.tw16962450398199861240 : True := trivial
theorem Mine.head.tw9062998866958442273 : True := trivial
theorem Mine.head.tw210108674670695074 : True := trivial
theorem Mine.head.tw1906429620130506887 : True := trivial
theorem Mine.head.tw5111174896325423537 : True := trivial
theorem Mine.head.tw10195308064789442431 : True := trivial
theorem Mine.head.tw9354026244260953042 : True := trivial
theorem Mine.head.tw11063524718261073790 : True := trivial
theorem Mine.head.tw10021064610941686981 : True := trivial
theorem Mine.head.tw14736369268621997008 : True := trivial
theorem Mine.head.tw15052771764104931649 : True := trivial
theorem Mine.head.tw12478146576626367362 : True := trivial
theorem Mine.head.tw17539234302018041193 : True := trivial
theorem Mine.head.tw9197122456581196581 : True := trivial
theorem Mine.head.tw7040912843421888943 : True := trivial
theorem Mine.head.tw7181452741857391679 : True := trivial
theorem Mine.head.tw5651425540991249520 : True := trivial
theorem Mine.head.tw13932022402069264104 : True := trivial
theorem Mine.head.tw8382746154173761051 : True := trivial
theorem Mine.head.tw5019597260055213698 : True := trivial
theorem Mine.head.tw14412733801367601576 : True := trivial
theorem Mine.head.tw17173245716831642929 : True := trivial
theorem Mine.head.tw4433315090154635215 : True := trivial
theorem Mine.head.tw15305915472762889579 : True := trivial
theorem Mine.head.tw17844492200522320778 : True := trivial
theorem Mine.head.tw9625377726130185387 : True := trivial
theorem Mine.head.tw3501597964444990463 : True := trivial
theorem Mine.head.tw1172538174109094731 : True := trivial
theorem Mine.head.tw2581250870941146908 : True := trivial
theorem Mine.head.tw12074249297620881909 : True := trivial
theorem Mine.head.tw8550467674348477657 : True := trivial
theorem Mine.head.tw8541356943393881859 : True := trivial
theorem Mine.head.tw10128820837102578890 : True := trivial
theorem Mine.head.tw3089916443595474862 : True := trivial
theorem Mine.head.tw7734086686654790897 : True := trivial
theorem Mine.head.tw3615648651819825313 : True := trivial
theorem Mine.head.tw5438144065070405397 : True := trivial
theorem Mine.head.tw15037083628117588352 : True := trivial
theorem Mine.head.tw7994106446794305319 : True := trivial
theorem Mine.head.tw1909714482019496454 : True := trivial
theorem Mine.head.tw12095829319087573521 : True := trivial
theorem Mine.head.tw17784522201281872271 : True := trivial
theorem Mine.head.tw4691952243595246448 : True := trivial
theorem Mine.head.tw5996384718915585738 : True := trivial
theorem Mine.head.tw4415685298772064003 : True := trivial
theorem Mine.head.tw11255790879490906821 : True := trivial
theorem Mine.head.tw17113217626458354986 : True := trivial
theorem Mine.head.tw2976249973925969801 : True := trivial
theorem Mine.head.tw17700853532424174462 : True := trivial
theorem Mine.head.tw5870146547769353613 : True := trivial
theorem Mine.head.tw807142644699662319 : True := trivial
theorem Mine.head.tw14241001667801471300 : True := trivial
theorem Mine.head.tw17789423225533864492 : True := trivial
theorem Mine.head.tw5096742575497195690 : True := trivial
theorem Mine.head.tw2879759524354350568 : True := trivial
theorem Mine.head.tw9202431907968578930 : True := trivial
theorem Mine.head.tw6402496994288996404 : True := trivial
theorem Mine.head.tw377444749377882612 : True := trivial
theorem Mine.head.tw3715144110773694964 : True := trivial
theorem Mine.head.tw780477332936465449 : True := trivial
theorem Mine.head.tw16922147877168347812 : True := trivial
theorem Mine.head.tw12892129938458570674 : True := trivial
theorem Mine.head.tw12344544660321961925 : True := trivial
theorem Mine.head.tw2203363585012173787 : True := trivial
theorem Mine.head.tw14631306762972528136 : True := trivial
theorem Mine.head.tw2876011056497122456 : True := trivial
theorem Mine.head.tw16078238667976319046 : True := trivial
theorem Mine.head.tw5401097623525119610 : True := trivial
theorem Mine.head.tw6327039764776113722 : True := trivial
theorem Mine.head.tw7575806435727305068 : True := trivial
theorem Mine.head.tw5353729903917744248 : True := trivial
theorem Mine.head.tw14349913743752837093 : True := trivial
theorem Mine.head.tw6640010369347007910 : True := trivial
theorem Mine.head.tw8535708456716222715 : True := trivial
theorem Mine.head.tw15638870477510070732 : True := trivial
theorem Mine.head.tw2518057956044344595 : True := trivial
theorem Mine.head.tw10510622979536455646 : True := trivial
theorem Mine.head.tw11724780754615379514 : True := trivial
theorem Mine.head.tw12841863872788715202 : True := trivial
theorem Mine.head.tw9030979908501067730 : True := trivial
theorem Mine.head.tw1506576300011279404 : True := trivial
theorem Mine.head.tw7704315382344345624 : True := trivial
theorem Mine.head.tw16894197260953374720 : True := trivial
theorem Mine.head.tw1643771367246577777 : True := trivial
theorem Mine.head.tw6931653728971238233 : True := trivial
theorem Mine.head.tw11194998557105285118 : True := trivial
theorem Mine.head.tw7805308653706644653 : True := trivial
theorem Mine.head.tw2825341998796452840 : True := trivial
theorem Mine.head.tw15039987702171664376 : True := trivial
theorem Mine.head.tw10988817232074504935 : True := trivial
theorem Mine.head.tw12364624919760631829 : True := trivial
theorem Mine.head.tw12611893724949602041 : True := trivial
theorem Mine.head.tw6187941463952242252 : True := trivial
theorem Mine.head.tw10510183946089719056 : True := trivial
theorem Mine.head.tw12475708393154427166 : True := trivial
theorem Mine.head.tw15112835437128306455 : True := trivial
theorem Mine.head.tw2413573451304230806 : True := trivial
theorem Mine.head.tw11484358847640170188 : True := trivial
theorem Mine.head.tw14512941343882779238 : True := trivial
theorem Mine.head.tw14061139507663348314 : True := trivial
theorem Mine.head.tw6053349399257934933 : True := trivial
theorem Mine.head.tw17541063381433097499 : True := trivial
theorem Mine.head.tw13276723143375012678 : True := trivial
theorem Mine.head.tw17854896373637125580 : True := trivial
theorem Mine.head.tw9213911765573242809 : True := trivial
theorem Mine.head.tw13743032657059413451 : True := trivial
theorem Mine.head.tw11582096051123008839 : True := trivial
theorem Mine.head.tw4528443807372415038 : True := trivial
theorem Mine.head.tw5927865893512547691 : True := trivial
theorem Mine.head.tw13353151263460963528 : True := trivial
theorem Mine.head.tw8041981036286801607 : True := trivial
theorem Mine.head.tw11715283913529211631 : True := trivial
theorem Mine.head.tw8172283286065499403 : True := trivial
theorem Mine.head.tw16582591585412914238 : True := trivial
theorem Mine.head.tw15263674166054382079 : True := trivial
theorem Mine.head.tw10079960370226730655 : True := trivial
theorem Mine.head.tw7512725033676591148 : True := trivial
theorem Mine.head.tw1224924573807776437 : True := trivial
theorem Mine.head.tw4708111749353345164 : True := trivial
theorem Mine.head.tw17769730648868370976 : True := trivial
theorem Mine.head.tw2400818531096893172 : True := trivial
theorem Mine.head.tw9082462177598256812 : True := trivial
theorem Mine.head.tw573967197379146972 : True := trivial
theorem Mine.head.tw9646481798937456297 : True := trivial
theorem Mine.head.tw8497721794823489343 : True := trivial
theorem Mine.head.tw11862927689305589065 : True := trivial
theorem Mine.head.tw2625984366357065906 : True := trivial
theorem Mine.head.tw8097174177036852075 : True := trivial
theorem Mine.head.tw13988103294471073821 : True := trivial
theorem Mine.head.tw17008234436448823602 : True := trivial
theorem Mine.head.tw3688799982635324794 : True := trivial
theorem Mine.head.tw17464823870196871000 : True := trivial
theorem Mine.head.tw14744981736328886265 : True := trivial
theorem Mine.head.tw12043669396524033845 : True := trivial
theorem Mine.head.tw10748227973586771634 : True := trivial
theorem Mine.head.tw2661039320868540944 : True := trivial
theorem Mine.head.tw7705420606127192585 : True := trivial
theorem Mine.head.tw6307057079134178644 : True := trivial
theorem Mine.head.tw4273228799998304602 : True := trivial
theorem Mine.head.tw16917608666046251313 : True := trivial
theorem Mine.head.tw1689142752476645926 : True := trivial
theorem Mine.head.tw14882813523228863612 : True := trivial
theorem Mine.head.tw4543076655600059902 : True := trivial
theorem Mine.head.tw17972497016974392416 : True := trivial
theorem Mine.head.tw6857060684267632606 : True := trivial
theorem Mine.head.tw6153569298028143949 : True := trivial
theorem Mine.head.tw13180129090757240718 : True := trivial
theorem Mine.head.tw10521553517811329670 : True := trivial
theorem Mine.head.tw6880043348581005364 : True := trivial
theorem Mine.head.tw9325057278558614444 : True := trivial
theorem Mine.head.tw14149427978524627653 : True := trivial
theorem Mine.head.tw2393937325987436248 : True := trivial
theorem Mine.head.tw17212568112599259466 : True := trivial
theorem Mine.head.tw6237802210402583469 : True := trivial
theorem Mine.head.tw1937370526825066196 : True := trivial
theorem Mine.head.tw1852205218256702202 : True := trivial
theorem Mine.head.tw13397106695672350980 : True := trivial
theorem Mine.head.tw12024539317367501503 : True := trivial
theorem Mine.head.tw6587087628758450585 : True := trivial
theorem Mine.head.tw2994366008111725845 : True := trivial
theorem Mine.head.tw3500380475922496097 : True := trivial
theorem Mine.head.tw48543519692965452 : True := trivial
theorem Mine.head.tw3290047583113660281 : True := trivial
theorem Mine.head.tw999222835498014148 : True := trivial
theorem Mine.head.tw12147184966966947637 : True := trivial
theorem Mine.head.tw12428389735305899900 : True := trivial
theorem Mine.head.tw11402027661713467040 : True := trivial
theorem Mine.head.tw1858285994304674589 : True := trivial
theorem Mine.head.tw17725469503822016867 : True := trivial
theorem Mine.head.tw13137911371727378231 : True := trivial
theorem Mine.head.tw10005452208157733855 : True := trivial
theorem Mine.head.tw4932745802714450591 : True := trivial
theorem Mine.head.tw14943480678444902952 : True := trivial
theorem Mine.head.tw4387028780061031483 : True := trivial
theorem Mine.head.tw3185377453876500656 : True := trivial
theorem Mine.head.tw16278871845796110771 : True := trivial
theorem Mine.head.tw17197444120159719569 : True := trivial
theorem Mine.head.tw5788964047882338313 : True := trivial
theorem Mine.head.tw6426539377367359892 : True := trivial
theorem Mine.head.tw6751290297309308749 : True := trivial
theorem Mine.head.tw2201313380682377074 : True := trivial
theorem Mine.head.tw6053997905714604814 : True := trivial
theorem Mine.head.tw5638995163158488052 : True := trivial
theorem Mine.head.tw3160712208675142370 : True := trivial
theorem Mine.head.tw17826015225549371706 : True := trivial
theorem Mine.head.tw17337896393555973991 : True := trivial
theorem Mine.head.tw13605870324054321959 : True := trivial
theorem Mine.head.tw13488047542759136002 : True := trivial
theorem Mine.head.tw3512634313551410195 : True := trivial
theorem Mine.head.tw1748456618969930982 : True := trivial
theorem Mine.head.tw17175692086777646585 : True := trivial
theorem Mine.head.tw1642545813376747948 : True := trivial
theorem Mine.head.tw10936905620487946977 : True := trivial
theorem Mine.head.tw5506250874072839755 : True := trivial
theorem Mine.head.tw4381510469713062047 : True := trivial
theorem Mine.head.tw578259024812056932 : True := trivial
theorem Mine.head.tw14877080517539528568 : True := trivial
theorem Mine.head.tw11060938730435951684 : True := trivial
theorem Mine.head.tw15840312062823119879 : True := trivial
theorem Mine.head.tw17821319399108415887 : True := trivial
theorem Mine.head.tw3164961170700492040 : True := trivial
theorem Mine.head.tw851385035628625539 : True := trivial
theorem Mine.head.tw8408249889716310983 : True := trivial
theorem Mine.head.tw2336835814414123469 : True := trivial
theorem Mine.head.tw4154363929692500862 : True := trivial
theorem Mine.head.tw4419558321834357505 : True := trivial
theorem Mine.head.tw4357005996527412928 : True := trivial
theorem Mine.head.tw8402328212356670530 : True := trivial
theorem Mine.head.tw17836260108008149386 : True := trivial
theorem Mine.head.tw13508044439285423174 : True := trivial
theorem Mine.head.tw1291722185910714397 : True := trivial
theorem Mine.head.tw1463646239528298992 : True := trivial
theorem Mine.head.tw8812732774380208333 : True := trivial
theorem Mine.head.tw16984083398119652359 : True := trivial
theorem Mine.head.tw2298694737197419510 : True := trivial
theorem Mine.head.tw7616930195647119758 : True := trivial
theorem Mine.head.tw12032222614953749359 : True := trivial
theorem Mine.head.tw16172288393029767808 : True := trivial
theorem Mine.head.tw2237326684586592538 : True := trivial
theorem Mine.head.tw9353324838224930552 : True := trivial
theorem Mine.head.tw17508272824862286709 : True := trivial
theorem Mine.head.tw14234965402570480558 : True := trivial
theorem Mine.head.tw7906546307943345882 : True := trivial
theorem Mine.head.tw4975070653579243887 : True := trivial
theorem Mine.head.tw262713603470380999 : True := trivial
theorem Mine.head.tw1626232751844553403 : True := trivial
theorem Mine.head.tw14168692526580214153 : True := trivial
theorem Mine.head.tw17050696954950088759 : True := trivial
theorem Mine.head.tw6260244149815935644 : True := trivial
theorem Mine.head.tw6110071263904590700 : True := trivial
theorem Mine.head.tw5629256929840616583 : True := trivial
theorem Mine.head.tw14488727979953464203 : True := trivial
theorem Mine.head.tw8874674299285249911 : True := trivial
theorem Mine.head.tw11124748197601291601 : True := trivial
theorem Mine.head.tw3304075619188804072 : True := trivial
theorem Mine.head.tw2428695696106030784 : True := trivial
theorem Mine.head.tw5973763720392745831 : True := trivial
theorem Mine.head.tw4554283584077286953 : True := trivial
theorem Mine.head.tw2326617092838664518 : True := trivial
theorem Mine.head.tw9234455393454914656 : True := trivial
theorem Mine.head.tw14364637388885140079 : True := trivial
theorem Mine.head.tw17577399041416155939 : True := trivial
theorem Mine.head.tw1985537357303476512 : True := trivial
theorem Mine.head.tw315434073420411817 : True := trivial
theorem Mine.head.tw14527164170590304321 : True := trivial
theorem Mine.head.tw14909605222495392915 : True := trivial
theorem Mine.head.tw17243387458012846398 : True := trivial
theorem Mine.head.tw12205659690895024086 : True := trivial
theorem Mine.head.tw3928599903575798129 : True := trivial
theorem Mine.head.tw10987702880554017565 : True := trivial
theorem Mine.head.tw3821945547825155762 : True := trivial
theorem Mine.head.tw8216834362191484069 : True := trivial
theorem Mine.head.tw5479459121986351116 : True := trivial
theorem Mine.head.tw11988142204041823098 : True := trivial
theorem Mine.head.tw18332285231265401824 : True := trivial
theorem Mine.head.tw2764016085172604524 : True := trivial
theorem Mine.head.tw5797013207949663412 : True := trivial
theorem Mine.head.tw7523532297153676066 : True := trivial
theorem Mine.head.tw527386997569798941 : True := trivial
theorem Mine.head.tw9851633324533329740 : True := trivial
theorem Mine.head.tw10059252607514160932 : True := trivial
theorem Mine.head.tw12037728316022314418 : True := trivial
theorem Mine.head.tw15895748673760503845 : True := trivial
theorem Mine.head.tw3616486834168423931 : True := trivial
theorem Mine.head.tw10519217271611395807 : True := trivial
theorem Mine.head.tw9716329373054682134 : True := trivial
theorem Mine.head.tw18080951475816111786 : True := trivial
theorem Mine.head.tw10261356005730403935 : True := trivial
theorem Mine.head.tw15256841493749336786 : True := trivial
theorem Mine.head.tw10573961123116132518 : True := trivial
theorem Mine.head.tw18051680202136193954 : True := trivial
theorem Mine.head.tw2753283235347674219 : True := trivial
theorem Mine.head.tw11692735721529064706 : True := trivial
theorem Mine.head.tw11036952955299576287 : True := trivial
theorem Mine.head.tw2781723093108153277 : True := trivial
theorem Mine.head.tw4023466491090337370 : True := trivial
theorem Mine.head.tw2477160067735435323 : True := trivial
theorem Mine.head.tw1489404036187247834 : True := trivial
theorem Mine.head.tw12987040726578829979 : True := trivial
theorem Mine.head.tw11005904730967762025 : True := trivial
theorem Mine.head.tw6507506987150044280 : True := trivial
theorem Mine.head.tw6265338273532641288 : True := trivial
theorem Mine.head.tw12212823987433534256 : True := trivial
theorem Mine.head.tw1398043889541792783 : True := trivial
theorem Mine.head.tw10900948863051656163 : True := trivial
theorem Mine.head.tw7688317290187622652 : True := trivial
theorem Mine.head.tw14385403278947933607 : True := trivial
theorem Mine.head.tw13227620805987009915 : True := trivial
theorem Mine.head.tw4063747431996464497 : True := trivial
theorem Mine.head.tw11180365069992382532 : True := trivial
theorem Mine.head.tw17348764703882912863 : True := trivial
theorem Mine.head.tw6100774026682323163 : True := trivial
theorem Mine.head.tw7604411431414283762 : True := trivial
theorem Mine.head.tw15250023729529759990 : True := trivial
theorem Mine.head.tw4311042196063409733 : True := trivial
theorem Mine.head.tw3368030927266983236 : True := trivial
theorem Mine.head.tw17265401458761052179 : True := trivial
theorem Mine.head.tw17646911460466567920 : True := trivial
theorem Mine.head.tw6474009502463322548 : True := trivial
theorem Mine.head.tw3270352941656771521 : True := trivial
theorem Mine.head.tw459785493166062026 : True := trivial
theorem Mine.head.tw9827913525700040407 : True := trivial
theorem Mine.head.tw3771838870607276711 : True := trivial
theorem Mine.head.tw16065720564569863766 : True := trivial
theorem Mine.head.tw6388477656530123435 : True := trivial
theorem Mine.head.tw17142359554024780413 : True := trivial
theorem Mine.head.tw3690969761935527329 : True := trivial
theorem Mine.head.tw15564447279633807951 : True := trivial
theorem Mine.head.tw3214411596750702033 : True := trivial
theorem Mine.head.tw8282641214279539936 : True := trivial
theorem Mine.head.tw10875119458065257276 : True := trivial
theorem Mine.head.tw3083302935323014018 : True := trivial
theorem Mine.head.tw16576625349610184965 : True := trivial
theorem Mine.head.tw1728724042893426364 : True := trivial
theorem Mine.head.tw5865467396996320769 : True := trivial
theorem Mine.head.tw3749026756887285471 : True := trivial
theorem Mine.head.tw16640130746408290383 : True := trivial
theorem Mine.head.tw9553506758532729402 : True := trivial
theorem Mine.head.tw10898857373019930491 : True := trivial
theorem Mine.head.tw14982685227137828758 : True := trivial
theorem Mine.head.tw1687793838685487538 : True := trivial
theorem Mine.head.tw11925700103697007601 : True := trivial
theorem Mine.head.tw10736139440505347576 : True := trivial
theorem Mine.head.tw3088210815446039105 : True := trivial
theorem Mine.head.tw17854890406432584798 : True := trivial
theorem Mine.head.tw7096138990903361605 : True := trivial
theorem Mine.head.tw16874305072444578374 : True := trivial
theorem Mine.head.tw15253147559959296200 : True := trivial
theorem Mine.head.tw11923155195566972133 : True := trivial
theorem Mine.head.tw10865165270600546614 : True := trivial
theorem Mine.head.tw5874639182527098836 : True := trivial
theorem Mine.head.tw5274623360512300857 : True := trivial
theorem Mine.head.tw6379358179555706155 : True := trivial
theorem Mine.head.tw2249667046024356820 : True := trivial
theorem Mine.head.tw3581614266968435656 : True := trivial
theorem Mine.head.tw7901268698958117014 : True := trivial
theorem Mine.head.tw5140934472235413692 : True := trivial
theorem Mine.head.tw5012331772839332122 : True := trivial
theorem Mine.head.tw3219859135671012420 : True := trivial
theorem Mine.head.tw14969395210118534408 : True := trivial
theorem Mine.head.tw11857307637417881527 : True := trivial
theorem Mine.head.tw13917482298092908234 : True := trivial
theorem Mine.head.tw6298033893332097587 : True := trivial
theorem Mine.head.tw5332922473330289647 : True := trivial
theorem Mine.head.tw3991279037241028524 : True := trivial
theorem Mine.head.tw12741294794224977040 : True := trivial
theorem Mine.head.tw11485113708198979986 : True := trivial
theorem Mine.head.tw300626226527484142 : True := trivial
theorem Mine.head.tw2728595385866086531 : True := trivial
theorem Mine.head.tw6489421142724028100 : True := trivial
theorem Mine.head.tw9407594320385231609 : True := trivial
theorem Mine.head.tw10170068340998493759 : True := trivial
theorem Mine.head.tw9802980913210911633 : True := trivial
theorem Mine.head.tw7624658959004494543 : True := trivial
theorem Mine.head.tw466721876749952763 : True := trivial
theorem Mine.head.tw14432977821161478157 : True := trivial
theorem Mine.head.tw12398312691204496596 : True := trivial
theorem Mine.head.tw11484797826999851062 : True := trivial
theorem Mine.head.tw7789450098604059249 : True := trivial
theorem Mine.head.tw4764554697811233 : True := trivial
theorem Mine.head.tw11544532188706048022 : True := trivial
theorem Mine.head.tw7748693106545578708 : True := trivial
theorem Mine.head.tw10366927770000222440 : True := trivial
theorem Mine.head.tw18433677622606106133 : True := trivial
theorem Mine.head.tw10389290468125465742 : True := trivial
theorem Mine.head.tw4017301010375394790 : True := trivial
theorem Mine.head.tw12330954535739239725 : True := trivial
theorem Mine.head.tw12865059321931465230 : True := trivial
theorem Mine.head.tw9171846695823722306 : True := trivial
theorem Mine.head.tw10746725682022337571 : True := trivial
theorem Mine.head.tw3127049524044150859 : True := trivial
theorem Mine.head.tw6212921109956642855 : True := trivial
theorem Mine.head.tw8219514093101927965 : True := trivial
theorem Mine.head.tw4160124254940468481 : True := trivial
theorem Mine.head.tw13504307299585405616 : True := trivial
theorem Mine.head.tw7928285938522686346 : True := trivial
theorem Mine.head.tw18123143868385100064 : True := trivial
theorem Mine.head.tw10242447542790323104 : True := trivial
theorem Mine.head.tw9280153536138602973 : True := trivial
theorem Mine.head.tw7833285031277912329 : True := trivial
theorem Mine.head.tw6121141971511671821 : True := trivial
theorem Mine.head.tw17698105195316432488 : True := trivial
theorem Mine.head.tw5737951250597237232 : True := trivial
theorem Mine.head.tw9934530448476252742 : True := trivial
theorem Mine.head.tw12472887615940459650 : True := trivial
theorem Mine.head.tw4746297304354101679 : True := trivial
theorem Mine.head.tw14637134836413734856 : True := trivial
theorem Mine.head.tw18165431152234640623 : True := trivial
theorem Mine.head.tw1995287165650055613 : True := trivial
theorem Mine.head.tw8715499118904818895 : True := trivial
theorem Mine.head.tw1929634836878124385 : True := trivial
theorem Mine.head.tw13600378441667735501 : True := trivial
theorem Mine.head.tw11132487480926684733 : True := trivial
theorem Mine.head.tw5205872252415025574 : True := trivial
theorem Mine.head.tw5792407227767346561 : True := trivial
theorem Mine.head.tw7313386461004707312 : True := trivial
theorem Mine.head.tw14127983276867164173 : True := trivial
theorem Mine.head.tw9214367901419015226 : True := trivial
theorem Mine.head.tw4277651752456152607 : True := trivial
theorem Mine.head.tw5331137831679937033 : True := trivial
theorem Mine.head.tw2694075680205673411 : True := trivial
theorem Mine.head.tw14195316510222423288 : True := trivial
theorem Mine.head.tw1939405473400901271 : True := trivial
theorem Mine.head.tw13198292447841614426 : True := trivial
theorem Mine.head.tw5944575059761466720 : True := trivial
theorem Mine.head.tw13896987355042952010 : True := trivial
theorem Mine.head.tw1620002657737552111 : True := trivial
theorem Mine.head.tw17905491414393134947 : True := trivial
theorem Mine.head.tw14631705268626504575 : True := trivial
theorem Mine.head.tw8758324158161630591 : True := trivial
theorem Mine.head.tw2545145822199252752 : True := trivial
theorem Mine.head.tw10786079294511566085 : True := trivial
theorem Mine.head.tw17262968490309938674 : True := trivial
theorem Mine.head.tw7179252675378151715 : True := trivial
theorem Mine.head.tw1894759731626308040 : True := trivial
theorem Mine.head.tw17371765431496345816 : True := trivial
theorem Mine.head.tw5363715690607933 : True := trivial
theorem Mine.head.tw11426403942048686318 : True := trivial
theorem Mine.head.tw13689084217373910675 : True := trivial
theorem Mine.head.tw5346772772824661884 : True := trivial
theorem Mine.head.tw4972248218790579157 : True := trivial
theorem Mine.head.tw8299393411229908732 : True := trivial
theorem Mine.head.tw9074772780463953568 : True := trivial
theorem Mine.head.tw1522823579158628613 : True := trivial
theorem Mine.head.tw16441004959143088680 : True := trivial
theorem Mine.head.tw1971652810694446911 : True := trivial
theorem Mine.head.tw18364922244981856966 : True := trivial
theorem Mine.head.tw14393718171448925343 : True := trivial
theorem Mine.head.tw7404141018258913797 : True := trivial
theorem Mine.head.tw14112051064653734678 : True := trivial
theorem Mine.head.tw10872037306656784433 : True := trivial
theorem Mine.head.tw17889261914703972767 : True := trivial
theorem Mine.head.tw2355103038987944067 : True := trivial
theorem Mine.head.tw18014224886719972007 : True := trivial
theorem Mine.head.tw6518409114910312394 : True := trivial
theorem Mine.head.tw3212073173673764245 : True := trivial
theorem Mine.head.tw14969385696402013904 : True := trivial
theorem Mine.head.tw9777900189565919194 : True := trivial
theorem Mine.head.tw11308087075614649832 : True := trivial
theorem Mine.head.tw4377270945021899497 : True := trivial
theorem Mine.head.tw15468718075485040107 : True := trivial
theorem Mine.head.tw16800043278716471037 : True := trivial
theorem Mine.head.tw7732209734871044160 : True := trivial
theorem Mine.head.tw10840385229135970747 : True := trivial
theorem Mine.head.tw8264559056461403633 : True := trivial
theorem Mine.head.tw11052631288978436188 : True := trivial
theorem Mine.head.tw15845715064670954444 : True := trivial
theorem Mine.head.tw17188972718952451159 : True := trivial
theorem Mine.head.tw15841401105113185080 : True := trivial
theorem Mine.head.tw6207834228037699737 : True := trivial
theorem Mine.head.tw9515422150858430662 : True := trivial
theorem Mine.head.tw11015231008668112799 : True := trivial
theorem Mine.head.tw4945251732147069371 : True := trivial
theorem Mine.head.tw2857895335220236748 : True := trivial
theorem Mine.head.tw1992862871153497056 : True := trivial
theorem Mine.head.tw2441957057352720082 : True := trivial
theorem Mine.head.tw10668533816033670360 : True := trivial
theorem Mine.head.tw3547030090768783262 : True := trivial
theorem Mine.head.tw6763335052953634553 : True := trivial
theorem Mine.head.tw3665506230870052707 : True := trivial
theorem Mine.head.tw1319983325249436295 : True := trivial
theorem Mine.head.tw1389810093214676884 : True := trivial
theorem Mine.head.tw6891450509433485068 : True := trivial
theorem Mine.head.tw15253846138512369154 : True := trivial
theorem Mine.head.tw8534208459206503383 : True := trivial
theorem Mine.head.tw16128420640991077102 : True := trivial
theorem Mine.head.tw17002534310236347988 : True := trivial
theorem Mine.head.tw8866670633112419022 : True := trivial
theorem Mine.head.tw17525636777796739105 : True := trivial
theorem Mine.head.tw3973953319845086491 : True := trivial
theorem Mine.head.tw15898109809663626304 : True := trivial
theorem Mine.head.tw16014373381606645092 : True := trivial
theorem Mine.head.tw6684978435548883818 : True := trivial
theorem Mine.head.tw13955511503576765797 : True := trivial
theorem Mine.head.tw3558511644146900344 : True := trivial
theorem Mine.head.tw17275705279478898512 : True := trivial
theorem Mine.head.tw11597336398036118778 : True := trivial
theorem Mine.head.tw9325123708862168440 : True := trivial
theorem Mine.head.tw12581593161143036515 : True := trivial
theorem Mine.head.tw14586503196746008701 : True := trivial
theorem Mine.head.tw16172356507618199906 : True := trivial
theorem Mine.head.tw7599496313472250701 : True := trivial
theorem Mine.head.tw8203590644346543747 : True := trivial
theorem Mine.head.tw15064752311394979489 : True := trivial
theorem Mine.head.tw6604829842348296887 : True := trivial
theorem Mine.head.tw6202090305015876224 : True := trivial
theorem Mine.head.tw2491421050496283774 : True := trivial
theorem Mine.head.tw9592777112578238593 : True := trivial
theorem Mine.head.tw12763952150808568291 : True := trivial
theorem Mine.head.tw14946772226789246504 : True := trivial
theorem Mine.head.tw6536181036136497285 : True := trivial
theorem Mine.head.tw11821203517306503961 : True := trivial
theorem Mine.head.tw10258521583956687137 : True := trivial
theorem Mine.head.tw9702098958229961203 : True := trivial
theorem Mine.head.tw5764021196749891206 : True := trivial
theorem Mine.head.tw4009957668330374740 : True := trivial
theorem Mine.head.tw497287684792784471 : True := trivial
theorem Mine.head.tw16782820856776367440 : True := trivial
theorem Mine.head.tw940147379719373870 : True := trivial
theorem Mine.head.tw10333954764705244698 : True := trivial
theorem Mine.head.tw11613311375368785083 : True := trivial
theorem Mine.head.tw11433049526266426101 : True := trivial
theorem Mine.head.tw15656768269340197940 : True := trivial
theorem Mine.head.tw14679116673082234219 : True := trivial
theorem Mine.head.tw13379354915994877463 : True := trivial
theorem Mine.head.tw17894702793023417833 : True := trivial
theorem Mine.head.tw16572314662081343053 : True := trivial
theorem Mine.head.tw8988664977312594650 : True := trivial
theorem Mine.head.tw12339793173418651155 : True := trivial
theorem Mine.head.tw3368474557548986910 : True := trivial
theorem Mine.head.tw17346037399652195860 : True := trivial
theorem Mine.head.tw2734426227301281492 : True := trivial
theorem Mine.head.tw4857777746444614323 : True := trivial
theorem Mine.head.tw3980653432952411973 : True := trivial
theorem Mine.head.tw11338825007792423415 : True := trivial
theorem Mine.head.tw15895551434495452948 : True := trivial
theorem Mine.head.tw2973143901146584636 : True := trivial
theorem Mine.head.tw12324890628731678277 : True := trivial
theorem Mine.head.tw8185714761375850791 : True := trivial
theorem Mine.head.tw1329139514890002538 : True := trivial
theorem Mine.head.tw18177665153149118353 : True := trivial
theorem Mine.head.tw17014734716931888790 : True := trivial
theorem Mine.head.tw4607607821588926596 : True := trivial
theorem Mine.head.tw9083612298779875492 : True := trivial
theorem Mine.head.tw8546719886708726068 : True := trivial
theorem Mine.head.tw8182465387277545410 : True := trivial
theorem Mine.head.tw930087139818521243 : True := trivial
theorem Mine.head.tw6174258528820157971 : True := trivial
theorem Mine.head.tw8796753266530204203 : True := trivial
theorem Mine.head.tw3333069708870698940 : True := trivial
theorem Mine.head.tw12851702773856589430 : True := trivial
theorem Mine.head.tw1062042127530464391 : True := trivial
theorem Mine.head.tw5906749814970224870 : True := trivial
theorem Mine.head.tw3547240966391284428 : True := trivial
theorem Mine.head.tw10431609616501453582 : True := trivial
theorem Mine.head.tw17093656651364094606 : True := trivial
theorem Mine.head.tw7063466231298070661 : True := trivial
theorem Mine.head.tw17007033763367706731 : True := trivial
theorem Mine.head.tw15148963937461231693 : True := trivial
theorem Mine.head.tw14643959010103036307 : True := trivial
theorem Mine.head.tw3321875119742208626 : True := trivial
theorem Mine.head.tw6232644224018631296 : True := trivial
theorem Mine.head.tw7287109101882759415 : True := trivial
theorem Mine.head.tw16847831306532103052 : True := trivial
theorem Mine.head.tw14843749296085226474 : True := trivial
theorem Mine.head.tw14768688571040804171 : True := trivial
theorem Mine.head.tw14205479233844494046 : True := trivial
theorem Mine.head.tw6871339299614917876 : True := trivial
theorem Mine.head.tw2588942769649879372 : True := trivial
theorem Mine.head.tw2340069552987342377 : True := trivial
theorem Mine.head.tw2705560170217086799 : True := trivial
theorem Mine.head.tw12120646240234225243 : True := trivial
theorem Mine.head.tw7680146299302783591 : True := trivial
theorem Mine.head.tw1588943658860677225 : True := trivial
theorem Mine.head.tw17958272820484234708 : True := trivial
theorem Mine.head.tw8997269238129315039 : True := trivial
theorem Mine.head.tw8476099583838051002 : True := trivial
theorem Mine.head.tw7277520189549225825 : True := trivial
theorem Mine.head.tw13986843968525588388 : True := trivial
theorem Mine.head.tw10010264046613662565 : True := trivial
theorem Mine.head.tw13846591363081406657 : True := trivial
theorem Mine.head.tw8912104118211102971 : True := trivial
theorem Mine.head.tw5015311536963163689 : True := trivial
theorem Mine.head.tw11704837465938651953 : True := trivial
theorem Mine.head.tw8337448324364255386 : True := trivial
theorem Mine.head.tw17190349231170142043 : True := trivial
theorem Mine.head.tw13801937863458859944 : True := trivial
theorem Mine.head.tw12949380547846470161 : True := trivial
theorem Mine.head.tw17362218986543327160 : True := trivial
theorem Mine.head.tw15410735652082386980 : True := trivial
theorem Mine.head.tw17411354535832351560 : True := trivial
theorem Mine.head.tw1315816938146588887 : True := trivial
theorem Mine.head.tw6737735255597943219 : True := trivial
theorem Mine.head.tw5987550445186205895 : True := trivial
theorem Mine.head.tw11434997419882176723 : True := trivial
theorem Mine.head.tw16031315777459398524 : True := trivial
theorem Mine.head.tw3103639331685909893 : True := trivial
theorem Mine.head.tw44622916816846810 : True := trivial
theorem Mine.head.tw1673358830478937286 : True := trivial
theorem Mine.head.tw5593727005144783397 : True := trivial
theorem Mine.head.tw9101448428047585222 : True := trivial
theorem Mine.head.tw2529948359932261575 : True := trivial
theorem Mine.head.tw18100283295969611417 : True := trivial
theorem Mine.head.tw9743709737119245314 : True := trivial
theorem Mine.head.tw14565420633037775528 : True := trivial
theorem Mine.head.tw7992697801930647134 : True := trivial
theorem Mine.head.tw3880867118405822719 : True := trivial
theorem Mine.head.tw7119846925741900413 : True := trivial
theorem Mine.head.tw9978949632667528635 : True := trivial
theorem Mine.head.tw15506723302920939300 : True := trivial
theorem Mine.head.tw17015032458148788900 : True := trivial
theorem Mine.head.tw5061997093462229610 : True := trivial
theorem Mine.head.tw2525317073905713282 : True := trivial
theorem Mine.head.tw1503407388533364548 : True := trivial
theorem Mine.head.tw13199516396595161752 : True := trivial
theorem Mine.head.tw6870361546347238192 : True := trivial
theorem Mine.head.tw13213268828098156179 : True := trivial
theorem Mine.head.tw11081218982966106116 : True := trivial
theorem Mine.head.tw13002585709282622103 : True := trivial
theorem Mine.head.tw13704148757180265829 : True := trivial
theorem Mine.head.tw1970811146720035896 : True := trivial
theorem Mine.head.tw820421773197932041 : True := trivial
theorem Mine.head.tw13478637309914159250 : True := trivial
theorem Mine.head.tw12604462930493870256 : True := trivial
theorem Mine.head.tw9495540839478616804 : True := trivial
theorem Mine.head.tw13585267454733459922 : True := trivial
theorem Mine.head.tw3405375401864073989 : True := trivial
theorem Mine.head.tw9997865855256709051 : True := trivial
theorem Mine.head.tw9103479521544129834 : True := trivial
theorem Mine.head.tw14139617269561922093 : True := trivial
theorem Mine.head.tw15967466079928408925 : True := trivial
theorem Mine.head.tw8409189969818401543 : True := trivial
theorem Mine.head.tw4163069186122357367 : True := trivial
theorem Mine.head.tw5487235932777146282 : True := trivial
theorem Mine.head.tw9658139154387788515 : True := trivial
theorem Mine.head.tw3496171461512900480 : True := trivial
theorem Mine.head.tw5080737588221150853 : True := trivial
theorem Mine.head.tw4407807290196491609 : True := trivial
theorem Mine.head.tw17238610979035211840 : True := trivial
theorem Mine.head.tw14615432700455777464 : True := trivial
theorem Mine.head.tw15510365090734361527 : True := trivial
theorem Mine.head.tw14417885227837004991 : True := trivial
set_option Elab.async true
theorem Mine.head : PySem.Challenge.rw_sa0165_01.Holds := by
  w_on; o_law; k_head; (case hw => w_witness2)
  k_go0
  rename_i w s0 s1 mg mb G Y fa o pm cd doc ho hcd hg X V T B TE TW scr hs hlay0 hL1 hr1 hl2 l5 l4 x vs l1 hL ra w1 r0 hI hr hc hc' hD h1 tk1 oc hoc X0 X' T' K' F' N' l0
  refine Mine.law_walk ⟨?_, by kernel_rfl, by kernel_rfl, by kernel_rfl, by kernel_rfl⟩ (by kernel_rfl) (fun h X => codeHd_of_K X (by kernel_rfl)) Mine.hb_all X' (Mine.top0_of T (by kernel_rfl) T') T'.builtins K' F' (by kernel_rfl) lifted hI (Mine.len63 hc) N' (hoc.trans (by kernel_rfl)) l0 ?_
  · simp only [Mine.myFns, Mine.AllFn, and_true]
    repeat' apply And.intro
    all_goals (unfold Mine.FnEq; kernel_rfl)
  · exact fun h' tk' m' FF gr => ⟨⟨.inl ⟨_, _, [], rfl, fun _ => rfl, .bool true, by kernel_rfl, fun _ => ⟨List.nodup_nil, fun _ h => nomatch h⟩⟩, FF.keep, rfl, hg⟩, ⟨gr, trivial⟩⟩
set_option Elab.async false
theorem PySem.Challenge.cw_sa0165_01_holds : PySem.Challenge.rw_sa0165_01.Holds :=
  Mine.head
