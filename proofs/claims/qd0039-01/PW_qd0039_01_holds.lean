import PyProof.Rows.All
import Wide.All
import OpenK.AllK
import Wide.FinOn
import KE.BitLaws
import PySem.Challenge.RW_qd0039_01
/-! The proof of qd0039-01. An evaluator of the program's own small language over an abstract heap, proved sound against the model (first part);
the law, run in that evaluator, answers True for every script (second part); both joined with the head (last part). -/
set_option Elab.async false
set_option linter.unusedVariables false
set_option linter.unusedSimpArgs false
set_option linter.unusedSectionVars false
section
set_option maxRecDepth 100000
set_option maxHeartbeats 0
namespace Mine
open PySem PySem.W PyProof.Rows
/-! the law is well said: looked at in pieces, so that no one look is long -/
noncomputable abbrev pwL : Program := PySem.Challenge.pw_qd0039_01
theorem and_turn {a b c : Bool} (h : (a && (b && c)) = true) : ((a && b) && c) = true := by cases a <;> cases b <;> cases c <;> first | rfl | cases h
theorem road_of {c d : Look} {l : List Stmt} (e : c = d) (h : Fast.tw8326940854005059898 d l = true) : Fast.tw8326940854005059898 c l = true := by rw [e]; exact h
theorem said_names : Fast.tw8377067652309620493 pwL = true := by kernel_rfl
theorem said_road : Fast.tw8326940854005059898 { strict := false, foot := none, bare := [] } pwL.main.body = true := by kernel_rfl
theorem said_meet : Fast.tw17119622794617984870 pwL pwL.main.body (fun _ n => Fast.tw17868728402115742887 n) = true := by kernel_rfl
theorem said_vars : Fast.tw13343964577679436407 pwL pwL.main.body { cps := { toList := [118, 97, 114, 115] } } = false := by kernel_rfl
theorem said_dir : Fast.tw13343964577679436407 pwL pwL.main.body { cps := { toList := [100, 105, 114] } } = false := by kernel_rfl
theorem said_locals : Fast.tw13343964577679436407 pwL pwL.main.body { cps := { toList := [108, 111, 99, 97, 108, 115] } } = false := by kernel_rfl
theorem filter_none {α : Type} {f : α → Bool} {a b c : α} (ha : f a = false) (hb : f b = false) (hc : f c = false) : R.filterR f [a, b, c] = [] := by
  rw [← R.filterR_eq, List.filter_cons_of_neg (by rw [ha]; decide), List.filter_cons_of_neg (by rw [hb]; decide), List.filter_cons_of_neg (by rw [hc]; decide)]; rfl
theorem look_plain {a : Bool} {l : List Str} (ha : a = true) (hl : l = []) : ({ strict := !a, foot := none, bare := l } : Look) = { strict := false, foot := none, bare := [] } := by rw [ha, hl]; rfl
theorem said_row : Fast.tw17960256430627541270 (Fast.tw2368527892694137696 Challenge.rw_qd0039_01) = true := by
  delta Fast.tw17960256430627541270 Fast.tw2436336058641802641 Fast.tw12908688711261696721
  repeat' (with_reducible refine and_turn ?_)
  with_reducible refine look_both ?_ (look_both ?_ (look_both ?_ (look_both ?_ (look_both (road_of (look_plain ?_ (filter_none ?_ ?_ ?_)) ?_) (look_both ?_ ?_)))))
  · kernel_rfl
  · kernel_rfl
  · exact said_names
  · kernel_rfl
  · kernel_rfl
  · exact said_vars
  · exact said_dir
  · exact said_locals
  · exact said_road
  · exact said_meet
  · kernel_rfl
theorem said : OpenLaw.wellSaid PySem.Challenge.rw_qd0039_01 = true := by
  rw [Fast.te9446332074065402090]
  delta Fast.tw9446332074065402090
  repeat' (with_reducible refine and_turn ?_)
  with_reducible refine look_both said_row ?_
  kernel_rfl
end Mine
end
section
/-! my own compact language and its evaluator -/
set_option genSizeOfSpec false
namespace Mine
open PySem

inductive V where
  | none
  | bool (b : Bool)
  | int (i : Int)
  | str (k : Nat)
  | tup (l : List V)
  | flist (l : List V)
  | fdct (l : List Int)
  | rng (n : Nat)
  | ref (a : Nat)

inductive Cell where
  | lst (l : List V)
  | dct (l : List (V × V))
  | inst (c : Nat) (fs : List (Nat × V))

set_option genInjectivity false
set_option genSizeOf false
inductive BOp where | add | sub | mul | mod | fdiv | band | shl | shr | pow
inductive COp where | eq | ne | lt | le | gt | ge | is | isnot | in_ | notin

mutual
inductive E where
  | none | bool (b : Bool) | int (i : Int) | str (k : Nat)
  | loc (x : Nat) | glb (x : Nat)
  | bin (op : BOp) (a b : E)
  | neg (a : E) | not (a : E)
  | and (es : Es) | or (es : Es)
  | cmp (op : COp) (a b : E)
  | cmp2 (o1 o2 : COp) (a b c : E)
  | call (f : Nat) (es : Es)
  | new (c : Nat) (es : Es)
  | len (e : E) | tuple (e : E) | isbool (e : E) | max (a b : E) | min (a b : E) | range (e : E)
  | append (o e : E) | pop (o : E) | get (o k : E) | get2 (o k d : E)
  | meth (o : E) (m : Nat) (es : Es)
  | attr (o : E) (f : Nat)
  | sub (o i : E)
  | upto (o e : E) | from_ (o e : E)
  | tup (es : Es) | lst (es : Es) | dct (kvs : Es)
  | comp (x : Nat) (it : E) (elt : E)
  | compIf (x : Nat) (it : E) (cond elt : E)
inductive Es where
  | nil | cons (e : E) (es : Es)
end

mutual
inductive S where
  | asg (x : Nat) (e : E)
  | asg2 (x y : Nat) (e : E)
  | setattr (o : E) (f : Nat) (e : E)
  | setitem (o i e : E)
  | aug (x : Nat) (op : BOp) (e : E)
  | augattr (o : E) (f : Nat) (op : BOp) (e : E)
  | augitem (o i : E) (op : BOp) (e : E)
  | del (o i : E)
  | ite (c : E) (t e : Ss)
  | while (c : E) (b : Ss)
  | for_ (x : Nat) (it : E) (b : Ss)
  | for2 (x y : Nat) (it : E) (b : Ss)
  | ret (e : E)
  | expr (e : E)
  | raise
inductive Ss where
  | nil | cons (s : S) (ss : Ss)
end

noncomputable abbrev AH := List Cell
noncomputable abbrev Loc := List (Nat × V)
/-- what must hold for a run to end as Q says -/
noncomputable abbrev M (α : Type) := (α → AH → Prop) → AH → Prop

inductive Flow where
  | next (ρ : Loc)
  | ret (v : V)
set_option genInjectivity true
set_option genSizeOf true
noncomputable def wp {α : Type} (m : M α) (Q : α → AH → Prop) (H : AH) : Prop := m Q H
noncomputable def oQ {α : Type} : Option α → (α → AH → Prop) → AH → Prop
  | some a, Q, H => Q a H
  | none, _, _ => False
/-- a step of greater height than oQ: the kernel unfolds it first -/
noncomputable def up (p : Prop) : Prop := (fun (_ : Option V → (V → AH → Prop) → AH → Prop) => p) oQ
noncomputable def bQ (b : Bool) (P : Prop) : Prop := match b with
  | true => up P
  | false => False
noncomputable def ifK (b : Bool) (P R : Prop) : Prop := match b with
  | true => up P
  | false => up R
noncomputable def optP {α : Type} (o : Option α) (f : α → Prop) (d : Prop) : Prop := match o with
  | some x => up (f x)
  | none => up d
noncomputable def onInt (v : V) (f : Int → Prop) : Prop := match v with
  | .int i => up (f i)
  | _ => False
noncomputable def onBool (v : V) (f : Bool → Prop) : Prop := match v with
  | .bool b => up (f b)
  | _ => False
noncomputable def onPair (v : V) (f : V → V → Prop) : Prop := match v with
  | .tup [a, b] => up (f a b)
  | _ => False
noncomputable def onTup (v : V) (f : List V → Prop) : Prop := match v with
  | .tup l => up (f l)
  | _ => False
noncomputable def atL (c : Option Cell) (f : List V → Prop) : Prop := match c with
  | some (.lst l) => up (f l)
  | _ => False
noncomputable def atD (c : Option Cell) (f : List (V × V) → Prop) : Prop := match c with
  | some (.dct l) => up (f l)
  | _ => False
noncomputable def atI (c : Option Cell) (f : Nat → List (Nat × V) → Prop) : Prop := match c with
  | some (.inst k fs) => up (f k fs)
  | _ => False
noncomputable def onRef (v : V) (f : Nat → Prop) : Prop := match v with
  | .ref a => up (f a)
  | _ => False

noncomputable def look {α : Type} : List (Nat × α) → Nat → Option α
  | [], _ => Option.none
  | (k, v) :: r, x => match Nat.beq k x with
    | true => some v
    | false => look r x
noncomputable def put {α : Type} : List (Nat × α) → Nat → α → List (Nat × α)
  | [], x, v => [(x, v)]
  | (k, u) :: r, x, v => match Nat.beq k x with
    | true => (x, v) :: r
    | false => (k, u) :: put r x v

-- a hashable key: an int, a str, a tuple of such
mutual
noncomputable def keyEq : V → V → Bool
  | .int a, .int b => decide (a = b)
  | .str a, .str b => Nat.beq a b
  | .tup a, .tup b => keysEq a b
  | _, _ => false
noncomputable def keysEq : List V → List V → Bool
  | [], [] => true
  | a :: l, b :: r => keyEq a b && keysEq l r
  | _, _ => false
end
/-- the kind of a key: 1 an int, 2 a str, 3 a tuple -/
noncomputable def kindOf : V → Nat
  | .int _ => 1
  | .str _ => 2
  | .tup _ => 3
  | _ => 0
mutual
noncomputable def isKey : V → Bool
  | .int _ => true
  | .str _ => true
  | .tup l => areKeys l
  | _ => false
noncomputable def areKeys : List V → Bool
  | [] => true
  | a :: l => isKey a && areKeys l
end
/-- a tuple key: ints, and tuples of ints -/
noncomputable def tiInts : List V → Option (List Int)
  | [] => some []
  | .int i :: r => match tiInts r with
    | some l => some (i :: l)
    | Option.none => Option.none
  | _ :: _ => Option.none
noncomputable def tiOf : List V → Option (List (Sum Int (List Int)))
  | [] => some []
  | .int i :: r => match tiOf r with
    | some l => some (.inl i :: l)
    | Option.none => Option.none
  | .tup t :: r => match tiInts t, tiOf r with
    | some js, some l => some (.inr js :: l)
    | _, _ => Option.none
  | _ :: _ => Option.none
noncomputable def setKey : V → Bool
  | .int _ => true
  | .tup l => (tiOf l).isSome
  | _ => false
noncomputable def flatKey : V → Bool
  | .int _ => true
  | .str _ => true
  | _ => false
/-- the key may be asked of a dict of these entries -/
noncomputable def keyOk (l : List (V × V)) (k : V) : Bool := isKey k && l.all fun p => Nat.beq (kindOf p.1) (kindOf k)
noncomputable def dfind : List (V × V) → V → Option V
  | [], _ => Option.none
  | (k, v) :: r, x => match keyEq k x with
    | true => some v
    | false => dfind r x
noncomputable def dput : List (V × V) → V → V → List (V × V)
  | [], x, v => [(x, v)]
  | (k, u) :: r, x, v => match keyEq k x with
    | true => (k, v) :: r
    | false => (k, u) :: dput r x v
noncomputable def ddel : List (V × V) → V → List (V × V)
  | [], _ => []
  | (k, u) :: r, x => match keyEq k x with
    | true => r
    | false => (k, u) :: ddel r x

noncomputable def mulOk (a b : Int) : Bool := decide (-(2 ^ 63) < a) && decide (a < 2 ^ 63)
noncomputable def lineOk (n : Nat) : Bool := Nat.ble n 1000000
noncomputable def small (i : Int) : Bool := decide (-(2 ^ 63) ≤ i) && decide (i < 2 ^ 63)

-- a pure value (no address in it) as a datum
mutual
noncomputable def toP : V → PyData
  | .none => .none
  | .bool b => .bool b
  | .int i => .int i
  | .tup l => .tuple (toPs l)
  | _ => .none
noncomputable def toPs : List V → List PyData
  | [] => []
  | a :: l => toP a :: toPs l
end
mutual
noncomputable def isPure : V → Bool
  | .none => true
  | .bool _ => true
  | .int _ => true
  | .tup l => arePure l
  | _ => false
noncomputable def arePure : List V → Bool
  | [] => true
  | a :: l => isPure a && arePure l
end
/-- the entries of a dict of ints to ints -/
noncomputable def intPairs : List (V × V) → Option (List (Int × Int))
  | [] => some []
  | (.int a, .int b) :: r => match intPairs r with
    | some l => some ((a, b) :: l)
    | Option.none => Option.none
  | _ :: _ => Option.none
noncomputable def allInts : List V → Option (List Int)
  | [] => some []
  | .int a :: r => match allInts r with
    | some l => some (a :: l)
    | Option.none => Option.none
  | _ :: _ => Option.none

noncomputable def isNone : V → Bool
  | .none => true
  | _ => false

/-- within 63 bits, told so that no symbolic number is counted down -/
noncomputable def lt63 (k : Int) : Bool := Nat.ble k.toNat 9223372036854775807
noncomputable def getAt {α : Type} (l : List α) (k : Int) : Option α := match decide (0 ≤ k) && lt63 k with
  | true => l[k.toNat]?
  | false => Option.none

noncomputable def wAl (c : Cell) (Q : V → AH → Prop) (H : AH) : Prop := Q (.ref H.length) (H ++ [c])
noncomputable def wTru : V → (Bool → AH → Prop) → AH → Prop
  | .bool b, Q, H => up (Q b H)
  | .int i, Q, H => up (Q (!decide (i = 0)) H)
  | _, _, _ => False
noncomputable def wAdd (a b : V) (Q : V → AH → Prop) (H : AH) : Prop := match a with
  | .int x => onInt b fun y => Q (.int (x + y)) H
  | .tup x => onTup b fun y => bQ (lineOk (x.length + y.length)) (Q (.tup (x ++ y)) H)
  | .ref x => onRef b fun y => atL H[x]? fun l => atL H[y]? fun r => bQ (lineOk (l.length + r.length)) (wAl (.lst (l ++ r)) Q H)
  | _ => False
noncomputable def wBin (op : BOp) (a b : V) (Q : V → AH → Prop) (H : AH) : Prop := match op with
  | .add => wAdd a b Q H
  | .sub => onInt a fun x => onInt b fun y => Q (.int (x - y)) H
  | .mul => onInt a fun x => onInt b fun y => bQ (mulOk x y) (Q (.int (x * y)) H)
  | .mod => onInt a fun x => onInt b fun y => bQ (!decide (y = 0)) (Q (.int (x.fmod y)) H)
  | .fdiv => onInt a fun x => onInt b fun y => bQ (!decide (y = 0)) (Q (.int (x.fdiv y)) H)
  | .band => onInt a fun x => onInt b fun y => Q (.int (Builtin.bitAnd x y)) H
  | .shl => onInt a fun x => onInt b fun y => bQ (decide (0 ≤ y) && (decide (y ≤ 1000) && decide (x = 1))) (Q (.int (x * 2 ^ y.toNat)) H)
  | .shr => onInt a fun x => onInt b fun y => bQ (decide (0 ≤ y)) (Q (.int (x.fdiv (2 ^ y.toNat))) H)
  | .pow => onInt a fun x => onInt b fun y => bQ (decide (0 ≤ y) && (decide (y ≤ 1000) && decide (x = 2))) (Q (.int (x ^ y.toNat)) H)
noncomputable def wOn (op : BOp) (a b : V) (Q : V → AH → Prop) (H : AH) : Prop := match op with
  | .add => onInt a fun x => onInt b fun y => Q (.int (x + y)) H
  | .sub => onInt a fun x => onInt b fun y => Q (.int (x - y)) H
  | _ => False
noncomputable def eqP (a b : V) (k : Bool → Prop) : Prop := bQ (isPure a && (isPure b && (SeqAt.shaped (toP a) && SeqAt.shaped (toP b)))) (k (PyData.eqv (toP a) (toP b)))
noncomputable def eqL2 (l r : List V) (k : Bool → Prop) : Prop := bQ (arePure l && (arePure r && (SeqAt.shaped (.list (toPs l)) && SeqAt.shaped (.list (toPs r))))) (k (PyData.eqvAll (toPs l) (toPs r)))
noncomputable def eqD2 (l r : List (V × V)) (k : Bool → Prop) : Prop := match intPairs l with
  | some p => (match intPairs r with
    | some q => bQ (decide (p = q)) (k true)
    | none => False)
  | none => False
noncomputable def eqR (H : AH) (x y : Nat) (k : Bool → Prop) : Prop := match H[x]? with
  | some (.lst l) => atL H[y]? fun r => eqL2 l r k
  | some (.dct l) => atD H[y]? fun r => eqD2 l r k
  | _ => False
noncomputable def eqK (H : AH) (a b : V) (k : Bool → Prop) : Prop := match a with
  | .int x => (match b with
    | .int y => k (decide (x = y))
    | _ => eqP a b k)
  | .ref x => onRef b fun y => eqR H x y k
  | _ => eqP a b k
noncomputable def inK (H : AH) (a c : V) (k : Bool → Prop) : Prop := match c with
  | .fdct l => onInt a fun i => k (l.any fun j => decide (j = i))
  | .tup l => onInt a fun i => (match allInts l with
    | some js => k (js.any fun j => decide (j = i))
    | none => False)
  | .ref b => atD H[b]? fun l => onInt a fun i => bQ (keyOk l a) (k (dfind l a).isSome)
  | _ => False
noncomputable def onNone (v : V) (P : Prop) : Prop := match v with
  | .none => up P
  | _ => False
noncomputable def wCmp (op : COp) (a b : V) (Q : Bool → AH → Prop) (H : AH) : Prop := match op with
  | .eq => eqK H a b fun r => Q r H
  | .ne => eqK H a b fun r => Q (!r) H
  | .lt => onInt a fun x => onInt b fun y => Q (decide (x < y)) H
  | .le => onInt a fun x => onInt b fun y => Q (decide (x ≤ y)) H
  | .gt => onInt a fun x => onInt b fun y => Q (decide (x > y)) H
  | .ge => onInt a fun x => onInt b fun y => Q (decide (x ≥ y)) H
  | .is => onNone b (Q (isNone a) H)
  | .isnot => onNone b (Q (!isNone a) H)
  | .in_ => inK H a b fun r => Q r H
  | .notin => inK H a b fun r => Q (!r) H
noncomputable def subC (c : Option Cell) (i : V) (Q : V → AH → Prop) (H : AH) : Prop := match c with
  | some (.lst l) => onInt i fun k => oQ (getAt l k) Q H
  | some (.dct l) => bQ (keyOk l i && flatKey i) (oQ (dfind l i) Q H)
  | _ => False
noncomputable def wSub (o i : V) (Q : V → AH → Prop) (H : AH) : Prop := match o with
  | .tup l => onInt i fun k => oQ (getAt l k) Q H
  | .flist l => onInt i fun k => oQ (getAt l k) Q H
  | .ref a => subC H[a]? i Q H
  | _ => False
/-- a lookup of a name; of greater height than oQ -/
noncomputable def lQ {α : Type} : Option α → (α → AH → Prop) → AH → Prop
  | some a, Q, H => up (Q a H)
  | none, _, _ => False
noncomputable def uptoV (o i : V) : M V := fun Q H => onTup o fun l => onInt i fun k => bQ (decide (0 ≤ k) && (decide (k ≤ l.length) && lineOk l.length)) (Q (.tup (l.take k.toNat)) H)
noncomputable def fromV (o i : V) : M V := fun Q H => onTup o fun l => onInt i fun k => bQ (decide (1 ≤ k) && (decide (k ≤ l.length) && lineOk l.length)) (Q (.tup (l.drop k.toNat)) H)
noncomputable def setC (c : Option Cell) (a : Nat) (i v : V) (Q : Unit → AH → Prop) (H : AH) : Prop := match c with
  | some (.lst l) => onInt i fun k => bQ (decide (0 ≤ k) && (decide (k < l.length) && decide (k < 2 ^ 63))) (Q () (H.set a (.lst (l.set k.toNat v))))
  | some (.dct l) => bQ (keyOk l i && (setKey i && lineOk l.length)) (Q () (H.set a (.dct (dput l i v))))
  | _ => False
noncomputable def setV (o i v : V) : M Unit := fun Q H => onRef o fun a => setC H[a]? a i v Q H
noncomputable def delV (o i : V) : M Unit := fun Q H => onRef o fun a => atD H[a]? fun l => onInt i fun _ => bQ (keyOk l i && ((dfind l i).isSome && lineOk l.length)) (Q () (H.set a (.dct (ddel l i))))
/-- the field is one of the class's own -/
noncomputable def fldIn (F : List (Nat × List Nat)) (c f : Nat) : Bool := match look F c with
  | some l => l.any fun g => Nat.beq g f
  | Option.none => false
noncomputable def attrV (F : List (Nat × List Nat)) (o : V) (f : Nat) : M V := fun Q H => onRef o fun a => atI H[a]? fun k fs => bQ (fldIn F k f) (oQ (look fs f) Q H)
noncomputable def setattrV (F : List (Nat × List Nat)) (o : V) (f : Nat) (v : V) : M Unit := fun Q H => onRef o fun a => atI H[a]? fun k fs => bQ (fldIn F k f && Nat.ble fs.length 900) (Q () (H.set a (.inst k (Mine.put fs f v))))
noncomputable def clsV (o : V) (m : Nat) : M Nat := fun Q H => onRef o fun a => atI H[a]? fun k fs => bQ (!(look fs m).isSome) (Q k H)
noncomputable def lenV (o : V) : M V := fun Q H => match o with
  | .tup l => bQ (lineOk l.length) (Q (.int l.length) H)
  | .flist l => bQ (lineOk l.length) (Q (.int l.length) H)
  | .ref a => atL H[a]? fun l => bQ (lineOk l.length) (Q (.int l.length) H)
  | _ => False
noncomputable def tupleV (o : V) : M V := fun Q H => onRef o fun a => atL H[a]? fun l => bQ (lineOk l.length) (Q (.tup l) H)
noncomputable def appendV (o v : V) : M V := fun Q H => onRef o fun a => atL H[a]? fun l => bQ (lineOk l.length) (Q .none (H.set a (.lst (l ++ [v]))))
noncomputable def popV (o : V) : M V := fun Q H => onRef o fun a => atL H[a]? fun l => bQ (lineOk l.length) (oQ l.getLast? Q (H.set a (.lst l.dropLast)))
noncomputable def getV (o k d : V) : M V := fun Q H => onRef o fun a => atD H[a]? fun l => bQ (keyOk l k && setKey k) (Q ((dfind l k).getD d) H)
/-- a display of a dict: n is the kind of its keys -/
noncomputable def dctV (n : Nat) : List (V × V) → List V → M V
  | acc, [] => fun Q H => bQ (lineOk acc.length) (wAl (.dct acc) Q H)
  | acc, k :: r => match r with
    | v :: r => fun Q H => bQ (keyOk acc k && (Nat.beq (kindOf k) n && !(dfind acc k).isSome)) (dctV n (acc ++ [(k, v)]) r Q H)
    | [] => fun _ _ => False
noncomputable def kdE : Es → Nat
  | .cons (.str _) _ => 2
  | _ => 1
theorem kdE_or (es : Es) : kdE es = 1 ∨ kdE es = 2 := by unfold kdE; split; exact .inr rfl; exact .inl rfl
noncomputable def isLstV (o : V) : M Unit := fun Q H => onRef o fun a => atL H[a]? fun _ => Q () H
noncomputable def isDctV (o : V) : M Unit := fun Q H => onRef o fun a => atD H[a]? fun _ => Q () H
noncomputable def isB (v : V) (k : Bool → Prop) : Prop := match v with
  | .bool _ => up (k true)
  | .int _ => up (k false)
  | .none => up (k false)
  | _ => False

inductive It where
  | tup (l : List V)
  | lst (a i : Nat)
  | rng (i n : Nat)
noncomputable def wIt (v : V) (Q : It → AH → Prop) (H : AH) : Prop := match v with
  | .tup l => Q (.tup l) H
  | .rng n => Q (.rng 0 n) H
  | .ref a => atL H[a]? fun _ => Q (.lst a 0) H
  | _ => False
/-- the end, or one value more -/
noncomputable def nextK (it : It) (H : AH) (d : Prop) (k : V → It → Prop) : Prop := match it with
  | .tup [] => d
  | .tup (v :: l) => k v (.tup l)
  | .rng i n => ifK (Nat.blt i n) (k (.int i) (.rng (i + 1) n)) d
  | .lst a i => atL H[a]? fun l => optP l[i]? (fun v => k v (.lst a (i + 1))) d
theorem nextK_rng {i n : Nat} {H : AH} {d : Prop} {k : V → It → Prop} : nextK (.rng i n) H d k = ifK (Nat.blt i n) (k (.int i) (.rng (i + 1) n)) d := rfl
theorem nextK_lst {a i : Nat} {H : AH} {d : Prop} {k : V → It → Prop} : nextK (.lst a i) H d k = atL H[a]? fun l => optP l[i]? (fun v => k v (.lst a (i + 1))) d := rfl
/-- on with the names, or back with a value -/
noncomputable def flowK (a : Loc → AH → Prop) (b : V → AH → Prop) : Flow → AH → Prop := fun fl H => match fl with
  | .next ρ => up (a ρ H)
  | .ret v => up (b v H)
noncomputable def optK {α : Type} (a : α → AH → Prop) (d : AH → Prop) : Option α → AH → Prop := fun o H => match o with
  | some x => up (a x H)
  | none => up (d H)

noncomputable def forL (body : V → Loc → M Flow) : Nat → It → Loc → M Flow
  | 0, _, _ => fun _ _ => False
  | n + 1, it, ρ => fun Q H => nextK it H (Q (.next ρ) H) fun v it' => body v ρ (flowK (fun ρ' H => forL body n it' ρ' Q H) (fun u H => Q (.ret u) H)) H
theorem forL_s {body : V → Loc → M Flow} {n : Nat} {it : It} {ρ : Loc} {Q : Flow → AH → Prop} {H : AH} : wp (forL body (n + 1) it ρ) Q H = nextK it H (Q (.next ρ) H) fun v it' => body v ρ (flowK (fun ρ' H => forL body n it' ρ' Q H) (fun u H => Q (.ret u) H)) H := rfl
noncomputable def whileL (test : Loc → M Bool) (body : Loc → M Flow) : Nat → Loc → M Flow
  | 0, _ => fun _ _ => False
  | n + 1, ρ => fun Q H => test ρ (fun b H => ifK b (body ρ (flowK (fun ρ' H => whileL test body n ρ' Q H) (fun u H => Q (.ret u) H)) H) (Q (.next ρ) H)) H
noncomputable def compL (elt : V → M (Option V)) : Nat → It → List V → M (List V)
  | 0, _, _ => fun _ _ => False
  | n + 1, it, acc => fun Q H => nextK it H (bQ (lineOk acc.length) (Q acc H)) fun v it' => elt v (optK (fun y H => bQ (lineOk acc.length) (compL elt n it' (acc ++ [y]) Q H)) (fun H => compL elt n it' acc Q H)) H

noncomputable def fuelL : Nat := 400

/-- what the evaluator is told of the text: globals, methods, first methods -/
structure Ctx where
  glob : List (Nat × V)
  init : List (Nat × Nat)
  meth : List (Nat × List (Nat × Nat))
  fld : List (Nat × List Nat)

structure FD where
  params : List Nat
  body : Ss
noncomputable def zipP : List Nat → List V → Option Loc
  | [], [] => some []
  | x :: xs, v :: vs => match zipP xs vs with
    | some r => some ((x, v) :: r)
    | Option.none => Option.none
  | _, _ => Option.none
end Mine
end
section
set_option maxRecDepth 100000
namespace Mine
open PySem
noncomputable def tbl : List String := ["KindTable.__init__", "self", "number", "range", "PRIM_END", "append", "opens", "depths", "index", "row", "rows", "R_PRIM", "KindTable", "KindTable.row", "k", "len", "KindTable.put", "opened", "depth", "DEEPEST_KIND", "inner", "inner_kinds", "level", "row_level", "R_MVAR", "R_VAR", "check_kind_row", "found", "get", "put", "sort", "R_FTN", "R_RAW", "R_ROREF", "R_BOXED", "R_BYREF", "R_ARRAY", "R_VALUE", "R_CLASS", "row_length", "kt", "check_named", "check_args", "may_stand", "is_var", "is_value", "TID_PRIM", "args", "arg", "NULLK", "VOID", "class_kind", "tid", "prim_kind", "value_kind", "array_kind", "elem", "byref_kind", "var_kind", "i", "boxed_kind", "roref_kind", "ftn_kind", "owner", "mid", "margs", "NINT", "BOOL", "wrap_bits", "n", "bits", "wrap32", "wrap64", "cut_to", "U8", "I8", "I2", "I1", "U2", "CHAR", "U1", "store_as", "value", "V_NINT", "V_I8", "V_I4", "tag", "tag_of", "tag_of_row", "STRING", "OBJECT", "V_REF", "U4", "NO_TAG", "V_FTN", "V_PLACE", "V_STRUCT", "fits", "NULLV", "get_path", "path", "slot", "put_path", "new", "place", "outer", "way", "at_slot", "refs_in", "todo", "top", "pop", "words_for", "count", "HEAD_WORDS", "LEAST_SIZE", "Thing.__init__", "addr", "kind", "slots", "serial", "size", "gen", "Thing", "Heap.__init__", "limit", "card_bits", "made", "moved", "ready", "finals", "young_limit", "fresh", "cards", "FIRST_ADDRESS", "at", "things", "Heap", "heap_alloc", "heap", "thing", "find_thing", "word", "low", "high", "middle", "exact", "slot_word", "slot_at", "read_slot", "holds_reference", "card_number", "store_slot", "write_slot", "PlaceHost.__init__", "frames", "statics", "PlaceHost", "CellFrame.__init__", "locals_", "keep", "home", "CellFrame", "local_place", "f", "PL_LOCAL", "arg_place", "PL_ARG", "keep_place", "KEEP_PLACE", "heap_place", "PL_HEAP", "static_place", "PL_STATIC", "field_place", "path_of", "slots_of", "ph", "index_of", "read_whole", "read_place", "slot_value", "write_place", "start_of", "same_place", "a", "b", "_law_RANGES", "_law_cut", "least", "_law_tag", "_law_cell", "shapes", "_law_ADDRESSES", "_law_show", "cell", "tuple", "within_it", "_law_put", "_law_spots", "root", "leaves", "out", "_law_addresses", "_law_takes", "_law_keeps", "many", "_law_made", "z", "_law_offered", "y", "structs", "_law_nowhere", "w", "got", "isinstance", "bool", "_law_seen", "spot", "dead", "_law_LOST", "_law_write", "stems", "old", "_law_slots", "kinds", "others", "want", "_law_drawn_write", "kept", "taken", "_law_copy", "same", "spots", "s", "_law_box", "holders", "_law_compare", "other", "_law_deed", "o", "x", "bads", "_law_world", "head", "second", "q", "p", "c", "asking", "first", "cells", "starts", "group", "three", "two", "one", "away", "gens", "_law_GENS", "r", "groups", "_law_settled", "holder", "law", "script", "j", "max", "min"]
noncomputable def fd_KindTable_init : FD := ⟨[1],
    (.cons (.setattr (.loc 1) 10 (.lst .nil))
    (.cons (.setattr (.loc 1) 8 (.dct .nil))
    (.cons (.setattr (.loc 1) 7 (.lst .nil))
    (.cons (.setattr (.loc 1) 6 (.lst .nil))
    (.cons (.for_ 2 (.range (.glb 4)) (.cons (.asg 9 (.tup (.cons (.glb 11) (.cons (.loc 2) .nil))))
    (.cons (.expr (.append (.attr (.loc 1) 10) (.loc 9)))
    (.cons (.setitem (.attr (.loc 1) 8) (.loc 9) (.loc 2))
    (.cons (.expr (.append (.attr (.loc 1) 7) (.int 1)))
    (.cons (.expr (.append (.attr (.loc 1) 6) (.int 0)))
    .nil))))))
    .nil)))))⟩
noncomputable def fd_KindTable_row : FD := ⟨[1, 14],
    (.cons (.ite (.or (.cons (.cmp .lt (.loc 14) (.int 0)) (.cons (.cmp .ge (.loc 14) (.len (.attr (.loc 1) 10))) .nil))) (.cons .raise
    .nil) .nil)
    (.cons (.ret (.sub (.attr (.loc 1) 10) (.loc 14)))
    .nil))⟩
noncomputable def fd_KindTable_put : FD := ⟨[1, 9],
    (.cons (.asg 27 (.get2 (.attr (.loc 1) 8) (.loc 9) (.neg (.int 1))))
    (.cons (.ite (.cmp .ge (.loc 27) (.int 0)) (.cons (.ret (.loc 27))
    .nil) .nil)
    (.cons (.expr (.call 26 (.cons (.loc 1) (.cons (.loc 9) .nil))))
    (.cons (.asg 18 (.int 1))
    (.cons (.asg 17 (.int 0))
    (.cons (.ite (.or (.cons (.cmp .eq (.sub (.loc 9) (.int 0)) (.glb 25)) (.cons (.cmp .eq (.sub (.loc 9) (.int 0)) (.glb 24)) .nil))) (.cons (.asg 17 (.int 1))
    .nil) .nil)
    (.cons (.asg 22 (.call 23 (.cons (.sub (.loc 9) (.int 0)) .nil)))
    (.cons (.for_ 20 (.call 21 (.cons (.loc 9) .nil)) (.cons (.ite (.cmp .gt (.bin .add (.sub (.attr (.loc 1) 7) (.loc 20)) (.loc 22)) (.loc 18)) (.cons (.asg 18 (.bin .add (.sub (.attr (.loc 1) 7) (.loc 20)) (.loc 22)))
    .nil) .nil)
    (.cons (.ite (.cmp .eq (.sub (.attr (.loc 1) 6) (.loc 20)) (.int 1)) (.cons (.asg 17 (.int 1))
    .nil) .nil)
    .nil)))
    (.cons (.ite (.cmp .gt (.loc 18) (.glb 19)) (.cons .raise
    .nil) .nil)
    (.cons (.asg 14 (.len (.attr (.loc 1) 10)))
    (.cons (.expr (.append (.attr (.loc 1) 10) (.loc 9)))
    (.cons (.setitem (.attr (.loc 1) 8) (.loc 9) (.loc 14))
    (.cons (.expr (.append (.attr (.loc 1) 7) (.loc 18)))
    (.cons (.expr (.append (.attr (.loc 1) 6) (.loc 17)))
    (.cons (.ret (.loc 14))
    .nil)))))))))))))))⟩
noncomputable def fd_inner_kinds : FD := ⟨[9],
    (.cons (.asg 30 (.sub (.loc 9) (.int 0)))
    (.cons (.ite (.or (.cons (.cmp .eq (.loc 30) (.glb 38)) (.cons (.cmp .eq (.loc 30) (.glb 37)) .nil))) (.cons (.ret (.sub (.loc 9) (.int 2)))
    .nil) .nil)
    (.cons (.ite (.or (.cons (.cmp .eq (.loc 30) (.glb 36)) (.cons (.cmp .eq (.loc 30) (.glb 35)) (.cons (.cmp .eq (.loc 30) (.glb 34)) (.cons (.cmp .eq (.loc 30) (.glb 33)) (.cons (.cmp .eq (.loc 30) (.glb 32)) .nil)))))) (.cons (.ret (.tup (.cons (.sub (.loc 9) (.int 1)) .nil)))
    .nil) .nil)
    (.cons (.ite (.cmp .eq (.loc 30) (.glb 31)) (.cons (.ret (.bin .add (.tup (.cons (.sub (.loc 9) (.int 1)) .nil)) (.sub (.loc 9) (.int 3))))
    .nil) .nil)
    (.cons (.ret (.tup .nil))
    .nil)))))⟩
noncomputable def fd_row_level : FD := ⟨[30],
    (.cons (.ite (.or (.cons (.cmp .eq (.loc 30) (.glb 38)) (.cons (.cmp .eq (.loc 30) (.glb 37)) (.cons (.cmp .eq (.loc 30) (.glb 36)) .nil)))) (.cons (.ret (.int 1))
    .nil) .nil)
    (.cons (.ret (.int 0))
    .nil))⟩
noncomputable def fd_row_length : FD := ⟨[30],
    (.cons (.ite (.or (.cons (.cmp .eq (.loc 30) (.glb 38)) (.cons (.cmp .eq (.loc 30) (.glb 37)) .nil))) (.cons (.ret (.int 3))
    .nil) .nil)
    (.cons (.ite (.cmp .eq (.loc 30) (.glb 31)) (.cons (.ret (.int 4))
    .nil) .nil)
    (.cons (.ret (.int 2))
    .nil)))⟩
noncomputable def fd_check_kind_row : FD := ⟨[40, 9],
    (.cons (.ite (.or (.cons (.cmp .eq (.len (.loc 9)) (.int 0)) (.cons (.cmp .le (.sub (.loc 9) (.int 0)) (.glb 11)) (.cons (.cmp .gt (.sub (.loc 9) (.int 0)) (.glb 32)) .nil)))) (.cons .raise
    .nil) .nil)
    (.cons (.asg 30 (.sub (.loc 9) (.int 0)))
    (.cons (.ite (.cmp .ne (.len (.loc 9)) (.call 39 (.cons (.loc 30) .nil))) (.cons .raise
    .nil) .nil)
    (.cons (.for_ 20 (.call 21 (.cons (.loc 9) .nil)) (.cons (.expr (.meth (.loc 40) 9 (.cons (.loc 20) .nil)))
    .nil))
    (.cons (.ite (.or (.cons (.cmp .eq (.loc 30) (.glb 38)) (.cons (.cmp .eq (.loc 30) (.glb 37)) .nil))) (.cons (.expr (.call 41 (.cons (.loc 40) (.cons (.loc 9) .nil))))
    .nil) (.cons (.ite (.or (.cons (.cmp .eq (.loc 30) (.glb 25)) (.cons (.cmp .eq (.loc 30) (.glb 24)) .nil))) (.cons (.ite (.cmp .lt (.sub (.loc 9) (.int 1)) (.int 0)) (.cons .raise
    .nil) .nil)
    .nil) (.cons (.ite (.cmp .eq (.loc 30) (.glb 31)) (.cons (.ite (.or (.cons (.not (.call 43 (.cons (.loc 40) (.cons (.sub (.loc 9) (.int 1)) .nil)))) (.cons (.cmp .lt (.sub (.loc 9) (.int 2)) (.int 0)) .nil))) (.cons .raise
    .nil) .nil)
    (.cons (.expr (.call 42 (.cons (.loc 40) (.cons (.sub (.loc 9) (.int 3)) .nil))))
    .nil)) (.cons (.ite (.cmp .eq (.loc 30) (.glb 34)) (.cons (.ite (.not (.or (.cons (.call 45 (.cons (.loc 40) (.cons (.sub (.loc 9) (.int 1)) .nil))) (.cons (.call 44 (.cons (.loc 40) (.cons (.sub (.loc 9) (.int 1)) .nil))) .nil)))) (.cons .raise
    .nil) .nil)
    .nil) (.cons (.ite (.not (.call 43 (.cons (.loc 40) (.cons (.sub (.loc 9) (.int 1)) .nil)))) (.cons .raise
    .nil) .nil)
    .nil))
    .nil))
    .nil))
    .nil))
    .nil)))))⟩
noncomputable def fd_check_named : FD := ⟨[40, 9],
    (.cons (.ite (.or (.cons (.cmp .le (.sub (.loc 9) (.int 1)) (.int 0)) (.cons (.cmp .in_ (.sub (.loc 9) (.int 1)) (.glb 46)) .nil))) (.cons .raise
    .nil) .nil)
    (.cons (.expr (.call 42 (.cons (.loc 40) (.cons (.sub (.loc 9) (.int 2)) .nil))))
    .nil))⟩
noncomputable def fd_check_args : FD := ⟨[40, 47],
    (.cons (.for_ 48 (.loc 47) (.cons (.ite (.not (.call 43 (.cons (.loc 40) (.cons (.loc 48) .nil)))) (.cons .raise
    .nil) .nil)
    .nil))
    .nil)⟩
noncomputable def fd_may_stand : FD := ⟨[40, 14],
    (.cons (.ite (.or (.cons (.cmp .eq (.loc 14) (.glb 50)) (.cons (.cmp .eq (.loc 14) (.glb 49)) .nil))) (.cons (.ret (.bool false))
    .nil) .nil)
    (.cons (.asg 30 (.sub (.meth (.loc 40) 9 (.cons (.loc 14) .nil)) (.int 0)))
    (.cons (.ret (.or (.cons (.cmp .le (.loc 30) (.glb 36)) (.cons (.cmp .eq (.loc 30) (.glb 25)) (.cons (.cmp .eq (.loc 30) (.glb 24)) .nil)))))
    .nil)))⟩
noncomputable def fd_class_kind : FD := ⟨[40, 52, 47],
    (.cons (.ite (.cmp .in_ (.loc 52) (.glb 46)) (.cons (.ret (.call 53 (.cons (.loc 52) (.cons (.loc 47) .nil))))
    .nil) .nil)
    (.cons (.ret (.meth (.loc 40) 29 (.cons (.tup (.cons (.glb 38) (.cons (.loc 52) (.cons (.loc 47) .nil)))) .nil)))
    .nil))⟩
noncomputable def fd_value_kind : FD := ⟨[40, 52, 47],
    (.cons (.ite (.cmp .in_ (.loc 52) (.glb 46)) (.cons (.ret (.call 53 (.cons (.loc 52) (.cons (.loc 47) .nil))))
    .nil) .nil)
    (.cons (.ret (.meth (.loc 40) 29 (.cons (.tup (.cons (.glb 37) (.cons (.loc 52) (.cons (.loc 47) .nil)))) .nil)))
    .nil))⟩
noncomputable def fd_prim_kind : FD := ⟨[52, 47],
    (.cons (.ite (.cmp .gt (.len (.loc 47)) (.int 0)) (.cons .raise
    .nil) .nil)
    (.cons (.ret (.sub (.glb 46) (.loc 52)))
    .nil))⟩
noncomputable def fd_array_kind : FD := ⟨[40, 56],
    (.cons (.ret (.meth (.loc 40) 29 (.cons (.tup (.cons (.glb 36) (.cons (.loc 56) .nil))) .nil)))
    .nil)⟩
noncomputable def fd_byref_kind : FD := ⟨[40, 20],
    (.cons (.ret (.meth (.loc 40) 29 (.cons (.tup (.cons (.glb 35) (.cons (.loc 20) .nil))) .nil)))
    .nil)⟩
noncomputable def fd_var_kind : FD := ⟨[40, 59],
    (.cons (.ret (.meth (.loc 40) 29 (.cons (.tup (.cons (.glb 25) (.cons (.loc 59) .nil))) .nil)))
    .nil)⟩
noncomputable def fd_boxed_kind : FD := ⟨[40, 14],
    (.cons (.ret (.meth (.loc 40) 29 (.cons (.tup (.cons (.glb 34) (.cons (.loc 14) .nil))) .nil)))
    .nil)⟩
noncomputable def fd_roref_kind : FD := ⟨[40, 20],
    (.cons (.ret (.meth (.loc 40) 29 (.cons (.tup (.cons (.glb 33) (.cons (.loc 20) .nil))) .nil)))
    .nil)⟩
noncomputable def fd_ftn_kind : FD := ⟨[40, 63, 64, 65],
    (.cons (.ret (.meth (.loc 40) 29 (.cons (.tup (.cons (.glb 31) (.cons (.loc 63) (.cons (.loc 64) (.cons (.loc 65) .nil))))) .nil)))
    .nil)⟩
noncomputable def fd_is_value : FD := ⟨[40, 14],
    (.cons (.ite (.and (.cons (.cmp .le (.glb 67) (.loc 14)) (.cons (.cmp .le (.loc 14) (.glb 66)) .nil))) (.cons (.ret (.bool true))
    .nil) .nil)
    (.cons (.ret (.cmp .eq (.sub (.meth (.loc 40) 9 (.cons (.loc 14) .nil)) (.int 0)) (.glb 37)))
    .nil))⟩
noncomputable def fd_is_var : FD := ⟨[40, 14],
    (.cons (.asg 30 (.sub (.meth (.loc 40) 9 (.cons (.loc 14) .nil)) (.int 0)))
    (.cons (.ret (.or (.cons (.cmp .eq (.loc 30) (.glb 25)) (.cons (.cmp .eq (.loc 30) (.glb 24)) .nil))))
    .nil))⟩
noncomputable def fd_wrap_bits : FD := ⟨[69, 70],
    (.cons (.asg 69 (.bin .band (.loc 69) (.bin .sub (.bin .shl (.int 1) (.loc 70)) (.int 1))))
    (.cons (.ite (.bin .shr (.loc 69) (.bin .sub (.loc 70) (.int 1))) (.cons (.ret (.bin .sub (.loc 69) (.bin .shl (.int 1) (.loc 70))))
    .nil) .nil)
    (.cons (.ret (.loc 69))
    .nil)))⟩
noncomputable def fd_wrap32 : FD := ⟨[69],
    (.cons (.ret (.call 68 (.cons (.loc 69) (.cons (.int 32) .nil))))
    .nil)⟩
noncomputable def fd_wrap64 : FD := ⟨[69],
    (.cons (.ret (.call 68 (.cons (.loc 69) (.cons (.int 64) .nil))))
    .nil)⟩
noncomputable def fd_cut_to : FD := ⟨[14, 69],
    (.cons (.ite (.or (.cons (.cmp .eq (.loc 14) (.glb 67)) (.cons (.cmp .eq (.loc 14) (.glb 80)) .nil))) (.cons (.ret (.bin .band (.loc 69) (.int 255)))
    .nil) .nil)
    (.cons (.ite (.or (.cons (.cmp .eq (.loc 14) (.glb 79)) (.cons (.cmp .eq (.loc 14) (.glb 78)) .nil))) (.cons (.ret (.bin .band (.loc 69) (.int 65535)))
    .nil) .nil)
    (.cons (.ite (.cmp .eq (.loc 14) (.glb 77)) (.cons (.ret (.call 68 (.cons (.loc 69) (.cons (.int 8) .nil))))
    .nil) .nil)
    (.cons (.ite (.cmp .eq (.loc 14) (.glb 76)) (.cons (.ret (.call 68 (.cons (.loc 69) (.cons (.int 16) .nil))))
    .nil) .nil)
    (.cons (.ite (.or (.cons (.cmp .eq (.loc 14) (.glb 75)) (.cons (.cmp .eq (.loc 14) (.glb 74)) .nil))) (.cons (.ret (.call 72 (.cons (.loc 69) .nil)))
    .nil) .nil)
    (.cons (.ret (.call 71 (.cons (.loc 69) .nil)))
    .nil))))))⟩
noncomputable def fd_store_as : FD := ⟨[40, 14, 82],
    (.cons (.ite (.or (.cons (.cmp .eq (.sub (.loc 82) (.int 0)) (.glb 85)) (.cons (.cmp .eq (.sub (.loc 82) (.int 0)) (.glb 84)) (.cons (.cmp .eq (.sub (.loc 82) (.int 0)) (.glb 83)) .nil)))) (.cons (.asg 86 (.call 87 (.cons (.loc 40) (.cons (.loc 14) .nil))))
    (.cons (.ite (.or (.cons (.cmp .eq (.loc 86) (.glb 85)) (.cons (.cmp .eq (.loc 86) (.glb 84)) (.cons (.cmp .eq (.loc 86) (.glb 83)) .nil)))) (.cons (.ret (.tup (.cons (.loc 86) (.cons (.call 73 (.cons (.loc 14) (.cons (.sub (.loc 82) (.int 1)) .nil))) .nil))))
    .nil) .nil)
    .nil)) .nil)
    (.cons (.ret (.loc 82))
    .nil))⟩
noncomputable def fd_tag_of : FD := ⟨[40, 14],
    (.cons (.ite (.cmp2 .le .le (.glb 67) (.loc 14) (.glb 92)) (.cons (.ret (.glb 85))
    .nil) .nil)
    (.cons (.ite (.or (.cons (.cmp .eq (.loc 14) (.glb 75)) (.cons (.cmp .eq (.loc 14) (.glb 74)) .nil))) (.cons (.ret (.glb 84))
    .nil) .nil)
    (.cons (.ite (.cmp .eq (.loc 14) (.glb 66)) (.cons (.ret (.glb 83))
    .nil) .nil)
    (.cons (.ite (.or (.cons (.cmp .eq (.loc 14) (.glb 90)) (.cons (.cmp .eq (.loc 14) (.glb 89)) (.cons (.cmp .eq (.loc 14) (.glb 49)) .nil)))) (.cons (.ret (.glb 91))
    .nil) .nil)
    (.cons (.ret (.call 88 (.cons (.sub (.meth (.loc 40) 9 (.cons (.loc 14) .nil)) (.int 0)) .nil)))
    .nil)))))⟩
noncomputable def fd_tag_of_row : FD := ⟨[30],
    (.cons (.ite (.or (.cons (.cmp .eq (.loc 30) (.glb 38)) (.cons (.cmp .eq (.loc 30) (.glb 36)) (.cons (.cmp .eq (.loc 30) (.glb 34)) .nil)))) (.cons (.ret (.glb 91))
    .nil) .nil)
    (.cons (.ite (.cmp .eq (.loc 30) (.glb 37)) (.cons (.ret (.glb 96))
    .nil) .nil)
    (.cons (.ite (.or (.cons (.cmp .eq (.loc 30) (.glb 35)) (.cons (.cmp .eq (.loc 30) (.glb 33)) .nil))) (.cons (.ret (.glb 95))
    .nil) .nil)
    (.cons (.ite (.cmp .eq (.loc 30) (.glb 31)) (.cons (.ret (.glb 94))
    .nil) .nil)
    (.cons (.ret (.glb 93))
    .nil)))))⟩
noncomputable def fd_fits : FD := ⟨[40, 82, 14],
    (.cons (.asg 86 (.call 87 (.cons (.loc 40) (.cons (.loc 14) .nil))))
    (.cons (.ite (.cmp .eq (.loc 86) (.glb 96)) (.cons (.ret (.and (.cons (.cmp .eq (.sub (.loc 82) (.int 0)) (.glb 96)) (.cons (.cmp .eq (.sub (.loc 82) (.int 1)) (.loc 14)) .nil))))
    .nil) .nil)
    (.cons (.ite (.cmp .eq (.loc 86) (.glb 83)) (.cons (.ret (.or (.cons (.cmp .eq (.sub (.loc 82) (.int 0)) (.glb 83)) (.cons (.cmp .eq (.sub (.loc 82) (.int 0)) (.glb 85)) (.cons (.cmp .eq (.sub (.loc 82) (.int 0)) (.glb 94)) .nil)))))
    .nil) .nil)
    (.cons (.ite (.and (.cons (.cmp .eq (.loc 86) (.glb 85)) (.cons (.cmp .eq (.sub (.loc 82) (.int 0)) (.glb 83)) .nil))) (.cons (.ret (.bool true))
    .nil) .nil)
    (.cons (.ite (.and (.cons (.cmp .eq (.loc 86) (.glb 95)) (.cons (.cmp .eq (.loc 82) (.glb 98)) .nil))) (.cons (.ret (.bool true))
    .nil) .nil)
    (.cons (.ret (.and (.cons (.cmp .ne (.loc 86) (.glb 93)) (.cons (.cmp .eq (.sub (.loc 82) (.int 0)) (.loc 86)) .nil))))
    .nil))))))⟩
noncomputable def fd_get_path : FD := ⟨[82, 100],
    (.cons (.for_ 101 (.loc 100) (.cons (.ite (.or (.cons (.cmp .ne (.sub (.loc 82) (.int 0)) (.glb 96)) (.cons (.cmp .lt (.loc 101) (.int 0)) (.cons (.cmp .ge (.loc 101) (.len (.sub (.loc 82) (.int 2)))) .nil)))) (.cons (.ret .none)
    .nil) .nil)
    (.cons (.asg 82 (.sub (.sub (.loc 82) (.int 2)) (.loc 101)))
    .nil)))
    (.cons (.ret (.loc 82))
    .nil))⟩
noncomputable def fd_put_path : FD := ⟨[82, 100, 103],
    (.cons (.asg 106 (.lst .nil))
    (.cons (.asg 107 (.loc 82))
    (.cons (.for_ 101 (.loc 100) (.cons (.expr (.append (.loc 106) (.tup (.cons (.loc 107) (.cons (.loc 101) .nil)))))
    (.cons (.asg 107 (.sub (.sub (.loc 107) (.int 2)) (.loc 101)))
    .nil)))
    (.cons (.asg 104 (.bin .sub (.len (.loc 106)) (.int 1)))
    (.cons (.while (.cmp .ge (.loc 104) (.int 0)) (.cons (.asg2 105 101 (.sub (.loc 106) (.loc 104)))
    (.cons (.asg 103 (.tup (.cons (.glb 96) (.cons (.sub (.loc 105) (.int 1)) (.cons (.bin .add (.bin .add (.upto (.sub (.loc 105) (.int 2)) (.loc 101)) (.tup (.cons (.loc 103) .nil))) (.from_ (.sub (.loc 105) (.int 2)) (.bin .add (.loc 101) (.int 1)))) .nil)))))
    (.cons (.aug 104 .sub (.int 1))
    .nil))))
    (.cons (.ret (.loc 103))
    .nil))))))⟩
noncomputable def fd_refs_in : FD := ⟨[82],
    (.cons (.ite (.cmp .eq (.sub (.loc 82) (.int 0)) (.glb 91)) (.cons (.ite (.cmp .eq (.sub (.loc 82) (.int 1)) (.int 0)) (.cons (.ret (.lst .nil))
    .nil) .nil)
    (.cons (.ret (.lst (.cons (.sub (.loc 82) (.int 1)) .nil)))
    .nil)) .nil)
    (.cons (.ite (.cmp .ne (.sub (.loc 82) (.int 0)) (.glb 96)) (.cons (.ret (.lst .nil))
    .nil) .nil)
    (.cons (.asg 27 (.lst .nil))
    (.cons (.asg 109 (.lst (.cons (.loc 82) .nil)))
    (.cons (.while (.cmp .gt (.len (.loc 109)) (.int 0)) (.cons (.asg 110 (.pop (.loc 109)))
    (.cons (.ite (.cmp .eq (.sub (.loc 110) (.int 0)) (.glb 96)) (.cons (.asg 104 (.bin .sub (.len (.sub (.loc 110) (.int 2))) (.int 1)))
    (.cons (.while (.cmp .ge (.loc 104) (.int 0)) (.cons (.expr (.append (.loc 109) (.sub (.sub (.loc 110) (.int 2)) (.loc 104))))
    (.cons (.aug 104 .sub (.int 1))
    .nil)))
    .nil)) (.cons (.ite (.and (.cons (.cmp .eq (.sub (.loc 110) (.int 0)) (.glb 91)) (.cons (.cmp .ne (.sub (.loc 110) (.int 1)) (.int 0)) .nil))) (.cons (.expr (.append (.loc 27) (.sub (.loc 110) (.int 1))))
    .nil) .nil)
    .nil))
    .nil)))
    (.cons (.ret (.loc 27))
    .nil))))))⟩
noncomputable def fd_words_for : FD := ⟨[113],
    (.cons (.ite (.cmp .lt (.bin .add (.glb 114) (.loc 113)) (.glb 115)) (.cons (.ret (.glb 115))
    .nil) .nil)
    (.cons (.ret (.bin .add (.glb 114) (.loc 113)))
    .nil))⟩
noncomputable def fd_Thing_init : FD := ⟨[1, 117, 118, 119],
    (.cons (.setattr (.loc 1) 117 (.loc 117))
    (.cons (.setattr (.loc 1) 118 (.loc 118))
    (.cons (.setattr (.loc 1) 119 (.loc 119))
    (.cons (.setattr (.loc 1) 122 (.int 0))
    (.cons (.setattr (.loc 1) 121 (.call 112 (.cons (.len (.loc 119)) .nil)))
    (.cons (.setattr (.loc 1) 120 (.int 0))
    .nil))))))⟩
noncomputable def fd_Heap_init : FD := ⟨[1, 125, 126],
    (.cons (.setattr (.loc 1) 136 (.lst .nil))
    (.cons (.setattr (.loc 1) 135 (.dct .nil))
    (.cons (.setattr (.loc 1) 110 (.glb 134))
    (.cons (.setattr (.loc 1) 125 (.loc 125))
    (.cons (.setattr (.loc 1) 133 (.dct .nil))
    (.cons (.setattr (.loc 1) 126 (.loc 126))
    (.cons (.setattr (.loc 1) 132 (.int 0))
    (.cons (.setattr (.loc 1) 131 (.bin .add (.bin .fdiv (.loc 125) (.int 4)) (.int 1)))
    (.cons (.setattr (.loc 1) 130 (.lst .nil))
    (.cons (.setattr (.loc 1) 129 (.lst .nil))
    (.cons (.setattr (.loc 1) 128 (.int 0))
    (.cons (.setattr (.loc 1) 127 (.int 0))
    .nil))))))))))))⟩
noncomputable def fd_heap_alloc : FD := ⟨[139, 118, 119],
    (.cons (.asg 140 (.new 123 (.cons (.attr (.loc 139) 110) (.cons (.loc 118) (.cons (.loc 119) .nil)))))
    (.cons (.augattr (.loc 139) 127 .add (.int 1))
    (.cons (.setattr (.loc 140) 120 (.attr (.loc 139) 127))
    (.cons (.expr (.append (.attr (.loc 139) 136) (.loc 140)))
    (.cons (.setitem (.attr (.loc 139) 135) (.attr (.loc 140) 117) (.loc 140))
    (.cons (.augattr (.loc 139) 110 .add (.attr (.loc 140) 121))
    (.cons (.augattr (.loc 139) 132 .add (.attr (.loc 140) 121))
    (.cons (.ret (.loc 140))
    .nil))))))))⟩
noncomputable def fd_find_thing : FD := ⟨[139, 142],
    (.cons (.asg 146 (.get (.attr (.loc 139) 135) (.loc 142)))
    (.cons (.ite (.cmp .isnot (.loc 146) .none) (.cons (.ret (.loc 146))
    .nil) .nil)
    (.cons (.asg 143 (.int 0))
    (.cons (.asg 144 (.len (.attr (.loc 139) 136)))
    (.cons (.while (.cmp .lt (.loc 143) (.loc 144)) (.cons (.asg 145 (.bin .fdiv (.bin .add (.loc 143) (.loc 144)) (.int 2)))
    (.cons (.ite (.cmp .le (.attr (.sub (.attr (.loc 139) 136) (.loc 145)) 117) (.loc 142)) (.cons (.asg 143 (.bin .add (.loc 145) (.int 1)))
    .nil) (.cons (.asg 144 (.loc 145))
    .nil))
    .nil)))
    (.cons (.ite (.cmp .eq (.loc 143) (.int 0)) (.cons (.ret .none)
    .nil) .nil)
    (.cons (.asg 140 (.sub (.attr (.loc 139) 136) (.bin .sub (.loc 143) (.int 1))))
    (.cons (.ite (.cmp .lt (.loc 142) (.bin .add (.attr (.loc 140) 117) (.attr (.loc 140) 121))) (.cons (.ret (.loc 140))
    .nil) .nil)
    (.cons (.ret .none)
    .nil)))))))))⟩
noncomputable def fd_slot_word : FD := ⟨[140, 101],
    (.cons (.ret (.bin .add (.bin .add (.attr (.loc 140) 117) (.glb 114)) (.loc 101)))
    .nil)⟩
noncomputable def fd_slot_at : FD := ⟨[140, 142],
    (.cons (.asg 101 (.bin .sub (.bin .sub (.loc 142) (.attr (.loc 140) 117)) (.glb 114)))
    (.cons (.ite (.cmp2 .le .lt (.int 0) (.loc 101) (.len (.attr (.loc 140) 119))) (.cons (.ret (.loc 101))
    .nil) .nil)
    (.cons (.ret (.neg (.int 1)))
    .nil)))⟩
noncomputable def fd_read_slot : FD := ⟨[139, 142],
    (.cons (.asg 140 (.call 141 (.cons (.loc 139) (.cons (.loc 142) .nil))))
    (.cons (.ite (.cmp .is (.loc 140) .none) (.cons (.ret .none)
    .nil) .nil)
    (.cons (.asg 101 (.call 148 (.cons (.loc 140) (.cons (.loc 142) .nil))))
    (.cons (.ite (.cmp .lt (.loc 101) (.int 0)) (.cons (.ret .none)
    .nil) .nil)
    (.cons (.ret (.sub (.attr (.loc 140) 119) (.loc 101)))
    .nil)))))⟩
noncomputable def fd_holds_reference : FD := ⟨[82],
    (.cons (.ite (.cmp .eq (.sub (.loc 82) (.int 0)) (.glb 91)) (.cons (.ret (.cmp .ne (.sub (.loc 82) (.int 1)) (.int 0)))
    .nil) .nil)
    (.cons (.for_ 117 (.call 108 (.cons (.loc 82) .nil)) (.cons (.ite (.cmp .ne (.loc 117) (.int 0)) (.cons (.ret (.bool true))
    .nil) .nil)
    .nil))
    (.cons (.ret (.bool false))
    .nil)))⟩
noncomputable def fd_card_number : FD := ⟨[139, 142],
    (.cons (.ret (.bin .shr (.loc 142) (.attr (.loc 139) 126)))
    .nil)⟩
noncomputable def fd_store_slot : FD := ⟨[139, 140, 101, 82],
    (.cons (.setitem (.attr (.loc 140) 119) (.loc 101) (.loc 82))
    (.cons (.ite (.and (.cons (.cmp .gt (.attr (.loc 140) 122) (.int 0)) (.cons (.call 150 (.cons (.loc 82) .nil)) .nil))) (.cons (.setitem (.attr (.loc 139) 133) (.call 151 (.cons (.loc 139) (.cons (.call 147 (.cons (.loc 140) (.cons (.loc 101) .nil))) .nil))) (.int 1))
    .nil) .nil)
    .nil))⟩
noncomputable def fd_write_slot : FD := ⟨[139, 142, 100, 82],
    (.cons (.asg 140 (.call 141 (.cons (.loc 139) (.cons (.loc 142) .nil))))
    (.cons (.ite (.cmp .is (.loc 140) .none) (.cons (.ret (.bool false))
    .nil) .nil)
    (.cons (.asg 101 (.call 148 (.cons (.loc 140) (.cons (.loc 142) .nil))))
    (.cons (.ite (.cmp .lt (.loc 101) (.int 0)) (.cons (.ret (.bool false))
    .nil) .nil)
    (.cons (.ite (.cmp .is (.call 99 (.cons (.sub (.attr (.loc 140) 119) (.loc 101)) (.cons (.loc 100) .nil))) .none) (.cons (.ret (.bool false))
    .nil) .nil)
    (.cons (.expr (.call 152 (.cons (.loc 139) (.cons (.loc 140) (.cons (.loc 101) (.cons (.call 102 (.cons (.sub (.attr (.loc 140) 119) (.loc 101)) (.cons (.loc 100) (.cons (.loc 82) .nil)))) .nil))))))
    (.cons (.ret (.bool true))
    .nil)))))))⟩
noncomputable def fd_PlaceHost_init : FD := ⟨[1, 139, 155, 156],
    (.cons (.setattr (.loc 1) 139 (.loc 139))
    (.cons (.setattr (.loc 1) 155 (.loc 155))
    (.cons (.setattr (.loc 1) 156 (.loc 156))
    .nil)))⟩
noncomputable def fd_CellFrame_init : FD := ⟨[1, 2, 47, 159],
    (.cons (.setattr (.loc 1) 2 (.loc 2))
    (.cons (.setattr (.loc 1) 161 (.loc 2))
    (.cons (.setattr (.loc 1) 47 (.loc 47))
    (.cons (.setattr (.loc 1) 159 (.loc 159))
    (.cons (.setattr (.loc 1) 160 (.lst .nil))
    .nil)))))⟩
noncomputable def fd_local_place : FD := ⟨[164, 59],
    (.cons (.ret (.tup (.cons (.glb 165) (.cons (.attr (.loc 164) 161) (.cons (.loc 59) (.cons (.tup .nil) .nil))))))
    .nil)⟩
noncomputable def fd_arg_place : FD := ⟨[164, 59],
    (.cons (.ret (.tup (.cons (.glb 167) (.cons (.attr (.loc 164) 161) (.cons (.loc 59) (.cons (.tup .nil) .nil))))))
    .nil)⟩
noncomputable def fd_keep_place : FD := ⟨[164],
    (.cons (.ret (.tup (.cons (.glb 165) (.cons (.attr (.loc 164) 161) (.cons (.glb 169) (.cons (.tup .nil) .nil))))))
    .nil)⟩
noncomputable def fd_heap_place : FD := ⟨[140, 101],
    (.cons (.ret (.tup (.cons (.glb 171) (.cons (.bin .add (.bin .add (.attr (.loc 140) 117) (.glb 114)) (.loc 101)) (.cons (.tup .nil) .nil)))))
    .nil)⟩
noncomputable def fd_static_place : FD := ⟨[63, 101],
    (.cons (.ret (.tup (.cons (.glb 173) (.cons (.loc 63) (.cons (.loc 101) (.cons (.tup .nil) .nil))))))
    .nil)⟩
noncomputable def fd_field_place : FD := ⟨[104, 101],
    (.cons (.ite (.cmp .eq (.sub (.loc 104) (.int 0)) (.glb 171)) (.cons (.ret (.tup (.cons (.glb 171) (.cons (.sub (.loc 104) (.int 1)) (.cons (.bin .add (.sub (.loc 104) (.int 2)) (.tup (.cons (.loc 101) .nil))) .nil)))))
    .nil) .nil)
    (.cons (.ret (.tup (.cons (.sub (.loc 104) (.int 0)) (.cons (.sub (.loc 104) (.int 1)) (.cons (.sub (.loc 104) (.int 2)) (.cons (.bin .add (.sub (.loc 104) (.int 3)) (.tup (.cons (.loc 101) .nil))) .nil))))))
    .nil))⟩
noncomputable def fd_path_of : FD := ⟨[104],
    (.cons (.ite (.cmp .eq (.sub (.loc 104) (.int 0)) (.glb 171)) (.cons (.ret (.sub (.loc 104) (.int 2)))
    .nil) .nil)
    (.cons (.ret (.sub (.loc 104) (.int 3)))
    .nil))⟩
noncomputable def fd_slots_of : FD := ⟨[177, 104],
    (.cons (.ite (.cmp .eq (.sub (.loc 104) (.int 0)) (.glb 173)) (.cons (.ret (.get (.attr (.loc 177) 156) (.sub (.loc 104) (.int 1))))
    .nil) .nil)
    (.cons (.asg 164 (.get (.attr (.loc 177) 155) (.sub (.loc 104) (.int 1))))
    (.cons (.ite (.cmp .is (.loc 164) .none) (.cons (.ret .none)
    .nil) .nil)
    (.cons (.ite (.cmp .eq (.sub (.loc 104) (.int 0)) (.glb 167)) (.cons (.ret (.attr (.loc 164) 47))
    .nil) .nil)
    (.cons (.ite (.cmp .eq (.sub (.loc 104) (.int 2)) (.glb 169)) (.cons (.ret (.attr (.loc 164) 160))
    .nil) .nil)
    (.cons (.ret (.attr (.loc 164) 159))
    .nil))))))⟩
noncomputable def fd_index_of : FD := ⟨[104],
    (.cons (.ite (.and (.cons (.cmp .eq (.sub (.loc 104) (.int 0)) (.glb 165)) (.cons (.cmp .eq (.sub (.loc 104) (.int 2)) (.glb 169)) .nil))) (.cons (.ret (.int 0))
    .nil) .nil)
    (.cons (.ret (.sub (.loc 104) (.int 2)))
    .nil))⟩
noncomputable def fd_read_whole : FD := ⟨[177, 104],
    (.cons (.ite (.cmp .eq (.sub (.loc 104) (.int 0)) (.glb 171)) (.cons (.ret (.call 149 (.cons (.attr (.loc 177) 139) (.cons (.sub (.loc 104) (.int 1)) .nil))))
    .nil) .nil)
    (.cons (.asg 119 (.call 176 (.cons (.loc 177) (.cons (.loc 104) .nil))))
    (.cons (.ite (.cmp .is (.loc 119) .none) (.cons (.ret .none)
    .nil) .nil)
    (.cons (.asg 59 (.call 178 (.cons (.loc 104) .nil)))
    (.cons (.ite (.or (.cons (.cmp .lt (.loc 59) (.int 0)) (.cons (.cmp .ge (.loc 59) (.len (.loc 119))) .nil))) (.cons (.ret .none)
    .nil) .nil)
    (.cons (.ret (.sub (.loc 119) (.loc 59)))
    .nil))))))⟩
noncomputable def fd_read_place : FD := ⟨[177, 104],
    (.cons (.asg 181 (.call 179 (.cons (.loc 177) (.cons (.loc 104) .nil))))
    (.cons (.ite (.cmp .is (.loc 181) .none) (.cons (.ret .none)
    .nil) .nil)
    (.cons (.ret (.call 99 (.cons (.loc 181) (.cons (.call 175 (.cons (.loc 104) .nil)) .nil))))
    .nil)))⟩
noncomputable def fd_write_place : FD := ⟨[177, 104, 82],
    (.cons (.asg 181 (.call 179 (.cons (.loc 177) (.cons (.loc 104) .nil))))
    (.cons (.ite (.or (.cons (.cmp .is (.loc 181) .none) (.cons (.cmp .is (.call 99 (.cons (.loc 181) (.cons (.call 175 (.cons (.loc 104) .nil)) .nil))) .none) .nil))) (.cons (.ret (.bool false))
    .nil) .nil)
    (.cons (.ite (.cmp .eq (.sub (.loc 104) (.int 0)) (.glb 171)) (.cons (.ret (.call 153 (.cons (.attr (.loc 177) 139) (.cons (.sub (.loc 104) (.int 1)) (.cons (.sub (.loc 104) (.int 2)) (.cons (.loc 82) .nil))))))
    .nil) .nil)
    (.cons (.asg 119 (.call 176 (.cons (.loc 177) (.cons (.loc 104) .nil))))
    (.cons (.setitem (.loc 119) (.call 178 (.cons (.loc 104) .nil)) (.call 102 (.cons (.loc 181) (.cons (.sub (.loc 104) (.int 3)) (.cons (.loc 82) .nil)))))
    (.cons (.ret (.bool true))
    .nil))))))⟩
noncomputable def fd_start_of : FD := ⟨[104],
    (.cons (.asg 100 (.call 175 (.cons (.loc 104) .nil)))
    (.cons (.asg 69 (.len (.loc 100)))
    (.cons (.while (.and (.cons (.cmp .gt (.loc 69) (.int 0)) (.cons (.cmp .eq (.sub (.loc 100) (.bin .sub (.loc 69) (.int 1))) (.int 0)) .nil))) (.cons (.aug 69 .sub (.int 1))
    .nil))
    (.cons (.ite (.cmp .eq (.sub (.loc 104) (.int 0)) (.glb 171)) (.cons (.ret (.tup (.cons (.glb 171) (.cons (.sub (.loc 104) (.int 1)) (.cons (.upto (.loc 100) (.loc 69)) .nil)))))
    .nil) .nil)
    (.cons (.ret (.tup (.cons (.sub (.loc 104) (.int 0)) (.cons (.sub (.loc 104) (.int 1)) (.cons (.sub (.loc 104) (.int 2)) (.cons (.upto (.loc 100) (.loc 69)) .nil))))))
    .nil)))))⟩
noncomputable def fd_same_place : FD := ⟨[185, 186],
    (.cons (.ret (.cmp .eq (.call 183 (.cons (.loc 185) .nil)) (.call 183 (.cons (.loc 186) .nil))))
    .nil)⟩
noncomputable def fd_law_RANGES : FD := ⟨[],
    (.cons (.ret (.dct (.cons (.int 1) (.cons (.tup (.cons (.int 0) (.cons (.int 256) .nil))) (.cons (.int 2) (.cons (.tup (.cons (.int 0) (.cons (.int 65536) .nil))) (.cons (.int 3) (.cons (.tup (.cons (.neg (.int 128)) (.cons (.int 256) .nil))) (.cons (.int 4) (.cons (.tup (.cons (.int 0) (.cons (.int 256) .nil))) (.cons (.int 5) (.cons (.tup (.cons (.neg (.int 32768)) (.cons (.int 65536) .nil))) (.cons (.int 6) (.cons (.tup (.cons (.int 0) (.cons (.int 65536) .nil))) (.cons (.int 7) (.cons (.tup (.cons (.neg (.int 2147483648)) (.cons (.int 4294967296) .nil))) (.cons (.int 8) (.cons (.tup (.cons (.neg (.int 2147483648)) (.cons (.int 4294967296) .nil))) (.cons (.int 9) (.cons (.tup (.cons (.neg (.int 9223372036854775808)) (.cons (.int 18446744073709551616) .nil))) (.cons (.int 10) (.cons (.tup (.cons (.neg (.int 9223372036854775808)) (.cons (.int 18446744073709551616) .nil))) (.cons (.int 11) (.cons (.tup (.cons (.neg (.int 2147483648)) (.cons (.int 4294967296) .nil))) .nil))))))))))))))))))))))))
    .nil)⟩
noncomputable def fd_law_cut : FD := ⟨[69, 70],
    (.cons (.asg 189 (.neg (.bin .pow (.int 2) (.bin .sub (.loc 70) (.int 1)))))
    (.cons (.ret (.bin .add (.bin .mod (.bin .sub (.loc 69) (.loc 189)) (.bin .pow (.int 2) (.loc 70))) (.loc 189)))
    .nil))⟩
noncomputable def fd_law_tag : FD := ⟨[118],
    (.cons (.ite (.or (.cons (.cmp .eq (.loc 118) (.int 9)) (.cons (.cmp .eq (.loc 118) (.int 10)) .nil))) (.cons (.ret (.int 2))
    .nil) .nil)
    (.cons (.ite (.cmp .eq (.loc 118) (.int 11)) (.cons (.ret (.int 3))
    .nil) .nil)
    (.cons (.ite (.cmp .eq (.loc 118) (.int 12)) (.cons (.ret (.int 4))
    .nil) .nil)
    (.cons (.ret (.int 1))
    .nil))))⟩
noncomputable def fd_law_cell : FD := ⟨[118, 192, 113],
    (.cons (.ite (.cmp .in_ (.loc 118) (.loc 192)) (.cons (.ret (.lst (.cons (.loc 118) (.cons (.comp 14 (.sub (.loc 192) (.loc 118)) (.call 191 (.cons (.loc 14) (.cons (.loc 192) (.cons (.loc 113) .nil))))) .nil))))
    .nil) .nil)
    (.cons (.ite (.cmp .eq (.loc 118) (.int 12)) (.cons (.ret (.lst (.cons (.loc 118) (.cons (.tup (.cons (.int 4) (.cons (.sub (.glb 193) (.bin .mod (.sub (.loc 113) (.int 0)) (.int 4))) .nil))) .nil))))
    .nil) .nil)
    (.cons (.augitem (.loc 113) (.int 0) .add (.int 1))
    (.cons (.ret (.lst (.cons (.loc 118) (.cons (.tup (.cons (.call 190 (.cons (.loc 118) .nil)) (.cons (.sub (.loc 113) (.int 0)) .nil))) .nil))))
    .nil))))⟩
noncomputable def fd_law_show : FD := ⟨[195, 192],
    (.cons (.ite (.cmp .in_ (.sub (.loc 195) (.int 0)) (.loc 192)) (.cons (.ret (.tup (.cons (.int 5) (.cons (.sub (.loc 195) (.int 0)) (.cons (.tuple (.comp 197 (.sub (.loc 195) (.int 1)) (.call 194 (.cons (.loc 197) (.cons (.loc 192) .nil))))) .nil)))))
    .nil) .nil)
    (.cons (.ret (.sub (.loc 195) (.int 1)))
    .nil))⟩
noncomputable def fd_law_put : FD := ⟨[195, 82, 192],
    (.cons (.ite (.cmp .in_ (.sub (.loc 195) (.int 0)) (.loc 192)) (.cons (.for_ 59 (.range (.len (.sub (.loc 195) (.int 1)))) (.cons (.expr (.call 198 (.cons (.sub (.sub (.loc 195) (.int 1)) (.loc 59)) (.cons (.sub (.sub (.loc 82) (.int 2)) (.loc 59)) (.cons (.loc 192) .nil)))))
    .nil))
    .nil) (.cons (.setitem (.loc 195) (.int 1) (.loc 82))
    .nil))
    .nil)⟩
noncomputable def fd_law_spots : FD := ⟨[200, 104, 195, 192, 201, 202],
    (.cons (.expr (.append (.loc 202) (.tup (.cons (.loc 200) (.cons (.loc 104) (.cons (.loc 195) (.cons (.loc 201) .nil)))))))
    (.cons (.ite (.cmp .notin (.sub (.loc 195) (.int 0)) (.loc 192)) (.cons (.ret (.bin .add (.loc 201) (.int 1)))
    .nil) .nil)
    (.cons (.for_ 59 (.range (.len (.sub (.loc 195) (.int 1)))) (.cons (.asg 201 (.call 199 (.cons (.loc 200) (.cons (.call 174 (.cons (.loc 104) (.cons (.loc 59) .nil))) (.cons (.sub (.sub (.loc 195) (.int 1)) (.loc 59)) (.cons (.loc 192) (.cons (.loc 201) (.cons (.loc 202) .nil))))))))
    .nil))
    (.cons (.ret (.loc 201))
    .nil))))⟩
noncomputable def fd_law_addresses : FD := ⟨[82],
    (.cons (.ite (.and (.cons (.cmp .eq (.sub (.loc 82) (.int 0)) (.int 4)) (.cons (.cmp .ne (.sub (.loc 82) (.int 1)) (.int 0)) .nil))) (.cons (.ret (.lst (.cons (.sub (.loc 82) (.int 1)) .nil)))
    .nil) .nil)
    (.cons (.asg 202 (.lst .nil))
    (.cons (.ite (.cmp .eq (.sub (.loc 82) (.int 0)) (.int 5)) (.cons (.for_ 197 (.sub (.loc 82) (.int 2)) (.cons (.asg 202 (.bin .add (.loc 202) (.call 203 (.cons (.loc 197) .nil))))
    .nil))
    .nil) .nil)
    (.cons (.ret (.loc 202))
    .nil))))⟩
noncomputable def fd_law_takes : FD := ⟨[118, 82, 192],
    (.cons (.ite (.cmp .in_ (.loc 118) (.loc 192)) (.cons (.ret (.and (.cons (.cmp .eq (.sub (.loc 82) (.int 0)) (.int 5)) (.cons (.cmp .eq (.sub (.loc 82) (.int 1)) (.loc 118)) .nil))))
    .nil) .nil)
    (.cons (.ite (.cmp .eq (.loc 118) (.int 12)) (.cons (.ret (.cmp .eq (.sub (.loc 82) (.int 0)) (.int 4)))
    .nil) .nil)
    (.cons (.ite (.or (.cons (.cmp .eq (.loc 118) (.int 9)) (.cons (.cmp .eq (.loc 118) (.int 10)) .nil))) (.cons (.ret (.cmp .eq (.sub (.loc 82) (.int 0)) (.int 2)))
    .nil) .nil)
    (.cons (.ite (.cmp .eq (.loc 118) (.int 11)) (.cons (.ret (.cmp .in_ (.sub (.loc 82) (.int 0)) (.tup (.cons (.int 1) (.cons (.int 3) (.cons (.int 7) .nil))))))
    .nil) .nil)
    (.cons (.ret (.cmp .in_ (.sub (.loc 82) (.int 0)) (.tup (.cons (.int 1) (.cons (.int 3) .nil)))))
    .nil)))))⟩
noncomputable def fd_law_keeps : FD := ⟨[118, 82],
    (.cons (.ite (.or (.cons (.cmp .notin (.loc 118) (.call 187 .nil)) (.cons (.cmp .gt (.sub (.loc 82) (.int 0)) (.int 3)) .nil))) (.cons (.ret (.loc 82))
    .nil) .nil)
    (.cons (.asg2 143 206 (.sub (.call 187 .nil) (.loc 118)))
    (.cons (.ret (.tup (.cons (.call 190 (.cons (.loc 118) .nil)) (.cons (.bin .add (.bin .mod (.bin .sub (.sub (.loc 82) (.int 1)) (.loc 143)) (.loc 206)) (.loc 143)) .nil))))
    .nil)))⟩
noncomputable def fd_law_made : FD := ⟨[118, 208, 192],
    (.cons (.ite (.cmp .in_ (.loc 118) (.loc 192)) (.cons (.asg 197 (.sub (.loc 192) (.loc 118)))
    (.cons (.ret (.tup (.cons (.int 5) (.cons (.loc 118) (.cons (.tuple (.comp 59 (.range (.len (.loc 197))) (.call 207 (.cons (.sub (.loc 197) (.loc 59)) (.cons (.bin .add (.loc 208) (.loc 59)) (.cons (.loc 192) .nil)))))) .nil)))))
    .nil)) .nil)
    (.cons (.ite (.cmp .eq (.loc 118) (.int 12)) (.cons (.ret (.tup (.cons (.int 4) (.cons (.sub (.glb 193) (.bin .mod (.loc 208) (.int 4))) .nil))))
    .nil) .nil)
    (.cons (.ret (.call 205 (.cons (.loc 118) (.cons (.tup (.cons (.int 1) (.cons (.loc 208) .nil))) .nil))))
    .nil)))⟩
noncomputable def fd_law_offered : FD := ⟨[118, 210, 192, 211],
    (.cons (.asg 208 (.bin .fdiv (.loc 210) (.int 4)))
    (.cons (.ite (.cmp .eq (.bin .mod (.loc 210) (.int 4)) (.int 3)) (.cons (.asg 30 (.bin .mod (.loc 208) (.int 7)))
    (.cons (.asg 208 (.bin .fdiv (.loc 208) (.int 7)))
    (.cons (.ite (.or (.cons (.cmp .eq (.loc 30) (.int 0)) (.cons (.cmp .eq (.loc 30) (.int 2)) .nil))) (.cons (.ret (.tup (.cons (.bin .add (.loc 30) (.int 1)) (.cons (.call 188 (.cons (.loc 208) (.cons (.int 32) .nil))) .nil))))
    .nil) .nil)
    (.cons (.ite (.cmp .eq (.loc 30) (.int 1)) (.cons (.ret (.tup (.cons (.int 2) (.cons (.call 188 (.cons (.loc 208) (.cons (.int 64) .nil))) .nil))))
    .nil) .nil)
    (.cons (.ite (.cmp .eq (.loc 30) (.int 3)) (.cons (.ret (.tup (.cons (.int 4) (.cons (.sub (.glb 193) (.bin .mod (.loc 208) (.int 4))) .nil))))
    .nil) .nil)
    (.cons (.ite (.cmp .eq (.loc 30) (.int 6)) (.cons (.ret (.tup (.cons (.int 7) (.cons (.tup (.cons (.int 12) (.cons (.bin .add (.int 1) (.bin .mod (.loc 208) (.int 2))) (.cons (.tup .nil) .nil)))) .nil))))
    .nil) .nil)
    (.cons (.ret (.call 207 (.cons (.sub (.loc 211) (.bin .sub (.loc 30) (.int 4))) (.cons (.loc 208) (.cons (.loc 192) .nil)))))
    .nil))))))) .nil)
    (.cons (.ite (.or (.cons (.cmp .in_ (.loc 118) (.loc 192)) (.cons (.cmp .eq (.loc 118) (.int 12)) .nil))) (.cons (.ret (.call 207 (.cons (.loc 118) (.cons (.loc 208) (.cons (.loc 192) .nil)))))
    .nil) .nil)
    (.cons (.ite (.or (.cons (.cmp .eq (.loc 118) (.int 9)) (.cons (.cmp .eq (.loc 118) (.int 10)) .nil))) (.cons (.ret (.tup (.cons (.int 2) (.cons (.call 188 (.cons (.loc 208) (.cons (.int 64) .nil))) .nil))))
    .nil) .nil)
    (.cons (.ret (.tup (.cons (.bin .add (.int 1) (.bin .mul (.int 2) (.bin .mod (.loc 208) (.int 2)))) (.cons (.call 188 (.cons (.bin .fdiv (.loc 208) (.int 2)) (.cons (.int 32) .nil))) .nil))))
    .nil)))))⟩
noncomputable def fd_law_nowhere : FD := ⟨[213, 104],
    (.cons (.ite (.cmp .isnot (.call 180 (.cons (.sub (.loc 213) (.str 177)) (.cons (.loc 104) .nil))) .none) (.cons (.ret (.bool false))
    .nil) .nil)
    (.cons (.asg 214 (.call 182 (.cons (.sub (.loc 213) (.str 177)) (.cons (.loc 104) (.cons (.tup (.cons (.int 1) (.cons (.int 5) .nil))) .nil)))))
    (.cons (.ret (.and (.cons (.isbool (.loc 214)) (.cons (.not (.loc 214)) .nil))))
    .nil)))⟩
noncomputable def fd_law_seen : FD := ⟨[213, 218],
    (.cons (.ite (.and (.cons (.cmp .in_ (.sub (.loc 218) (.int 0)) (.glb 220)) (.cons (.cmp .eq (.sub (.sub (.loc 213) (.str 219)) (.int 0)) (.int 1)) .nil))) (.cons (.ret .none)
    .nil) .nil)
    (.cons (.ret (.call 194 (.cons (.sub (.loc 218) (.int 2)) (.cons (.sub (.loc 213) (.str 192)) .nil))))
    .nil))⟩
noncomputable def fd_law_write : FD := ⟨[213, 218, 82],
    (.cons (.ite (.cmp .is (.call 217 (.cons (.loc 213) (.cons (.loc 218) .nil))) .none) (.cons (.ret (.call 212 (.cons (.loc 213) (.cons (.sub (.loc 218) (.int 1)) .nil))))
    .nil) .nil)
    (.cons (.asg 214 (.call 182 (.cons (.sub (.loc 213) (.str 177)) (.cons (.sub (.loc 218) (.int 1)) (.cons (.loc 82) .nil)))))
    (.cons (.expr (.call 198 (.cons (.sub (.loc 218) (.int 2)) (.cons (.loc 82) (.cons (.sub (.loc 213) (.str 192)) .nil)))))
    (.cons (.asg 200 (.sub (.loc 218) (.int 0)))
    (.cons (.ite (.and (.cons (.cmp .in_ (.loc 200) (.sub (.loc 213) (.str 223))) (.cons (.cmp .gt (.len (.call 203 (.cons (.call 194 (.cons (.sub (.sub (.loc 213) (.str 222)) (.loc 200)) (.cons (.sub (.loc 213) (.str 192)) .nil))) .nil))) (.int 0)) .nil))) (.cons (.setitem (.sub (.loc 213) (.str 133)) (.bin .fdiv (.sub (.sub (.loc 213) (.str 223)) (.loc 200)) (.bin .pow (.int 2) (.sub (.loc 213) (.str 70)))) (.int 1))
    .nil) .nil)
    (.cons (.ret (.and (.cons (.isbool (.loc 214)) (.cons (.loc 214) .nil))))
    .nil))))))⟩
noncomputable def fd_law_slots : FD := ⟨[213, 82],
    (.cons (.for2 30 225 (.sub (.loc 213) (.str 226)) (.cons (.asg 227 (.or (.cons (.cmp .eq (.sub (.loc 82) (.int 0)) (.loc 30)) (.cons (.and (.cons (.cmp .eq (.loc 30) (.int 6)) (.cons (.cmp .eq (.loc 82) (.tup (.cons (.int 4) (.cons (.int 0) .nil)))) .nil))) .nil))))
    (.cons (.for_ 118 (.loc 225) (.cons (.asg 214 (.call 97 (.cons (.sub (.loc 213) (.str 40)) (.cons (.loc 82) (.cons (.loc 118) .nil)))))
    (.cons (.ite (.or (.cons (.not (.isbool (.loc 214))) (.cons (.cmp .ne (.loc 214) (.loc 227)) .nil))) (.cons (.ret (.bool false))
    .nil) .nil)
    .nil)))
    .nil)))
    (.cons (.ret (.bool true))
    .nil))⟩
noncomputable def fd_law_drawn_write : FD := ⟨[213, 218, 210],
    (.cons (.asg 118 (.sub (.sub (.loc 218) (.int 2)) (.int 0)))
    (.cons (.asg 82 (.call 209 (.cons (.loc 118) (.cons (.loc 210) (.cons (.sub (.loc 213) (.str 192)) (.cons (.sub (.loc 213) (.str 211)) .nil))))))
    (.cons (.ite (.or (.cons (.not (.call 224 (.cons (.loc 213) (.cons (.loc 82) .nil)))) (.cons (.not (.call 224 (.cons (.loc 213) (.cons (.tup (.cons (.int 6) (.cons (.sub (.loc 218) (.int 1)) .nil))) .nil)))) .nil))) (.cons (.ret (.bool false))
    .nil) .nil)
    (.cons (.asg 230 (.call 97 (.cons (.sub (.loc 213) (.str 40)) (.cons (.loc 82) (.cons (.loc 118) .nil)))))
    (.cons (.ite (.or (.cons (.not (.isbool (.loc 230))) (.cons (.cmp .ne (.loc 230) (.call 204 (.cons (.loc 118) (.cons (.loc 82) (.cons (.sub (.loc 213) (.str 192)) .nil))))) .nil))) (.cons (.ret (.bool false))
    .nil) .nil)
    (.cons (.ite (.not (.loc 230)) (.cons (.ret (.bool true))
    .nil) .nil)
    (.cons (.asg 229 (.call 81 (.cons (.sub (.loc 213) (.str 40)) (.cons (.loc 118) (.cons (.loc 82) .nil)))))
    (.cons (.ite (.cmp .ne (.loc 229) (.call 205 (.cons (.loc 118) (.cons (.loc 82) .nil)))) (.cons (.ret (.bool false))
    .nil) .nil)
    (.cons (.ret (.call 221 (.cons (.loc 213) (.cons (.loc 218) (.cons (.loc 229) .nil)))))
    .nil)))))))))⟩
noncomputable def fd_law_copy : FD := ⟨[213, 218, 82, 210],
    (.cons (.asg 232 (.compIf 234 (.sub (.loc 213) (.str 233)) (.cmp .eq (.sub (.sub (.loc 234) (.int 2)) (.int 0)) (.sub (.sub (.loc 218) (.int 2)) (.int 0))) (.loc 234)))
    (.cons (.ret (.call 221 (.cons (.loc 213) (.cons (.sub (.loc 232) (.bin .mod (.loc 210) (.len (.loc 232)))) (.cons (.loc 82) .nil)))))
    .nil))⟩
noncomputable def fd_law_box : FD := ⟨[213, 218, 82],
    (.cons (.asg 118 (.sub (.sub (.loc 218) (.int 2)) (.int 0)))
    (.cons (.ite (.or (.cons (.cmp .eq (.loc 118) (.int 12)) (.cons (.cmp .ge (.len (.sub (.loc 213) (.str 222))) (.int 21)) .nil))) (.cons (.ret (.bool true))
    .nil) .nil)
    (.cons (.asg 140 (.call 138 (.cons (.attr (.sub (.loc 213) (.str 177)) 139) (.cons (.loc 118) (.cons (.lst (.cons (.loc 82) .nil)) .nil)))))
    (.cons (.ite (.cmp .ne (.attr (.loc 140) 117) (.sub (.sub (.loc 213) (.str 110)) (.int 0))) (.cons (.ret (.bool false))
    .nil) .nil)
    (.cons (.augitem (.sub (.loc 213) (.str 110)) (.int 0) .add (.int 3))
    (.cons (.asg 195 (.call 191 (.cons (.loc 118) (.cons (.sub (.loc 213) (.str 192)) (.cons (.lst (.cons (.int 0) .nil)) .nil)))))
    (.cons (.expr (.call 198 (.cons (.loc 195) (.cons (.loc 82) (.cons (.sub (.loc 213) (.str 192)) .nil)))))
    (.cons (.expr (.call 199 (.cons (.len (.sub (.loc 213) (.str 222))) (.cons (.call 170 (.cons (.loc 140) (.cons (.int 0) .nil))) (.cons (.loc 195) (.cons (.sub (.loc 213) (.str 192)) (.cons (.int 0) (.cons (.sub (.loc 213) (.str 233)) .nil))))))))
    (.cons (.expr (.append (.sub (.loc 213) (.str 222)) (.loc 195)))
    (.cons (.expr (.append (.sub (.loc 213) (.str 236)) (.tup (.cons (.attr (.loc 140) 119) (.cons (.lst (.cons (.loc 195) .nil)) .nil)))))
    (.cons (.ret (.bool true))
    .nil)))))))))))⟩
noncomputable def fd_law_compare : FD := ⟨[213, 218, 82, 210],
    (.cons (.asg 238 (.sub (.sub (.loc 213) (.str 233)) (.bin .mod (.loc 210) (.len (.sub (.loc 213) (.str 233))))))
    (.cons (.asg 214 (.call 184 (.cons (.sub (.loc 218) (.int 1)) (.cons (.sub (.loc 238) (.int 1)) .nil))))
    (.cons (.ite (.or (.cons (.not (.isbool (.loc 214))) (.cons (.cmp .ne (.loc 214) (.and (.cons (.cmp .eq (.sub (.loc 218) (.int 0)) (.sub (.loc 238) (.int 0))) (.cons (.cmp .eq (.sub (.loc 218) (.int 3)) (.sub (.loc 238) (.int 3))) .nil)))) .nil))) (.cons (.ret (.bool false))
    .nil) .nil)
    (.cons (.ret (.cmp .eq (.call 108 (.cons (.loc 82) .nil)) (.call 203 (.cons (.loc 82) .nil))))
    .nil))))⟩
noncomputable def fd_law_deed : FD := ⟨[213, 240, 241, 210],
    (.cons (.asg 30 (.bin .mod (.loc 240) (.int 8)))
    (.cons (.asg 155 (.attr (.sub (.loc 213) (.str 177)) 155))
    (.cons (.ite (.and (.cons (.cmp .eq (.loc 30) (.int 7)) (.cons (.cmp .in_ (.int 9) (.loc 155)) .nil))) (.cons (.del (.loc 155) (.int 9))
    (.cons (.setitem (.sub (.loc 213) (.str 219)) (.int 0) (.int 1))
    .nil)) .nil)
    (.cons (.ite (.cmp .eq (.bin .mod (.loc 241) (.int 9)) (.int 8)) (.cons (.ret (.call 212 (.cons (.loc 213) (.cons (.sub (.sub (.loc 213) (.str 242)) (.bin .mod (.bin .fdiv (.loc 241) (.int 9)) (.len (.sub (.loc 213) (.str 242))))) .nil))))
    .nil) .nil)
    (.cons (.asg 218 (.sub (.sub (.loc 213) (.str 233)) (.bin .mod (.bin .fdiv (.loc 241) (.int 9)) (.len (.sub (.loc 213) (.str 233))))))
    (.cons (.ite (.cmp .eq (.bin .mod (.loc 241) (.int 9)) (.int 7)) (.cons (.asg 101 (.neg (.int 1)))
    (.cons (.ite (.cmp .eq (.bin .mod (.loc 210) (.int 2)) (.int 0)) (.cons (.asg 101 (.int 0))
    (.cons (.ite (.cmp .in_ (.sub (.sub (.loc 218) (.int 2)) (.int 0)) (.sub (.loc 213) (.str 192))) (.cons (.asg 101 (.len (.sub (.sub (.loc 218) (.int 2)) (.int 1))))
    .nil) .nil)
    .nil)) .nil)
    (.cons (.ret (.call 212 (.cons (.loc 213) (.cons (.call 174 (.cons (.sub (.loc 218) (.int 1)) (.cons (.loc 101) .nil))) .nil))))
    .nil))) .nil)
    (.cons (.asg 82 (.call 180 (.cons (.sub (.loc 213) (.str 177)) (.cons (.sub (.loc 218) (.int 1)) .nil))))
    (.cons (.ite (.cmp .ne (.loc 82) (.call 217 (.cons (.loc 213) (.cons (.loc 218) .nil)))) (.cons (.ret (.bool false))
    .nil) .nil)
    (.cons (.ite (.cmp .le (.loc 30) (.int 2)) (.cons (.ret (.call 228 (.cons (.loc 213) (.cons (.loc 218) (.cons (.loc 210) .nil)))))
    .nil) .nil)
    (.cons (.ite (.cmp .is (.loc 82) .none) (.cons (.ret (.bool true))
    .nil) .nil)
    (.cons (.ite (.cmp .le (.loc 30) (.int 4)) (.cons (.ret (.call 231 (.cons (.loc 213) (.cons (.loc 218) (.cons (.loc 82) (.cons (.loc 210) .nil))))))
    .nil) .nil)
    (.cons (.ite (.cmp .eq (.loc 30) (.int 5)) (.cons (.ret (.call 235 (.cons (.loc 213) (.cons (.loc 218) (.cons (.loc 82) .nil)))))
    .nil) .nil)
    (.cons (.ret (.call 237 (.cons (.loc 213) (.cons (.loc 218) (.cons (.loc 82) (.cons (.loc 210) .nil))))))
    .nil)))))))))))))⟩
noncomputable def fd_law_world : FD := ⟨[244],
    (.cons (.asg 40 (.new 12 .nil))
    (.cons (.asg 247 (.call 54 (.cons (.loc 40) (.cons (.int 64) (.cons (.tup .nil) .nil)))))
    (.cons (.asg 246 (.call 54 (.cons (.loc 40) (.cons (.int 65) (.cons (.tup .nil) .nil)))))
    (.cons (.asg 260 (.call 54 (.cons (.loc 40) (.cons (.int 66) (.cons (.tup .nil) .nil)))))
    (.cons (.asg 248 (.call 51 (.cons (.loc 40) (.cons (.int 67) (.cons (.tup .nil) .nil)))))
    (.cons (.asg 192 (.dct (.cons (.loc 247) (.cons (.tup (.cons (.int 4) (.cons (.int 12) (.cons (.int 5) .nil)))) (.cons (.loc 246) (.cons (.tup (.cons (.int 9) (.cons (.loc 247) .nil))) (.cons (.loc 260) (.cons (.tup (.cons (.loc 246) (.cons (.int 3) (.cons (.loc 247) (.cons (.int 11) .nil))))) .nil))))))))
    (.cons (.asg 261 (.tup (.cons (.tup (.cons (.int 7) (.cons (.loc 246) .nil))) (.cons (.tup (.cons (.loc 247) (.cons (.int 1) (.cons (.loc 260) .nil)))) (.cons (.tup (.cons (.loc 246) .nil)) (.cons (.tup (.cons (.int 12) .nil)) (.cons (.tup (.cons (.int 8) (.cons (.loc 247) .nil))) (.cons (.tup (.cons (.int 10) (.cons (.loc 247) (.cons (.int 6) .nil)))) (.cons (.tup (.cons (.int 2) (.cons (.loc 246) (.cons (.int 12) .nil)))) (.cons (.tup (.cons (.loc 247) (.cons (.loc 247) .nil))) (.cons (.tup (.cons (.loc 260) .nil)) .nil)))))))))))
    (.cons (.asg 113 (.lst (.cons (.int 0) .nil)))
    (.cons (.asg 251 (.comp 253 (.loc 261) (.comp 14 (.loc 253) (.call 191 (.cons (.loc 14) (.cons (.loc 192) (.cons (.loc 113) .nil)))))))
    (.cons (.asg 10 (.comp 253 (.loc 251) (.comp 195 (.loc 253) (.call 194 (.cons (.loc 195) (.cons (.loc 192) .nil))))))
    (.cons (.asg 250 (.new 162 (.cons (.int 7) (.cons (.sub (.loc 10) (.int 0)) (.cons (.sub (.loc 10) (.int 1)) .nil)))))
    (.cons (.setattr (.loc 250) 160 (.sub (.loc 10) (.int 2)))
    (.cons (.asg 245 (.new 162 (.cons (.int 9) (.cons (.sub (.loc 10) (.int 3)) (.cons (.sub (.loc 10) (.int 4)) .nil)))))
    (.cons (.asg 249 (.new 162 (.cons (.int 12) (.cons (.lst .nil) (.cons (.lst .nil) .nil)))))
    (.cons (.setattr (.loc 249) 161 (.int 7))
    (.cons (.asg 257 (.new 162 (.cons (.int 99) (.cons (.lst (.cons (.tup (.cons (.int 1) (.cons (.int 0) .nil))) .nil)) (.cons (.lst (.cons (.tup (.cons (.int 1) (.cons (.int 0) .nil))) .nil)) .nil)))))
    (.cons (.asg 139 (.new 137 (.cons (.int 400) (.cons (.bin .mod (.loc 244) (.int 4)) .nil))))
    (.cons (.asg 256 (.call 138 (.cons (.loc 139) (.cons (.loc 248) (.cons (.sub (.loc 10) (.int 6)) .nil)))))
    (.cons (.asg 255 (.call 138 (.cons (.loc 139) (.cons (.call 55 (.cons (.loc 40) (.cons (.loc 247) .nil))) (.cons (.sub (.loc 10) (.int 7)) .nil)))))
    (.cons (.asg 254 (.call 138 (.cons (.loc 139) (.cons (.loc 260) (.cons (.sub (.loc 10) (.int 8)) .nil)))))
    (.cons (.asg 258 (.sub (.glb 259) (.bin .mod (.bin .fdiv (.loc 244) (.int 4)) (.int 8))))
    (.cons (.setattr (.loc 256) 122 (.sub (.loc 258) (.int 0)))
    (.cons (.setattr (.loc 255) 122 (.sub (.loc 258) (.int 1)))
    (.cons (.setattr (.loc 254) 122 (.sub (.loc 258) (.int 2)))
    (.cons (.asg 223 (.dct .nil))
    (.cons (.ite (.cmp .gt (.sub (.loc 258) (.int 0)) (.int 0)) (.cons (.setitem (.loc 223) (.int 12) (.int 18))
    (.cons (.setitem (.loc 223) (.int 13) (.int 19))
    (.cons (.setitem (.loc 223) (.int 14) (.int 20))
    .nil))) .nil)
    (.cons (.ite (.cmp .gt (.sub (.loc 258) (.int 1)) (.int 0)) (.cons (.setitem (.loc 223) (.int 15) (.int 23))
    (.cons (.setitem (.loc 223) (.int 16) (.int 24))
    .nil)) .nil)
    (.cons (.ite (.cmp .gt (.sub (.loc 258) (.int 2)) (.int 0)) (.cons (.setitem (.loc 223) (.int 17) (.int 27))
    .nil) .nil)
    (.cons (.asg 252 (.lst (.cons (.call 166 (.cons (.loc 250) (.cons (.int 0) .nil))) (.cons (.call 166 (.cons (.loc 249) (.cons (.int 1) .nil))) (.cons (.call 163 (.cons (.loc 250) (.cons (.int 0) .nil))) (.cons (.call 163 (.cons (.loc 249) (.cons (.int 1) .nil))) (.cons (.call 163 (.cons (.loc 249) (.cons (.int 2) .nil))) (.cons (.call 168 (.cons (.loc 249) .nil)) (.cons (.call 166 (.cons (.loc 245) (.cons (.int 0) .nil))) (.cons (.call 163 (.cons (.loc 245) (.cons (.int 0) .nil))) (.cons (.call 163 (.cons (.loc 245) (.cons (.int 1) .nil))) (.cons (.call 172 (.cons (.loc 248) (.cons (.int 0) .nil))) (.cons (.call 172 (.cons (.loc 248) (.cons (.int 1) .nil))) (.cons (.call 172 (.cons (.loc 248) (.cons (.int 2) .nil))) (.cons (.call 170 (.cons (.loc 256) (.cons (.int 0) .nil))) (.cons (.call 170 (.cons (.loc 256) (.cons (.int 1) .nil))) (.cons (.call 170 (.cons (.loc 256) (.cons (.int 2) .nil))) (.cons (.call 170 (.cons (.loc 255) (.cons (.int 0) .nil))) (.cons (.call 170 (.cons (.loc 255) (.cons (.int 1) .nil))) (.cons (.call 170 (.cons (.loc 254) (.cons (.int 0) .nil))) .nil))))))))))))))))))))
    (.cons (.asg 242 (.lst (.cons (.call 163 (.cons (.loc 250) (.cons (.int 3) .nil))) (.cons (.call 163 (.cons (.loc 250) (.cons (.neg (.int 2)) .nil))) (.cons (.call 166 (.cons (.loc 249) (.cons (.neg (.int 1)) .nil))) (.cons (.call 166 (.cons (.loc 250) (.cons (.int 2) .nil))) (.cons (.call 168 (.cons (.loc 245) .nil)) (.cons (.call 163 (.cons (.loc 257) (.cons (.int 0) .nil))) (.cons (.call 166 (.cons (.loc 257) (.cons (.int 0) .nil))) (.cons (.call 172 (.cons (.int 13) (.cons (.int 0) .nil))) (.cons (.call 172 (.cons (.loc 248) (.cons (.int 3) .nil))) (.cons (.call 172 (.cons (.loc 248) (.cons (.neg (.int 1)) .nil))) (.cons (.call 170 (.cons (.loc 256) (.cons (.int 3) .nil))) (.cons (.call 170 (.cons (.loc 256) (.cons (.neg (.int 1)) .nil))) (.cons (.call 170 (.cons (.loc 256) (.cons (.neg (.int 2)) .nil))) (.cons (.call 170 (.cons (.loc 256) (.cons (.neg (.int 3)) .nil))) (.cons (.call 170 (.cons (.loc 255) (.cons (.int 2) .nil))) (.cons (.call 170 (.cons (.loc 255) (.cons (.neg (.int 1)) .nil))) (.cons (.call 170 (.cons (.loc 254) (.cons (.int 1) .nil))) (.cons (.call 170 (.cons (.loc 254) (.cons (.int 4975) .nil))) .nil))))))))))))))))))))
    (.cons (.asg 226 (.tup (.cons (.tup (.cons (.int 4) (.cons (.tup (.cons (.int 13) (.cons (.int 14) (.cons (.loc 248) (.cons (.call 55 (.cons (.loc 40) (.cons (.int 7) .nil))) (.cons (.call 60 (.cons (.loc 40) (.cons (.loc 247) .nil))) .nil)))))) .nil))) (.cons (.tup (.cons (.int 6) (.cons (.tup (.cons (.call 57 (.cons (.loc 40) (.cons (.int 7) .nil))) (.cons (.call 61 (.cons (.loc 40) (.cons (.loc 247) .nil))) .nil))) .nil))) (.cons (.tup (.cons (.int 7) (.cons (.tup (.cons (.call 62 (.cons (.loc 40) (.cons (.loc 248) (.cons (.int 1) (.cons (.tup .nil) .nil))))) .nil)) .nil))) (.cons (.tup (.cons (.int 0) (.cons (.tup (.cons (.int 0) (.cons (.int 15) (.cons (.call 58 (.cons (.loc 40) (.cons (.int 0) .nil))) .nil)))) .nil))) .nil))))))
    (.cons (.asg 222 (.lst .nil))
    (.cons (.for_ 253 (.loc 251) (.cons (.asg 222 (.bin .add (.loc 222) (.loc 253)))
    .nil))
    (.cons (.asg 233 (.lst .nil))
    (.cons (.for_ 59 (.range (.len (.loc 252))) (.cons (.expr (.call 199 (.cons (.loc 59) (.cons (.sub (.loc 252) (.loc 59)) (.cons (.sub (.loc 222) (.loc 59)) (.cons (.loc 192) (.cons (.int 0) (.cons (.loc 233) .nil))))))))
    .nil))
    (.cons (.asg 236 (.comp 59 (.range (.int 9)) (.tup (.cons (.sub (.loc 10) (.loc 59)) (.cons (.sub (.loc 251) (.loc 59)) .nil)))))
    (.cons (.ret (.dct (.cons (.str 40) (.cons (.loc 40) (.cons (.str 177) (.cons (.new 157 (.cons (.loc 139) (.cons (.dct (.cons (.int 7) (.cons (.loc 250) (.cons (.int 9) (.cons (.loc 245) (.cons (.int 12) (.cons (.loc 249) .nil))))))) (.cons (.dct (.cons (.loc 248) (.cons (.sub (.loc 10) (.int 5)) .nil))) .nil)))) (.cons (.str 192) (.cons (.loc 192) (.cons (.str 211) (.cons (.tup (.cons (.loc 247) (.cons (.loc 246) .nil))) (.cons (.str 226) (.cons (.loc 226) (.cons (.str 233) (.cons (.loc 233) (.cons (.str 222) (.cons (.loc 222) (.cons (.str 236) (.cons (.loc 236) (.cons (.str 242) (.cons (.loc 242) (.cons (.str 223) (.cons (.loc 223) (.cons (.str 133) (.cons (.dct .nil) (.cons (.str 70) (.cons (.bin .mod (.loc 244) (.int 4)) (.cons (.str 219) (.cons (.lst (.cons (.int 0) .nil)) (.cons (.str 110) (.cons (.lst (.cons (.int 28) .nil)) (.cons (.str 245) (.cons (.loc 245) .nil))))))))))))))))))))))))))))))))
    .nil)))))))))))))))))))))))))))))))))))))⟩
noncomputable def fd_law_settled : FD := ⟨[213],
    (.cons (.for2 263 251 (.sub (.loc 213) (.str 236)) (.cons (.ite (.cmp .ne (.loc 263) (.comp 195 (.loc 251) (.call 194 (.cons (.loc 195) (.cons (.sub (.loc 213) (.str 192)) .nil))))) (.cons (.ret (.bool false))
    .nil) .nil)
    .nil))
    (.cons (.asg 139 (.attr (.sub (.loc 213) (.str 177)) 139))
    (.cons (.ite (.or (.cons (.cmp .ne (.attr (.sub (.loc 213) (.str 245)) 160) (.lst .nil)) (.cons (.cmp .ne (.bin .sub (.len (.sub (.loc 213) (.str 236))) (.int 6)) (.len (.attr (.loc 139) 136))) .nil))) (.cons (.ret (.bool false))
    .nil) .nil)
    (.cons (.ret (.and (.cons (.cmp .eq (.attr (.loc 139) 133) (.sub (.loc 213) (.str 133))) (.cons (.cmp .eq (.attr (.loc 139) 110) (.sub (.sub (.loc 213) (.str 110)) (.int 0))) .nil))))
    .nil))))⟩
noncomputable def fd_law : FD := ⟨[265],
    (.cons (.asg 244 (.int 0))
    (.cons (.ite (.cmp .gt (.len (.loc 265)) (.int 0)) (.cons (.asg 244 (.sub (.loc 265) (.int 0)))
    .nil) .nil)
    (.cons (.asg 213 (.call 243 (.cons (.loc 244) .nil)))
    (.cons (.asg 113 (.max (.int 1) (.min (.int 12) (.bin .fdiv (.bin .add (.len (.loc 265)) (.int 1)) (.int 3)))))
    (.cons (.for_ 247 (.range (.loc 113)) (.cons (.asg 9 (.lst (.cons (.int 0) (.cons (.int 0) (.cons (.int 0) .nil)))))
    (.cons (.for_ 266 (.range (.int 3)) (.cons (.ite (.cmp .lt (.bin .add (.bin .add (.bin .mul (.int 3) (.loc 247)) (.loc 266)) (.int 1)) (.len (.loc 265))) (.cons (.setitem (.loc 9) (.loc 266) (.sub (.loc 265) (.bin .add (.bin .add (.bin .mul (.int 3) (.loc 247)) (.loc 266)) (.int 1))))
    .nil) .nil)
    .nil))
    (.cons (.ite (.not (.call 239 (.cons (.loc 213) (.cons (.sub (.loc 9) (.int 0)) (.cons (.sub (.loc 9) (.int 1)) (.cons (.sub (.loc 9) (.int 2)) .nil)))))) (.cons (.ret (.bool false))
    .nil) .nil)
    .nil))))
    (.cons (.asg 208 (.bin .fdiv (.loc 244) (.int 32)))
    (.cons (.asg 218 (.sub (.sub (.loc 213) (.str 233)) (.bin .mod (.loc 208) (.len (.sub (.loc 213) (.str 233))))))
    (.cons (.ite (.not (.call 221 (.cons (.loc 213) (.cons (.loc 218) (.cons (.call 207 (.cons (.sub (.sub (.loc 218) (.int 2)) (.int 0)) (.cons (.loc 208) (.cons (.sub (.loc 213) (.str 192)) .nil)))) .nil))))) (.cons (.ret (.bool false))
    .nil) .nil)
    (.cons (.ret (.call 262 (.cons (.loc 213) .nil)))
    .nil)))))))))⟩
noncomputable def FT : List (Nat × FD) := [(0, fd_KindTable_init), (13, fd_KindTable_row), (16, fd_KindTable_put), (21, fd_inner_kinds), (23, fd_row_level), (39, fd_row_length), (26, fd_check_kind_row), (41, fd_check_named), (42, fd_check_args), (43, fd_may_stand), (51, fd_class_kind), (54, fd_value_kind), (53, fd_prim_kind), (55, fd_array_kind), (57, fd_byref_kind), (58, fd_var_kind), (60, fd_boxed_kind), (61, fd_roref_kind), (62, fd_ftn_kind), (45, fd_is_value), (44, fd_is_var), (68, fd_wrap_bits), (71, fd_wrap32), (72, fd_wrap64), (73, fd_cut_to), (81, fd_store_as), (87, fd_tag_of), (88, fd_tag_of_row), (97, fd_fits), (99, fd_get_path), (102, fd_put_path), (108, fd_refs_in), (112, fd_words_for), (116, fd_Thing_init), (124, fd_Heap_init), (138, fd_heap_alloc), (141, fd_find_thing), (147, fd_slot_word), (148, fd_slot_at), (149, fd_read_slot), (150, fd_holds_reference), (151, fd_card_number), (152, fd_store_slot), (153, fd_write_slot), (154, fd_PlaceHost_init), (158, fd_CellFrame_init), (163, fd_local_place), (166, fd_arg_place), (168, fd_keep_place), (170, fd_heap_place), (172, fd_static_place), (174, fd_field_place), (175, fd_path_of), (176, fd_slots_of), (178, fd_index_of), (179, fd_read_whole), (180, fd_read_place), (182, fd_write_place), (183, fd_start_of), (184, fd_same_place), (187, fd_law_RANGES), (188, fd_law_cut), (190, fd_law_tag), (191, fd_law_cell), (194, fd_law_show), (198, fd_law_put), (199, fd_law_spots), (203, fd_law_addresses), (204, fd_law_takes), (205, fd_law_keeps), (207, fd_law_made), (209, fd_law_offered), (212, fd_law_nowhere), (217, fd_law_seen), (221, fd_law_write), (224, fd_law_slots), (228, fd_law_drawn_write), (231, fd_law_copy), (235, fd_law_box), (237, fd_law_compare), (239, fd_law_deed), (243, fd_law_world), (262, fd_law_settled), (264, fd_law)]
noncomputable def GL : Ctx := ⟨[(4, (.int 16)), (11, (.int 1)), (19, (.int 24)), (24, (.int 7)), (25, (.int 6)), (31, (.int 10)), (32, (.int 11)), (33, (.int 9)), (34, (.int 8)), (35, (.int 5)), (36, (.int 4)), (37, (.int 3)), (38, (.int 2)), (46, (.fdct [20, 9, 10, 11, 12, 13, 14, 15, 16, 17, 18, 19, 1, 4])), (49, (.int 14)), (50, (.int 0)), (66, (.int 11)), (67, (.int 1)), (74, (.int 10)), (75, (.int 9)), (76, (.int 5)), (77, (.int 3)), (78, (.int 6)), (79, (.int 2)), (80, (.int 4)), (83, (.int 3)), (84, (.int 2)), (85, (.int 1)), (89, (.int 13)), (90, (.int 12)), (91, (.int 4)), (92, (.int 8)), (93, (.int (-1))), (94, (.int 7)), (95, (.int 6)), (96, (.int 5)), (98, (.tup [(.int 4), (.int 0)])), (114, (.int 2)), (115, (.int 3)), (134, (.int 16)), (165, (.int 1)), (167, (.int 2)), (169, (.int (-1))), (171, (.int 3)), (173, (.int 4)), (193, (.tup [(.int 0), (.int 16), (.int 21), (.int 25)])), (220, (.tup [(.int 6), (.int 7), (.int 8)])), (259, (.tup [(.tup [(.int 0), (.int 0), (.int 0)]), (.tup [(.int 1), (.int 0), (.int 0)]), (.tup [(.int 1), (.int 1), (.int 0)]), (.tup [(.int 1), (.int 1), (.int 1)]), (.tup [(.int 2), (.int 0), (.int 0)]), (.tup [(.int 2), (.int 1), (.int 0)]), (.tup [(.int 2), (.int 2), (.int 1)]), (.tup [(.int 2), (.int 2), (.int 2)])]))],
  [(12, 0), (123, 116), (137, 124), (157, 154), (162, 158)],
  [(12, [(9, 13), (29, 16)]), (123, []), (137, []), (157, []), (162, [])],
  [(12, [10, 8, 7, 6]), (123, [117, 118, 119, 122, 121, 120]), (137, [136, 135, 110, 125, 133, 126, 132, 131, 130, 129, 128, 127]), (157, [139, 155, 156]), (162, [2, 161, 47, 159, 160])]⟩
noncomputable abbrev k_KindTable_init : Nat := 0
noncomputable abbrev k_KindTable_row : Nat := 13
noncomputable abbrev k_KindTable_put : Nat := 16
noncomputable abbrev k_inner_kinds : Nat := 21
noncomputable abbrev k_row_level : Nat := 23
noncomputable abbrev k_row_length : Nat := 39
noncomputable abbrev k_check_kind_row : Nat := 26
noncomputable abbrev k_check_named : Nat := 41
noncomputable abbrev k_check_args : Nat := 42
noncomputable abbrev k_may_stand : Nat := 43
noncomputable abbrev k_class_kind : Nat := 51
noncomputable abbrev k_value_kind : Nat := 54
noncomputable abbrev k_prim_kind : Nat := 53
noncomputable abbrev k_array_kind : Nat := 55
noncomputable abbrev k_byref_kind : Nat := 57
noncomputable abbrev k_var_kind : Nat := 58
noncomputable abbrev k_boxed_kind : Nat := 60
noncomputable abbrev k_roref_kind : Nat := 61
noncomputable abbrev k_ftn_kind : Nat := 62
noncomputable abbrev k_is_value : Nat := 45
noncomputable abbrev k_is_var : Nat := 44
noncomputable abbrev k_wrap_bits : Nat := 68
noncomputable abbrev k_wrap32 : Nat := 71
noncomputable abbrev k_wrap64 : Nat := 72
noncomputable abbrev k_cut_to : Nat := 73
noncomputable abbrev k_store_as : Nat := 81
noncomputable abbrev k_tag_of : Nat := 87
noncomputable abbrev k_tag_of_row : Nat := 88
noncomputable abbrev k_fits : Nat := 97
noncomputable abbrev k_get_path : Nat := 99
noncomputable abbrev k_put_path : Nat := 102
noncomputable abbrev k_refs_in : Nat := 108
noncomputable abbrev k_words_for : Nat := 112
noncomputable abbrev k_Thing_init : Nat := 116
noncomputable abbrev k_Heap_init : Nat := 124
noncomputable abbrev k_heap_alloc : Nat := 138
noncomputable abbrev k_find_thing : Nat := 141
noncomputable abbrev k_slot_word : Nat := 147
noncomputable abbrev k_slot_at : Nat := 148
noncomputable abbrev k_read_slot : Nat := 149
noncomputable abbrev k_holds_reference : Nat := 150
noncomputable abbrev k_card_number : Nat := 151
noncomputable abbrev k_store_slot : Nat := 152
noncomputable abbrev k_write_slot : Nat := 153
noncomputable abbrev k_PlaceHost_init : Nat := 154
noncomputable abbrev k_CellFrame_init : Nat := 158
noncomputable abbrev k_local_place : Nat := 163
noncomputable abbrev k_arg_place : Nat := 166
noncomputable abbrev k_keep_place : Nat := 168
noncomputable abbrev k_heap_place : Nat := 170
noncomputable abbrev k_static_place : Nat := 172
noncomputable abbrev k_field_place : Nat := 174
noncomputable abbrev k_path_of : Nat := 175
noncomputable abbrev k_slots_of : Nat := 176
noncomputable abbrev k_index_of : Nat := 178
noncomputable abbrev k_read_whole : Nat := 179
noncomputable abbrev k_read_place : Nat := 180
noncomputable abbrev k_write_place : Nat := 182
noncomputable abbrev k_start_of : Nat := 183
noncomputable abbrev k_same_place : Nat := 184
noncomputable abbrev k_law_RANGES : Nat := 187
noncomputable abbrev k_law_cut : Nat := 188
noncomputable abbrev k_law_tag : Nat := 190
noncomputable abbrev k_law_cell : Nat := 191
noncomputable abbrev k_law_show : Nat := 194
noncomputable abbrev k_law_put : Nat := 198
noncomputable abbrev k_law_spots : Nat := 199
noncomputable abbrev k_law_addresses : Nat := 203
noncomputable abbrev k_law_takes : Nat := 204
noncomputable abbrev k_law_keeps : Nat := 205
noncomputable abbrev k_law_made : Nat := 207
noncomputable abbrev k_law_offered : Nat := 209
noncomputable abbrev k_law_nowhere : Nat := 212
noncomputable abbrev k_law_seen : Nat := 217
noncomputable abbrev k_law_write : Nat := 221
noncomputable abbrev k_law_slots : Nat := 224
noncomputable abbrev k_law_drawn_write : Nat := 228
noncomputable abbrev k_law_copy : Nat := 231
noncomputable abbrev k_law_box : Nat := 235
noncomputable abbrev k_law_compare : Nat := 237
noncomputable abbrev k_law_deed : Nat := 239
noncomputable abbrev k_law_world : Nat := 243
noncomputable abbrev k_law_settled : Nat := 262
noncomputable abbrev k_law : Nat := 264
end Mine
end
section
set_option maxRecDepth 100000
namespace Mine
/-! the evaluator: what must hold for a run to end as Q says, by recursion on the text -/
noncomputable def kU (ρ : Loc) (Q : Flow → AH → Prop) : Unit → AH → Prop := fun _ H => Q (.next ρ) H
section
variable (C : Nat → List V → M V)
mutual
noncomputable def wE : E → Loc → (V → AH → Prop) → AH → Prop
  | .none, ρ, Q, H => Q .none H
  | .bool b, ρ, Q, H => Q (.bool b) H
  | .int i, ρ, Q, H => Q (.int i) H
  | .str k, ρ, Q, H => Q (.str k) H
  | .loc x, ρ, Q, H => lQ (look ρ x) Q H
  | .glb x, ρ, Q, H => lQ (look GL.glob x) Q H
  | .bin op a b, ρ, Q, H => wE a ρ (fun va H => wE b ρ (fun vb H => wBin op va vb Q H) H) H
  | .neg a, ρ, Q, H => wE a ρ (fun v H => onInt v fun i => Q (.int (-i)) H) H
  | .not a, ρ, Q, H => wE a ρ (fun v H => wTru v (fun b H => Q (.bool (!b)) H) H) H
  | .and es, ρ, Q, H => wAnd es ρ Q H
  | .or es, ρ, Q, H => wOr es ρ Q H
  | .cmp op a b, ρ, Q, H => wE a ρ (fun va H => wE b ρ (fun vb H => wCmp op va vb (fun r H => Q (.bool r) H) H) H) H
  | .cmp2 o1 o2 a b c, ρ, Q, H => wE a ρ (fun va H => wE b ρ (fun vb H => wCmp o1 va vb (fun r H => ifK r (wE c ρ (fun vc H => wCmp o2 vb vc (fun r H => Q (.bool r) H) H) H) (Q (.bool false) H)) H) H) H
  | .call f es, ρ, Q, H => wEs es ρ (fun vs H => wp (C f vs) Q H) H
  | .new c es, ρ, Q, H => wEs es ρ (fun vs H => wAl (.inst c []) (fun o H => oQ (look GL.init c) (fun f H => wp (C f (o :: vs)) (fun r H => onNone r (Q o H)) H) H) H) H
  | .len e, ρ, Q, H => wE e ρ (fun v H => wp (lenV v) Q H) H
  | .tuple e, ρ, Q, H => wE e ρ (fun v H => wp (tupleV v) Q H) H
  | .isbool e, ρ, Q, H => wE e ρ (fun v H => isB v fun b => Q (.bool b) H) H
  | .max a b, ρ, Q, H => wE a ρ (fun va H => wE b ρ (fun vb H => onInt va fun x => onInt vb fun y => Q (.int (if x < y then y else x)) H) H) H
  | .min a b, ρ, Q, H => wE a ρ (fun va H => wE b ρ (fun vb H => onInt va fun x => onInt vb fun y => Q (.int (if y < x then y else x)) H) H) H
  | .range e, ρ, Q, H => wE e ρ (fun v H => onInt v fun n => bQ (decide (0 ≤ n) && decide (n ≤ 1000000)) (Q (.rng n.toNat) H)) H
  | .append o e, ρ, Q, H => wE o ρ (fun vo H => wp (isLstV vo) (fun _ H => wE e ρ (fun v H => wp (appendV vo v) Q H) H) H) H
  | .pop o, ρ, Q, H => wE o ρ (fun vo H => wp (popV vo) Q H) H
  | .get o k, ρ, Q, H => wE o ρ (fun vo H => wp (isDctV vo) (fun _ H => wE k ρ (fun vk H => wp (getV vo vk .none) Q H) H) H) H
  | .get2 o k d, ρ, Q, H => wE o ρ (fun vo H => wp (isDctV vo) (fun _ H => wE k ρ (fun vk H => wE d ρ (fun vd H => wp (getV vo vk vd) Q H) H) H) H) H
  | .meth o m es, ρ, Q, H => wE o ρ (fun vo H => wp (clsV vo m) (fun c H => oQ (look GL.meth c) (fun ms H => oQ (look ms m) (fun f H => wEs es ρ (fun vs H => wp (C f (vo :: vs)) Q H) H) H) H) H) H
  | .attr o f, ρ, Q, H => wE o ρ (fun vo H => wp (attrV GL.fld vo f) Q H) H
  | .sub o i, ρ, Q, H => wE o ρ (fun vo H => wE i ρ (fun vi H => wSub vo vi Q H) H) H
  | .upto o i, ρ, Q, H => wE o ρ (fun vo H => wE i ρ (fun vi H => wp (uptoV vo vi) Q H) H) H
  | .from_ o i, ρ, Q, H => wE o ρ (fun vo H => wE i ρ (fun vi H => wp (fromV vo vi) Q H) H) H
  | .tup es, ρ, Q, H => wEs es ρ (fun vs H => Q (.tup vs) H) H
  | .lst es, ρ, Q, H => wEs es ρ (fun vs H => wAl (.lst vs) Q H) H
  | .dct es, ρ, Q, H => wEs es ρ (fun vs H => wp (dctV (kdE es) [] vs) Q H) H
  | .comp x it e, ρ, Q, H => wE it ρ (fun v H => wIt v (fun it H => wp (compL (fun v Q => wE e (Mine.put ρ x v) (fun y H => Q (some y) H)) fuelL it []) (fun vs H => wAl (.lst vs) Q H) H) H) H
  | .compIf x it c e, ρ, Q, H => wE it ρ (fun v H => wIt v (fun it H => wp (compL (fun v Q => wE c (Mine.put ρ x v) (fun c H => wTru c (fun b H => ifK b (wE e (Mine.put ρ x v) (fun y H => Q (some y) H) H) (Q none H)) H)) fuelL it []) (fun vs H => wAl (.lst vs) Q H) H) H) H
noncomputable def wEs : Es → Loc → (List V → AH → Prop) → AH → Prop
  | .nil, ρ, Q, H => Q [] H
  | .cons e es, ρ, Q, H => wE e ρ (fun v H => wEs es ρ (fun vs H => Q (v :: vs) H) H) H
noncomputable def wAnd : Es → Loc → (V → AH → Prop) → AH → Prop
  | .nil, ρ, Q, H => Q (.bool true) H
  | .cons e es, ρ, Q, H => wE e ρ (fun v H => onBool v fun b => ifK b (wAnd es ρ Q H) (Q (.bool false) H)) H
noncomputable def wOr : Es → Loc → (V → AH → Prop) → AH → Prop
  | .nil, ρ, Q, H => Q (.bool false) H
  | .cons e es, ρ, Q, H => wE e ρ (fun v H => onBool v fun b => ifK b (Q (.bool true) H) (wOr es ρ Q H)) H
end
mutual
noncomputable def wS : S → Loc → (Flow → AH → Prop) → AH → Prop
  | .asg x e, ρ, Q, H => wE C e ρ (fun v H => Q (.next (Mine.put ρ x v)) H) H
  | .asg2 x y e, ρ, Q, H => wE C e ρ (fun v H => onPair v fun a b => Q (.next (Mine.put (Mine.put ρ x a) y b)) H) H
  | .setattr o f e, ρ, Q, H => wE C e ρ (fun v H => wE C o ρ (fun vo H => wp (setattrV GL.fld vo f v) (kU ρ Q) H) H) H
  | .setitem o i e, ρ, Q, H => wE C e ρ (fun v H => wE C o ρ (fun vo H => wE C i ρ (fun vi H => wp (setV vo vi v) (kU ρ Q) H) H) H) H
  | .aug x op e, ρ, Q, H => lQ (look ρ x) (fun old H => wE C e ρ (fun v H => wOn op old v (fun r H => Q (.next (Mine.put ρ x r)) H) H) H) H
  | .augattr o f op e, ρ, Q, H => wE C o ρ (fun vo H => wp (attrV GL.fld vo f) (fun old H => wE C e ρ (fun v H => wOn op old v (fun r H => wp (setattrV GL.fld vo f r) (kU ρ Q) H) H) H) H) H
  | .augitem o i op e, ρ, Q, H => wE C o ρ (fun vo H => wE C i ρ (fun vi H => wSub vo vi (fun old H => wE C e ρ (fun v H => wOn op old v (fun r H => wp (setV vo vi r) (kU ρ Q) H) H) H) H) H) H
  | .del o i, ρ, Q, H => wE C o ρ (fun vo H => wE C i ρ (fun vi H => wp (delV vo vi) (kU ρ Q) H) H) H
  | .ite c t e, ρ, Q, H => wE C c ρ (fun v H => wTru v (fun b H => ifK b (wSs t ρ Q H) (wSs e ρ Q H)) H) H
  | .while c b, ρ, Q, H => wp (whileL (fun ρ Q => wE C c ρ (fun v H => wTru v Q H)) (fun ρ Q H => wSs b ρ Q H) fuelL ρ) Q H
  | .for_ x it b, ρ, Q, H => wE C it ρ (fun v H => wIt v (fun it H => wp (forL (fun v ρ Q H => wSs b (Mine.put ρ x v) Q H) fuelL it ρ) Q H) H) H
  | .for2 x y it b, ρ, Q, H => wE C it ρ (fun v H => wIt v (fun it H => wp (forL (fun v ρ Q H => onPair v fun p q => wSs b (Mine.put (Mine.put ρ x p) y q) Q H) fuelL it ρ) Q H) H) H
  | .ret e, ρ, Q, H => wE C e ρ (fun v H => Q (.ret v) H) H
  | .expr e, ρ, Q, H => wE C e ρ (fun v H => Q (.next ρ) H) H
  | .raise, _, _, _ => False
noncomputable def wSs : Ss → Loc → (Flow → AH → Prop) → AH → Prop
  | .nil, ρ, Q, H => Q (.next ρ) H
  | .cons s ss, ρ, Q, H => wS s ρ (flowK (fun ρ' H => wSs ss ρ' Q H) (fun v H => Q (.ret v) H)) H
end
end
/-- what runs behind a function's body -/
noncomputable def kFin (Q : V → AH → Prop) : Flow → AH → Prop := flowK (fun _ H => Q .none H) Q
noncomputable def callF : Nat → Nat → List V → M V
  | 0, _, _ => fun _ _ => False
  | n + 1, f, args => fun Q H => oQ (look FT f) (fun fd H => oQ (zipP fd.params args) (fun ρ H => wSs (callF n) fd.body ρ (kFin Q) H) H) H
end Mine
end
section
set_option maxRecDepth 100000
namespace Mine
/-! small facts of both parts -/
theorem bQ.of {b : Bool} {P : Prop} (h : bQ b P) : b = true ∧ P := by cases b; exact h.elim; exact ⟨rfl, h⟩
theorem oQ.of {α : Type} {o : Option α} {Q : α → AH → Prop} {H : AH} (h : oQ o Q H) : ∃ a, o = some a ∧ Q a H := by cases o; exact h.elim; exact ⟨_, rfl, h⟩
theorem lQ.of {α : Type} {o : Option α} {Q : α → AH → Prop} {H : AH} (h : lQ o Q H) : ∃ a, o = some a ∧ Q a H := by cases o; exact h.elim; exact ⟨_, rfl, h⟩
theorem both {a b : Bool} (h : (a && b) = true) : a = true ∧ b = true := Bool.and_eq_true_iff.mp h
theorem nd {p : Prop} [Decidable p] (h : (!decide p) = true) : ¬ p := by simpa using h
theorem beq_dec (i j : Nat) : Nat.beq i j = decide (i = j) := by
  cases e : Nat.beq i j with
  | true => exact (decide_eq_true (Nat.eq_of_beq_eq_true e)).symm
  | false => exact (decide_eq_false (Nat.ne_of_beq_eq_false e)).symm
theorem look_cons {α : Type} (k x : Nat) (v : α) (r : List (Nat × α)) : look ((k, v) :: r) x = if k = x then some v else look r x := by
  show (match Nat.beq k x with | true => some v | false => look r x) = _
  rw [beq_dec]
  by_cases e : k = x
  · rw [if_pos e, decide_eq_true e]
  · rw [if_neg e, decide_eq_false e]
theorem put_cons {α : Type} (k x : Nat) (u v : α) (r : List (Nat × α)) : Mine.put ((k, u) :: r) x v = if k = x then (x, v) :: r else (k, u) :: Mine.put r x v := by
  show (match Nat.beq k x with | true => (x, v) :: r | false => (k, u) :: Mine.put r x v) = _
  rw [beq_dec]
  by_cases e : k = x
  · rw [if_pos e, decide_eq_true e]
  · rw [if_neg e, decide_eq_false e]
theorem look_mem {α : Type} {x : Nat} {v : α} : ∀ {l : List (Nat × α)}, look l x = some v → (x, v) ∈ l
  | (k, u) :: r, h => by
    rw [look_cons] at h
    by_cases e : k = x
    · rw [if_pos e] at h; cases h; rw [e]; exact List.mem_cons_self
    · rw [if_neg e] at h; exact List.mem_cons_of_mem _ (look_mem h)
theorem look_put {α : Type} {x y : Nat} {v : α} : ∀ {ρ : List (Nat × α)}, look (Mine.put ρ x v) y = if x = y then some v else look ρ y
  | [] => look_cons x y v []
  | (k, u) :: r => by
    rw [put_cons]
    by_cases e : k = x
    · subst e
      rw [if_pos rfl, look_cons, look_cons]
      by_cases e : k = y
      · rw [if_pos e, if_pos e]
      · rw [if_neg e, if_neg e, if_neg e]
    · rw [if_neg e, look_cons, look_put, look_cons]
      by_cases q : k = y
      · rw [if_pos q, if_neg (fun z : x = y => e (q.trans z.symm)), if_pos q]
      · rw [if_neg q, if_neg q]
theorem at_end {α : Type} {l : List α} {x : α} : (l ++ [x])[l.length]? = some x := by simp
theorem snoc_at {α : Type} {l : List α} {x y : α} {i : Nat} (h : (l ++ [x])[i]? = some y) : l[i]? = some y ∨ (i = l.length ∧ y = x) := by
  by_cases hi : i < l.length
  · exact .inl (by rwa [List.getElem?_append_left hi] at h)
  · have lt := (List.getElem?_eq_some_iff.mp h).1
    rw [List.length_append, List.length_singleton] at lt
    obtain rfl : i = l.length := Nat.le_antisymm (Nat.le_of_lt_succ lt) (Nat.le_of_not_lt hi)
    exact .inr ⟨rfl, (Option.some.inj (at_end.symm.trans h)).symm⟩
end Mine
end
section
set_option maxRecDepth 100000
/-! keys that are tuples of ints and of tuples of ints -/
namespace Mine
open PySem PySem.W PyProof.Rows PySem.Calls

noncomputable abbrev TI := Sum Int (List Int)
section
variable {prog : Program} {w : World}
noncomputable def itemIs (prog : Program) (w : World) (h : Heap) : TI → Value → Prop
  | .inl i, v => ∃ t, v = .int i t
  | .inr js, v => ∃ b, v = .ref b ∧ IsTupleKey (intKind prog w) h js b
inductive Items2 (prog : Program) (w : World) (h : Heap) : List TI → List Value → Prop
  | nil : Items2 prog w h [] []
  | cons {k v ks vs} : itemIs prog w h k v → Items2 prog w h ks vs → Items2 prog w h (k :: ks) (v :: vs)
noncomputable def IsKey2 (prog : Program) (w : World) (h : Heap) (ks : List TI) (a : Addr) : Prop := ∃ o items n, h.get? a = some o ∧ o.cls = .type "tuple" ∧ o.data = .seq items n ∧ Items2 prog w h ks items.toList

theorem itemIs.inj {h : Heap} {x y : TI} {v : Value} (hx : itemIs prog w h x v) (hy : itemIs prog w h y v) : x = y := by
  cases x with
  | inl i =>
    obtain ⟨t, rfl⟩ := hx
    cases y with
    | inl j => obtain ⟨u, e⟩ := hy; injection e with e _; rw [e]
    | inr js => obtain ⟨b, e, _⟩ := hy; cases e
  | inr is =>
    obtain ⟨a, rfl, ka⟩ := hx
    cases y with
    | inl j => obtain ⟨u, e⟩ := hy; cases e
    | inr js => obtain ⟨b, e, kb⟩ := hy; injection e with e; subst e; rw [ka.inj kb]
theorem Items2.inj {h : Heap} {x y : List TI} {vs : List Value} (hx : Items2 prog w h x vs) (hy : Items2 prog w h y vs) : x = y := by
  induction hx generalizing y with
  | nil => cases hy; rfl
  | cons h1 _ ih => cases hy with | cons h2 t2 => rw [h1.inj h2, ih t2]
theorem IsKey2.typeIs {s : Shared} {ks a} (x : IsKey2 prog w s.heap ks a) : s.TypeIs (.ref a) "tuple" := let ⟨o, _, _, ho, hc, _⟩ := x; ⟨o, ho, hc⟩
theorem IsKey2.inj {h : Heap} {a : Addr} {x y : List TI} (hx : IsKey2 prog w h x a) (hy : IsKey2 prog w h y a) : x = y := by
  obtain ⟨o, items, n, ho, _, hd, hi⟩ := hx
  obtain ⟨o', items', n', ho', _, hd', hi'⟩ := hy
  obtain rfl : o = o' := Option.some.inj (ho.symm.trans ho')
  rw [hd] at hd'
  injection hd' with h1 _
  subst h1
  exact hi.inj hi'
theorem itemIs.keeps {h h' : Heap} {k : TI} {v : Value} {d : Addr} {o : Obj} {es ep} (ho : h.get? d = some o) (hd : o.data = .dict es ep) (hs : Heap.SameBut d h h') (x : itemIs prog w h k v) : itemIs prog w h' k v := by
  cases k with
  | inl i => exact x
  | inr js => obtain ⟨b, e, kb⟩ := x; exact ⟨b, e, kb.keeps ho hd hs⟩
theorem Items2.keeps {h h' : Heap} {d : Addr} {o : Obj} {es ep} (ho : h.get? d = some o) (hd : o.data = .dict es ep) (hs : Heap.SameBut d h h') : ∀ {ks vs}, Items2 prog w h ks vs → Items2 prog w h' ks vs
  | _, _, .nil => .nil
  | _, _, .cons a b => .cons (a.keeps ho hd hs) (Items2.keeps ho hd hs b)
theorem IsKey2.keeps {h h' : Heap} {ks : List TI} {a d : Addr} {o : Obj} {es ep} (x : IsKey2 prog w h ks a) (ho : h.get? d = some o) (hd : o.data = .dict es ep) (hs : Heap.SameBut d h h') : IsKey2 prog w h' ks a := by
  obtain ⟨o', items, n, ho', hc, hd', hi⟩ := x
  have hne : a ≠ d := by
    rintro rfl
    obtain rfl : o' = o := Option.some.inj (ho'.symm.trans ho)
    rw [hd] at hd'; exact nomatch hd'
  exact ⟨o', items, n, (hs.2 a hne).trans ho', hc, hd', hi.keeps ho hd hs⟩

noncomputable def itemHash (prog : Program) (w : World) : TI → Int
  | .inl i => hashInt i
  | .inr js => tupleKeyHash (intKind prog w) js
noncomputable def itemDraws : TI → Nat
  | .inl _ => 1
  | .inr js => js.length + 1
noncomputable def hash2 (prog : Program) (w : World) (ks : List TI) : Int := reduceHash (Builtin.Tuple.tupleHashOf (ks.map (itemHash prog w)))
noncomputable def draws2 (ks : List TI) : Nat := (ks.map itemDraws).sum + 1

variable {A : Around} {E : Value → Shared → Prop} {s : Shared}
theorem pyHash_item {k : TI} {v : Value} {Q : Int → Shared → Prop} (hu : A.units < cLine) (hk : itemIs prog w s.heap k v) (h : Q (itemHash prog w k) { s with toks := s.toks + itemDraws k }) : wpAny (model prog w) A (pyHash v) Q E s := by
  cases k with
  | inl i => obtain ⟨t, rfl⟩ := hk; exact (intKind prog w).pyHash (by simp [intKind, Value.isInt]) h
  | inr js => obtain ⟨b, rfl, kb⟩ := hk; exact wpAny_pyHash_tuple hu kb h

theorem pyHash_key2 {ks : List TI} {a : Addr} {Q : Int → Shared → Prop} (hu : A.units + 64 < cLine) (hk : IsKey2 prog w s.heap ks a) (h : Q (hash2 prog w ks) { s with toks := s.toks + draws2 ks }) :
    wpAny (model prog w) A (pyHash (.ref a)) Q E s := by
  have hT := hk.typeIs
  obtain ⟨o, items, n, ho, _, hd, hi⟩ := hk
  unfold pyHash
  first | unfold pyHashByItsType | skip
  refine wpAny_bind (wpAny_cRoomFor_or (.inr (by omega)) ?_)
  refine wpAny_bind (wpAny_specialOf hT F.slot_tuple_hash.lookup ?_)
  show wpAny _ _ (if (some (Value.builtin "tuple.__hash__") == some Value.none) = true then _ else _) Q E s
  rw [if_neg (by rw [beq_builtin_none]; exact Bool.false_ne_true)]
  refine wpAny_bind (wpAny_specialOf hT F.slot_tuple_hash.lookup ?_)
  show wpAny _ _ (callSpecialIfBoundUnlessNone? (.ref a) "__hash__" _ >>= _) Q E s
  refine wpAny_bind (wpAny_callSpecialIfBoundUnlessNone?_slot hT F.slot_tuple_hash (wpAny_call_entry F.slot_tuple_hash hT F.entry_tuple_hash ?_ (F.args_tuple_hash_1 _)))
  show wpAny _ _ (Builtin.Tuple.tupleItemsOf (.ref a) >>= _) _ _ s
  refine wpAny_bind (wpAny_tupleItemsOf ho hd ?_)
  refine wpAny_bind ?_
  rw [← Array.forIn_toList]
  refine wpAny_forIn_list _
    (fun rest (b : Array Int) s' => ∃ done left, ks = done ++ left ∧ Items2 prog w s.heap left rest ∧ b.toList = done.map (itemHash prog w) ∧ s' = { s with toks := s.toks + (done.map itemDraws).sum })
    _ ?_ ?_ _ _ ⟨[], ks, rfl, hi, rfl, rfl⟩
  · rintro x rest b s' ⟨done, left, rfl, hl, hb, rfl⟩
    cases hl with
    | @cons k _ ks' _ h1 hl' =>
      refine wpAny_bind (pyHash_item (k := k) (by show A.units + 1 < cLine; omega) h1 ?_)
      first
        | exact wpAny_pure ⟨done ++ [k], ks', by simp, hl', by simp [hb], by simp [Nat.add_assoc]⟩
        | exact wpAny_bind (wpAny_pure (wpAny_pure ⟨done ++ [k], ks', by simp, hl', by simp [hb], by simp [Nat.add_assoc]⟩))
  · rintro b s' ⟨done, left, rfl, hl, hb, rfl⟩
    cases hl
    rw [List.append_nil] at h
    show wpAny _ _ (retInt (Builtin.Tuple.tupleHashOf b.toList)) _ _ _
    rw [hb]
    refine wpAny_ret_mkInt ?_
    unfold hash2 reduceHash draws2 at h
    show wpAny _ _ (if (decide (-(2 : Int) ^ 63 ≤ Builtin.Tuple.tupleHashOf (done.map (itemHash prog w))) && decide (Builtin.Tuple.tupleHashOf (done.map (itemHash prog w)) < 2 ^ 63)) = true then _ else _) Q E _
    by_cases hr : (decide (-(2 : Int) ^ 63 ≤ Builtin.Tuple.tupleHashOf (done.map (itemHash prog w))) && decide (Builtin.Tuple.tupleHashOf (done.map (itemHash prog w)) < 2 ^ 63)) = true
    · rw [if_pos hr]
      rw [if_pos hr] at h
      exact wpAny_pure (by simpa [Nat.add_assoc] using h)
    · rw [if_neg hr]
      rw [if_neg hr] at h
      exact wpAny_bind (wpAny_rule (wpAny_pure (by simpa [Nat.add_assoc] using h)))

noncomputable def itemP : TI → PyData
  | .inl i => .int i
  | .inr js => .tuple (js.map .int)
theorem ints_read {h : Heap} : ∀ {js : List Int} {vs : List Value}, ItemsAre (intKind prog w) js vs → ReadsAll h vs (js.map .int) []
  | _, _, .nil => .nil
  | _, _, .cons (k := k) (v := v) h1 r => by
    have : ∃ t, v = .int k t := by
      cases v <;> simp [intKind, Value.isInt] at h1
      subst h1; exact ⟨_, rfl⟩
    obtain ⟨t, rfl⟩ := this
    exact .cons (.int k t) (ints_read r)
theorem item_reads {h : Heap} {k : TI} {v : Value} (x : itemIs prog w h k v) : Reads h v (itemP k) [] := by
  cases k with
  | inl i => obtain ⟨t, rfl⟩ := x; exact .int i t
  | inr js => obtain ⟨b, rfl, o, items, n, ho, hc, hd, hi⟩ := x; exact .tuple ho hc hd (ints_read hi)
theorem items_read {h : Heap} : ∀ {ks : List TI} {vs : List Value}, Items2 prog w h ks vs → ReadsAll h vs (ks.map itemP) []
  | _, _, .nil => .nil
  | _, _, .cons a b => .cons (item_reads a) (items_read b)
theorem key2_reads {h : Heap} {ks : List TI} {a : Addr} (x : IsKey2 prog w h ks a) : Reads h (.ref a) (.tuple (ks.map itemP)) [] := by
  obtain ⟨o, items, n, ho, hc, hd, hi⟩ := x
  exact .tuple ho hc hd (items_read hi)
theorem eqv_ints : ∀ (a b : List Int), PyData.eqvAll (a.map .int) (b.map .int) = decide (a = b)
  | [], [] => by simp [PyData.eqvAll]
  | [], _ :: _ => by simp [PyData.eqvAll]
  | _ :: _, [] => by simp [PyData.eqvAll]
  | x :: a, y :: b => by
    simp only [List.map_cons, PyData.eqvAll, PyData.eqv, eqv_ints a b]
    by_cases h : x = y <;> by_cases h' : a = b <;> simp [h, h']
theorem eqv_item (a b : TI) : PyData.eqv (itemP a) (itemP b) = decide (a = b) := by
  cases a with
  | inl i =>
    cases b with
    | inl j => simp only [itemP, PyData.eqv]; by_cases h : i = j <;> simp [h]
    | inr js => simp [itemP, PyData.eqv]
  | inr is =>
    cases b with
    | inl j => simp [itemP, PyData.eqv]
    | inr js => simp only [itemP, PyData.eqv, eqv_ints]; by_cases h : is = js <;> simp [h]
theorem eqv_items : ∀ (a b : List TI), PyData.eqvAll (a.map itemP) (b.map itemP) = decide (a = b)
  | [], [] => by simp [PyData.eqvAll]
  | [], _ :: _ => by simp [PyData.eqvAll]
  | _ :: _, [] => by simp [PyData.eqvAll]
  | x :: a, y :: b => by
    simp only [List.map_cons, PyData.eqvAll, eqv_item, eqv_items a b]
    by_cases h : x = y <;> by_cases h' : a = b <;> simp [h, h']
theorem canLay_ints : ∀ l : List Int, PyData.canLayAll0 (l.map .int) = true
  | [] => rfl
  | _ :: l => by simp [PyData.canLayAll0, PyData.canLay0, canLay_ints l]
theorem canLay_items : ∀ l : List TI, PyData.canLayAll0 (l.map itemP) = true
  | [] => rfl
  | .inl _ :: l => by simp [PyData.canLayAll0, PyData.canLay0, itemP, canLay_items l]
  | .inr js :: l => by simp [PyData.canLayAll0, PyData.canLay0, itemP, canLay_items l, canLay_ints js]
theorem depth_ints : ∀ l : List Int, PyData.depthAll (l.map .int) ≤ 1
  | [] => by simp [PyData.depthAll]
  | _ :: l => by have := depth_ints l; simp [PyData.depthAll, PyData.depth]; omega
theorem depth_items : ∀ l : List TI, PyData.depthAll (l.map itemP) ≤ 3
  | [] => by simp [PyData.depthAll]
  | .inl _ :: l => by have := depth_items l; simp [PyData.depthAll, PyData.depth, itemP]; omega
  | .inr js :: l => by have := depth_items l; have := depth_ints js; simp [PyData.depthAll, PyData.depth, itemP]; omega
theorem eqBool_key2 {x y : List TI} {a b : Addr} {Q : Bool → Shared → Prop} (hu : A.units + 64 < cLine) (hx : IsKey2 prog w s.heap x a) (hy : IsKey2 prog w s.heap y b) (h : Q (decide (x = y)) s) : wpAny (model prog w) A (eqBool (.ref a) (.ref b)) Q E s := by
  have hd : A.units + min (PyData.tuple (x.map itemP)).depth (PyData.tuple (y.map itemP)).depth < cLine := by
    have := depth_items x
    have h2 : (PyData.tuple (x.map itemP)).depth ≤ 4 := by simp [PyData.depth]; omega
    have := Nat.min_le_left (PyData.tuple (x.map itemP)).depth (PyData.tuple (y.map itemP)).depth
    omega
  refine PySem.SeqAt.eqBoolOverData prog w A E s (.ref a) (.ref b) (.tuple (x.map itemP)) (.tuple (y.map itemP)) [] [] Q (key2_reads hx) (key2_reads hy) (by simp [PyData.canLay0, canLay_items]) (by simp [PyData.canLay0, canLay_items]) hd ?_
  rw [show PyData.eqv (.tuple (x.map itemP)) (.tuple (y.map itemP)) = decide (x = y) from by simp only [PyData.eqv, eqv_items]]
  exact h

/-- a tuple of items that are quiet is quiet -/
theorem quiet_tuple {n : Nat} {a : Addr} {o : Obj} {items : Array Value} {k : Nat} {Q : Bool → Shared → Prop} (ho : s.heap.get? a = some o) (hc : o.cls = .type "tuple") (hd : o.data = .seq items k)
    (hq : ∀ v ∈ items.toList, ∀ {Q : Bool → Shared → Prop}, Q true s → wpAny (model prog w) A (eqIsQuiet n v) Q E s) (h : Q true s) : wpAny (model prog w) A (eqIsQuiet (n + 1) (.ref a)) Q E s := by
  have hT : s.TypeIs (.ref a) "tuple" := ⟨o, ho, hc⟩
  unfold eqIsQuiet
  refine wpAny_bind (wpAny_specialOf hT F.slot_tuple_eq.lookup ?_)
  show wpAny _ _ (isInstance (.ref a) (.type "tuple") >>= _) _ _ s
  refine wpAny_bind (wpAny_isInstance hT isSubtype_tuple_tuple ?_)
  simp only [Bool.not_true, Bool.false_eq_true, if_false]
  refine wpAny_bind (wpAny_seqItems ho hd ?_)
  refine wpAny_bind ?_
  show wpAny _ _ (forIn items _ _) _ _ s
  rw [← Array.forIn_toList]
  refine wpAny_forIn_list _ (fun rest r s' => r.1 = none ∧ s' = s ∧ ∀ v ∈ rest, v ∈ items.toList) _ ?_ ?_ _ _ ⟨rfl, rfl, fun _ h => h⟩
  · rintro v rest r s' ⟨hr, rfl, hall⟩
    refine wpAny_bind (hq v (hall v List.mem_cons_self) ?_)
    simp only [Bool.not_true, Bool.false_eq_true, if_false]
    exact wpAny_pure ⟨rfl, rfl, fun u hu' => hall u (List.mem_cons_of_mem _ hu')⟩
  · rintro ⟨r1, r2⟩ s' ⟨hr, rfl, _⟩
    simp only at hr
    subst hr
    exact wpAny_pure h
theorem quiet_flat {n : Nat} {v : Value} {Q : Bool → Shared → Prop} (hv : carriedByValue v = true) (h : Q true s) : wpAny (model prog w) A (eqIsQuiet n v) Q E s := by
  rw [eqIsQuiet_byValue _ hv]; exact wpAny_pure h
theorem Items2.mem {h : Heap} : ∀ {ks : List TI} {vs : List Value}, Items2 prog w h ks vs → ∀ v ∈ vs, ∃ k, itemIs prog w h k v
  | _, _, .cons a b, v, hv => by
    cases hv with
    | head => exact ⟨_, a⟩
    | tail _ hv => exact Items2.mem b v hv
theorem quiet_key2 {ks : List TI} {a : Addr} {Q : Bool → Shared → Prop} (hk : IsKey2 prog w s.heap ks a) (h : Q true s) : wpAny (model prog w) A (eqIsQuiet 8 (.ref a)) Q E s := by
  obtain ⟨o, items, n, ho, hc, hd, hi⟩ := hk
  refine quiet_tuple ho hc hd (fun v hv Q' h' => ?_) h
  obtain ⟨k, hk⟩ := hi.mem v hv
  cases k with
  | inl i => obtain ⟨t, rfl⟩ := hk; exact quiet_flat rfl h'
  | inr js =>
    obtain ⟨b, rfl, o', items', n', ho', hc', hd', hi'⟩ := hk
    exact quiet_tuple (n := 6) ho' hc' hd' (fun u hu Q'' h'' => quiet_flat (hi'.byValue u hu) h'') h'
end
noncomputable def key2 (prog : Program) (w : World) : HeapKind prog w (List TI) where
  is := IsKey2 prog w
  hash := hash2 prog w
  draws := draws2
  room := fun A => A.units + 64 < cLine
  inj := fun hx hy => hx.inj hy
  keeps := fun x ho hd hs => x.keeps ho hd hs
  pyHash := fun hu hk h => pyHash_key2 hu hk h
  eqBool := fun hu hx hy h => eqBool_key2 hu hx hy h
  quiet := fun hk h => quiet_key2 hk h
end Mine
end
section
set_option maxRecDepth 100000
set_option genSizeOf false
set_option genInjectivity false
namespace Mine
open PySem PySem.W PyProof.Rows

noncomputable def nm (k : Nat) : Str := Str.ofString ((tbl[k]?).getD "")
noncomputable abbrev NN : Nat := 269

/-- what stands at the call's beginning -/
structure Wd where
  prog : Program
  w : World
  B : Heap
  K : Frag
  mg : Str → Option Value
  mb : Str → Option Value
  cls : Nat → Option Addr
  fn : Nat → Option Addr

noncomputable abbrev Mu := List (Addr × Addr)

inductive All2 {α β : Type} (P : α → β → Prop) : List α → List β → Prop
  | nil : All2 P [] []
  | cons {a b l r} : P a b → All2 P l r → All2 P (a :: l) (b :: r)
theorem All2.mono {α β : Type} {P Q : α → β → Prop} (h : ∀ a b, P a b → Q a b) {l r} (x : All2 P l r) : All2 Q l r := x.rec .nil fun p _ ih => .cons (h _ _ p) ih
theorem All2.length {α β : Type} {P : α → β → Prop} {l : List α} {r : List β} (x : All2 P l r) : l.length = r.length := x.rec rfl fun _ _ ih => congrArg Nat.succ ih

section
variable (W : Wd)

mutual
noncomputable def Rep (h : Heap) (μ : Mu) : V → Value → Prop
  | .none, v => v = .none
  | .bool b, v => v = .bool b
  | .int i, v => ∃ t, v = .int i t
  | .str k, v => ∃ t, v = .str (nm k) t ∧ k < NN
  | .tup l, v => ∃ a items, v = .ref a ∧ h.IsTuple a items ∧ RepL h μ l items.toList
  | .flist l, v => ∃ a items, v = .ref a ∧ W.B.IsList a items ∧ RepL h μ l items.toList
  | .fdct l, v => ∃ a f, v = .ref a ∧ (a == sysModules) = false ∧ W.B.MapOf (intKind W.prog W.w) a f ∧ ∀ i, (f i).isSome = l.any fun j => decide (j = i)
  | .rng n, v => ∃ a t u x, v = .ref a ∧ IsRange h a 0 n 1 t u x ∧ n ≤ 1000000
  | .ref i, v => ∃ p, μ[i]? = some p ∧ v = .ref p.1
noncomputable def RepL (h : Heap) (μ : Mu) : List V → List Value → Prop
  | [], vs => vs = []
  | a :: l, vs => ∃ u us, vs = u :: us ∧ Rep h μ a u ∧ RepL h μ l us
end

/-- the fields of a class object, in its dict's order -/
inductive Fields (h : Heap) (μ : Mu) : List (Nat × V) → List DictEntry → Prop
  | nil : Fields h μ [] []
  | cons {f : Nat} {v : V} {e : DictEntry} {fs es} (t : Tok) : f < NN → e.key = .str (nm f) t → e.hash = PyData.keyHash W.w.params (nm f) → Rep W h μ v e.val → Fields h μ fs es → Fields h μ ((f, v) :: fs) (e :: es)

/-- a tuple key as a value -/
noncomputable def tiV : TI → V
  | .inl i => .int i
  | .inr js => .tup (js.map .int)
noncomputable def tkV (ks : List TI) : V := .tup (ks.map tiV)

/-- the entries by their keys -/
noncomputable abbrev IntsD (h : Heap) (μ : Mu) (l : List (V × V)) (kvs : List (Int × Value)) : Prop := All2 (fun (p : V × V) kv => p.1 = .int kv.1 ∧ Rep W h μ p.2 kv.2) l kvs
noncomputable abbrev StrsD (h : Heap) (μ : Mu) (l : List (V × V)) (kvs : List (Str × Value)) : Prop := All2 (fun (p : V × V) kv => (∃ k, p.1 = .str k ∧ nm k = kv.1 ∧ k < NN) ∧ Rep W h μ p.2 kv.2) l kvs
noncomputable abbrev TupsD (h : Heap) (μ : Mu) (l : List (V × V)) (xs : List (List TI × Addr × Value)) : Prop := All2 (fun (p : V × V) x => p.1 = tkV x.1 ∧ Rep W h μ p.2 x.2.2) l xs
/-- the entries of a dict -/
inductive RepD (h : Heap) (μ : Mu) (a : Addr) (l : List (V × V)) : Prop
  | dI (kvs : List (Int × Value)) : h.DictOf (intKind W.prog W.w) a kvs → IntsD W h μ l kvs → RepD h μ a l
  | dS (kvs : List (Str × Value)) : h.DictOf (strKind W.prog W.w) a kvs → StrsD W h μ l kvs → RepD h μ a l
  | dT (xs : List (List TI × Addr × Value)) : h.DictOfH (key2 W.prog W.w) a xs → TupsD W h μ l xs → RepD h μ a l

noncomputable def RepC (h : Heap) (μ : Mu) (p : Addr × Addr) : Cell → Prop
  | .lst l => p.2 = p.1 ∧ ∃ items n, h.get? p.1 = some ⟨.type "list", Option.none, .seq items n, #[]⟩ ∧ RepL W h μ l items.toList
  | .dct l => p.2 = p.1 ∧ RepD W h μ p.1 l
  | .inst c fs => ∃ C es n, W.cls c = some C ∧ h.get? p.1 = some (instObj C p.2) ∧ h.get? p.2 = some (dictOf es n) ∧ Fields W h μ fs es

structure SR (μ : Mu) (H : AH) (h : Heap) : Prop where
  len : μ.length = H.length
  cells : ∀ (i : Nat) (c : Cell) (p : Addr × Addr), H[i]? = some c → μ[i]? = some p → RepC W h μ p c
  apart : ∀ (i j : Nat) (p q : Addr × Addr), i ≠ j → μ[i]? = some p → μ[j]? = some q → p.1 ≠ q.1 ∧ p.1 ≠ q.2 ∧ p.2 ≠ q.1 ∧ p.2 ≠ q.2
  above : ∀ p ∈ μ, W.B.get? p.1 = Option.none ∧ W.B.get? p.2 = Option.none
  kept : ∀ b o, W.B.get? b = some o → h.get? b = some o

/-- a field of a class of the text -/
structure FldOk (C : Addr) (name : Str) : Prop where
  get : plainGet W.K C name = true
  dict : hasDictIn W.K C = true
  attr : findIn W.K (.ref C) name = some Option.none
  set : findIn W.K (.ref C) "__setattr__" = some (some (.builtin "object.__setattr__"))
  over : plainOver W.K C = true
  taker : takerIn W.K C name = some Option.none

/-- the facts of the beginning -/
structure WOk : Prop where
  nolimit : W.B.NoLimit
  noseer : W.B.NoSeer
  Kin : W.K.In W.B
  gns : W.B.Ns mainGlobals W.mg
  bns : W.B.Ns builtinsNs W.mb
  tree : W.prog.given.tree = Option.none
  fld : ∀ c C f, W.cls c = some C → fldIn GL.fld c f = true → FldOk W C (nm f)

/-- a step: what X holds of and what μ holds may have changed, all else stands -/
structure St (X : Addr → Prop) (h : Heap) (μ : Mu) (h' : Heap) (μ' : Mu) : Prop where
  ext : ∃ e, μ' = μ ++ e ∧ ∀ p ∈ e, h.get? p.1 = Option.none ∧ h.get? p.2 = Option.none
  live : ∀ b o, h.get? b = some o → ∃ o', h'.get? b = some o'
  kept : ∀ b o, ¬ X b → (∀ p ∈ μ, b ≠ p.1 ∧ b ≠ p.2) → h.get? b = some o → h'.get? b = some o

/-- an object that nothing writes -/
noncomputable def Fixed (o : Obj) : Prop := (o.cls = .type "tuple" ∧ ∃ items n, o.data = .seq items n) ∨ (o.cls = .type "range" ∧ ∃ vs, o.data = .fields vs)
theorem Fixed.cls {o : Obj} (f : Fixed o) : o.cls = .type "tuple" ∨ o.cls = .type "range" := f.imp (·.1) (·.1)
/-- what of a step the values need -/
structure Mv (h : Heap) (μ : Mu) (h' : Heap) (μ' : Mu) : Prop where
  fix : ∀ b o, h.get? b = some o → Fixed o → h'.get? b = some o
  mu : ∀ (i : Nat) p, μ[i]? = some p → μ'[i]? = some p

/-- a class that an object at an address of μ may have -/
noncomputable def Own (v : Value) : Prop := v = .type "list" ∨ v = .type "dict" ∨ ∃ C, v = .ref C
theorem Fixed.own {o : Obj} (f : Fixed o) (w : Own o.cls) : False := by
  rcases w with w | w | ⟨C, w⟩ <;> rcases f.cls with f | f <;> rw [w] at f <;> simp at f

theorem DictOf.own {h : Heap} {μ : Mu} {a : Addr} {l : List (V × V)} (x : RepD W h μ a l) : ∃ o, h.get? a = some o ∧ o.cls = .type "dict" ∧ o.dict = none := by
  cases x with
  | dI kvs d _ => obtain ⟨o, es, ep, ho, hx, _⟩ := d; exact ⟨o, ho, hx.1, hx.2.1⟩
  | dS kvs d _ => obtain ⟨o, es, ep, ho, hx, _⟩ := d; exact ⟨o, ho, hx.1, hx.2.1⟩
  | dT xs d _ => obtain ⟨o, es, ep, ho, hx, _⟩ := d; exact ⟨o, ho, hx.1, hx.2.1⟩
/-- an object at an address of μ -/
structure OwnAt (h : Heap) (p : Addr × Addr) : Prop where
  fst : ∃ o, h.get? p.1 = some o ∧ Own o.cls
  snd : ∃ o, h.get? p.2 = some o ∧ Own o.cls
theorem RepC.own {h : Heap} {μ : Mu} {p : Addr × Addr} : ∀ {c : Cell}, RepC W h μ p c → OwnAt h p
  | .lst l, ⟨e, items, n, hg, _⟩ => ⟨⟨_, hg, .inl rfl⟩, ⟨_, e ▸ hg, .inl rfl⟩⟩
  | .dct l, ⟨e, hd⟩ => have ⟨o, ho, hc, _⟩ := DictOf.own W hd; ⟨⟨o, ho, .inr (.inl hc)⟩, ⟨o, e ▸ ho, .inr (.inl hc)⟩⟩
  | .inst k fs, ⟨C, es, n, _, h1, h2, _⟩ => ⟨⟨_, h1, .inr (.inr ⟨C, rfl⟩)⟩, ⟨_, h2, .inr (.inl rfl)⟩⟩
theorem SR.typed {μ H h} (R : SR W μ H h) (p : Addr × Addr) (hp : p ∈ μ) : OwnAt h p :=
  have ⟨i, hi, e⟩ := List.getElem_of_mem hp
  have hH : i < H.length := R.len ▸ hi
  RepC.own W (R.cells i H[i] p (List.getElem?_eq_getElem hH) (e ▸ List.getElem?_eq_getElem hi))
end

variable {W : Wd}
theorem ne_none {α : Type} {x : Option α} {a : α} (h : x = some a) (h' : x = Option.none) : False := Option.some_ne_none a (h.symm.trans h')
theorem live_ne {h : Heap} {a b : Addr} {o : Obj} (ha : h.get? a = some o) (hb : h.get? b = Option.none) : a ≠ b := fun e => ne_none ha (e ▸ hb)
theorem fixed_ne {h : Heap} {a b : Addr} {o : Obj} (ha : h.get? a = some o) (f : Fixed o) (hb : ∃ o, h.get? b = some o ∧ Own o.cls) : a ≠ b :=
  fun e => have ⟨o', ho', w⟩ := hb; f.own (Option.some.inj (ha.symm.trans (e ▸ ho')) ▸ w)
theorem OwnAt.fixed {h : Heap} {p : Addr × Addr} (w : OwnAt h p) {b : Addr} {o : Obj} (hb : h.get? b = some o) (f : Fixed o) : b ≠ p.1 ∧ b ≠ p.2 := ⟨fixed_ne hb f w.fst, fixed_ne hb f w.snd⟩
theorem OwnAt.dead {h : Heap} {p : Addr × Addr} (w : OwnAt h p) {b : Addr} (hb : h.get? b = Option.none) : b ≠ p.1 ∧ b ≠ p.2 :=
  ⟨have ⟨_, g, _⟩ := w.fst; (live_ne g hb).symm, have ⟨_, g, _⟩ := w.snd; (live_ne g hb).symm⟩
/-- nothing unwritten is written -/
theorem St.mv {X h μ h' μ' H} (R : SR W μ H h) (S : St X h μ h' μ') (hX : ∀ b o, h.get? b = some o → Fixed o → ¬ X b) : Mv h μ h' μ' where
  fix b o ho f := S.kept b o (hX b o ho f) (fun p hp => (R.typed W p hp).fixed ho f) ho
  mu i p hp := have ⟨e, he, _⟩ := S.ext; by rw [he, List.getElem?_append_left (List.getElem?_eq_some_iff.mp hp).1]; exact hp

theorem Mv.tup {h μ h' μ'} (m : Mv h μ h' μ') {a : Addr} {items : Array Value} : h.IsTuple a items → h'.IsTuple a items
  | ⟨o, ho, hc, hd⟩ => ⟨o, m.fix a o ho (.inl ⟨hc, _, hd⟩), hc, hd⟩
mutual
theorem Rep.mv {h μ h' μ'} (m : Mv h μ h' μ') : ∀ (v : V) {u : Value}, Rep W h μ v u → Rep W h' μ' v u
  | .none, _, r => r
  | .bool b, _, r => r
  | .int i, _, r => r
  | .str k, _, r => r
  | .tup l, _, ⟨a, items, e, ht, hl⟩ => ⟨a, items, e, m.tup ht, RepL.mv m l hl⟩
  | .flist l, _, ⟨a, items, e, hb, hl⟩ => ⟨a, items, e, hb, RepL.mv m l hl⟩
  | .fdct l, _, r => r
  | .rng n, _, ⟨a, t, u, x, e, ho, hn⟩ => ⟨a, t, u, x, e, m.fix a _ ho (.inr ⟨rfl, _, rfl⟩), hn⟩
  | .ref i, _, ⟨p, hp, e⟩ => ⟨p, m.mu i p hp, e⟩
theorem RepL.mv {h μ h' μ'} (m : Mv h μ h' μ') : ∀ (l : List V) {us : List Value}, RepL W h μ l us → RepL W h' μ' l us
  | [], _, r => r
  | v :: l, _, ⟨u, us, e, a, b⟩ => ⟨u, us, e, Rep.mv m v a, RepL.mv m l b⟩
end
theorem tupleKey_mv {h μ h' μ'} (m : Mv h μ h' μ') {js a} : IsTupleKey (intKind W.prog W.w) h js a → IsTupleKey (intKind W.prog W.w) h' js a
  | ⟨o, items, n, ho, hc, hd, r⟩ => ⟨o, items, n, m.fix a o ho (.inl ⟨hc, _, _, hd⟩), hc, hd, r⟩
theorem items2_mv {h μ h' μ'} (m : Mv h μ h' μ') {ks vs} (x : Items2 W.prog W.w h ks vs) : Items2 W.prog W.w h' ks vs :=
  x.rec .nil fun {k v _ _} a _ ih => .cons (match k, a with
    | .inl i, a => a
    | .inr js, ⟨a, e, x⟩ => ⟨a, e, tupleKey_mv m x⟩) ih
theorem key2_mv {h μ h' μ'} (m : Mv h μ h' μ') {ks a} : IsKey2 W.prog W.w h ks a → IsKey2 W.prog W.w h' ks a
  | ⟨o, items, n, ho, hc, hd, r⟩ => ⟨o, items, n, m.fix a o ho (.inl ⟨hc, _, _, hd⟩), hc, hd, items2_mv m r⟩
theorem RepD.mv {h μ h' μ' a l} (m : Mv h μ h' μ') (hk : h'.get? a = h.get? a) (r : RepD W h μ a l) : RepD W h' μ' a l := by
  cases r with
  | dI kvs d x => obtain ⟨o, es, ep, ho, y⟩ := d; exact .dI kvs ⟨o, es, ep, hk.trans ho, y⟩ (x.mono fun p q z => ⟨z.1, Rep.mv m p.2 z.2⟩)
  | dS kvs d x => obtain ⟨o, es, ep, ho, y⟩ := d; exact .dS kvs ⟨o, es, ep, hk.trans ho, y⟩ (x.mono fun p q z => ⟨z.1, Rep.mv m p.2 z.2⟩)
  | dT xs d x =>
    obtain ⟨o, es, ep, ho, h1, h2, h3, h4, h5⟩ := d
    exact .dT xs ⟨o, es, ep, hk.trans ho, h1, h2, h3, fun x hx => key2_mv m (h4 x hx), h5⟩ (x.mono fun p q z => ⟨z.1, Rep.mv m p.2 z.2⟩)
theorem Fields.mv {h μ h' μ'} (m : Mv h μ h' μ') {fs es} (x : Fields W h μ fs es) : Fields W h' μ' fs es := x.rec .nil fun t a b c d _ ih => .cons t a b c (Rep.mv m _ d) ih
theorem RepC.mv {h μ h' μ' p} (m : Mv h μ h' μ') (h1 : h'.get? p.1 = h.get? p.1) (h2 : h'.get? p.2 = h.get? p.2) : ∀ {c : Cell}, RepC W h μ p c → RepC W h' μ' p c
  | .lst l, ⟨e, items, n, hg, hl⟩ => ⟨e, items, n, h1.trans hg, RepL.mv m l hl⟩
  | .dct l, ⟨e, hd⟩ => ⟨e, hd.mv m h1⟩
  | .inst c fs, ⟨C, es, n, hc, g1, g2, hf⟩ => ⟨C, es, n, hc, h1.trans g1, h2.trans g2, hf.mv m⟩

theorem St.nil {μ : Mu} {h : Heap} : ∃ e, μ = μ ++ e ∧ ∀ p ∈ e, h.get? p.1 = Option.none ∧ h.get? p.2 = Option.none := ⟨[], (List.append_nil μ).symm, fun _ hp => nomatch hp⟩
theorem St.refl (X : Addr → Prop) (h : Heap) (μ : Mu) : St X h μ h μ := ⟨St.nil, fun _ o e => ⟨o, e⟩, fun _ _ _ _ e => e⟩
theorem St.weak {X Y : Addr → Prop} {h μ h' μ'} (S : St X h μ h' μ') (hx : ∀ b, X b → Y b) : St Y h μ h' μ' := ⟨S.ext, S.live, fun b o n u e => S.kept b o (fun x => n (hx b x)) u e⟩
theorem St.fresh {X : Addr → Prop} {h μ h' μ'} (S : St X h μ h' μ') {b : Addr} (hb : h'.get? b = Option.none) : h.get? b = Option.none :=
  Option.eq_none_iff_forall_ne_some.mpr fun o e => have ⟨_, e'⟩ := S.live b o e; ne_none e' hb
/-- an old address is none of the new ones -/
theorem St.old {X : Addr → Prop} {h μ h' μ'} (S : St X h μ h' μ') {b : Addr} {o : Obj} (g : h.get? b = some o) (u : ∀ p ∈ μ, b ≠ p.1 ∧ b ≠ p.2) : ∀ p ∈ μ', b ≠ p.1 ∧ b ≠ p.2 := fun p hp =>
  have ⟨e, he, hl⟩ := S.ext
  (List.mem_append.mp (he ▸ hp)).elim (u p) fun hp => ⟨live_ne g (hl p hp).1, live_ne g (hl p hp).2⟩
theorem St.comp {X Y : Addr → Prop} {h μ h' μ' h'' μ''} (S : St X h μ h' μ') (T : St Y h' μ' h'' μ'') (hY : ∀ b o, ¬ X b → h.get? b = some o → ¬ Y b) : St X h μ h'' μ'' where
  ext := have ⟨e, he, hl⟩ := S.ext; have ⟨e', he', hl'⟩ := T.ext
    ⟨e ++ e', by rw [he', he, List.append_assoc], fun p hp => (List.mem_append.mp hp).elim (hl p) fun hp => ⟨S.fresh (hl' p hp).1, S.fresh (hl' p hp).2⟩⟩
  live b o g := have ⟨o', g'⟩ := S.live b o g; T.live b o' g'
  kept b o n u g := T.kept b o (hY b o n g) (S.old g u) (S.kept b o n u g)
theorem St.trans {X : Addr → Prop} {h μ h' μ' h'' μ''} (S : St X h μ h' μ') (T : St X h' μ' h'' μ'') : St X h μ h'' μ'' := S.comp T fun _ _ n _ => n
/-- one object beside the old ones is changed -/
theorem St.but {X : Addr → Prop} {h0 h h' : Heap} {μ0 μ : Mu} {b : Addr} (S : St X h0 μ0 h μ) (hx : Heap.ExtBut b h h') (hb : h0.get? b = Option.none) : St X h0 μ0 h' μ :=
  ⟨S.ext, fun c o e => have ⟨o', e'⟩ := S.live c o e; ⟨o', hx c o' (live_ne e hb) e'⟩, fun c o n u e => hx c o (live_ne e hb) (S.kept c o n u e)⟩

noncomputable abbrev X0 : Addr → Prop := fun _ => False
/-- the state behind a step -/
structure Aft (W : Wd) (X : Addr → Prop) (s : Shared) (μ : Mu) (s' : Shared) (μ' : Mu) (H' : AH) : Prop where
  st : St X s.heap μ s'.heap μ'
  sr : SR W μ' H' s'.heap
  gens : s'.gens = s.gens
  os : s'.os = s.os
theorem Aft.refl {X : Addr → Prop} {s : Shared} {μ : Mu} {H : AH} (R : SR W μ H s.heap) : Aft W X s μ s μ H := ⟨.refl .., R, rfl, rfl⟩
theorem Aft.comp {X Y : Addr → Prop} {s μ s' μ' H' s'' μ'' H''} (a : Aft W X s μ s' μ' H') (b : Aft W Y s' μ' s'' μ'' H'') (hY : ∀ b o, ¬ X b → s.heap.get? b = some o → ¬ Y b) : Aft W X s μ s'' μ'' H'' :=
  ⟨a.st.comp b.st hY, b.sr, b.gens.trans a.gens, b.os.trans a.os⟩
theorem Aft.trans {X : Addr → Prop} {s μ s' μ' H' s'' μ'' H''} (a : Aft W X s μ s' μ' H') (b : Aft W X s' μ' s'' μ'' H'') : Aft W X s μ s'' μ'' H'' := a.comp b fun _ _ n _ => n
theorem Aft.weak {X Y : Addr → Prop} {s μ s' μ' H'} (a : Aft W X s μ s' μ' H') (hx : ∀ b, X b → Y b) : Aft W Y s μ s' μ' H' := ⟨a.st.weak hx, a.sr, a.gens, a.os⟩
theorem Aft.toks {X : Addr → Prop} {s μ s' μ' H'} (a : Aft W X s μ s' μ' H') (t : Tok) : Aft W X s μ { s' with toks := t } μ' H' := ⟨a.st, a.sr, a.gens, a.os⟩
theorem Aft.mv {s μ s' μ' H H'} (a : Aft W X0 s μ s' μ' H') (R : SR W μ H s.heap) : Mv s.heap μ s'.heap μ' := a.st.mv R fun _ _ _ _ x => x
/-- a value stays what it stands for -/
theorem Aft.rep {s μ s' μ' H H' v u} (a : Aft W X0 s μ s' μ' H') (R : SR W μ H s.heap) (r : Rep W s.heap μ v u) : Rep W s'.heap μ' v u := Rep.mv (a.mv R) v r
theorem Aft.repL {s μ s' μ' H H' l us} (a : Aft W X0 s μ s' μ' H') (R : SR W μ H s.heap) (r : RepL W s.heap μ l us) : RepL W s'.heap μ' l us := RepL.mv (a.mv R) l r

structure Frm (W : Wd) (env : Env) (ρ : Loc) (h : Heap) (μ : Mu) : Prop where
  kind : env.scope.kind = .function
  globals : env.globals = mainGlobals
  builtins : env.builtins = builtinsNs
  ns : ∃ m, h.Ns env.locals m ∧ ∀ x v, look ρ x = some v → env.kindOf (nm x) = some .local → ∃ rv, m (nm x) = some rv ∧ Rep W h μ v rv
  cell : ∀ x c, env.cells.lookup x = some c → ∃ ov, h.IsCell c ov
  cellv : ∀ x v, look ρ x = some v → (env.kindOf (nm x) = some .cell ∨ env.kindOf (nm x) = some .free) → ∃ c rv, env.cells.lookup (nm x) = some c ∧ h.IsCell c (some rv) ∧ Rep W h μ v rv
  celln : ∀ x, (env.kindOf x = some .cell ∨ env.kindOf x = some .free) → ∃ c, env.cells.lookup x = some c
  inj : ∀ x y c, env.cells.lookup x = some c → env.cells.lookup y = some c → x = y
  rng : ∀ x v, look ρ x = some v → x < NN
  lo : W.B.get? env.locals = Option.none
  locell : ∀ x c, env.cells.lookup x = some c → W.B.get? c = Option.none
  apart : ∀ p ∈ μ, env.locals ≠ p.1 ∧ env.locals ≠ p.2
  apartc : ∀ x c, env.cells.lookup x = some c → ∀ p ∈ μ, c ≠ p.1 ∧ c ≠ p.2

noncomputable abbrev XE (env : Env) : Addr → Prop := fun b => b = env.locals ∨ ∃ x, env.cells.lookup x = some b

theorem Frm.move {env ρ} {h h' : Heap} {μ μ' : Mu} (F : Frm W env ρ h μ) (k : ∀ b o, XE env b → h.get? b = some o → h'.get? b = some o) (m : Mv h μ h' μ')
    (ap : ∀ b o, XE env b → h.get? b = some o → (∀ p ∈ μ, b ≠ p.1 ∧ b ≠ p.2) → ∀ p ∈ μ', b ≠ p.1 ∧ b ≠ p.2) : Frm W env ρ h' μ' where
  kind := F.kind
  globals := F.globals
  builtins := F.builtins
  ns := have ⟨M, ⟨o, es, ep, ho, r⟩, hm⟩ := F.ns; ⟨M, ⟨o, es, ep, k _ o (.inl rfl) ho, r⟩, fun x v hx hk => have ⟨rv, h1, h2⟩ := hm x v hx hk; ⟨rv, h1, Rep.mv m v h2⟩⟩
  cell x c hc := have ⟨ov, o, ho, r⟩ := F.cell x c hc; ⟨ov, o, k _ o (.inr ⟨x, hc⟩) ho, r⟩
  cellv x v hx hk := have ⟨c, rv, hc, ⟨o, ho, hd⟩, r⟩ := F.cellv x v hx hk; ⟨c, rv, hc, ⟨o, k _ o (.inr ⟨_, hc⟩) ho, hd⟩, Rep.mv m v r⟩
  celln := F.celln
  inj := F.inj
  rng := F.rng
  lo := F.lo
  locell := F.locell
  apart := have ⟨_, ⟨o, _, _, ho, _⟩, _⟩ := F.ns; ap _ o (.inl rfl) ho F.apart
  apartc x c hc := have ⟨_, o, ho, _⟩ := F.cell x c hc; ap c o (.inr ⟨x, hc⟩) ho (F.apartc x c hc)
/-- the frame's own objects live, beside the cells -/
theorem Frm.own {env ρ h μ} (F : Frm W env ρ h μ) {b : Addr} (x : XE env b) : (∃ o, h.get? b = some o ∧ ¬ Fixed o) ∧ ∀ p ∈ μ, b ≠ p.1 ∧ b ≠ p.2 := by
  rcases x with rfl | ⟨x, hx⟩
  · obtain ⟨m, ⟨o, es, ep, ho, hd, _⟩, _⟩ := F.ns
    refine ⟨⟨o, ho, fun f => ?_⟩, F.apart⟩
    rcases f with ⟨_, _, _, e⟩ | ⟨_, _, e⟩ <;> exact nomatch hd.symm.trans e
  · obtain ⟨ov, o, ho, hd⟩ := F.cell x b hx
    refine ⟨⟨o, ho, fun f => ?_⟩, F.apartc x b hx⟩
    rcases f with ⟨_, _, _, e⟩ | ⟨_, _, e⟩ <;> exact nomatch hd.symm.trans e
theorem Frm.xe {env ρ h μ} (F : Frm W env ρ h μ) (b : Addr) (o : Obj) (hb : h.get? b = some o) (f : Fixed o) : ¬ XE env b := fun x =>
  have ⟨⟨_, ho, nf⟩, _⟩ := F.own x; nf (Option.some.inj (hb.symm.trans ho) ▸ f)
theorem Frm.live {env ρ h μ} (F : Frm W env ρ h μ) {b : Addr} (x : XE env b) : ∃ o, h.get? b = some o := have ⟨⟨o, ho, _⟩, _⟩ := F.own x; ⟨o, ho⟩
theorem Frm.mono {env ρ} {s μ s' μ' H H'} (F : Frm W env ρ s.heap μ) (R : SR W μ H s.heap) (a : Aft W X0 s μ s' μ' H') : Frm W env ρ s'.heap μ' :=
  F.move (fun b o x ho => a.st.kept b o (fun z => z) (F.own x).2 ho) (a.mv R) fun b o x ho u => a.st.old ho u

/-- the heap grows, all stays -/
theorem SR.mov {μ H h h'} (R : SR W μ H h) (m : Mv h μ h' μ) (hk : ∀ p ∈ μ, h'.get? p.1 = h.get? p.1 ∧ h'.get? p.2 = h.get? p.2) (kb : ∀ b o, W.B.get? b = some o → h.get? b = some o → h'.get? b = some o) : SR W μ H h' :=
  ⟨R.len, fun i c p hi hp => have z := hk p (List.mem_of_getElem? hp); RepC.mv m z.1 z.2 (R.cells i c p hi hp), R.apart, R.above, fun b o e => kb b o e (R.kept b o e)⟩
theorem SR.same {μ H h} (R : SR W μ H h) {h' : Heap} (hk : ∀ b o, h.get? b = some o → h'.get? b = some o) (p : Addr × Addr) (hp : p ∈ μ) : h'.get? p.1 = h.get? p.1 ∧ h'.get? p.2 = h.get? p.2 :=
  have ⟨⟨o1, g1, _⟩, ⟨o2, g2, _⟩⟩ := R.typed W p hp; ⟨(hk _ _ g1).trans g1.symm, (hk _ _ g2).trans g2.symm⟩
theorem St.grow {X : Addr → Prop} {h h' μ} (hk : ∀ b o, h.get? b = some o → h'.get? b = some o) : St X h μ h' μ := ⟨St.nil, fun b o e => ⟨o, hk b o e⟩, fun b o _ _ e => hk b o e⟩
theorem Aft.grow {X : Addr → Prop} {s : Shared} {μ H h' t} (R : SR W μ H s.heap) (hk : ∀ b o, s.heap.get? b = some o → h'.get? b = some o) : Aft W X s μ { s with heap := h', toks := t } μ H :=
  ⟨St.grow hk, R.mov ⟨fun b o ho _ => hk b o ho, fun _ _ e => e⟩ (R.same hk) fun b o _ => hk b o, rfl, rfl⟩
theorem SR.off {μ H h} (R : SR W μ H h) {b : Addr} (hb : h.get? b = Option.none) : W.B.get? b = Option.none :=
  Option.eq_none_iff_forall_ne_some.mpr fun o e => ne_none (R.kept b o e) hb

/-- one cell more -/
theorem SR.snoc {μ H h' p c} (len : μ.length = H.length) (cells : ∀ (i : Nat) c p', H[i]? = some c → μ[i]? = some p' → RepC W h' (μ ++ [p]) p' c) (apart : ∀ (i j : Nat) (p q : Addr × Addr), i ≠ j → μ[i]? = some p → μ[j]? = some q → p.1 ≠ q.1 ∧ p.1 ≠ q.2 ∧ p.2 ≠ q.1 ∧ p.2 ≠ q.2)
    (above : ∀ p ∈ μ, W.B.get? p.1 = Option.none ∧ W.B.get? p.2 = Option.none) (kept : ∀ b o, W.B.get? b = some o → h'.get? b = some o) (far : ∀ q ∈ μ, (p.1 ≠ q.1 ∧ p.1 ≠ q.2) ∧ (p.2 ≠ q.1 ∧ p.2 ≠ q.2)) (hB : W.B.get? p.1 = Option.none ∧ W.B.get? p.2 = Option.none)
    (new : RepC W h' (μ ++ [p]) p c) : SR W (μ ++ [p]) (H ++ [c]) h' := by
  refine ⟨by rw [List.length_append, List.length_append, len]; rfl, fun i c' q hi hq => ?_, fun i j q r hij hq hr => ?_, fun q hq => ?_, kept⟩
  · rcases snoc_at hi with h1 | ⟨h1, rfl⟩ <;> rcases snoc_at hq with h2 | ⟨h2, rfl⟩
    · exact cells i c' q h1 h2
    · exact absurd (List.getElem?_eq_some_iff.mp h1).1 (by rw [h2, len]; exact Nat.lt_irrefl _)
    · exact absurd (List.getElem?_eq_some_iff.mp h2).1 (by rw [h1, len]; exact Nat.lt_irrefl _)
    · exact new
  · rcases snoc_at hq with h1 | ⟨h1, rfl⟩ <;> rcases snoc_at hr with h2 | ⟨h2, rfl⟩
    · exact apart i j q r hij h1 h2
    · have ⟨⟨a, b⟩, c, d⟩ := far q (List.mem_of_getElem? h1); exact ⟨a.symm, c.symm, b.symm, d.symm⟩
    · have ⟨⟨a, b⟩, c, d⟩ := far r (List.mem_of_getElem? h2); exact ⟨a, b, c, d⟩
    · exact absurd (h1.trans h2.symm) hij
  · exact (List.mem_append.mp hq).elim (above q) fun hq => List.mem_singleton.mp hq ▸ hB
theorem Mv.snoc {h h' μ p} (k : ∀ b o, h.get? b = some o → Fixed o → h'.get? b = some o) : Mv h μ h' (μ ++ [p]) := ⟨k, fun i q hq => by rw [List.getElem?_append_left (List.getElem?_eq_some_iff.mp hq).1]; exact hq⟩
/-- an object is made -/
theorem Aft.new {s : Shared} {μ H h' p c t} (R : SR W μ H s.heap) (hk : ∀ b o, s.heap.get? b = some o → h'.get? b = some o) (h1 : s.heap.get? p.1 = Option.none) (h2 : s.heap.get? p.2 = Option.none)
    (new : Mv s.heap μ h' (μ ++ [p]) → RepC W h' (μ ++ [p]) p c) : Aft W X0 s μ { s with heap := h', toks := t } (μ ++ [p]) (H ++ [c]) :=
  have m : Mv s.heap μ h' (μ ++ [p]) := .snoc fun b o ho _ => hk b o ho
  ⟨⟨⟨[p], rfl, fun q hq => List.mem_singleton.mp hq ▸ ⟨h1, h2⟩⟩, fun b o e => ⟨o, hk b o e⟩, fun b o _ _ e => hk b o e⟩,
    .snoc R.len (fun i c p' hi hp => have z := R.same hk p' (List.mem_of_getElem? hp); RepC.mv m z.1 z.2 (R.cells i c p' hi hp)) R.apart R.above (fun b o e => hk b o (R.kept b o e))
      (fun q hq => ⟨(R.typed W q hq).dead h1, (R.typed W q hq).dead h2⟩) ⟨R.off h1, R.off h2⟩ (new m), rfl, rfl⟩

/-- one cell is written -/
theorem Aft.upd {s : Shared} {μ H h' a i p c c' t} (R : SR W μ H s.heap) (hi : H[i]? = some c) (hp : μ[i]? = some p) (ha : a = p.1 ∨ a = p.2) (hs : Heap.SameBut a s.heap h') (hl : ∃ o, h'.get? a = some o)
    (new : Mv s.heap μ h' μ → RepC W h' μ p c') : Aft W X0 s μ { s with heap := h', toks := t } μ (H.set i c') := by
  have hm := List.mem_of_getElem? hp
  have ne : ∀ b, b ≠ p.1 ∧ b ≠ p.2 → b ≠ a := fun b u e => ha.elim (fun q => u.1 (e.trans q)) fun q => u.2 (e.trans q)
  have m : Mv s.heap μ h' μ := ⟨fun b o ho f => (hs.2 b (ne b ((R.typed W p hm).fixed ho f))).trans ho, fun _ _ e => e⟩
  refine ⟨⟨St.nil, fun b o e => (Decidable.em (b = a)).elim (fun q => q ▸ hl) fun q => ⟨o, (hs.2 b q).trans e⟩, fun b o _ u e => (hs.2 b (ne b (u p hm))).trans e⟩,
    ⟨R.len.trans (List.length_set ..).symm, fun j c'' q hj hq => ?_, R.apart, R.above, fun b o e => (hs.2 b ?_).trans (R.kept b o e)⟩, rfl, rfl⟩
  · by_cases hij : i = j
    · subst hij
      rw [List.getElem?_set_self (List.getElem?_eq_some_iff.mp hi).1] at hj
      cases Option.some.inj (hp.symm.trans hq); cases Option.some.inj hj; exact new m
    · rw [List.getElem?_set_ne hij] at hj
      have z := R.apart j i q p (Ne.symm hij) hq hp
      exact RepC.mv m (hs.2 _ (ne _ ⟨z.1, z.2.1⟩)) (hs.2 _ (ne _ z.2.2)) (R.cells j c'' q hj hq)
  · have z := R.above p hm; exact ne b ⟨live_ne e z.1, live_ne e z.2⟩

/-- an object beside the cells is changed -/
theorem SR.but {μ H} {h h' : Heap} {I : Addr} (R : SR W μ H h) (hx : Heap.ExtBut I h h') (hI : ∀ p ∈ μ, I ≠ p.1 ∧ I ≠ p.2) (hB : W.B.get? I = Option.none) (hf : ∀ o, h.get? I = some o → ¬ Fixed o) :
    SR W μ H h' ∧ Mv h μ h' μ :=
  have m : Mv h μ h' μ := ⟨fun b o ho f => hx b o (fun e => hf o (e ▸ ho) f) ho, fun _ _ e => e⟩
  ⟨R.mov m (fun p hp => have ⟨⟨o1, g1, _⟩, ⟨o2, g2, _⟩⟩ := R.typed W p hp; ⟨(hx _ _ (hI p hp).1.symm g1).trans g1.symm, (hx _ _ (hI p hp).2.symm g2).trans g2.symm⟩) fun b o e => hx b o (live_ne e hB), m⟩
theorem Aft.side {X : Addr → Prop} {s : Shared} {μ H h' a t} (R : SR W μ H s.heap) (hs : Heap.SameBut a s.heap h') (hl : ∃ o, h'.get? a = some o) (ha : (∃ o, s.heap.get? a = some o ∧ ¬ Fixed o) ∧ ∀ p ∈ μ, a ≠ p.1 ∧ a ≠ p.2) (hb : W.B.get? a = Option.none) (hX : X a) :
    Aft W X s μ { s with heap := h', toks := t } μ H ∧ Mv s.heap μ h' μ :=
  have ⟨R', m⟩ := R.but hs.extBut ha.2 hb fun o ho f => have ⟨⟨o', ho', nf⟩, _⟩ := ha; nf (Option.some.inj (ho.symm.trans ho') ▸ f)
  ⟨⟨⟨St.nil, fun b o e => (Decidable.em (b = a)).elim (fun q => q ▸ hl) fun q => ⟨o, (hs.2 b q).trans e⟩, fun b o n u e => (hs.2 b (fun e' => n (e' ▸ hX))).trans e⟩, R', rfl, rfl⟩, m⟩

theorem get?_grow_push {h : Heap} (o : Obj) : ∀ b o', h.get? b = some o' → (h.push o).get? b = some o' := fun b o' e => Heap.get?_push_of_some _ e
theorem dead_size {h : Heap} {a : Nat} (ha : h.objs.size ≤ a) : h.get? a = Option.none := Option.eq_none_iff_forall_ne_some.mpr fun o e => absurd (Heap.lt_size e) (Nat.not_lt.mpr ha)
theorem get?_size (h : Heap) : h.get? h.objs.size = Option.none := dead_size (Nat.le_refl _)
theorem Aft.push {s : Shared} {μ H t} (R : SR W μ H s.heap) (o : Obj) : Aft W X0 s μ { s with heap := s.heap.push o, toks := t } μ H := Aft.grow R (get?_grow_push o)
theorem Aft.tok {X : Addr → Prop} {s : Shared} {μ H} (R : SR W μ H s.heap) (t : Tok) : Aft W X s μ { s with toks := t } μ H := ⟨.refl .., R, rfl, rfl⟩
end Mine
end
section
set_option maxRecDepth 100000
set_option genSizeOf false
set_option genInjectivity false
namespace Mine
open PySem PySem.W PyProof.Rows
variable {W : Wd}

/-! what is read off -/
theorem RepL.length {h μ} : ∀ {l : List V} {us : List Value}, RepL W h μ l us → l.length = us.length
  | [], _, r => by cases (r : _ = _); rfl
  | v :: l, _, r => by obtain ⟨u, us, rfl, _, b⟩ := r; exact congrArg Nat.succ (RepL.length b)
theorem RepL.get {h μ v} : ∀ {l : List V} {us : List Value} {i : Nat}, RepL W h μ l us → l[i]? = some v → ∃ u, us[i]? = some u ∧ Rep W h μ v u
  | [], _, _, _, e => nomatch e
  | x :: l, _, 0, r, e => by obtain ⟨u, us, rfl, a, b⟩ := r; exact ⟨u, rfl, Option.some.inj e ▸ a⟩
  | x :: l, _, i + 1, r, e => by obtain ⟨u, us, rfl, a, b⟩ := r; exact RepL.get (i := i) b e
theorem RepL.append {h μ r vs} (b : RepL W h μ r vs) : ∀ {l : List V} {us : List Value}, RepL W h μ l us → RepL W h μ (l ++ r) (us ++ vs)
  | [], _, a => by cases (a : _ = _); exact b
  | x :: l, _, a => by obtain ⟨u, us, rfl, p, q⟩ := a; exact ⟨u, _, rfl, p, RepL.append b q⟩
theorem RepL.nil {h μ} : RepL W h μ [] [] := rfl
theorem RepL.cons {h μ v u l us} (a : Rep W h μ v u) (b : RepL W h μ l us) : RepL W h μ (v :: l) (u :: us) := ⟨u, us, rfl, a, b⟩
theorem RepL.take {h μ} : ∀ (n : Nat) {l : List V} {us : List Value}, RepL W h μ l us → RepL W h μ (l.take n) (us.take n)
  | 0, _, _, _ => rfl
  | n + 1, [], _, r => by cases (r : _ = _); exact rfl
  | n + 1, x :: l, _, r => by obtain ⟨u, us, rfl, a, b⟩ := r; exact ⟨u, _, rfl, a, RepL.take n b⟩
theorem RepL.drop {h μ} : ∀ (n : Nat) {l : List V} {us : List Value}, RepL W h μ l us → RepL W h μ (l.drop n) (us.drop n)
  | 0, _, _, r => r
  | n + 1, [], _, r => by cases (r : _ = _); exact rfl
  | n + 1, x :: l, _, r => by obtain ⟨u, us, rfl, a, b⟩ := r; exact RepL.drop n b
theorem RepL.set {h μ v u} (hv : Rep W h μ v u) : ∀ (n : Nat) {l : List V} {us : List Value}, RepL W h μ l us → RepL W h μ (l.set n v) (us.set n u)
  | _, [], _, r => by cases (r : _ = _); exact rfl
  | 0, x :: l, _, r => by obtain ⟨u, us, rfl, a, b⟩ := r; exact ⟨_, us, rfl, hv, b⟩
  | n + 1, x :: l, _, r => by obtain ⟨u, us, rfl, a, b⟩ := r; exact ⟨u, _, rfl, a, RepL.set hv n b⟩
theorem Rep.of_int {h μ i t} : Rep W h μ (.int i) (.int i t) := ⟨t, rfl⟩
theorem Rep.of_bool {h μ b} : Rep W h μ (.bool b) (.bool b) := rfl
theorem Rep.of_none {h μ} : Rep W h μ .none .none := rfl
theorem Rep.of_tup {h : Heap} {μ l a items} (ht : h.IsTuple a items) (r : RepL W h μ l items.toList) : Rep W h μ (.tup l) (.ref a) := ⟨a, items, rfl, ht, r⟩
theorem Rep.of_ref {h μ} {i : Nat} {p : Addr × Addr} (hp : μ[i]? = some p) : Rep W h μ (.ref i) (.ref p.1) := ⟨p, hp, rfl⟩
theorem Rep.at_end {h : Heap} {μ : Mu} {H : AH} {p : Addr × Addr} (len : μ.length = H.length) : Rep W h (μ ++ [p]) (.ref H.length) (.ref p.1) := ⟨p, len ▸ Mine.at_end, rfl⟩

section
variable {h : Heap} {μ : Mu} {H : AH} {v : V} {u : Value} {C : Value → Prop}
@[elab_as_elim] theorem Rep.int {i : Int} (r : Rep W h μ (.int i) u) (k : ∀ t, C (.int i t)) : C u := by obtain ⟨t, rfl⟩ := r; exact k t
@[elab_as_elim] theorem onInt.rep {f : Int → Prop} (z : onInt v f) (r : Rep W h μ v u) (k : ∀ i t, f i → C (.int i t)) : C u := by
  cases v with
  | int i => exact r.int fun t => k i t z
  | _ => exact z.elim
@[elab_as_elim] theorem Rep.tup {l : List V} (r : Rep W h μ (.tup l) u) (k : ∀ a items, h.IsTuple a items → RepL W h μ l items.toList → C (.ref a)) : C u := by obtain ⟨a, items, rfl, h1, h2⟩ := r; exact k a items h1 h2
@[elab_as_elim] theorem onTup.rep {f : List V → Prop} (z : onTup v f) (r : Rep W h μ v u) (k : ∀ l a items, h.IsTuple a items → RepL W h μ l items.toList → f l → C (.ref a)) : C u := by
  cases v with
  | tup l => exact r.tup fun a items h1 h2 => k l a items h1 h2 z
  | _ => exact z.elim
/-- a cell, and what stands for it -/
structure CellAt (W : Wd) (h : Heap) (μ : Mu) (H : AH) (i : Nat) (c : Cell) (p : Addr × Addr) : Prop where
  hi : H[i]? = some c
  hp : μ[i]? = some p
  r : RepC W h μ p c
@[elab_as_elim] theorem Rep.ref {i : Nat} {c : Cell} (r : Rep W h μ (.ref i) u) (R : SR W μ H h) (hi : H[i]? = some c) (k : ∀ p, CellAt W h μ H i c p → C (.ref p.1)) : C u := by
  obtain ⟨p, hp, rfl⟩ := r; exact k p ⟨hi, hp, R.cells i c p hi hp⟩
theorem atL.of {c : Option Cell} {f : List V → Prop} (z : atL c f) : ∃ l, c = some (.lst l) ∧ f l := by
  cases c with
  | none => exact z.elim
  | some c => cases c with
    | lst l => exact ⟨l, rfl, z⟩
    | _ => exact z.elim
theorem atD.of {c : Option Cell} {f : List (V × V) → Prop} (z : atD c f) : ∃ l, c = some (.dct l) ∧ f l := by
  cases c with
  | none => exact z.elim
  | some c => cases c with
    | dct l => exact ⟨l, rfl, z⟩
    | _ => exact z.elim
theorem atI.of {c : Option Cell} {f : Nat → List (Nat × V) → Prop} (z : atI c f) : ∃ k fs, c = some (.inst k fs) ∧ f k fs := by
  cases c with
  | none => exact z.elim
  | some c => cases c with
    | inst k fs => exact ⟨k, fs, rfl, z⟩
    | _ => exact z.elim
@[elab_as_elim] theorem onRef.rep {f : Nat → Prop} (z : onRef v f) (r : Rep W h μ v u) (k : ∀ i, Rep W h μ (.ref i) u → f i → C u) : C u := by
  cases v with
  | ref i => exact k i r z
  | _ => exact z.elim
/-- a list's cell -/
structure LstAt (W : Wd) (h : Heap) (μ : Mu) (H : AH) (i : Nat) (l : List V) (p : Addr × Addr) (us : Array Value) (n : Nat) : Prop extends CellAt W h μ H i (.lst l) p where
  e : p.2 = p.1
  g : h.get? p.1 = some ⟨.type "list", Option.none, .seq us n, #[]⟩
  l : RepL W h μ l us.toList
theorem LstAt.is {i l p us n} (x : LstAt W h μ H i l p us n) : h.IsList p.1 us := ⟨_, x.g, rfl, _, rfl⟩
theorem RepL.size {l : List V} {us : Array Value} (r : RepL W h μ l us.toList) : us.size = l.length := (Array.length_toList (xs := us)).symm.trans r.length.symm
@[elab_as_elim] theorem Rep.lst {i : Nat} {l : List V} (r : Rep W h μ (.ref i) u) (R : SR W μ H h) (hi : H[i]? = some (.lst l)) (k : ∀ p us n, LstAt W h μ H i l p us n → C (.ref p.1)) : C u :=
  r.ref R hi fun p x => by obtain ⟨e, us, n, g, y⟩ := x.r; exact k p us n ⟨x, e, g, y⟩
@[elab_as_elim] theorem onLst.rep {f : Nat → List V → Prop} (z : onRef v fun a => atL H[a]? (f a)) (r : Rep W h μ v u) (R : SR W μ H h) (k : ∀ i l p us n, LstAt W h μ H i l p us n → f i l → C (.ref p.1)) : C u :=
  onRef.rep z r fun i r z => by obtain ⟨l, hi, z⟩ := atL.of z; exact r.lst R hi fun p us n x => k i l p us n x z
/-- a dict's cell -/
structure DctAt (W : Wd) (h : Heap) (μ : Mu) (H : AH) (i : Nat) (l : List (V × V)) (p : Addr × Addr) : Prop extends CellAt W h μ H i (.dct l) p where
  e : p.2 = p.1
  d : RepD W h μ p.1 l
@[elab_as_elim] theorem onDct.rep {f : Nat → List (V × V) → Prop} (z : onRef v fun a => atD H[a]? (f a)) (r : Rep W h μ v u) (R : SR W μ H h) (k : ∀ i l p, DctAt W h μ H i l p → f i l → C (.ref p.1)) : C u :=
  onRef.rep z r fun i r z => by obtain ⟨l, hi, z⟩ := atD.of z; exact r.ref R hi fun p x => k i l p ⟨x, x.r.1, x.r.2⟩ z
@[elab_as_elim] theorem onInst.rep {f : Nat → Nat → List (Nat × V) → Prop} (z : onRef v fun a => atI H[a]? (f a)) (r : Rep W h μ v u) (R : SR W μ H h) (k : ∀ i c fs p, CellAt W h μ H i (.inst c fs) p → f i c fs → C (.ref p.1)) : C u :=
  onRef.rep z r fun i r z => by obtain ⟨c, fs, hi, z⟩ := atI.of z; exact r.ref R hi fun p x => k i c fs p x z
end

noncomputable def pyB : BOp → Operator
  | .add => .Add | .sub => .Sub | .mul => .Mult | .mod => .Mod | .fdiv => .FloorDiv | .band => .BitAnd | .shl => .LShift | .shr => .RShift | .pow => .Pow
theorem sizeLine_ge {n : Nat} (h : n ≤ 1000000) : n ≤ sizeLine := Nat.le_trans h (by rw [sizeLine_eq]; decide)
theorem lineOk_ge {n : Nat} (h : lineOk n = true) : n ≤ sizeLine := sizeLine_ge (Nat.le_of_ble_eq_true h)

structure AOK (A : Around) (k : Nat) : Prop where
  handled : A.handled = Option.none
  depth : A.depth + k + 100 < recursionLimit
  units : A.units + 8 * k + 200 < cLine
  frames : ∃ l, A.frames = some l
/-- a function's frame is the innermost one -/
structure AIn (A : Around) (k : Nat) : Prop extends AOK A k where
  inner : ∃ e l, A.frames = some (e :: l) ∧ e.scope.isGenerator = false ∧ e.scope.isCoroutine = false ∧ e.builtins = builtinsNs ∧ e.globals = mainGlobals
theorem AOK.deeper {A : Around} {k env} (h : AOK A (k + 1)) (hg : env.scope.isGenerator = false) (hc : env.scope.isCoroutine = false) (hb : env.builtins = builtinsNs) (hm : env.globals = mainGlobals) : AIn (A.deeper env) k := by
  obtain ⟨l, hl⟩ := h.frames
  have e : (A.deeper env).frames = some (env :: l) := by show A.frames.map _ = _; rw [hl]; rfl
  exact ⟨⟨h.handled, by have := h.depth; show A.depth + 1 + k + 100 < _; omega, by have := h.units; show A.units + 3 + 8 * k + 200 < _; omega, ⟨_, e⟩⟩, ⟨env, l, e, hg, hc, hb, hm⟩⟩
theorem AOK.less {A : Around} {k j} (h : AOK A k) (hj : j ≤ k) : AOK A j := ⟨h.handled, by have := h.depth; omega, by have := h.units; omega, h.frames⟩
theorem AOK.u64 {A : Around} {k} (h : AOK A k) : A.units + 64 < cLine := by have := h.units; omega
theorem AOK.d100 {A : Around} {k} (h : AOK A k) : A.depth + 100 < recursionLimit := by have := h.depth; omega

/-- what the walk is handed: a value that stands for v, in a state behind -/
noncomputable abbrev Post (W : Wd) (s : Shared) (μ : Mu) (K : V → AH → Prop) (Q : Value → Shared → Prop) : Prop := ∀ ⦃v H' s' μ' u⦄, K v H' → Aft W X0 s μ s' μ' H' → Rep W s'.heap μ' v u → Q u s'
theorem Post.after {s μ K s₁ μ₁ H₁} {Q : Value → Shared → Prop} (hQ : Post W s μ K Q) (a : Aft W X0 s μ s₁ μ₁ H₁) : Post W s₁ μ₁ K Q := fun _ _ _ _ _ h b r => hQ h (a.trans b) r

section
variable {A : Around} {E : Value → Shared → Prop} {s : Shared} {μ : Mu} {H : AH} {K : V → AH → Prop} {Q : Value → Shared → Prop}
theorem Post.int {i : Int} (hQ : Post W s μ K Q) (R : SR W μ H s.heap) (h : K (.int i) H) {t t' : Tok} : Q (.int i t) { s with toks := t' } := hQ h (.tok R _) .of_int
theorem list_new {c : List V} {us : Array Value} {t : Tok} (R : SR W μ H s.heap) (r : ∀ {h' μ'}, Mv s.heap μ h' μ' → RepL W h' μ' c us.toList) :
    Aft W X0 s μ { s with heap := s.heap.push { cls := .type "list", data := .seq us }, toks := t } (μ ++ [(s.heap.objs.size, s.heap.objs.size)]) (H ++ [.lst c]) :=
  .new R (get?_grow_push _) (get?_size _) (get?_size _) fun m => ⟨rfl, us, _, Heap.get?_push_size _ rfl, r m⟩

theorem add_tup {l r : List V} {a b : Addr} {us vs : Array Value} (R : SR W μ H s.heap) (ha : s.heap.IsTuple a us) (hb : s.heap.IsTuple b vs) (hl : RepL W s.heap μ l us.toList) (hr : RepL W s.heap μ r vs.toList)
    (hz : lineOk (l.length + r.length) = true) (h : K (.tup (l ++ r)) H) (hQ : Post W s μ K Q) : wpAny (model W.prog W.w) A (binaryOp .Add (.ref a) (.ref b)) Q E s := by
  obtain ⟨⟨cls, dd, data, sl⟩, ho, rfl, n, rfl⟩ := id ha
  obtain ⟨⟨cls2, dd2, data2, sl2⟩, ho2, rfl, n2, rfl⟩ := id hb
  have z : us.size + vs.size ≤ sizeLine := by rw [hl.size, hr.size]; exact lineOk_ge hz
  by_cases hv : us.isEmpty = true
  · obtain rfl : us = #[] := by simpa using hv
    obtain rfl : l = [] := List.eq_nil_of_length_eq_zero hl.size.symm
    exact concat_meets ⟨_, ho, rfl⟩ ⟨_, ho2, rfl⟩ noFill_tuple_add seq_tuple_add PySem.F.slot_tuple_add PySem.F.entry_tuple_add (PySem.F.args_tuple_add_2 _ _) (tuple_addW0 a b _ vs n n2 dd dd2 sl sl2 hv) ⟨ho, ho2, hQ h (.refl R) (.of_tup hb hr)⟩
  · by_cases hw : vs.isEmpty = true
    · obtain rfl : vs = #[] := by simpa using hw
      obtain rfl : r = [] := List.eq_nil_of_length_eq_zero hr.size.symm
      exact concat_meets ⟨_, ho, rfl⟩ ⟨_, ho2, rfl⟩ noFill_tuple_add seq_tuple_add PySem.F.slot_tuple_add PySem.F.entry_tuple_add (PySem.F.args_tuple_add_2 _ _) (tuple_addW1 a b us _ n n2 dd dd2 sl sl2 hv hw) ⟨ho, ho2, hQ h (.refl R) (.of_tup ha (by rw [List.append_nil]; exact hl))⟩
    · refine concat_meets ⟨_, ho, rfl⟩ ⟨_, ho2, rfl⟩ noFill_tuple_add seq_tuple_add PySem.F.slot_tuple_add PySem.F.entry_tuple_add (PySem.F.args_tuple_add_2 _ _) (tuple_addW2 a b us vs n n2 dd dd2 sl sl2 hv hw z) ⟨ho, ho2, ?_⟩
      have G : Aft W X0 s μ { s with heap := s.heap.push { cls := .type "tuple", data := .seq (us ++ vs) } } μ H := Aft.push R _
      refine hQ h G (.of_tup ⟨_, Heap.get?_push_size _ rfl, rfl, _, rfl⟩ ?_)
      rw [Array.toList_append]
      exact (G.repL R hr).append (G.repL R hl)

theorem add_lst {i j : Nat} {l r : List V} {p q : Addr × Addr} {us vs : Array Value} {n n2 : Nat} (R : SR W μ H s.heap) (x : LstAt W s.heap μ H i l p us n) (y : LstAt W s.heap μ H j r q vs n2)
    (hz : lineOk (l.length + r.length) = true) (h : wAl (.lst (l ++ r)) K H) (hQ : Post W s μ K Q) : wpAny (model W.prog W.w) A (binaryOp .Add (.ref p.1) (.ref q.1)) Q E s :=
  concat_meets ⟨_, x.g, rfl⟩ ⟨_, y.g, rfl⟩ noFill_list_add seq_list_add PySem.F.slot_list_add PySem.F.entry_list_add (PySem.F.args_list_add_2 _ _) (list_addW p.1 q.1 us vs n n2 _ _ _ _ (by rw [x.l.size, y.l.size]; exact lineOk_ge hz))
    ⟨x.g, y.g, hQ h (list_new R fun m => by rw [Array.toList_append]; exact (RepL.mv m _ y.l).append (RepL.mv m _ x.l)) (.at_end R.len)⟩

@[elab_as_elim] theorem ints_sound {f : Int → Int → Prop} {a b : V} {ua ub : Value} {C : Value → Value → Prop} (h : onInt a fun x => onInt b fun y => f x y) (ra : Rep W s.heap μ a ua) (rb : Rep W s.heap μ b ub) (k : ∀ x t y t', f x y → C (.int x t) (.int y t')) : C ua ub :=
  onInt.rep (C := fun u => C u ub) h ra fun x t h => onInt.rep (C := fun u => C (.int x t) u) h rb fun y t' h => k x t y t' h
theorem wBin_sound {op : BOp} {a b : V} {ua ub : Value} {k : Nat} (h : wBin op a b K H) (hA : AIn A k) (O : WOk W) (R : SR W μ H s.heap) (ra : Rep W s.heap μ a ua) (rb : Rep W s.heap μ b ub)
    (hQ : Post W s μ K Q) : wpAny (model W.prog W.w) A (binaryOp (pyB op) ua ub) Q E s := by
  cases op with
  | add =>
    cases a with
    | int x => exact ra.int fun t => onInt.rep h rb fun y t' h => P.add_int (hQ.int R h)
    | tup x => exact ra.tup fun a us ha hl => onTup.rep h rb fun y b vs hb hr h => add_tup R ha hb hl hr h.of.1 h.of.2 hQ
    | ref x =>
      exact onRef.rep h rb fun y rb h => by
        obtain ⟨l, h1, h⟩ := atL.of h
        obtain ⟨r, h2, h⟩ := atL.of h
        exact ra.lst R h1 fun p us n x => rb.lst R h2 fun q vs n2 y => add_lst R x y h.of.1 h.of.2 hQ
    | _ => exact h.elim
  | sub => exact ints_sound h ra rb fun x t y t' h => P.sub_int (hQ.int R h)
  | mul => exact ints_sound h ra rb fun x t y t' h => P.mul_int (hQ.int R h.of.2) (.of_left (have z := both h.of.1; PySem.intBits_le_64 (Int.lt_trans (by decide) (of_decide_eq_true z.1)) (Int.lt_trans (of_decide_eq_true z.2) (by decide))))
  | mod => exact ints_sound h ra rb fun x t y t' h => mod_int' (nd h.of.1) (hQ.int R h.of.2)
  | fdiv => exact ints_sound h ra rb fun x t y t' h => floordiv_int (nd h.of.1) (hQ.int R h.of.2) (Or.inr (PySem.PylongRoom.of (O.nolimit.keeps R.kept) hA.d100 (by obtain ⟨e, l, h1, h2, h3, h4, h5⟩ := hA.inner; exact PySem.SeerAt.of (O.noseer.keeps R.kept) O.tree h1 h2 h3 h4 h5)))
  | band => exact ints_sound h ra rb fun x t y t' h => and_int (hQ.int R h)
  | shl =>
    exact ints_sound h ra rb fun x t y t' h => by
      obtain ⟨z, h⟩ := h.of
      obtain ⟨h0, z⟩ := both z
      obtain ⟨h1, z⟩ := both z
      cases of_decide_eq_true z
      exact lshift_int_small (of_decide_eq_true h0) (by have := of_decide_eq_true h1; omega) (by decide) (hQ.int R h)
  | shr => exact ints_sound h ra rb fun x t y t' h => rshift_int (of_decide_eq_true h.of.1) (hQ.int R h.of.2)
  | pow =>
    exact ints_sound h ra rb fun x t y t' h => by
      obtain ⟨z, h⟩ := h.of
      obtain ⟨h0, z⟩ := both z
      obtain ⟨h1, z⟩ := both z
      cases of_decide_eq_true z
      refine pow_int (of_decide_eq_true h0) ?_ (hQ.int R h)
      rw [show Builtin.Int.intBits 2 = 2 from by decide +kernel]; have := of_decide_eq_true h1; omega
end
end Mine
end
section
set_option maxRecDepth 100000
set_option genSizeOf false
set_option genInjectivity false
namespace Mine
open PySem PySem.W PyProof.Rows
variable {W : Wd}

-- the names are apart
noncomputable def allNe : List Nat → Bool
  | [] => true
  | a :: l => (l.all fun b => !Nat.beq a b) && allNe l
noncomputable def numOf (s : Str) : Nat := s.cps.toList.foldl (fun a c => a * 1114112 + c + 1) 0
theorem tbl_ne : allNe (tbl.map fun s => numOf (Str.ofString s)) = true := by decide +kernel
theorem tbl_len : tbl.length = NN := by decide +kernel
theorem allNe_inj : ∀ {l : List Nat}, allNe l = true → ∀ {i j : Nat} {a : Nat}, l[i]? = some a → l[j]? = some a → i = j
  | [], _, i, j, a, hi, _ => by simp at hi
  | x :: l, h, i, j, a, hi, hj => by
    unfold allNe at h
    obtain ⟨h1, h2⟩ := Bool.and_eq_true_iff.mp h
    have far : ∀ {k : Nat}, l[k]? = some x → False := fun {k} hk => by
      have := List.all_eq_true.mp h1 x (List.mem_of_getElem? hk)
      simp at this
    cases i with
    | zero =>
      cases j with
      | zero => rfl
      | succ j => simp at hi hj; subst hi; exact (far hj).elim
    | succ i =>
      cases j with
      | zero => simp at hi hj; subst hj; exact (far hi).elim
      | succ j => simp at hi hj; rw [allNe_inj h2 hi hj]
theorem nm_inj {i j : Nat} (hi : i < NN) (hj : j < NN) (h : nm i = nm j) : i = j := by
  rw [← tbl_len] at hi hj
  have at_ : ∀ {k : Nat}, k < tbl.length → (tbl.map fun s => numOf (Str.ofString s))[k]? = some (numOf (nm k)) := fun {k} hk => by
    rw [List.getElem?_map, List.getElem?_eq_getElem hk, Option.map_some]
    unfold nm
    rw [List.getElem?_eq_getElem hk]; rfl
  exact allNe_inj tbl_ne (at_ hi) (h ▸ at_ hj)


theorem kindOf_int {v : V} (h : kindOf v = 1) : ∃ i, v = .int i := by
  cases v with
  | int i => exact ⟨i, rfl⟩
  | _ => cases h
theorem kindOf_str {v : V} (h : kindOf v = 2) : ∃ i, v = .str i := by
  cases v with
  | str i => exact ⟨i, rfl⟩
  | _ => cases h
theorem keyOk_kinds {l : List (V × V)} {k : V} (h : keyOk l k = true) (p) (hp : p ∈ l) : kindOf p.1 = kindOf k :=
  Nat.eq_of_beq_eq_true (List.all_eq_true.mp (both h).2 p hp)

section
variable {h : Heap} {μ : Mu} {a : Addr}
theorem dictOf_nil {K K' : Type} [DecidableEq K] [DecidableEq K'] {prog : Program} {w : World} {k1 : KeyKind prog w K} {k2 : KeyKind prog w K'} (d : h.DictOf k1 a []) : h.DictOf k2 a [] := by
  obtain ⟨o, es, ep, ho, hx, hd, hk, hp, hn⟩ := d
  have e : es.toList = [] := by cases hp' : es.toList with | nil => rfl | cons x r => rw [hp'] at hp; cases hp
  have e' : es = #[] := by simpa using e
  subst e'
  exact ⟨o, #[], ep, ho, hx, hd, fun _ he => by simp at he, .nil, by simp⟩
theorem dictOf_nilH {K : Type} [DecidableEq K] {prog : Program} {w : World} {k1 : HeapKind prog w (List TI)} {k2 : KeyKind prog w K} (d : h.DictOfH k1 a []) : h.DictOf k2 a [] := by
  obtain ⟨o, es, ep, ho, hx, hd, hp, _, hn⟩ := d
  have e' : es = #[] := by simpa using hp
  subst e'
  exact ⟨o, #[], ep, ho, hx, hd, fun _ he => by simp at he, .nil, by simp⟩
theorem dictOf_nilT {K : Type} [DecidableEq K] {prog : Program} {w : World} {k1 : HeapKind prog w (List TI)} {k2 : KeyKind prog w K} (d : h.DictOf k2 a []) : h.DictOfH k1 a [] := by
  obtain ⟨o, es, ep, ho, hx, hd, hk, hp, hn⟩ := d
  have e : es.toList = [] := by cases hp' : es.toList with | nil => rfl | cons x r => rw [hp'] at hp; cases hp
  exact ⟨o, es, ep, ho, hx, hd, by rw [e]; rfl, fun _ he => (nomatch he), by simp⟩
/-- no entry, or an entry's kind -/
theorem All2.kind {β : Type} {P : V × V → β → Prop} {l : List (V × V)} {r : List β} (x : All2 P l r) {n : Nat} (hn : ∀ p ∈ l, kindOf p.1 = n) {m : Nat} (hm : ∀ p b, P p b → kindOf p.1 = m) : n = m ∨ (l = [] ∧ r = []) := by
  cases x with
  | nil => exact .inr ⟨rfl, rfl⟩
  | cons p q => exact .inl ((hn _ (.head _)).symm.trans (hm _ _ p))
theorem ints_kind (p : V × V) (b : Int × Value) (x : p.1 = .int b.1 ∧ Rep W h μ p.2 b.2) : kindOf p.1 = 1 := x.1 ▸ rfl
theorem strs_kind (p : V × V) (b : Str × Value) (x : (∃ k, p.1 = .str k ∧ nm k = b.1 ∧ k < NN) ∧ Rep W h μ p.2 b.2) : kindOf p.1 = 2 := have ⟨_, e, _⟩ := x.1; e ▸ rfl
theorem tups_kind (p : V × V) (b : List TI × Addr × Value) (x : p.1 = tkV b.1 ∧ Rep W h μ p.2 b.2.2) : kindOf p.1 = 3 := x.1 ▸ rfl
theorem RepD.ints {l : List (V × V)} (r : RepD W h μ a l) (hk : ∀ p ∈ l, kindOf p.1 = 1) : ∃ kvs, h.DictOf (intKind W.prog W.w) a kvs ∧ IntsD W h μ l kvs := by
  cases r with
  | dI kvs d x => exact ⟨kvs, d, x⟩
  | dS kvs d x => rcases x.kind hk strs_kind with e | ⟨rfl, rfl⟩; cases e; exact ⟨[], dictOf_nil d, .nil⟩
  | dT xs d x => rcases x.kind hk tups_kind with e | ⟨rfl, rfl⟩; cases e; exact ⟨[], dictOf_nilH d, .nil⟩
theorem RepD.strs {l : List (V × V)} (r : RepD W h μ a l) (hk : ∀ p ∈ l, kindOf p.1 = 2) : ∃ kvs, h.DictOf (strKind W.prog W.w) a kvs ∧ StrsD W h μ l kvs := by
  cases r with
  | dS kvs d x => exact ⟨kvs, d, x⟩
  | dI kvs d x => rcases x.kind hk ints_kind with e | ⟨rfl, rfl⟩; cases e; exact ⟨[], dictOf_nil d, .nil⟩
  | dT xs d x => rcases x.kind hk tups_kind with e | ⟨rfl, rfl⟩; cases e; exact ⟨[], dictOf_nilH d, .nil⟩
theorem RepD.tups {l : List (V × V)} (r : RepD W h μ a l) (hk : ∀ p ∈ l, kindOf p.1 = 3) : ∃ xs, h.DictOfH (key2 W.prog W.w) a xs ∧ TupsD W h μ l xs := by
  cases r with
  | dT xs d x => exact ⟨xs, d, x⟩
  | dI kvs d x => rcases x.kind hk ints_kind with e | ⟨rfl, rfl⟩; cases e; exact ⟨[], dictOf_nilT d, .nil⟩
  | dS kvs d x => rcases x.kind hk strs_kind with e | ⟨rfl, rfl⟩; cases e; exact ⟨[], dictOf_nilT d, .nil⟩

/-- what both sides find -/
noncomputable def FindR (W : Wd) (h : Heap) (μ : Mu) (x : Option V) (y : Option Value) : Prop := (∃ v u, x = some v ∧ y = some u ∧ Rep W h μ v u) ∨ (x = none ∧ y = none)
theorem FindR.some {v : V} {y : Option Value} (f : FindR W h μ (some v) y) : ∃ u, y = .some u ∧ Rep W h μ v u := by
  rcases f with ⟨v', u, e1, e2, r⟩ | ⟨e, _⟩
  · cases e1; exact ⟨u, e2, r⟩
  · cases e
theorem FindR.none {y : Option Value} (f : FindR W h μ none y) : y = .none := by
  rcases f with ⟨v', u, e1, e2, r⟩ | ⟨_, e⟩
  · cases e1
  · exact e
theorem FindR.isSome {x : Option V} {y : Option Value} (f : FindR W h μ x y) : x.isSome = y.isSome := by
  rcases f with ⟨v', u, e1, e2, r⟩ | ⟨e1, e2⟩ <;> rw [e1, e2] <;> rfl
theorem valueAt_cons {K : Type} [DecidableEq K] (k j : K) (u : Value) (r : List (K × Value)) : valueAt ((k, u) :: r) j = if k = j then some u else valueAt r j := by
  unfold valueAt
  rw [List.find?_cons]
  by_cases e : k = j
  · rw [if_pos e, decide_eq_true e]; rfl
  · rw [if_neg e, decide_eq_false e]
theorem dfind_cons {k x v : V} {r : List (V × V)} {p : Prop} [Decidable p] (e : keyEq k x = decide p) : dfind ((k, v) :: r) x = if p then some v else dfind r x := by
  show (match keyEq k x with | true => some v | false => dfind r x) = _
  rw [e]
  by_cases q : p
  · rw [if_pos q, decide_eq_true q]
  · rw [if_neg q, decide_eq_false q]
theorem FindR.cons {v : V} {u : Value} {p : Prop} [Decidable p] {x : Option V} {y : Option Value} (r : Rep W h μ v u) (f : FindR W h μ x y) : FindR W h μ (if p then .some v else x) (if p then .some u else y) := by
  by_cases q : p
  · rw [if_pos q, if_pos q]; exact .inl ⟨v, u, rfl, rfl, r⟩
  · rw [if_neg q, if_neg q]; exact f
theorem dfind_int {i : Int} {l : List (V × V)} {kvs : List (Int × Value)} (x : IntsD W h μ l kvs) : FindR W h μ (dfind l (.int i)) (valueAt kvs i) :=
  x.rec (.inr ⟨rfl, rfl⟩) fun {a b l r} p _ ih => by
    obtain ⟨k, v⟩ := a; obtain ⟨j, u⟩ := b; obtain ⟨rfl, q⟩ := p
    rw [dfind_cons (p := j = i) rfl, valueAt_cons]; exact ih.cons q
theorem dfind_str {i : Nat} (hi : i < NN) {l : List (V × V)} {kvs : List (Str × Value)} (x : StrsD W h μ l kvs) : FindR W h μ (dfind l (.str i)) (valueAt kvs (nm i)) :=
  x.rec (.inr ⟨rfl, rfl⟩) fun {a b l r} p _ ih => by
    obtain ⟨k, v⟩ := a; obtain ⟨j, u⟩ := b; obtain ⟨⟨k', rfl, rfl, hk'⟩, q⟩ := p
    rw [dfind_cons (k := .str k') (x := .str i) (p := nm k' = nm i) ((beq_dec k' i).trans (decide_eq_decide.mpr ⟨fun e => e ▸ rfl, nm_inj hk' hi⟩)), valueAt_cons]; exact ih.cons q
end

-- data read off pure values
mutual
theorem Rep.reads {h : Heap} {μ : Mu} : ∀ (v : V) {u : Value}, isPure v = true → Rep W h μ v u → ∃ as, Reads h u (toP v) as
  | .none, _, _, r => by cases (r : _ = _); exact ⟨_, .none⟩
  | .bool b, _, _, r => by cases (r : _ = _); exact ⟨_, .bool b⟩
  | .int i, _, _, r => by obtain ⟨t, rfl⟩ := r; exact ⟨_, .int i t⟩
  | .tup l, _, p, r => by obtain ⟨a, items, rfl, ⟨o, ho, hc, n, hd⟩, hl⟩ := r; obtain ⟨as, ha⟩ := RepL.reads l p hl; exact ⟨as, .tuple ho hc hd ha⟩
  | .str k, _, p, _ => nomatch p
  | .flist k, _, p, _ => nomatch p
  | .fdct k, _, p, _ => nomatch p
  | .rng k, _, p, _ => nomatch p
  | .ref k, _, p, _ => nomatch p
theorem RepL.reads {h : Heap} {μ : Mu} : ∀ (l : List V) {us : List Value}, arePure l = true → RepL W h μ l us → ∃ as, ReadsAll h us (toPs l) as
  | [], _, _, r => by cases (r : _ = _); exact ⟨_, .nil⟩
  | v :: l, _, p, r => by obtain ⟨u, us, rfl, a, b⟩ := r; obtain ⟨as, ha⟩ := Rep.reads v (both p).1 a; obtain ⟨bs, hb⟩ := RepL.reads l (both p).2 b; exact ⟨_, .cons ha hb⟩
end
end Mine
end
section
set_option maxRecDepth 100000
namespace Mine
open PySem PySem.W PyProof.Rows
variable {W : Wd}

noncomputable def pyC : COp → CmpOp
  | .eq => .Eq | .ne => .NotEq | .lt => .Lt | .le => .LtE | .gt => .Gt | .ge => .GtE | .is => .Is | .isnot => .IsNot | .in_ => .In | .notin => .NotIn

theorem WOk.notSys (O : WOk W) {a : Addr} (h : W.B.get? a = Option.none) : (a == sysModules) = false := by
  obtain ⟨mm, ⟨o, es, ep, ho, _⟩, _⟩ := O.noseer.mods
  exact beq_eq_false_iff_ne.mpr fun e => ne_none ho (e ▸ h)
theorem DctAt.notSys (O : WOk W) {h μ H i l p} (R : SR W μ H h) (x : DctAt W h μ H i l p) : (p.1 == sysModules) = false := O.notSys (R.above p (List.mem_of_getElem? x.hp)).1

/-- int pairs -/
theorem intPairs_at {a b : V} {r : List (V × V)} {p : List (Int × Int)} (e : intPairs ((a, b) :: r) = some p) : ∃ i j q, a = .int i ∧ b = .int j ∧ intPairs r = some q ∧ p = (i, j) :: q := by
  cases a with
  | int i => cases b with
    | int j =>
      change (match intPairs r with | some l => some ((i, j) :: l) | none => none) = some p at e
      cases h : intPairs r with
      | none => rw [h] at e; cases e
      | some q => rw [h] at e; cases e; exact ⟨i, j, q, rfl, rfl, rfl, rfl⟩
    | _ => cases e
  | _ => cases e
noncomputable abbrev PairsAre (kvs : List (Int × Value)) (p : List (Int × Int)) : Prop := All2 (fun (kv : Int × Value) (ab : Int × Int) => kv.1 = ab.1 ∧ ∃ t, kv.2 = .int ab.2 t) kvs p
theorem pairsAre {h : Heap} {μ : Mu} {l : List (V × V)} {kvs : List (Int × Value)} (x : IntsD W h μ l kvs) : ∀ (p : List (Int × Int)), intPairs l = some p → PairsAre kvs p :=
  x.rec (fun p e => by cases e; exact .nil) fun {a b l r} x _ ih p e => by
    obtain ⟨k, v⟩ := a; obtain ⟨j, u⟩ := b
    obtain ⟨i, j', q, rfl, rfl, e1, rfl⟩ := intPairs_at e
    obtain ⟨e2, r1⟩ := x
    exact .cons ⟨(V.int.inj e2).symm, r1⟩ (ih _ e1)
theorem intPairs_ok : ∀ {l : List (V × V)} {p : List (Int × Int)}, intPairs l = some p → ∀ q ∈ l, kindOf q.1 = 1
  | [], _, _, q, hq => nomatch hq
  | (a, b) :: r, p, h, q, hq => by
    obtain ⟨i, j, p', rfl, rfl, e1, rfl⟩ := intPairs_at h
    exact (List.mem_cons.mp hq).elim (fun e => e ▸ rfl) (intPairs_ok e1 q)
theorem pairs_mem {a b : Int} {kvs : List (Int × Value)} {p : List (Int × Int)} (x : PairsAre kvs p) : (a, b) ∈ p → a ∈ kvs.map (·.1) :=
  x.rec (fun h => nomatch h) fun {c d _ _} x _ ih h => by
    rw [List.map_cons]
    rcases List.mem_cons.mp h with h | h
    · exact List.mem_cons.mpr (.inl (by rw [x.1, ← h]))
    · exact List.mem_cons_of_mem _ (ih h)
theorem valueAt_pairs {a b : Int} {kvs : List (Int × Value)} {p : List (Int × Int)} (x : PairsAre kvs p) : (kvs.map (·.1)).Nodup → (a, b) ∈ p → ∃ t, valueAt kvs a = some (.int b t) :=
  x.rec (fun _ h => nomatch h) fun {c d r _} x y ih hn hm => by
    obtain ⟨k, v⟩ := c; obtain ⟨k', b'⟩ := d; obtain ⟨e, t, e'⟩ := x; change k = k' at e; subst e; change v = .int b' t at e'; subst e'
    rw [List.map_cons, List.nodup_cons] at hn
    rw [valueAt_cons]
    rcases List.mem_cons.mp hm with e | hm
    · cases e; exact ⟨t, if_pos rfl⟩
    · rw [if_neg fun e : k = a => hn.1 (e ▸ pairs_mem y hm)]; exact ih hn.2 hm
theorem hits_of {A : Around} {s : Shared} {kb : List (Int × Value)} {p : List (Int × Int)} (hb : PairsAre kb p) (hn : (kb.map (·.1)).Nodup) {ka : List (Int × Value)} {q : List (Int × Int)} (x : PairsAre ka q) : (∀ x ∈ q, x ∈ p) → KeqHits A s kb ka true :=
  x.rec (fun _ => .nil) fun {c d r _} x _ ih hs => by
    obtain ⟨k, v⟩ := c; obtain ⟨k', b'⟩ := d; obtain ⟨e, t, e'⟩ := x; change k = k' at e; subst e; change v = .int b' t at e'; subst e'
    obtain ⟨u, hu⟩ := valueAt_pairs hb hn (hs _ (.head _))
    have := KeqHits.hit hu ((PySem.MeetsSeq.EqGives.int b' b' t u).at A s) (ih fun x hx => hs x (.tail _ hx))
    rwa [beq_self_eq_true] at this

theorem isInt_at {prog : Program} {w : World} (i : Int) (t : Tok) : (intKind prog w).is i (.int i t) = true := by simp [intKind, Value.isInt]
noncomputable def isI (i : Int) : Value → Bool
  | .int j _ => j == i
  | _ => false
theorem allInts_at {v : V} {l : List V} {js : List Int} (e : allInts (v :: l) = some js) : ∃ i js', v = .int i ∧ allInts l = some js' ∧ js = i :: js' := by
  cases v with
  | int i =>
    change (match allInts l with | some l => some (i :: l) | none => none) = some js at e
    cases h : allInts l with
    | none => rw [h] at e; cases e
    | some q => rw [h] at e; cases e; exact ⟨i, q, rfl, rfl, rfl⟩
  | _ => cases e
theorem allInts_any {h : Heap} {μ : Mu} {i : Int} : ∀ {l : List V} {us : List Value} {js : List Int}, RepL W h μ l us → allInts l = some js →
    (∀ y ∈ us, ∃ j t, y = .int j t) ∧ us.any (isI i) = js.any fun j => decide (j = i)
  | [], _, _, r, e => by cases (r : _ = _); cases e; exact ⟨fun _ h => (nomatch h), rfl⟩
  | v :: l, _, js, r, e => by
    obtain ⟨u, us, rfl, a, b⟩ := r
    obtain ⟨i', js', rfl, e', rfl⟩ := allInts_at e
    obtain ⟨t, rfl⟩ := a
    obtain ⟨h1, h2⟩ := allInts_any b e'
    exact ⟨fun y hy => (List.mem_cons.mp hy).elim (fun e => ⟨_, _, e⟩) (h1 y), by rw [List.any_cons, List.any_cons, h2]; rfl⟩

section
variable {A : Around} {E : Value → Shared → Prop} {s : Shared} {μ : Mu} {H : AH} {Q : Value → Shared → Prop}

theorem inK_sound {T : Value → Value → Prop} {a c : V} {ua uc : Value} {k : Bool → Prop} (h : inK H a c k) (O : WOk W) (R : SR W μ H s.heap) (ra : Rep W s.heap μ a ua) (rc : Rep W s.heap μ c uc)
    (hd : ∀ {i t d f}, (d == sysModules) = false → s.heap.MapOf (intKind W.prog W.w) d f → k (f i).isSome → T (.int i t) (.ref d))
    (ht : ∀ {i t b items}, s.heap.IsTuple b items → (∀ y ∈ items, SeqAt.EqAt A.in1 s y (.int i t) (isI i y)) → k (items.any (isI i)) → T (.int i t) (.ref b)) : T ua uc := by
  cases c with
  | fdct l =>
    obtain ⟨d, f, rfl, hs, ⟨o₁, es₁, ep₁, ho₁, x₁⟩, hf⟩ := rc
    exact onInt.rep h ra fun i t h => hd hs ⟨o₁, es₁, ep₁, R.kept _ _ ho₁, x₁⟩ (by rw [hf]; exact h)
  | tup l =>
    refine onInt.rep h ra fun i t h => ?_
    cases hj : allInts l with
    | none => rw [hj] at h; exact h.elim
    | some js =>
      rw [hj] at h
      refine rc.tup fun b items hb hl => ?_
      obtain ⟨h1, h2⟩ := allInts_any (i := i) hl hj
      refine ht hb (fun y hy => ?_) (by rw [← Array.any_toList, h2]; exact h)
      obtain ⟨j, t', rfl⟩ := h1 y (Array.mem_toList_iff.mpr hy)
      exact (PySem.MeetsSeq.EqGives.int j _ t' t).at _ _
  | ref b =>
    obtain ⟨l, hi, h⟩ := atD.of h
    refine rc.ref (C := fun u => T ua u) R hi fun p x => ?_
    cases a with
    | int i =>
      obtain ⟨hk, h⟩ := bQ.of h
      refine ra.int fun t => ?_
      obtain ⟨kvs, d, y⟩ := x.r.2.ints (keyOk_kinds hk)
      exact hd (O.notSys (R.above p (List.mem_of_getElem? x.hp)).1) d.mapOf (by rw [← (dfind_int y).isSome]; exact h)
    | _ => exact h.elim
  | _ => exact h.elim

theorem eqP_sound {T : Value → Value → Prop} {a c : V} {ua uc : Value} {k : Bool → Prop} (h : eqP a c k) (ra : Rep W s.heap μ a ua) (rc : Rep W s.heap μ c uc)
    (h2 : ∀ {ua uc da dc as bs}, Reads s.heap ua da as → Reads s.heap uc dc bs → SeqAt.shaped da = true → SeqAt.shaped dc = true → k (PyData.eqv da dc) → T ua uc) : T ua uc := by
  obtain ⟨p, h⟩ := bQ.of h
  obtain ⟨p1, p⟩ := both p
  obtain ⟨p2, p⟩ := both p
  obtain ⟨as, r1⟩ := Rep.reads _ p1 ra
  obtain ⟨bs, r2⟩ := Rep.reads _ p2 rc
  exact h2 r1 r2 (both p).1 (both p).2 h
theorem eqK_sound {T : Value → Value → Prop} {a c : V} {ua uc : Value} {k : Bool → Prop} (h : eqK H a c k) (O : WOk W) (R : SR W μ H s.heap) (ra : Rep W s.heap μ a ua) (rc : Rep W s.heap μ c uc)
    (h1 : ∀ {x t y u}, k (decide (x = y)) → T (.int x t) (.int y u))
    (h2 : ∀ {ua uc da dc as bs}, Reads s.heap ua da as → Reads s.heap uc dc bs → SeqAt.shaped da = true → SeqAt.shaped dc = true → k (PyData.eqv da dc) → T ua uc)
    (h3 : ∀ {a b ka kb}, (a == sysModules) = false → (b == sysModules) = false → s.heap.DictOf (intKind W.prog W.w) a ka → s.heap.DictOf (intKind W.prog W.w) b kb → (ka.length = kb.length → KeqHits A.in1 s kb ka true) → k (ka.length == kb.length && true) → T (.ref a) (.ref b)) : T ua uc := by
  cases a with
  | int x =>
    cases c with
    | int y => exact ra.int (C := fun u => T u uc) fun t => rc.int fun u => h1 h
    | _ => exact eqP_sound h ra rc h2
  | ref x =>
    refine onRef.rep h rc fun y rc h => ?_
    unfold eqR at h
    cases hx : H[x]? with
    | none => rw [hx] at h; exact h.elim
    | some cx =>
      rw [hx] at h
      cases cx with
      | lst l =>
        obtain ⟨r, hy, h⟩ := atL.of h
        obtain ⟨z, h⟩ := bQ.of h
        obtain ⟨p1, z⟩ := both z
        obtain ⟨p2, z⟩ := both z
        refine ra.lst (C := fun u => T u uc) R hx fun p us n X => rc.lst R hy fun q vs n' Y => ?_
        obtain ⟨as, r1⟩ := RepL.reads l p1 X.l
        obtain ⟨bs, r2⟩ := RepL.reads r p2 Y.l
        exact h2 (.list X.g rfl rfl r1) (.list Y.g rfl rfl r2) (both z).1 (both z).2 h
      | dct l =>
        obtain ⟨r, hy, h⟩ := atD.of h
        unfold eqD2 at h
        cases e1 : intPairs l with
        | none => rw [e1] at h; exact h.elim
        | some p =>
          rw [e1] at h
          cases e2 : intPairs r with
          | none => rw [e2] at h; exact h.elim
          | some q =>
            rw [e2] at h
            obtain ⟨e, hk⟩ := bQ.of h
            clear h
            cases of_decide_eq_true e
            refine ra.ref (C := fun u => T u uc) R hx fun p' X => rc.ref R hy fun q' Y => ?_
            obtain ⟨ka, da, xa⟩ := X.r.2.ints (intPairs_ok e1)
            obtain ⟨kb, db, xb⟩ := Y.r.2.ints (intPairs_ok e2)
            have pa := pairsAre xa _ e1
            have pb := pairsAre xb _ e2
            obtain ⟨_, _, _, _, _, _, _, _, nb⟩ := id db
            refine h3 (O.notSys (R.above p' (List.mem_of_getElem? X.hp)).1) (O.notSys (R.above q' (List.mem_of_getElem? Y.hp)).1) da db (fun _ => hits_of pb nb pa fun x hx => hx) ?_
            rw [pa.length, pb.length, beq_self_eq_true]; exact hk
      | inst _ _ => exact h.elim
  | _ => exact eqP_sound h ra rc h2

theorem isNone_rep {h : Heap} {v : V} {u : Value} (r : Rep W h μ v u) : isNone v = (u == .none) := by
  cases v with
  | none => cases (r : _ = _); rfl
  | bool b => cases (r : _ = _); rfl
  | int _ => obtain ⟨t, rfl⟩ := r; rfl
  | str _ => obtain ⟨t, rfl, _⟩ := r; rfl
  | tup _ => obtain ⟨a, items, rfl, _⟩ := r; rfl
  | flist _ => obtain ⟨a, items, rfl, _⟩ := r; rfl
  | fdct _ => obtain ⟨a, items, rfl, _⟩ := r; rfl
  | rng _ => obtain ⟨a, t, u, x, rfl, _⟩ := r; rfl
  | ref _ => obtain ⟨p, _, rfl⟩ := r; rfl
theorem onNone.rep {h : Heap} {v : V} {u : Value} {P : Prop} (z : onNone v P) (r : Rep W h μ v u) : u = .none ∧ P := by
  cases v with
  | none => exact ⟨r, z⟩
  | _ => exact z.elim

/-- behind a comparison: the same heap -/
theorem wCmp_sound {op : COp} {k : Nat} {a c : V} {ua uc : Value} {K : Bool → AH → Prop} (h : wCmp op a c K H) (hA : AIn A k) (O : WOk W) (R : SR W μ H s.heap) (ra : Rep W s.heap μ a ua) (rc : Rep W s.heap μ c uc)
    (hQ : ∀ r t, K r H → Q (.bool r) { s with toks := t }) : wpAny (model W.prog W.w) A (compareOp (pyC op) ua uc) Q E s := by
  have hu := hA.u64
  have hu' : A.units < cLine := Nat.lt_of_le_of_lt (Nat.le_add_right _ 64) hu
  cases op with
  | eq => exact eqK_sound (T := fun ua uc => wpAny (model W.prog W.w) A (compareOp .Eq ua uc) Q E s) (A := A) (k := fun r => K r H) h O R ra rc (fun h => P.eq_int (hQ _ _ h)) (fun r1 r2 s1 s2 h => eq_dataH r1 r2 s1 s2 hu (hQ _ s.toks h)) fun n1 n2 d1 d2 hh h => keq_eq n1 n2 d1 d2 hu' hh (hQ _ s.toks h)
  | ne => exact eqK_sound (T := fun ua uc => wpAny (model W.prog W.w) A (compareOp .NotEq ua uc) Q E s) (A := A) (k := fun r => K (!r) H) h O R ra rc (fun h => P.ne_int (hQ _ _ h)) (fun r1 r2 s1 s2 h => ne_dataH r1 r2 s1 s2 hu (hQ _ s.toks h)) fun n1 n2 d1 d2 hh h => keq_ne n1 n2 d1 d2 hu' hh (hQ _ s.toks h)
  | lt => exact ints_sound h ra rc fun x t y u h => P.lt_int (hQ _ _ h)
  | le => exact ints_sound h ra rc fun x t y u h => P.le_int (hQ _ _ h)
  | gt => exact ints_sound h ra rc fun x t y u h => P.gt_int (hQ _ _ h)
  | ge => exact ints_sound h ra rc fun x t y u h => P.ge_int (hQ _ _ h)
  | is => obtain ⟨rfl, h⟩ := onNone.rep h rc; exact is_none_gen (hQ _ s.toks (isNone_rep ra ▸ h))
  | isnot => obtain ⟨rfl, h⟩ := onNone.rep h rc; exact isnot_none_gen (hQ _ s.toks (isNone_rep ra ▸ h))
  | in_ => exact inK_sound (T := fun ua uc => wpAny (model W.prog W.w) A (compareOp .In ua uc) Q E s) (A := A) (k := fun r => K r H) h O R ra rc (fun n m h => wpAny_in_of (isInt_at _ _) n m (hQ _ _ h)) fun ht hy h => SeqAt.in_tupleAt _ ht hy (hQ _ s.toks h)
  | notin => exact inK_sound (T := fun ua uc => wpAny (model W.prog W.w) A (compareOp .NotIn ua uc) Q E s) (A := A) (k := fun r => K (!r) H) h O R ra rc (fun n m h => wpAny_notIn_of (isInt_at _ _) n m (hQ _ _ h)) fun ht hy h => SeqAt.notIn_tupleAt _ ht hy (hQ _ s.toks h)
end
end Mine
end
section
set_option maxRecDepth 100000
namespace Mine
open PySem PySem.W PyProof.Rows PySem.Calls
variable {W : Wd}

theorem dput_cons {k x u v : V} {r : List (V × V)} {p : Prop} [Decidable p] (e : keyEq k x = decide p) : dput ((k, u) :: r) x v = if p then (k, v) :: r else (k, u) :: dput r x v := by
  show (match keyEq k x with | true => (k, v) :: r | false => (k, u) :: dput r x v) = _
  rw [e]
  by_cases q : p
  · rw [if_pos q, decide_eq_true q]
  · rw [if_neg q, decide_eq_false q]
theorem ddel_cons {k x u : V} {r : List (V × V)} {p : Prop} [Decidable p] (e : keyEq k x = decide p) : ddel ((k, u) :: r) x = if p then r else (k, u) :: ddel r x := by
  show (match keyEq k x with | true => r | false => (k, u) :: ddel r x) = _
  rw [e]
  by_cases q : p
  · rw [if_pos q, decide_eq_true q]
  · rw [if_neg q, decide_eq_false q]
theorem ints_put {h : Heap} {μ : Mu} {i : Int} {v : V} {u : Value} (hv : Rep W h μ v u) {l : List (V × V)} {kvs : List (Int × Value)} (x : IntsD W h μ l kvs) : (kvs.map (·.1)).Nodup → IntsD W h μ (dput l (.int i) v) (stored kvs i u) :=
  x.rec (fun _ => .cons ⟨rfl, hv⟩ .nil) fun {a b l r} p q ih hn => by
    obtain ⟨k, x⟩ := a; obtain ⟨j, y⟩ := b; obtain ⟨rfl, hx⟩ := p
    rw [List.map_cons, List.nodup_cons] at hn
    rw [dput_cons (k := .int j) (p := j = i) rfl]
    by_cases hj : j = i
    · subst hj
      rw [if_pos rfl, show stored ((j, y) :: r) j u = (j, u) :: r from by unfold stored; simp [map_store_of_not_mem r j u hn.1]]
      exact .cons ⟨rfl, hv⟩ q
    · rw [if_neg hj, show stored ((j, y) :: r) i u = (j, y) :: stored r i u from by
        unfold stored
        rw [List.any_cons, decide_eq_false hj, Bool.false_or, List.map_cons, if_neg hj]
        split <;> rfl]
      exact .cons ⟨rfl, hx⟩ (ih hn.2)
theorem ints_del {h : Heap} {μ : Mu} {i : Int} {l : List (V × V)} {kvs : List (Int × Value)} (x : IntsD W h μ l kvs) : (kvs.map (·.1)).Nodup → IntsD W h μ (ddel l (.int i)) (without kvs i) :=
  x.rec (fun _ => .nil) fun {a b l r} p q ih hn => by
    obtain ⟨k, x⟩ := a; obtain ⟨j, y⟩ := b; obtain ⟨rfl, hx⟩ := p
    rw [List.map_cons, List.nodup_cons] at hn
    rw [ddel_cons (k := .int j) (p := j = i) rfl]
    by_cases hj : j = i
    · subst hj
      rw [if_pos rfl, show without ((j, y) :: r) j = r from by
        have := without_of_not_mem r j hn.1
        unfold without at this ⊢
        simpa using this]
      exact q
    · rw [if_neg hj, show without ((j, y) :: r) i = (j, y) :: without r i from by unfold without; simp [hj]]
      exact .cons ⟨rfl, hx⟩ (ih hn.2)

section
variable {A : Around} {E : Value → Shared → Prop} {s : Shared} {μ : Mu} {H : AH} {K : V → AH → Prop} {Q : Value → Shared → Prop}

theorem wTru_sound {v : V} {u : Value} {K : Bool → AH → Prop} {Q : Bool → Shared → Prop} (h : wTru v K H) (r : Rep W s.heap μ v u) (hQ : ∀ b, K b H → Q b s) : wpAny (model W.prog W.w) A (PySem.truthy u) Q E s := by
  cases v with
  | bool b => cases (r : _ = _); exact wpAny_truthy_bool (hQ _ h)
  | int i => exact r.int fun t => P.truthy_int (hQ _ h)
  | _ => exact h.elim

theorem getAt_some {α : Type} {l : List α} {k : Int} {x : α} (h : getAt l k = some x) : 0 ≤ k ∧ k < 2 ^ 63 ∧ l[k.toNat]? = some x := by
  unfold getAt at h
  cases hb : (decide (0 ≤ k) && lt63 k) with
  | false => rw [hb] at h; cases h
  | true =>
    rw [hb] at h
    have ⟨h0, h1⟩ := both hb
    have h0 := of_decide_eq_true h0
    exact ⟨h0, (Int.toNat_lt h0).mp (Nat.lt_succ_of_le (Nat.le_of_ble_eq_true h1)), h⟩
theorem wSub_sound {T : Value → Value → Prop} {o i : V} {uo ui : Value} (h : wSub o i K H) (R : SR W μ H s.heap) (ro : Rep W s.heap μ o uo) (ri : Rep W s.heap μ i ui) (hQ : Post W s μ K Q)
    (k : ∀ {n id a}, s.TypeIs (.ref a) n → typeLookup (.type n) "__getitem__" = pure (some (.builtin id)) → wpAny (model W.prog W.w) A (getItem (.ref a) ui) Q E s → T (.ref a) ui) : T uo ui := by
  have item : ∀ {l : List V} {us : List Value}, RepL W s.heap μ l us → (onInt i fun j => oQ (getAt l j) K H) → ∃ j t u, ui = .int j t ∧ 0 ≤ j ∧ j < 2 ^ 63 ∧ us[j.toNat]? = some u ∧ Q u s := fun {l us} hl h => by
    refine onInt.rep (C := fun ui => ∃ j t u, ui = .int j t ∧ 0 ≤ j ∧ j < 2 ^ 63 ∧ us[j.toNat]? = some u ∧ Q u s) h ri fun j t h => ?_
    obtain ⟨v, e, h⟩ := h.of
    obtain ⟨h0, h1, hx⟩ := getAt_some e
    obtain ⟨u, hu, hr⟩ := hl.get hx
    exact ⟨j, t, u, rfl, h0, h1, hu, hQ h (.refl R) hr⟩
  cases o with
  | tup l =>
    refine ro.tup fun a items ht hl => ?_
    obtain ⟨j, t, u, rfl, h0, h1, hu, q⟩ := item hl h
    rw [Array.getElem?_toList] at hu
    have hlt := (Array.getElem?_eq_some_iff.mp hu).1
    exact k (IsTup.typeIs ht) slot_tuple_getitem.lookup (getItem_tuple ht (by omega) h1 (PySem.seqIndex_of h0 (by omega)) hu q)
  | flist l =>
    obtain ⟨a, items, rfl, ⟨o₁, ho₁, x₁⟩, hl⟩ := ro
    have ht : s.heap.IsList a items := ⟨o₁, R.kept _ _ ho₁, x₁⟩
    obtain ⟨j, t, u, rfl, h0, h1, hu, q⟩ := item hl h
    exact k ht.typeIs slot_list_getitem.lookup (wpAny_getItem_list ht h0 h1 (by rw [← Array.getElem?_toList]; exact hu) q)
  | ref a =>
    change subC H[a]? i K H at h
    cases hc : H[a]? with
    | none => rw [hc] at h; exact h.elim
    | some c =>
      rw [hc] at h
      cases c with
      | lst l =>
        refine ro.lst R hc fun p us n x => ?_
        obtain ⟨j, t, u, rfl, h0, h1, hu, q⟩ := item x.l h
        exact k x.is.typeIs slot_list_getitem.lookup (wpAny_getItem_list x.is h0 h1 (by rw [← Array.getElem?_toList]; exact hu) q)
      | dct l =>
        obtain ⟨z, h⟩ := bQ.of h
        obtain ⟨v, e, hk⟩ := oQ.of h
        clear h
        refine ro.ref R hc fun p x => ?_
        cases i with
        | int i =>
          obtain ⟨t, rfl⟩ := ri
          obtain ⟨kvs, d, y⟩ := x.r.2.ints (keyOk_kinds (both z).1)
          obtain ⟨u, f, hr⟩ := FindR.some (e ▸ dfind_int (i := i) y)
          exact k d.typeIs slot_dict_getitem.lookup (wpAny_getItem_of (isInt_at i t) d.mapOf f (hQ hk (.tok R _) hr))
        | str i =>
          obtain ⟨t, rfl, hi⟩ := ri
          obtain ⟨kvs, d, y⟩ := x.r.2.strs (keyOk_kinds (both z).1)
          obtain ⟨u, f, hr⟩ := FindR.some (e ▸ dfind_str (i := i) hi y)
          exact k d.typeIs slot_dict_getitem.lookup (wpAny_getItem_of (strKind_is W.prog W.w (nm i) t) d.mapOf f (hQ hk (.tok R _) hr))
        | _ => exact nomatch (both z).2
      | inst _ _ => exact h.elim
  | _ => exact h.elim
end
end Mine
end
section
set_option maxRecDepth 100000
namespace Mine
open PySem PySem.W PyProof.Rows PySem.Calls
variable {W : Wd}

-- tuple keys
theorem tiInts_eq : ∀ {l : List V} {js : List Int}, tiInts l = some js → l = js.map .int
  | [], _, h => by cases h; rfl
  | v :: l, js, h => by
    cases v with
    | int i =>
      change (match tiInts l with | some l => some (i :: l) | none => none) = some js at h
      cases e : tiInts l with
      | none => rw [e] at h; cases h
      | some l' => rw [e] at h; cases h; rw [tiInts_eq e]; rfl
    | _ => cases h
theorem tiOf_eq : ∀ {l : List V} {ks : List TI}, tiOf l = some ks → l = ks.map tiV
  | [], _, h => by cases h; rfl
  | v :: l, ks, h => by
    cases v with
    | int i =>
      change (match tiOf l with | some l => some (Sum.inl i :: l) | none => none) = some ks at h
      cases e : tiOf l with
      | none => rw [e] at h; cases h
      | some l' => rw [e] at h; cases h; rw [tiOf_eq e]; rfl
    | tup t =>
      change (match tiInts t, tiOf l with | some js, some l => some (Sum.inr js :: l) | _, _ => none) = some ks at h
      cases e1 : tiInts t with
      | none => rw [e1] at h; cases h
      | some js =>
        cases e : tiOf l with
        | none => rw [e1, e] at h; cases h
        | some l' => rw [e1, e] at h; cases h; rw [tiOf_eq e, tiInts_eq e1]; rfl
    | _ => cases h
theorem cons_dec {α : Type} [DecidableEq α] {x y : α} {a b : List α} : (decide (x = y) && decide (a = b)) = decide (x :: a = y :: b) := by
  rw [← Bool.decide_and]; exact decide_eq_decide.mpr (List.cons.injEq .. ▸ Iff.rfl)
theorem keysEq_ints : ∀ (a b : List Int), keysEq (a.map .int) (b.map .int) = decide (a = b)
  | [], [] => rfl
  | [], _ :: _ => rfl
  | _ :: _, [] => rfl
  | x :: a, y :: b => (congrArg (decide (x = y) && ·) (keysEq_ints a b)).trans cons_dec
theorem keyEq_ti : ∀ (a b : TI), keyEq (tiV a) (tiV b) = decide (a = b)
  | .inl i, .inl j => decide_eq_decide.mpr ⟨congrArg _, Sum.inl.inj⟩
  | .inl i, .inr js => rfl
  | .inr is, .inl j => rfl
  | .inr is, .inr js => (keysEq_ints is js).trans (decide_eq_decide.mpr ⟨congrArg _, Sum.inr.inj⟩)
theorem keysEq_ti : ∀ (a b : List TI), keysEq (a.map tiV) (b.map tiV) = decide (a = b)
  | [], [] => rfl
  | [], _ :: _ => rfl
  | _ :: _, [] => rfl
  | x :: a, y :: b => by
    show (keyEq (tiV x) (tiV y) && keysEq (a.map tiV) (b.map tiV)) = _
    rw [keyEq_ti, keysEq_ti a b]; exact cons_dec
theorem keyEq_tk (a b : List TI) : keyEq (tkV a) (tkV b) = decide (a = b) := keysEq_ti a b

theorem itemsAre_of {h : Heap} {μ : Mu} : ∀ {js : List Int} {us : List Value}, RepL W h μ (js.map .int) us → ItemsAre (intKind W.prog W.w) js us
  | [], _, r => by cases (r : _ = _); exact .nil
  | j :: js, _, r => by obtain ⟨u, us, rfl, ⟨t, rfl⟩, b⟩ := r; exact .cons (isInt_at j t) (itemsAre_of b)
theorem items2_of {h : Heap} {μ : Mu} : ∀ {ks : List TI} {us : List Value}, RepL W h μ (ks.map tiV) us → Items2 W.prog W.w h ks us
  | [], _, r => by cases (r : _ = _); exact .nil
  | .inl j :: js, _, r => by obtain ⟨u, us, rfl, a, b⟩ := r; exact .cons (k := .inl j) a (items2_of b)
  | .inr j :: js, _, r => by
    obtain ⟨u, us, rfl, ⟨c, items, rfl, ⟨o, ho, hc, n, hd⟩, hl⟩, b⟩ := r
    exact .cons (k := .inr j) ⟨c, rfl, o, items, n, ho, hc, hd, itemsAre_of hl⟩ (items2_of b)
theorem key2_of {h : Heap} {μ : Mu} {ks : List TI} {u : Value} (r : Rep W h μ (tkV ks) u) : ∃ a, u = .ref a ∧ IsKey2 W.prog W.w h ks a := by
  obtain ⟨c, items, rfl, ⟨o, ho, hc, n, hd⟩, hl⟩ := r
  exact ⟨c, rfl, o, items, n, ho, hc, hd, items2_of hl⟩

theorem atKey_cons (js ks : List TI) (p : Addr × Value) (r : List (List TI × Addr × Value)) : atKey ((js, p) :: r) ks = if js = ks then some p else atKey r ks := by
  unfold atKey
  rw [List.find?_cons]
  by_cases e : js = ks
  · rw [if_pos e, decide_eq_true e]; rfl
  · rw [if_neg e, decide_eq_false e]
theorem dfind_tup {h : Heap} {μ : Mu} {ks : List TI} {l : List (V × V)} {xs : List (List TI × Addr × Value)} (x : TupsD W h μ l xs) : FindR W h μ (dfind l (tkV ks)) ((atKey xs ks).map (·.2)) :=
  x.rec (.inr ⟨rfl, rfl⟩) fun {a b l r} p _ ih => by
    obtain ⟨k, v⟩ := a; obtain ⟨js, c, u⟩ := b; obtain ⟨rfl, q⟩ := p
    rw [dfind_cons (keyEq_tk js ks), atKey_cons, apply_ite (Option.map _)]; exact ih.cons q
theorem putAt_same {js : List TI} {u : Value} : ∀ {r : List (List TI × Addr × Value)}, js ∉ r.map (·.1) → r.map (putAt js u) = r
  | [], _ => rfl
  | x :: r, hm => by
    rw [List.map_cons, List.mem_cons, not_or] at hm
    rw [List.map_cons, putAt_same hm.2, show putAt js u x = x from if_neg fun e => hm.1 e.symm]
theorem tups_put {h : Heap} {μ : Mu} {ks : List TI} {c : Addr} {v : V} {u : Value} (hv : Rep W h μ v u) {l : List (V × V)} {xs : List (List TI × Addr × Value)} (x : TupsD W h μ l xs) : (xs.map (·.1)).Nodup → TupsD W h μ (dput l (tkV ks) v) (storedH xs ks c u) :=
  x.rec (fun _ => .cons ⟨rfl, hv⟩ .nil) fun {a b l r} p q ih hn => by
    obtain ⟨k, y⟩ := a; obtain ⟨js, c', y'⟩ := b; obtain ⟨rfl, hx⟩ := p
    rw [List.map_cons, List.nodup_cons] at hn
    rw [dput_cons (keyEq_tk js ks)]
    unfold storedH
    rw [atKey_cons]
    by_cases hj : js = ks
    · subst hj
      rw [if_pos rfl, if_pos rfl]
      show TupsD W h μ _ (List.map _ _)
      rw [List.map_cons, putAt_same hn.1, show putAt js u (js, c', y') = (js, c', u) from if_pos rfl]
      exact .cons ⟨rfl, hv⟩ q
    · rw [if_neg hj, if_neg hj]
      have ih := ih hn.2
      unfold storedH at ih
      by_cases hs : (atKey r ks).isSome = true
      · rw [if_pos hs] at ih ⊢
        rw [List.map_cons, show putAt ks u (js, c', y') = (js, c', y') from if_neg hj]
        exact .cons ⟨rfl, hx⟩ ih
      · rw [if_neg hs] at ih ⊢
        exact .cons ⟨rfl, hx⟩ ih

section
variable {A : Around} {E : Value → Shared → Prop} {s : Shared} {μ : Mu} {H : AH} {K : V → AH → Prop} {Q : Value → Shared → Prop}

theorem dictLive {K : Type} [DecidableEq K] {knd : KeyKind W.prog W.w K} {h : Heap} {a : Addr} {kvs : List (K × Value)} : h.DictOf knd a kvs → ∃ o, h.get? a = some o := fun ⟨o, _, _, ho, _⟩ => ⟨o, ho⟩
theorem dictNodup {K : Type} [DecidableEq K] {knd : KeyKind W.prog W.w K} {h : Heap} {a : Addr} {kvs : List (K × Value)} : h.DictOf knd a kvs → (kvs.map (·.1)).Nodup := fun ⟨_, _, _, _, _, _, _, _, nd⟩ => nd
/-- what is handed on behind a store -/
noncomputable abbrev PostU (W : Wd) (s : Shared) (μ : Mu) (K : Unit → AH → Prop) (Q : Unit → Shared → Prop) : Prop := ∀ ⦃H' s'⦄, K () H' → Aft W X0 s μ s' μ H' → Q () s'

theorem set_sound {o i v : V} {uo ui uv : Value} {k : Nat} {K : Unit → AH → Prop} {Q : Unit → Shared → Prop} (h : wp (setV o i v) K H) (hA : AIn A k) (O : WOk W) (R : SR W μ H s.heap) (ro : Rep W s.heap μ o uo) (ri : Rep W s.heap μ i ui) (rv : Rep W s.heap μ v uv)
    (hQ : PostU W s μ K Q) : wpAny (model W.prog W.w) A (setItem uo ui uv) Q E s := by
  refine onRef.rep h ro fun a ro h => ?_
  cases hc : H[a]? with
  | none => rw [hc] at h; exact h.elim
  | some c =>
    rw [hc] at h
    cases c with
    | lst l =>
      refine ro.lst R hc fun p us n x => onInt.rep h ri fun j t h => ?_
      obtain ⟨z, h⟩ := h.of
      obtain ⟨b0, z⟩ := both z
      obtain ⟨b1, b2⟩ := both z
      refine ki_setAt x.g (of_decide_eq_true b0) (of_decide_eq_true b2) (by rw [x.l.size]; exact of_decide_eq_true b1) (hQ h (.upd (a := p.1) R hc x.hp (.inl rfl) (Heap.SameBut.update ..) ⟨_, PySem.IsL.update x.g _⟩ fun m => ⟨x.e, _, _, PySem.IsL.update x.g _, ?_⟩))
      rw [Array.toList_setIfInBounds]
      exact RepL.set (Rep.mv m v rv) _ (RepL.mv m _ x.l)
    | dct l =>
      obtain ⟨z, hk⟩ := bQ.of h
      clear h
      obtain ⟨z1, z⟩ := both z
      obtain ⟨z2, z3⟩ := both z
      refine ro.ref R hc fun p x => ?_
      cases i with
      | int i =>
        refine ri.int fun t => ?_
        obtain ⟨kvs, d, y⟩ := x.r.2.ints (keyOk_kinds z1)
        exact wpAny_setItem_pairs (isInt_at i t) d (fun h' d' hs => hQ hk (.upd (a := p.1) R hc x.hp (.inl rfl) hs (dictLive d') fun m => ⟨x.r.1, .dI _ d' (ints_put (Rep.mv m v rv) (y.mono fun a b z => ⟨z.1, Rep.mv m _ z.2⟩) (dictNodup d))⟩)) (by rw [← y.length]; exact lineOk_ge z3)
      | tup l' =>
        obtain ⟨ks, hks⟩ := Option.isSome_iff_exists.mp z2
        obtain rfl := tiOf_eq hks
        obtain ⟨b, rfl, kb⟩ := key2_of (ks := ks) ri
        obtain ⟨xs, d, y⟩ := x.r.2.tups (keyOk_kinds z1)
        obtain ⟨_, _, _, _, _, _, _, _, nd⟩ := id d
        exact wpAny_setItem_heap (knd := key2 W.prog W.w) (k := ks) (by show A.units + 1 + 64 < cLine; have := hA.units; omega) kb d (fun h' d' hs => hQ hk (.upd (a := p.1) R hc x.hp (.inl rfl) hs (have ⟨o, _, _, ho, _⟩ := d'; ⟨o, ho⟩)
          fun m => ⟨x.r.1, .dT _ d' (tups_put (ks := ks) (Rep.mv m v rv) (y.mono fun a b z => ⟨z.1, Rep.mv m _ z.2⟩) nd)⟩)) (by rw [← y.length]; exact lineOk_ge z3)
      | _ => exact nomatch z2
    | inst _ _ => exact h.elim

theorem del_sound {o i : V} {uo ui : Value} {k : Nat} {K : Unit → AH → Prop} {Q : Unit → Shared → Prop} (h : wp (delV o i) K H) (hA : AIn A k) (O : WOk W) (R : SR W μ H s.heap) (ro : Rep W s.heap μ o uo) (ri : Rep W s.heap μ i ui)
    (hQ : PostU W s μ K Q) : wpAny (model W.prog W.w) A (delItem uo ui) Q E s := by
  refine onDct.rep h ro R fun a l p x h => ?_
  cases i with
  | int j =>
    obtain ⟨z, h⟩ := bQ.of h
    obtain ⟨z1, z⟩ := both z
    obtain ⟨z2, z3⟩ := both z
    refine ri.int fun t => ?_
    obtain ⟨kvs, d, y⟩ := x.d.ints (keyOk_kinds z1)
    unfold delItem
    refine wpAny_holding ?_
    refine wpAny_bind (wpAny_sequenceKey d.typeIs (by decide) ?_)
    exact wpAny_bind (wpAny_callSpecial?_slot (name := Str.ofString "__delitem__") d.typeIs PySem.F.slot_dict_delitem
      (call_meetsIn PySem.F.slot_dict_delitem d.typeIs PySem.F.entry_dict_delitem (PySem.F.args_dict_delitem_2 _ _) (meets_dict_delitem_pairs (intKind W.prog W.w) p.1 (isInt_at j t)) ⟨kvs, d, (by rw [← y.length]; exact lineOk_ge z3), (dfind_int y).isSome ▸ z2, fun h' d' hs => wpAny_pure
        (hQ h (.upd (a := p.1) R x.hi x.hp (.inl rfl) hs (dictLive d') fun m => ⟨x.e, .dI _ d' (ints_del (y.mono fun a b z => ⟨z.1, Rep.mv m _ z.2⟩) (dictNodup d))⟩))⟩))
  | _ => exact h.elim

theorem append_sound {o v : V} {uo uv : Value} (h : wp (appendV o v) K H) (R : SR W μ H s.heap) (ro : Rep W s.heap μ o uo) (rv : Rep W s.heap μ v uv)
    (hQ : Post W s μ K Q) : wpAny (model W.prog W.w) A (call (.builtin "list.append") [uo, uv]) Q E s := by
  refine onLst.rep h ro R fun a l p us n x h => ?_
  refine wpAny_list_append_plain ⟨n, x.g⟩ (fun h' hl' hs => hQ h.of.2 (?_ : Aft W X0 s μ { s with heap := h', toks := s.toks } μ _) .of_none) (by rw [x.l.size]; exact lineOk_ge h.of.1)
  obtain ⟨n', hg'⟩ := hl'
  refine .upd (a := p.1) R x.hi x.hp (.inl rfl) hs ⟨_, hg'⟩ fun m => ⟨x.e, _, n', hg', ?_⟩
  rw [Array.toList_push]
  exact RepL.append (.cons (Rep.mv m v rv) .nil) (RepL.mv m _ x.l)
end
end Mine
end
section
set_option maxRecDepth 100000
namespace Mine
open PySem PySem.W PyProof.Rows PySem.Calls
variable {W : Wd}

/-- one entry's key against a name -/
theorem isStr_nm {e : DictEntry} {f g : Nat} {t : Tok} (hk : e.key = .str (nm g) t) (hg : g < NN) (hf : f < NN) : e.key.isStr (nm f) = decide (g = f) := by
  rw [hk]
  by_cases q : g = f
  · subst q; rw [decide_eq_true rfl]; simp [Value.isStr]
  · rw [decide_eq_false q]; exact beq_eq_false_iff_ne.mpr fun e => q (nm_inj hg hf e)
theorem getL_cons {e : DictEntry} {g : Nat} {t : Tok} (hk : e.key = .str (nm g) t) (name : Str) (es : List DictEntry) : getL name (e :: es) = if e.key.isStr name = true then some (some e.val) else getL name es := by
  have hnr : e.refKey = false := by unfold DictEntry.refKey; rw [hk]
  unfold getL
  rw [List.find?_cons]
  cases e.key.isStr name with
  | true => rfl
  | false => rw [List.any_cons, hnr, Bool.false_or]; rfl
/-- a field read: found on both sides, or on none -/
theorem getL_of {h : Heap} {μ : Mu} {f : Nat} (hf : f < NN) {fs : List (Nat × V)} {es : List DictEntry} (x : Fields W h μ fs es) : ∃ y, getL (nm f) es = some y ∧ FindR W h μ (look fs f) y :=
  x.rec ⟨_, rfl, .inr ⟨rfl, rfl⟩⟩ fun {g v e fs es} t hg hk hh hr r ih => by
    obtain ⟨y, h1, h2⟩ := ih
    rw [getL_cons hk, isStr_nm hk hg hf, look_cons, h1]
    by_cases q : g = f
    · rw [if_pos q, decide_eq_true q, if_pos rfl]; exact ⟨_, rfl, .inl ⟨_, _, rfl, rfl, hr⟩⟩
    · rw [if_neg q, decide_eq_false q, if_neg Bool.false_ne_true]; exact ⟨_, rfl, h2⟩
theorem putL_fields {h : Heap} {μ : Mu} {f : Nat} {v : V} {u : Value} {tk : Tok} (hf : f < NN) (hv : Rep W h μ v u) {fs : List (Nat × V)} {es : List DictEntry} (x : Fields W h μ fs es) :
    Fields W h μ (put fs f v) (putL (nm f) (PyData.keyHash W.w.params (nm f)) (.str (nm f) tk) u es) :=
  x.rec (.cons tk hf rfl rfl hv .nil) fun {g v' e fs es} t hg hk hh hr r ih => by
    unfold putL
    rw [put_cons, isStr_nm hk hg hf]
    by_cases q : g = f
    · subst q; rw [if_pos rfl, decide_eq_true rfl, if_pos rfl]; exact .cons t hg hk hh hv r
    · rw [if_neg q, decide_eq_false q, if_neg Bool.false_ne_true]; exact .cons t hg hk hh hr ih
theorem Fields.length {h : Heap} {μ : Mu} {fs : List (Nat × V)} {es : List DictEntry} (x : Fields W h μ fs es) : fs.length = es.length := x.rec rfl fun _ _ _ _ _ _ ih => congrArg Nat.succ ih
theorem putL_length (name : Str) (x : Int) (k v : Value) : ∀ es : List DictEntry, (putL name x k v es).length ≤ es.length + 1
  | [] => Nat.le_refl _
  | e :: r => by
    unfold putL
    split
    · simp
    · have := putL_length name x k v r; simp; exact this
theorem fld_all : (GL.fld.all fun p => p.2.all fun g => Nat.blt g NN) = true := by decide +kernel
theorem fldIn_at {F : List (Nat × List Nat)} {c f : Nat} (h : fldIn F c f = true) : ∃ l, look F c = some l ∧ f ∈ l := by
  unfold fldIn at h
  cases e : look F c with
  | none => rw [e] at h; cases h
  | some l =>
    rw [e] at h
    obtain ⟨g, hg, hb⟩ := List.any_eq_true.mp h
    exact ⟨l, rfl, Nat.eq_of_beq_eq_true hb ▸ hg⟩
theorem fld_lt {c f : Nat} (h : fldIn GL.fld c f = true) : f < NN := by
  obtain ⟨l, hl, hf⟩ := fldIn_at h
  exact Nat.le_of_ble_eq_true (List.all_eq_true.mp (List.all_eq_true.mp fld_all _ (look_mem hl)) f hf)
theorem handed_rep {h : Heap} {μ : Mu} {v : V} {u : Value} (r : Rep W h μ v u) : handedIn u = true := by
  cases v with
  | none => cases (r : _ = _); rfl
  | bool b => cases (r : _ = _); rfl
  | int _ => obtain ⟨t, rfl⟩ := r; rfl
  | str _ => obtain ⟨t, rfl, _⟩ := r; rfl
  | tup _ => obtain ⟨a, items, rfl, _⟩ := r; rfl
  | flist _ => obtain ⟨a, items, rfl, _⟩ := r; rfl
  | fdct _ => obtain ⟨a, items, rfl, _⟩ := r; rfl
  | rng _ => obtain ⟨a, t, u, x, rfl, _⟩ := r; rfl
  | ref _ => obtain ⟨p, _, rfl⟩ := r; rfl

section
variable {A : Around} {E : Value → Shared → Prop} {s : Shared} {μ : Mu} {H : AH} {K : V → AH → Prop} {Q : Value → Shared → Prop}

theorem instAt {C : Addr} {es n} {p : Addr × Addr} {h : Heap} (g1 : h.get? p.1 = some (instObj C p.2)) (g2 : h.get? p.2 = some (dictOf es n)) : PySem.W.InstAt h p.1 (instObj C p.2) C (some (dictOf es n)) :=
  ⟨g1, rfl, rfl, g2⟩

theorem attr_sound {o : V} {uo : Value} {f : Nat} {expr : Bool} (h : wp (attrV GL.fld o f) K H) (O : WOk W) (R : SR W μ H s.heap) (ro : Rep W s.heap μ o uo)
    (hQ : Post W s μ K Q) : wpAny (model W.prog W.w) A (getAttr uo (nm f) expr) Q E s := by
  refine onInst.rep h ro R fun a k fs p x h => ?_
  obtain ⟨hf, h⟩ := h.of
  obtain ⟨v, e, h⟩ := h.of
  obtain ⟨C, es, n, hC, q1, q2, hfs⟩ := x.r
  have FO := O.fld k C f hC hf
  obtain ⟨y, hy, z⟩ := getL_of (fld_lt hf) hfs
  obtain ⟨u, rfl, hr⟩ := FindR.some (e ▸ z)
  exact get_value (O.Kin.keeps R.kept) (instAt q1 q2) (plainGet_of FO.get).1 (findObj_own FO.dict FO.attr rfl (by rw [lookIn_dict]; exact hy)) (handed_rep hr) (hQ h (.tok R _) hr)

/-- a name stored in an exact dict of texts -/
theorem nsSet_exact {d : Addr} {name : Str} {v : Value} {es : List DictEntry} {n : Nat} {Q : Unit → Shared → Prop} (D : s.heap.get? d = some (dictOf es n)) (hl : (getL name es).isSome = true)
    (hQ : Q () { s with heap := s.heap.update d (Obj.putName name (PyData.keyHash W.w.params name) (.str name s.toks) v), toks := s.toks + 1 }) : wpAny (model W.prog W.w) A (nsSet d name v) Q E s := by
  unfold nsSet
  refine wpAny_bind (wpAny_bind (wpAny_askSetting (wpAny_pure (wpAny_bind (wpAny_mkText (wpAny_bind (wpAny_loadPart D ?_)))))))
  have c : (!es.any (·.key.isStr name) && es.any (·.refKey)) = false := by
    unfold getL at hl
    split at hl
    · rename_i en he
      rw [List.any_eq_true.mpr ⟨en, List.mem_of_find?_eq_some he, List.find?_some he⟩]; rfl
    · split at hl
      · cases hl
      · rename_i z; rw [Bool.not_eq_true] at z; rw [z, Bool.and_false]
  have c' : (!es.toArray.any (·.key.isStr name) && es.toArray.any (·.refKey)) = false := by
    rw [← Array.any_toList, ← Array.any_toList]; exact c
  have q : (dictOf es n).data = .dict es.toArray n := rfl
  rw [q]
  dsimp only
  rw [aRefKeyMayBeTheName_at, c']
  exact wpAny_updatePart D hQ

theorem setattr_sound {o v : V} {uo uv : Value} {f : Nat} {K : Unit → AH → Prop} {Q : Unit → Shared → Prop} (h : wp (setattrV GL.fld o f v) K H) (O : WOk W) (R : SR W μ H s.heap) (ro : Rep W s.heap μ o uo) (rv : Rep W s.heap μ v uv)
    (hQ : PostU W s μ K Q) : wpAny (model W.prog W.w) A (setAttr uo (nm f) uv) Q E s := by
  refine onInst.rep h ro R fun a k fs p x h => ?_
  obtain ⟨z, h⟩ := h.of
  obtain ⟨hf, hz⟩ := both z
  obtain ⟨C, es, n, hC, q1, q2, hfs⟩ := x.r
  have X := O.Kin.keeps R.kept
  have FO := O.fld k C f hC hf
  have I := instAt q1 q2
  refine set_plain X I FO.set ?_
  have X' : W.K.In ({ s with toks := s.toks + 1 } : Shared).heap := X
  refine osa_open (s := { s with toks := s.toks + 1 }) X' I FO.over FO.taker fun b => ?_
  obtain ⟨cd, hc, hd'⟩ := any_some FO.dict
  refine wpAny_bind (wpAny_pure (wpAny_bind (wpAny_bind (wpAny_loadPart q1 (wpAny_bind ((looks_clsIn X' hc).here ?_))))))
  rw [hd']
  refine wpAny_pure (a := some p.2) (wpAny_bind (wpAny_pure (wpAny_bind ?_)))
  generalize hx : PyData.keyHash W.w.params (nm f) = hash
  have D' : (s.heap.update p.2 (Obj.putName (nm f) hash (.str (nm f) (s.toks + 1)) uv)).get? p.2 = some (dictOf (putL (nm f) hash (.str (nm f) (s.toks + 1)) uv es) (putN (nm f) es n)) := by
    rw [← putName_dict]
    exact Heap.get?_update_self _ q2 (by rw [putName_dict]; rfl)
  obtain ⟨y, hy, _⟩ := getL_of (fld_lt hf) hfs
  refine nsSet_exact (s := { s with toks := s.toks + 1 }) q2 (hy ▸ rfl) (hx ▸ wpAny_bind (wpAny_lookBehind D' (pastItsLine_dict (by
    rw [List.size_toArray, sizeLine_eq]
    exact Nat.le_trans (putL_length ..) (Nat.le_trans (Nat.succ_le_succ (hfs.length ▸ Nat.le_of_ble_eq_true hz)) (by decide)))) (wpAny_pure ?_)))
  have hne : p.1 ≠ p.2 := fun e => by rw [e, q2] at q1; cases q1
  exact hQ h (.upd (a := p.2) R x.hi x.hp (.inr rfl) (Heap.SameBut.update ..) ⟨_, D'⟩ fun m => ⟨C, _, _, hC, (Heap.get?_update_other _ _ (Ne.symm hne)).trans q1, D', hx ▸ putL_fields (fld_lt hf) (Rep.mv m v rv) (hfs.mv m)⟩)
end
end Mine
end
section
set_option maxRecDepth 100000
namespace Mine
open PySem PySem.W PyProof.Rows PySem.Calls
variable {W : Wd}

theorem erase_last (us : Array Value) : (us.eraseIdxIfInBounds (us.size - 1)).toList = us.toList.dropLast := by
  unfold Array.eraseIdxIfInBounds
  split
  · rw [Array.toList_eraseIdx, ← Array.length_toList]
    rw [List.eraseIdx_length_sub_one]
  · rename_i h
    have : us.size = 0 := by omega
    have e : us = #[] := by simpa using this
    subst e; rfl
theorem RepL.dropLast {h : Heap} {μ : Mu} {l : List V} {us : List Value} (r : RepL W h μ l us) : RepL W h μ l.dropLast us.dropLast := by
  rw [List.dropLast_eq_take, List.dropLast_eq_take, ← r.length]; exact r.take _

section
variable {A : Around} {E : Value → Shared → Prop} {s : Shared} {μ : Mu} {H : AH} {K : V → AH → Prop} {Q : Value → Shared → Prop}

theorem pop_sound {o : V} {uo : Value} (h : wp (popV o) K H) (R : SR W μ H s.heap) (ro : Rep W s.heap μ o uo)
    (hQ : Post W s μ K Q) : wpAny (model W.prog W.w) A (call (.builtin "list.pop") [uo]) Q E s := by
  refine onLst.rep h ro R fun a l p us n x h => ?_
  obtain ⟨hz, h⟩ := h.of
  obtain ⟨v, hx, h⟩ := h.of
  rw [List.getLast?_eq_getElem?] at hx
  obtain ⟨u, hu, hr⟩ := x.l.get hx
  refine call_meets PySem.F.slot_list_pop ⟨_, x.g, rfl⟩ PySem.F.entry_list_pop (PySem.F.args_list_pop_1 _) (PySem.MeetsSeq.list_pop_last p.1 us n u (by rw [x.l.size, ← Array.getElem?_toList]; exact hu) (by rw [x.l.size]; exact lineOk_ge hz)) ⟨x.g, ?_⟩
  have a : Aft W X0 s μ { s with heap := s.heap.update p.1 (Obj.mapSeq fun xs => xs.eraseIdxIfInBounds (us.size - 1)) } μ _ :=
    .upd (c' := .lst l.dropLast) (a := p.1) R x.hi x.hp (.inl rfl) (Heap.SameBut.update ..) ⟨_, PySem.IsL.update x.g _⟩ fun m => ⟨x.e, _, _, PySem.IsL.update x.g _, by
      rw [erase_last]; exact (RepL.mv m _ x.l).dropLast⟩
  exact hQ h a (a.rep R hr)

theorem FindR.getD {h : Heap} {μ : Mu} {x : Option V} {y : Option Value} {d : V} {ud : Value} (f : FindR W h μ x y) (r : Rep W h μ d ud) : Rep W h μ (x.getD d) (y.getD ud) := by
  rcases f with ⟨v', u, e1, e2, r⟩ | ⟨e1, e2⟩ <;> rw [e1, e2]
  · exact r
  · exact r
theorem getV_sound {T : Value → Value → Prop} {o i d : V} {uo ui ud : Value} {k : Nat} (h : wp (getV o i d) K H) (hA : AIn A k) (O : WOk W) (R : SR W μ H s.heap) (ro : Rep W s.heap μ o uo) (ri : Rep W s.heap μ i ui) (rd : Rep W s.heap μ d ud)
    (hQ : Post W s μ K Q)
    (k1 : ∀ {p kvs i t}, (p == sysModules) = false → s.heap.DictOf (intKind W.prog W.w) p kvs → Q ((valueAt kvs i).getD ud) { s with toks := s.toks + 1 } → T (.ref p) (.int i t))
    (k2 : ∀ {p ks xs b}, (p == sysModules) = false → (key2 W.prog W.w).room A.in1 → IsKey2 W.prog W.w s.heap ks b → s.heap.DictOfH (key2 W.prog W.w) p xs → Q (((atKey xs ks).map (·.2)).getD ud) { s with toks := s.toks + (key2 W.prog W.w).draws ks } → T (.ref p) (.ref b)) : T uo ui := by
  refine onDct.rep (C := fun u => T u ui) h ro R fun a l p x h => ?_
  obtain ⟨z, h⟩ := h.of
  cases i with
  | int i =>
    obtain ⟨kvs, d, y⟩ := x.d.ints (keyOk_kinds (both z).1)
    exact ri.int fun t => k1 (x.notSys O R) d (hQ h (.tok R _) ((dfind_int y).getD rd))
  | tup l' =>
    obtain ⟨ks, hks⟩ := Option.isSome_iff_exists.mp (both z).2
    obtain rfl := tiOf_eq hks
    obtain ⟨b, rfl, kb⟩ := key2_of (ks := ks) ri
    obtain ⟨xs, d, y⟩ := x.d.tups (keyOk_kinds (both z).1)
    exact k2 (x.notSys O R) (by show A.units + 1 + 64 < cLine; have := hA.units; omega) kb d (hQ h (.tok R _) ((dfind_tup y).getD rd))
  | _ => exact nomatch (both z).2
theorem get2_sound {o i d : V} {uo ui ud : Value} {k : Nat} (h : wp (getV o i d) K H) (hA : AIn A k) (O : WOk W) (R : SR W μ H s.heap) (ro : Rep W s.heap μ o uo) (ri : Rep W s.heap μ i ui) (rd : Rep W s.heap μ d ud)
    (hQ : Post W s μ K Q) : wpAny (model W.prog W.w) A (call (.builtin "dict.get") [uo, ui, ud]) Q E s :=
  getV_sound (T := fun uo ui => wpAny (model W.prog W.w) A (call (.builtin "dict.get") [uo, ui, ud]) Q E s) h hA O R ro ri rd hQ
    (fun ns d q => call_meetsIn PySem.F.slot_dict_get d.typeIs PySem.F.entry_dict_get (PySem.F.args_dict_get_3 _ _ _) (meets_dict_get_default (intKind W.prog W.w) _ (isInt_at _ _) ns ud) ⟨_, d.mapOf, q⟩)
    fun ns hr kb d q => call_meetsIn PySem.F.slot_dict_get d.typeIs PySem.F.entry_dict_get (PySem.F.args_dict_get_3 _ _ _) (meetsH_dict_get_default (key2 W.prog W.w) _ _ ns ud) ⟨hr, _, _, kb, d, q⟩
theorem get_sound {o i : V} {uo ui : Value} {k : Nat} (h : wp (getV o i .none) K H) (hA : AIn A k) (O : WOk W) (R : SR W μ H s.heap) (ro : Rep W s.heap μ o uo) (ri : Rep W s.heap μ i ui)
    (hQ : Post W s μ K Q) : wpAny (model W.prog W.w) A (call (.builtin "dict.get") [uo, ui]) Q E s :=
  getV_sound (T := fun uo ui => wpAny (model W.prog W.w) A (call (.builtin "dict.get") [uo, ui]) Q E s) h hA O R ro ri .of_none hQ
    (fun ns d q => call_meetsIn PySem.F.slot_dict_get d.typeIs PySem.F.entry_dict_get (PySem.F.args_dict_get_2 _ _) (meets_dict_get (intKind W.prog W.w) _ (isInt_at _ _) ns) ⟨_, d.mapOf, q⟩)
    fun ns hr kb d q => call_meetsIn PySem.F.slot_dict_get d.typeIs PySem.F.entry_dict_get (PySem.F.args_dict_get_2 _ _) (meetsH_dict_get (key2 W.prog W.w) _ _ ns) ⟨hr, _, _, kb, d, q⟩

theorem lineOk_63 {n : Nat} (h : lineOk n = true) : (n : Int) < 2 ^ 63 := Int.lt_of_le_of_lt (Int.ofNat_le.mpr (Nat.le_of_ble_eq_true h)) (by decide)
theorem len_sound {o : V} {uo : Value} (h : wp (lenV o) K H) (R : SR W μ H s.heap) (ro : Rep W s.heap μ o uo)
    (hQ : Post W s μ K Q) : wpAny (model W.prog W.w) A (call (.builtin "len") [uo]) Q E s := by
  cases o with
  | tup l =>
    obtain ⟨hz, h⟩ := bQ.of h
    exact ro.tup fun a items ht hl => PyProof.Rows.len_tuple ht (by rw [hl.size]; exact lineOk_63 hz) (by rw [hl.size]; exact hQ.int R h)
  | flist l =>
    obtain ⟨hz, h⟩ := bQ.of h
    obtain ⟨a, items, rfl, ⟨o₁, ho₁, x₁⟩, hl⟩ := ro
    exact call_len_list ⟨o₁, R.kept _ _ ho₁, x₁⟩ (by rw [hl.size]; exact lineOk_63 hz) (by rw [hl.size]; exact hQ.int R h)
  | ref a =>
    obtain ⟨l, hi, h⟩ := atL.of h
    obtain ⟨hz, h⟩ := bQ.of h
    exact ro.lst R hi fun p us n x => call_len_list x.is (by rw [x.l.size]; exact lineOk_63 hz) (by rw [x.l.size]; exact hQ.int R h)
  | _ => exact h.elim

theorem tuple_sound {o : V} {uo : Value} (h : wp (tupleV o) K H) (R : SR W μ H s.heap) (ro : Rep W s.heap μ o uo)
    (hQ : Post W s μ K Q) : wpAny (model W.prog W.w) A (call (.type "tuple") [uo]) Q E s := by
  refine onLst.rep h ro R fun a l p us n x h => ?_
  refine PySem.call_tuple_list x.is (fun h' hk => ?_) (by rw [x.l.size]; exact lineOk_ge h.of.1)
  have a : Aft W X0 s μ { s with heap := h'.push { cls := .type "tuple", data := .seq us } } μ _ := .grow R fun b o e => Heap.get?_push_of_some _ (hk b o e)
  exact hQ h.of.2 a (.of_tup ⟨_, Heap.get?_push_size _ rfl, rfl, _, rfl⟩ (a.repL R x.l))
end
end Mine
end
section
set_option maxRecDepth 100000
namespace Mine
open PySem PySem.W PyProof.Rows PySem.Calls
variable {W : Wd}

theorem adjust_upto (b n : Nat) (hb : b ≤ n) : Builtin.Slice.sliceAdjust none (some (b : Int)) 1 (n : Int) = (0, (b : Int)) := by
  unfold Builtin.Slice.sliceAdjust
  have h1 : ¬ ((1 : Int) < 0) := by omega
  have h2 : ¬ ((b : Int) < 0) := by omega
  simp only [h1, h2, if_false]
  congr 1
  omega
theorem places_upto (b : Nat) : Builtin.Slice.slicePlaces 0 (b : Int) 1 = b := by
  unfold Builtin.Slice.slicePlaces
  have h1 : (1 : Int) > 0 := by omega
  simp only [h1, if_true, Int.ediv_one]
  split <;> omega
section
variable {A : Around} {E : Value → Shared → Prop} {s : Shared} {μ : Mu} {H : AH} {K : V → AH → Prop} {Q : Value → Shared → Prop}
theorem sliceApplied_upto {prog : Program} {w : World} {sl : Addr} {b n : Nat} {u : Tok} {Q : Int × Int × Nat → Shared → Prop} (hs : s.heap.IsSliceOf sl .none (.int b u) .none) (hb : b ≤ n) (h : Q (0, 1, b) s) :
    wpAny (model prog w) A (Builtin.Slice.sliceApplied (.ref sl) (pure (n : Int))) Q E s := by
  obtain ⟨os, hos, hcs, hds⟩ := id hs
  unfold Builtin.Slice.sliceApplied Builtin.Slice.sliceFields
  refine wpAny_bind (wpAny_bind (wpAny_field hos hds (x := .none) rfl (wpAny_bind (wpAny_field hos hds (x := .int b u) rfl (wpAny_bind (wpAny_field hos hds (x := .none) rfl (wpAny_pure ?_)))))))
  refine wpAny_bind (slicePart_none ?_)
  show wpAny _ _ (if ((1 : Int) == 0) = true then _ else _) _ _ s
  rw [if_neg (by decide)]
  refine wpAny_bind (slicePart_none (wpAny_bind (slicePart_int (wpAny_bind (wpAny_pure ?_)))))
  show wpAny _ _ (match Builtin.Slice.sliceAdjust none (some (b : Int)) 1 (n : Int) with | (lo, hi) => pure (lo, (1 : Int), Builtin.Slice.slicePlaces lo hi 1)) _ _ s
  rw [adjust_upto b n hb]
  show wpAny _ _ (pure ((0 : Int), (1 : Int), Builtin.Slice.slicePlaces 0 (b : Int) 1)) _ _ s
  rw [places_upto b]
  exact wpAny_pure h
theorem pick_upto (xs : Array Value) (b : Nat) (hb : b ≤ xs.size) : ((List.range b).filterMap fun (k : Nat) => xs[((0 : Int) + (k : Int) * 1).toNat]?).toArray = (xs.toList.take b).toArray := by
  congr 1
  apply List.ext_getElem?
  intro i
  have e : ((List.range b).filterMap fun (k : Nat) => xs[((0 : Int) + (k : Int) * 1).toNat]?) = (List.range b).filterMap fun k => xs.toList[k]? := by
    congr 1; funext k
    rw [show ((0 : Int) + (k : Int) * 1).toNat = k from by omega, Array.getElem?_toList]
  have g : ∀ (l : List Value) (n : Nat), n ≤ l.length → (List.range n).filterMap (fun k => l[k]?) = l.take n := by
    intro l n
    induction n with
    | zero => intro _; simp
    | succ n ih =>
      intro hn
      rw [List.range_succ, List.filterMap_append, ih (by omega), List.take_add_one]
      rw [List.getElem?_eq_getElem (by omega : n < l.length)]
      simp [List.getElem?_eq_getElem (by omega : n < l.length)]
  rw [e, g _ _ (by rw [Array.length_toList]; exact hb)]
theorem getItem_tuple_upto {prog : Program} {w : World} {t sl : Addr} {items : Array Value} {b : Nat} {u : Tok} {Q : Value → Shared → Prop} (ht : IsTup s.heap t items) (hs : s.heap.IsSliceOf sl .none (.int b u) .none) (hb : b ≤ items.size)
    (hsame : b = items.size → Q (.ref t) s)
    (h : b ≠ items.size → Q (.ref s.heap.objs.size) { s with heap := s.heap.push { cls := .type "tuple", data := .seq (items.toList.take b).toArray } })
    (hsz : items.size ≤ sizeLine) : wpAny (model prog w) A (getItem (.ref t) (.ref sl)) Q E s := by
  have hdrop : sizeOk (.seq (items.toList.take b).toArray) := by
    show (items.toList.take b).toArray.size ≤ sizeLine
    rw [List.size_toArray, List.length_take, Array.length_toList]
    omega
  obtain ⟨os, hos, hcs, hds⟩ := id hs
  have hTs : s.TypeIs (.ref sl) "slice" := ⟨os, hos, hcs⟩
  unfold getItem
  try with_reducible refine wpAny_holding ?_
  first | refine wpAny_bind (wpAny_pure ?_) | skip
  refine wpAny_bind (wpAny_sequenceKey (IsTup.typeIs ht) (by decide) ?_)
  refine wpAny_bind (wpAny_callSpecial?_slot (name := Str.ofString "__getitem__") (IsTup.typeIs ht) slot_tuple_getitem
    (wpAny_call_entry slot_tuple_getitem (IsTup.typeIs ht) entry_tuple_getitem ?_ (args_tuple_getitem _ _)))
  show wpAny _ _ (Builtin.Tuple.tupleItemsOf (.ref t) >>= _) _ _ s
  refine wpAny_bind (tupleItemsOf_ ht ?_)
  refine wpAny_bind (wpAny_typeOf hTs ?_)
  rw [if_pos (by decide)]
  refine wpAny_bind (sliceApplied_upto hs hb ?_)
  show wpAny _ _ (if ((0 : Int) == 0 && (1 : Int) == 1 && b == items.size) = true then _ else _) _ _ s
  by_cases hbn : b = items.size
  · rw [if_pos (by simp [hbn])]
    refine wpAny_bind ?_
    show wpAny _ _ (do return (← typeOf (Value.ref t)) == .type "tuple") _ _ s
    refine wpAny_bind (wpAny_typeOf (IsTup.typeIs ht) (wpAny_pure ?_))
    rw [if_pos (by decide)]
    exact wpAny_bind (wpAny_rule (wpAny_pure ⟨_, rfl, wpAny_pure (hsame hbn)⟩))
  · rw [if_neg (by simp [hbn]), pick_upto items b hb]
    first
      | exact wpAny_bind (m := Builtin.Tuple.tupleExact _) (wpAny_newObj_type (wpAny_pure ⟨_, rfl, wpAny_pure (h hbn)⟩) hdrop)
      | exact wpAny_bind (m := Builtin.Tuple.tupleExact _) (wpAny_newObj_type (wpAny_bind (wpAny_pure (wpAny_pure ⟨_, rfl, wpAny_pure (h hbn)⟩))) hdrop)
      | exact wpAny_bind (wpAny_bind (m := Builtin.Tuple.tupleExact _) (wpAny_newObj_type (wpAny_pure (wpAny_pure ⟨_, rfl, wpAny_pure (h hbn)⟩)) hdrop))
      | exact wpAny_bind (wpAny_bind (m := Builtin.Tuple.tupleExact _) (wpAny_newObj_type (wpAny_pure ⟨_, rfl, wpAny_pure (h hbn)⟩) hdrop))

theorem upto_sound {o i : V} {uo ui : Value} {sl : Addr} {value slice : Expr} (h : wp (uptoV o i) K H) (R : SR W μ H s.heap) (ro : Rep W s.heap μ o uo) (ri : Rep W s.heap μ i ui) (hsl : s.heap.IsSliceOf sl .none ui .none)
    (hs : subscripted slice false uo (.ref sl) = operate [.ref sl, uo] (getItem uo (.ref sl))) (hQ : Post W s μ K Q) : wpAny (model W.prog W.w) A (subscriptTail value slice uo (.ref sl)) Q E s := by
  refine onTup.rep (C := fun uo => subscripted slice false uo (.ref sl) = operate [.ref sl, uo] (getItem uo (.ref sl)) → wpAny (model W.prog W.w) A (subscriptTail value slice uo (.ref sl)) Q E s) h ro (fun l a items ht hl h hs => ?_) hs
  refine onInt.rep (C := fun ui => s.heap.IsSliceOf sl .none ui .none → _) h ri (fun k t h hsl => ?_) hsl
  obtain ⟨z, h⟩ := h.of
  obtain ⟨b0, z⟩ := both z
  obtain ⟨b1, b2⟩ := both z
  obtain ⟨b, rfl⟩ := Int.eq_ofNat_of_zero_le (of_decide_eq_true b0)
  have b1 := of_decide_eq_true b1
  refine tail_any (IsTup.typeIs ht) slot_tuple_getitem.lookup (getItem_tuple_upto ht hsl (by rw [hl.size]; omega) (fun e => hQ h (.refl R) (.of_tup ht ?_)) (fun _ => ?_) (by rw [hl.size]; exact lineOk_ge b2)) hs
  · rw [Int.toNat_natCast, List.take_of_length_le (by rw [e, hl.size]; exact Nat.le_refl _)]; exact hl
  · have a : Aft W X0 s μ { s with heap := s.heap.push { cls := .type "tuple", data := .seq (items.toList.take b).toArray } } μ H := Aft.push R _
    exact hQ h a (.of_tup ⟨_, Heap.get?_push_size _ rfl, rfl, _, rfl⟩ (RepL.take b (a.repL R hl)))
theorem from_sound {o i : V} {uo ui : Value} {sl : Addr} {value slice : Expr} (h : wp (fromV o i) K H) (R : SR W μ H s.heap) (ro : Rep W s.heap μ o uo) (ri : Rep W s.heap μ i ui) (hsl : s.heap.IsSliceOf sl ui .none .none)
    (hs : subscripted slice false uo (.ref sl) = operate [.ref sl, uo] (getItem uo (.ref sl))) (hQ : Post W s μ K Q) : wpAny (model W.prog W.w) A (subscriptTail value slice uo (.ref sl)) Q E s := by
  refine onTup.rep (C := fun uo => subscripted slice false uo (.ref sl) = operate [.ref sl, uo] (getItem uo (.ref sl)) → wpAny (model W.prog W.w) A (subscriptTail value slice uo (.ref sl)) Q E s) h ro (fun l a items ht hl h hs => ?_) hs
  refine onInt.rep (C := fun ui => s.heap.IsSliceOf sl ui .none .none → _) h ri (fun k t h hsl => ?_) hsl
  obtain ⟨z, h⟩ := h.of
  obtain ⟨b0, z⟩ := both z
  obtain ⟨b1, b2⟩ := both z
  have b0 := of_decide_eq_true b0
  obtain ⟨b, rfl⟩ := Int.eq_ofNat_of_zero_le (Int.le_trans (by decide) b0)
  have b1 := of_decide_eq_true b1
  refine tail_any (IsTup.typeIs ht) slot_tuple_getitem.lookup (getItem_tuple_from ht hsl (by omega) (by rw [hl.size]; omega) ?_ (by rw [hl.size]; exact lineOk_ge b2)) hs
  have a : Aft W X0 s μ { s with heap := s.heap.push { cls := .type "tuple", data := .seq (items.toList.drop b).toArray } } μ H := Aft.push R _
  exact hQ h a (.of_tup ⟨_, Heap.get?_push_size _ rfl, rfl, _, rfl⟩ (RepL.drop b (a.repL R hl)))

theorem max_sound {a b : V} {ua ub : Value} {k : Nat} (h : onInt a fun x => onInt b fun y => K (.int (if x < y then y else x)) H) (hA : AIn A k) (R : SR W μ H s.heap) (ra : Rep W s.heap μ a ua) (rb : Rep W s.heap μ b ub)
    (hQ : Post W s μ K Q) : wpAny (model W.prog W.w) A (call (.builtin "max") [ua, ub]) Q E s :=
  ints_sound h ra rb fun x t y u h => max_two_ints hA.handled fun h' tk hk => hQ h (.grow R hk) (by
    by_cases c : x < y
    · rw [if_pos c, if_pos c]; exact .of_int
    · rw [if_neg c, if_neg c]; exact .of_int)
theorem min_sound {a b : V} {ua ub : Value} {k : Nat} (h : onInt a fun x => onInt b fun y => K (.int (if y < x then y else x)) H) (hA : AIn A k) (R : SR W μ H s.heap) (ra : Rep W s.heap μ a ua) (rb : Rep W s.heap μ b ub)
    (hQ : Post W s μ K Q) : wpAny (model W.prog W.w) A (call (.builtin "min") [ua, ub]) Q E s :=
  ints_sound h ra rb fun x t y u h => min_two_ints hA.handled fun h' tk hk => hQ h (.grow R hk) (by
    by_cases c : y < x
    · rw [if_pos c, if_pos c]; exact .of_int
    · rw [if_neg c, if_neg c]; exact .of_int)
theorem range_sound {a : V} {ua : Value} (h : onInt a fun n => bQ (decide (0 ≤ n) && decide (n ≤ 1000000)) (K (.rng n.toNat) H)) (R : SR W μ H s.heap) (ra : Rep W s.heap μ a ua)
    (hQ : Post W s μ K Q) : wpAny (model W.prog W.w) A (call (.type "range") [ua]) Q E s :=
  onInt.rep h ra fun n t h => by
    obtain ⟨z, h⟩ := h.of
    obtain ⟨b, rfl⟩ := Int.eq_ofNat_of_zero_le (of_decide_eq_true (both z).1)
    exact call_range_1 (hQ h (.push R _) ⟨_, _, _, _, rfl, Heap.get?_push_size _ rfl, Int.ofNat_le.mp (of_decide_eq_true (both z).2)⟩)
theorem isbool_sound {v : V} {u : Value} (h : isB v fun b => K (.bool b) H) (R : SR W μ H s.heap) (r : Rep W s.heap μ v u) (hQ : Post W s μ K Q) :
    wpAny (model W.prog W.w) A (call (.builtin "isinstance") [u, .type "bool"]) Q E s := by
  cases v with
  | none => cases (r : _ = _); exact PySem.IsiPair.NoneType_bool (hQ h (.tok R _) .of_bool)
  | int i => exact r.int fun t => PySem.IsiPair.int_bool (hQ h (.tok R _) .of_bool)
  | bool c => cases (r : _ = _); exact PySem.IsiPair.bool_bool (hQ h (.tok R _) .of_bool)
  | _ => exact h.elim
end
end Mine
end
section
set_option maxRecDepth 100000
set_option genSizeOf false
set_option genInjectivity false
namespace Mine
open PySem PySem.W PyProof.Rows
variable {W : Wd}

/-! names -/
noncomputable def eqL : List Nat → List Nat → Bool
  | [], [] => true
  | a :: l, b :: r => match Nat.beq a b with
    | true => eqL l r
    | false => false
  | _, _ => false
theorem eqL_eq : ∀ {l r : List Nat}, eqL l r = true ↔ l = r
  | [], [] => by simp [eqL]
  | [], _ :: _ => by simp [eqL]
  | _ :: _, [] => by simp [eqL]
  | a :: l, b :: r => by
    unfold eqL
    cases e : Nat.beq a b with
    | true => rw [Nat.eq_of_beq_eq_true e]; simp [eqL_eq]
    | false => simp [Nat.ne_of_beq_eq_false e]
noncomputable def seq (a b : Str) : Bool := eqL a.cps.toList b.cps.toList
theorem seq_eq {a b : Str} : seq a b = true ↔ a = b := by
  unfold seq
  rw [eqL_eq]
  constructor
  · intro h; cases a; cases b; simp only [Str.mk.injEq]; exact Array.toList_inj.mp h
  · rintro rfl; rfl
noncomputable def lookK : List (Str × NameKind) → Str → Option NameKind
  | [], _ => Option.none
  | (n, k) :: r, x => match seq x n with
    | true => some k
    | false => lookK r x
theorem lookK_eq {x : Str} : ∀ {l : List (Str × NameKind)}, lookK l x = l.lookup x
  | [] => rfl
  | (n, k) :: r => by
    unfold lookK
    rw [List.lookup_cons]
    cases e : seq x n with
    | true => rw [seq_eq.mp e]; simp
    | false =>
      have : (x == n) = false := by
        cases h : x == n with
        | false => rfl
        | true => rw [beq_iff_eq] at h; rw [seq_eq.mpr h] at e; cases e
      rw [this]; exact lookK_eq
noncomputable def isN (k : Nat) (s : Str) : Bool := Nat.blt k NN && seq (nm k) s && !seq s "__debug__" && !seq s "__classdict__"
theorem seq_false {a b : Str} (h : seq a b = false) : (a == b) = false := by
  cases e : a == b with
  | false => rfl
  | true => rw [beq_iff_eq] at e; rw [seq_eq.mpr e] at h; cases h
theorem isN_at {k : Nat} {s : Str} (h : isN k s = true) : k < NN ∧ s = nm k ∧ (s == ("__debug__" : Str)) = false ∧ (s == ("__classdict__" : Str)) = false := by
  unfold isN at h
  simp only [Bool.and_eq_true, Bool.not_eq_true'] at h
  exact ⟨by have := h.1.1.1; simpa [Nat.blt_eq] using this, (seq_eq.mp h.1.1.2).symm, seq_false h.1.2, seq_false h.2⟩
noncomputable def isLoc (sc : Scope) (s : Str) : Bool := match lookK sc.names s with
  | some .local => true | some .cell => true | some .free => true | _ => false
noncomputable def isGlb (sc : Scope) (s : Str) : Bool := match lookK sc.names s with
  | some .globalImplicit => true | _ => false
theorem isLoc_at {env : Env} {s : Str} (h : isLoc env.scope s = true) : env.kindOf s = some .local ∨ env.kindOf s = some .cell ∨ env.kindOf s = some .free := by
  unfold isLoc at h
  unfold Env.kindOf
  rw [lookK_eq] at h
  split at h
  · exact .inl ‹_›
  · exact .inr (.inl ‹_›)
  · exact .inr (.inr ‹_›)
  · cases h
theorem isGlb_at {env : Env} {s : Str} (h : isGlb env.scope s = true) : env.kindOf s = some .globalImplicit := by
  unfold isGlb at h
  unfold Env.kindOf
  rw [lookK_eq] at h
  split at h <;> simp_all

noncomputable def notCall : Expr → Bool | .Call .. => false | _ => true
noncomputable def notSlice : Expr → Bool | .Slice .. => false | _ => true
noncomputable def notStar : Expr → Bool | .Starred .. => false | _ => true
noncomputable def notName : Expr → Bool | .Name .. => false | _ => true
noncomputable def notComp : Expr → Bool | .ListComp .. | .SetComp .. | .DictComp .. => false | _ => true
noncomputable def notSet : Expr → Bool | .Set .. => false | _ => true


/-- where an expression of the frame is evaluated -/
structure At (W : Wd) (j : Nat) (env : Env) (ρ : Loc) (A : Around) (s : Shared) (μ : Mu) (H : AH) : Prop where
  hA : AIn A (j + 1)
  R : SR W μ H s.heap
  F : Frm W env ρ s.heap μ
section
variable {A : Around} {E : Value → Shared → Prop} {s : Shared} {μ : Mu} {H : AH} {env : Env} {ρ : Loc} {j : Nat}
theorem At.step {s' μ' H'} (c : At W j env ρ A s μ H) (a : Aft W X0 s μ s' μ' H') : At W j env ρ A s' μ' H' := ⟨c.hA, a.sr, c.F.mono c.R a⟩

/-- a name of the frame read -/
theorem name_sound {x : Nat} {v : V} {Q : Value → Shared → Prop} (F : Frm W env ρ s.heap μ) (hv : look ρ x = some v) {id : Str} (hn : isN x id = true) (hl : isLoc env.scope id = true)
    (hQ : ∀ u, Rep W s.heap μ v u → Q u s) : wpAny (model W.prog W.w) A (loadName env id) Q E s := by
  obtain ⟨h1, rfl, h3, h4⟩ := isN_at hn
  rcases isLoc_at hl with k | k | k
  · obtain ⟨m, hm, r⟩ := F.ns
    obtain ⟨rv, e, rr⟩ := r x v hv k
    exact wpAny_loadName_local F.kind k hm e (hQ _ rr)
  · obtain ⟨c, rv, e, hc, rr⟩ := F.cellv x v hv (.inl k)
    exact wpAny_loadName_cell F.kind k e hc (hQ _ rr)
  · obtain ⟨c, rv, e, hc, rr⟩ := F.cellv x v hv (.inr k)
    exact wpAny_loadName_free F.kind k e hc (hQ _ rr) h4

theorem look_put_cases {α : Type} {x y : Nat} {v w : α} {ρ : List (Nat × α)} (h : look (Mine.put ρ x v) y = some w) : (x = y ∧ v = w) ∨ (x ≠ y ∧ look ρ y = some w) := by
  rw [look_put] at h
  by_cases e : x = y
  · rw [if_pos e] at h; exact .inl ⟨e, Option.some.inj h⟩
  · rw [if_neg e] at h; exact .inr ⟨e, h⟩

/-- what a store of the name writes -/
noncomputable abbrev XS (env : Env) (id : Str) : Addr → Prop := fun b => (env.kindOf id = some .local ∧ b = env.locals) ∨ (¬ env.kindOf id = some .local ∧ env.cells.lookup id = some b)
theorem XS.xe {env : Env} {id : Str} (b : Addr) (h : XS env id b) : XE env b := h.imp (·.2) fun a => ⟨_, a.2⟩
theorem Frm.notloc {h μ} (F : Frm W env ρ h μ) {y : Str} {c : Addr} (hc : env.cells.lookup y = some c) : c ≠ env.locals := fun e => by
  subst e
  obtain ⟨_, ⟨o, es, ep, ho, hd, _⟩, _⟩ := F.ns
  obtain ⟨ov, o', ho', hd'⟩ := F.cell y _ hc
  cases Option.some.inj (ho.symm.trans ho')
  exact nomatch hd.symm.trans hd'
/-- the frame behind a store of the name x: what the places hold now -/
theorem Frm.stored {x : Nat} {v : V} {h h' : Heap} (F : Frm W env ρ h μ) (hx : x < NN) (m : Mv h μ h' μ)
    (ns : ∃ M, h'.Ns env.locals M ∧ ∀ y w, look (Mine.put ρ x v) y = some w → env.kindOf (nm y) = some .local → ∃ rv, M (nm y) = some rv ∧ Rep W h' μ w rv)
    (cell : ∀ y c, env.cells.lookup y = some c → ∃ ov, h'.IsCell c ov)
    (cellv : ∀ y w, look (Mine.put ρ x v) y = some w → (env.kindOf (nm y) = some .cell ∨ env.kindOf (nm y) = some .free) → ∃ c rv, env.cells.lookup (nm y) = some c ∧ h'.IsCell c (some rv) ∧ Rep W h' μ w rv) : Frm W env (Mine.put ρ x v) h' μ :=
  ⟨F.kind, F.globals, F.builtins, ns, cell, cellv, F.celln, F.inj, fun y w hy => (look_put_cases hy).elim (fun e => e.1 ▸ hx) fun e => F.rng y w e.2, F.lo, F.locell, F.apart, F.apartc⟩
/-- a name of the frame written -/
theorem store_sound {x : Nat} {v : V} {u : Value} {Q : Unit → Shared → Prop} (R : SR W μ H s.heap) (F : Frm W env ρ s.heap μ) {id : Str} (hn : isN x id = true) (hl : isLoc env.scope id = true)
    (hu : Rep W s.heap μ v u) (hQ : ∀ s', Aft W (XS env id) s μ s' μ H → Mv s.heap μ s'.heap μ → Frm W env (Mine.put ρ x v) s'.heap μ → Q () s') : wpAny (model W.prog W.w) A (storeName env id u) Q E s := by
  obtain ⟨hx, rfl, _, _⟩ := isN_at hn
  have ne_nm : ∀ {y w}, look ρ y = some w → x ≠ y → nm y ≠ nm x := fun hy hxy e => hxy (nm_inj hx (F.rng _ _ hy) e.symm)
  obtain ⟨m, hm, hmm⟩ := F.ns
  by_cases k : env.kindOf (nm x) = some .local
  · refine wpAny_storeName_local k hm (fun h' hn' hs' => ?_) (by rw [F.kind]; rfl)
    obtain ⟨a, M⟩ := Aft.side (t := s.toks + 1) R hs' (have ⟨o, _, _, ho, _⟩ := hn'; ⟨o, ho⟩) (F.own (.inl rfl)) F.lo (X := XS env (nm x)) (.inl ⟨k, rfl⟩)
    refine hQ _ a M (F.stored hx M ⟨_, hn', fun y w hy hk => ?_⟩ (fun y c hc => have ⟨ov, h⟩ := F.cell y c hc; ⟨ov, h.sameBut hs' (F.notloc hc)⟩) fun y w hy hk => ?_)
    · rcases look_put_cases hy with ⟨rfl, rfl⟩ | ⟨e, hy⟩
      · exact ⟨u, if_pos rfl, Rep.mv M v hu⟩
      · obtain ⟨rv, e', r⟩ := hmm y w hy hk
        exact ⟨rv, (if_neg (ne_nm hy e)).trans e', Rep.mv M w r⟩
    · rcases look_put_cases hy with ⟨rfl, rfl⟩ | ⟨e, hy⟩
      · rw [k] at hk; rcases hk with hk | hk <;> cases hk
      · obtain ⟨c, rv, hc, h, r⟩ := F.cellv y w hy hk
        exact ⟨c, rv, hc, h.sameBut hs' (F.notloc hc), Rep.mv M w r⟩
  · have k' : env.kindOf (nm x) = some .cell ∨ env.kindOf (nm x) = some .free := (isLoc_at hl).resolve_left k
    obtain ⟨c, hc⟩ := F.celln (nm x) k'
    obtain ⟨ov, hcell⟩ := F.cell _ c hc
    have step : wpAny (model W.prog W.w) A (do cellSet (← cellOf env (nm x)) (some u) : Sem Unit) Q E s := by
      refine wpAny_bind (wpAny_cellOf hc (wpAny_cellSet hcell fun h' hc' hs' => ?_))
      obtain ⟨a, M⟩ := Aft.side (t := s.toks) R hs' (have ⟨o, ho, _⟩ := hc'; ⟨o, ho⟩) (F.own (.inr ⟨_, hc⟩)) (F.locell _ c hc) (X := XS env (nm x)) (.inr ⟨k, hc⟩)
      refine hQ _ a M (F.stored hx M ⟨m, hm.sameBut hs' (F.notloc hc).symm, fun y w hy hk => ?_⟩ (fun y d hd => ?_) fun y w hy hk => ?_)
      · rcases look_put_cases hy with ⟨rfl, rfl⟩ | ⟨e, hy⟩
        · exact absurd hk k
        · obtain ⟨rv, e, r⟩ := hmm y w hy hk
          exact ⟨rv, e, Rep.mv M w r⟩
      · by_cases e : d = c
        · subst e; exact ⟨_, hc'⟩
        · obtain ⟨ov, h⟩ := F.cell y d hd; exact ⟨ov, h.sameBut hs' e⟩
      · rcases look_put_cases hy with ⟨rfl, rfl⟩ | ⟨e, hy⟩
        · exact ⟨c, u, hc, hc', Rep.mv M v hu⟩
        · obtain ⟨d, rv, hd, h, r⟩ := F.cellv y w hy hk
          exact ⟨d, rv, hd, h.sameBut hs' fun e' => ne_nm hy e (F.inj _ _ c (e' ▸ hd) hc), Rep.mv M w r⟩
    unfold storeName
    rcases k' with k' | k' <;> simp only [k', F.kind] <;> exact step
end
end Mine
end
section
set_option maxRecDepth 100000
namespace Mine
open PySem PySem.W PyProof.Rows
variable {W : Wd}

/-! the checker: the compact text is the given text's -/
noncomputable def relabS (scope sc : Scope) : Scope :=
  { scope with names := scope.names.map fun (n, k) => if (k == .free && sc.kind == .function && sc.names.lookup n == some .cell) then (n, .cell) else (n, k) }

/-- a scope of a comprehension with the one target id -/
noncomputable def okComp (scope sc : Scope) (id : Str) : Bool :=
  decide (scope.kind = .function) && (decide (scope.names.lookup id = some .local) &&
  scope.names.all (fun y => match y.2 with
    | .local => (seq y.1 id || seq y.1 ".0") && decide (scope.names.lookup y.1 = some .local)
    | .cell => false
    | .free => (match lookK sc.names y.1 with | some .cell => true | some .free => true | _ => false)
    | _ => true))

noncomputable def topFn (f : Nat) : Bool := (look FT f).isSome && (!(GL.init.any fun p => Nat.beq p.2 f) && !(GL.meth.any fun p => p.2.any fun q => Nat.beq q.2 f))

noncomputable def isBi (n : String) (sc : Scope) (id : Str) : Bool := seq id (Str.ofString n) && isGlb sc id

/-! the shapes of the given text -/
noncomputable def onConst (e : Expr) (f : Const → Bool) : Bool := match e with | .Constant c _ _ => f c | _ => false
noncomputable def onName (e : Expr) (f : Str → Bool) : Bool := match e with | .Name id _ => f id | _ => false
noncomputable def onBin (e : Expr) (f : Expr → Operator → Expr → Bool) : Bool := match e with | .BinOp l o r _ => f l o r | _ => false
noncomputable def onUn (e : Expr) (f : UnaryOp → Expr → Bool) : Bool := match e with | .UnaryOp o x _ => f o x | _ => false
noncomputable def onBo (e : Expr) (f : BoolOp → List Expr → Bool) : Bool := match e with | .BoolOp o l _ => f o l | _ => false
noncomputable def onCmp (e : Expr) (f : Expr → List CmpOp → List Expr → Bool) : Bool := match e with | .Compare l o r _ => f l o r | _ => false
noncomputable def onCall (e : Expr) (f : Expr → List Expr → Pos → Bool) : Bool := match e with
  | .Call fn args kw pos => (match kw with | [] => f fn args pos | _ => false)
  | _ => false
noncomputable def onAttr (e : Expr) (f : Expr → Str → Pos → Bool) : Bool := match e with | .Attribute po at_ p => f po at_ p | _ => false
noncomputable def onSub (e : Expr) (f : Expr → Expr → Bool) : Bool := match e with | .Subscript po pi _ => f po pi | _ => false
noncomputable def onSlice (e : Expr) (f : Option Expr → Option Expr → Bool) : Bool := match e with
  | .Slice l u st _ => (match st with | none => f l u | _ => false)
  | _ => false
noncomputable def onTupE (e : Expr) (f : List Expr → Bool) : Bool := match e with | .Tuple l _ _ => f l | _ => false
noncomputable def onLstE (e : Expr) (f : List Expr → Bool) : Bool := match e with | .List l _ => f l | _ => false
noncomputable def onDctE (e : Expr) (f : List (Option Expr) → List Expr → Bool) : Bool := match e with | .Dict k v _ => f k v | _ => false
noncomputable def onComp (e : Expr) (f : Expr → List Comprehension → Scope → Pos → Bool) : Bool := match e with | .ListComp pelt g scope p => f pelt g scope p | _ => false
noncomputable def onOne {α : Type} (l : List α) (f : α → Bool) : Bool := match l with
  | [] => false
  | x :: r => (match r with | [] => f x | _ => false)
noncomputable def onDuo {α : Type} (l : List α) (f : α → α → Bool) : Bool := match l with
  | [] => false
  | x :: r => onOne r (f x)
noncomputable def onSome {α : Type} (o : Option α) (f : α → Bool) : Bool := match o with | some x => f x | none => false
noncomputable def isEmp {α : Type} : List α → Bool | [] => true | _ => false

section
variable {e : Expr} {P : Expr → Prop}
theorem no {C : Prop} (h : false = true) : C := (Bool.false_ne_true h).elim
@[elab_as_elim] theorem onConst_at {f} (h : onConst e f = true) (k : ∀ c n p, f c = true → P (.Constant c n p)) : P e := by
  cases e with
  | Constant c n p => exact k c n p h
  | _ => exact no h
@[elab_as_elim] theorem onName_at {f} (h : onName e f = true) (k : ∀ id p, f id = true → P (.Name id p)) : P e := by
  cases e with
  | Name id p => exact k id p h
  | _ => exact no h
@[elab_as_elim] theorem onBin_at {f} (h : onBin e f = true) (k : ∀ l o r p, f l o r = true → P (.BinOp l o r p)) : P e := by
  cases e with
  | BinOp l o r p => exact k l o r p h
  | _ => exact no h
@[elab_as_elim] theorem onUn_at {f} (h : onUn e f = true) (k : ∀ o x p, f o x = true → P (.UnaryOp o x p)) : P e := by
  cases e with
  | UnaryOp o x p => exact k o x p h
  | _ => exact no h
@[elab_as_elim] theorem onBo_at {f} (h : onBo e f = true) (k : ∀ o l p, f o l = true → P (.BoolOp o l p)) : P e := by
  cases e with
  | BoolOp o l p => exact k o l p h
  | _ => exact no h
@[elab_as_elim] theorem onCmp_at {f} (h : onCmp e f = true) (k : ∀ l o r p, f l o r = true → P (.Compare l o r p)) : P e := by
  cases e with
  | Compare l o r p => exact k l o r p h
  | _ => exact no h
@[elab_as_elim] theorem onCall_at {f} (h : onCall e f = true) (k : ∀ fn args p, f fn args p = true → P (.Call fn args [] p)) : P e := by
  cases e with
  | Call fn args kw p => cases kw with
    | nil => exact k fn args p h
    | cons _ _ => exact no h
  | _ => exact no h
@[elab_as_elim] theorem onAttr_at {f} (h : onAttr e f = true) (k : ∀ po at_ p, f po at_ p = true → P (.Attribute po at_ p)) : P e := by
  cases e with
  | Attribute po at_ p => exact k po at_ p h
  | _ => exact no h
@[elab_as_elim] theorem onSub_at {f} (h : onSub e f = true) (k : ∀ po pi p, f po pi = true → P (.Subscript po pi p)) : P e := by
  cases e with
  | Subscript po pi p => exact k po pi p h
  | _ => exact no h
@[elab_as_elim] theorem onSlice_at {f} (h : onSlice e f = true) (k : ∀ l u p, f l u = true → P (.Slice l u none p)) : P e := by
  cases e with
  | Slice l u st p => cases st with
    | none => exact k l u p h
    | some _ => exact no h
  | _ => exact no h
@[elab_as_elim] theorem onTupE_at {f} (h : onTupE e f = true) (k : ∀ l n p, f l = true → P (.Tuple l n p)) : P e := by
  cases e with
  | Tuple l n p => exact k l n p h
  | _ => exact no h
@[elab_as_elim] theorem onLstE_at {f} (h : onLstE e f = true) (k : ∀ l p, f l = true → P (.List l p)) : P e := by
  cases e with
  | List l p => exact k l p h
  | _ => exact no h
@[elab_as_elim] theorem onDctE_at {f} (h : onDctE e f = true) (k : ∀ l r p, f l r = true → P (.Dict l r p)) : P e := by
  cases e with
  | Dict l r p => exact k l r p h
  | _ => exact no h
@[elab_as_elim] theorem onComp_at {f} (h : onComp e f = true) (k : ∀ x g sc p, f x g sc p = true → P (.ListComp x g sc p)) : P e := by
  cases e with
  | ListComp x g sc p => exact k x g sc p h
  | _ => exact no h
@[elab_as_elim] theorem onOne_at {α : Type} {l : List α} {f : α → Bool} {P : List α → Prop} (h : onOne l f = true) (k : ∀ x, f x = true → P [x]) : P l := by
  cases l with
  | nil => exact no h
  | cons x r => cases r with
    | nil => exact k x h
    | cons _ _ => exact no h
@[elab_as_elim] theorem onDuo_at {α : Type} {l : List α} {f : α → α → Bool} {P : List α → Prop} (h : onDuo l f = true) (k : ∀ x y, f x y = true → P [x, y]) : P l := by
  cases l with
  | nil => exact no h
  | cons x r => exact onOne_at h (k x)
@[elab_as_elim] theorem onSome_at {α : Type} {o : Option α} {f : α → Bool} {P : Option α → Prop} (h : onSome o f = true) (k : ∀ x, f x = true → P (some x)) : P o := by
  cases o with
  | none => exact no h
  | some x => exact k x h
@[elab_as_elim] theorem isEmp_at {α : Type} {l : List α} {P : List α → Prop} (h : isEmp l = true) (k : P []) : P l := by
  cases l with
  | nil => exact k
  | cons _ _ => exact no h
end
/-- a target that is a name, and two -/
noncomputable def isLocE (x : Nat) (sc : Scope) (e : Expr) : Bool := onName e fun id => isN x id && isLoc sc id
noncomputable def isPairE (x y : Nat) (sc : Scope) (e : Expr) : Bool := onTupE e fun l => onDuo l fun a b => isLocE x sc a && isLocE y sc b
noncomputable def onGen (g : List Comprehension) (f : Expr → Expr → List Expr → Bool) : Bool := onOne g fun c => decide (c.is_async = 0) && f c.target c.iter c.ifs
@[elab_as_elim] theorem onGen_at {g : List Comprehension} {f : Expr → Expr → List Expr → Bool} {P : List Comprehension → Prop} (h : onGen g f = true) (k : ∀ t i ifs, f t i ifs = true → P [⟨t, i, ifs, 0⟩]) : P g := by
  refine onOne_at h fun c h => ?_
  obtain ⟨t, i, ifs, as⟩ := c
  obtain ⟨h1, h2⟩ := both h
  cases of_decide_eq_true h1
  exact k t i ifs h2
/-- a call of a name, or of a method -/
noncomputable def onFn (e : Expr) (f : Str → List Expr → Bool) : Bool := onCall e fun fn args _ => onName fn fun id => f id args
@[elab_as_elim] theorem onFn_at {e : Expr} {P : Expr → Prop} {f} (h : onFn e f = true) (k : ∀ id args q p, f id args = true → P (.Call (.Name id q) args [] p)) : P e :=
  onCall_at h fun fn args p h => onName_at h fun id q h => k id args q p h
noncomputable def onMeth (e : Expr) (f : Str → Expr → List Expr → Bool) : Bool := onCall e fun fn args p => onAttr fn fun po at_ ap => Nat.beq ap.endLine p.line && (notCall po && f at_ po args)
@[elab_as_elim] theorem onMeth_at {e : Expr} {P : Expr → Prop} {f} (h : onMeth e f = true) (k : ∀ at_ po args ap p, Nat.beq ap.endLine p.line = true → notCall po = true → f at_ po args = true → P (.Call (.Attribute po at_ ap) args [] p)) : P e :=
  onCall_at h fun fn args p h => onAttr_at h fun po at_ ap h => have ⟨h1, h⟩ := both h; have ⟨h2, h⟩ := both h; k at_ po args ap p h1 h2 h

mutual
noncomputable def isE : E → Scope → Expr → Bool
  | .none, _, pe => onConst pe fun c => decide (.none = c)
  | .bool b, _, pe => onConst pe fun c => decide (.bool b = c)
  | .int i, _, pe => onConst pe fun c => decide (.int i = c)
  | .str k, _, pe => onConst pe fun c => match c with | .str s => isN k s | _ => false
  | .loc x, sc, pe => isLocE x sc pe
  | .glb x, sc, pe => onName pe fun id => isN x id && isGlb sc id
  | .bin op a b, sc, pe => onBin pe fun l o r => decide (pyB op = o) && (isE a sc l && isE b sc r)
  | .neg a, sc, pe => onUn pe fun o x => decide (.USub = o) && isE a sc x
  | .not a, sc, pe => onUn pe fun o x => decide (.Not = o) && isE a sc x
  | .and es, sc, pe => onBo pe fun o l => decide (.And = o) && (!isEmp l && isL es sc l)
  | .or es, sc, pe => onBo pe fun o l => decide (.Or = o) && (!isEmp l && isL es sc l)
  | .cmp op a b, sc, pe => onCmp pe fun l os rs => decide ([pyC op] = os) && onOne rs fun r => notSet r && (isE a sc l && isE b sc r)
  | .cmp2 o1 o2 a b c, sc, pe => onCmp pe fun l os rs => decide ([pyC o1, pyC o2] = os) && onDuo rs fun r1 r2 => notSet r2 && (isE a sc l && (isE b sc r1 && isE c sc r2))
  | .call f es, sc, pe => onFn pe fun id args => isN f id && (isGlb sc id && (topFn f && isL es sc args))
  | .new c es, sc, pe => onFn pe fun id args => isN c id && (isGlb sc id && ((look GL.init c).isSome && isL es sc args))
  | .len e, sc, pe => onFn pe fun id args => onOne args fun x => isBi "len" sc id && (notStar x && isE e sc x)
  | .tuple e, sc, pe => onFn pe fun id args => onOne args fun x => isBi "tuple" sc id && (notStar x && isE e sc x)
  | .range e, sc, pe => onFn pe fun id args => onOne args fun x => isBi "range" sc id && (notStar x && isE e sc x)
  | .isbool e, sc, pe => onFn pe fun id args => onDuo args fun x y => onName y fun id2 => isBi "isinstance" sc id && (isBi "bool" sc id2 && (notStar x && isE e sc x))
  | .max a b, sc, pe => onFn pe fun id args => onDuo args fun x y => isBi "max" sc id && ((notStar x && isE a sc x) && (notStar y && isE b sc y))
  | .min a b, sc, pe => onFn pe fun id args => onDuo args fun x y => isBi "min" sc id && ((notStar x && isE a sc x) && (notStar y && isE b sc y))
  | .append o e, sc, pe => onMeth pe fun at_ po args => onOne args fun x => seq at_ "append" && (isE o sc po && (notStar x && isE e sc x))
  | .pop o, sc, pe => onMeth pe fun at_ po args => isEmp args && (seq at_ "pop" && isE o sc po)
  | .get o k, sc, pe => onMeth pe fun at_ po args => onOne args fun x => seq at_ "get" && (isE o sc po && (notStar x && isE k sc x))
  | .get2 o k d, sc, pe => onMeth pe fun at_ po args => onDuo args fun x y => seq at_ "get" && (isE o sc po && ((notStar x && isE k sc x) && (notStar y && isE d sc y)))
  | .meth o m es, sc, pe => onMeth pe fun at_ po args => isN m at_ && (isE o sc po && (Nat.blt args.length 30 && isL es sc args))
  | .attr o f, sc, pe => onAttr pe fun po at_ _ => isN f at_ && (notCall po && isE o sc po)
  | .sub o i, sc, pe => onSub pe fun po pi => notSlice pi && (isE o sc po && isE i sc pi)
  | .upto o e, sc, pe => onSub pe fun po ps => onSlice ps fun l u => !l.isSome && onSome u fun pi => isE o sc po && isE e sc pi
  | .from_ o e, sc, pe => onSub pe fun po ps => onSlice ps fun l u => !u.isSome && onSome l fun pi => isE o sc po && isE e sc pi
  | .tup es, sc, pe => onTupE pe fun l => Nat.ble l.length 1000 && isL es sc l
  | .lst es, sc, pe => onLstE pe fun l => Nat.ble l.length 1000 && isL es sc l
  | .dct es, sc, pe => onDctE pe fun ks vs => Nat.ble ks.length 15 && isKV es sc ks vs
  | .comp x it elt, sc, pe => onComp pe fun pelt g scope _ => onGen g fun t pit ifs => isEmp ifs && onName t fun id => isN x id && (okComp scope sc id && (notSet pit && (isE it sc pit && isE elt (relabS scope sc) pelt)))
  | .compIf x it cond elt, sc, pe => onComp pe fun pelt g scope _ => onGen g fun t pit ifs => onOne ifs fun pc => onName t fun id => isN x id && (okComp scope sc id && (notSet pit && (isE it sc pit && (isE cond (relabS scope sc) pc && isE elt (relabS scope sc) pelt))))
noncomputable def isL : Es → Scope → List Expr → Bool
  | .nil, _, ps => isEmp ps
  | .cons e es, sc, ps => match ps with
    | p :: ps => notStar p && (isE e sc p && isL es sc ps)
    | [] => false
noncomputable def isKV : Es → Scope → List (Option Expr) → List Expr → Bool
  | .nil, _, ks, vs => isEmp ks && isEmp vs
  | .cons k es, sc, ks, vs => match ks with
    | p :: ps => onSome p fun p => isE k sc p && isVK es sc ps vs
    | [] => false
noncomputable def isVK : Es → Scope → List (Option Expr) → List Expr → Bool
  | .nil, _, _, _ => false
  | .cons v es, sc, ks, vs => match vs with
    | q :: qs => isE v sc q && isKV es sc ks qs
    | [] => false
end

noncomputable def onAsg (s : Stmt) (f : Expr → Expr → Bool) : Bool := match s with
  | .Assign ts v p => onOne ts fun t => f t v
  | _ => false
noncomputable def onAug (s : Stmt) (f : Expr → Operator → Expr → Bool) : Bool := match s with | .AugAssign t o v _ => f t o v | _ => false
noncomputable def onDel (s : Stmt) (f : Expr → Bool) : Bool := match s with | .Delete ts _ => onOne ts f | _ => false
noncomputable def onIf (s : Stmt) (f : Expr → List Stmt → List Stmt → Bool) : Bool := match s with | .If c t e _ => f c t e | _ => false
noncomputable def onWhile (s : Stmt) (f : Expr → List Stmt → Bool) : Bool := match s with | .While c b o _ => isEmp o && f c b | _ => false
noncomputable def onFor (s : Stmt) (f : Expr → Expr → List Stmt → Bool) : Bool := match s with | .For t i b o _ => isEmp o && f t i b | _ => false
noncomputable def onRet (s : Stmt) (f : Expr → Bool) : Bool := match s with | .Return v _ => onSome v f | _ => false
noncomputable def onExpr (s : Stmt) (f : Expr → Bool) : Bool := match s with | .Expr v _ => f v | _ => false
section
variable {s : Stmt} {P : Stmt → Prop}
@[elab_as_elim] theorem onAsg_at {f} (h : onAsg s f = true) (k : ∀ t v p, f t v = true → P (.Assign [t] v p)) : P s := by
  cases s with
  | Assign ts v p => exact onOne_at (P := fun ts => P (.Assign ts v p)) h fun t h => k t v p h
  | _ => exact no h
@[elab_as_elim] theorem onAug_at {f} (h : onAug s f = true) (k : ∀ t o v p, f t o v = true → P (.AugAssign t o v p)) : P s := by
  cases s with
  | AugAssign t o v p => exact k t o v p h
  | _ => exact no h
@[elab_as_elim] theorem onDel_at {f} (h : onDel s f = true) (k : ∀ t p, f t = true → P (.Delete [t] p)) : P s := by
  cases s with
  | Delete ts p => exact onOne_at (P := fun ts => P (.Delete ts p)) h fun t h => k t p h
  | _ => exact no h
@[elab_as_elim] theorem onIf_at {f} (h : onIf s f = true) (k : ∀ c t e p, f c t e = true → P (.If c t e p)) : P s := by
  cases s with
  | If c t e p => exact k c t e p h
  | _ => exact no h
@[elab_as_elim] theorem onWhile_at {f} (h : onWhile s f = true) (k : ∀ c b p, f c b = true → P (.While c b [] p)) : P s := by
  cases s with
  | While c b o p => exact isEmp_at (P := fun o => P (.While c b o p)) (both h).1 (k c b p (both h).2)
  | _ => exact no h
@[elab_as_elim] theorem onFor_at {f} (h : onFor s f = true) (k : ∀ t i b p, f t i b = true → P (.For t i b [] p)) : P s := by
  cases s with
  | For t i b o p => exact isEmp_at (P := fun o => P (.For t i b o p)) (both h).1 (k t i b p (both h).2)
  | _ => exact no h
@[elab_as_elim] theorem onRet_at {f} (h : onRet s f = true) (k : ∀ v p, f v = true → P (.Return (some v) p)) : P s := by
  cases s with
  | Return v p => exact onSome_at (P := fun v => P (.Return v p)) h fun v h => k v p h
  | _ => exact no h
@[elab_as_elim] theorem onExpr_at {f} (h : onExpr s f = true) (k : ∀ v p, f v = true → P (.Expr v p)) : P s := by
  cases s with
  | Expr v p => exact k v p h
  | _ => exact no h
end
/-- a comprehension stored in passing: its value is stored within it -/
noncomputable def storedIn (sc : Scope) (id : Str) (p' : Pos) (scope : Scope) (vp : Pos) : Bool := decide (sc.names.lookup id = some .local) && (decide (p'.line = vp.line) && scope.names.all fun y => !((y.1 == id) && (y.2 == .local || y.2 == .cell)))
/-- where a comprehension's value is stored: in passing, or behind it -/
noncomputable def okStore (sc : Scope) (id : Str) (p' : Pos) (v : Expr) : Bool := match v with
  | .ListComp _ _ scope vp => decide (sc.names.lookup id ≠ some .local) || storedIn sc id p' scope vp
  | v => notComp v
noncomputable def onNameP (e : Expr) (f : Str → Pos → Bool) : Bool := match e with | .Name id p => f id p | _ => false
@[elab_as_elim] theorem onNameP_at {e : Expr} {P : Expr → Prop} {f} (h : onNameP e f = true) (k : ∀ id p, f id p = true → P (.Name id p)) : P e := by
  cases e with
  | Name id p => exact k id p h
  | _ => exact no h
noncomputable def notTup (e : Expr) : Bool := match e with | .Tuple .. => false | _ => true

mutual
noncomputable def isS : S → Scope → Stmt → Bool
  | .asg x e, sc, ps => onAsg ps fun t v => onNameP t fun id p' => isN x id && (isLoc sc id && (okStore sc id p' v && isE e sc v))
  | .asg2 x y e, sc, ps => onAsg ps fun t v => isPairE x y sc t && (notComp v && (notTup v && isE e sc v))
  | .setattr o f e, sc, ps => onAsg ps fun t v => onAttr t fun po at_ _ => isN f at_ && (isE o sc po && isE e sc v)
  | .setitem o i e, sc, ps => onAsg ps fun t v => onSub t fun po pi => notSlice pi && (isE o sc po && (isE i sc pi && isE e sc v))
  | .aug x op e, sc, ps => onAug ps fun t q v => isLocE x sc t && (decide (pyB op = q) && isE e sc v)
  | .augattr o f op e, sc, ps => onAug ps fun t q v => onAttr t fun po at_ _ => isN f at_ && (decide (pyB op = q) && (isE o sc po && isE e sc v))
  | .augitem o i op e, sc, ps => onAug ps fun t q v => onSub t fun po pi => notSlice pi && (decide (pyB op = q) && (isE o sc po && (isE i sc pi && isE e sc v)))
  | .del o i, sc, ps => onDel ps fun t => onSub t fun po pi => isE o sc po && isE i sc pi
  | .ite c t e, sc, ps => onIf ps fun pc pt pe => isE c sc pc && (isSs t sc pt && isSs e sc pe)
  | .while c b, sc, ps => onWhile ps fun pc pb => isE c sc pc && isSs b sc pb
  | .for_ x it b, sc, ps => onFor ps fun t pit pb => isLocE x sc t && (notSet pit && (isE it sc pit && isSs b sc pb))
  | .for2 x y it b, sc, ps => onFor ps fun t pit pb => isPairE x y sc t && (notSet pit && (isE it sc pit && isSs b sc pb))
  | .ret e, sc, ps => onRet ps fun v => isE e sc v
  | .expr e, sc, ps => onExpr ps fun v => notComp v && isE e sc v
  | .raise, _, _ => true
noncomputable def isSs : Ss → Scope → List Stmt → Bool
  | .nil, _, ps => isEmp ps
  | .cons s ss, sc, ps => match ps with
    | p :: ps => isS s sc p && isSs ss sc ps
    | [] => false
end
end Mine
end
section
set_option maxRecDepth 100000
set_option genSizeOf false
set_option genInjectivity false
namespace Mine
open PySem PySem.W PyProof.Rows

noncomputable def okScope (sc : Scope) (ps : List Nat) : Bool :=
  decide (sc.kind = .function) && (!sc.isGenerator && (!sc.isCoroutine && (sc.names.all (fun y => match y.2 with | .free => false | _ => true) &&
  (ps.all (fun x => Nat.blt x NN && (match lookK sc.names (nm x) with | some .local => true | some .cell => true | _ => false)) && decide ps.Nodup))))

structure FnOk (W : Wd) (f : Nat) (a : Addr) : Prop where
  ex : ∃ (fdl : FD) (o : Obj) (fd : FuncData) (body : List Stmt) (as : List Arg), look FT f = some fdl ∧ W.B.get? a = some o ∧ o.data = .func fd ∧ fd.body = .stmts body ∧ fd.closure = [] ∧ fd.globals = mainGlobals ∧
    fd.builtins = builtinsNs ∧ fd.defaults = .none ∧ fd.params = ⟨[], as, none, [], [], none, []⟩ ∧ (as.map fun x => x.arg) = fdl.params.map nm ∧ W.B.CodeRec fd.code fd.qualname ∧ isSs fdl.body fd.scope body = true ∧
    okScope fd.scope fdl.params = true

structure MethOk (W : Wd) (C : Addr) (name : Str) (a : Addr) : Prop where
  ga : findIn W.K (.ref C) "__getattribute__" = some (some (.builtin "object.__getattribute__"))
  gt : findIn W.K (.ref C) "__getattr__" = some none
  at_ : findIn W.K (.ref C) name = some (some (.ref a))
  fn : typeIn W.K (.ref a) = some (.type "function")

structure ClsOk (W : Wd) (C a : Addr) : Prop where
  makes : makesIn W.K C = true
  keep : keepIn W.K (.ref C) = true
  init : findIn W.K (.ref C) "__init__" = some (some (.ref a))
  fn : typeIn W.K (.ref a) = some (.type "function")

noncomputable def biL : List (String × Value) := [("len", .builtin "len"), ("max", .builtin "max"), ("min", .builtin "min"), ("isinstance", .builtin "isinstance"), ("tuple", .type "tuple"), ("range", .type "range"), ("bool", .type "bool")]

structure WAll (W : Wd) : Prop extends WOk W where
  glob : ∀ x v, look GL.glob x = some v → ∃ rv, W.mg (nm x) = some rv ∧ ∀ (h : Heap) (μ : Mu), (∀ b o, W.B.get? b = some o → h.get? b = some o) → Rep W h μ v rv
  bi : ∀ p ∈ biL, W.mg (Str.ofString p.1) = none ∧ W.mb (Str.ofString p.1) = some p.2
  fns : ∀ f a, W.fn f = some a → FnOk W f a
  top : ∀ f, topFn f = true → ∃ a, W.fn f = some a ∧ W.mg (nm f) = some (.ref a)
  init : ∀ c f, look GL.init c = some f → ∃ C a, W.cls c = some C ∧ W.fn f = some a ∧ W.mg (nm c) = some (.ref C) ∧ ClsOk W C a
  meth : ∀ c C ms m f, W.cls c = some C → look GL.meth c = some ms → look ms m = some f → ∃ a, W.fn f = some a ∧ MethOk W C (nm m) a

variable {W : Wd}

/-- the functions called are sound -/
noncomputable def CallOk (W : Wd) (k : Nat) (C : Nat → List V → M V) : Prop := ∀ ⦃f vs K H⦄, wp (C f vs) K H → ∀ ⦃a⦄, W.fn f = some a →
  ∀ ⦃A : Around⦄ ⦃s : Shared⦄ ⦃μ : Mu⦄ ⦃us : List Value⦄ ⦃R : Result → Shared → Prop⦄, AOK A k → SR W μ H s.heap → RepL W s.heap μ vs us →
    Post W s μ K (fun u s' => R (.ok (.ret u)) s') → codeAny (model W.prog W.w) A (.call (.ref a) ⟨us, []⟩) R s

noncomputable def SndE (W : Wd) (j : Nat) (env : Env) (ρ : Loc) (m : M V) (pe : Expr) : Prop :=
  ∀ ⦃A : Around⦄ ⦃E : Value → Shared → Prop⦄ ⦃s : Shared⦄ ⦃μ : Mu⦄ ⦃H : AH⦄ ⦃K : V → AH → Prop⦄ ⦃Q : Value → Shared → Prop⦄, At W j env ρ A s μ H → m K H → Post W s μ K Q → wpAny (model W.prog W.w) A (eval pe env) Q E s
noncomputable abbrev PostT (W : Wd) (s : Shared) (μ : Mu) (K : V → AH → Prop) (Q : Bool → Shared → Prop) : Prop := ∀ ⦃v H' s' μ'⦄, K v H' → Aft W X0 s μ s' μ' H' → wTru v (fun b _ => Q b s') H'
noncomputable def SndT (W : Wd) (j : Nat) (env : Env) (ρ : Loc) (m : M V) (pe : Expr) : Prop :=
  ∀ ⦃A : Around⦄ ⦃E : Value → Shared → Prop⦄ ⦃s : Shared⦄ ⦃μ : Mu⦄ ⦃H : AH⦄ ⦃K : V → AH → Prop⦄ ⦃Q : Bool → Shared → Prop⦄, At W j env ρ A s μ H → m K H → PostT W s μ K Q → wpAny (model W.prog W.w) A (isTrue pe env (eval pe env)) Q E s
noncomputable def SndL (W : Wd) (j : Nat) (env : Env) (ρ : Loc) (m : M (List V)) (pes : List Expr) : Prop :=
  ∀ ⦃A : Around⦄ ⦃E : Value → Shared → Prop⦄ ⦃s : Shared⦄ ⦃μ : Mu⦄ ⦃H : AH⦄ ⦃K : List V → AH → Prop⦄ ⦃pos : Pos⦄ ⦃Q : List Value → Shared → Prop⦄, At W j env ρ A s μ H → m K H →
    (∀ ⦃vs H' s' μ' us⦄, K vs H' → Aft W X0 s μ s' μ' H' → RepL W s'.heap μ' vs us → us.length = pes.length → Q us s') → wpAny (model W.prog W.w) A (spliced (backTo pos (starEach pes env))) Q E s
structure Snd (W : Wd) (j : Nat) (env : Env) (ρ : Loc) (m : M V) (pe : Expr) : Prop where
  e : SndE W j env ρ m pe
  t : SndT W j env ρ m pe

section
variable {j : Nat} {env : Env} {ρ : Loc} {A : Around} {E : Value → Shared → Prop} {s : Shared} {μ : Mu} {H : AH}
/-- from the value to its truth -/
theorem SndE.snd {m pe} (h : SndE W j env ρ m pe) (he : ∀ whole, isTrue pe env whole = (do let v ← whole; standAt pe.pos; holding [v] (PySem.truthy v))) : Snd W j env ρ m pe :=
  ⟨h, fun _ _ _ _ _ _ _ c hm hQ => isTrue_plain (h c hm fun _ _ _ _ _ h a r => wTru_sound (hQ h a) r fun _ h => h) (he _)⟩
theorem wTru.imp {v : V} {K K' : Bool → AH → Prop} {H : AH} (h : wTru v K H) (k : ∀ b, K b H → K' b H) : wTru v K' H := by
  cases v with
  | bool b => exact k b h
  | int i => exact k _ h
  | _ => exact h.elim

theorem snd_loc {x : Nat} {id : Str} {pos : Pos} (hn : isN x id = true) (hl : isLoc env.scope id = true) : SndE W j env ρ (fun K H => lQ (look ρ x) K H) (.Name id pos) := fun _ _ _ _ _ _ _ c h hQ =>
  have ⟨v, e, h⟩ := lQ.of h; wpAny_Name (name_sound c.F e hn hl fun u r => hQ h (.refl c.R) r) (isN_at hn).2.2.1
theorem Frm.glb (O : WAll W) {h : Heap} (F : Frm W env ρ h μ) (R : SR W μ H h) : h.Ns env.globals W.mg := by rw [F.globals]; exact O.gns.keeps R.kept
theorem snd_glb (O : WAll W) {x : Nat} {id : Str} {pos : Pos} (hn : isN x id = true) (hl : isGlb env.scope id = true) : SndE W j env ρ (fun K H => lQ (look GL.glob x) K H) (.Name id pos) := fun A E s μ H K Q c h hQ => by
  obtain ⟨v, e, h⟩ := lQ.of h
  obtain ⟨h1, rfl, h3, h4⟩ := isN_at hn
  obtain ⟨rv, g, r⟩ := O.glob x v e
  exact Calls.Name_function_global c.F.kind (isGlb_at hl) (Calls.loadGlobal_global (c.F.glb O c.R) g (hQ h (.refl c.R) (r _ _ c.R.kept))) h3

/-- a builtin name read -/
theorem name_bi (O : WAll W) {n : String} {bv : Value} {id : Str} {pos : Pos} {Q : Value → Shared → Prop} (hb : (n, bv) ∈ biL) (hi : isBi n env.scope id = true) (c : At W j env ρ A s μ H) (hd : (Str.ofString n == ("__debug__" : Str)) = false)
    (hQ : Q bv s) : wpAny (model W.prog W.w) A (eval (.Name id pos) env) Q E s := by
  obtain ⟨i1, i2⟩ := both hi
  obtain ⟨h1, h2⟩ := O.bi _ hb
  obtain rfl := seq_eq.mp i1
  exact Calls.Name_function_global c.F.kind (isGlb_at i2) (Calls.loadGlobal_builtin (c.F.glb O c.R) h1 (by rw [c.F.builtins]; exact O.bns.keeps c.R.kept) h2 hQ) hd

theorem snd_nil : SndL W j env ρ (fun K H => K [] H) [] := fun _ _ _ _ _ _ _ _ c h hQ => Calls.spliced_nil (hQ h (.refl c.R) .nil rfl)
theorem starEach_cons {p : Expr} (hs : notStar p = true) (ps : List Expr) : starEach (p :: ps) env = (false, eval p env) :: starEach ps env := by
  cases p with
  | Starred _ _ => exact no hs
  | _ => rfl
theorem snd_cons {m : M V} {ms : M (List V)} {p : Expr} {ps : List Expr} (hs : notStar p = true) (h1 : SndE W j env ρ m p) (h2 : SndL W j env ρ ms ps) :
    SndL W j env ρ (fun K H => m (fun v H => ms (fun vs H => K (v :: vs) H) H) H) (p :: ps) := fun A E s μ H K pos Q c h hQ => by
  rw [starEach_cons hs]
  exact Calls.spliced_cons (h1 c h fun _ _ _ _ _ h a1 r1 => h2 (c.step a1) h fun _ _ _ _ _ h a2 r2 hl => hQ h (a1.trans a2) (.cons (a2.rep a1.sr r1) r2) (congrArg Nat.succ hl))

/-! operators -/
theorem snd_bin (O : WAll W) {op : BOp} {ma mb : M V} {pa pb : Expr} {pos : Pos} (ha : SndE W j env ρ ma pa) (hb : SndE W j env ρ mb pb) :
    SndE W j env ρ (fun K H => ma (fun va H => mb (fun vb H => wBin op va vb K H) H) H) (.BinOp pa (pyB op) pb pos) := fun _ _ _ _ _ _ _ c h hQ =>
  wpAny_BinOp (ha c h fun _ _ _ _ _ h a1 r1 => hb (c.step a1) h fun _ _ _ _ _ h a2 r2 => wBin_sound h c.hA O.toWOk a2.sr (a2.rep a1.sr r1) r2 (hQ.after (a1.trans a2)))
theorem snd_neg {ma : M V} {pa : Expr} {pos : Pos} (ha : SndE W j env ρ ma pa) : SndE W j env ρ (fun K H => ma (fun v H => onInt v fun i => K (.int (-i)) H) H) (.UnaryOp .USub pa pos) := fun _ _ _ _ _ _ _ c h hQ =>
  UnaryOp_ (ha c h fun _ _ _ _ _ h a r => onInt.rep h r fun i t h => P.neg_int ((hQ.after a).int a.sr h))
theorem snd_not {ma : M V} {pa : Expr} {pos : Pos} (ha : Snd W j env ρ ma pa) : Snd W j env ρ (fun K H => ma (fun v H => wTru v (fun b H => K (.bool (!b)) H) H) H) (.UnaryOp .Not pa pos) :=
  ⟨fun _ _ _ _ _ _ _ c h hQ => UnaryOp_ (ha.e c h fun _ _ _ _ _ h a r => not_of (wTru_sound h r fun b h => hQ h a .of_bool)), fun _ _ _ _ _ _ _ c h hQ => isTrue_not (ha.t c h fun _ _ _ _ h a => h.imp fun b h => hQ h a)⟩
theorem behind_of {op : CmpOp} {p : Expr} (h : notSet p = true) : behindInMarks op p = false := by
  cases p with
  | Set _ _ _ => exact no h
  | _ => rfl
theorem snd_cmp (O : WAll W) {op : COp} {ma mb : M V} {pa pb : Expr} {pos : Pos} (hs : notSet pb = true) (ha : SndE W j env ρ ma pa) (hb : SndE W j env ρ mb pb) :
    Snd W j env ρ (fun K H => ma (fun va H => mb (fun vb H => wCmp op va vb (fun r H => K (.bool r) H) H) H) H) (.Compare pa [pyC op] [pb] pos) :=
  ⟨fun _ _ _ _ _ _ _ c h hQ => wpAny_Compare1 (ha c h fun _ _ _ _ _ h a1 r1 => hb (c.step a1) h fun _ _ _ _ _ h a2 r2 => wCmp_sound h c.hA O.toWOk a2.sr (a2.rep a1.sr r1) r2 fun r t h => hQ h ((a1.trans a2).toks t) .of_bool) (behind_of hs),
    fun _ _ _ _ _ _ _ c h hQ => wpAny_isTrue_Compare1 (ha c h fun _ _ _ _ _ h a1 r1 => hb (c.step a1) h fun _ _ _ _ _ h a2 r2 => wCmp_sound h c.hA O.toWOk a2.sr (a2.rep a1.sr r1) r2 fun r t h => wpAny_truthy_bool (hQ h ((a1.trans a2).toks t))) (behind_of hs)⟩
@[elab_as_elim] theorem ifK_at {b : Bool} {P R : Prop} {C : Bool → Prop} (h : ifK b P R) (t : P → C true) (e : R → C false) : C b := by cases b; exact e h; exact t h
theorem snd_cmp2 (O : WAll W) {o1 o2 : COp} {ma mb mc : M V} {pa pb pc : Expr} {pos : Pos} (hs : notSet pc = true) (ha : SndE W j env ρ ma pa) (hb : SndE W j env ρ mb pb) (hc : SndE W j env ρ mc pc) :
    Snd W j env ρ (fun K H => ma (fun va H => mb (fun vb H => wCmp o1 va vb (fun r H => ifK r (mc (fun vc H => wCmp o2 vb vc (fun r H => K (.bool r) H) H) H) (K (.bool false) H)) H) H) H) (.Compare pa [pyC o1, pyC o2] [pb, pc] pos) :=
  have hm : lastMarks [pyC o1, pyC o2] [pb, pc] = false := behind_of hs
  ⟨fun _ _ _ _ _ _ _ c h hQ => Compare_chain (ha c h fun _ _ _ _ _ h a1 r1 => chain_link (hb (c.step a1) h fun _ _ _ _ _ h a2 r2 => wCmp_sound h c.hA O.toWOk a2.sr (a2.rep a1.sr r1) r2 fun r t h => wpAny_truthy_bool (by
      have a12 := (a1.trans a2).toks t
      refine ifK_at h (fun h => ?_) fun h => hQ h a12 .of_bool
      exact chain_last (hc (c.step a12) h fun _ _ _ _ _ h a3 r3 => wCmp_sound h c.hA O.toWOk a3.sr (a3.rep a12.sr r2) r3 fun r t h => hQ h ((a12.trans a3).toks t) .of_bool)))) hm,
    fun _ _ _ _ _ _ _ c h hQ => isTrue_chain (ha c h fun _ _ _ _ _ h a1 r1 => test_link (hb (c.step a1) h fun _ _ _ _ _ h a2 r2 => wCmp_sound h c.hA O.toWOk a2.sr (a2.rep a1.sr r1) r2 fun r t h => wpAny_truthy_bool (by
      have a12 := (a1.trans a2).toks t
      refine ifK_at h (fun h => ?_) fun h => hQ h a12
      exact test_last (hc (c.step a12) h fun _ _ _ _ _ h a3 r3 => wCmp_sound h c.hA O.toWOk a3.sr (a3.rep a12.sr r2) r3 fun r t h => wpAny_truthy_bool (hQ h ((a12.trans a3).toks t)))))) hm⟩

/-! the chains of and, or -/
structure SndA (W : Wd) (j : Nat) (env : Env) (ρ : Loc) (op : BoolOp) (m : M V) (ps : List Expr) : Prop where
  e : ∀ pos, ps ≠ [] → SndE W j env ρ m (.BoolOp op ps pos)
  t : ∀ pos, SndT W j env ρ m (.BoolOp op ps pos)
theorem onBool.rep {h : Heap} {v : V} {u : Value} {f : Bool → Prop} (z : onBool v f) (r : Rep W h μ v u) : ∃ b, u = .bool b ∧ f b := by
  cases v with
  | bool b => exact ⟨b, r, z⟩
  | _ => exact z.elim
theorem onBool.tru {v : V} {f : Bool → Prop} {K : Bool → AH → Prop} (z : onBool v f) (k : ∀ b, f b → K b H) : wTru v K H := by
  cases v with
  | bool b => exact k b z
  | _ => exact z.elim
theorem sna_nil_and : SndA W j env ρ .And (fun K H => K (.bool true) H) [] := ⟨fun _ h => absurd rfl h, fun _ _ _ _ _ _ _ _ c h hQ => isTrue_and_nil (hQ h (.refl c.R))⟩
theorem sna_nil_or : SndA W j env ρ .Or (fun K H => K (.bool false) H) [] := ⟨fun _ h => absurd rfl h, fun _ _ _ _ _ _ _ _ c h hQ => isTrue_or_nil (hQ h (.refl c.R))⟩
theorem sna_and {ma mr : M V} {pa : Expr} {ps : List Expr} (ha : Snd W j env ρ ma pa) (hr : SndA W j env ρ .And mr ps) (hn : ps = [] → ∀ ⦃K : V → AH → Prop⦄ ⦃H⦄, mr K H → K (.bool true) H) :
    SndA W j env ρ .And (fun K H => ma (fun v H => onBool v fun b => ifK b (mr K H) (K (.bool false) H)) H) (pa :: ps) := by
  refine ⟨fun pos _ A E s μ H K Q c h hQ => ?_, fun pos A E s μ H K Q c h hQ => isTrue_and (ha.t c h fun v H' s' μ' h a => h.tru fun b h => ?_)⟩
  · cases ps with
    | nil => exact BoolOp_one (ha.e c h fun v H' s' μ' u h a r => by
        obtain ⟨b, rfl, h⟩ := h.rep r
        exact ifK_at (C := fun b => Q (.bool b) s') h (fun h => hQ (hn rfl h) a .of_bool) fun h => hQ h a .of_bool)
    | cons p2 ps => exact BoolOp_and (ha.e c h fun v H' s' μ' u h a r => by
        obtain ⟨b, rfl, h⟩ := h.rep r
        refine wpAny_truthy_bool (ifK_at h (fun h => ?_) fun h => ?_)
        · exact hr.e pos (by simp) (c.step a) h (hQ.after a)
        · exact hQ h a .of_bool)
  · refine ifK_at h (fun h => ?_) fun h => ?_
    · exact hr.t pos (c.step a) h fun _ _ _ _ h a2 => hQ h (a.trans a2)
    · exact hQ h a
theorem sna_or {ma mr : M V} {pa : Expr} {ps : List Expr} (ha : Snd W j env ρ ma pa) (hr : SndA W j env ρ .Or mr ps) (hn : ps = [] → ∀ ⦃K : V → AH → Prop⦄ ⦃H⦄, mr K H → K (.bool false) H) :
    SndA W j env ρ .Or (fun K H => ma (fun v H => onBool v fun b => ifK b (K (.bool true) H) (mr K H)) H) (pa :: ps) := by
  refine ⟨fun pos _ A E s μ H K Q c h hQ => ?_, fun pos A E s μ H K Q c h hQ => isTrue_or (ha.t c h fun v H' s' μ' h a => h.tru fun b h => ?_)⟩
  · cases ps with
    | nil => exact BoolOp_one (ha.e c h fun v H' s' μ' u h a r => by
        obtain ⟨b, rfl, h⟩ := h.rep r
        exact ifK_at (C := fun b => Q (.bool b) s') h (fun h => hQ h a .of_bool) fun h => hQ (hn rfl h) a .of_bool)
    | cons p2 ps => exact BoolOp_or (ha.e c h fun v H' s' μ' u h a r => by
        obtain ⟨b, rfl, h⟩ := h.rep r
        refine wpAny_truthy_bool (ifK_at h (fun h => ?_) fun h => ?_)
        · exact hQ h a .of_bool
        · exact hr.e pos (by simp) (c.step a) h (hQ.after a))
  · refine ifK_at h (fun h => ?_) fun h => ?_
    · exact hQ h a
    · exact hr.t pos (c.step a) h fun _ _ _ _ h a2 => hQ h (a.trans a2)
end
end Mine
end
section
set_option maxRecDepth 100000
set_option genSizeOf false
set_option genInjectivity false
namespace Mine
open PySem PySem.W PyProof.Rows
variable {W : Wd}
section
variable {j : Nat} {env : Env} {ρ : Loc} {A : Around} {E : Value → Shared → Prop} {s : Shared} {μ : Mu} {H : AH}
/-! attributes, items -/
theorem attributeBase_of {po : Expr} {at_ : Str} {whole : Sem Value} (h : notCall po = true) : attributeBase po at_ env whole = whole := by
  cases po with
  | Call _ _ _ _ => exact no h
  | _ => rfl
theorem snd_attr (O : WAll W) {mo : M V} {po : Expr} {f : Nat} {at_ : Str} {pos : Pos} (hn : isN f at_ = true) (hc : notCall po = true) (ho : SndE W j env ρ mo po) :
    SndE W j env ρ (fun K H => mo (fun vo H => wp (attrV GL.fld vo f) K H) H) (.Attribute po at_ pos) := fun A E s μ H K Q c h hQ => by
  obtain ⟨_, rfl, _⟩ := isN_at hn
  refine Attribute_any_ (ho c h fun _ _ _ _ _ h a r => attr_sound h O.toWOk a.sr r (hQ.after a)) ?_
  show (do
    let o ← attributeBase po (nm f) env (eval po env)
    standAt pos.atName
    let r ← holding [o] (getAttr o (nm f) true)
    letTemporaryGo po o r
    pure r) = _
  rw [attributeBase_of hc]
theorem subscripted_of {pi : Expr} {o i : Value} (h : notSlice pi = true) : subscripted pi false o i = operate [o, i] (getItem o i) := by
  cases pi with
  | Slice _ _ _ _ => exact no h
  | _ => rfl
theorem snd_sub (O : WAll W) {mo mi : M V} {po pi : Expr} {pos : Pos} (hs : notSlice pi = true) (ho : SndE W j env ρ mo po) (hi : SndE W j env ρ mi pi) :
    SndE W j env ρ (fun K H => mo (fun vo H => mi (fun vi H => wSub vo vi K H) H) H) (.Subscript po pi pos) := fun _ _ _ _ _ _ Q c h hQ =>
  Subscript_ (ho c h fun _ _ _ _ uo h a1 r1 => hi (c.step a1) h fun _ _ s' _ ui h a2 r2 =>
    wSub_sound (T := fun uo ui => wpAny _ _ (subscriptTail po pi uo ui) Q _ s') h a2.sr (a2.rep a1.sr r1) r2 (hQ.after (a1.trans a2)) fun t l g => tail_any t l g (subscripted_of hs))
theorem slice_push {μ H} (R : SR W μ H s.heap) (l u st : Value) : Aft W X0 s μ { s with heap := s.heap.push { cls := .type "slice", data := .fields #[l, u, st] } } μ H := Aft.push R _
theorem snd_upto (O : WAll W) {mo mi : M V} {po pi : Expr} {pos p : Pos} (ho : SndE W j env ρ mo po) (hi : SndE W j env ρ mi pi) :
    SndE W j env ρ (fun K H => mo (fun vo H => mi (fun vi H => wp (uptoV vo vi) K H) H) H) (.Subscript po (.Slice none (some pi) none p) pos) := fun _ _ _ _ _ _ _ c h hQ =>
  Subscript_ (ho c h fun _ _ _ _ _ h a1 r1 => wpAny_Slice (wpAny_pure (hi (c.step a1) h fun _ _ s2 _ ui h a2 r2 => wpAny_pure (
    have a3 := slice_push (s := s2) a2.sr .none ui .none
    upto_sound h a3.sr ((a2.trans a3).rep a1.sr r1) (a3.rep a2.sr r2) (Heap.IsSliceOf.new ..) rfl (hQ.after (a1.trans (a2.trans a3)))))))
theorem snd_from (O : WAll W) {mo mi : M V} {po pi : Expr} {pos p : Pos} (ho : SndE W j env ρ mo po) (hi : SndE W j env ρ mi pi) :
    SndE W j env ρ (fun K H => mo (fun vo H => mi (fun vi H => wp (fromV vo vi) K H) H) H) (.Subscript po (.Slice (some pi) none none p) pos) := fun _ _ _ _ _ _ _ c h hQ =>
  Subscript_ (ho c h fun _ _ _ _ _ h a1 r1 => wpAny_Slice (hi (c.step a1) h fun _ _ s2 _ ui h a2 r2 => wpAny_pure (wpAny_pure (
    have a3 := slice_push (s := s2) a2.sr ui .none .none
    from_sound h a3.sr ((a2.trans a3).rep a1.sr r1) (a3.rep a2.sr r2) (Heap.IsSliceOf.new ..) rfl (hQ.after (a1.trans (a2.trans a3)))))))

/-! displays -/
theorem ble_line {n : Nat} {us : List Value} {ps : List Expr} (hz : Nat.ble ps.length 1000 = true) (hl : us.length = ps.length) : us.length ≤ sizeLine := by
  rw [hl]; exact sizeLine_ge (Nat.le_trans (Nat.le_of_ble_eq_true hz) (by decide))
theorem snd_tup {ms : M (List V)} {ps : List Expr} {n : Nat} {pos : Pos} (hz : Nat.ble ps.length 1000 = true) (h : SndL W j env ρ ms ps) :
    SndE W j env ρ (fun K H => ms (fun vs H => K (.tup vs) H) H) (.Tuple ps n pos) := fun _ _ _ _ _ _ _ c h0 hQ =>
  Tuple_ (h c h0 fun _ _ s1 μ1 us h a r hl =>
    have a2 : Aft W X0 s1 μ1 { s1 with heap := s1.heap.push { cls := .type "tuple", data := .seq us.toArray } } μ1 _ := Aft.push a.sr _
    wpAny_newTuple (hQ h (a.trans a2) (.of_tup ⟨_, Heap.get?_push_size _ rfl, rfl, _, rfl⟩ (a2.repL a.sr r))) (ble_line (n := n) hz hl))
theorem snd_lst {ms : M (List V)} {ps : List Expr} {pos : Pos} (hz : Nat.ble ps.length 1000 = true) (h : SndL W j env ρ ms ps) :
    SndE W j env ρ (fun K H => ms (fun vs H => wAl (.lst vs) K H) H) (.List ps pos) := fun _ _ _ _ _ _ _ c h0 hQ =>
  List_ (h c h0 fun _ _ s1 μ1 us h a r hl => wpAny_newList (hQ h (a.trans (list_new (t := s1.toks) a.sr fun m => RepL.mv m _ r)) (.at_end a.sr.len)) (ble_line (n := 0) hz hl))

/-! dicts -/
/-- an object of the heap that no one owns is taken in -/
theorem SR.adopt {μ : Mu} {H : AH} {h h' h0 : Heap} {d : Addr} {c : Cell} {μ0 : Mu} (R : SR W μ H h) (hs : Heap.SameBut d h h') (hl : ∃ o, h'.get? d = some o) (hn : ∀ p ∈ μ, d ≠ p.1 ∧ d ≠ p.2) (hB : W.B.get? d = Option.none)
    (S0 : St X0 h0 μ0 h μ) (hd : h0.get? d = Option.none) (nf : ∀ o, h.get? d = some o → ¬ Fixed o) (new : Mv h μ h' (μ ++ [(d, d)]) → RepC W h' (μ ++ [(d, d)]) (d, d) c) :
    SR W (μ ++ [(d, d)]) (H ++ [c]) h' ∧ St X0 h0 μ0 h' (μ ++ [(d, d)]) := by
  have m : Mv h μ h' (μ ++ [(d, d)]) := .snoc fun b o ho f => (hs.2 b fun e => nf o (e ▸ ho) f).trans ho
  refine ⟨.snoc R.len (fun i c p hi hp => ?_) R.apart R.above (fun b o e => (hs.2 b (live_ne e hB)).trans (R.kept b o e)) (fun q hq => ⟨hn q hq, hn q hq⟩) ⟨hB, hB⟩ (new m), ?_, fun b o ho => ?_, fun b o n u ho => (hs.2 b (live_ne ho hd)).trans (S0.kept b o n u ho)⟩
  · have z := hn p (List.mem_of_getElem? hp)
    exact RepC.mv m (hs.2 _ z.1.symm) (hs.2 _ z.2.symm) (R.cells i c p hi hp)
  · obtain ⟨e, he, hf⟩ := S0.ext
    exact ⟨e ++ [(d, d)], by rw [he, List.append_assoc], fun p hp => (List.mem_append.mp hp).elim (hf p) fun hp => List.mem_singleton.mp hp ▸ ⟨hd, hd⟩⟩
  · obtain ⟨o', ho'⟩ := S0.live b o ho
    exact ⟨o', (hs.2 b (live_ne ho hd)).trans ho'⟩

/-- the evaluated entries of a display -/
noncomputable def RepP (W : Wd) (h : Heap) (μ : Mu) : List V → List (Value × Value) → Prop
  | [], ps => ps = []
  | k :: r, ps => match r with
    | [] => False
    | v :: r => ∃ a b qs, ps = (a, b) :: qs ∧ Rep W h μ k a ∧ Rep W h μ v b ∧ RepP W h μ r qs
theorem All2.snoc {α β : Type} {P : α → β → Prop} {a : α} {b : β} (p : P a b) {l : List α} {r : List β} (x : All2 P l r) : All2 P (l ++ [a]) (r ++ [b]) := x.rec (.cons p .nil) fun q _ ih => .cons q ih
theorem stored_fresh {K : Type} [DecidableEq K] {kvs : List (K × Value)} {k : K} {v : Value} (h : valueAt kvs k = none) : stored kvs k v = kvs ++ [(k, v)] := by
  unfold valueAt at h
  unfold stored
  rw [Option.map_eq_none_iff, List.find?_eq_none] at h
  rw [if_neg]
  intro hh
  obtain ⟨x, hx, e⟩ := List.any_eq_true.mp hh
  exact h x hx e

/-- the entries taken in, one by one -/
theorem dctV_gen {K : Type} [DecidableEq K] (knd : KeyKind W.prog W.w K) (rel : V → K → Prop) (n : Nat) {h : Heap} {μ : Mu} {H : AH} {T : V → AH → Prop}
    (conv : ∀ k u, kindOf k = n → Rep W h μ k u → ∃ key, rel k key ∧ knd.is key u = true)
    (fd : ∀ l kvs k key, All2 (fun (p : V × V) kv => rel p.1 kv.1 ∧ Rep W h μ p.2 kv.2) l kvs → rel k key → FindR W h μ (dfind l k) (valueAt kvs key)) :
    ∀ (vl : List V) (prs : List (Value × Value)) (acc : List (V × V)) (kvs : List (K × Value)), RepP W h μ vl prs → All2 (fun (p : V × V) kv => rel p.1 kv.1 ∧ Rep W h μ p.2 kv.2) acc kvs → dctV n acc vl T H →
      ∃ kvs' l, Carries knd prs kvs' ∧ All2 (fun (p : V × V) kv => rel p.1 kv.1 ∧ Rep W h μ p.2 kv.2) l (merged kvs kvs') ∧ wAl (.dct l) T H
  | [], prs, acc, kvs, rp, hacc, hd => by cases (rp : _ = _); exact ⟨[], acc, trivial, hacc, (bQ.of hd).2⟩
  | [_], prs, acc, kvs, rp, hacc, hd => hd.elim
  | k :: x :: r, prs, acc, kvs, rp, hacc, hd => by
    obtain ⟨a, b, ps, rfl, ra, rb, rp⟩ := rp
    obtain ⟨g, hd⟩ := bQ.of hd
    obtain ⟨g2, g3⟩ := both (both g).2
    obtain ⟨key, hr, hi⟩ := conv k a (Nat.eq_of_beq_eq_true g2) ra
    have hfr := stored_fresh (kvs := kvs) (k := key) (v := b) (by rw [(fd _ _ _ _ hacc hr).isSome] at g3; simpa using g3)
    obtain ⟨kvs', l, c, al, e⟩ := dctV_gen knd rel n conv fd r ps (acc ++ [(k, x)]) (kvs ++ [(key, b)]) rp (All2.snoc ⟨hr, rb⟩ hacc) hd
    refine ⟨(key, b) :: kvs', l, ⟨hi, rfl, c⟩, ?_, e⟩
    rw [show merged kvs ((key, b) :: kvs') = merged (kvs ++ [(key, b)]) kvs' by
      show List.foldl _ _ _ = _
      rw [List.foldl_cons, hfr]; rfl]
    exact al

structure SndP (W : Wd) (j : Nat) (env : Env) (ρ : Loc) (m : M (List V)) (ks : List (Option Expr)) (vs : List Expr) : Prop where
  e : ∀ ⦃A : Around⦄ ⦃E : Value → Shared → Prop⦄ ⦃s : Shared⦄ ⦃μ : Mu⦄ ⦃H : AH⦄ ⦃K : List V → AH → Prop⦄ ⦃pos : Pos⦄ ⦃Q : List (Value × Value) → Shared → Prop⦄, At W j env ρ A s μ H → m K H →
    (∀ ⦃vl H' s' μ' prs⦄, K vl H' → Aft W X0 s μ s' μ' H' → RepP W s'.heap μ' vl prs → Q prs s') → wpAny (model W.prog W.w) A (evalPairs (pairTrees ks vs env pos)) Q E s
  some : ks.all (·.isSome) = true
  len : ks.length = vs.length
  nil : ks = [] → ∀ ⦃K H⦄, m K H → K [] H
theorem snp_nil : SndP W j env ρ (fun K H => K [] H) [] [] := ⟨fun _ _ _ _ _ _ _ _ c h hQ => pairTrees_nil_walk (hQ h (.refl c.R) rfl), rfl, rfl, fun _ _ _ h => h⟩
theorem snp_cons {mk mv : M V} {ms : M (List V)} {p q : Expr} {ps : List (Option Expr)} {qs : List Expr} (h1 : SndE W j env ρ mk p) (h2 : SndE W j env ρ mv q) (h3 : SndP W j env ρ ms ps qs) :
    SndP W j env ρ (fun K H => mk (fun a H => mv (fun b H => ms (fun vs H => K (a :: b :: vs) H) H) H) H) (some p :: ps) (q :: qs) :=
  ⟨fun _ _ _ _ _ _ _ _ c h hQ => pairTrees_cons_walk (h1 c h fun _ _ _ _ _ h a1 r1 => h2 (c.step a1) h fun _ _ _ _ _ h a2 r2 => h3.e (c.step (a1.trans a2)) h fun _ _ _ _ _ h a3 rp =>
      hQ h (a1.trans (a2.trans a3)) ⟨_, _, _, rfl, (a2.trans a3).rep a1.sr r1, a3.rep a2.sr r2, rp⟩), by rw [List.all_cons, h3.some]; rfl, congrArg Nat.succ h3.len, fun h => nomatch h⟩

theorem snd_dct_of {K : Type} [DecidableEq K] (knd : KeyKind W.prog W.w K) (rel : V → K → Prop) (n : Nat) {ms : M (List V)} {ks : List (Option Expr)} {vs : List Expr} {pos : Pos}
    (conv : ∀ h μ k u, kindOf k = n → Rep W h μ k u → ∃ key, rel k key ∧ knd.is key u = true)
    (fd : ∀ h μ l kvs k key, All2 (fun (p : V × V) kv => rel p.1 kv.1 ∧ Rep W h μ p.2 kv.2) l kvs → rel k key → FindR W h μ (dfind l k) (valueAt kvs key))
    (mk : ∀ h μ a l kvs, h.DictOf knd a kvs → All2 (fun (p : V × V) kv => rel p.1 kv.1 ∧ Rep W h μ p.2 kv.2) l kvs → RepD W h μ a l)
    (h15 : Nat.ble ks.length 15 = true) (hp : SndP W j env ρ ms ks vs) : SndE W j env ρ (fun K H => ms (fun l H => wp (dctV n [] l) K H) H) (.Dict ks vs pos) := fun A E s μ H T Q c h hQ => by
  have hd0 : s.heap.get? s.heap.objs.size = Option.none := get?_size _
  by_cases hks : ks = []
  · subst hks
    cases List.length_eq_zero_iff.mp hp.len.symm
    exact wpAny_Dict_empty (hQ (bQ.of (b := lineOk ([] : List (V × V)).length) (P := wAl (.dct []) T H) (hp.nil rfl h)).2 (.new (p := (s.heap.objs.size, s.heap.objs.size)) (c := .dct []) (t := s.toks) c.R (get?_grow_push _) hd0 hd0 fun m => ⟨rfl, .dI [] (Heap.DictOf.new _) .nil⟩) (.at_end c.R.len))
  · have a0 : Aft W X0 s μ { s with heap := s.heap.push { cls := .type "dict", data := .dict #[] } } μ H := Aft.push c.R _
    obtain ⟨o, es, ep, ho, hr⟩ := Heap.DictOf.new (knd := knd) s.heap
    have hnd : ∀ p ∈ μ, s.heap.objs.size ≠ p.1 ∧ s.heap.objs.size ≠ p.2 := fun p hp => (c.R.typed W p hp).dead hd0
    refine wpAny_Dict_walk (knd := knd) hp.some hp.len hks (Nat.le_of_ble_eq_true h15) (hp.e (c.step a0) h fun vl H' s' μ' prs h a rp => ?_)
    obtain ⟨kvs', l, cr, al, h⟩ := dctV_gen knd rel n (conv s'.heap μ') (fd s'.heap μ') vl prs [] [] rp .nil h
    have ho' := a.st.kept _ o (fun z => z) hnd ho
    refine ⟨kvs', cr, ⟨o, es, ep, ho', hr⟩, fun h' dh' hs' => ?_⟩
    obtain ⟨R', S'⟩ := SR.adopt (c := .dct l) a.sr hs' (dictLive dh') (a.st.old ho hnd) (c.R.off hd0) (a0.st.trans a.st) hd0 (fun o' ho'' f => by
      cases Option.some.inj (ho'.symm.trans ho''); exact f.own (.inr (.inl hr.1.1))) fun m => ⟨rfl, mk _ _ _ _ _ dh' (al.mono fun p q z => ⟨z.1, Rep.mv m _ z.2⟩)⟩
    exact hQ h ⟨S', R', a.gens, a.os⟩ (.at_end a.sr.len)
theorem snd_dct {n : Nat} (hn : n = 1 ∨ n = 2) {ms : M (List V)} {ks : List (Option Expr)} {vs : List Expr} {pos : Pos} (h15 : Nat.ble ks.length 15 = true) (hp : SndP W j env ρ ms ks vs) :
    SndE W j env ρ (fun K H => ms (fun l H => wp (dctV n [] l) K H) H) (.Dict ks vs pos) := by
  rcases hn with rfl | rfl
  · exact snd_dct_of (intKind W.prog W.w) (fun k i => k = .int i) 1 (fun h μ k u hk r => by
        obtain ⟨i, rfl⟩ := kindOf_int hk
        obtain ⟨t, rfl⟩ := r
        exact ⟨i, rfl, isInt_at i t⟩)
      (fun h μ l kvs k key x e => by subst e; exact dfind_int x) (fun h μ a l kvs d x => .dI kvs d x) h15 hp
  · exact snd_dct_of (strKind W.prog W.w) (fun k x => ∃ j, k = .str j ∧ nm j = x ∧ j < NN) 2 (fun h μ k u hk r => by
        obtain ⟨i, rfl⟩ := kindOf_str hk
        obtain ⟨t, rfl, hN⟩ := r
        exact ⟨nm i, ⟨i, rfl, rfl, hN⟩, strKind_is W.prog W.w (nm i) t⟩)
      (fun h μ l kvs k key x e => by obtain ⟨j, rfl, rfl, hN⟩ := e; exact dfind_str hN x) (fun h μ a l kvs d x => .dS kvs d x) h15 hp
end
end Mine
end
section
set_option maxRecDepth 100000
namespace Mine
open PySem PySem.W PyProof.Rows
variable {W : Wd}
section
variable {j : Nat} {env : Env} {ρ : Loc} {A : Around} {E : Value → Shared → Prop} {s : Shared} {μ : Mu} {H : AH}

theorem plain_any (pos : Pos) : ∀ {ps : List Expr}, ps.all notStar = true → (backTo pos (starEach ps env)).any (·.1) = false
  | [], _ => rfl
  | p :: ps, h => by
    obtain ⟨h1, h2⟩ := both h
    rw [starEach_cons h1]
    exact plain_any pos h2
theorem plain_all (pos : Pos) : ∀ {ps : List Expr}, ps.all notStar = true → (backTo pos (starEach ps env)).all (!·.1) = true
  | [], _ => rfl
  | p :: ps, h => by
    obtain ⟨h1, h2⟩ := both h
    rw [starEach_cons h1]
    exact plain_all pos h2
theorem evalArgs_of {M : Model} {f : Value} {ps : List Expr} {pos : Pos} {Q : Args → Shared → Prop} (hs : ps.all notStar = true)
    (h : wpAny M A (spliced (backTo pos (starEach ps env))) (fun vs s' => Q ⟨vs, []⟩ s') E s) : wpAny M A (evalArgs f true (backTo pos (starEach ps env)) []) Q E s := by
  cases ps with
  | nil =>
    unfold evalArgs
    show wpAny M A (spliced [] >>= _) Q E s
    refine wpAny_bind (wpAny_mono h (fun vs s' h' => ?_) fun _ _ x => x)
    exact wpAny_holding (wpAny_bind (wpAny_pure (wpAny_bind (wpAny_pure (wpAny_pure h')))))
  | cons p ps =>
    rw [starEach_cons (both hs).1] at h ⊢
    exact Calls.evalArgs_plain h

/-- a name of the text's read -/
theorem name_top (O : WAll W) {id : Str} {x : Nat} {pos : Pos} {v : Value} {Q : Value → Shared → Prop} (c : At W j env ρ A s μ H) (hn : isN x id = true) (hg : isGlb env.scope id = true) (hm : W.mg (nm x) = some v) (h : Q v s) :
    wpAny (model W.prog W.w) A (eval (.Name id pos) env) Q E s := by
  obtain ⟨_, rfl, h3, h4⟩ := isN_at hn
  exact Calls.Name_function_global c.F.kind (isGlb_at hg) (Calls.loadGlobal_global (c.F.glb O c.R) hm h) h3

/-- a call of one of the text's functions -/
theorem snd_call (O : WAll W) {C : Nat → List V → M V} (hC : CallOk W j C) {ms : M (List V)} {ps : List Expr} {f : Nat} {id : Str} {np pos : Pos} (hn : isN f id = true) (hg : isGlb env.scope id = true) (ht : topFn f = true)
    (hs : ps.all notStar = true) (h : SndL W j env ρ ms ps) : SndE W j env ρ (fun K H => ms (fun vs H => wp (C f vs) K H) H) (.Call (.Name id np) ps [] pos) := fun A E s μ H K Q c h0 hQ => by
  obtain ⟨a, ha, hm⟩ := O.top f ht
  obtain ⟨fdl, o, fd, body, as, _, ho, hd, _⟩ := (O.fns f a ha).ex
  exact wpAny_Call_NameR (name_top O c hn hg hm (Calls.callWith_function (o := o) (fd := fd) (evalArgs_of hs (h c h0 fun _ _ _ _ _ h a1 r1 _ => ⟨⟨a1.sr.kept _ _ ho, hd⟩,
    wpAny_call (hC h ha (c.hA.toAOK.less (Nat.le_succ j)) a1.sr r1 (hQ.after a1))⟩))))

theorem type_frame (args : Args) : (Code.builtin "type.__call__" args).isFrame = false := by rfl
theorem type_weight (C : Addr) (us : List Value) : (Code.builtin "type.__call__" ⟨.ref C :: us, []⟩).weight = 1 := by
  simp [Code.weight, Code.frames, Code.isCreation, Code.isGuard, Code.isCaller, guardIds, type_frame]
theorem under_type {A : Around} {j : Nat} {C : Addr} {us : List Value} (h : AOK A (j + 1)) : AOK (A.under (.builtin "type.__call__" ⟨.ref C :: us, []⟩)) j := by
  have e : (Code.builtin "type.__call__" ⟨.ref C :: us, []⟩).envs = [] := by simp [Code.envs, type_frame]
  have u : (Code.builtin "type.__call__" ⟨.ref C :: us, []⟩).cUnits = 1 := by simp [Code.cUnits, Code.frames, type_frame]
  refine ⟨h.handled, ?_, ?_, ?_⟩
  · show A.depth + Code.weight _ + j + 100 < _
    rw [type_weight]; have := h.depth; omega
  · show A.units + Code.cUnits _ + 8 * j + 200 < _
    rw [u]; have := h.units; omega
  · obtain ⟨l, hl⟩ := h.frames
    refine ⟨l, ?_⟩
    simp only [Around.under, e]
    exact hl

/-- an object made -/
theorem snd_new (O : WAll W) {C : Nat → List V → M V} (hC : CallOk W j C) {ms : M (List V)} {ps : List Expr} {c : Nat} {id : Str} {np pos : Pos} (hn : isN c id = true) (hg : isGlb env.scope id = true) (hi : (look GL.init c).isSome = true)
    (hs : ps.all notStar = true) (h : SndL W j env ρ ms ps) : SndE W j env ρ (fun K H => ms (fun vs H => wAl (.inst c []) (fun o H => oQ (look GL.init c) (fun f H => wp (C f (o :: vs)) (fun r H => onNone r (K o H)) H) H) H) H) (.Call (.Name id np) ps [] pos) := fun A E s μ H K Q c0 h0 hQ => by
  obtain ⟨f, hi⟩ := Option.isSome_iff_exists.mp hi
  rw [hi] at h0
  obtain ⟨C', a, hc, ha, hm, K'⟩ := O.init c f hi
  refine wpAny_Call_NameR (name_top O c0 hn hg hm (callWith_of (P := W.K.In) (by rw [plain_any pos hs]; rfl) (keeps_K K'.keep) (evalArgs_of hs (h c0 h0 fun vs H1 s1 μ1 us h a1 r1 _ => ⟨O.Kin.keeps a1.sr.kept, ?_⟩))))
  have X := O.Kin.keeps a1.sr.kept
  obtain ⟨hh, g, d, t, os⟩ := s1
  refine wpAny_call (make_core (makes_of X K'.makes) (looks_findIn X K'.init) (fun self => bind_fn X self K'.fn) (.inl rfl) ?_)
  have hz : (hh.push emptyDict).objs.size = hh.objs.size + 1 := Heap.size_push ..
  have a2 : Aft W X0 ⟨hh, g, d, t, os⟩ μ1 ⟨(hh.push emptyDict).push (instObj C' hh.objs.size), g, d, t, os⟩ (μ1 ++ [(hh.objs.size + 1, hh.objs.size)]) (H1 ++ [.inst c []]) :=
    .new a1.sr (fun b o e => Heap.get?_push_of_some _ (Heap.get?_push_of_some _ e)) (dead_size (Nat.le_succ _)) (get?_size _) fun m => ⟨C', [], 0, hc, by rw [← hz]; exact Heap.get?_push_size _ rfl, Heap.get?_push_of_some _ (Heap.get?_push_size _ rfl), .nil⟩
  have ro : Rep W ((hh.push emptyDict).push (instObj C' hh.objs.size)) (μ1 ++ [(hh.objs.size + 1, hh.objs.size)]) (.ref H1.length) (.ref (hh.objs.size + 1)) := .at_end a1.sr.len
  exact hC h ha (under_type (c0.hA.toAOK.less (Nat.le_refl _))) a2.sr (.cons ro (a2.repL a1.sr r1)) fun v H' s' μ' u h a3 r3 => by
    obtain ⟨e, h⟩ := onNone.rep h r3
    exact ⟨e, hQ h (a1.trans (a2.trans a3)) (a3.rep a2.sr ro)⟩

/-! builtins -/
theorem one_star {p : Expr} (hs : notStar p = true) : ([p] : List Expr).all notStar = true := by rw [List.all_cons, hs]; rfl
theorem duo_star {p q : Expr} (hs : notStar p = true) (hs' : notStar q = true) : ([p, q] : List Expr).all notStar = true := by rw [List.all_cons, hs, List.all_cons, hs']; rfl
/-- one argument evaluated -/
theorem args_one {m : M V} {f : Value} {p : Expr} {pos : Pos} {K : V → AH → Prop} {Q : Args → Shared → Prop} (hs : notStar p = true) (h : SndE W j env ρ m p) (c : At W j env ρ A s μ H) (hm : m K H)
    (hQ : Post W s μ K fun u s' => Q ⟨[u], []⟩ s') : wpAny (model W.prog W.w) A (evalArgs f true (backTo pos (starEach [p] env)) []) Q E s :=
  evalArgs_of (one_star hs) (args_cons (h c hm fun _ _ _ _ _ h a r => args_nil (hQ h a r)) (starEach_cons hs _))
theorem args_two {m m' : M V} {f : Value} {p q : Expr} {pos : Pos} {K : V → V → AH → Prop} {Q : Args → Shared → Prop} (hs : notStar p = true) (hs' : notStar q = true) (h : SndE W j env ρ m p) (h' : SndE W j env ρ m' q) (c : At W j env ρ A s μ H) (hm : m (fun a H => m' (K a) H) H)
    (hQ : ∀ ⦃va vb H' s' μ' ua ub⦄, K va vb H' → Aft W X0 s μ s' μ' H' → Rep W s'.heap μ' va ua → Rep W s'.heap μ' vb ub → Q ⟨[ua, ub], []⟩ s') : wpAny (model W.prog W.w) A (evalArgs f true (backTo pos (starEach [p, q] env)) []) Q E s :=
  evalArgs_of (duo_star hs hs') (args_cons (h c hm fun _ _ _ _ _ h a1 r1 => args_cons (h' (c.step a1) h fun _ _ _ _ _ h a2 r2 => args_nil (hQ h (a1.trans a2) (a2.rep a1.sr r1) r2)) (starEach_cons hs' _)) (starEach_cons hs _))
theorem snd_one (O : WAll W) {n : String} (hb : (n, .builtin n) ∈ biL) {id : Str} {np pos : Pos} {p : Expr} (hi : isBi n env.scope id = true) (hd : (Str.ofString n == ("__debug__" : Str)) = false) (hs : notStar p = true) {m : M V} {op : V → M V} (h : SndE W j env ρ m p)
    (hop : ∀ ⦃A E s μ H K v u Q⦄, op v K H → SR W μ H s.heap → Rep W s.heap μ v u → Post W s μ K Q → wpAny (model W.prog W.w) A (call (.builtin n) [u]) Q E s) :
    SndE W j env ρ (fun K H => m (fun v H => op v K H) H) (.Call (.Name id np) [p] [] pos) := fun _ _ _ _ _ _ _ c h0 hQ =>
  wpAny_Call_NameR (name_bi O hb hi c hd (Calls.callWith_builtin (plain_any pos (one_star hs)) (args_one hs h c h0 fun _ _ _ _ _ h a r => hop h a.sr r (hQ.after a))))
theorem snd_oneT (O : WAll W) {n : String} (hb : (n, .type n) ∈ biL) {id : Str} {np pos : Pos} {p : Expr} (hi : isBi n env.scope id = true) (hd : (Str.ofString n == ("__debug__" : Str)) = false) (hs : notStar p = true) {m : M V} {op : V → M V} (h : SndE W j env ρ m p)
    (hop : ∀ ⦃A E s μ H K v u Q⦄, op v K H → SR W μ H s.heap → Rep W s.heap μ v u → Post W s μ K Q → wpAny (model W.prog W.w) A (call (.type n) [u]) Q E s) :
    SndE W j env ρ (fun K H => m (fun v H => op v K H) H) (.Call (.Name id np) [p] [] pos) := fun _ _ _ _ _ _ _ c h0 hQ =>
  wpAny_Call_NameR (name_bi O hb hi c hd (PySem.callWith_type (plain_any pos (one_star hs)) (args_one hs h c h0 fun _ _ _ _ _ h a r => hop h a.sr r (hQ.after a))))
theorem snd_two (O : WAll W) {n : String} (hb : (n, .builtin n) ∈ biL) {id : Str} {np pos : Pos} {p q : Expr} (hi : isBi n env.scope id = true) (hd : (Str.ofString n == ("__debug__" : Str)) = false) (hs : notStar p = true) (hs' : notStar q = true)
    {m m' : M V} {op : V → V → M V} (h : SndE W j env ρ m p) (h' : SndE W j env ρ m' q)
    (hop : ∀ ⦃A E s μ H K a b u w Q⦄, op a b K H → AIn A (j + 1) → SR W μ H s.heap → Rep W s.heap μ a u → Rep W s.heap μ b w → Post W s μ K Q → wpAny (model W.prog W.w) A (call (.builtin n) [u, w]) Q E s) :
    SndE W j env ρ (fun K H => m (fun a H => m' (fun b H => op a b K H) H) H) (.Call (.Name id np) [p, q] [] pos) := fun _ _ _ _ _ _ _ c h0 hQ =>
  wpAny_Call_NameR (name_bi O hb hi c hd (Calls.callWith_builtin (plain_any pos (duo_star hs hs')) (args_two hs hs' h h' c h0 fun _ _ _ _ _ _ _ h a ra rb => hop h c.hA a.sr ra rb (hQ.after a))))
theorem snd_isbool (O : WAll W) {id id2 : Str} {np np2 pos : Pos} {p : Expr} {m : M V} (hi : isBi "isinstance" env.scope id = true) (hi2 : isBi "bool" env.scope id2 = true) (hs : notStar p = true) (h : SndE W j env ρ m p) :
    SndE W j env ρ (fun K H => m (fun v H => isB v fun b => K (.bool b) H) H) (.Call (.Name id np) [p, .Name id2 np2] [] pos) := fun A E s μ H K Q c h0 hQ => by
  have hp : ([p, .Name id2 np2] : List Expr).all notStar = true := duo_star hs rfl
  refine wpAny_Call_NameR (name_bi O (n := "isinstance") (bv := .builtin "isinstance") (by simp [biL]) hi c (by decide +kernel) ?_)
  refine Calls.callWith_builtin (plain_any pos hp) (evalArgs_of hp (args_cons (h c h0 fun _ _ _ _ _ h a r => args_cons ?_ rfl) (starEach_cons hs _)))
  exact name_bi O (n := "bool") (bv := .type "bool") (by simp [biL]) hi2 (c.step a) (by decide +kernel) (args_nil (isbool_sound h a.sr r (hQ.after a)))
theorem snd_len (O : WAll W) {id : Str} {np pos : Pos} {p : Expr} {m : M V} (hi : isBi "len" env.scope id = true) (hs : notStar p = true) (h : SndE W j env ρ m p) : SndE W j env ρ (fun K H => m (fun v H => wp (lenV v) K H) H) (.Call (.Name id np) [p] [] pos) :=
  snd_one O (n := "len") (op := fun v => wp (lenV v)) (by simp [biL]) hi (by decide +kernel) hs h fun _ _ _ _ _ _ _ _ _ h R r hQ => len_sound h R r hQ
theorem snd_tuple (O : WAll W) {id : Str} {np pos : Pos} {p : Expr} {m : M V} (hi : isBi "tuple" env.scope id = true) (hs : notStar p = true) (h : SndE W j env ρ m p) : SndE W j env ρ (fun K H => m (fun v H => wp (tupleV v) K H) H) (.Call (.Name id np) [p] [] pos) :=
  snd_oneT O (n := "tuple") (op := fun v => wp (tupleV v)) (by simp [biL]) hi (by decide +kernel) hs h fun _ _ _ _ _ _ _ _ _ h R r hQ => tuple_sound h R r hQ
theorem snd_range (O : WAll W) {id : Str} {np pos : Pos} {p : Expr} {m : M V} (hi : isBi "range" env.scope id = true) (hs : notStar p = true) (h : SndE W j env ρ m p) :
    SndE W j env ρ (fun K H => m (fun v H => onInt v fun n => bQ (decide (0 ≤ n) && decide (n ≤ 1000000)) (K (.rng n.toNat) H)) H) (.Call (.Name id np) [p] [] pos) :=
  snd_oneT O (n := "range") (op := fun v K H => onInt v fun n => bQ (decide (0 ≤ n) && decide (n ≤ 1000000)) (K (.rng n.toNat) H)) (by simp [biL]) hi (by decide +kernel) hs h fun _ _ _ _ _ _ _ _ _ h R r hQ => range_sound h R r hQ
theorem snd_max (O : WAll W) {id : Str} {np pos : Pos} {p q : Expr} {m m' : M V} (hi : isBi "max" env.scope id = true) (hs : notStar p = true) (hs' : notStar q = true) (h : SndE W j env ρ m p) (h' : SndE W j env ρ m' q) :
    SndE W j env ρ (fun K H => m (fun va H => m' (fun vb H => onInt va fun x => onInt vb fun y => K (.int (if x < y then y else x)) H) H) H) (.Call (.Name id np) [p, q] [] pos) :=
  snd_two O (n := "max") (op := fun va vb K H => onInt va fun x => onInt vb fun y => K (.int (if x < y then y else x)) H) (by simp [biL]) hi (by decide +kernel) hs hs' h h' fun _ _ _ _ _ _ _ _ _ _ _ h hA R ra rb hQ => max_sound h hA R ra rb hQ
theorem snd_min (O : WAll W) {id : Str} {np pos : Pos} {p q : Expr} {m m' : M V} (hi : isBi "min" env.scope id = true) (hs : notStar p = true) (hs' : notStar q = true) (h : SndE W j env ρ m p) (h' : SndE W j env ρ m' q) :
    SndE W j env ρ (fun K H => m (fun va H => m' (fun vb H => onInt va fun x => onInt vb fun y => K (.int (if y < x then y else x)) H) H) H) (.Call (.Name id np) [p, q] [] pos) :=
  snd_two O (n := "min") (op := fun va vb K H => onInt va fun x => onInt vb fun y => K (.int (if y < x then y else x)) H) (by simp [biL]) hi (by decide +kernel) hs hs' h h' fun _ _ _ _ _ _ _ _ _ _ _ h hA R ra rb hQ => min_sound h hA R ra rb hQ

/-! methods -/
theorem meth_gen {M : Model} {po : Expr} {at_ : Str} {ap pos : Pos} {args : List Expr} {Q : Value → Shared → Prop} (hc : notCall po = true) (he : Nat.beq ap.endLine pos.line = true) (hs : args.all notStar = true) (hz : args.length < 30)
    (h : wpAny M A (eval po env) (fun ov s₁ => wpAny M A (getMethod ov at_ (do return (← importBound po env).getD true)) (fun fx s₂ => wpAny M A (callWith pos fx.1 fx.2 (backTo pos (starEach args env)) []) Q E s₂) E s₁) E s) :
    wpAny M A (eval (.Call (.Attribute po at_ ap) args [] pos) env) Q E s := by
  refine MethodCall_ h ?_
  have e : eval (.Call (.Attribute po at_ ap) args [] pos) env = (do
      let ov ← attributeBase po at_ env (eval po env)
      standAt ap.atName
      methodCall po at_ ap pos env ov (args.length + 0) (backTo pos (starEach args env)) (backToKw pos [])) := rfl
  rw [e, attributeBase_of hc]
  have hf : methodCallForm (args.length + 0) (backTo pos (starEach args env)) (backToKw pos []) = true := by
    unfold methodCallForm
    rw [plain_all pos hs]
    simp [backToKw, hz]
  have hp : (ap.endLine == pos.line) = true := by simpa using Nat.eq_of_beq_eq_true he
  unfold methodCall calleeOf methodCallPos
  simp only [hf, hp, if_true, Bool.not_true, Bool.false_or]
  rfl

theorem snd_append {mo me : M V} {po p : Expr} {at_ : Str} {ap pos : Pos} (he : Nat.beq ap.endLine pos.line = true) (hc : notCall po = true) (hn : seq at_ (Str.ofString "append") = true) (ho : SndE W j env ρ mo po) (hs : notStar p = true) (h : SndE W j env ρ me p) :
    SndE W j env ρ (fun K H => mo (fun vo H => wp (isLstV vo) (fun _ H => me (fun v H => wp (appendV vo v) K H) H) H) H) (.Call (.Attribute po at_ ap) [p] [] pos) := fun A E s μ H K Q c h0 hQ => by
  obtain rfl := seq_eq.mp hn
  refine meth_gen hc he (one_star hs) (by show 1 < 30; decide) (ho c h0 fun vo H1 s1 μ1 uo z a1 r1 => ?_)
  have r1' := r1
  refine onLst.rep (C := fun u => Rep W s1.heap μ1 vo u → wpAny _ A (getMethod u _ _) _ E s1) (f := fun _ _ => me (fun v H => wp (appendV vo v) K H) H1) z r1 a1.sr (fun i l p us n x z r1 => ?_) r1
  exact getMethod_builtin (T := "list") ⟨_, x.g, rfl⟩ PySem.F.plainAttrs_list slot_list_append (by rfl) (fun a e => by cases e; exact ⟨_, x.g, rfl⟩)
    (Calls.callWith_builtin (plain_any pos (one_star hs)) (args_one hs h (c.step a1) z fun _ _ _ _ _ h a2 r2 => append_sound h a2.sr (a2.rep a1.sr r1) r2 (hQ.after (a1.trans a2))))
theorem snd_pop {mo : M V} {po : Expr} {at_ : Str} {ap pos : Pos} (he : Nat.beq ap.endLine pos.line = true) (hc : notCall po = true) (hn : seq at_ (Str.ofString "pop") = true) (ho : SndE W j env ρ mo po) :
    SndE W j env ρ (fun K H => mo (fun vo H => wp (popV vo) K H) H) (.Call (.Attribute po at_ ap) [] [] pos) := fun A E s μ H K Q c h0 hQ => by
  obtain rfl := seq_eq.mp hn
  refine meth_gen hc he rfl (by decide) (ho c h0 fun vo H1 s1 μ1 uo z a1 r1 => ?_)
  refine onLst.rep (C := fun u => Rep W s1.heap μ1 vo u → wpAny _ A (getMethod u _ _) _ E s1) z r1 a1.sr (fun i l p us n x _ r1 => ?_) r1
  exact getMethod_builtin (T := "list") ⟨_, x.g, rfl⟩ PySem.F.plainAttrs_list PySem.F.slot_list_pop PySem.F.type_list_pop (fun a e => by cases e; exact ⟨_, x.g, rfl⟩)
    (Calls.callWith_builtin (plain_any (ps := []) pos rfl) (evalArgs_of rfl (args_nil (pop_sound z a1.sr r1 (hQ.after a1)))))

/-- the method of a dict -/
theorem dict_meth {vo : V} {uo : Value} {K : Unit → AH → Prop} {Q : Value × List Value → Shared → Prop} {pl : Sem Bool} (h : wp (isDctV vo) K H) (R : SR W μ H s.heap) (r : Rep W s.heap μ vo uo) (hQ : K () H → Q (.builtin "dict.get", [uo]) s) :
    wpAny (model W.prog W.w) A (getMethod uo (Str.ofString "get") pl) Q E s := by
  refine onDct.rep (C := fun u => (K () H → Q (.builtin "dict.get", [u]) s) → wpAny _ A (getMethod u _ _) Q E s) (f := fun _ _ => K () H) h r R (fun i l p x z hQ => ?_) hQ
  obtain ⟨o, ho, hc, hd⟩ := DictOf.own W x.d
  exact getMethod_builtin (T := "dict") ⟨o, ho, hc⟩ PySem.F.plainAttrs_dict PySem.F.slot_dict_get PySem.F.type_dict_get (fun a e => by cases e; exact ⟨o, ho, hd⟩) (hQ z)
theorem snd_get (O : WAll W) {mo mk : M V} {po p : Expr} {at_ : Str} {ap pos : Pos} (he : Nat.beq ap.endLine pos.line = true) (hc : notCall po = true) (hn : seq at_ (Str.ofString "get") = true) (ho : SndE W j env ρ mo po) (hs : notStar p = true) (h : SndE W j env ρ mk p) :
    SndE W j env ρ (fun K H => mo (fun vo H => wp (isDctV vo) (fun _ H => mk (fun vk H => wp (getV vo vk .none) K H) H) H) H) (.Call (.Attribute po at_ ap) [p] [] pos) := fun A E s μ H K Q c h0 hQ => by
  obtain rfl := seq_eq.mp hn
  exact meth_gen hc he (one_star hs) (by show 1 < 30; decide) (ho c h0 fun vo H1 s1 μ1 uo z a1 r1 => dict_meth z a1.sr r1 fun z => Calls.callWith_builtin (plain_any pos (one_star hs)) (args_one hs h (c.step a1) z fun _ _ _ _ _ h a2 r2 =>
    get_sound h c.hA O.toWOk a2.sr (a2.rep a1.sr r1) r2 (hQ.after (a1.trans a2))))
theorem snd_get2 (O : WAll W) {mo mk md : M V} {po p q : Expr} {at_ : Str} {ap pos : Pos} (he : Nat.beq ap.endLine pos.line = true) (hc : notCall po = true) (hn : seq at_ (Str.ofString "get") = true) (ho : SndE W j env ρ mo po)
    (hs : notStar p = true) (h : SndE W j env ρ mk p) (hs' : notStar q = true) (h' : SndE W j env ρ md q) :
    SndE W j env ρ (fun K H => mo (fun vo H => wp (isDctV vo) (fun _ H => mk (fun vk H => md (fun vd H => wp (getV vo vk vd) K H) H) H) H) H) (.Call (.Attribute po at_ ap) [p, q] [] pos) := fun A E s μ H K Q c h0 hQ => by
  obtain rfl := seq_eq.mp hn
  exact meth_gen hc he (duo_star hs hs') (by show 2 < 30; decide) (ho c h0 fun vo H1 s1 μ1 uo z a1 r1 => dict_meth z a1.sr r1 fun z => Calls.callWith_builtin (plain_any pos (duo_star hs hs')) (args_two (K := fun vk vd H => wp (getV vo vk vd) K H) hs hs' h h' (c.step a1) z fun _ _ _ _ _ _ _ h a2 ra rb =>
    get2_sound h c.hA O.toWOk a2.sr (a2.rep a1.sr r1) ra rb (hQ.after (a1.trans a2))))

theorem snd_meth (O : WAll W) {C : Nat → List V → M V} (hC : CallOk W j C) {mo : M V} {ms : M (List V)} {po : Expr} {ps : List Expr} {m : Nat} {at_ : Str} {ap pos : Pos} (he : Nat.beq ap.endLine pos.line = true)
    (hc : notCall po = true) (hn : isN m at_ = true) (ho : SndE W j env ρ mo po) (hz : Nat.blt ps.length 30 = true) (hs : ps.all notStar = true) (h : SndL W j env ρ ms ps) :
    SndE W j env ρ (fun K H => mo (fun vo H => wp (clsV vo m) (fun c H => oQ (look GL.meth c) (fun mt H => oQ (look mt m) (fun f H => ms (fun vs H => wp (C f (vo :: vs)) K H) H) H) H) H) H) (.Call (.Attribute po at_ ap) ps [] pos) := fun A E s μ H K Q c h0 hQ => by
  obtain ⟨hm, rfl, _, _⟩ := isN_at hn
  refine meth_gen hc he hs (Nat.le_of_ble_eq_true hz) (ho c h0 fun vo H1 s1 μ1 uo z a1 r1 => ?_)
  refine onInst.rep (C := fun u => Rep W s1.heap μ1 vo u → wpAny _ A (getMethod u _ _) _ E s1) z r1 a1.sr (fun i c' fs p x z r1 => ?_) r1
  obtain ⟨hg, z⟩ := bQ.of z
  obtain ⟨mt, e4, z⟩ := oQ.of z
  obtain ⟨f, e5, z⟩ := oQ.of z
  obtain ⟨C', es, n, hcl, g1, g2, hfs⟩ := x.r
  obtain ⟨a, ha, K'⟩ := O.meth c' C' mt m f hcl e4 e5
  have hsh : shadowIn (some (dictOf es n)) (nm m) = some false := by
    obtain ⟨y, hy, f⟩ := getL_of hm hfs
    show (lookIn (nm m) (dictOf es n)).map (·.isSome) = some false
    rw [lookIn_dict, hy, Option.map_some, ← f.isSome, (Bool.not_eq_true' _).mp hg]
  obtain ⟨fdl, o, fd, body, as, _, ho', hd, _⟩ := (O.fns f a ha).ex
  exact method_fn (O.Kin.keeps a1.sr.kept) (instAt g1 g2) K'.ga K'.gt K'.at_ K'.fn hsh (Calls.callWith_function (o := o) (fd := fd) (evalArgs_of hs (h (c.step a1) z fun _ _ _ _ _ h a2 r2 _ => ⟨⟨a2.sr.kept _ _ ho', hd⟩,
    wpAny_call (hC h ha (c.hA.toAOK.less (Nat.le_succ j)) a2.sr (.cons (a2.rep a1.sr r1) r2) (hQ.after (a1.trans a2)))⟩)))
end
end Mine
end
section
set_option maxRecDepth 100000
set_option genSizeOf false
set_option genInjectivity false
namespace Mine
open PySem PySem.W PyProof.Rows
variable {W : Wd}

/-- the iterator object stands for the abstract one -/
noncomputable def IterR (W : Wd) (h : Heap) (μ : Mu) (I : Addr) : It → Prop
  | .tup l => ∃ t items i, h.IsTupleIter I t i ∧ h.IsTuple t items ∧ RepL W h μ l (items.toList.drop i)
  | .lst a i => ∃ p, μ[a]? = some p ∧ h.IsListIter I p.1 i
  | .rng i n => IsRangeIter h I (i : Int) ((n : Int) - (i : Int)) 1
/-- an object that is no one's -/
noncomputable def Loose (o : Obj) : Prop := ¬ Fixed o ∧ ¬ Own o.cls
theorem loose_of {o : Obj} {n : String} (h : o.cls = .type n) (h1 : n ≠ "tuple") (h2 : n ≠ "range") (h3 : n ≠ "list") (h4 : n ≠ "dict") : Loose o := by
  refine ⟨fun f => ?_, fun w => ?_⟩
  · rcases f.cls with f | f <;> rw [h] at f <;> cases f
    · exact h1 rfl
    · exact h2 rfl
  · rcases w with w | w | ⟨C, w⟩ <;> rw [h] at w <;> cases w
    · exact h3 rfl
    · exact h4 rfl
theorem IterR.loose {h : Heap} {μ : Mu} {I : Addr} {it : It} (r : IterR W h μ I it) : ∃ o, h.get? I = some o ∧ Loose o := by
  cases it with
  | tup l => obtain ⟨t, items, i, ⟨o, ho, hc, _⟩, _⟩ := r; exact ⟨o, ho, loose_of hc (by decide) (by decide) (by decide) (by decide)⟩
  | lst a i => obtain ⟨p, _, ⟨o, ho, hc, _⟩⟩ := r; exact ⟨o, ho, loose_of hc (by decide) (by decide) (by decide) (by decide)⟩
  | rng i n => exact ⟨_, r, loose_of rfl (by decide) (by decide) (by decide) (by decide)⟩
theorem IterR.notFixed {h : Heap} {μ : Mu} {I : Addr} {it : It} (r : IterR W h μ I it) (o : Obj) (ho : h.get? I = some o) : ¬ Fixed o := by
  obtain ⟨o', ho', l⟩ := r.loose; cases Option.some.inj (ho.symm.trans ho'); exact l.1
theorem IterR.notMu {h : Heap} {μ : Mu} {H : AH} {I : Addr} {it : It} (R : SR W μ H h) (r : IterR W h μ I it) (p) (hp : p ∈ μ) : I ≠ p.1 ∧ I ≠ p.2 := by
  obtain ⟨o, ho, l⟩ := r.loose
  obtain ⟨⟨o1, g1, c1⟩, ⟨o2, g2, c2⟩⟩ := R.typed W p hp
  exact ⟨fun e => l.2 (Option.some.inj ((e ▸ ho).symm.trans g1) ▸ c1), fun e => l.2 (Option.some.inj ((e ▸ ho).symm.trans g2) ▸ c2)⟩
theorem IterR.keep {h h' : Heap} {μ μ' : Mu} {I : Addr} {it : It} (m : Mv h μ h' μ') (hk : ∀ o, h.get? I = some o → h'.get? I = some o) (r : IterR W h μ I it) : IterR W h' μ' I it := by
  cases it with
  | tup l => obtain ⟨t, items, i, ⟨o, ho, r1⟩, ht, rl⟩ := r; exact ⟨t, items, i, ⟨o, hk o ho, r1⟩, m.tup ht, RepL.mv m _ rl⟩
  | lst a i => obtain ⟨p, hp, ⟨o, ho, r1⟩⟩ := r; exact ⟨p, m.mu a p hp, ⟨o, hk o ho, r1⟩⟩
  | rng i n => exact hk _ r

section
variable {A : Around} {E : Value → Shared → Prop} {s : Shared} {μ : Mu} {H : AH}

theorem range_small {n : Nat} (h : n ≤ 1000000) : Builtin.Range.small 0 n 1 = true ∧ Builtin.Range.rangeSize 0 n 1 = n := by
  have e : Builtin.Range.rangeSize 0 n 1 = n := by
    unfold Builtin.Range.rangeSize
    split
    · split
      · omega
      · omega
    · omega
  refine ⟨?_, e⟩
  unfold Builtin.Range.small
  rw [e]
  simp [Builtin.Range.rangeFitsLong]
  omega

theorem iter_sound {v : V} {u : Value} {K : It → AH → Prop} {Q : Value → Shared → Prop} (h : wIt v K H) (R : SR W μ H s.heap) (r : Rep W s.heap μ v u)
    (hQ : ∀ it o, K it H → IterR W (s.heap.push o) μ s.heap.objs.size it → Q (.ref s.heap.objs.size) { s with heap := s.heap.push o }) : wpAny (model W.prog W.w) A (pyIter u) Q E s := by
  cases v with
  | tup l => exact r.tup fun a items ht hl => wpAny_pyIter_tuple ht (hQ _ _ h ⟨a, items, 0, ⟨_, Heap.get?_push_size _ rfl, rfl, rfl⟩, ht.push _, RepL.mv ((Aft.push (t := s.toks) R _).mv R) _ hl⟩)
  | rng n =>
    obtain ⟨a, t, u', x, rfl, hr, hn⟩ := r
    obtain ⟨e1, e2⟩ := range_small hn
    refine wpAny_pyIter_range hr e1 (hQ _ _ h ?_)
    show Heap.get? _ _ = _
    rw [Heap.get?_push_size _ rfl, e2]
    simp [rawInt]
  | ref a =>
    obtain ⟨l, hi, h⟩ := atL.of h
    exact r.lst R hi fun p us n x => wpAny_pyIter_list x.is (hQ _ _ h ⟨p, x.hp, ⟨_, Heap.get?_push_size _ rfl, rfl, rfl⟩⟩)
  | _ => exact h.elim

theorem next_sound {it : It} {I : Addr} {d : Prop} {k : V → It → Prop} {Q : Option Value → Shared → Prop} (hh : A.handled = Option.none) (h : nextK it H d k) (R : SR W μ H s.heap) (hI : IterR W s.heap μ I it)
    (hend : d → ∀ h', Heap.ExtBut I s.heap h' → Q none { s with heap := h' })
    (hmore : ∀ v it' h' t u, k v it' → Heap.SameBut I s.heap h' → IterR W h' μ I it' → Rep W s.heap μ v u → Q (some u) { s with heap := h', toks := t }) : wpAny (model W.prog W.w) A (pyNext (.ref I)) Q E s := by
  cases it with
  | tup l =>
    obtain ⟨t, items, i, hit, ht, rl⟩ := hI
    cases l with
    | nil => exact wpAny_pyNext_tuple_end hh hit ht (by have : items.toList.length ≤ i := List.drop_eq_nil_iff.mp rl; rwa [Array.getElem?_eq_none_iff, ← Array.length_toList]) fun h' hx => hend h h' hx
    | cons v l =>
      have nf := IterR.notFixed (W := W) (μ := μ) (it := .tup (v :: l)) ⟨t, items, i, hit, ht, rl⟩
      obtain ⟨u, us, e, ru, rl⟩ := rl
      have hx : items[i]? = some u := by
        have := congrArg List.head? e
        rwa [List.head?_drop, Array.getElem?_toList] at this
      have hne : t ≠ I := fun e => by
        obtain ⟨o, ho, hc, n, hd'⟩ := ht
        exact nf o (e ▸ ho) (.inl ⟨hc, _, _, hd'⟩)
      refine wpAny_pyNext_tuple_item hit ht hx fun h' hit' hs' => hmore v _ h' _ u h hs' ⟨t, items, i + 1, hit', ht.extBut hs'.extBut hne, ?_⟩ ru
      rw [← List.drop_drop, e]
      exact RepL.mv ⟨fun b o ho f => hs'.extBut b o (fun e => nf o (e ▸ ho) f) ho, fun _ _ e => e⟩ _ rl
  | lst a i =>
    obtain ⟨p, hp, hit⟩ := hI
    obtain ⟨l, hl, h⟩ := atL.of h
    obtain ⟨e, items, n, hg, rl⟩ := R.cells a _ p hl hp
    have il : s.heap.IsList p.1 items := ⟨_, hg, rfl, _, rfl⟩
    cases hv : l[i]? with
    | some v =>
      rw [hv] at h
      obtain ⟨u, hu, ru⟩ := rl.get hv
      exact wpAny_pyNext_list_item hit il (by rw [← Array.getElem?_toList]; exact hu) fun h' hit' hs' => hmore v _ h' _ u h hs' ⟨p, hp, hit'⟩ ru
    | none =>
      rw [hv] at h
      exact wpAny_pyNext_list_end hh hit il (by rw [Array.getElem?_eq_none_iff, rl.size]; exact List.getElem?_eq_none_iff.mp hv) fun h' hx => hend h h' hx
  | rng i n =>
    change ifK (Nat.blt i n) (k (.int i) (.rng (i + 1) n)) d at h
    cases hb : Nat.blt i n with
    | true =>
      rw [hb] at h
      have hb' : i < n := Nat.le_of_ble_eq_true hb
      refine wpAny_pyNext_range_item hI (by omega) fun h' hit' hs' => hmore _ _ h' _ _ h hs' ?_ .of_int
      show Heap.get? _ _ = _
      rw [show (((i + 1 : Nat) : Int)) = (i : Int) + 1 by omega, show (n : Int) - ((i : Int) + 1) = (n : Int) - i - 1 by omega]
      exact hit'
    | false =>
      rw [hb] at h
      have hb' : ¬ i < n := fun hlt => by rw [show Nat.blt i n = true from Nat.ble_eq_true_of_le hlt] at hb; cases hb
      exact wpAny_pyNext_range_end hh hI (by omega) fun h' hx => hend h h' hx
theorem iter_self {it : It} {I : Addr} {Q : Value → Shared → Prop} (r : IterR W s.heap μ I it) (h : Q (.ref I) s) : wpAny (model W.prog W.w) A (pyIter (.ref I)) Q E s := by
  cases it with
  | tup l => obtain ⟨t, items, i, hit, _⟩ := r; exact wpAny_pyIter_tupleiter hit h
  | lst a i => obtain ⟨p, _, hit⟩ := r; exact wpAny_pyIter_listiter hit h
  | rng i n => exact wpAny_pyIter_rangeiter r h
end

/-! the loop of a comprehension -/
/-- what a turn hands on -/
noncomputable def TurnOk (W : Wd) (j : Nat) (env : Env) (ρ : Loc) (m : M (Option V)) (ifs : List Expr) (pelt : Expr) : Prop :=
  ∀ ⦃A : Around⦄ ⦃E : Value → Shared → Prop⦄ ⦃s : Shared⦄ ⦃μ : Mu⦄ ⦃H : AH⦄ ⦃T : Option V → AH → Prop⦄ ⦃Qs : Value → Shared → Prop⦄ ⦃Qn : Shared → Prop⦄, At W j env ρ A s μ H → m T H →
    Post W s μ (fun v H => T (some v) H) Qs → (∀ ⦃H' s' μ'⦄, T none H' → Aft W X0 s μ s' μ' H' → Qn s') →
    wpAny (model W.prog W.w) A (forIn ifs true fun c r => if r = true then do let ok ← isTrue c env (eval c env); pure (ForInStep.yield ok) else pure (ForInStep.yield r))
      (fun ok s₃ => if ok = true then wpAny (model W.prog W.w) A (eval pelt env) Qs E s₃ else Qn s₃) E s
section
variable {j : Nat} {env cenv : Env} {ρ : Loc} {A : Around} {E : Value → Shared → Prop}
theorem turn_plain {m : M V} {pelt : Expr} (h : SndE W j env ρ m pelt) : TurnOk W j env ρ (fun T H => m (fun y H => T (some y) H) H) [] pelt := fun A E s μ H T Qs Qn c h0 hs hn => by
  refine wpAny_tests_nil ?_
  rw [if_pos rfl]
  exact h c h0 hs
theorem turn_if {mc m : M V} {pc pelt : Expr} (hc : SndT W j env ρ mc pc) (h : SndE W j env ρ m pelt) :
    TurnOk W j env ρ (fun T H => mc (fun c H => wTru c (fun b H => ifK b (m (fun y H => T (some y) H) H) (T none H)) H) H) [pc] pelt := fun A E s μ H T Qs Qn c h0 hs hn =>
  wpAny_tests_one (hc c h0 fun v H1 s1 μ1 z a => z.imp fun b z => ifK_at z (fun z => h (c.step a) z fun _ _ _ _ _ z a' r => hs z (a.trans a') r) fun z => hn z a)

/-- the state within the loop of a comprehension, but for the iterator -/
structure CB (W : Wd) (cenv : Env) (x : Nat) (ρ : Loc) (s1 : Shared) (μ1 : Mu) (D : Addr) (s' : Shared) (μ : Mu) (H : AH) (acc : List V) (items : Array Value) (ρw : Loc) : Prop where
  aft : Aft W X0 s1 μ1 s' μ H
  same : ∀ y, y ≠ x → look ρw y = look ρ y
  frm : Frm W cenv ρw s'.heap μ
  list : s'.heap.PlainList D items
  rep : RepL W s'.heap μ acc items.toList
  notD : ∀ p ∈ μ, D ≠ p.1 ∧ D ≠ p.2
structure CI (W : Wd) (cenv : Env) (x : Nat) (ρ : Loc) (s1 : Shared) (μ1 : Mu) (I D : Addr) (s' : Shared) (μ : Mu) (H : AH) (it : It) (acc : List V) (items : Array Value) (ρw : Loc) : Prop extends CB W cenv x ρ s1 μ1 D s' μ H acc items ρw where
  iter : IterR W s'.heap μ I it
theorem Frm.congr {env ρ ρ'} {h : Heap} {μ : Mu} (F : Frm W env ρ h μ) (e : ∀ y, look ρ' y = look ρ y) : Frm W env ρ' h μ :=
  ⟨F.kind, F.globals, F.builtins, let ⟨m, a, b⟩ := F.ns; ⟨m, a, fun x v hx => b x v (e x ▸ hx)⟩, F.cell, fun x v hx => F.cellv x v (e x ▸ hx), F.celln, F.inj, fun x v hx => F.rng x v (e x ▸ hx), F.lo, F.locell, F.apart, F.apartc⟩
/-- another object beside is changed -/
theorem CB.but {x s1 μ1 D s μ H acc items ρw I t} {h' : Heap} (c : CB W cenv x ρ s1 μ1 D s μ H acc items ρw) (hx : Heap.ExtBut I s.heap h') (nI : ∀ p ∈ μ, I ≠ p.1 ∧ I ≠ p.2) (nf : ∀ o, s.heap.get? I = some o → ¬ Fixed o) (dI : s1.heap.get? I = none)
    (hB : W.B.get? I = none) (hID : D ≠ I) (hF : ∀ b, XE cenv b → b ≠ I) : CB W cenv x ρ s1 μ1 D { s with heap := h', toks := t } μ H acc items ρw ∧ Mv s.heap μ h' μ :=
  have ⟨R, m⟩ := c.aft.sr.but hx nI hB nf
  ⟨⟨⟨c.aft.st.but hx dI, R, c.aft.gens, c.aft.os⟩, c.same, c.frm.move (fun b o hb e => hx b o (hF b hb) e) m fun _ _ _ _ u => u, have ⟨n, e⟩ := c.list; ⟨n, hx D _ hID e⟩, RepL.mv m _ c.rep, c.notD⟩, m⟩

theorem comp_loop {x : Nat} {id : Str} {p : Pos} {f : V → M (Option V)} {pelt pit : Expr} {ifs : List Expr} {scope : Scope} {pos : Pos} {I D : Addr} {s1 : Shared} {μ1 : Mu} {K : List V → AH → Prop} {R : Result → Shared → Prop}
    (hn : isN x id = true) (hloc : cenv.kindOf id = some .local) (hA : AIn A (j + 1))
    (hturn : ∀ v, TurnOk W j cenv (Mine.put ρ x v) (f v) ifs pelt) (dI : s1.heap.get? I = Option.none) (dD : s1.heap.get? D = Option.none) (dC : s1.heap.get? cenv.locals = Option.none) (hB : ∀ b, s1.heap.get? b = Option.none → W.B.get? b = Option.none)
    (hID : I ≠ D) (hI : ∀ b, XE cenv b → b ≠ I) (hD : ∀ b, XE cenv b → b ≠ D)
    (hR : ∀ s' μ items ρw vs H', K vs H' → CB W cenv x ρ s1 μ1 D s' μ H' vs items ρw → R (.ok .next) s')
    (n : Nat) {s : Shared} {μ : Mu} {H : AH} {it : It} {acc : List V} {items : Array Value} {ρw : Loc} (h0 : CI W cenv x ρ s1 μ1 I D s μ H it acc items ρw) (he : compL f n it acc K H) :
    codeAny (model W.prog W.w) A (.compLoop (.ListComp pelt [⟨.Name id p, pit, ifs, 0⟩] scope pos) 0 (.ref I) (.ref D) cenv) R s := by
  refine codeAny_compLoop_tests (fun n s => ∃ μ H it acc items ρw, CI W cenv x ρ s1 μ1 I D s μ H it acc items ρw ∧ compL f n it acc K H) ?_ n ⟨μ, H, it, acc, items, ρw, h0, he⟩
  rintro n s ⟨μ, H, it, acc, items, ρw, c, he⟩
  cases n with
  | zero => exact he.elim
  | succ n =>
    have nI := c.iter.notMu c.aft.sr
    have nf := c.iter.notFixed
    refine next_sound (d := bQ (lineOk acc.length) (K acc H)) (k := fun v it' => f v (optK (fun y H => bQ (lineOk acc.length) (compL f n it' (acc ++ [y]) K H)) (fun H => compL f n it' acc K H)) H) hA.handled he c.aft.sr c.iter (fun hd h' hx => ?_) fun v it' h' t u hk hs' hit' hu => ?_
    · exact hR _ μ items ρw acc H (bQ.of hd).2 (CB.but (t := s.toks) c.toCB hx nI nf dI (hB _ dI) hID.symm hI).1
    · obtain ⟨c1, m1⟩ := CB.but (t := t) c.toCB hs'.extBut nI nf dI (hB _ dI) hID.symm hI
      refine wpAny_assign_Name (store_sound (s := { s with heap := h', toks := t }) c1.aft.sr c1.frm hn (by
        unfold isLoc; rw [lookK_eq, show cenv.scope.names.lookup id = some .local from hloc]) (Rep.mv m1 _ hu) fun s2 a2 m2 F2 => ?_)
      have keep2 : ∀ b o, b ≠ cenv.locals → (∀ p ∈ μ, b ≠ p.1 ∧ b ≠ p.2) → h'.get? b = some o → s2.heap.get? b = some o := fun b o hb u e => a2.st.kept b o (fun hX => hX.elim (fun z => hb z.2) fun z => z.1 hloc) u e
      have c2 : CI W cenv x ρ s1 μ1 I D s2 μ H it' acc items (Mine.put ρ x v) := ⟨⟨c1.aft.comp a2 fun b o _ e hX => hX.elim (fun z => live_ne e dC z.2) fun z => z.1 hloc, fun y hy => by rw [look_put, if_neg (fun e => hy e.symm)],
        F2.congr fun y => by
          rw [look_put, look_put]
          by_cases hxy : x = y
          · rw [if_pos hxy, if_pos hxy]
          · rw [if_neg hxy, if_neg hxy]; exact (c.same y (fun e => hxy e.symm)).symm,
        have ⟨n0, e⟩ := c1.list; ⟨n0, keep2 D _ (hD _ (.inl rfl)).symm c.notD e⟩, RepL.mv m2 _ c1.rep, c.notD⟩, IterR.keep m2 (fun o e => keep2 I o (hI _ (.inl rfl)).symm nI e) hit'⟩
      -- what an evaluation keeps
      have go : ∀ {s3 μ3 H2}, Aft W X0 s2 μ s3 μ3 H2 → CI W cenv x ρ s1 μ1 I D s3 μ3 H2 it' acc items (Mine.put ρ x v) := fun {s3 μ3 H2} a3 =>
        have m3 := a3.mv c2.aft.sr
        have ⟨n', e⟩ := c2.list
        ⟨⟨c2.aft.trans a3, c2.same, c2.frm.mono c2.aft.sr a3, ⟨n', a3.st.kept D _ (fun z => z) c.notD e⟩, RepL.mv m3 _ c2.rep, a3.st.old e c.notD⟩, IterR.keep m3 (fun o e => a3.st.kept I o (fun z => z) nI e) c2.iter⟩
      refine hturn v ⟨hA, c2.aft.sr, c2.frm⟩ hk (fun y H2 s3 μ3 w h a3 rw' => ?_) fun H2 s3 μ3 h a3 => ⟨n, Nat.lt_succ_self n, μ3, H2, it', acc, items, _, go a3, h⟩
      obtain ⟨hz, h⟩ := bQ.of h
      have c3 := go a3
      refine wpAny_list_append_plain c3.list (fun h4' hl4 hs4 => ⟨n, Nat.lt_succ_self n, μ3, H2, it', acc ++ [y], items.push w, Mine.put ρ x v, ?_, h⟩) (by rw [c3.rep.size]; exact lineOk_ge hz)
      have nfD : ∀ o, s3.heap.get? D = some o → ¬ Fixed o := fun o ho f => by
        obtain ⟨n', e⟩ := c3.list
        cases Option.some.inj (ho.symm.trans e)
        exact f.own (.inl rfl)
      obtain ⟨R4, m4⟩ := c3.aft.sr.but hs4.extBut c3.notD (hB _ dD) nfD
      exact ⟨⟨⟨c3.aft.st.but hs4.extBut dD, R4, c3.aft.gens, c3.aft.os⟩, c3.same, c3.frm.move (fun b o hb e => hs4.extBut b o (hD b hb) e) m4 fun _ _ _ _ u => u, hl4, by
        rw [Array.toList_push]
        exact RepL.append (.cons (Rep.mv m4 _ rw') .nil) (RepL.mv m4 _ c3.rep), c3.notD⟩, IterR.keep m4 (fun o e => hs4.extBut I o hID e) c3.iter⟩
end
end Mine
end
section
set_option maxRecDepth 100000
set_option genSizeOf false
set_option genInjectivity false
namespace Mine
open PySem PySem.W PyProof.Rows
variable {W : Wd}

theorem closure_loop {env : Env} (f : Str × NameKind → List (Str × Addr) → Sem (ForInStep (List (Str × Addr))))
    (hf : ∀ n k cs, f (n, k) cs = if (k == NameKind.free) = true then (cellOf env n >>= fun a => pure (.yield ((n, a) :: cs))) else pure (.yield cs)) :
    ∀ (names : List (Str × NameKind)) (cs : List (Str × Addr)), (∀ y ∈ names, y.2 = .free → ∃ c, env.cells.lookup y.1 = some c) → (∀ y c, cs.lookup y = some c → env.cells.lookup y = some c) →
      ∃ cl, forIn names cs f = pure cl ∧ (∀ y c, cl.lookup y = some c → env.cells.lookup y = some c) ∧ (∀ y, (y, NameKind.free) ∈ names → ∃ c, cl.lookup y = some c) ∧ (∀ y c, cs.lookup y = some c → ∃ c', cl.lookup y = some c')
  | [], cs, _, h2 => ⟨cs, rfl, h2, fun _ h => (nomatch h), fun y c h => ⟨c, h⟩⟩
  | (n, k) :: r, cs, h1, h2 => by
    rw [List.forIn_cons, hf]
    have hr : ∀ y ∈ r, y.2 = .free → ∃ c, env.cells.lookup y.1 = some c := fun y hy => h1 y (List.mem_cons_of_mem _ hy)
    by_cases hk : k = .free
    · subst hk
      obtain ⟨c, hc⟩ := h1 (n, .free) List.mem_cons_self rfl
      simp only at hc
      have e : cellOf env n = pure c := by unfold cellOf; rw [hc]
      rw [if_pos (show (NameKind.free == NameKind.free) = true from rfl), e, pure_bind, pure_bind]
      dsimp only
      obtain ⟨cl, e1, e2, e3, e4⟩ := closure_loop f hf r ((n, c) :: cs) hr (fun y c' h => by
        rw [List.lookup_cons] at h
        cases q : y == n with
        | true => rw [q] at h; cases h; rw [beq_iff_eq] at q; rw [q]; exact hc
        | false => rw [q] at h; exact h2 y c' h)
      refine ⟨cl, e1, e2, fun y hy => ?_, fun y c' h => ?_⟩
      · rcases List.mem_cons.mp hy with hy | hy
        · cases hy; exact e4 n c (by simp [List.lookup_cons])
        · exact e3 y hy
      · cases q : y == n with
        | true => exact e4 y c (by rw [List.lookup_cons, q])
        | false => exact e4 y c' (by rw [List.lookup_cons, q]; exact h)
    · rw [if_neg (by simpa using hk), pure_bind]
      dsimp only
      obtain ⟨cl, e1, e2, e3, e4⟩ := closure_loop f hf r cs hr h2
      refine ⟨cl, e1, e2, fun y hy => ?_, e4⟩
      rcases List.mem_cons.mp hy with hy | hy
      · cases hy; exact absurd rfl hk
      · exact e3 y hy

theorem closureFor_of {scope : Scope} {env : Env} (h : ∀ y ∈ scope.names, y.2 = .free → ∃ c, env.cells.lookup y.1 = some c) :
    ∃ cl, closureFor scope env = pure cl ∧ (∀ y c, cl.lookup y = some c → env.cells.lookup y = some c) ∧ (∀ y, (y, NameKind.free) ∈ scope.names → ∃ c, cl.lookup y = some c) := by
  unfold closureFor
  obtain ⟨cl, e1, e2, e3, _⟩ := closure_loop (env := env) (fun x cs => match x with
    | (name, kind) => if (kind == NameKind.free) = true then do let a ← cellOf env name; pure (.yield ((name, a) :: cs)) else pure (.yield cs)) (fun _ _ _ => rfl) scope.names [] h (fun _ _ h => by cases h)
  refine ⟨cl, ?_, e2, e3⟩
  show (forIn scope.names [] _ >>= fun cs => pure cs) = _
  rw [bind_pure]
  exact e1

theorem lookup_mem {α : Type} {l : List (Str × α)} {y : Str} {k : α} (h : l.lookup y = some k) : (y, k) ∈ l := by
  induction l with
  | nil => cases h
  | cons x r ih =>
    obtain ⟨n, k'⟩ := x
    rw [List.lookup_cons] at h
    cases q : y == n with
    | true => rw [q] at h; cases h; rw [beq_iff_eq] at q; subst q; exact List.mem_cons_self
    | false => rw [q] at h; exact List.mem_cons_of_mem _ (ih h)

structure CompOk (scope : Scope) (sc : Scope) (id : Str) : Prop where
  kind : scope.kind = .function
  at_ : scope.names.lookup id = some .local
  loc : ∀ y, (y, NameKind.local) ∈ scope.names → (y = id ∨ y = ".0") ∧ scope.names.lookup y = some .local
  cell : ∀ y, (y, NameKind.cell) ∉ scope.names
  free : ∀ y, (y, NameKind.free) ∈ scope.names → sc.names.lookup y = some .cell ∨ sc.names.lookup y = some .free
theorem okComp_at {scope sc : Scope} {id : Str} (h : okComp scope sc id = true) : CompOk scope sc id := by
  obtain ⟨h1, h⟩ := both h
  obtain ⟨h2, h3⟩ := both h
  have h3 := List.all_eq_true.mp h3
  refine ⟨of_decide_eq_true h1, of_decide_eq_true h2, fun y hy => ?_, fun y hy => ?_, fun y hy => ?_⟩
  · have := h3 _ hy
    simp only [Bool.and_eq_true, Bool.or_eq_true, decide_eq_true_eq] at this
    exact ⟨this.1.imp seq_eq.mp seq_eq.mp, this.2⟩
  · exact no (h3 _ hy)
  · have := h3 _ hy
    simp only [lookK_eq] at this
    split at this
    · rename_i e; exact .inl e
    · rename_i e; exact .inr e
    · cases this

/-- the kinds of a relabelled scope -/
theorem relab_lookup {sc : Scope} {y : Str} {k : NameKind} : ∀ {names : List (Str × NameKind)},
    (names.map fun (n, k) => if (k == NameKind.free && sc.kind == .function && sc.names.lookup n == some .cell) = true then (n, NameKind.cell) else (n, k)).lookup y = some k → ∃ k', (y, k') ∈ names ∧ (k = k' ∨ (k = .cell ∧ k' = .free))
  | [], h => by cases h
  | (n, k') :: r, h => by
    rw [List.map_cons, List.lookup_cons] at h
    by_cases hc : (k' == NameKind.free && sc.kind == .function && sc.names.lookup n == some .cell) = true
    · simp only [hc, if_true] at h
      cases q : y == n with
      | true =>
        rw [q] at h; cases h
        rw [beq_iff_eq] at q; subst q
        simp only [Bool.and_eq_true, beq_iff_eq] at hc
        exact ⟨k', List.mem_cons_self, .inr ⟨rfl, hc.1.1⟩⟩
      | false =>
        rw [q] at h
        obtain ⟨k2, h1, h2⟩ := relab_lookup h
        exact ⟨k2, List.mem_cons_of_mem _ h1, h2⟩
    · rw [if_neg hc] at h
      simp only at h
      cases q : y == n with
      | true =>
        rw [q] at h; cases h
        rw [beq_iff_eq] at q; subst q
        exact ⟨_, List.mem_cons_self, .inl rfl⟩
      | false =>
        rw [q] at h
        obtain ⟨k2, h1, h2⟩ := relab_lookup h
        exact ⟨k2, List.mem_cons_of_mem _ h1, h2⟩

noncomputable def delx (ρ : Loc) (x : Nat) : Loc := ρ.filter fun p => !Nat.beq p.1 x
theorem look_del {x y : Nat} : ∀ {ρ : Loc}, look (delx ρ x) y = if x = y then Option.none else look ρ y
  | [] => by split <;> rfl
  | (k, v) :: r => by
    have ih := look_del (x := x) (y := y) (ρ := r)
    unfold delx at ih ⊢
    rw [List.filter_cons]
    by_cases e : k = x
    · subst e
      rw [if_neg (by simp), ih, look_cons]
      by_cases hxy : k = y
      · rw [if_pos hxy, if_pos hxy]
      · rw [if_neg hxy, if_neg hxy, if_neg hxy]
    · rw [if_pos (by rw [beq_dec, decide_eq_false e]; rfl), look_cons, ih, look_cons]
      by_cases hxy : k = y
      · rw [if_pos hxy, if_neg (fun z : x = y => e (hxy.trans z.symm)), if_pos hxy]
      · rw [if_neg hxy, if_neg hxy]
theorem look_del_at {x y : Nat} {v : V} {ρ : Loc} (h : look (delx ρ x) y = some v) : x ≠ y ∧ look ρ y = some v := by
  rw [look_del] at h
  by_cases e : x = y
  · rw [if_pos e] at h; cases h
  · rw [if_neg e] at h; exact ⟨e, h⟩

theorem nm_dot0 (k : Nat) : nm k ≠ Str.ofString ".0" := by
  have h : (tbl.all fun s => !eqL (Str.ofString s).cps.toList (Str.ofString ".0").cps.toList) = true := by decide +kernel
  intro e
  unfold nm at e
  cases q : tbl[k]? with
  | none => rw [q] at e; revert e; decide +kernel
  | some s =>
    rw [q] at e
    have := List.all_eq_true.mp h s (List.mem_of_getElem? q)
    simp only [Option.getD_some] at e
    rw [e] at this
    simp [eqL_eq.mpr rfl] at this


section
variable {j : Nat} {env : Env} {ρ : Loc} {A : Around} {E : Value → Shared → Prop} {s : Shared} {μ : Mu} {H : AH}

theorem frm_comp {scope : Scope} {id : Str} {x : Nat} {cl : List (Str × Addr)} {C : Addr} {h : Heap} (F : Frm W env ρ h μ) (K : CompOk scope env.scope id) (hid : id = nm x) (hx : x < NN)
    (c1 : ∀ y c, cl.lookup y = some c → env.cells.lookup y = some c) (c2 : ∀ y, (y, NameKind.free) ∈ scope.names → ∃ c, cl.lookup y = some c) {m : Str → Option Value} (hns : h.Ns C m) (hB : W.B.get? C = Option.none)
    (hap : ∀ p ∈ μ, C ≠ p.1 ∧ C ≠ p.2) : Frm W (compEnvC scope cl C env) (delx ρ x) h μ := by
  have kd : ∀ y k', (compEnvC scope cl C env).kindOf y = some k' → ∃ k, (y, k) ∈ scope.names ∧ (k' = k ∨ (k' = .cell ∧ k = .free)) := fun y k' e => relab_lookup (sc := env.scope) e
  have fr : ∀ y, ((compEnvC scope cl C env).kindOf y = some .cell ∨ (compEnvC scope cl C env).kindOf y = some .free) → (y, NameKind.free) ∈ scope.names := fun y hy => by
    rcases hy with hy | hy
    · obtain ⟨k, h1, rfl | h2⟩ := kd y _ hy
      · exact absurd h1 (K.cell y)
      · exact h2.2 ▸ h1
    · obtain ⟨k, h1, rfl | h2⟩ := kd y _ hy
      · exact h1
      · cases h2.1
  refine ⟨K.kind, F.globals, F.builtins, ⟨m, hns, fun y v hy hk => ?_⟩, fun y c hc => F.cell y c (c1 y c hc), fun y v hy hk => ?_, fun y hk => c2 y (fr y hk), fun y z c h1 h2 => F.inj y z c (c1 _ _ h1) (c1 _ _ h2),
    fun y v hy => F.rng y v (look_del_at hy).2, hB, fun y c hc => F.locell y c (c1 y c hc), hap, fun y c hc => F.apartc y c (c1 y c hc)⟩
  · obtain ⟨hxy, hy⟩ := look_del_at hy
    obtain ⟨k, h1, rfl | h2⟩ := kd _ _ hk
    · rcases (K.loc _ h1).1 with e | e
      · exact absurd (nm_inj (F.rng y v hy) hx (e.trans hid)).symm hxy
      · exact absurd e (nm_dot0 y)
    · cases h2.1
  · obtain ⟨hxy, hy⟩ := look_del_at hy
    have hf := fr _ hk
    obtain ⟨c, rv, h1, h2, h3⟩ := F.cellv y v hy (K.free _ hf)
    obtain ⟨c', h4⟩ := c2 _ hf
    cases Option.some.inj (h1.symm.trans (c1 _ _ h4))
    exact ⟨_, rv, h4, h2, h3⟩

theorem folded_of {pit : Expr} (h : notSet pit = true) (x : Value) : foldedSetIterable pit env x = pure x := by
  cases pit with
  | Set _ _ _ => exact no h
  | _ => rfl

/-- what is handed on behind a comprehension -/
noncomputable def CompQ (W : Wd) (env : Env) (s : Shared) (μ : Mu) (K : V → AH → Prop) (T : Value → Addr → Shared → Prop) : Prop :=
  ∀ ⦃v H' s' μ' D C m⦄, K v H' → Aft W X0 s μ s' μ' H' → Rep W s'.heap μ' v (.ref D) → s'.heap.Ns C m → s.heap.get? C = Option.none → (∀ p ∈ μ', C ≠ p.1 ∧ C ≠ p.2) → W.B.get? C = Option.none → (∀ b, XE env b → b ≠ C) → T (.ref D) C s'
theorem comp_core {mit : M V} {f : V → M (Option V)} {x : Nat} {id : Str} {p pos pos' : Pos} {pelt pit : Expr} {ifs : List Expr} {scope : Scope} (hok : okComp scope env.scope id = true) (hn : isN x id = true) (hs : notSet pit = true)
    (hit : SndE W j env ρ mit pit) (hturn : ∀ cl C v, TurnOk W j (compEnvC scope cl C env) (Mine.put ρ x v) (f v) ifs pelt) (c : At W j env ρ A s μ H) {K : V → AH → Prop}
    (h : mit (fun v H => wIt v (fun it H => wp (compL f fuelL it []) (fun vs H => wAl (.lst vs) K H) H) H) H) {use : Option (Value → Sem Unit)} {Q : Value → Shared → Prop}
    (hpost : CompQ W env s μ K fun D C s' => compPost (model W.prog W.w) A E use Q D C (.ok .next) s') :
    wpAny (model W.prog W.w) A (comprehension (.ListComp pelt [⟨.Name id p, pit, ifs, 0⟩] scope pos) scope env pos' (newList []) false (eval pit env) use) Q E s := by
  have OK := okComp_at hok
  obtain ⟨hx, hid, _, _⟩ := isN_at hn
  obtain ⟨cl, hcl, c1, c2⟩ := closureFor_of (scope := scope) (env := env) (fun y hy hf => by
    obtain ⟨n, kk⟩ := y
    cases (hf : kk = _)
    exact c.F.celln n (OK.free n hy).symm.symm)
  refine wpAny_comprehension_free rfl (folded_of hs) hcl OK.kind (fun y hy hl => by
    obtain ⟨n, kk⟩ := y
    cases (hl : kk = _)
    exact (OK.loc n hy).2) (hit c h fun v H1 s1 μ1 u h a1 r1 => iter_sound h a1.sr r1 fun it o h hI => ?_)
  refine wpAny_newList (wpAny_newFunctionEnv (fun y hy hc => by
      obtain ⟨n, kk⟩ := y
      cases (hc : kk = _)
      exact OK.cell n hy) (fun _ hy => nomatch hy) (fun h4 hns hsb => ?_) OK.kind) (Nat.zero_le _)
  simp only at hns hsb
  generalize hI2 : (s1.heap.push o) = hp2 at hI hns hsb ⊢
  have z2 : hp2.objs.size = s1.heap.objs.size + 1 := by rw [← hI2, Heap.size_push]
  generalize hD3 : hp2.push { cls := .type "list", data := .seq ([] : List Value).toArray } = hp3 at hns hsb ⊢
  have z3 : hp3.objs.size = s1.heap.objs.size + 2 := by rw [← hD3, Heap.size_push, z2]
  have old3 : ∀ b o', hp3.get? b = some o' → h4.get? b = some o' := fun b o' q3 => hsb.extBut b o' (fun e => Nat.ne_of_lt (Heap.lt_size q3) e) (Heap.get?_push_of_some _ q3)
  have old : ∀ b o', s1.heap.get? b = some o' → h4.get? b = some o' := fun b o' e => old3 b o' (hD3 ▸ Heap.get?_push_of_some _ (hI2 ▸ Heap.get?_push_of_some _ e))
  have dI : s1.heap.get? s1.heap.objs.size = Option.none := get?_size _
  have dD : s1.heap.get? hp2.objs.size = Option.none := dead_size (by rw [z2]; exact Nat.le_succ _)
  have dC : s1.heap.get? hp3.objs.size = Option.none := dead_size (by rw [z3]; exact Nat.le_add_right _ _)
  have hID : s1.heap.objs.size ≠ hp2.objs.size := by rw [z2]; exact Nat.ne_of_lt (Nat.lt_succ_self _)
  have hIC : s1.heap.objs.size ≠ hp3.objs.size := by rw [z3]; exact Nat.ne_of_lt (Nat.lt_succ_of_lt (Nat.lt_succ_self _))
  have hDC : hp2.objs.size ≠ hp3.objs.size := by rw [z2, z3]; exact Nat.ne_of_lt (Nat.lt_succ_self _)
  have a4 : Aft W X0 s1 μ1 { s1 with heap := h4, toks := s1.toks + ([] : List (Str × Value)).length } μ1 H1 := .grow a1.sr old
  have F1 := c.F.mono c.R a1
  have hXE : ∀ {b d}, s1.heap.get? d = none → (b = hp3.objs.size ∧ b ≠ d ∨ XE env b) → b ≠ d := fun {b d} hd hb => hb.elim (·.2) fun hb => have ⟨ob, hob⟩ := F1.live hb; live_ne hob hd
  have F4 : Frm W (compEnvC scope cl hp3.objs.size env) (delx ρ x) h4 μ1 := frm_comp (F1.mono a1.sr a4) OK hid hx c1 c2 hns (a1.sr.off dC) fun p hp => (a1.sr.typed W p hp).dead dC
  have it4 : IterR W h4 μ1 s1.heap.objs.size it := hI.keep ⟨fun b o' e _ => old3 b o' (hD3 ▸ Heap.get?_push_of_some _ e), fun _ _ e => e⟩ fun o' e => old3 _ o' (hD3 ▸ Heap.get?_push_of_some _ e)
  have pl4 : h4.PlainList hp2.objs.size #[] := ⟨_, old3 _ _ (hD3 ▸ Heap.get?_push_size _ rfl)⟩
  have c0 : CI W (compEnvC scope cl hp3.objs.size env) x ρ s1 μ1 s1.heap.objs.size hp2.objs.size { s1 with heap := h4, toks := s1.toks + ([] : List (Str × Value)).length } μ1 H1 it [] #[] (delx ρ x) :=
    ⟨⟨a4, fun y hy => by rw [look_del, if_neg (fun e => hy e.symm)], F4, pl4, .nil, fun p hp => (a1.sr.typed W p hp).dead dD⟩, it4⟩
  have cx : ∀ {d}, hp3.objs.size ≠ d → s1.heap.get? d = none → ∀ b, XE (compEnvC scope cl hp3.objs.size env) b → b ≠ d := fun {d} hd hn b hb => hXE hn (hb.imp (fun e => ⟨e, e ▸ hd⟩) fun ⟨y, hy⟩ => .inr ⟨y, c1 y b hy⟩)
  have loop := fun (s0 : Shared) (e0 : s0 = { s1 with heap := h4, toks := s1.toks + ([] : List (Str × Value)).length }) =>
    comp_loop (A := A) (R := compPost (model W.prog W.w) A E use Q (.ref hp2.objs.size) hp3.objs.size) (p := p) (pit := pit) (scope := scope) (pos := pos) hn (show (compEnvC scope cl hp3.objs.size env).kindOf id = some .local from lookup_relabel_local OK.at_) c.hA (hturn cl hp3.objs.size) dI dD dC (fun b hb => a1.sr.off hb) hID
      (cx hIC.symm dI) (cx hDC.symm dD) (fun s' μ' items ρw vs H3 h cb => by
        obtain ⟨n', pl⟩ := cb.list
        obtain ⟨m, hm, _⟩ := cb.frm.ns
        obtain ⟨R5, S5⟩ := SR.adopt (c := .lst vs) (h0 := s.heap) (μ0 := μ) cb.aft.sr (Heap.SameBut.refl _ _) ⟨_, pl⟩ cb.notD (a1.sr.off dD) (a1.st.trans cb.aft.st) (a1.st.fresh dD) (fun ob hb f => by
          cases Option.some.inj (hb.symm.trans pl); exact f.own (.inl rfl)) fun m => ⟨rfl, items, n', pl, RepL.mv m _ cb.rep⟩
        exact hpost h ⟨S5, R5, cb.aft.gens.trans a1.gens, cb.aft.os.trans a1.os⟩ (.at_end cb.aft.sr.len) hm (a1.st.fresh dC) (fun p hp => (List.mem_append.mp hp).elim (cb.frm.apart p) fun hp => List.mem_singleton.mp hp ▸ ⟨hDC.symm, hDC.symm⟩) (a1.sr.off dC) fun b hb => hXE dC (.inr hb))
      fuelL (s := s0) (e0 ▸ c0) h
  exact codeAny_compStart_list (loop _ rfl) (iter_self it4 (loop _ rfl))

theorem Heap.Ns.notFixed {h : Heap} {C : Addr} {m : Str → Option Value} (x : h.Ns C m) (o : Obj) (ho : h.get? C = some o) : ¬ Fixed o := fun f => by
  obtain ⟨o', es, ep, ho', hd, _⟩ := x
  cases Option.some.inj (ho.symm.trans ho')
  rcases f with ⟨_, _, _, e⟩ | ⟨_, _, e⟩ <;> exact nomatch hd.symm.trans e
theorem snd_comp {mit : M V} {f : V → M (Option V)} {x : Nat} {id : Str} {p pos : Pos} {pelt pit : Expr} {ifs : List Expr} {scope : Scope} (hok : okComp scope env.scope id = true) (hn : isN x id = true) (hs : notSet pit = true)
    (hit : SndE W j env ρ mit pit) (hturn : ∀ cl C v, TurnOk W j (compEnvC scope cl C env) (Mine.put ρ x v) (f v) ifs pelt) :
    SndE W j env ρ (fun K H => mit (fun v H => wIt v (fun it H => wp (compL f fuelL it []) (fun vs H => wAl (.lst vs) K H) H) H) H) (.ListComp pelt [⟨.Name id p, pit, ifs, 0⟩] scope pos) := fun A E s μ H K Q c h hQ => by
  rw [eval_ListComp]
  refine comp_core hok hn hs hit hturn c h fun v H' s' μ' D C m h a r hm dC nC hB _ => ⟨m, hm, fun h' hs' => ?_⟩
  obtain ⟨R', m'⟩ := a.sr.but hs'.extBut nC hB (Heap.Ns.notFixed hm)
  exact hQ h ⟨a.st.but hs'.extBut dC, R', a.gens, a.os⟩ (Rep.mv m' _ r)
end
end Mine
end
section
set_option maxRecDepth 100000
set_option genSizeOf false
set_option genInjectivity false
namespace Mine
open PySem PySem.W PyProof.Rows
variable {W : Wd}

/-- the text of an expression is sound -/
noncomputable def PE (W : Wd) (C : Nat → List V → M V) (j : Nat) (e : E) : Prop := ∀ ⦃env : Env⦄ ⦃ρ : Loc⦄ ⦃sc : Scope⦄ ⦃pe : Expr⦄, env.scope = sc → isE e sc pe = true → Snd W j env ρ (wE C e ρ) pe
structure PEs (W : Wd) (C : Nat → List V → M V) (j : Nat) (es : Es) : Prop where
  l : ∀ ⦃env : Env⦄ ⦃ρ : Loc⦄ ⦃sc : Scope⦄ ⦃ps : List Expr⦄, env.scope = sc → isL es sc ps = true → SndL W j env ρ (wEs C es ρ) ps ∧ ps.all notStar = true
  a : ∀ ⦃env : Env⦄ ⦃ρ : Loc⦄ ⦃sc : Scope⦄ ⦃ps : List Expr⦄, env.scope = sc → isL es sc ps = true → SndA W j env ρ .And (wAnd C es ρ) ps
  o : ∀ ⦃env : Env⦄ ⦃ρ : Loc⦄ ⦃sc : Scope⦄ ⦃ps : List Expr⦄, env.scope = sc → isL es sc ps = true → SndA W j env ρ .Or (wOr C es ρ) ps
  kv : ∀ ⦃env : Env⦄ ⦃ρ : Loc⦄ ⦃sc : Scope⦄ ⦃ks vs⦄, env.scope = sc → isKV es sc ks vs = true → SndP W j env ρ (wEs C es ρ) ks vs
  vk : ∀ ⦃env : Env⦄ ⦃ρ : Loc⦄ ⦃sc : Scope⦄ ⦃ks vs⦄, env.scope = sc → isVK es sc ks vs = true → ∀ ⦃mk p⦄, SndE W j env ρ mk p → SndP W j env ρ (fun K H => mk (fun a H => wEs C es ρ (fun vs H => K (a :: vs) H) H) H) (some p :: ks) vs
  emp : ∀ ⦃sc : Scope⦄ ⦃ρ : Loc⦄, isL es sc [] = true → (∀ ⦃K : V → AH → Prop⦄ ⦃H⦄, wAnd C es ρ K H → K (.bool true) H) ∧ ∀ ⦃K : V → AH → Prop⦄ ⦃H⦄, wOr C es ρ K H → K (.bool false) H

section
variable {C : Nat → List V → M V} {j : Nat}
theorem pes_nil : PEs W C j .nil where
  l _ _ _ _ _ h := isEmp_at h ⟨snd_nil, rfl⟩
  a _ _ _ _ _ h := isEmp_at h sna_nil_and
  o _ _ _ _ _ h := isEmp_at h sna_nil_or
  kv _ _ _ _ _ _ h := isEmp_at (P := fun ks => SndP _ _ _ _ _ ks _) (both h).1 (isEmp_at (both h).2 snp_nil)
  vk _ _ _ _ _ _ h := no h
  emp _ _ _ := ⟨fun _ _ h => h, fun _ _ h => h⟩
theorem pes_cons {e : E} {es : Es} (he : PE W C j e) (hes : PEs W C j es) : PEs W C j (.cons e es) where
  l env ρ sc ps hs h := by
    cases ps with
    | nil => exact no h
    | cons p ps =>
      obtain ⟨h1, h⟩ := both h
      have z := hes.l (ρ := ρ) hs (both h).2
      exact ⟨snd_cons h1 (he hs (both h).1).e z.1, by rw [List.all_cons, h1, z.2]; rfl⟩
  a env ρ sc ps hs h := by
    cases ps with
    | nil => exact no h
    | cons p ps =>
      obtain ⟨h1, h⟩ := both h
      exact sna_and (he hs (both h).1) (hes.a hs (both h).2) fun e => (hes.emp (e ▸ (both h).2)).1
  o env ρ sc ps hs h := by
    cases ps with
    | nil => exact no h
    | cons p ps =>
      obtain ⟨h1, h⟩ := both h
      exact sna_or (he hs (both h).1) (hes.o hs (both h).2) fun e => (hes.emp (e ▸ (both h).2)).2
  kv env ρ sc ks vs hs h := by
    cases ks with
    | nil => exact no h
    | cons p ks => exact onSome_at h fun p h => hes.vk hs (both h).2 (he hs (both h).1).e
  vk env ρ sc ks vs hs h mk p hp := by
    cases vs with
    | nil => exact no h
    | cons q vs => exact snp_cons hp (he hs (both h).1).e (hes.kv hs (both h).2)
  emp _ _ h := no h
theorem decE {α : Type} [DecidableEq α] {a b : α} {r : Bool} (P : α → Prop) (h : (decide (a = b) && r) = true) (k : r = true → P a) : P b := of_decide_eq_true (both h).1 ▸ k (both h).2
theorem none_of {α : Type} {o : Option α} (h : (!o.isSome) = true) : o = none := by cases o; rfl; exact no h
section
variable (O : WAll W) (hC : CallOk W j C)
include O hC
theorem evE_sound (e : E) : PE W C j e := by
  refine @E.rec (fun e => PE W C j e) (fun es => PEs W C j es) ?none ?bool ?int ?str ?loc ?glb ?bin ?neg ?not ?and ?or ?cmp ?cmp2 ?call ?new ?len ?tuple ?isbool ?max ?min ?range ?append ?pop ?get ?get2 ?meth ?attr ?sub ?upto ?from_ ?tup ?lst ?dct ?comp ?compIf pes_nil (fun e es => pes_cons) e
  case none =>
    exact fun env ρ sc pe hs h => onConst_at h fun c n p h => by
      cases of_decide_eq_true h
      exact SndE.snd (fun _ _ _ _ _ _ _ c h hQ => Constant_none (hQ h (.refl c.R) .of_none)) fun _ => rfl
  case bool =>
    exact fun b env ρ sc pe hs h => onConst_at h fun c n p h => by
      cases of_decide_eq_true h
      exact SndE.snd (fun _ _ _ _ _ _ _ c h hQ => Constant_bool (hQ h (.refl c.R) .of_bool)) fun _ => rfl
  case int =>
    exact fun i env ρ sc pe hs h => onConst_at h fun c n p h => by
      cases of_decide_eq_true h
      exact SndE.snd (fun _ _ _ _ _ _ _ c h hQ => wpAny_Constant_int (hQ h (.tok c.R _) .of_int)) fun _ => rfl
  case str =>
    exact fun x env ρ sc pe hs h => onConst_at h fun c n p h => by
      cases c with
      | str t =>
        obtain ⟨hx, rfl, _, _⟩ := isN_at h
        exact SndE.snd (fun _ _ _ _ _ _ _ c h hQ => Calls.Constant_str (hQ h (.tok c.R _) ⟨_, rfl, hx⟩)) fun _ => rfl
      | _ => exact no h
  case loc =>
    exact fun x env ρ sc pe hs h => onName_at h fun id p h => SndE.snd (snd_loc (both h).1 (hs ▸ (both h).2)) fun _ => rfl
  case glb =>
    exact fun x env ρ sc pe hs h => onName_at h fun id p h => SndE.snd (snd_glb O (both h).1 (hs ▸ (both h).2)) fun _ => rfl
  case bin =>
    exact fun op a b ha hb env ρ sc pe hs h => onBin_at h fun l o r p h => decE (fun o => Snd W j env ρ _ (.BinOp l o r p)) h fun h => SndE.snd (snd_bin O (ha hs (both h).1).e (hb hs (both h).2).e) fun _ => rfl
  case neg =>
    exact fun a ha env ρ sc pe hs h => onUn_at h fun o x p h => decE (fun o => Snd W j env ρ _ (.UnaryOp o x p)) h fun h => SndE.snd (snd_neg (ha hs h).e) fun _ => rfl
  case not =>
    exact fun a ha env ρ sc pe hs h => onUn_at h fun o x p h => decE (fun o => Snd W j env ρ _ (.UnaryOp o x p)) h fun h => snd_not (ha hs h)
  case and =>
    exact fun es hes env ρ sc pe hs h => onBo_at h fun o l p h => decE (fun o => Snd W j env ρ _ (.BoolOp o l p)) h fun h => by
      have z := hes.a (ρ := ρ) hs (both h).2
      exact ⟨z.e p (by rintro rfl; exact no (both h).1), z.t p⟩
  case or =>
    exact fun es hes env ρ sc pe hs h => onBo_at h fun o l p h => decE (fun o => Snd W j env ρ _ (.BoolOp o l p)) h fun h => by
      have z := hes.o (ρ := ρ) hs (both h).2
      exact ⟨z.e p (by rintro rfl; exact no (both h).1), z.t p⟩
  case cmp =>
    exact fun op a b ha hb env ρ sc pe hs h => onCmp_at h fun l os rs p h => decE (fun o => Snd W j env ρ _ (.Compare l o rs p)) h fun h => onOne_at h fun r h => have ⟨h1, h⟩ := both h; snd_cmp O h1 (ha hs (both h).1).e (hb hs (both h).2).e
  case cmp2 =>
    exact fun o1 o2 a b c ha hb hc env ρ sc pe hs h => onCmp_at h fun l os rs p h => decE (fun o => Snd W j env ρ _ (.Compare l o rs p)) h fun h => onDuo_at h fun r1 r2 h => have ⟨h1, h⟩ := both h; have ⟨h2, h⟩ := both h; snd_cmp2 O h1 (ha hs h2).e (hb hs (both h).1).e (hc hs (both h).2).e
  case call =>
    exact fun f es hes env ρ sc pe hs h => onFn_at h fun id args q p h =>
      have ⟨h1, h⟩ := both h; have ⟨h2, h⟩ := both h; have ⟨h3, h⟩ := both h; have z := hes.l (ρ := ρ) hs h
      SndE.snd (snd_call O hC h1 (hs ▸ h2) h3 z.2 z.1) fun _ => rfl
  case new =>
    exact fun c es hes env ρ sc pe hs h => onFn_at h fun id args q p h =>
      have ⟨h1, h⟩ := both h; have ⟨h2, h⟩ := both h; have ⟨h3, h⟩ := both h; have z := hes.l (ρ := ρ) hs h
      SndE.snd (snd_new O hC h1 (hs ▸ h2) h3 z.2 z.1) fun _ => rfl
  case len =>
    exact fun e he env ρ sc pe hs h => onFn_at h fun id args q p h => onOne_at h fun x h =>
      have ⟨h1, h⟩ := both h; have ⟨h2, h⟩ := both h; SndE.snd (snd_len O (hs ▸ h1) h2 (he hs h).e) fun _ => rfl
  case tuple =>
    exact fun e he env ρ sc pe hs h => onFn_at h fun id args q p h => onOne_at h fun x h =>
      have ⟨h1, h⟩ := both h; have ⟨h2, h⟩ := both h; SndE.snd (snd_tuple O (hs ▸ h1) h2 (he hs h).e) fun _ => rfl
  case range =>
    exact fun e he env ρ sc pe hs h => onFn_at h fun id args q p h => onOne_at h fun x h =>
      have ⟨h1, h⟩ := both h; have ⟨h2, h⟩ := both h; SndE.snd (snd_range O (hs ▸ h1) h2 (he hs h).e) fun _ => rfl
  case isbool =>
    exact fun e he env ρ sc pe hs h => onFn_at h fun id args q p h => onDuo_at h fun x y h => onName_at (P := fun y => Snd _ _ _ _ _ (.Call _ [x, y] [] _)) h fun id2 q2 h =>
      have ⟨h1, h⟩ := both h; have ⟨h2, h⟩ := both h; have ⟨h3, h⟩ := both h; SndE.snd (snd_isbool O (hs ▸ h1) (hs ▸ h2) h3 (he hs h).e) fun _ => rfl
  case max =>
    exact fun a b ha hb env ρ sc pe hs h => onFn_at h fun id args q p h => onDuo_at h fun x y h =>
      have ⟨h1, h⟩ := both h; have ⟨h2, h3⟩ := both h; SndE.snd (snd_max O (hs ▸ h1) (both h2).1 (both h3).1 (ha hs (both h2).2).e (hb hs (both h3).2).e) fun _ => rfl
  case min =>
    exact fun a b ha hb env ρ sc pe hs h => onFn_at h fun id args q p h => onDuo_at h fun x y h =>
      have ⟨h1, h⟩ := both h; have ⟨h2, h3⟩ := both h; SndE.snd (snd_min O (hs ▸ h1) (both h2).1 (both h3).1 (ha hs (both h2).2).e (hb hs (both h3).2).e) fun _ => rfl
  case append =>
    exact fun o e ho he env ρ sc pe hs h => onMeth_at h fun at_ po args ap p e1 e2 h => onOne_at h fun x h =>
      have ⟨h1, h⟩ := both h; have ⟨h2, h⟩ := both h; have ⟨h3, h⟩ := both h; SndE.snd (snd_append e1 e2 h1 (ho hs h2).e h3 (he hs h).e) fun _ => rfl
  case pop =>
    exact fun o ho env ρ sc pe hs h => onMeth_at h fun at_ po args ap p e1 e2 h =>
      have ⟨h1, h⟩ := both h; have ⟨h2, h⟩ := both h; isEmp_at (P := fun args => Snd _ _ _ _ _ (.Call _ args [] _)) h1 (SndE.snd (snd_pop e1 e2 h2 (ho hs h).e) fun _ => rfl)
  case get =>
    exact fun o e ho he env ρ sc pe hs h => onMeth_at h fun at_ po args ap p e1 e2 h => onOne_at h fun x h =>
      have ⟨h1, h⟩ := both h; have ⟨h2, h⟩ := both h; have ⟨h3, h⟩ := both h; SndE.snd (snd_get O e1 e2 h1 (ho hs h2).e h3 (he hs h).e) fun _ => rfl
  case get2 =>
    exact fun o e d ho he hd env ρ sc pe hs h => onMeth_at h fun at_ po args ap p e1 e2 h => onDuo_at h fun x y h =>
      have ⟨h1, h⟩ := both h; have ⟨h2, h⟩ := both h; have ⟨h3, h4⟩ := both h; SndE.snd (snd_get2 O e1 e2 h1 (ho hs h2).e (both h3).1 (he hs (both h3).2).e (both h4).1 (hd hs (both h4).2).e) fun _ => rfl
  case meth =>
    exact fun o m es ho hes env ρ sc pe hs h => onMeth_at h fun at_ po args ap p e1 e2 h =>
      have ⟨h1, h⟩ := both h; have ⟨h2, h⟩ := both h; have ⟨h3, h⟩ := both h; have z := hes.l (ρ := ρ) hs h; SndE.snd (snd_meth O hC e1 e2 h1 (ho hs h2).e h3 z.2 z.1) fun _ => rfl
  case attr =>
    exact fun o f ho env ρ sc pe hs h => onAttr_at h fun po at_ p h => have ⟨h1, h⟩ := both h; have ⟨h2, h⟩ := both h; SndE.snd (snd_attr O h1 h2 (ho hs h).e) fun _ => rfl
  case sub =>
    exact fun o i ho hi env ρ sc pe hs h => onSub_at h fun po pi p h => have ⟨h1, h⟩ := both h; have ⟨h2, h⟩ := both h; SndE.snd (snd_sub O h1 (ho hs h2).e (hi hs h).e) fun _ => rfl
  case upto =>
    exact fun o i ho hi env ρ sc pe hs h => onSub_at h fun po ps p h => onSlice_at (P := fun ps => Snd _ _ _ _ _ (.Subscript _ ps _)) h fun l u q h => by
      obtain ⟨h1, h⟩ := both h
      cases none_of h1
      exact onSome_at (P := fun u => Snd _ _ _ _ _ (.Subscript _ (.Slice _ u _ _) _)) h fun pi h => SndE.snd (snd_upto O (ho hs (both h).1).e (hi hs (both h).2).e) fun _ => rfl
  case from_ =>
    exact fun o i ho hi env ρ sc pe hs h => onSub_at h fun po ps p h => onSlice_at (P := fun ps => Snd _ _ _ _ _ (.Subscript _ ps _)) h fun l u q h => by
      obtain ⟨h1, h⟩ := both h
      cases none_of h1
      exact onSome_at (P := fun l => Snd _ _ _ _ _ (.Subscript _ (.Slice l _ _ _) _)) h fun pi h => SndE.snd (snd_from O (ho hs (both h).1).e (hi hs (both h).2).e) fun _ => rfl
  case tup =>
    exact fun es hes env ρ sc pe hs h => onTupE_at h fun l n p h => SndE.snd (snd_tup (both h).1 (hes.l hs (both h).2).1) fun _ => rfl
  case lst =>
    exact fun es hes env ρ sc pe hs h => onLstE_at h fun l p h => SndE.snd (snd_lst (both h).1 (hes.l hs (both h).2).1) fun _ => rfl
  case dct =>
    exact fun es hes env ρ sc pe hs h => onDctE_at h fun ks vs p h => SndE.snd (snd_dct (kdE_or es) (both h).1 (hes.kv hs (both h).2)) fun _ => rfl
  case comp =>
    exact fun x it elt hit helt env ρ sc pe hs h => onComp_at h fun pelt g scope p h => onGen_at (P := fun g => Snd _ _ _ _ _ (.ListComp _ g _ _)) h fun t pit ifs h => by
      obtain ⟨h0, h⟩ := both h
      refine isEmp_at (P := fun ifs => Snd _ _ _ _ _ (.ListComp _ [⟨_, _, ifs, _⟩] _ _)) h0 (onName_at (P := fun t => Snd _ _ _ _ _ (.ListComp _ [⟨t, _, _, _⟩] _ _)) h fun id q h => ?_)
      obtain ⟨h1, h⟩ := both h
      obtain ⟨h2, h⟩ := both h
      obtain ⟨h3, h⟩ := both h
      exact SndE.snd (snd_comp (hs ▸ h2) h1 h3 (hit hs (both h).1).e fun cl D v => turn_plain (helt (by subst hs; rfl) (both h).2).e) fun _ => rfl
  case compIf =>
    exact fun x it cond elt hit hcond helt env ρ sc pe hs h => onComp_at h fun pelt g scope p h => onGen_at (P := fun g => Snd _ _ _ _ _ (.ListComp _ g _ _)) h fun t pit ifs h => by
      refine onOne_at (P := fun ifs => Snd _ _ _ _ _ (.ListComp _ [⟨_, _, ifs, _⟩] _ _)) h fun pc h => onName_at (P := fun t => Snd _ _ _ _ _ (.ListComp _ [⟨t, _, _, _⟩] _ _)) h fun id q h => ?_
      obtain ⟨h1, h⟩ := both h
      obtain ⟨h2, h⟩ := both h
      obtain ⟨h3, h⟩ := both h
      obtain ⟨h4, h⟩ := both h
      exact SndE.snd (snd_comp (hs ▸ h2) h1 h3 (hit hs h4).e fun cl D v => turn_if (hcond (by subst hs; rfl) (both h).1).t (helt (by subst hs; rfl) (both h).2).e) fun _ => rfl
end
end
end Mine
end
section
set_option maxRecDepth 100000
set_option genSizeOf false
set_option genInjectivity false
namespace Mine
open PySem PySem.W PyProof.Rows
variable {W : Wd}

/-- what is handed on behind a statement -/
structure FlowQ (W : Wd) (env : Env) (s : Shared) (μ : Mu) (K : Mine.Flow → AH → Prop) (Q : PySem.Flow → Shared → Prop) : Prop where
  next : ∀ ⦃ρ' H' s' μ'⦄, K (.next ρ') H' → Aft W (XE env) s μ s' μ' H' → Frm W env ρ' s'.heap μ' → Q .next s'
  ret : ∀ ⦃v H' s' μ' u⦄, K (.ret v) H' → Aft W (XE env) s μ s' μ' H' → Rep W s'.heap μ' v u → Q (.ret u) s'
noncomputable def SndS (W : Wd) (j : Nat) (env : Env) (ρ : Loc) (m : M Mine.Flow) (t : Sem PySem.Flow) : Prop :=
  ∀ ⦃A : Around⦄ ⦃E : Value → Shared → Prop⦄ ⦃s : Shared⦄ ⦃μ : Mu⦄ ⦃H : AH⦄ ⦃K : Mine.Flow → AH → Prop⦄ ⦃Q : PySem.Flow → Shared → Prop⦄, At W j env ρ A s μ H → m K H → FlowQ W env s μ K Q → wpAny (model W.prog W.w) A t Q E s
theorem Aft.xe {env : Env} {s μ s' μ' H'} (a : Aft W X0 s μ s' μ' H') : Aft W (XE env) s μ s' μ' H' := a.weak fun _ h => h.elim
theorem FlowQ.after {env s μ s1 μ1 H1 K Q} (hQ : FlowQ W env s μ K Q) (a : Aft W (XE env) s μ s1 μ1 H1) : FlowQ W env s1 μ1 K Q := ⟨fun _ _ _ _ h b F => hQ.next h (a.trans b) F, fun _ _ _ _ _ h b r => hQ.ret h (a.trans b) r⟩

section
variable {j : Nat} {env : Env} {ρ : Loc} {A : Around} {E : Value → Shared → Prop} {s : Shared} {μ : Mu} {H : AH}
/-- on with the frame as it was -/
theorem FlowQ.on {K Q s' μ' H'} (hQ : FlowQ W env s μ K Q) (c : At W j env ρ A s μ H) (a : Aft W X0 s μ s' μ' H') (h : kU ρ K () H') : Q .next s' := hQ.next h a.xe (c.step a).F

theorem sns_nil : SndS W j env ρ (fun K H => K (.next ρ) H) (execs [] env) := fun _ _ _ _ _ _ _ c h hQ => wpAny_execs_nil (hQ.next h (.refl c.R) c.F)
theorem sns_cons {m : M Mine.Flow} {ms : Loc → M Mine.Flow} {st : Stmt} {rest : List Stmt} (h1 : SndS W j env ρ m (exec st env)) (h2 : ∀ ρ', SndS W j env ρ' (ms ρ') (execs rest env)) :
    SndS W j env ρ (fun K H => m (flowK (fun ρ' H => ms ρ' K H) (fun v H => K (.ret v) H)) H) (execs (st :: rest) env) := fun _ _ _ _ _ _ _ c h hQ =>
  wpAny_execs_cons (h1 (Q := fun f s₁ => match f with | .next => wpAny _ _ (execs rest env) _ _ s₁ | f => _) c h ⟨fun ρ' _ _ _ h a F => h2 ρ' ⟨c.hA, a.sr, F⟩ h (hQ.after a), fun _ _ _ _ _ h a r => hQ.ret h a r⟩)

theorem swaps_plain {v : Expr} {t : Option Expr} {l : Nat} (h : notComp v = true) : swapsWith v t l env = pure false := by
  cases v with
  | ListComp _ _ _ _ => exact no h
  | SetComp _ _ _ _ => exact no h
  | DictComp _ _ _ _ _ => exact no h
  | _ => rfl
theorem swaps_attr {v po : Expr} {at_ : Str} {p : Pos} {l : Nat} : swapsWith v (some (.Attribute po at_ p)) l env = pure false := by cases v <;> rfl
theorem swaps_sub {v po pi : Expr} {p : Pos} {l : Nat} : swapsWith v (some (.Subscript po pi p)) l env = pure false := by cases v <;> rfl

theorem sns_asg {m : M V} {x : Nat} {id : Str} {p' pos : Pos} {v : Expr} (hn : isN x id = true) (hl : isLoc env.scope id = true) (hs : swapsWith v (some (.Name id p')) pos.line env = pure false) (h : SndE W j env ρ m v) :
    SndS W j env ρ (fun K H => m (fun v H => K (.next (Mine.put ρ x v)) H) H) (exec (.Assign [.Name id p'] v pos) env) := fun _ _ _ _ _ _ _ c h0 hQ =>
  wpAny_Assign_Name (h c h0 fun _ _ _ _ _ h a r => store_sound a.sr (c.step a).F hn hl r fun _ a2 _ F2 => hQ.next h (a.xe.trans (a2.weak XS.xe)) F2) hs

theorem sns_setattr (O : WAll W) {m mo : M V} {f : Nat} {at_ : Str} {ap pos : Pos} {po v : Expr} (hn : isN f at_ = true) (ho : SndE W j env ρ mo po) (h : SndE W j env ρ m v) :
    SndS W j env ρ (fun K H => m (fun v H => mo (fun vo H => wp (setattrV GL.fld vo f v) (kU ρ K) H) H) H) (exec (.Assign [.Attribute po at_ ap] v pos) env) := fun _ _ _ _ _ _ _ c h0 hQ => by
  obtain ⟨_, rfl, _, _⟩ := isN_at hn
  exact plainObj_wpAny_Assign_Attribute (h c h0 fun _ _ _ _ _ h a1 r1 => ho (c.step a1) h fun _ _ _ _ _ h a2 r2 => setattr_sound h O.toWOk a2.sr r2 (a2.rep a1.sr r1) fun _ _ h a3 => hQ.on c (a1.trans (a2.trans a3)) h) swaps_attr

theorem sns_setitem (O : WAll W) {m mo mi : M V} {ap pos : Pos} {po pi v : Expr} (ho : SndE W j env ρ mo po) (hi : SndE W j env ρ mi pi) (h : SndE W j env ρ m v) :
    SndS W j env ρ (fun K H => m (fun v H => mo (fun vo H => mi (fun vi H => wp (setV vo vi v) (kU ρ K) H) H) H) H) (exec (.Assign [.Subscript po pi ap] v pos) env) := fun _ _ _ _ _ _ _ c h0 hQ =>
  wpAny_Assign_Subscript (h c h0 fun _ _ _ _ _ h a1 r1 => ho (c.step a1) h fun _ _ _ _ _ h a2 r2 => hi (c.step (a1.trans a2)) h fun _ _ _ _ _ h a3 r3 =>
    set_sound h c.hA O.toWOk a3.sr (a3.rep a2.sr r2) r3 ((a2.trans a3).rep a1.sr r1) fun _ _ h a4 => hQ.on c (a1.trans (a2.trans (a3.trans a4))) h) swaps_sub

theorem inplace_sound {op : BOp} {a b : V} {ua ub : Value} {K : V → AH → Prop} {Q : Value → Shared → Prop} (h : wOn op a b K H) (R : SR W μ H s.heap) (ra : Rep W s.heap μ a ua) (rb : Rep W s.heap μ b ub)
    (hQ : Post W s μ K Q) : wpAny (model W.prog W.w) A (inplaceOp (pyB op) ua ub) Q E s := by
  cases op with
  | add => exact ints_sound h ra rb fun x t y u h => P.iadd_int (hQ.int R h)
  | sub => exact ints_sound h ra rb fun x t y u h => P.isub_int (hQ.int R h)
  | _ => exact h.elim

theorem sns_aug {m : M V} {x : Nat} {op : BOp} {id : Str} {p' pos : Pos} {v : Expr} (hn : isN x id = true) (hl : isLoc env.scope id = true) (h : SndE W j env ρ m v) :
    SndS W j env ρ (fun K H => lQ (look ρ x) (fun old H => m (fun v H => wOn op old v (fun r H => K (.next (Mine.put ρ x r)) H) H) H) H) (exec (.AugAssign (.Name id p') (pyB op) v pos) env) := fun _ _ _ _ _ _ _ c h0 hQ => by
  obtain ⟨old, e, h0⟩ := lQ.of h0
  exact wpAny_AugAssign_Name (name_sound c.F e hn hl fun uo ro => h c h0 fun _ _ _ _ _ h a1 r1 => inplace_sound h a1.sr (a1.rep c.R ro) r1 fun _ _ _ _ _ h a2 r2 =>
    have a12 := a1.trans a2; store_sound a2.sr (c.step a12).F hn hl r2 fun _ a3 _ F3 => hQ.next h (a12.xe.trans (a3.weak XS.xe)) F3)

theorem sns_augattr (O : WAll W) {m mo : M V} {f : Nat} {op : BOp} {at_ : Str} {ap pos : Pos} {po v : Expr} (hn : isN f at_ = true) (ho : SndE W j env ρ mo po) (hv : SndE W j env ρ m v) :
    SndS W j env ρ (fun K H => mo (fun vo H => wp (attrV GL.fld vo f) (fun old H => m (fun v H => wOn op old v (fun r H => wp (setattrV GL.fld vo f r) (kU ρ K) H) H) H) H) H) (exec (.AugAssign (.Attribute po at_ ap) (pyB op) v pos) env) := fun _ _ _ _ _ _ _ c h0 hQ => by
  obtain ⟨_, rfl, _, _⟩ := isN_at hn
  refine wpAny_AugAssign_AttributeAny (ho c h0 fun _ _ _ _ _ h a1 r1 => attr_sound h O.toWOk a1.sr r1 fun _ _ _ _ _ h' a2 r2 => ?_)
  have a12 := a1.trans a2
  exact hv (c.step a12) h' fun _ _ _ _ _ h a3 r3 => inplace_sound h a3.sr (a3.rep a2.sr r2) r3 fun _ _ _ _ _ h a4 r4 => setattr_sound h O.toWOk a4.sr ((a2.trans (a3.trans a4)).rep a1.sr r1) r4 fun _ _ h a5 => hQ.on c (a12.trans (a3.trans (a4.trans a5))) h

theorem augStore_of {pi : Expr} (h : notSlice pi = true) (ov iv new : Value) : augStore pi ov iv new = (do holding [new, ov, iv] (setItem ov iv new); release [new, ov, iv] []; pure .next) := by
  cases pi with
  | Slice _ _ _ _ => exact no h
  | _ => rfl
theorem sns_augitem (O : WAll W) {m mo mi : M V} {op : BOp} {ap pos : Pos} {po pi v : Expr} (hs : notSlice pi = true) (ho : SndE W j env ρ mo po) (hi : SndE W j env ρ mi pi) (h : SndE W j env ρ m v) :
    SndS W j env ρ (fun K H => mo (fun vo H => mi (fun vi H => wSub vo vi (fun old H => m (fun v H => wOn op old v (fun r H => wp (setV vo vi r) (kU ρ K) H) H) H) H) H) H) (exec (.AugAssign (.Subscript po pi ap) (pyB op) v pos) env) := fun A E _ _ _ _ _ c h0 hQ => by
  refine wpAny_AugAssign_SubscriptAny (ho c h0 fun _ _ _ _ uo h1 a1 r1 => hi (c.step a1) h1 fun _ _ s2 _ ui h2 a2 r2 => ?_) (augStore_of hs)
  have ro2 := a2.rep a1.sr r1
  refine wSub_sound (T := fun uo ui => wpAny _ A (getItem uo ui) _ E s2) h2 a2.sr ro2 r2 (fun _ _ _ _ _ h3 a3 r3 => ?_) fun _ _ g => g
  have a13 := a1.trans (a2.trans a3)
  exact h (c.step a13) h3 fun _ _ _ _ _ h a4 r4 => inplace_sound h a4.sr (a4.rep a3.sr r3) r4 fun _ _ _ _ _ h a5 r5 =>
    have a35 := a3.trans (a4.trans a5); set_sound h c.hA O.toWOk a5.sr (a35.rep a2.sr ro2) (a35.rep a2.sr r2) r5 fun _ _ h a6 => hQ.on c (a13.trans (a4.trans (a5.trans a6))) h

theorem sns_del (O : WAll W) {mo mi : M V} {ap pos : Pos} {po pi : Expr} (ho : SndE W j env ρ mo po) (hi : SndE W j env ρ mi pi) :
    SndS W j env ρ (fun K H => mo (fun vo H => mi (fun vi H => wp (delV vo vi) (kU ρ K) H) H) H) (exec (.Delete [.Subscript po pi ap] pos) env) := fun A E s μ H K Q c h0 hQ => by
  show wpAny _ _ (do standAt pos; (do delete (.Subscript po pi ap) env; pure ()); pure PySem.Flow.next : Sem PySem.Flow) _ _ s
  exact wpAny_bind (wpAny_standAt (wpAny_bind (wpAny_bind (wpAny_delete_Subscript (ho c h0 fun _ _ _ _ _ h a1 r1 => hi (c.step a1) h fun _ _ _ _ _ h a2 r2 => del_sound h c.hA O.toWOk a2.sr (a2.rep a1.sr r1) r2 fun _ _ h a3 =>
    wpAny_pure (wpAny_pure (hQ.on c (a1.trans (a2.trans a3)) h)))))))

theorem sns_ite {mc : M V} {mt me : M Mine.Flow} {pc : Expr} {pt pe : List Stmt} {pos : Pos} (hc : SndT W j env ρ mc pc) (ht : SndS W j env ρ mt (execs pt env)) (he : SndS W j env ρ me (execs pe env)) :
    SndS W j env ρ (fun K H => mc (fun v H => wTru v (fun b H => ifK b (mt K H) (me K H)) H) H) (exec (.If pc pt pe pos) env) := fun A E s μ H K Q c h0 hQ =>
  wpAny_If (hc c h0 fun _ _ _ _ h a => h.imp fun b h => ifK_at h (fun h => ht (c.step a) h (hQ.after a.xe)) fun h => he (c.step a) h (hQ.after a.xe))

theorem sns_ret {m : M V} {v : Expr} {pos : Pos} (h : SndE W j env ρ m v) : SndS W j env ρ (fun K H => m (fun v H => K (.ret v) H) H) (exec (.Return (some v) pos) env) := fun _ _ _ _ _ _ _ c h0 hQ =>
  wpAny_Return_some (h c h0 fun _ _ _ _ _ h a r => hQ.ret h a.xe r)
theorem sns_expr {m : M V} {v : Expr} {pos : Pos} (hs : notComp v = true) (h : SndE W j env ρ m v) : SndS W j env ρ (fun K H => m (fun _ H => K (.next ρ) H) H) (exec (.Expr v pos) env) := fun _ _ _ _ _ _ _ c h0 hQ =>
  wpAny_Expr_any (h c h0 fun _ _ _ _ _ h a r => hQ.on c a h) (by unfold interactive; rw [c.F.kind]; rfl) (swaps_plain hs)

/-! loops -/
theorem letOwned_iter {it : It} {I : Addr} {elts : List Expr} {x1 : Nat} {pos : Pos} {u : Value} {Q : Unit → Shared → Prop} (r : IterR W s.heap μ I it) (hQ : Q () s) :
    wpAny (model W.prog W.w) A (letOwnedTupleGo (.Tuple elts x1 pos) (.ref I) u) Q E s := by
  have key : ∀ (o : Obj) (T : Addr) (n : String) (vs : Array Value), s.heap.get? I = some o → o.cls = .type n → o.data = .fields vs → (["enumerate", "zip", "dict_itemiterator", "dict_reverseitemiterator", "odict_iterator", "itertools.zip_longest", "itertools.pairwise"].contains n) = false →
      wpAny (model W.prog W.w) A (letOwnedTupleGo (.Tuple elts x1 pos) (.ref I) (.ref T)) Q E s := fun o T n vs ho hc hd hn => by
    unfold letOwnedTupleGo
    refine wpAny_bind (wpAny_load ho ?_)
    rw [hc, hd]
    dsimp only
    rw [if_neg (by rw [hn, Bool.false_and]; decide)]
    exact wpAny_pure hQ
  cases u with
  | ref T =>
    cases it with
    | tup l => obtain ⟨t, items, i, ⟨o, ho, hc, hd⟩, _⟩ := r; exact key o T _ _ ho hc hd (by decide)
    | lst a i => obtain ⟨p, _, ⟨o, ho, hc, hd⟩⟩ := r; exact key o T _ _ ho hc hd (by decide)
    | rng i n => exact key _ T _ _ r rfl rfl (by decide)
  | _ => exact wpAny_pure hQ

theorem sns_while {mc : Loc → M V} {mb : Loc → M Mine.Flow} {pc : Expr} {pb : List Stmt} {pos : Pos} (hc : ∀ ρ, SndT W j env ρ (mc ρ) pc) (hb : ∀ ρ, SndS W j env ρ (mb ρ) (execs pb env)) :
    SndS W j env ρ (fun K H => wp (whileL (fun ρ Q => mc ρ (fun v H => wTru v Q H)) (fun ρ Q H => mb ρ Q H) fuelL ρ) K H) (exec (.While pc pb [] pos) env) := fun A E s μ H K Q c h0 hQ => by
  refine wpAny_While (codeAny_whileLoop (fun n s' => ∃ μ1 H1 ρ1, Aft W (XE env) s μ s' μ1 H1 ∧ Frm W env ρ1 s'.heap μ1 ∧ whileL (fun ρ Q => mc ρ (fun v H => wTru v Q H)) (fun ρ Q H => mb ρ Q H) n ρ1 K H1) ?_ fuelL ⟨μ, H, ρ, .refl c.R, c.F, h0⟩)
  rintro n s1 ⟨μ1, H1, ρ1, a1, F1, e1⟩
  cases n with
  | zero => exact e1.elim
  | succ n =>
    have c1 : At W j env ρ1 A s1 μ1 H1 := ⟨c.hA, a1.sr, F1⟩
    refine hc ρ1 c1 e1 fun v H2 s2 μ2 h a2 => h.imp fun b h => ?_
    cases b with
    | false => rw [if_neg (by decide)]; exact wpAny_execs_nil (hQ.next h (a1.trans a2.xe) (c1.step a2).F)
    | true => rw [if_pos rfl]; exact hb ρ1 (c1.step a2) h ⟨fun ρ' H3 s3 μ3 h a3 F3 => ⟨n, Nat.lt_succ_self n, μ3, H3, ρ', a1.trans (a2.xe.trans a3), F3, h⟩, fun _ _ _ _ _ h a3 r3 => hQ.ret h (a1.trans (a2.xe.trans a3)) r3⟩

/-- a target takes its value -/
noncomputable def TgtOk (W : Wd) (j : Nat) (env : Env) (f : V → Loc → (Loc → Prop) → Prop) (tgt : Expr) : Prop :=
  ∀ ⦃A : Around⦄ ⦃E : Value → Shared → Prop⦄ ⦃s : Shared⦄ ⦃μ : Mu⦄ ⦃H : AH⦄ ⦃ρ : Loc⦄ ⦃v : V⦄ ⦃u : Value⦄ ⦃k : Loc → Prop⦄ ⦃Q : Unit → Shared → Prop⦄, At W j env ρ A s μ H → f v ρ k → Rep W s.heap μ v u →
    (∀ ⦃ρ' s'⦄, k ρ' → Aft W (XE env) s μ s' μ H → Frm W env ρ' s'.heap μ → Q () s') → wpAny (model W.prog W.w) A (assign tgt env u) Q E s
/-- the iterator stays -/
theorem IterR.xe {s' : Shared} {μ' : Mu} {H' : AH} {I : Addr} {it : It} (r : IterR W s.heap μ I it) (R : SR W μ H s.heap) (F : Frm W env ρ s.heap μ) (a : Aft W (XE env) s μ s' μ' H') (hI : ∀ b, XE env b → b ≠ I) : IterR W s'.heap μ' I it :=
  r.keep (a.st.mv R F.xe) fun o e => a.st.kept I o (fun hX => hI I hX rfl) (r.notMu R) e
theorem sns_for {mi : M V} {mb : Loc → M Mine.Flow} {f : V → Loc → (Loc → Prop) → Prop} {tgt pit : Expr} {pb : List Stmt} {pos : Pos}
    (hs : notSet pit = true) (hi : SndE W j env ρ mi pit) (ht : TgtOk W j env f tgt) (hb : ∀ ρ, SndS W j env ρ (mb ρ) (execs pb env))
    (howned : ∀ ⦃A E s μ it u I⦄ ⦃Q : Unit → Shared → Prop⦄, IterR W s.heap μ I it → Q () s → wpAny (model W.prog W.w) A (letOwnedTupleGo tgt (.ref I) u) Q E s) :
    SndS W j env ρ (fun K H => mi (fun v H => wIt v (fun it H => wp (forL (fun v ρ Q H => f v ρ fun ρ' => mb ρ' Q H) fuelL it ρ) K H) H) H) (exec (.For tgt pit pb [] pos) env) := fun A E s μ H K Q c h0 hQ => by
  refine wpAny_For (hi c h0 fun v H1 s1 μ1 u h a1 r1 => iter_sound h a1.sr r1 fun it o h hI => ?_) (folded_of hs)
  have c1 := c.step a1
  have dI : s1.heap.get? s1.heap.objs.size = Option.none := get?_size _
  have nX : ∀ b, XE env b → b ≠ s1.heap.objs.size := fun b hX => have ⟨_, ho⟩ := c1.F.live hX; live_ne ho dI
  have ag : Aft W X0 s1 μ1 { s1 with heap := s1.heap.push o } μ1 H1 := Aft.push a1.sr o
  refine codeAny_forLoop_any (fun n s => ∃ μ H it ρ, (Aft W (XE env) s1 μ1 s μ H ∧ Frm W env ρ s.heap μ ∧ IterR W s.heap μ s1.heap.objs.size it) ∧ forL (fun v ρ Q H => f v ρ fun ρ' => mb ρ' Q H) n it ρ K H) ?_ fuelL ⟨μ1, H1, it, ρ, ⟨ag.xe, (c1.step ag).F, hI⟩, h⟩
  rintro n s ⟨μ, H, it, ρ, ⟨a, F, hI⟩, he⟩
  cases n with
  | zero => exact he.elim
  | succ n =>
    have step : ∀ {h' t}, Heap.ExtBut s1.heap.objs.size s.heap h' → (Aft W (XE env) s1 μ1 { s with heap := h', toks := t } μ H ∧ Frm W env ρ h' μ) ∧ Mv s.heap μ h' μ := fun {h' t} hx =>
      have ⟨R1, m⟩ := a.sr.but hx (hI.notMu a.sr) (a1.sr.off dI) hI.notFixed
      ⟨⟨⟨a.st.but hx dI, R1, a.gens, a.os⟩, F.move (fun b o hb e => hx b o (nX b hb) e) m fun _ _ _ _ u => u⟩, m⟩
    refine next_sound (d := K (.next ρ) H) (k := fun v it' => f v ρ fun ρ' => mb ρ' (flowK (fun ρ' H => forL (fun v ρ Q H => f v ρ fun ρ' => mb ρ' Q H) n it' ρ' K H) (fun u H => K (.ret u) H)) H) c.hA.handled he a.sr hI (fun h h' hx => ?_) fun v it' h' t u h hs' hit' hu => ?_
    · obtain ⟨⟨a2, F2⟩, _⟩ := step (t := s.toks) hx
      exact wpAny_execs_nil (hQ.next h (a1.xe.trans a2) F2)
    · obtain ⟨⟨a2, F2⟩, m⟩ := step (t := t) hs'.extBut
      refine howned (s := { s with heap := h', toks := t }) hit' (ht ⟨c.hA, a2.sr, F2⟩ h (Rep.mv m _ hu) fun ρ' s3 h a3 F3 => ?_)
      have it3 := IterR.xe (s := { s with heap := h', toks := t }) hit' a2.sr F2 a3 nX
      exact hb ρ' ⟨c.hA, a3.sr, F3⟩ h ⟨fun ρ4 H4 s4 μ4 h a4 F4 => ⟨n, Nat.lt_succ_self n, μ4, H4, it', ρ4, ⟨a2.trans (a3.trans a4), F4, it3.xe a3.sr F3 a4 nX⟩, h⟩, fun _ _ _ _ _ h a4 r4 => hQ.ret h (a1.xe.trans (a2.trans (a3.trans a4))) r4⟩

theorem tgt_name {x : Nat} {id : Str} {p : Pos} (hn : isN x id = true) (hl : isLoc env.scope id = true) : TgtOk W j env (fun v ρ k => k (Mine.put ρ x v)) (.Name id p) := fun _ _ _ _ _ _ _ _ _ _ c h r hQ =>
  wpAny_assign_Name (store_sound c.R c.F hn hl r fun _ a2 _ F2 => hQ h (a2.weak XS.xe) F2)
theorem onPair.rep {h : Heap} {v : V} {u : Value} {f : V → V → Prop} (z : onPair v f) (r : Rep W h μ v u) : ∃ a b t items ua ub, u = .ref t ∧ h.IsTuple t items ∧ items.toList = [ua, ub] ∧ Rep W h μ a ua ∧ Rep W h μ b ub ∧ f a b := by
  cases v with
  | tup l =>
    obtain ⟨t, items, rfl, ht, hl⟩ := r
    cases l with
    | nil => exact z.elim
    | cons a l => cases l with
      | nil => exact z.elim
      | cons b l => cases l with
        | nil =>
          obtain ⟨ua, us, e1, ra, ub, us', rfl, rb, e3⟩ := hl
          cases (e3 : _ = _)
          exact ⟨a, b, t, items, ua, ub, rfl, ht, e1, ra, rb, z⟩
        | cons _ _ => exact z.elim
  | _ => exact z.elim
theorem tgt_pair {x y : Nat} {i1 i2 : Str} {p1 p2 p : Pos} {n : Nat} (hn : isN x i1 = true) (hl : isLoc env.scope i1 = true) (hn2 : isN y i2 = true) (hl2 : isLoc env.scope i2 = true) :
    TgtOk W j env (fun v ρ k => onPair v fun a b => k (Mine.put (Mine.put ρ x a) y b)) (.Tuple [.Name i1 p1, .Name i2 p2] n p) := fun A E s μ H ρ v u k Q c h r hQ => by
  obtain ⟨a, b, t, items, ua, ub, rfl, ht, e1, ra, rb, h⟩ := h.rep r
  have hz : items.size = 2 := by rw [← Array.length_toList, e1]; rfl
  refine wpAny_assign_Tuple c.hA.handled ht (by rw [hz]; rfl) rfl fun h' hx => ?_
  have ag : Aft W X0 s μ { s with heap := h', toks := s.toks } μ H := Aft.grow c.R fun b o e => hx b o (Nat.ne_of_lt (Heap.lt_size e)) e
  rw [e1]
  exact wpAny_assignInOrder_more (wpAny_assign_Name (store_sound ag.sr (c.step ag).F hn hl (ag.rep c.R ra) fun s2 a2 m2 F2 =>
    wpAny_assignInOrder_more (wpAny_assign_Name (store_sound a2.sr F2 hn2 hl2 (Rep.mv m2 _ (ag.rep c.R rb)) fun s3 a3 m3 F3 => wpAny_assignInOrder_none (hQ h (ag.xe.trans ((a2.weak XS.xe).trans (a3.weak XS.xe))) F3)))))

theorem sns_asg2 {m : M V} {x y : Nat} {i1 i2 : Str} {p1 p2 p pos : Pos} {n : Nat} {v : Expr} (hn : isN x i1 = true) (hl : isLoc env.scope i1 = true) (hn2 : isN y i2 = true) (hl2 : isLoc env.scope i2 = true)
    (hs : notComp v = true) (hv : notTup v = true) (h : SndE W j env ρ m v) :
    SndS W j env ρ (fun K H => m (fun v H => onPair v fun a b => K (.next (Mine.put (Mine.put ρ x a) y b)) H) H) (exec (.Assign [.Tuple [.Name i1 p1, .Name i2 p2] n p] v pos) env) := fun A E s μ H K Q c h0 hQ => by
  have hw : swappedStores [.Tuple [.Name i1 p1, .Name i2 p2] n p] v env = pure none := by
    cases v with
    | Tuple _ _ _ => exact no hv
    | _ => rfl
  exact Assign_Tuple (h c h0 fun _ H' _ _ _ h a r => tgt_pair (k := fun ρ' => K (.next ρ') H') hn hl hn2 hl2 (c.step a) h r fun _ _ h a2 F2 => hQ.next h (a.xe.trans a2) F2) (show swapsWith v (some (.Tuple [.Name i1 p1, .Name i2 p2] n p)) pos.line env = pure false from swaps_plain hs) hw
end
end Mine
end
section
set_option maxRecDepth 100000
set_option genSizeOf false
set_option genInjectivity false
namespace Mine
open PySem PySem.W PyProof.Rows
variable {W : Wd}
section
variable {j : Nat} {env : Env} {ρ : Loc} {A : Around} {E : Value → Shared → Prop} {s : Shared} {μ : Mu} {H : AH}

/-- a comprehension stored in passing -/
theorem sns_asg_comp {mit : M V} {f : V → M (Option V)} {x y : Nat} {cid id : Str} {p p' vp pos : Pos} {pelt pit : Expr} {ifs : List Expr} {scope : Scope} (hok : okComp scope env.scope cid = true) (hcn : isN x cid = true) (hs : notSet pit = true)
    (hit : SndE W j env ρ mit pit) (hturn : ∀ cl C v, TurnOk W j (compEnvC scope cl C env) (Mine.put ρ x v) (f v) ifs pelt) (hn : isN y id = true) (hk : env.kindOf id = some .local)
    (hsw : swapsWith (.ListComp pelt [⟨.Name cid p, pit, ifs, 0⟩] scope vp) (some (.Name id p')) pos.line env = pure true) :
    SndS W j env ρ (fun K H => mit (fun v H => wIt v (fun it H => wp (compL f fuelL it []) (fun vs H => wAl (.lst vs) (fun v H => K (.next (Mine.put ρ y v)) H) H) H) H) H)
      (exec (.Assign [.Name id p'] (.ListComp pelt [⟨.Name cid p, pit, ifs, 0⟩] scope vp) pos) env) := fun A E s μ H K Q c h0 hQ => by
  have hl : isLoc env.scope id = true := by unfold isLoc; rw [lookK_eq, show env.scope.names.lookup id = some .local from hk]
  rw [exec_Assign_Name_used _ _ _ _ hsw]
  refine wpAny_bind (wpAny_standAt (wpAny_bind ?_))
  show wpAny _ A (do let _ ← comprehension (.ListComp pelt [⟨.Name cid p, pit, ifs, 0⟩] scope vp) scope env _ (newList []) false (eval pit env) (some (assign (.Name id p') env))) _ _ s
  refine wpAny_bind (wpAny_mono (comp_core (use := some (assign (.Name id p') env)) (Q := fun _ s' => Q .next s') hok hcn hs hit hturn c h0 fun v H1 s1 μ1 D C m h a1 r1 hm dC nC hB hne => ?_) (fun _ _ h => wpAny_pure (wpAny_pure h)) fun _ _ h => h)
  refine wpAny_assign_Name (store_sound a1.sr (c.step a1).F hn hl r1 fun s2 a2 m2 F2 => ?_)
  have nX : ¬ XS env id C := fun hX => hX.elim (fun z => hne env.locals (.inl rfl) z.2.symm) fun z => z.1 hk
  obtain ⟨o, es, ep, ho, r⟩ := hm
  have hm2 : s2.heap.Ns C m := ⟨o, es, ep, a2.st.kept C o nX nC ho, r⟩
  refine ⟨m, hm2, fun h' hs' => ?_⟩
  obtain ⟨R3, m3⟩ := a2.sr.but hs'.extBut nC hB (Heap.Ns.notFixed hm2)
  have a12 := a1.xe.trans (a2.weak XS.xe)
  exact hQ.next (s' := { s2 with heap := h' }) h ⟨a12.st.but hs'.extBut dC, R3, a12.gens, a12.os⟩ (F2.move (fun b o hb e => hs'.extBut b o (hne b hb) e) m3 fun _ _ _ _ u => u)

theorem swaps_cell {pelt : Expr} {gens : List Comprehension} {scope : Scope} {vp p' : Pos} {id : Str} {l : Nat} (h : ¬ env.kindOf id = some .local) : swapsWith (.ListComp pelt gens scope vp) (some (.Name id p')) l env = pure false := by
  show (pure _ : Sem Bool) = pure false
  have : (env.kindOf id == some .local) = false := by simpa using h
  rw [this]; simp
theorem swaps_local {pelt : Expr} {gens : List Comprehension} {scope : Scope} {vp p' : Pos} {id : Str} {l : Nat} (hf : env.scope.kind = .function) (h : env.kindOf id = some .local) (hp : p'.line = vp.line)
    (hn : (scope.names.all fun y => !((y.1 == id) && (y.2 == .local || y.2 == .cell))) = true) : swapsWith (.ListComp pelt gens scope vp) (some (.Name id p')) l env = pure true := by
  show (pure _ : Sem Bool) = pure true
  have hb : (env.blockKind == .function) = true := by unfold Env.blockKind; rw [hf]; rfl
  have hl : (env.kindOf id == some .local) = true := by rw [h]; rfl
  have hp' : (p'.line == vp.line) = true := beq_iff_eq.mpr hp
  have hn' : (scope.names.any fun (n, k) => n == id && (k == .local || k == .cell)) = false := by
    rw [List.any_eq_false]
    intro y hy
    have := List.all_eq_true.mp hn y hy
    intro hc
    have hc : ((y.1 == id) && (y.2 == .local || y.2 == .cell)) = true := hc
    rw [hc] at this; cases this
  rw [hb, hl]
  show pure (true && true && (p'.line == vp.line) && !(scope.names.any fun (n, k) => n == id && (k == .local || k == .cell))) = _
  rw [hp', hn']; rfl
end

/-- the text of a statement is sound -/
noncomputable def PS (W : Wd) (C : Nat → List V → M V) (j : Nat) (st : S) : Prop := ∀ ⦃env : Env⦄ ⦃ρ : Loc⦄ ⦃sc : Scope⦄ ⦃ps : Stmt⦄, env.scope = sc → sc.kind = .function → isS st sc ps = true → SndS W j env ρ (wS C st ρ) (exec ps env)
noncomputable def PSs (W : Wd) (C : Nat → List V → M V) (j : Nat) (ss : Ss) : Prop := ∀ ⦃env : Env⦄ ⦃ρ : Loc⦄ ⦃sc : Scope⦄ ⦃ps : List Stmt⦄, env.scope = sc → sc.kind = .function → isSs ss sc ps = true → SndS W j env ρ (wSs C ss ρ) (execs ps env)
@[elab_as_elim] theorem isLocE_at {x : Nat} {sc : Scope} {e : Expr} {P : Expr → Prop} (h : isLocE x sc e = true) (k : ∀ id p, isN x id = true → isLoc sc id = true → P (.Name id p)) : P e := onName_at h fun id p h => k id p (both h).1 (both h).2
@[elab_as_elim] theorem isPairE_at {x y : Nat} {sc : Scope} {e : Expr} {P : Expr → Prop} (h : isPairE x y sc e = true) (k : ∀ i1 p1 i2 p2 n p, isN x i1 = true → isLoc sc i1 = true → isN y i2 = true → isLoc sc i2 = true → P (.Tuple [.Name i1 p1, .Name i2 p2] n p)) : P e :=
  onTupE_at h fun l n p h => onDuo_at (P := fun l => P (.Tuple l n p)) h fun a b h => isLocE_at (P := fun a => P (.Tuple [a, b] n p)) (both h).1 fun i1 p1 h1 h2 => isLocE_at (P := fun b => P (.Tuple [_, b] n p)) (both h).2 fun i2 p2 h3 h4 => k i1 p1 i2 p2 n p h1 h2 h3 h4
section
variable (O : WAll W) {C : Nat → List V → M V} {j : Nat} (hC : CallOk W j C)
include O hC
/-- a comprehension's parts -/
theorem comp_parts {cx : Nat} {it elt : E} {env : Env} {ρ : Loc} {sc : Scope} {pelt : Expr} {g : List Comprehension} {scope : Scope} {vp : Pos} {P : List Comprehension → Prop} (hs : env.scope = sc) (h : isE (.comp cx it elt) sc (.ListComp pelt g scope vp) = true)
    (k : ∀ cid q pit ifs, okComp scope env.scope cid = true → isN cx cid = true → notSet pit = true → SndE W j env ρ (wE C it ρ) pit → (∀ cl D v, TurnOk W j (compEnvC scope cl D env) (Mine.put ρ cx v) (fun Q => wE C elt (Mine.put ρ cx v) fun y H => Q (some y) H) ifs pelt) → P [⟨.Name cid q, pit, ifs, 0⟩]) : P g := by
  have h : onGen g (fun t pit ifs => isEmp ifs && onName t fun id => isN cx id && (okComp scope sc id && (notSet pit && (isE it sc pit && isE elt (relabS scope sc) pelt)))) = true := h
  refine onGen_at h fun t pit ifs h => ?_
  obtain ⟨h0, h⟩ := both h
  refine isEmp_at (P := fun ifs => P [⟨t, pit, ifs, 0⟩]) h0 (onName_at (P := fun t => P [⟨t, pit, [], 0⟩]) h fun id q h => ?_)
  obtain ⟨h1, h⟩ := both h
  obtain ⟨h2, h⟩ := both h
  obtain ⟨h3, h⟩ := both h
  exact k id q pit [] (hs ▸ h2) h1 h3 (evE_sound O hC it hs (both h).1).e fun cl D v => turn_plain (evE_sound O hC elt (by subst hs; rfl) (both h).2).e
theorem compIf_parts {cx : Nat} {it cond elt : E} {env : Env} {ρ : Loc} {sc : Scope} {pelt : Expr} {g : List Comprehension} {scope : Scope} {vp : Pos} {P : List Comprehension → Prop} (hs : env.scope = sc) (h : isE (.compIf cx it cond elt) sc (.ListComp pelt g scope vp) = true)
    (k : ∀ cid q pit ifs, okComp scope env.scope cid = true → isN cx cid = true → notSet pit = true → SndE W j env ρ (wE C it ρ) pit →
      (∀ cl D v, TurnOk W j (compEnvC scope cl D env) (Mine.put ρ cx v) (fun Q => wE C cond (Mine.put ρ cx v) fun c H => wTru c (fun b H => ifK b (wE C elt (Mine.put ρ cx v) (fun y H => Q (some y) H) H) (Q none H)) H) ifs pelt) → P [⟨.Name cid q, pit, ifs, 0⟩]) : P g := by
  have h : onGen g (fun t pit ifs => onOne ifs fun pc => onName t fun id => isN cx id && (okComp scope sc id && (notSet pit && (isE it sc pit && (isE cond (relabS scope sc) pc && isE elt (relabS scope sc) pelt))))) = true := h
  refine onGen_at h fun t pit ifs h => onOne_at (P := fun ifs => P [⟨t, pit, ifs, 0⟩]) h fun pc h => onName_at (P := fun t => P [⟨t, pit, [pc], 0⟩]) h fun id q h => ?_
  obtain ⟨h1, h⟩ := both h
  obtain ⟨h2, h⟩ := both h
  obtain ⟨h3, h⟩ := both h
  obtain ⟨h4, h⟩ := both h
  exact k id q pit [pc] (hs ▸ h2) h1 h3 (evE_sound O hC it hs h4).e fun cl D v => turn_if (evE_sound O hC cond (by subst hs; rfl) (both h).1).t (evE_sound O hC elt (by subst hs; rfl) (both h).2).e
theorem asg_sound (x : Nat) (e : E) : PS W C j (.asg x e) := fun env ρ sc ps hs hf h => onAsg_at h fun t v pos h => onNameP_at (P := fun t => SndS _ _ _ _ _ (exec (.Assign [t] v pos) env)) h fun id p' h => by
  obtain ⟨h1, h⟩ := both h
  obtain ⟨h2, h⟩ := both h
  obtain ⟨h3, h⟩ := both h
  have plain : ∀ hsw : swapsWith v (some (.Name id p')) pos.line env = pure false, SndS W j env ρ (wS C (.asg x e) ρ) (exec (.Assign [.Name id p'] v pos) env) := fun hsw => sns_asg h1 (hs ▸ h2) hsw (evE_sound O hC e hs h).e
  cases v with
  | ListComp pelt g scope vp =>
    by_cases hloc : env.kindOf id = some .local
    · have hloc' : sc.names.lookup id = some .local := hs ▸ hloc
      have h11 : storedIn sc id p' scope vp = true := by
        have e : decide (sc.names.lookup id ≠ some .local) = false := decide_eq_false fun n => n hloc'
        have h3 : (decide (sc.names.lookup id ≠ some .local) || storedIn sc id p' scope vp) = true := h3
        rwa [e, Bool.false_or] at h3
      obtain ⟨h12, h13⟩ := both (both h11).2
      have hsw := fun g => swaps_local (pelt := pelt) (gens := g) (l := pos.line) (hs ▸ hf) hloc (of_decide_eq_true h12) h13
      cases e with
      | comp cx it elt =>
        exact comp_parts O hC (P := fun g => SndS W j env ρ _ (exec (.Assign [.Name id p'] (.ListComp pelt g scope vp) pos) env)) hs h fun cid q pit ifs g1 g2 g3 g4 g5 => sns_asg_comp g1 g2 g3 g4 g5 h1 hloc (hsw _)
      | compIf cx it cond elt =>
        exact compIf_parts O hC (P := fun g => SndS W j env ρ _ (exec (.Assign [.Name id p'] (.ListComp pelt g scope vp) pos) env)) hs h fun cid q pit ifs g1 g2 g3 g4 g5 => sns_asg_comp g1 g2 g3 g4 g5 h1 hloc (hsw _)
      | _ => exact no h
    · exact plain (swaps_cell hloc)
  | _ => exact plain (swaps_plain h3)

theorem evSs_sound (ss : Ss) : PSs W C j ss := by
  refine @Ss.rec (fun st => PS W C j st) (fun ss => PSs W C j ss) (asg_sound O hC) ?asg2 ?setattr ?setitem ?aug ?augattr ?augitem ?del ?ite ?whil ?for_ ?for2 ?ret ?expr ?raise ?nil ?cons ss
  case asg2 =>
    exact fun x y e env ρ sc ps hs hf h => onAsg_at h fun t v pos h => by
      obtain ⟨h1, h⟩ := both h
      obtain ⟨h2, h⟩ := both h
      refine isPairE_at (P := fun t => SndS _ _ _ _ _ (exec (.Assign [t] v pos) env)) h1 fun i1 p1 i2 p2 n p g1 g2 g3 g4 => ?_
      exact sns_asg2 g1 (hs ▸ g2) g3 (hs ▸ g4) h2 (both h).1 (evE_sound O hC e hs (both h).2).e
  case setattr =>
    exact fun o f e env ρ sc ps hs hf h => onAsg_at h fun t v pos h => onAttr_at (P := fun t => SndS _ _ _ _ _ (exec (.Assign [t] v pos) env)) h fun po at_ p h =>
      have ⟨h1, h⟩ := both h; sns_setattr O h1 (evE_sound O hC o hs (both h).1).e (evE_sound O hC e hs (both h).2).e
  case setitem =>
    exact fun o i e env ρ sc ps hs hf h => onAsg_at h fun t v pos h => onSub_at (P := fun t => SndS _ _ _ _ _ (exec (.Assign [t] v pos) env)) h fun po pi p h =>
      have ⟨h1, h⟩ := both h; have ⟨h2, h⟩ := both h; sns_setitem O (evE_sound O hC o hs h2).e (evE_sound O hC i hs (both h).1).e (evE_sound O hC e hs (both h).2).e
  case aug =>
    exact fun x op e env ρ sc ps hs hf h => onAug_at h fun t q v pos h => by
      obtain ⟨h1, h⟩ := both h
      refine decE (fun q => SndS W j env ρ _ (exec (.AugAssign t q v pos) env)) h fun h => isLocE_at (P := fun t => SndS _ _ _ _ _ (exec (.AugAssign t _ v pos) env)) h1 fun id p g1 g2 => ?_
      exact sns_aug g1 (hs ▸ g2) (evE_sound O hC e hs h).e
  case augattr =>
    exact fun o f op e env ρ sc ps hs hf h => onAug_at h fun t q v pos h => onAttr_at (P := fun t => SndS _ _ _ _ _ (exec (.AugAssign t q v pos) env)) h fun po at_ p h => by
      obtain ⟨h1, h⟩ := both h
      exact decE (fun q => SndS W j env ρ _ (exec (.AugAssign (.Attribute po at_ p) q v pos) env)) h fun h => sns_augattr O h1 (evE_sound O hC o hs (both h).1).e (evE_sound O hC e hs (both h).2).e
  case augitem =>
    exact fun o i op e env ρ sc ps hs hf h => onAug_at h fun t q v pos h => onSub_at (P := fun t => SndS _ _ _ _ _ (exec (.AugAssign t q v pos) env)) h fun po pi p h => by
      obtain ⟨h1, h⟩ := both h
      exact decE (fun q => SndS W j env ρ _ (exec (.AugAssign (.Subscript po pi p) q v pos) env)) h fun h => have ⟨h2, h⟩ := both h; sns_augitem O h1 (evE_sound O hC o hs h2).e (evE_sound O hC i hs (both h).1).e (evE_sound O hC e hs (both h).2).e
  case del =>
    exact fun o i env ρ sc ps hs hf h => onDel_at h fun t pos h => onSub_at (P := fun t => SndS _ _ _ _ _ (exec (.Delete [t] pos) env)) h fun po pi p h => sns_del O (evE_sound O hC o hs (both h).1).e (evE_sound O hC i hs (both h).2).e
  case ite =>
    exact fun c t e ht he env ρ sc ps hs hf h => onIf_at h fun pc pt pe pos h => have ⟨h1, h⟩ := both h; sns_ite (evE_sound O hC c hs h1).t (ht hs hf (both h).1) (he hs hf (both h).2)
  case whil =>
    exact fun c b hb env ρ sc ps hs hf h => onWhile_at h fun pc pb pos h => sns_while (fun ρ => (evE_sound O hC c hs (both h).1).t) (fun ρ => hb hs hf (both h).2)
  case for_ =>
    exact fun x it b hb env ρ sc ps hs hf h => onFor_at h fun t pit pb pos h => by
      obtain ⟨h1, h⟩ := both h
      obtain ⟨h2, h⟩ := both h
      refine isLocE_at (P := fun t => SndS _ _ _ _ _ (exec (.For t pit pb [] pos) env)) h1 fun id p g1 g2 => ?_
      exact sns_for (mb := wSs C b) (f := fun v ρ k => k (Mine.put ρ x v)) h2 (evE_sound O hC it hs (both h).1).e (tgt_name g1 (hs ▸ g2)) (fun ρ => hb hs hf (both h).2) fun _ _ _ _ _ _ _ _ _ hQ => wpAny_pure hQ
  case for2 =>
    exact fun x y it b hb env ρ sc ps hs hf h => onFor_at h fun t pit pb pos h => by
      obtain ⟨h1, h⟩ := both h
      obtain ⟨h2, h⟩ := both h
      refine isPairE_at (P := fun t => SndS _ _ _ _ _ (exec (.For t pit pb [] pos) env)) h1 fun i1 p1 i2 p2 n p g1 g2 g3 g4 => ?_
      exact sns_for (mb := wSs C b) (f := fun v ρ k => onPair v fun a b => k (Mine.put (Mine.put ρ x a) y b)) h2 (evE_sound O hC it hs (both h).1).e (tgt_pair g1 (hs ▸ g2) g3 (hs ▸ g4)) (fun ρ => hb hs hf (both h).2) fun _ _ _ _ _ _ _ _ r hQ => letOwned_iter r hQ
  case ret =>
    exact fun e env ρ sc ps hs hf h => onRet_at h fun v pos h => sns_ret (evE_sound O hC e hs h).e
  case expr =>
    exact fun e env ρ sc ps hs hf h => onExpr_at h fun v pos h => sns_expr (both h).1 (evE_sound O hC e hs (both h).2).e
  case raise => exact fun env ρ sc ps hs hf h A E s μ H K Q c h0 hQ => h0.elim
  case nil => exact fun env ρ sc ps hs hf h => isEmp_at (P := fun ps => SndS _ _ _ _ _ (execs ps env)) h sns_nil
  case cons =>
    exact fun s ss h1 h2 env ρ sc ps hs hf h => by
      cases ps with
      | nil => exact no h
      | cons p ps => exact sns_cons (h1 hs hf (both h).1) fun ρ' => h2 hs hf (both h).2
end
end Mine
end
section
set_option maxRecDepth 100000
set_option genSizeOf false
set_option genInjectivity false
namespace Mine
open PySem PySem.W PyProof.Rows
variable {W : Wd}

theorem nodup_filterMap {names : List Str} {us : List Value} (hl : us.length = names.length) (hn : names.Nodup) : names.filterMap (fun n => ((names.zip us).lookup n).map (n, ·)) = names.zip us := by
  have key : ∀ (pre : List (Str × Value)) (ns : List Str) (vs : List Value), vs.length = ns.length → ns.Nodup → (∀ n ∈ ns, ∀ p ∈ pre, p.1 ≠ n) → ns.filterMap (fun n => ((pre ++ ns.zip vs).lookup n).map (n, ·)) = ns.zip vs := by
    intro pre ns
    induction ns generalizing pre with
    | nil => intro vs _ _ _; rfl
    | cons n ns ih =>
      intro vs hl hn hp
      cases vs with
      | nil => cases hl
      | cons v vs =>
        have hpre : (pre ++ (n :: ns).zip (v :: vs)).lookup n = some v := by
          have : ∀ (pre : List (Str × Value)), (∀ p ∈ pre, p.1 ≠ n) → (pre ++ (n :: ns).zip (v :: vs)).lookup n = some v := by
            intro pre
            induction pre with
            | nil => intro _; simp [List.lookup_cons]
            | cons q r ih =>
              intro h
              have hq := h q List.mem_cons_self
              have : (n == q.1) = false := by simpa using fun e => hq e.symm
              rw [List.cons_append, List.lookup_cons, this]
              exact ih fun p hp => h p (List.mem_cons_of_mem _ hp)
          exact this pre fun p hp' => hp n List.mem_cons_self p hp'
        rw [List.filterMap_cons, hpre]
        simp only [Option.map_some, List.zip_cons_cons]
        rw [List.nodup_cons] at hn
        have := ih (pre ++ [(n, v)]) vs (by simpa using hl) hn.2 (fun n' hn' p hp' => by
          rcases List.mem_append.mp hp' with h | h
          · exact hp n' (List.mem_cons_of_mem _ hn') p h
          · rw [List.mem_singleton.mp h]; rintro rfl; exact hn.1 hn')
        rw [List.append_assoc] at this
        exact congrArg _ this
  exact key [] names us hl hn (fun _ _ _ h => nomatch h)

theorem bindArgs_of {fd : FuncData} {as : List Arg} {us : List Value} (hp : fd.params = ⟨[], as, none, [], [], none, []⟩) (hd : fd.defaults = .none) (hl : us.length = as.length) (hn : (as.map fun x => x.arg).Nodup) :
    bindArgs fd ⟨us, []⟩ = pure ((as.map fun x => x.arg).zip us) := by
  have hz := nodup_filterMap (names := as.map fun x => x.arg) (us := us) (by simpa using hl) hn
  have hnone : ((as.map fun x => x.arg).filter fun n => (((as.map fun x => x.arg).zip us).lookup n).isNone) = [] := by
    rw [List.filter_eq_nil_iff]
    intro n hn' h
    have hlen := congrArg List.length hz
    have hall : ∀ n ∈ (as.map fun x => x.arg), (((as.map fun x => x.arg).zip us).lookup n).isSome = true := by
      intro n hn'
      cases e : (((as.map fun x => x.arg).zip us).lookup n) with
      | some v => rfl
      | none =>
        exfalso
        have : ((as.map fun x => x.arg).filterMap (fun n => (((as.map fun x => x.arg).zip us).lookup n).map (n, ·))).length < (as.map fun x => x.arg).length := by
          have hh : ∀ (l : List Str) (g : Str → Option (Str × Value)), n ∈ l → g n = none → (l.filterMap g).length < l.length := by
            intro l g
            induction l with
            | nil => intro h; cases h
            | cons a r ih =>
              intro h hg
              rw [List.filterMap_cons]
              have le : (r.filterMap g).length ≤ r.length := List.length_filterMap_le ..
              cases hga : g a with
              | none => exact Nat.lt_succ_of_le le
              | some b =>
                rcases List.mem_cons.mp h with rfl | h
                · rw [hg] at hga; cases hga
                · exact Nat.succ_lt_succ (ih h hg)
          exact hh _ _ hn' (by rw [e]; rfl)
        rw [hz] at this
        simp [hl] at this
    have := hall n hn'
    cases e : (((as.map fun x => x.arg).zip us).lookup n) with
    | none => rw [e] at this; cases this
    | some v => rw [e] at h; cases h
  unfold bindArgs
  simp only [hp, hd, List.map_nil, List.nil_append, List.append_nil]
  have hsq : seqItems? Value.none = pure none := rfl
  simp only [List.forIn_nil, pure_bind, hsq, Option.getD_none]
  rw [if_neg (by simp [hl])]
  simp only [List.toList_toArray, List.length_nil, Nat.zero_sub, List.drop_nil, Nat.sub_zero, List.take_length, hnone]
  rw [if_neg (by simp)]
  simp only [List.zip_nil_right, List.forIn_nil, pure_bind]
  rw [if_neg (by simp), hz]

section
variable {h : Heap} {μ : Mu}
theorem bindL_other {kf : Str → Option NameKind} {n : Str} : ∀ {binds : List (Str × Value)} {m : Str → Option Value}, (∀ p ∈ binds, p.1 ≠ n) → bindL kf binds m n = m n
  | [], _, _ => rfl
  | (a, v) :: r, m, hn => by
    unfold bindL
    rw [bindL_other fun p hp => hn p (List.mem_cons_of_mem _ hp)]
    have := hn (a, v) List.mem_cons_self
    split
    · exact if_neg fun e => this e.symm
    · rfl
theorem bindC_other {kf : Str → Option NameKind} {n : Str} : ∀ {binds : List (Str × Value)} {m : Str → Option Value}, (∀ p ∈ binds, p.1 ≠ n) → bindC kf binds m n = m n
  | [], _, _ => rfl
  | (a, v) :: r, m, hn => by
    unfold bindC
    rw [bindC_other fun p hp => hn p (List.mem_cons_of_mem _ hp)]
    have := hn (a, v) List.mem_cons_self
    split
    · rfl
    · exact if_neg fun e => this e.symm

/-- what the parameters are bound to -/
theorem bind_ok {kf : Str → Option NameKind} : ∀ {ps : List Nat} {args : List V} {us : List Value} {ρ : Loc}, ps.Nodup → (∀ x ∈ ps, x < NN) → zipP ps args = some ρ → RepL W h μ args us →
    us.length = ps.length ∧ ∀ (m0 cm0 : Str → Option Value) x v, look ρ x = some v → x ∈ ps ∧ ∃ u, Rep W h μ v u ∧ (kf (nm x) = some .local → bindL kf ((ps.map nm).zip us) m0 (nm x) = some u) ∧
      (¬ kf (nm x) = some .local → bindC kf ((ps.map nm).zip us) cm0 (nm x) = some u)
  | [], [], us, ρ, _, _, hz, r => by cases (r : _ = _); cases hz; exact ⟨rfl, fun _ _ _ _ e => nomatch e⟩
  | [], _ :: _, us, ρ, _, _, hz, r => nomatch hz
  | _ :: _, [], us, ρ, _, _, hz, r => nomatch hz
  | p :: ps, a :: args, us, ρ, hn, hN, hz, r => by
    obtain ⟨u, us, rfl, ru, r⟩ := r
    change (match zipP ps args with | some r => some ((p, a) :: r) | none => none) = some ρ at hz
    cases e : zipP ps args with
    | none => rw [e] at hz; cases hz
    | some ρ' =>
      rw [e] at hz; cases hz
      rw [List.nodup_cons] at hn
      have hN' : ∀ x ∈ ps, x < NN := fun x hx => hN x (List.mem_cons_of_mem _ hx)
      obtain ⟨hl, ih⟩ := bind_ok (kf := kf) hn.2 hN' e r
      refine ⟨congrArg Nat.succ hl, fun m0 cm0 x v hx => ?_⟩
      rw [look_cons] at hx
      rw [List.map_cons, List.zip_cons_cons]
      by_cases eb : p = x
      · subst eb
        rw [if_pos rfl] at hx; cases hx
        have hoth : ∀ q ∈ (ps.map nm).zip us, q.1 ≠ nm p := fun q hq e' => by
          obtain ⟨y, hy, ey⟩ := List.mem_map.mp (List.of_mem_zip hq).1
          exact hn.1 (nm_inj (hN' y hy) (hN p List.mem_cons_self) (ey.trans e') ▸ hy)
        refine ⟨List.mem_cons_self, u, ru, fun hk => ?_, fun hk => ?_⟩
        · unfold bindL; rw [bindL_other hoth, if_pos hk]; exact if_pos rfl
        · unfold bindC; rw [bindC_other hoth, if_neg hk]; exact if_pos rfl
      · rw [if_neg eb] at hx
        unfold bindL bindC
        obtain ⟨hm, u2, r2, h2, h3⟩ := ih (if kf (nm p) = some .local then fun y => if y = nm p then some u else m0 y else m0) (if kf (nm p) = some .local then cm0 else fun y => if y = nm p then some u else cm0 y) x v hx
        exact ⟨List.mem_cons_of_mem _ hm, u2, r2, h2, h3⟩
end

theorem cellsFrom_some {y : Str} : ∀ {names : List (Str × NameKind)} {n : Nat} {acc : List (Str × Addr)}, ((y, NameKind.cell) ∈ names ∨ (acc.lookup y).isSome = true) → ((cellsFrom n names acc).lookup y).isSome = true
  | [], n, acc, h => by
    rcases h with h | h
    · cases h
    · exact h
  | (a, kk) :: r, n, acc, h => by
    unfold cellsFrom
    split
    · rename_i hk
      apply cellsFrom_some
      rcases h with h | h
      · rcases List.mem_cons.mp h with h | h
        · cases h; exact .inr (by simp [List.lookup_cons])
        · exact .inl h
      · refine .inr ?_
        rw [List.lookup_cons]
        cases e : y == a with
        | true => rfl
        | false => exact h
    · rename_i hk
      apply cellsFrom_some
      rcases h with h | h
      · rcases List.mem_cons.mp h with h | h
        · cases h; exact absurd rfl hk
        · exact .inl h
      · exact .inr h

structure ScopeOk (sc : Scope) (ps : List Nat) : Prop where
  kind : sc.kind = .function
  gen : sc.isGenerator = false
  co : sc.isCoroutine = false
  free : ∀ y, (y, NameKind.free) ∉ sc.names
  par : ∀ x ∈ ps, x < NN ∧ (sc.names.lookup (nm x) = some .local ∨ sc.names.lookup (nm x) = some .cell)
  nodup : ps.Nodup
theorem okScope_at {sc : Scope} {ps : List Nat} (h : okScope sc ps = true) : ScopeOk sc ps := by
  obtain ⟨h1, h⟩ := both h
  obtain ⟨h2, h⟩ := both h
  obtain ⟨h3, h⟩ := both h
  obtain ⟨h4, h⟩ := both h
  refine ⟨of_decide_eq_true h1, (Bool.not_eq_true' _).mp h2, (Bool.not_eq_true' _).mp h3, fun y hy => no (List.all_eq_true.mp h4 _ hy), fun x hx => ?_, of_decide_eq_true (both h).2⟩
  obtain ⟨h5, h6⟩ := both (List.all_eq_true.mp (both h).1 x hx)
  refine ⟨Nat.le_of_ble_eq_true h5, ?_⟩
  rw [lookK_eq] at h6
  cases e : sc.names.lookup (nm x) with
  | none => rw [e] at h6; cases h6
  | some k =>
    rw [e] at h6
    cases k with
    | «local» => exact .inl rfl
    | cell => exact .inr rfl
    | _ => cases h6

theorem mem_lookup {α : Type} {l : List (Str × α)} {y : Str} {k : α} (h : (y, k) ∈ l) : (l.lookup y).isSome = true := by
  induction l with
  | nil => cases h
  | cons x r ih =>
    rw [List.lookup_cons]
    cases e : y == x.1 with
    | true => rfl
    | false =>
      rcases List.mem_cons.mp h with h | h
      · subst h; simp at e
      · exact ih h

/-- the frame of a call -/
theorem frm_call {fd : FuncData} {a : Addr} {s s1 : Shared} {μ : Mu} {H : AH} {ps : List Nat} {args : List V} {us : List Value} {ρ : Loc} (R : SR W μ H s.heap) (K : ScopeOk fd.scope ps) (hg : fd.globals = mainGlobals) (hb : fd.builtins = builtinsNs)
    (hz : zipP ps args = some ρ) (r : RepL W s.heap μ args us)
    (x : InCallC s (callEnvC fd s.heap.objs.size a).locals (bindL (callEnvC fd s.heap.objs.size a).kindOf ((ps.map nm).zip us) fun _ => none) (callEnvC fd s.heap.objs.size a).cells
        (bindC (callEnvC fd s.heap.objs.size a).kindOf ((ps.map nm).zip us) fun _ => none) s1) :
    Frm W (callEnvC fd s.heap.objs.size a) ρ s1.heap μ ∧ Aft W X0 s μ s1 μ H ∧ ∀ c, XE (callEnvC fd s.heap.objs.size a) c → s.heap.get? c = Option.none := by
  have ag : Aft W X0 s μ s1 μ H := by
    obtain ⟨h', tk, rfl⟩ := x.toInCall.same
    exact .grow R x.toInCall.keep
  have L0 : (callEnvC fd s.heap.objs.size a).locals = s.heap.objs.size := rfl
  have dL : s.heap.get? (callEnvC fd s.heap.objs.size a).locals = Option.none := by rw [L0]; exact get?_size _
  have dC : ∀ y c, (callEnvC fd s.heap.objs.size a).cells.lookup y = some c → s.heap.get? c = Option.none := fun y c hc => dead_size (Nat.le_of_lt (by have := x.above y c (lookup_mem hc); rwa [L0] at this))
  have dead : ∀ c, XE (callEnvC fd s.heap.objs.size a) c → s.heap.get? c = Option.none := fun c hX => by
    rcases hX with rfl | ⟨y, hy⟩
    · exact dL
    · exact dC y c hy
  obtain ⟨hl, ok⟩ := bind_ok (kf := (callEnvC fd s.heap.objs.size a).kindOf) K.nodup (fun x hx => (K.par x hx).1) hz r
  have ok := ok (fun _ => none) (fun _ => none)
  have iscell : ∀ y, ((callEnvC fd s.heap.objs.size a).kindOf y = some .cell ∨ (callEnvC fd s.heap.objs.size a).kindOf y = some .free) → ∃ c, (callEnvC fd s.heap.objs.size a).cells.lookup y = some c := fun y hk =>
    Option.isSome_iff_exists.mp (cellsFrom_some (y := y) (n := s.heap.objs.size + 1) (acc := []) (.inl (hk.elim lookup_mem fun h => absurd (lookup_mem h) (K.free _))))
  refine ⟨⟨K.kind, hg, hb, ⟨_, x.toInCall.ns, fun y v hy hkk => ?_⟩, fun y c hc => ⟨_, x.cell y c hc⟩, fun y v hy hkk => ?_, iscell, fun y z c h1 h2 => name_of_addr x.apart (lookup_mem h1) (lookup_mem h2), fun y v hy => (K.par y (ok y v hy).1).1, R.off dL, fun y c hc => R.off (dC y c hc),
    fun p hp => (R.typed W p hp).dead dL, fun y c hc p hp => (R.typed W p hp).dead (dC y c hc)⟩, ag, dead⟩
  · obtain ⟨_, u, ru, h1, _⟩ := ok y v hy
    exact ⟨u, h1 hkk, ag.rep R ru⟩
  · obtain ⟨_, u, ru, _, h2⟩ := ok y v hy
    obtain ⟨c, hc⟩ := iscell _ hkk
    refine ⟨c, u, hc, ?_, ag.rep R ru⟩
    have := x.cell (nm y) c hc
    rwa [h2 fun e => by rcases hkk with h | h <;> rw [e] at h <;> cases h] at this

theorem nodup_nm : ∀ {ps : List Nat}, ps.Nodup → (∀ x ∈ ps, x < NN) → (ps.map nm).Nodup
  | [], _, _ => List.nodup_nil
  | p :: ps, h, hN => by
    rw [List.nodup_cons] at h
    rw [List.map_cons, List.nodup_cons]
    refine ⟨fun hm => ?_, nodup_nm h.2 fun x hx => hN x (List.mem_cons_of_mem _ hx)⟩
    obtain ⟨y, hy, e⟩ := List.mem_map.mp hm
    exact h.1 (nm_inj (hN y (List.mem_cons_of_mem _ hy)) (hN p List.mem_cons_self) e ▸ hy)
theorem callF_sound (O : WAll W) : ∀ n, CallOk W (2 * n + 1) (callF n)
  | 0 => fun _ _ _ _ h => h.elim
  | n + 1 => fun f vs K H h a ha A s μ us R hA Rr r hR => by
    have ih := callF_sound O n
    obtain ⟨fdl, o, fd, body, as, hf, ho, hd, hbody, hclo, hg, hb, hdef, hpar, hnames, hcode, hsound, hscope⟩ := (O.fns f a ha).ex
    have K' := okScope_at hscope
    have h : oQ (look FT f) (fun fd H => oQ (zipP fd.params vs) (fun ρ H => wSs (callF n) fd.body ρ (kFin K) H) H) H := h
    rw [hf] at h
    obtain ⟨ρ, hz, h⟩ := oQ.of (o := zipP fdl.params vs) (Q := fun ρ H => wSs (callF n) fdl.body ρ (kFin K) H) h
    obtain ⟨hl, ok⟩ := bind_ok (kf := (callEnvC fd s.heap.objs.size a).kindOf) K'.nodup (fun x hx => (K'.par x hx).1) hz r
    have hlen : us.length = as.length := by
      have := congrArg List.length hnames
      rw [List.length_map, List.length_map] at this
      rw [hl, this]
    have hbind := bindArgs_of hpar hdef hlen (by rw [hnames]; exact nodup_nm K'.nodup fun x hx => (K'.par x hx).1)
    rw [hnames] at hbind
    refine codeAny_call_cells (Nat.lt_of_le_of_lt (Nat.le_add_right _ _) hA.d100) (Rr.kept _ _ ho) hd (O.nolimit.keeps Rr.kept) (hcode.keeps Rr.kept) hbody hbind hclo (fun q hq => ?_) (fun s1 x => ?_) K'.co K'.gen K'.kind
    · obtain ⟨y, hy, ey⟩ := List.mem_map.mp (List.of_mem_zip hq).1
      rcases (K'.par y hy).2 with e | e
      · exact .inl (ey ▸ e)
      · exact .inr ⟨ey ▸ e, cellsFrom_some (.inl (lookup_mem (ey ▸ e)))⟩
    · obtain ⟨F, ag, dead⟩ := frm_call Rr K' hg hb hz r x
      have close : ∀ {s' μ' H'}, Aft W (XE (callEnvC fd s.heap.objs.size a)) s1 μ s' μ' H' → Aft W X0 s μ s' μ' H' := fun b => ag.comp b fun c o _ g hX => ne_none g (dead c hX)
      exact evSs_sound O ih fdl.body rfl K'.kind hsound (K := kFin K) ⟨AOK.deeper hA K'.gen K'.co hb hg, ag.sr, F⟩ h ⟨fun _ _ _ _ h a' F' => hR h (close a') .of_none, fun _ _ _ _ _ h a' r' => hR h (close a') r'⟩
end Mine
end
section
set_option maxRecDepth 100000
set_option genSizeOf false
set_option genInjectivity false
namespace Mine
open PySem PySem.W PyProof.Rows

/-! what the head's fragment says of the text -/
noncomputable def clsL : List (Nat × Nat) := [(12, 78), (123, 310), (137, 331), (157, 415), (162, 436)]
noncomputable def fnL : List (Nat × Nat) := [(21, 89), (23, 96), (39, 103), (26, 110), (41, 117), (42, 124), (43, 131), (51, 138), (54, 145), (53, 152), (55, 159), (57, 166), (58, 173), (60, 180), (61, 187), (62, 194), (45, 201), (44, 208), (68, 216), (71, 223), (72, 230), (73, 237), (81, 244), (87, 251), (88, 258), (97, 265), (99, 272), (102, 279), (108, 286), (112, 293), (138, 342), (141, 349), (147, 356), (148, 363), (149, 370), (150, 377), (151, 384), (152, 391), (153, 398), (163, 447), (166, 454), (168, 461), (170, 468), (172, 475), (174, 482), (175, 489), (176, 496), (178, 503), (179, 510), (180, 517), (182, 524), (183, 531), (184, 538), (187, 555), (188, 563), (190, 570), (191, 575), (194, 580), (198, 587), (199, 594), (203, 601), (204, 608), (205, 615), (207, 620), (209, 627), (212, 634), (217, 641), (221, 648), (224, 655), (228, 662), (231, 667), (235, 674), (237, 681), (239, 688), (243, 693), (262, 698), (264, 705), (0, 61), (116, 307), (124, 328), (154, 412), (158, 433), (13, 68), (16, 75)]


noncomputable def onRefV (v : Value) (f : Addr → Bool) : Bool := match v with
  | .ref a => f a
  | _ => false
noncomputable def onIntV (v : Value) (f : Int → Bool) : Bool := match v with
  | .int i _ => f i
  | _ => false
noncomputable def onStrV (v : Value) (f : Str → Bool) : Bool := match v with
  | .str s _ => f s
  | _ => false
noncomputable def onFunc (d : Data) (f : FuncData → Bool) : Bool := match d with
  | .func fd => f fd
  | _ => false
noncomputable def onSeq (d : Data) (f : Array Value → Bool) : Bool := match d with
  | .seq vs _ => f vs
  | _ => false
noncomputable def onFields (d : Data) (f : Array Value → Bool) : Bool := match d with
  | .fields vs => f vs
  | _ => false
noncomputable def onDict (d : Data) (f : Array DictEntry → Bool) : Bool := match d with
  | .dict es _ => f es
  | _ => false
noncomputable def onStmts (b : FuncBody) (f : List Stmt → Bool) : Bool := match b with
  | .stmts l => f l
  | _ => false
theorem onRefV_at {v f} (h : onRefV v f = true) : ∃ a, v = .ref a ∧ f a = true := by
  cases v with
  | ref a => exact ⟨a, rfl, h⟩
  | _ => exact no h
theorem onIntV_at {v f} (h : onIntV v f = true) : ∃ i t, v = .int i t ∧ f i = true := by
  cases v with
  | int i t => exact ⟨i, t, rfl, h⟩
  | _ => exact no h
theorem onStrV_at {v f} (h : onStrV v f = true) : ∃ s t, v = .str s t ∧ f s = true := by
  cases v with
  | str i t => exact ⟨i, t, rfl, h⟩
  | _ => exact no h
theorem onFunc_at {d f} (h : onFunc d f = true) : ∃ fd, d = .func fd ∧ f fd = true := by
  cases d with
  | func fd => exact ⟨fd, rfl, h⟩
  | _ => exact no h
theorem onSeq_at {d f} (h : onSeq d f = true) : ∃ vs n, d = .seq vs n ∧ f vs = true := by
  cases d with
  | seq vs n => exact ⟨vs, n, rfl, h⟩
  | _ => exact no h
theorem onFields_at {d f} (h : onFields d f = true) : ∃ vs, d = .fields vs ∧ f vs = true := by
  cases d with
  | fields vs => exact ⟨vs, rfl, h⟩
  | _ => exact no h
theorem onDict_at {d f} (h : onDict d f = true) : ∃ es n, d = .dict es n ∧ f es = true := by
  cases d with
  | dict vs n => exact ⟨vs, n, rfl, h⟩
  | _ => exact no h
theorem onStmts_at {d f} (h : onStmts d f = true) : ∃ l, d = .stmts l ∧ f l = true := by
  cases d with
  | stmts l => exact ⟨l, rfl, h⟩
  | _ => exact no h
theorem onSome_ex {α : Type} {o : Option α} {f : α → Bool} (h : onSome o f = true) : ∃ a, o = some a ∧ f a = true := by
  cases o with
  | none => exact no h
  | some a => exact ⟨a, rfl, h⟩

noncomputable def isTy (v : Value) (n : String) : Bool := match v with
  | .type t => decide (t = n)
  | _ => false
theorem isTy_at {v n} (h : isTy v n = true) : v = .type n := by
  cases v with
  | type t => rw [of_decide_eq_true h]
  | _ => exact no h
noncomputable def isBl (v : Value) (n : String) : Bool := match v with
  | .builtin t => decide (t = n)
  | _ => false
theorem isBl_at {v n} (h : isBl v n = true) : v = .builtin n := by
  cases v with
  | builtin t => rw [of_decide_eq_true h]
  | _ => exact no h
noncomputable def isRefO (o : Option (Option Value)) (a : Nat) : Bool := onSome o fun o => onSome o fun v => onRefV v fun b => Nat.beq a b
theorem isRefO_at {o a} (h : isRefO o a = true) : o = some (some (.ref a)) := by
  refine onSome_at h fun o h => onSome_at (P := fun o => some o = _) h fun v h => ?_
  obtain ⟨b, e, h⟩ := onRefV_at h
  rw [e, Nat.eq_of_beq_eq_true h]
noncomputable def isNoneO (o : Option (Option Value)) : Bool := onSome o fun o => !o.isSome
theorem isNoneO_at {o} (h : isNoneO o = true) : o = some none := by
  exact onSome_at h fun o h => congrArg some (none_of h)
noncomputable def isBlt (o : Option (Option Value)) (n : String) : Bool := onSome o fun o => onSome o fun v => isBl v n
theorem isBlt_at {o n} (h : isBlt o n = true) : o = some (some (.builtin n)) := by
  exact onSome_at h fun o h => onSome_at (P := fun o => some o = _) h fun v h => congrArg (some ∘ some) (isBl_at h)

noncomputable def argsChk : List Arg → List Nat → Bool
  | [], ps => isEmp ps
  | a :: as, ps => match ps with
    | p :: ps => seq a.arg (nm p) && argsChk as ps
    | [] => false
noncomputable def paramsChk (p : Arguments) (ps : List Nat) : Bool := isEmp p.posonlyargs && (!p.vararg.isSome && (isEmp p.kwonlyargs && (isEmp p.kw_defaults && (!p.kwarg.isSome && (isEmp p.defaults && argsChk p.args ps)))))
noncomputable def codeChk (K : Frag) (code : Value) (q : Str) : Bool := onRefV code fun c => onSome (K.lookup c) fun o => onFields o.data fun vs => onSome (vs.toList[1]? : Option Value) fun v => onStrV v fun t => seq t q
noncomputable def fnChk (K : Frag) (f a : Nat) : Bool := onSome (look FT f) fun fdl => onSome (K.lookup a) fun o => onFunc o.data fun fd => onStmts fd.body fun body => isSs fdl.body fd.scope body && (isEmp fd.closure && (Nat.beq fd.globals mainGlobals && (Nat.beq fd.builtins builtinsNs &&
  ((match fd.defaults with | .none => true | _ => false) && (paramsChk fd.params fdl.params && (codeChk K fd.code fd.qualname && okScope fd.scope fdl.params))))))
noncomputable def isFn (K : Frag) (a : Nat) : Bool := onSome (typeIn K (.ref a)) fun v => isTy v "function"
noncomputable def methChk (K : Frag) (C : Nat) (m f : Nat) : Bool := onSome (look fnL f) fun a => isBlt (findIn K (.ref C) "__getattribute__") "object.__getattribute__" && (isNoneO (findIn K (.ref C) "__getattr__") && (isRefO (findIn K (.ref C) (nm m)) a && isFn K a))
noncomputable def initChk (K : Frag) (c f : Nat) : Bool := onSome (look clsL c) fun C => onSome (look fnL f) fun a => isRefO (nsIn K mainGlobals (nm c)) C && (makesIn K C && (keepIn K (.ref C) && (isRefO (findIn K (.ref C) "__init__") a && isFn K a)))
noncomputable def fldChk (K : Frag) (C : Nat) (name : Str) : Bool := plainGet K C name && (hasDictIn K C && (isNoneO (findIn K (.ref C) name) && (isBlt (findIn K (.ref C) "__setattr__") "object.__setattr__" && (plainOver K C && isNoneO (takerIn K C name)))))
noncomputable def dchk : List Int → List DictEntry → Bool
  | [], es => isEmp es
  | i :: l, es => match es with
    | e :: es => onIntV e.key (fun j => decide (i = j) && decide (e.hash = hashInt j)) && dchk l es
    | [] => false
noncomputable def gchkI (i : Int) (v : Value) : Bool := onIntV v fun j => decide (i = j)
noncomputable def gtup (K : Frag) (v : Value) (f : List Value → Bool) : Bool := onRefV v fun a => onSome (K.lookup a) fun o => isTy o.cls "tuple" && onSeq o.data fun vs => f vs.toList
noncomputable def gdct (K : Frag) (v : Value) (l : List Int) : Bool := onRefV v fun a => onSome (K.lookup a) fun o => isTy o.cls "dict" && (!o.dict.isSome && (isEmp o.slots.toList && (!Nat.beq a sysModules && onDict o.data fun es => dchk l es.toList)))
mutual
noncomputable def gchk (K : Frag) : V → Value → Bool
  | .int i, v => gchkI i v
  | .tup l, v => gtup K v (gchks K l)
  | .fdct l, v => gdct K v l
  | _, _ => false
noncomputable def gchks (K : Frag) : List V → List Value → Bool
  | [], us => isEmp us
  | v :: l, us => match us with
    | u :: us => gchk K v u && gchks K l us
    | [] => false
end
noncomputable def globChk (K : Frag) (x : Nat) (v : V) : Bool := onSome (nsIn K mainGlobals (nm x)) fun o => onSome o fun rv => gchk K v rv
noncomputable def biChk (K : Frag) (n : String) : Bool := isNoneO (nsIn K mainGlobals (Str.ofString n))
noncomputable def topChk (K : Frag) (f a : Nat) : Bool := !topFn f || isRefO (nsIn K mainGlobals (nm f)) a
noncomputable def allO {α : Type} (o : Option (List α)) (f : α → Bool) : Bool := match o with | some l => l.all f | none => true

structure KOk (K : Frag) : Prop where
  fn : fnL.all (fun p => fnChk K p.1 p.2) = true
  top : fnL.all (fun p => topChk K p.1 p.2) = true
  all : FT.all (fun p => !topFn p.1 || (look fnL p.1).isSome) = true
  init : GL.init.all (fun p => initChk K p.1 p.2) = true
  meth : clsL.all (fun p => allO (look GL.meth p.1) fun q => methChk K p.2 q.1 q.2) = true
  fld : clsL.all (fun p => allO (look GL.fld p.1) fun f => fldChk K p.2 (nm f)) = true
  glob : GL.glob.all (fun p => globChk K p.1 p.2) = true
  bi : biL.all (fun p => biChk K p.1) = true

section
variable {K : Frag} {B : Heap} {prog : Program} {w : World} {mg mb : Str → Option Value}

theorem allO_at {α : Type} {o : Option (List α)} {f : α → Bool} {l : List α} (h : allO o f = true) (e : o = some l) {x : α} (hx : x ∈ l) : f x = true := by subst e; exact List.all_eq_true.mp h x hx
theorem isFn_at {a : Nat} (h : isFn K a = true) : typeIn K (.ref a) = some (.type "function") := by
  obtain ⟨v, e, h⟩ := onSome_ex h
  rw [e, isTy_at h]
theorem argsChk_at : ∀ {as : List Arg} {ps : List Nat}, argsChk as ps = true → (as.map fun x => x.arg) = ps.map nm
  | [], _, h => isEmp_at (P := fun ps => [] = List.map nm ps) h rfl
  | a :: as, [], h => no h
  | a :: as, p :: ps, h => by rw [List.map_cons, List.map_cons, seq_eq.mp (both h).1, argsChk_at (both h).2]
theorem paramsChk_at {p : Arguments} {ps : List Nat} (h : paramsChk p ps = true) : ∃ as, p = ⟨[], as, none, [], [], none, []⟩ ∧ (as.map fun x => x.arg) = ps.map nm := by
  obtain ⟨a1, a2, a3, a4, a5, a6, a7⟩ := p
  obtain ⟨h1, h⟩ := both h
  obtain ⟨h2, h⟩ := both h
  obtain ⟨h3, h⟩ := both h
  obtain ⟨h4, h⟩ := both h
  obtain ⟨h5, h⟩ := both h
  obtain ⟨h6, h⟩ := both h
  cases List.isEmpty_iff.mp (show a1.isEmpty = true by cases a1; rfl; exact no h1)
  cases List.isEmpty_iff.mp (show a4.isEmpty = true by cases a4; rfl; exact no h3)
  cases List.isEmpty_iff.mp (show a5.isEmpty = true by cases a5; rfl; exact no h4)
  cases List.isEmpty_iff.mp (show a7.isEmpty = true by cases a7; rfl; exact no h6)
  cases none_of h2
  cases none_of h5
  exact ⟨a2, rfl, argsChk_at h⟩
theorem codeChk_at {code : Value} {q : Str} (X : K.In B) (h : codeChk K code q = true) : B.CodeRec code q := by
  obtain ⟨c, rfl, h⟩ := onRefV_at h
  obtain ⟨o, e, h⟩ := onSome_ex h
  obtain ⟨vs, ed, h⟩ := onFields_at h
  obtain ⟨v, e2, h⟩ := onSome_ex h
  obtain ⟨t, u, rfl, h⟩ := onStrV_at h
  exact ⟨c, o, vs, u, rfl, X _ _ e, ed, by rw [← Array.getElem?_toList, e2, seq_eq.mp h]⟩

noncomputable def WdOf (prog : Program) (w : World) (B : Heap) (K : Frag) (mg mb : Str → Option Value) : Wd := ⟨prog, w, B, K, mg, mb, look clsL, look fnL⟩

theorem fnChk_at {f a : Nat} (X : K.In B) (h : fnChk K f a = true) : FnOk (WdOf prog w B K mg mb) f a := by
  obtain ⟨fdl, hf, h⟩ := onSome_ex h
  obtain ⟨o, e, h⟩ := onSome_ex h
  obtain ⟨fd, ed, h⟩ := onFunc_at h
  obtain ⟨body, hb, h⟩ := onStmts_at h
  obtain ⟨h1, h⟩ := both h
  obtain ⟨h2, h⟩ := both h
  obtain ⟨h3, h⟩ := both h
  obtain ⟨h4, h⟩ := both h
  obtain ⟨h5, h⟩ := both h
  obtain ⟨h6, h⟩ := both h
  obtain ⟨h7, h8⟩ := both h
  obtain ⟨as, hp, hn⟩ := paramsChk_at h6
  refine ⟨⟨fdl, o, fd, body, as, hf, X _ _ e, ed, hb, ?_, Nat.eq_of_beq_eq_true h3, Nat.eq_of_beq_eq_true h4, ?_, hp, hn, codeChk_at X h7, h1, h8⟩⟩
  · exact isEmp_at (P := fun l => l = []) h2 rfl
  · cases hd : fd.defaults with
    | none => rfl
    | _ => rw [hd] at h5; exact no h5

theorem dchk_keys : ∀ {l : List Int} {es : List DictEntry}, dchk l es = true → (∀ e ∈ es, ∃ k, (intKind prog w).is k e.key = true ∧ e.hash = (intKind prog w).hash k) ∧ ∀ i : Int, ((es.find? fun e => Value.isInt i e.key).map (·.val)).isSome = l.any fun j => decide (j = i)
  | [], [], h => ⟨fun _ h => (nomatch h), fun _ => rfl⟩
  | [], _ :: _, h => no h
  | _ :: _, [], h => no h
  | i :: l, e :: es, h => by
    obtain ⟨h1, h2⟩ := both h
    obtain ⟨a, b⟩ := dchk_keys h2
    obtain ⟨j, t, hk, h1⟩ := onIntV_at h1
    obtain ⟨h3, h4⟩ := both h1
    cases of_decide_eq_true h3
    refine ⟨fun e' he' => ?_, fun k => ?_⟩
    · rcases List.mem_cons.mp he' with rfl | he'
      · exact ⟨i, by rw [hk]; exact isInt_at i t, of_decide_eq_true h4⟩
      · exact a e' he'
    · rw [List.find?_cons, List.any_cons, hk, show Value.isInt k (.int i t) = decide (i = k) from rfl]
      by_cases hik : i = k
      · rw [decide_eq_true hik]; rfl
      · rw [decide_eq_false hik, Bool.false_or]; exact b k

theorem gdct_at (X : K.In B) {l : List Int} {rv : Value} (g : gdct K rv l = true) (h : Heap) (μ : Mu) : Rep (WdOf prog w B K mg mb) h μ (.fdct l) rv := by
  obtain ⟨a, rfl, g⟩ := onRefV_at g
  obtain ⟨⟨cls, dct, data, sl⟩, e, g⟩ := onSome_ex g
  obtain ⟨h1, g⟩ := both g
  obtain ⟨h2, g⟩ := both g
  obtain ⟨h3, g⟩ := both g
  obtain ⟨h4, g⟩ := both g
  obtain ⟨es, n, rfl, g⟩ := onDict_at g
  obtain ⟨k1, k2⟩ := dchk_keys (prog := prog) (w := w) g
  cases isTy_at h1
  cases none_of h2
  have hsl : sl = #[] := Array.toList_eq_nil_iff.mp (isEmp_at (P := fun l => l = []) h3 rfl)
  subst hsl
  refine ⟨a, fun k => findBy (intKind prog w).is es k, rfl, ?_, ⟨_, es, n, X _ _ e, ⟨rfl, rfl, rfl⟩, rfl, fun en hen => k1 en (Array.mem_toList_iff.mpr hen), fun _ => rfl⟩, fun i => ?_⟩
  · exact beq_eq_false_iff_ne.mpr fun q => by subst q; simp at h4
  · rw [← k2 i]
    show (Option.map (fun x => x.val) (Array.find? (fun e => (intKind prog w).is i e.key) es)).isSome = _
    rw [← Array.find?_toList]
    rfl
mutual
theorem gchk_at (X : K.In B) (h : Heap) (μ : Mu) (hk : ∀ b o, B.get? b = some o → h.get? b = some o) : ∀ (v : V) (rv : Value), gchk K v rv = true → Rep (WdOf prog w B K mg mb) h μ v rv
  | .int i, rv, g => by obtain ⟨j, t, rfl, g⟩ := onIntV_at g; cases of_decide_eq_true g; exact .of_int
  | .tup l, rv, g => by
    obtain ⟨a, rfl, g⟩ := onRefV_at g
    obtain ⟨⟨cls, dct, data, sl⟩, e, g⟩ := onSome_ex g
    obtain ⟨h1, g⟩ := both g
    obtain ⟨vs, n, rfl, g⟩ := onSeq_at g
    cases isTy_at h1
    exact .of_tup ⟨_, hk _ _ (X _ _ e), rfl, _, rfl⟩ (gchks_at X h μ hk l _ g)
  | .fdct l, rv, g => gdct_at X g h μ
  | .none, rv, g => no g
  | .bool _, rv, g => no g
  | .str _, rv, g => no g
  | .flist _, rv, g => no g
  | .rng _, rv, g => no g
  | .ref _, rv, g => no g
theorem gchks_at (X : K.In B) (h : Heap) (μ : Mu) (hk : ∀ b o, B.get? b = some o → h.get? b = some o) : ∀ (l : List V) (us : List Value), gchks K l us = true → RepL (WdOf prog w B K mg mb) h μ l us
  | [], us, g => isEmp_at (P := fun us => RepL _ h μ [] us) g rfl
  | _ :: _, [], g => no g
  | v :: l, u :: us, g => .cons (gchk_at X h μ hk v u (both g).1) (gchks_at X h μ hk l us (both g).2)
end

theorem wall_of (Q : KOk K) (X : K.In B) (hlim : B.NoLimit) (hseer : B.NoSeer) (hg : B.Ns mainGlobals mg) (hb : B.Ns builtinsNs mb) (hbi : ∀ x : Str, x ≠ "__name__" → mb x = bootBuiltins x) (ht : prog.given.tree = none)
    (hboot : ∀ p ∈ biL, bootBuiltins (Str.ofString p.1) = some p.2 ∧ Str.ofString p.1 ≠ Str.ofString "__name__") : WAll (WdOf prog w B K mg mb) where
  nolimit := hlim
  noseer := hseer
  Kin := X
  gns := hg
  bns := hb
  tree := ht
  fld c C f hc hf := by
    obtain ⟨l, e, hl⟩ := fldIn_at hf
    have h : fldChk K C (nm f) = true := allO_at (List.all_eq_true.mp Q.fld _ (look_mem hc)) e hl
    obtain ⟨h1, h⟩ := both h
    obtain ⟨h2, h⟩ := both h
    obtain ⟨h3, h⟩ := both h
    obtain ⟨h4, h⟩ := both h
    exact ⟨h1, h2, isNoneO_at h3, isBlt_at h4, (both h).1, isNoneO_at (both h).2⟩
  glob x v hx := by
    obtain ⟨o, e, h⟩ := onSome_ex (List.all_eq_true.mp Q.glob _ (look_mem hx))
    obtain ⟨rv, rfl, h⟩ := onSome_ex h
    exact ⟨rv, mg_of X hg e, fun h' μ hk => gchk_at X h' μ hk v rv h⟩
  bi p hp := by
    obtain ⟨h1, h2⟩ := hboot p hp
    exact ⟨mg_none_of X hg (isNoneO_at (List.all_eq_true.mp Q.bi _ hp)), (hbi _ h2).trans h1⟩
  fns f a hf := fnChk_at X (List.all_eq_true.mp Q.fn _ (look_mem hf))
  top f hf := by
    obtain ⟨fd, hfd⟩ := Option.isSome_iff_exists.mp (both hf).1
    have h : (!topFn f || (look fnL f).isSome) = true := List.all_eq_true.mp Q.all _ (look_mem hfd)
    rw [hf] at h
    obtain ⟨a, ha⟩ := Option.isSome_iff_exists.mp h
    have h2 : (!topFn f || isRefO (nsIn K mainGlobals (nm f)) a) = true := List.all_eq_true.mp Q.top _ (look_mem ha)
    rw [hf] at h2
    exact ⟨a, ha, mg_of X hg (isRefO_at h2)⟩
  init c f hc := by
    obtain ⟨C, h1, h⟩ := onSome_ex (List.all_eq_true.mp Q.init _ (look_mem hc))
    obtain ⟨a, h2, h⟩ := onSome_ex h
    obtain ⟨h3, h⟩ := both h
    obtain ⟨h4, h⟩ := both h
    obtain ⟨h5, h⟩ := both h
    exact ⟨C, a, h1, h2, mg_of X hg (isRefO_at h3), ⟨h4, h5, isRefO_at (both h).1, isFn_at (both h).2⟩⟩
  meth c C ms m f hc hms hm := by
    have h : methChk K C m f = true := allO_at (List.all_eq_true.mp Q.meth _ (look_mem hc)) hms (look_mem hm)
    obtain ⟨a, h2, h⟩ := onSome_ex h
    obtain ⟨h3, h⟩ := both h
    obtain ⟨h4, h⟩ := both h
    exact ⟨a, h2, ⟨isBlt_at h3, isNoneO_at h4, isRefO_at (both h).1, isFn_at (both h).2⟩⟩

theorem boot_ok : ∀ p ∈ biL, bootBuiltins (Str.ofString p.1) = some p.2 ∧ Str.ofString p.1 ≠ Str.ofString "__name__" := by
  intro p hp
  simp only [biL, List.mem_cons, List.not_mem_nil, or_false] at hp
  rcases hp with rfl | rfl | rfl | rfl | rfl | rfl | rfl <;> exact ⟨by kernel_rfl, by decide +kernel⟩
end
end Mine
end
section
set_option maxRecDepth 100000
namespace Mine
open PySem PySem.W PyProof.Rows

/-- the depth of calls that the law is run with -/
noncomputable abbrev NF : Nat := 24

theorem ints_rep {W : Wd} {h : Heap} {μ : Mu} : ∀ {us : List Value} {is : List Int}, IntsAre us is → RepL W h μ (is.map V.int) us
  | _, _, .nil => .nil
  | _, _, .cons _ _ x => .cons .of_int (ints_rep x)

theorem law_call {K : Frag} {prog : Program} {w : World} {s : Shared} {mg mb : Str → Option Value} {D : Addr} {us : List Value} {is : List Int} (O : WAll (WdOf prog w s.heap K mg mb)) (hL : s.heap.IsList D us.toArray) (hI : IntsAre us is)
    (plain : callF NF k_law [.flist (is.map V.int)] (fun v _ => v = .bool true) []) :
    wpAny (model prog w) callerA (call (.ref 705) [.ref D]) (fun v s' => v = .bool true ∧ (∀ b o, s.heap.get? b = some o → s'.heap.get? b = some o) ∧ s'.os = s.os ∧ s'.gens = s.gens) (fun _ _ => False) s := by
  have R : SR (WdOf prog w s.heap K mg mb) [] [] s.heap := ⟨rfl, fun i c p hi => (nomatch hi), fun i j p q _ hp => (nomatch hp), fun p hp => (nomatch hp), fun b o e => e⟩
  have hA : AOK callerA (2 * NF + 1) := ⟨rfl, by decide, by decide, ⟨[], rfl⟩⟩
  have hf : (WdOf prog w s.heap K mg mb).fn k_law = some 705 := (by decide : look fnL k_law = some 705)
  refine wpAny_call (callF_sound O NF plain hf hA R (.cons ⟨D, us.toArray, rfl, hL, ints_rep hI⟩ .nil) fun v H' s' μ' u e a ru => ?_)
  subst e
  exact ⟨ru, fun b o e => a.st.kept b o id (fun p hp => (nomatch hp)) e, a.os, a.gens⟩
end Mine
end
section
open PySem PySem.W PyProof.Rows
set_option maxRecDepth 100000
set_option maxHeartbeats 0
namespace Mine
noncomputable abbrev rw1 : OpenRow := PySem.Challenge.rw_qd0039_01.row
noncomputable abbrev pw : Program := rw1.prog
noncomputable abbrev TBQ : String → Option Builtin := Fast.tw14364793385576792824
theorem TBQ_eq : treeTable = TBQ := Fast.te14364793385576792824
noncomputable def treeOf : List Obj → Nat → BT → BT
  | [], _, t => t
  | o :: l, n, t => treeOf l (n + 1) (t.ins n o)
/-! one step of the machine on a tree, parted by what it does: each part a small term of its own, so that the kernel copies little -/
noncomputable def getB (t : BT) : Nat → Option Obj := @BT.rec (fun _ => Nat → Option Obj) (fun _ => none) (fun v _ _ fl fr i => @Bool.rec (fun _ => Option Obj) (@Bool.rec (fun _ => Option Obj) (fr (Nat.sub (Nat.div i 2) 1)) (fl (Nat.div i 2)) (Nat.beq (Nat.mod i 2) 1)) (some v) (Nat.beq i 0)) t
noncomputable def setB (t : BT) : Nat → (Obj → Obj) → BT := @BT.rec (fun _ => Nat → (Obj → Obj) → BT) (fun _ _ => .nil) (fun v l r fl fr i f => @Bool.rec (fun _ => BT) (@Bool.rec (fun _ => BT) (.node v l (fr (Nat.sub (Nat.div i 2) 1) f)) (.node v (fl (Nat.div i 2) f) r) (Nat.beq (Nat.mod i 2) 1)) (.node (f v) l r) (Nat.beq i 0)) t
noncomputable def insB (t : BT) : Nat → Obj → BT := @BT.rec (fun _ => Nat → Obj → BT) (fun _ o => .node o .nil .nil) (fun v l r fl fr i o => @Bool.rec (fun _ => BT) (@Bool.rec (fun _ => BT) (.node v l (fr (Nat.sub (Nat.div i 2) 1) o)) (.node v (fl (Nat.div i 2) o) r) (Nat.beq (Nat.mod i 2) 1)) (.node o l r) (Nat.beq i 0)) t
theorem getB_eq : getB = BT.get := by
  funext t
  induction t with
  | nil => rfl
  | node v l r hl hr =>
    funext i
    show @Bool.rec (fun _ => Option Obj) (@Bool.rec (fun _ => Option Obj) (getB r (i / 2 - 1)) (getB l (i / 2)) (Nat.beq (i % 2) 1)) (some v) (Nat.beq i 0) = (match Nat.beq i 0 with | true => some v | false => match Nat.beq (i % 2) 1 with | true => l.get (i / 2) | false => r.get (i / 2 - 1))
    rw [hl, hr]
    cases Nat.beq i 0 <;> cases Nat.beq (i % 2) 1 <;> rfl
theorem setB_eq : setB = BT.set := by
  funext t
  induction t with
  | nil => rfl
  | node v l r hl hr =>
    funext i f
    show @Bool.rec (fun _ => BT) (@Bool.rec (fun _ => BT) (.node v l (setB r (i / 2 - 1) f)) (.node v (setB l (i / 2) f) r) (Nat.beq (i % 2) 1)) (.node (f v) l r) (Nat.beq i 0) = (match Nat.beq i 0 with | true => .node (f v) l r | false => match Nat.beq (i % 2) 1 with | true => .node v (l.set (i / 2) f) r | false => .node v l (r.set (i / 2 - 1) f))
    rw [hl, hr]
    cases Nat.beq i 0 <;> cases Nat.beq (i % 2) 1 <;> rfl
theorem insB_eq : insB = BT.ins := by
  funext t
  induction t with
  | nil => rfl
  | node v l r hl hr =>
    funext i o
    show @Bool.rec (fun _ => BT) (@Bool.rec (fun _ => BT) (.node v l (insB r (i / 2 - 1) o)) (.node v (insB l (i / 2) o) r) (Nat.beq (i % 2) 1)) (.node o l r) (Nat.beq i 0) = (match Nat.beq i 0 with | true => .node o l r | false => match Nat.beq (i % 2) 1 with | true => .node v (l.ins (i / 2) o) r | false => .node v l (r.ins (i / 2 - 1) o))
    rw [hl, hr]
    cases Nat.beq i 0 <;> cases Nat.beq (i % 2) 1 <;> rfl
noncomputable abbrev LR := Program → World → Nat → Option Value → SharedT → Code → Pos → List Frame → Option (SharedT × Thread)
noncomputable def denQ : Code → Sem Fin := Fast.tw11892475500146522536 TBQ
noncomputable def aFall (cur : Sem Fin) : LR := fun p w n₀ ann s code pos stack => match Fast.tw6613529449190102663 n₀ ann ⟨cur, code, pos, stack⟩ with
  | false => none
  | true => Fast.tw10156331382660048174 denQ p w s ⟨cur, code, pos, stack⟩
noncomputable def aStay (k : Unit → Sem Fin) : LR := fun _ _ _ _ s code pos stack => some (s, ⟨k (), code, pos, stack⟩)
noncomputable def aAt (q : Pos) (k : Unit → Sem Fin) : LR := fun _ _ _ _ s code _ stack => some (s, ⟨k (), code, q, stack⟩)
noncomputable def aLoad (a : Addr) (k : Obj → Sem Fin) : LR := fun _ _ _ _ s code pos stack => match s with
  | ⟨T, n, life, gens, drawn, toks, os⟩ => match Nat.blt a n with
    | true => match getB T a with
      | some o => match alive o with
        | some o' => some (⟨T, n, life, gens, drawn, toks, os⟩, ⟨k o', code, pos, stack⟩)
        | none => none
      | none => none
    | false => none
noncomputable def aUpd (a : Addr) (f : Obj → Obj) (k : Unit → Sem Fin) : LR := fun _ _ n₀ ann s code pos stack => match Nat.ble n₀ a || a == mainNs || a == cStatics || ann == some (.ref a) with
  | true => match s with
    | ⟨T, n, life, gens, drawn, toks, os⟩ => match Nat.blt a n with
      | true => match getB T a with
        | some o => match alive o with
          | some _ => some (⟨setB T a f, n, life, gens, drawn, toks, os⟩, ⟨k (), code, pos, stack⟩)
          | none => none
        | none => none
      | false => none
  | false => none
noncomputable def aAlloc (o : Obj) (k : Addr → Sem Fin) : LR := fun _ _ _ _ s code pos stack => match s with
  | ⟨T, n, life, gens, drawn, toks, os⟩ => match (getB (insB T n o) n).isSome with
    | true => some (⟨insB T n o, n + 1, life, gens, drawn, toks, os⟩, ⟨k n, code, pos, stack⟩)
    | false => none
noncomputable def aLoadIf (a : Addr) (k : Option Obj → Sem Fin) : LR := fun _ _ _ _ s code pos stack => match s with
  | ⟨T, n, life, gens, drawn, toks, os⟩ => match Nat.blt a n with
    | true => match getB T a with
      | some o => some (⟨T, n, life, gens, drawn, toks, os⟩, ⟨k (alive o), code, pos, stack⟩)
      | none => none
    | false => some (⟨T, n, life, gens, drawn, toks, os⟩, ⟨k none, code, pos, stack⟩)
noncomputable def aFresh (k : Tok → Sem Fin) : LR := fun _ _ _ _ s code pos stack => match s with
  | ⟨T, n, life, gens, drawn, toks, os⟩ => some (⟨T, n, life, gens, drawn, toks + 1, os⟩, ⟨k toks, code, pos, stack⟩)
noncomputable def aAsk (k : Setting → Sem Fin) : LR := fun p w _ _ s code pos stack => some (s, ⟨k ⟨p, w.params⟩, code, pos, stack⟩)
noncomputable def keptQ (c code : Code) (l : List Value) : List Value := match c, code with
  | .builtin _ a, _ => unmarked a.refs
  | .call f a, .builtin .. | .call f a, .call .. => unmarked (if l.contains borrowed then a.refs else f :: a.refs)
  | _, _ => []
noncomputable def aCall (c : Code) (h : Option Value) (g : Bool) (l : List Value) (k : Result → Sem Fin) : LR := fun _ _ _ _ s code pos stack => some (s, ⟨denQ c, c, pos, .ret k h g l code pos (keptQ c code l) :: stack⟩)
noncomputable def aPop (f : PySem.Flow) : Frame → List Frame → SharedT → Option (SharedT × Thread) := fun fr rest s => match fr with
  | .ret k _ _ _ c q _ => some (s, ⟨k (.ok f), c, q, rest⟩)
  | .gen .. => none
noncomputable def aDone (f : PySem.Flow) : LR := fun _ _ _ _ s _ _ stack => match stack with
  | fr :: rest => aPop f fr rest s
  | [] => none
noncomputable def aPure (f : Fin) : LR := match f with
  | .done f => aDone f
  | .again c => aFall (.pure (.again c))
noncomputable def disp (cur : Sem Fin) : LR := @Sem.casesOn Fin (fun _ => LR) cur aPure (fun e => aFall (.raise e)) (fun x => aFall (.unsupported x)) (fun e => aFall (.finish e)) (fun _ => aStay) aAt (fun a _ => aLoad a) (fun a _ => aUpd a) aAlloc aLoadIf (fun _ => aStay)
  (fun a k => aFall (.register a k)) aFresh aAsk (fun x n k => aFall (.choose x n k)) (fun q l k => aFall (.os q l k)) aCall (fun o k => aFall (.handled o k)) (fun c k => aFall (.newGen c k)) (fun g k => aFall (.genState g k)) (fun g r l k => aFall (.resume g r l k))
  (fun v g l k => aFall (.yield v g l k)) (fun k => aFall (.stack k)) (fun c k => aFall (.fork c k)) (fun k => aFall (.thread k)) (fun a x y l k => aFall (.await a x y l k))
noncomputable def stepL (p : Program) (w : World) (n₀ : Nat) (ann : Option Value) (s : SharedT) (t : Thread) : Option (SharedT × Thread) := match t with
  | ⟨cur, code, pos, stack⟩ => disp cur p w n₀ ann s code pos stack
theorem denQ_eq : denQ = denote treeTable := by
  unfold denQ
  rw [← Fast.te11892475500146522536, ← TBQ_eq]
noncomputable abbrev Good (p : Program) (w : World) (n₀ : Nat) (ann : Option Value) (s : SharedT) (t : Thread) (r : SharedT × Thread) : Prop := stepOk n₀ ann t = true ∧ stepT (denote treeTable) p w s t = some r
section
variable {p : Program} {w : World} {n₀ : Nat} {ann : Option Value} {s : SharedT} {code : Code} {pos : Pos} {stack : List Frame} {r : SharedT × Thread}
theorem fall_good {cur : Sem Fin} (h : aFall cur p w n₀ ann s code pos stack = some r) : Good p w n₀ ann s ⟨cur, code, pos, stack⟩ r := by
  unfold aFall at h
  rw [denQ_eq, ← Fast.te6613529449190102663, ← Fast.te10156331382660048174] at h
  cases hk : stepOk n₀ ann ⟨cur, code, pos, stack⟩ with
  | false => rw [hk] at h; cases h
  | true => rw [hk] at h; exact ⟨hk, h⟩
theorem load_good {a : Addr} {q : Option Value} {k : Obj → Sem Fin} (h : aLoad a k p w n₀ ann s code pos stack = some r) : Good p w n₀ ann s ⟨.load a q k, code, pos, stack⟩ r := by
  unfold aLoad at h
  rw [getB_eq] at h
  exact ⟨rfl, h⟩
theorem loadIf_good {a : Addr} {k : Option Obj → Sem Fin} (h : aLoadIf a k p w n₀ ann s code pos stack = some r) : Good p w n₀ ann s ⟨.loadIfAlive a k, code, pos, stack⟩ r := by
  unfold aLoadIf at h
  rw [getB_eq] at h
  exact ⟨rfl, h⟩
theorem alloc_good {o : Obj} {k : Addr → Sem Fin} (h : aAlloc o k p w n₀ ann s code pos stack = some r) : Good p w n₀ ann s ⟨.alloc o k, code, pos, stack⟩ r := by
  unfold aAlloc at h
  rw [getB_eq, insB_eq] at h
  exact ⟨rfl, h⟩
theorem upd_good {a : Addr} {q : Option Value} {f : Obj → Obj} {k : Unit → Sem Fin} (h : aUpd a f k p w n₀ ann s code pos stack = some r) : Good p w n₀ ann s ⟨.update a q f k, code, pos, stack⟩ r := by
  unfold aUpd at h
  rw [getB_eq, setB_eq] at h
  cases hk : Nat.ble n₀ a || a == mainNs || a == cStatics || ann == some (.ref a) with
  | false => rw [hk] at h; cases h
  | true => rw [hk] at h; exact ⟨hk, h⟩
theorem done_good {f : PySem.Flow} (h : aDone f p w n₀ ann s code pos stack = some r) : Good p w n₀ ann s ⟨.pure (.done f), code, pos, stack⟩ r := by
  cases stack with
  | nil => cases h
  | cons fr rest => cases fr with
    | ret => exact ⟨rfl, h⟩
    | gen => cases h
theorem call_good {c : Code} {hd : Option Value} {g : Bool} {l : List Value} {k : Result → Sem Fin} (h : aCall c hd g l k p w n₀ ann s code pos stack = some r) : Good p w n₀ ann s ⟨.call c hd g l k, code, pos, stack⟩ r := by
  unfold aCall at h
  rw [denQ_eq] at h
  exact ⟨rfl, h⟩
end
theorem stepL_good {p : Program} {w : World} {n₀ : Nat} {ann : Option Value} {s : SharedT} {t : Thread} {r : SharedT × Thread} (h : stepL p w n₀ ann s t = some r) : Good p w n₀ ann s t r := by
  obtain ⟨cur, code, pos, stack⟩ := t
  cases cur with
  | pure f => cases f with
    | done f => exact done_good h
    | again c => exact fall_good h
  | load a q k => exact load_good h
  | update a q f k => exact upd_good h
  | call c hd g l k => exact call_good h
  | loadIfAlive a k => exact loadIf_good h
  | alloc o k => exact alloc_good h
  | rule | «at» | fresh | ask | point => exact ⟨rfl, h⟩
  | _ => exact fall_good h
/-- the top of the text, run on a tree -/
noncomputable def runQ (p : Program) (w : World) (n₀ : Nat) (ann : Option Value) : Nat → SharedT → Thread → Option SharedT
  | 0, _, _ => none
  | n + 1, s, t => match through t with
    | true => some s
    | false => match stepL p w n₀ ann s t with
      | some (s', t') => runQ p w n₀ ann n s' t'
      | none => none
theorem runQ_spec {p : Program} {w : World} {n₀ : Nat} {ann : Option Value} : ∀ {n : Nat} {s s' : SharedT} {t : Thread}, runQ p w n₀ ann n s t = some s' → topRun treeTable p w n₀ ann n s.abs t = some s'.abs
  | 0, _, _, _, h => by cases h
  | n + 1, s, s', t, h => by
    unfold runQ at h
    unfold topRun
    cases ht : through t with
    | true => rw [ht] at h; cases h; rfl
    | false =>
      rw [ht] at h
      simp only at h ⊢
      cases hs : stepL p w n₀ ann s t with
      | none => rw [hs] at h; cases h
      | some r =>
        obtain ⟨s₂, t₂⟩ := r
        rw [hs] at h
        obtain ⟨g1, g2⟩ := stepL_good hs
        rw [g1, stepT_spec g2]
        exact runQ_spec h
noncomputable def goQ (p : Program) (w : World) (n₀ : Nat) (ann : Option Value) : Nat → SharedT → Thread → Option (SharedT × Thread)
  | 0, s, t => some (s, t)
  | n + 1, s, t => match through t with
    | true => none
    | false => match stepL p w n₀ ann s t with
      | some (s', t') => goQ p w n₀ ann n s' t'
      | none => none
theorem goQ_run {p : Program} {w : World} {n₀ : Nat} {ann : Option Value} {m : Nat} {r : SharedT} : ∀ {n : Nat} {s : SharedT} {t : Thread} {x : SharedT × Thread}, goQ p w n₀ ann n s t = some x → runQ p w n₀ ann m x.1 x.2 = some r → runQ p w n₀ ann (m + n) s t = some r
  | 0, _, _, _, h, k => by cases h; exact k
  | n + 1, s, t, x, h, k => by
    unfold goQ at h
    show runQ p w n₀ ann (m + n + 1) s t = some r
    unfold runQ
    cases ht : through t with
    | true => rw [ht] at h; cases h
    | false =>
      rw [ht] at h
      simp only at h ⊢
      cases hs : stepL p w n₀ ann s t with
      | none => rw [hs] at h; cases h
      | some y =>
        obtain ⟨s₂, t₂⟩ := y
        rw [hs] at h
        exact goQ_run h k
noncomputable def needL : List Nat := 3 :: (clsL.map (·.2) ++ (List.range 36 ++ (fnL.flatMap (fun p => [p.2, p.2 - 1]) ++ List.range 706)))
noncomputable def cellT (s : SharedT) (a : Nat) : Option Obj := match Nat.blt a s.n with
  | true => match getB s.tree a with
    | some o => alive o
    | none => none
  | false => none
/-- the objects that the evaluator leans on, read off the tree -/
noncomputable def fragT (s : SharedT) : Frag := needL.filterMap fun a => match cellT s a with
  | some o => some (a, o)
  | none => none
theorem cellT_at {s : SharedT} {a : Nat} {o : Obj} (e : cellT s a = some o) : s.abs.heap.get? a = some o := by
  unfold cellT at e
  rw [getB_eq] at e
  split at e
  · rename_i q
    split at e
    · rename_i g
      exact (abs_get (Nat.le_of_ble_eq_true q) g).trans e
    · cases e
  · cases e
theorem find_fm {s : SharedT} : ∀ (l : List Nat) {a : Nat} {o : Obj}, (l.filterMap fun a => match cellT s a with
  | some o => some (a, o)
  | none => none).lookup a = some o → s.abs.heap.get? a = some o
  | [], _, _, e => by cases e
  | b :: l, a, o, e => by
    cases hb : cellT s b with
    | none =>
      rw [List.filterMap_cons_none (by rw [hb])] at e
      exact find_fm l e
    | some x =>
      rw [List.filterMap_cons_some (b := (b, x)) (by rw [hb])] at e
      rw [List.lookup_cons] at e
      split at e
      · rename_i q
        cases e
        rw [beq_iff_eq] at q
        subst q; exact cellT_at hb
      · exact find_fm l e
theorem fragT_in (s : SharedT) : (fragT s).In s.abs.heap := fun a o e => find_fm _ e
noncomputable abbrev Src := FuncBody × Scope × Arguments
noncomputable def defOfS : Stmt → Option Src
  | .FunctionDef _ args body _ _ _ scope _ _ _ => some (.stmts body, scope, args)
  | _ => none
noncomputable def innerOf : Stmt → List Stmt
  | .ClassDef _ _ _ body _ _ _ _ _ _ _ => body
  | _ => []
noncomputable def defsIn : List Stmt → List Src
  | [] => []
  | s :: l => match defOfS s with
    | some c => c :: defsIn l
    | none => (innerOf s).filterMap defOfS ++ defsIn l
/-- where the functions of the text lie, in the text's order -/
noncomputable def adL : List Nat := 28 :: (fnL.drop 77 |>.take 1 |>.map (·.2)) ++ (fnL.drop 82 |>.map (·.2)) ++ (fnL.take 30 |>.map (·.2)) ++ [307, 328] ++ (fnL.drop 30 |>.take 9 |>.map (·.2)) ++ [412, 433] ++ (fnL.drop 39 |>.take 38 |>.map (·.2))
noncomputable def srcL : List (Nat × Src) := adL.zip (defsIn pw.main.body)
noncomputable def srcChk (f : Nat) (c : Src) : Bool := onSome (look FT f) fun fdl => onStmts c.1 (fun body => isSs fdl.body c.2.1 body) && (paramsChk c.2.2 fdl.params && okScope c.2.1 fdl.params)
noncomputable def codeOf (K : Frag) (a : Nat) : Option Src := match K.lookup a with
  | some o => match o.data with
    | .func fd => some (fd.body, fd.scope, fd.params)
    | _ => none
  | none => none
noncomputable def fnDyn (K : Frag) (a : Nat) : Bool := onSome (K.lookup a) fun o => onFunc o.data fun fd => isEmp fd.closure && (Nat.beq fd.globals mainGlobals && (Nat.beq fd.builtins builtinsNs && ((match fd.defaults with | .none => true | _ => false) && codeChk K fd.code fd.qualname)))
theorem fnChk_of {K : Frag} {f a : Nat} {c : Src} (d : fnDyn K a = true) (e : codeOf K a = some c) (h : srcChk f c = true) : fnChk K f a = true := by
  obtain ⟨o, ho, d⟩ := onSome_ex d
  obtain ⟨fd, hd, d⟩ := onFunc_at d
  obtain ⟨d1, d⟩ := both d
  obtain ⟨d2, d⟩ := both d
  obtain ⟨d3, d⟩ := both d
  obtain ⟨d4, d5⟩ := both d
  unfold codeOf at e
  rw [ho] at e
  simp only [hd, Option.some.injEq] at e
  subst e
  obtain ⟨fdl, hf, h⟩ := onSome_ex h
  obtain ⟨h1, h⟩ := both h
  obtain ⟨h2, h3⟩ := both h
  obtain ⟨body, hb, h1⟩ := onStmts_at h1
  dsimp only at hb h1 h2 h3
  unfold fnChk
  rw [hf, ho]
  simp only [onSome, hd, onFunc, hb, onStmts, h1, d1, d2, d3, d5, h2, h3, Bool.true_and, Bool.and_true]
  cases q : fd.defaults with
  | none => rfl
  | _ => rw [q] at d4; exact no d4
noncomputable def codesT (K : Frag) : List (Nat × Nat) → List (Option Src)
  | [] => []
  | p :: l => codeOf K p.2 :: codesT K l
noncomputable def codesP : List (Nat × Nat) → List (Option Src)
  | [] => []
  | p :: l => srcL.lookup p.2 :: codesP l
theorem codes_eq {K : Frag} : ∀ {l : List (Nat × Nat)}, codesT K l = codesP l → ∀ p ∈ l, codeOf K p.2 = srcL.lookup p.2
  | [], _, _, h => nomatch h
  | q :: l, e, p, h => by
    obtain ⟨a, b⟩ := List.cons.inj e
    rcases List.mem_cons.mp h with rfl | h
    · exact a
    · exact codes_eq b p h
noncomputable def SrcOk (l : List (Nat × Nat)) : Prop := l.all (fun p => onSome (srcL.lookup p.2) fun c => srcChk p.1 c) = true
noncomputable def kokF (K : Frag) : Bool := fnL.all (fun p => fnDyn K p.2) && (FT.all (fun p => !topFn p.1 || (look fnL p.1).isSome) && fnL.all (fun p => topChk K p.1 p.2))
noncomputable def kokC (K : Frag) : Bool := GL.init.all (fun p => initChk K p.1 p.2) && (clsL.all (fun p => allO (look GL.meth p.1) fun q => methChk K p.2 q.1 q.2) && clsL.all (fun p => allO (look GL.fld p.1) fun f => fldChk K p.2 (nm f)))
noncomputable def kokG (K : Frag) : Bool := GL.glob.all (fun p => globChk K p.1 p.2) && biL.all (fun p => biChk K p.1)
theorem kok_of {K : Frag} (s : SrcOk fnL) (f : kokF K = true) (e : codesT K fnL = codesP fnL) (c : kokC K = true) (g : kokG K = true) : KOk K := by
  obtain ⟨f1, f⟩ := Bool.and_eq_true_iff.mp f
  obtain ⟨f2, f3⟩ := Bool.and_eq_true_iff.mp f
  obtain ⟨c1, c⟩ := Bool.and_eq_true_iff.mp c
  obtain ⟨c2, c3⟩ := Bool.and_eq_true_iff.mp c
  obtain ⟨g1, g2⟩ := Bool.and_eq_true_iff.mp g
  refine ⟨List.all_eq_true.mpr fun p hp => ?_, f3, f2, c1, c2, c3, g1, g2⟩
  obtain ⟨c, hc, hs⟩ := onSome_ex (List.all_eq_true.mp s p hp)
  exact fnChk_of (List.all_eq_true.mp f1 p hp) ((codes_eq e p hp).trans hc) hs
/-- what the head says of the heap -/
noncomputable def Says (_ : World) (h : Heap) : Prop := ∃ K : Frag, KOk K ∧ K.In h
noncomputable def start0 (w : World) (os : OsState) : SharedT := ⟨treeOf (boot_heap w.params).objs.toList 0 .nil, (boot_heap w.params).objs.size, (boot_heap w.params).life, Array.mk [], boot_drawn, boot_toks, os⟩
theorem start0_abs (w : World) (os : OsState) : (start0 w os).abs = ⟨boot_heap w.params, Array.mk [], boot_drawn, boot_toks, os⟩ := by kernel_rfl
noncomputable def keepM : List Nat := [138]
noncomputable def qv : Program := view pw keepM
noncomputable def looseV : List Str := pw.boundNames.filter fun x => !decide (x = rw1.name)
noncomputable def Xt1 (s : Shared) : Bool := recOk (RowW.records rw1.toRowW) s
noncomputable abbrev NN1 : Nat := 12000
/-- the run of the first statements, to where the world's row has been asked -/
noncomputable def go1 (b : Bool) (w : World) (os : OsState) : Option (SharedT × Thread) := goQ pw (w.withFollow "special-get-raises" b) (boot_heap w.params).objs.size ((boot_heap w.params).nsMap mainGlobals "__annotations__") 935 (start0 w os) (topStub pw)
noncomputable def mid (w : World) (os : OsState) : SharedT × Thread := match go1 false w os with
  | some x => x
  | none => (start0 w os, topStub pw)
/-- the rest of the run: it asks the row no more -/
noncomputable def topR (b : Bool) (w : World) (os : OsState) : Option SharedT := runQ pw (w.withFollow "special-get-raises" b) (boot_heap w.params).objs.size ((boot_heap w.params).nsMap mainGlobals "__annotations__") 11000 (mid w os).1 (mid w os).2
/-- what the kernel is asked of the run -/
structure Tops : Prop where
  mf : ∀ w os, go1 false w os = some (mid w os)
  mt : ∀ w os, go1 true w os = some (mid w os)
  st : ∀ b w os, (topR b w os).map (fun s => (staticsOk (importedModules pw.main.body) (boot_heap w.params) s.abs.heap && namesBound pw s.abs.heap && gensDone s.abs && laidKept (boot_heap w.params) s.abs.heap, kokC (fragT s))) = some (true, true)
  se : ∀ b w os, (topR b w os).map (fun s => (Fast.tw4187177175401517315 qv looseV (importedModules pw.main.body) Xt1 true s.abs, kokG (fragT s))) = some (openGood qv looseV, true)
  fn : ∀ b w os, (topR b w os).map (fun s => (kokF (fragT s), codesT (fragT s) fnL)) = some (true, codesP fnL)
  src : SrcOk fnL
theorem boot_cond (w : World) (os : OsState) : ((boot_heap w.params).isNs mainGlobals && (Array.mk ([] : List GenState)).size == 0) = true := by kernel_rfl
noncomputable def SaysS (s : Shared) : Prop := ∃ K : Frag, KOk K ∧ K.In s.heap
theorem top_ok (L : Tops) (b : Bool) (w : World) (os : OsState) : (topFrom treeTable pw (w.withFollow "special-get-raises" b) NN1 ⟨boot_heap w.params, Array.mk [], boot_drawn, boot_toks, os⟩).map (fun s => (openSeen qv looseV (importedModules pw.main.body) Xt1 true s, SaysS s)) = some (openGood qv looseV, True) := by
  obtain ⟨s', hr, v1⟩ := Option.map_eq_some_iff.mp (L.st b w os)
  obtain ⟨s₁, hr', v2⟩ := Option.map_eq_some_iff.mp (L.se b w os)
  obtain rfl : s' = s₁ := Option.some.inj (hr.symm.trans hr')
  obtain ⟨s₁, hr', v3⟩ := Option.map_eq_some_iff.mp (L.fn b w os)
  obtain rfl : s' = s₁ := Option.some.inj (hr.symm.trans hr')
  obtain ⟨v1, kc⟩ := Prod.mk.inj v1
  obtain ⟨v2, kg⟩ := Prod.mk.inj v2
  obtain ⟨kf, ks⟩ := Prod.mk.inj v3
  have hg : go1 b w os = some (mid w os) := by
    cases b
    · exact L.mf w os
    · exact L.mt w os
  have r := runQ_spec (goQ_run hg hr)
  rw [start0_abs] at r
  have r := topRun_mono 65 _ _ _ _ r
  rw [← Fast.te4187177175401517315] at v2
  have t : topFrom treeTable pw (w.withFollow "special-get-raises" b) NN1 ⟨boot_heap w.params, Array.mk [], boot_drawn, boot_toks, os⟩ = some s'.abs := by
    unfold topFrom
    dsimp only
    rw [boot_cond w os, show NN1 = 11000 + 935 + 65 from rfl, r]
    show (match staticsOk (importedModules pw.main.body) (boot_heap w.params) s'.abs.heap && namesBound pw s'.abs.heap && gensDone s'.abs && laidKept (boot_heap w.params) s'.abs.heap with | true => some s'.abs | false => none) = _
    rw [v1]
  rw [t]
  exact congrArg some (Prod.ext v2 (eq_true ⟨fragT s', kok_of L.src kf ks kc kg, fragT_in s'⟩))
theorem left (L : Tops) : LeftO pw qv looseV Xt1 SaysS (fun _ => True) NN1 := by
  refine LeftO.of_split "special-get-raises" fun w => ?_
  have hb := boot_open (p := pw) (N := NN1) (by kernel_rfl) (by decide) (fun s => by kernel_rfl) w
  obtain ⟨⟨h, gs, d, k, os⟩, e, e'⟩ := Option.map_eq_some_iff.mp hb
  obtain ⟨rfl, rfl, rfl, rfl⟩ : h = boot_heap w.params ∧ gs = Array.mk [] ∧ d = boot_drawn ∧ k = boot_toks := by simpa using e'
  rw [e]
  show some ((topFrom treeTable pw (w.withFollow "special-get-raises" false) NN1 _).map _, (topFrom treeTable pw (w.withFollow "special-get-raises" true) NN1 _).map _) = _
  rw [top_ok L false w os, top_ok L true w os]
noncomputable def bearsL (n : Str) : List (Str × NameKind) → Bool
  | [] => false
  | p :: l => match seq n p.1 with
    | true => true
    | false => bearsL n l
theorem bearsL_eq (n : Str) : ∀ l, bearsL n l = (l.lookup n).isSome
  | [] => rfl
  | p :: l => by
    rw [List.lookup_cons]
    unfold bearsL
    cases h : seq n p.1 with
    | true => rw [seq_eq.mp h, beq_self_eq_true]; rfl
    | false =>
      have : (n == p.1) = false := by
        cases q : n == p.1 with
        | false => rfl
        | true => rw [seq_eq.mpr (eq_of_beq q)] at h; cases h
      rw [this]
      exact bearsL_eq n l
noncomputable def holdsQ : TablesWhole.Alg Bool := ⟨fun sc n _ => bearsL n sc.names, fun _ _ _ ok => ok, fun _ => true, true, false, fun a b => a && b⟩
theorem holdsQ_eq : TablesWhole.holds = holdsQ := by
  unfold TablesWhole.holds holdsQ
  congr 1
  funext sc n _
  exact (bearsL_eq n _).symm
theorem tables_ok : rw1.prog.tablesWhole = true := by
  unfold Program.tablesWhole TablesWhole.wProgram
  rw [Fast.te6116379765354995101, holdsQ_eq]
  kernel_rfl
theorem dd_ex : (defOf qv rw1.name).isSome = true := by kernel_rfl
noncomputable def ddk : DefRec × List (Str × Expr) := (defOf qv rw1.name).get dd_ex
theorem hdM (L : Tops) (call : WalkO qv looseV (fun _ _ => True) Says rw1.toRowW ddk.1 ddk.2 fun f vs => PySem.call f vs) (said : OpenLaw.wellSaid PySem.Challenge.rw_qd0039_01 = true) : PySem.Challenge.rw_qd0039_01.Holds := by
  refine holds_law said fun k1 => ?_
  refine holds_open (q := qv) (loose := looseV) (Xt := Xt1) (XP := fun _ _ => True) (Yf := SaysS) (Ya := fun _ => True) (YP := Says) (d := ddk.1) (kwd := ddk.2) (N := NN1) (left L)
    (fun w s e => of_eq_true e) (fun w h h' ⟨K, a, b⟩ k => ⟨K, a, fun x o e => k x o (b x o e)⟩) (fun _ _ => trivial) (fun _ _ _ _ _ => trivial) ?_ ?_ ?_ (fun s e => recFacts_of e) ?_ k1 ?_ ?_ ?_ call
  · exact (Option.some_get dd_ex).symm
  · kernel_rfl
  · kernel_rfl
  · kernel_rfl
  · kernel_rfl
  · exact ⟨rfl, rfl, rfl, rfl, rfl, tables_ok⟩
  · exact ⟨[.list []], by kernel_rfl, by kernel_rfl⟩
end Mine
end
section
set_option maxRecDepth 100000
set_option maxHeartbeats 0
namespace Mine
open PySem PySem.W PyProof.Rows
theorem top_src : SrcOk fnL := by unfold SrcOk; kernel_rfl
theorem top_mf (w : World) (os : OsState) : go1 false w os = some (mid w os) := by kernel_rfl
theorem top_mt (w : World) (os : OsState) : go1 true w os = some (mid w os) := by kernel_rfl
theorem top_st (b : Bool) (w : World) (os : OsState) : (topR b w os).map (fun s => (staticsOk (importedModules pw.main.body) (boot_heap w.params) s.abs.heap && namesBound pw s.abs.heap && gensDone s.abs && laidKept (boot_heap w.params) s.abs.heap, kokC (fragT s))) = some (true, true) := by kernel_rfl
theorem top_se (b : Bool) (w : World) (os : OsState) : (topR b w os).map (fun s => (Fast.tw4187177175401517315 qv looseV (importedModules pw.main.body) Xt1 true s.abs, kokG (fragT s))) = some (openGood qv looseV, true) := by kernel_rfl
theorem top_fn (b : Bool) (w : World) (os : OsState) : (topR b w os).map (fun s => (kokF (fragT s), codesT (fragT s) fnL)) = some (true, codesP fnL) := by kernel_rfl
theorem tops : Tops := ⟨top_mf, top_mt, top_st, top_se, top_fn, top_src⟩
end Mine
end
section
open PySem PySem.W PyProof.Rows
set_option maxRecDepth 100000
set_option maxHeartbeats 0
namespace Mine
theorem dd_name : ddk.1.name = nm 264 := by kernel_rfl
theorem main (L : Tops) (said : OpenLaw.wellSaid PySem.Challenge.rw_qd0039_01 = true) (plain : ∀ is : List Int, is.length ≤ 63 → callF NF k_law [.flist (is.map V.int)] (fun v _ => v = .bool true) []) : PySem.Challenge.rw_qd0039_01.Holds := by
  refine hdM L ?_ said
  intro w s₀ s₁ mg mb G Y fa o pm cd doc dV kV ho hd hcd hD hmg hg args vals as hpre hlay hrd hwl hlo
  obtain ⟨K, KK, KX⟩ := Y
  clear ho hd hcd hD
  have T := G.T
  have htop := List.all_eq_true.mp KK.top (264, 705) (by decide)
  wrow_args hpre hlay hrd hwl hlo
  rename_i is h1 h2 h3 h4 h5 l1 l2 D us l3 hL h6 h7 h8 hI h9 hlen h10
  have e : fa = 705 := by
    have h := htop
    unfold topChk at h
    rw [show topFn (264, 705).1 = true by decide +kernel, Bool.not_true, Bool.false_or] at h
    have a := mg_of KX T.g (isRefO_at h)
    have b : mg (nm 264) = some (.ref fa) := hmg
    rw [a] at b; cases b; rfl
  subst e
  have O : WAll (WdOf pw w s₁.heap K mg mb) := wall_of KK KX T.nolimit (T.seer (by kernel_rfl)) T.g T.b T.builtins rfl boot_ok
  refine wpAny_mono (law_call O hL hI (plain is (by omega))) (fun v s' z => ?_) fun _ _ f => f.elim
  obtain ⟨rfl, hk, hos, hgen⟩ := z
  refine ⟨.inl ⟨_, .bool true, [], rfl, fun cls => rfl, .bool true, ?_, fun _ => ⟨List.nodup_nil, fun _ h => nomatch h⟩⟩, .of_keep hk, hos, .of_eq (hgen.trans hg)⟩
  wrow_post
end Mine
end
section
set_option maxRecDepth 100000
namespace Mine
section
variable (C : Nat → List V → M V)
noncomputable def forB (x : Nat) (b : Ss) : V → Loc → M Flow := fun v ρ Q H => wSs C b (Mine.put ρ x v) Q H
noncomputable def for2B (x y : Nat) (b : Ss) : V → Loc → M Flow := fun v ρ Q H => onPair v fun p q => wSs C b (Mine.put (Mine.put ρ x p) y q) Q H
noncomputable def tstB (c : E) : Loc → M Bool := fun ρ Q => wE C c ρ (fun v H => wTru v Q H)
noncomputable def bdB (b : Ss) : Loc → M Flow := fun ρ Q H => wSs C b ρ Q H
noncomputable def eltB (x : Nat) (e : E) (ρ : Loc) : V → M (Option V) := fun v Q => wE C e (Mine.put ρ x v) (fun y H => Q (some y) H)
noncomputable def eltI (x : Nat) (c e : E) (ρ : Loc) : V → M (Option V) := fun v Q => wE C c (Mine.put ρ x v) (fun c H => wTru c (fun b H => ifK b (wE C e (Mine.put ρ x v) (fun y H => Q (some y) H) H) (Q Option.none H)) H)
noncomputable def kNeg (Q : V → AH → Prop) : V → AH → Prop := fun v H => onInt v fun i => Q (.int (-i)) H
noncomputable def kNew4 (o : V) (Q : V → AH → Prop) : V → AH → Prop := fun r H => onNone r (Q o H)
noncomputable def kIsb (Q : V → AH → Prop) : V → AH → Prop := fun v H => isB v fun b => Q (.bool b) H
noncomputable def kMax2 (va : V) (Q : V → AH → Prop) : V → AH → Prop := fun vb H => onInt va fun x => onInt vb fun y => Q (.int (if x < y then y else x)) H
noncomputable def kMin2 (va : V) (Q : V → AH → Prop) : V → AH → Prop := fun vb H => onInt va fun x => onInt vb fun y => Q (.int (if y < x then y else x)) H
noncomputable def kRange (Q : V → AH → Prop) : V → AH → Prop := fun v H => onInt v fun n => bQ (decide (0 ≤ n) && decide (n ≤ 1000000)) (Q (.rng n.toNat) H)
noncomputable def kAnd (es : Es) (ρ : Loc) (Q : V → AH → Prop) : V → AH → Prop := fun v H => onBool v fun b => ifK b (wAnd C es ρ Q H) (Q (.bool false) H)
noncomputable def kOr (es : Es) (ρ : Loc) (Q : V → AH → Prop) : V → AH → Prop := fun v H => onBool v fun b => ifK b (Q (.bool true) H) (wOr C es ρ Q H)
noncomputable def kAs2 (x y : Nat) (ρ : Loc) (Q : Flow → AH → Prop) : V → AH → Prop := fun v H => onPair v fun a b => Q (.next (Mine.put (Mine.put ρ x a) y b)) H
noncomputable def kIte2 (t e : Ss) (ρ : Loc) (Q : Flow → AH → Prop) : Bool → AH → Prop := fun b H => ifK b (wSs C t ρ Q H) (wSs C e ρ Q H)
noncomputable def kSeq (ss : Ss) (Q : Flow → AH → Prop) : Flow → AH → Prop := flowK (fun ρ H => wSs C ss ρ Q H) (fun v H => Q (.ret v) H)
noncomputable def kBin2 (op : BOp) (va : V) (Q : V → AH → Prop) : V → AH → Prop := fun vb H => wBin op va vb Q H
noncomputable def kBin1 (op : BOp) (b : E) (ρ : Loc) (Q : V → AH → Prop) : V → AH → Prop := fun va H => wE C b ρ (kBin2 op va Q) H
noncomputable def kNotB (Q : V → AH → Prop) : Bool → AH → Prop := fun b H => Q (.bool (!b)) H
noncomputable def kNot (Q : V → AH → Prop) : V → AH → Prop := fun v H => wTru v (kNotB Q) H
noncomputable def kCmpR (Q : V → AH → Prop) : Bool → AH → Prop := fun r H => Q (.bool r) H
noncomputable def kCmp2 (op : COp) (va : V) (Q : V → AH → Prop) : V → AH → Prop := fun vb H => wCmp op va vb (kCmpR Q) H
noncomputable def kCmp1 (op : COp) (b : E) (ρ : Loc) (Q : V → AH → Prop) : V → AH → Prop := fun va H => wE C b ρ (kCmp2 op va Q) H
noncomputable def kC4 (op : COp) (vb : V) (Q : V → AH → Prop) : V → AH → Prop := fun vc H => wCmp op vb vc (kCmpR Q) H
noncomputable def kC3 (op : COp) (vb : V) (c : E) (ρ : Loc) (Q : V → AH → Prop) : Bool → AH → Prop := fun r H => ifK r (wE C c ρ (kC4 op vb Q) H) (Q (.bool false) H)
noncomputable def kC2 (o1 o2 : COp) (va : V) (c : E) (ρ : Loc) (Q : V → AH → Prop) : V → AH → Prop := fun vb H => wCmp o1 va vb (kC3 C o2 vb c ρ Q) H
noncomputable def kC1 (o1 o2 : COp) (b c : E) (ρ : Loc) (Q : V → AH → Prop) : V → AH → Prop := fun va H => wE C b ρ (kC2 C o1 o2 va c ρ Q) H
noncomputable def kCall (f : Nat) (Q : V → AH → Prop) : List V → AH → Prop := fun vs H => wp (C f vs) Q H
noncomputable def kNew3 (o : V) (vs : List V) (Q : V → AH → Prop) : Nat → AH → Prop := fun f H => wp (C f (o :: vs)) (kNew4 o Q) H
noncomputable def kNew2 (c : Nat) (vs : List V) (Q : V → AH → Prop) : V → AH → Prop := fun o H => oQ (look GL.init c) (kNew3 C o vs Q) H
noncomputable def kNew1 (c : Nat) (Q : V → AH → Prop) : List V → AH → Prop := fun vs H => wAl (.inst c []) (kNew2 C c vs Q) H
noncomputable def kLen (Q : V → AH → Prop) : V → AH → Prop := fun v H => wp (lenV v) Q H
noncomputable def kTuple (Q : V → AH → Prop) : V → AH → Prop := fun v H => wp (tupleV v) Q H
noncomputable def kApp3 (vo : V) (Q : V → AH → Prop) : V → AH → Prop := fun v H => wp (appendV vo v) Q H
noncomputable def kApp2 (e : E) (vo : V) (ρ : Loc) (Q : V → AH → Prop) : Unit → AH → Prop := fun u H => wE C e ρ (kApp3 vo Q) H
noncomputable def kApp1 (e : E) (ρ : Loc) (Q : V → AH → Prop) : V → AH → Prop := fun vo H => wp (isLstV vo) (kApp2 C e vo ρ Q) H
noncomputable def kPop (Q : V → AH → Prop) : V → AH → Prop := fun vo H => wp (popV vo) Q H
noncomputable def kGet3 (vo : V) (Q : V → AH → Prop) : V → AH → Prop := fun vk H => wp (getV vo vk .none) Q H
noncomputable def kGet2 (k : E) (vo : V) (ρ : Loc) (Q : V → AH → Prop) : Unit → AH → Prop := fun u H => wE C k ρ (kGet3 vo Q) H
noncomputable def kGet1 (k : E) (ρ : Loc) (Q : V → AH → Prop) : V → AH → Prop := fun vo H => wp (isDctV vo) (kGet2 C k vo ρ Q) H
noncomputable def kGt4 (vo vk : V) (Q : V → AH → Prop) : V → AH → Prop := fun vd H => wp (getV vo vk vd) Q H
noncomputable def kGt3 (d : E) (vo : V) (ρ : Loc) (Q : V → AH → Prop) : V → AH → Prop := fun vk H => wE C d ρ (kGt4 vo vk Q) H
noncomputable def kGt2 (k d : E) (vo : V) (ρ : Loc) (Q : V → AH → Prop) : Unit → AH → Prop := fun u H => wE C k ρ (kGt3 C d vo ρ Q) H
noncomputable def kGt1 (k d : E) (ρ : Loc) (Q : V → AH → Prop) : V → AH → Prop := fun vo H => wp (isDctV vo) (kGt2 C k d vo ρ Q) H





noncomputable def kM5 (vo : V) (f : Nat) (Q : V → AH → Prop) : List V → AH → Prop := fun vs H => wp (C f (vo :: vs)) Q H
noncomputable def kM4 (es : Es) (vo : V) (ρ : Loc) (Q : V → AH → Prop) : Nat → AH → Prop := fun f H => wEs C es ρ (kM5 C vo f Q) H
noncomputable def kM3 (m : Nat) (es : Es) (vo : V) (ρ : Loc) (Q : V → AH → Prop) : List (Nat × Nat) → AH → Prop := fun ms H => oQ (look ms m) (kM4 C es vo ρ Q) H
noncomputable def kM2 (m : Nat) (es : Es) (vo : V) (ρ : Loc) (Q : V → AH → Prop) : Nat → AH → Prop := fun c H => oQ (look GL.meth c) (kM3 C m es vo ρ Q) H
noncomputable def kM1 (m : Nat) (es : Es) (ρ : Loc) (Q : V → AH → Prop) : V → AH → Prop := fun vo H => wp (clsV vo m) (kM2 C m es vo ρ Q) H
noncomputable def kAttr (f : Nat) (Q : V → AH → Prop) : V → AH → Prop := fun vo H => wp (attrV GL.fld vo f) Q H
noncomputable def kSub2 (vo : V) (Q : V → AH → Prop) : V → AH → Prop := fun vi H => wSub vo vi Q H
noncomputable def kSub1 (i : E) (ρ : Loc) (Q : V → AH → Prop) : V → AH → Prop := fun vo H => wE C i ρ (kSub2 vo Q) H
noncomputable def kUpto2 (vo : V) (Q : V → AH → Prop) : V → AH → Prop := fun vi H => wp (uptoV vo vi) Q H
noncomputable def kUpto1 (i : E) (ρ : Loc) (Q : V → AH → Prop) : V → AH → Prop := fun vo H => wE C i ρ (kUpto2 vo Q) H
noncomputable def kFrom2 (vo : V) (Q : V → AH → Prop) : V → AH → Prop := fun vi H => wp (fromV vo vi) Q H
noncomputable def kFrom1 (i : E) (ρ : Loc) (Q : V → AH → Prop) : V → AH → Prop := fun vo H => wE C i ρ (kFrom2 vo Q) H
noncomputable def kTup (Q : V → AH → Prop) : List V → AH → Prop := fun vs H => Q (.tup vs) H
noncomputable def kLst (Q : V → AH → Prop) : List V → AH → Prop := fun vs H => wAl (.lst vs) Q H
noncomputable def kDct (es : Es) (Q : V → AH → Prop) : List V → AH → Prop := fun vs H => wp (dctV (kdE es) [] vs) Q H
noncomputable def kCo2 (x : Nat) (e : E) (ρ : Loc) (Q : V → AH → Prop) : It → AH → Prop := fun it H => wp (compL (eltB C x e ρ) fuelL it []) (kLst Q) H
noncomputable def kCo1 (x : Nat) (e : E) (ρ : Loc) (Q : V → AH → Prop) : V → AH → Prop := fun v H => wIt v (kCo2 C x e ρ Q) H
noncomputable def kCi2 (x : Nat) (c e : E) (ρ : Loc) (Q : V → AH → Prop) : It → AH → Prop := fun it H => wp (compL (eltI C x c e ρ) fuelL it []) (kLst Q) H
noncomputable def kCi1 (x : Nat) (c e : E) (ρ : Loc) (Q : V → AH → Prop) : V → AH → Prop := fun v H => wIt v (kCi2 C x c e ρ Q) H
noncomputable def kSome (Q : Option V → AH → Prop) : V → AH → Prop := fun y H => Q (some y) H
noncomputable def kEI2 (x : Nat) (e : E) (ρ : Loc) (v : V) (Q : Option V → AH → Prop) : Bool → AH → Prop := fun b H => ifK b (wE C e (Mine.put ρ x v) (kSome Q) H) (Q Option.none H)
noncomputable def kEI1 (x : Nat) (e : E) (ρ : Loc) (v : V) (Q : Option V → AH → Prop) : V → AH → Prop := fun c H => wTru c (kEI2 C x e ρ v Q) H
noncomputable def kEs2 (v : V) (Q : List V → AH → Prop) : List V → AH → Prop := fun vs H => Q (v :: vs) H
noncomputable def kEs1 (es : Es) (ρ : Loc) (Q : List V → AH → Prop) : V → AH → Prop := fun v H => wEs C es ρ (kEs2 v Q) H
noncomputable def kMax1 (b : E) (ρ : Loc) (Q : V → AH → Prop) : V → AH → Prop := fun va H => wE C b ρ (kMax2 va Q) H
noncomputable def kMin1 (b : E) (ρ : Loc) (Q : V → AH → Prop) : V → AH → Prop := fun va H => wE C b ρ (kMin2 va Q) H
noncomputable def kAsg (x : Nat) (ρ : Loc) (Q : Flow → AH → Prop) : V → AH → Prop := fun v H => Q (.next (Mine.put ρ x v)) H
noncomputable def kExp (ρ : Loc) (Q : Flow → AH → Prop) : V → AH → Prop := fun v H => Q (.next ρ) H
noncomputable def kRet (Q : Flow → AH → Prop) : V → AH → Prop := fun v H => Q (.ret v) H
noncomputable def kSA2 (f : Nat) (v : V) (ρ : Loc) (Q : Flow → AH → Prop) : V → AH → Prop := fun vo H => wp (setattrV GL.fld vo f v) (kU ρ Q) H
noncomputable def kSA1 (o : E) (f : Nat) (ρ : Loc) (Q : Flow → AH → Prop) : V → AH → Prop := fun v H => wE C o ρ (kSA2 f v ρ Q) H
noncomputable def kSI3 (vo v : V) (ρ : Loc) (Q : Flow → AH → Prop) : V → AH → Prop := fun vi H => wp (setV vo vi v) (kU ρ Q) H
noncomputable def kSI2 (i : E) (v : V) (ρ : Loc) (Q : Flow → AH → Prop) : V → AH → Prop := fun vo H => wE C i ρ (kSI3 vo v ρ Q) H
noncomputable def kSI1 (o i : E) (ρ : Loc) (Q : Flow → AH → Prop) : V → AH → Prop := fun v H => wE C o ρ (kSI2 C i v ρ Q) H
noncomputable def kAug2 (x : Nat) (op : BOp) (old : V) (ρ : Loc) (Q : Flow → AH → Prop) : V → AH → Prop := fun v H => wOn op old v (kAsg x ρ Q) H
noncomputable def kAug1 (x : Nat) (op : BOp) (e : E) (ρ : Loc) (Q : Flow → AH → Prop) : V → AH → Prop := fun old H => wE C e ρ (kAug2 x op old ρ Q) H
noncomputable def kAA4 (f : Nat) (vo : V) (ρ : Loc) (Q : Flow → AH → Prop) : V → AH → Prop := fun r H => wp (setattrV GL.fld vo f r) (kU ρ Q) H
noncomputable def kAA3 (f : Nat) (op : BOp) (vo old : V) (ρ : Loc) (Q : Flow → AH → Prop) : V → AH → Prop := fun v H => wOn op old v (kAA4 f vo ρ Q) H
noncomputable def kAA2 (f : Nat) (op : BOp) (e : E) (vo : V) (ρ : Loc) (Q : Flow → AH → Prop) : V → AH → Prop := fun old H => wE C e ρ (kAA3 f op vo old ρ Q) H
noncomputable def kAA1 (f : Nat) (op : BOp) (e : E) (ρ : Loc) (Q : Flow → AH → Prop) : V → AH → Prop := fun vo H => wp (attrV GL.fld vo f) (kAA2 C f op e vo ρ Q) H
noncomputable def kAI5 (vo vi : V) (ρ : Loc) (Q : Flow → AH → Prop) : V → AH → Prop := fun r H => wp (setV vo vi r) (kU ρ Q) H
noncomputable def kAI4 (op : BOp) (vo vi old : V) (ρ : Loc) (Q : Flow → AH → Prop) : V → AH → Prop := fun v H => wOn op old v (kAI5 vo vi ρ Q) H
noncomputable def kAI3 (op : BOp) (e : E) (vo vi : V) (ρ : Loc) (Q : Flow → AH → Prop) : V → AH → Prop := fun old H => wE C e ρ (kAI4 op vo vi old ρ Q) H
noncomputable def kAI2 (op : BOp) (e : E) (vo : V) (ρ : Loc) (Q : Flow → AH → Prop) : V → AH → Prop := fun vi H => wSub vo vi (kAI3 C op e vo vi ρ Q) H
noncomputable def kAI1 (i : E) (op : BOp) (e : E) (ρ : Loc) (Q : Flow → AH → Prop) : V → AH → Prop := fun vo H => wE C i ρ (kAI2 C op e vo ρ Q) H
noncomputable def kDel2 (vo : V) (ρ : Loc) (Q : Flow → AH → Prop) : V → AH → Prop := fun vi H => wp (delV vo vi) (kU ρ Q) H
noncomputable def kDel1 (i : E) (ρ : Loc) (Q : Flow → AH → Prop) : V → AH → Prop := fun vo H => wE C i ρ (kDel2 vo ρ Q) H
noncomputable def kIte1 (t e : Ss) (ρ : Loc) (Q : Flow → AH → Prop) : V → AH → Prop := fun v H => wTru v (kIte2 C t e ρ Q) H
noncomputable def kFor2 (x : Nat) (b : Ss) (ρ : Loc) (Q : Flow → AH → Prop) : It → AH → Prop := fun it H => wp (forL (forB C x b) fuelL it ρ) Q H
noncomputable def kFor1 (x : Nat) (b : Ss) (ρ : Loc) (Q : Flow → AH → Prop) : V → AH → Prop := fun v H => wIt v (kFor2 C x b ρ Q) H
noncomputable def kFf2 (x y : Nat) (b : Ss) (ρ : Loc) (Q : Flow → AH → Prop) : It → AH → Prop := fun it H => wp (forL (for2B C x y b) fuelL it ρ) Q H
noncomputable def kFf1 (x y : Nat) (b : Ss) (ρ : Loc) (Q : Flow → AH → Prop) : V → AH → Prop := fun v H => wIt v (kFf2 C x y b ρ Q) H
noncomputable def kTru (Q : Bool → AH → Prop) : V → AH → Prop := fun v H => wTru v Q H
end
section
variable {C : Nat → List V → M V} {H : AH}
@[simp] theorem kBin2_at {op : BOp} {va : V} {Q : V → AH → Prop} {vb : V} : kBin2 op va Q vb H = (wBin op va vb Q H) := rfl
@[simp] theorem kBin1_at {op : BOp} {b : E} {ρ : Loc} {Q : V → AH → Prop} {va : V} : kBin1 C op b ρ Q va H = (wE C b ρ (kBin2 op va Q) H) := rfl
@[simp] theorem kNotB_at {Q : V → AH → Prop} {b : Bool} : kNotB Q b H = (Q (.bool (!b)) H) := rfl
@[simp] theorem kNot_at {Q : V → AH → Prop} {v : V} : kNot Q v H = (wTru v (kNotB Q) H) := rfl
@[simp] theorem kCmpR_at {Q : V → AH → Prop} {r : Bool} : kCmpR Q r H = (Q (.bool r) H) := rfl
@[simp] theorem kCmp2_at {op : COp} {va : V} {Q : V → AH → Prop} {vb : V} : kCmp2 op va Q vb H = (wCmp op va vb (kCmpR Q) H) := rfl
@[simp] theorem kCmp1_at {op : COp} {b : E} {ρ : Loc} {Q : V → AH → Prop} {va : V} : kCmp1 C op b ρ Q va H = (wE C b ρ (kCmp2 op va Q) H) := rfl
@[simp] theorem kC4_at {op : COp} {vb : V} {Q : V → AH → Prop} {vc : V} : kC4 op vb Q vc H = (wCmp op vb vc (kCmpR Q) H) := rfl
@[simp] theorem kC2_at {o1 o2 : COp} {va : V} {c : E} {ρ : Loc} {Q : V → AH → Prop} {vb : V} : kC2 C o1 o2 va c ρ Q vb H = (wCmp o1 va vb (kC3 C o2 vb c ρ Q) H) := rfl
@[simp] theorem kC1_at {o1 o2 : COp} {b c : E} {ρ : Loc} {Q : V → AH → Prop} {va : V} : kC1 C o1 o2 b c ρ Q va H = (wE C b ρ (kC2 C o1 o2 va c ρ Q) H) := rfl
@[simp] theorem kCall_at {f : Nat} {Q : V → AH → Prop} {vs : List V} : kCall C f Q vs H = (wp (C f vs) Q H) := rfl
@[simp] theorem kNew3_at {o : V} {vs : List V} {Q : V → AH → Prop} {f : Nat} : kNew3 C o vs Q f H = (wp (C f (o :: vs)) (kNew4 o Q) H) := rfl
@[simp] theorem kNew2_at {c : Nat} {vs : List V} {Q : V → AH → Prop} {o : V} : kNew2 C c vs Q o H = (oQ (look GL.init c) (kNew3 C o vs Q) H) := rfl
@[simp] theorem kNew1_at {c : Nat} {Q : V → AH → Prop} {vs : List V} : kNew1 C c Q vs H = (wAl (.inst c []) (kNew2 C c vs Q) H) := rfl
@[simp] theorem kLen_at {Q : V → AH → Prop} {v : V} : kLen Q v H = (wp (lenV v) Q H) := rfl
@[simp] theorem kTuple_at {Q : V → AH → Prop} {v : V} : kTuple Q v H = (wp (tupleV v) Q H) := rfl
@[simp] theorem kApp3_at {vo : V} {Q : V → AH → Prop} {v : V} : kApp3 vo Q v H = (wp (appendV vo v) Q H) := rfl
@[simp] theorem kApp2_at {e : E} {vo : V} {ρ : Loc} {Q : V → AH → Prop} {u : Unit} : kApp2 C e vo ρ Q u H = (wE C e ρ (kApp3 vo Q) H) := rfl
@[simp] theorem kApp1_at {e : E} {ρ : Loc} {Q : V → AH → Prop} {vo : V} : kApp1 C e ρ Q vo H = (wp (isLstV vo) (kApp2 C e vo ρ Q) H) := rfl
@[simp] theorem kPop_at {Q : V → AH → Prop} {vo : V} : kPop Q vo H = (wp (popV vo) Q H) := rfl
@[simp] theorem kGet3_at {vo : V} {Q : V → AH → Prop} {vk : V} : kGet3 vo Q vk H = (wp (getV vo vk .none) Q H) := rfl
@[simp] theorem kGet2_at {k : E} {vo : V} {ρ : Loc} {Q : V → AH → Prop} {u : Unit} : kGet2 C k vo ρ Q u H = (wE C k ρ (kGet3 vo Q) H) := rfl
@[simp] theorem kGet1_at {k : E} {ρ : Loc} {Q : V → AH → Prop} {vo : V} : kGet1 C k ρ Q vo H = (wp (isDctV vo) (kGet2 C k vo ρ Q) H) := rfl
@[simp] theorem kGt4_at {vo vk : V} {Q : V → AH → Prop} {vd : V} : kGt4 vo vk Q vd H = (wp (getV vo vk vd) Q H) := rfl
@[simp] theorem kGt3_at {d : E} {vo : V} {ρ : Loc} {Q : V → AH → Prop} {vk : V} : kGt3 C d vo ρ Q vk H = (wE C d ρ (kGt4 vo vk Q) H) := rfl
@[simp] theorem kGt2_at {k d : E} {vo : V} {ρ : Loc} {Q : V → AH → Prop} {u : Unit} : kGt2 C k d vo ρ Q u H = (wE C k ρ (kGt3 C d vo ρ Q) H) := rfl
@[simp] theorem kGt1_at {k d : E} {ρ : Loc} {Q : V → AH → Prop} {vo : V} : kGt1 C k d ρ Q vo H = (wp (isDctV vo) (kGt2 C k d vo ρ Q) H) := rfl
@[simp] theorem kM5_at {vo : V} {f : Nat} {Q : V → AH → Prop} {vs : List V} : kM5 C vo f Q vs H = (wp (C f (vo :: vs)) Q H) := rfl
@[simp] theorem kM4_at {es : Es} {vo : V} {ρ : Loc} {Q : V → AH → Prop} {f : Nat} : kM4 C es vo ρ Q f H = (wEs C es ρ (kM5 C vo f Q) H) := rfl
@[simp] theorem kM3_at {m : Nat} {es : Es} {vo : V} {ρ : Loc} {Q : V → AH → Prop} {ms : List (Nat × Nat)} : kM3 C m es vo ρ Q ms H = (oQ (look ms m) (kM4 C es vo ρ Q) H) := rfl
@[simp] theorem kM2_at {m : Nat} {es : Es} {vo : V} {ρ : Loc} {Q : V → AH → Prop} {c : Nat} : kM2 C m es vo ρ Q c H = (oQ (look GL.meth c) (kM3 C m es vo ρ Q) H) := rfl
@[simp] theorem kM1_at {m : Nat} {es : Es} {ρ : Loc} {Q : V → AH → Prop} {vo : V} : kM1 C m es ρ Q vo H = (wp (clsV vo m) (kM2 C m es vo ρ Q) H) := rfl
@[simp] theorem kAttr_at {f : Nat} {Q : V → AH → Prop} {vo : V} : kAttr f Q vo H = (wp (attrV GL.fld vo f) Q H) := rfl
@[simp] theorem kSub2_at {vo : V} {Q : V → AH → Prop} {vi : V} : kSub2 vo Q vi H = (wSub vo vi Q H) := rfl
@[simp] theorem kSub1_at {i : E} {ρ : Loc} {Q : V → AH → Prop} {vo : V} : kSub1 C i ρ Q vo H = (wE C i ρ (kSub2 vo Q) H) := rfl
@[simp] theorem kUpto2_at {vo : V} {Q : V → AH → Prop} {vi : V} : kUpto2 vo Q vi H = (wp (uptoV vo vi) Q H) := rfl
@[simp] theorem kUpto1_at {i : E} {ρ : Loc} {Q : V → AH → Prop} {vo : V} : kUpto1 C i ρ Q vo H = (wE C i ρ (kUpto2 vo Q) H) := rfl
@[simp] theorem kFrom2_at {vo : V} {Q : V → AH → Prop} {vi : V} : kFrom2 vo Q vi H = (wp (fromV vo vi) Q H) := rfl
@[simp] theorem kFrom1_at {i : E} {ρ : Loc} {Q : V → AH → Prop} {vo : V} : kFrom1 C i ρ Q vo H = (wE C i ρ (kFrom2 vo Q) H) := rfl
@[simp] theorem kTup_at {Q : V → AH → Prop} {vs : List V} : kTup Q vs H = (Q (.tup vs) H) := rfl
@[simp] theorem kLst_at {Q : V → AH → Prop} {vs : List V} : kLst Q vs H = (wAl (.lst vs) Q H) := rfl
@[simp] theorem kDct_at {es : Es} {Q : V → AH → Prop} {vs : List V} : kDct es Q vs H = (wp (dctV (kdE es) [] vs) Q H) := rfl
@[simp] theorem kCo2_at {x : Nat} {e : E} {ρ : Loc} {Q : V → AH → Prop} {it : It} : kCo2 C x e ρ Q it H = (wp (compL (eltB C x e ρ) fuelL it []) (kLst Q) H) := rfl
@[simp] theorem kCo1_at {x : Nat} {e : E} {ρ : Loc} {Q : V → AH → Prop} {v : V} : kCo1 C x e ρ Q v H = (wIt v (kCo2 C x e ρ Q) H) := rfl
@[simp] theorem kCi2_at {x : Nat} {c e : E} {ρ : Loc} {Q : V → AH → Prop} {it : It} : kCi2 C x c e ρ Q it H = (wp (compL (eltI C x c e ρ) fuelL it []) (kLst Q) H) := rfl
@[simp] theorem kCi1_at {x : Nat} {c e : E} {ρ : Loc} {Q : V → AH → Prop} {v : V} : kCi1 C x c e ρ Q v H = (wIt v (kCi2 C x c e ρ Q) H) := rfl
@[simp] theorem kSome_at {Q : Option V → AH → Prop} {y : V} : kSome Q y H = (Q (some y) H) := rfl
@[simp] theorem kEI1_at {x : Nat} {e : E} {ρ : Loc} {v : V} {Q : Option V → AH → Prop} {c : V} : kEI1 C x e ρ v Q c H = (wTru c (kEI2 C x e ρ v Q) H) := rfl
@[simp] theorem kEs2_at {v : V} {Q : List V → AH → Prop} {vs : List V} : kEs2 v Q vs H = (Q (v :: vs) H) := rfl
@[simp] theorem kEs1_at {es : Es} {ρ : Loc} {Q : List V → AH → Prop} {v : V} : kEs1 C es ρ Q v H = (wEs C es ρ (kEs2 v Q) H) := rfl
@[simp] theorem kMax1_at {b : E} {ρ : Loc} {Q : V → AH → Prop} {va : V} : kMax1 C b ρ Q va H = (wE C b ρ (kMax2 va Q) H) := rfl
@[simp] theorem kMin1_at {b : E} {ρ : Loc} {Q : V → AH → Prop} {va : V} : kMin1 C b ρ Q va H = (wE C b ρ (kMin2 va Q) H) := rfl
@[simp] theorem kAsg_at {x : Nat} {ρ : Loc} {Q : Flow → AH → Prop} {v : V} : kAsg x ρ Q v H = (Q (.next (Mine.put ρ x v)) H) := rfl
@[simp] theorem kExp_at {ρ : Loc} {Q : Flow → AH → Prop} {v : V} : kExp ρ Q v H = (Q (.next ρ) H) := rfl
@[simp] theorem kRet_at {Q : Flow → AH → Prop} {v : V} : kRet Q v H = (Q (.ret v) H) := rfl
@[simp] theorem kSA2_at {f : Nat} {v : V} {ρ : Loc} {Q : Flow → AH → Prop} {vo : V} : kSA2 f v ρ Q vo H = (wp (setattrV GL.fld vo f v) (kU ρ Q) H) := rfl
@[simp] theorem kSA1_at {o : E} {f : Nat} {ρ : Loc} {Q : Flow → AH → Prop} {v : V} : kSA1 C o f ρ Q v H = (wE C o ρ (kSA2 f v ρ Q) H) := rfl
@[simp] theorem kSI3_at {vo v : V} {ρ : Loc} {Q : Flow → AH → Prop} {vi : V} : kSI3 vo v ρ Q vi H = (wp (setV vo vi v) (kU ρ Q) H) := rfl
@[simp] theorem kSI2_at {i : E} {v : V} {ρ : Loc} {Q : Flow → AH → Prop} {vo : V} : kSI2 C i v ρ Q vo H = (wE C i ρ (kSI3 vo v ρ Q) H) := rfl
@[simp] theorem kSI1_at {o i : E} {ρ : Loc} {Q : Flow → AH → Prop} {v : V} : kSI1 C o i ρ Q v H = (wE C o ρ (kSI2 C i v ρ Q) H) := rfl
@[simp] theorem kAug2_at {x : Nat} {op : BOp} {old : V} {ρ : Loc} {Q : Flow → AH → Prop} {v : V} : kAug2 x op old ρ Q v H = (wOn op old v (kAsg x ρ Q) H) := rfl
@[simp] theorem kAug1_at {x : Nat} {op : BOp} {e : E} {ρ : Loc} {Q : Flow → AH → Prop} {old : V} : kAug1 C x op e ρ Q old H = (wE C e ρ (kAug2 x op old ρ Q) H) := rfl
@[simp] theorem kAA4_at {f : Nat} {vo : V} {ρ : Loc} {Q : Flow → AH → Prop} {r : V} : kAA4 f vo ρ Q r H = (wp (setattrV GL.fld vo f r) (kU ρ Q) H) := rfl
@[simp] theorem kAA3_at {f : Nat} {op : BOp} {vo old : V} {ρ : Loc} {Q : Flow → AH → Prop} {v : V} : kAA3 f op vo old ρ Q v H = (wOn op old v (kAA4 f vo ρ Q) H) := rfl
@[simp] theorem kAA2_at {f : Nat} {op : BOp} {e : E} {vo : V} {ρ : Loc} {Q : Flow → AH → Prop} {old : V} : kAA2 C f op e vo ρ Q old H = (wE C e ρ (kAA3 f op vo old ρ Q) H) := rfl
@[simp] theorem kAA1_at {f : Nat} {op : BOp} {e : E} {ρ : Loc} {Q : Flow → AH → Prop} {vo : V} : kAA1 C f op e ρ Q vo H = (wp (attrV GL.fld vo f) (kAA2 C f op e vo ρ Q) H) := rfl
@[simp] theorem kAI5_at {vo vi : V} {ρ : Loc} {Q : Flow → AH → Prop} {r : V} : kAI5 vo vi ρ Q r H = (wp (setV vo vi r) (kU ρ Q) H) := rfl
@[simp] theorem kAI4_at {op : BOp} {vo vi old : V} {ρ : Loc} {Q : Flow → AH → Prop} {v : V} : kAI4 op vo vi old ρ Q v H = (wOn op old v (kAI5 vo vi ρ Q) H) := rfl
@[simp] theorem kAI3_at {op : BOp} {e : E} {vo vi : V} {ρ : Loc} {Q : Flow → AH → Prop} {old : V} : kAI3 C op e vo vi ρ Q old H = (wE C e ρ (kAI4 op vo vi old ρ Q) H) := rfl
@[simp] theorem kAI2_at {op : BOp} {e : E} {vo : V} {ρ : Loc} {Q : Flow → AH → Prop} {vi : V} : kAI2 C op e vo ρ Q vi H = (wSub vo vi (kAI3 C op e vo vi ρ Q) H) := rfl
@[simp] theorem kAI1_at {i : E} {op : BOp} {e : E} {ρ : Loc} {Q : Flow → AH → Prop} {vo : V} : kAI1 C i op e ρ Q vo H = (wE C i ρ (kAI2 C op e vo ρ Q) H) := rfl
@[simp] theorem kDel2_at {vo : V} {ρ : Loc} {Q : Flow → AH → Prop} {vi : V} : kDel2 vo ρ Q vi H = (wp (delV vo vi) (kU ρ Q) H) := rfl
@[simp] theorem kDel1_at {i : E} {ρ : Loc} {Q : Flow → AH → Prop} {vo : V} : kDel1 C i ρ Q vo H = (wE C i ρ (kDel2 vo ρ Q) H) := rfl
@[simp] theorem kIte1_at {t e : Ss} {ρ : Loc} {Q : Flow → AH → Prop} {v : V} : kIte1 C t e ρ Q v H = (wTru v (kIte2 C t e ρ Q) H) := rfl
@[simp] theorem kFor2_at {x : Nat} {b : Ss} {ρ : Loc} {Q : Flow → AH → Prop} {it : It} : kFor2 C x b ρ Q it H = (wp (forL (forB C x b) fuelL it ρ) Q H) := rfl
@[simp] theorem kFor1_at {x : Nat} {b : Ss} {ρ : Loc} {Q : Flow → AH → Prop} {v : V} : kFor1 C x b ρ Q v H = (wIt v (kFor2 C x b ρ Q) H) := rfl
@[simp] theorem kFf2_at {x y : Nat} {b : Ss} {ρ : Loc} {Q : Flow → AH → Prop} {it : It} : kFf2 C x y b ρ Q it H = (wp (forL (for2B C x y b) fuelL it ρ) Q H) := rfl
@[simp] theorem kFf1_at {x y : Nat} {b : Ss} {ρ : Loc} {Q : Flow → AH → Prop} {v : V} : kFf1 C x y b ρ Q v H = (wIt v (kFf2 C x y b ρ Q) H) := rfl
@[simp] theorem kTru_at {Q : Bool → AH → Prop} {v : V} : kTru Q v H = (wTru v Q H) := rfl
@[simp] theorem kNeg_int {Q : V → AH → Prop} {i : Int} : kNeg Q (.int i) H = (Q (.int (-i)) H) := rfl
@[simp] theorem kNew4_none {o : V} {Q : V → AH → Prop} : kNew4 o Q .none H = (Q o H) := rfl
@[simp] theorem kIsb_b {Q : V → AH → Prop} {b : Bool} : kIsb Q (.bool b) H = (Q (.bool true) H) := rfl
@[simp] theorem kIsb_i {Q : V → AH → Prop} {i : Int} : kIsb Q (.int i) H = (Q (.bool false) H) := rfl
@[simp] theorem kIsb_n {Q : V → AH → Prop} : kIsb Q .none H = (Q (.bool false) H) := rfl
@[simp] theorem kMax2_i {x y : Int} {Q : V → AH → Prop} : kMax2 (.int x) Q (.int y) H = (Q (.int (if x < y then y else x)) H) := rfl
@[simp] theorem kMin2_i {x y : Int} {Q : V → AH → Prop} : kMin2 (.int x) Q (.int y) H = (Q (.int (if y < x then y else x)) H) := rfl
@[simp] theorem kRange_i {Q : V → AH → Prop} {n : Int} : kRange Q (.int n) H = (bQ (decide (0 ≤ n) && decide (n ≤ 1000000)) (Q (.rng n.toNat) H)) := rfl
@[simp] theorem kAnd_t {es : Es} {ρ : Loc} {Q : V → AH → Prop} : kAnd C es ρ Q (.bool true) H = (wAnd C es ρ Q H) := rfl
@[simp] theorem kAnd_f {es : Es} {ρ : Loc} {Q : V → AH → Prop} : kAnd C es ρ Q (.bool false) H = (Q (.bool false) H) := rfl
@[simp] theorem kOr_f {es : Es} {ρ : Loc} {Q : V → AH → Prop} : kOr C es ρ Q (.bool false) H = (wOr C es ρ Q H) := rfl
@[simp] theorem kOr_t {es : Es} {ρ : Loc} {Q : V → AH → Prop} : kOr C es ρ Q (.bool true) H = (Q (.bool true) H) := rfl
@[simp] theorem kC3_t {op : COp} {vb : V} {c : E} {ρ : Loc} {Q : V → AH → Prop} : kC3 C op vb c ρ Q true H = (wE C c ρ (kC4 op vb Q) H) := rfl
@[simp] theorem kC3_f {op : COp} {vb : V} {c : E} {ρ : Loc} {Q : V → AH → Prop} : kC3 C op vb c ρ Q false H = (Q (.bool false) H) := rfl
@[simp] theorem kEI2_t {x : Nat} {e : E} {ρ : Loc} {v : V} {Q : Option V → AH → Prop} : kEI2 C x e ρ v Q true H = (wE C e (Mine.put ρ x v) (kSome Q) H) := rfl
@[simp] theorem kEI2_f {x : Nat} {e : E} {ρ : Loc} {v : V} {Q : Option V → AH → Prop} : kEI2 C x e ρ v Q false H = (Q Option.none H) := rfl
@[simp] theorem kAs2_at {x y : Nat} {ρ : Loc} {Q : Flow → AH → Prop} {a b : V} : kAs2 x y ρ Q (.tup [a, b]) H = (Q (.next (Mine.put (Mine.put ρ x a) y b)) H) := rfl
@[simp] theorem kIte2_t {t e : Ss} {ρ : Loc} {Q : Flow → AH → Prop} : kIte2 C t e ρ Q true H = (wSs C t ρ Q H) := rfl
@[simp] theorem kIte2_f {t e : Ss} {ρ : Loc} {Q : Flow → AH → Prop} : kIte2 C t e ρ Q false H = (wSs C e ρ Q H) := rfl
@[simp] theorem kSeq_n {ss : Ss} {ρ : Loc} {Q : Flow → AH → Prop} : kSeq C ss Q (.next ρ) H = (wSs C ss ρ Q H) := rfl
@[simp] theorem kSeq_r {ss : Ss} {v : V} {Q : Flow → AH → Prop} : kSeq C ss Q (.ret v) H = (Q (.ret v) H) := rfl
@[simp] theorem w_none {ρ : Loc}  {Q : V → AH → Prop} : wE C (.none) ρ Q H = (Q (.none) H) := rfl
@[simp] theorem w_bool {ρ : Loc} {b : Bool} {Q : V → AH → Prop} : wE C (.bool b) ρ Q H = (Q (.bool b) H) := rfl
@[simp] theorem w_int {ρ : Loc} {i : Int} {Q : V → AH → Prop} : wE C (.int i) ρ Q H = (Q (.int i) H) := rfl
@[simp] theorem w_str {ρ : Loc} {k : Nat} {Q : V → AH → Prop} : wE C (.str k) ρ Q H = (Q (.str k) H) := rfl
@[simp] theorem w_loc {ρ : Loc} {x : Nat} {Q : V → AH → Prop} : wE C (.loc x) ρ Q H = (lQ (look ρ x) Q H) := rfl
@[simp] theorem w_glb {ρ : Loc} {x : Nat} {Q : V → AH → Prop} : wE C (.glb x) ρ Q H = (lQ (look GL.glob x) Q H) := rfl
@[simp] theorem w_bin {ρ : Loc} {op : BOp} {a b : E} {Q : V → AH → Prop} : wE C (.bin op a b) ρ Q H = (wE C a ρ (kBin1 C op b ρ Q) H) := rfl
@[simp] theorem w_neg {ρ : Loc} {a : E} {Q : V → AH → Prop} : wE C (.neg a) ρ Q H = (wE C a ρ (kNeg Q) H) := rfl
@[simp] theorem w_not {ρ : Loc} {a : E} {Q : V → AH → Prop} : wE C (.not a) ρ Q H = (wE C a ρ (kNot Q) H) := rfl
@[simp] theorem w_and {ρ : Loc} {es : Es} {Q : V → AH → Prop} : wE C (.and es) ρ Q H = (wAnd C es ρ Q H) := rfl
@[simp] theorem w_or {ρ : Loc} {es : Es} {Q : V → AH → Prop} : wE C (.or es) ρ Q H = (wOr C es ρ Q H) := rfl
@[simp] theorem w_cmp {ρ : Loc} {op : COp} {a b : E} {Q : V → AH → Prop} : wE C (.cmp op a b) ρ Q H = (wE C a ρ (kCmp1 C op b ρ Q) H) := rfl
@[simp] theorem w_cmp2 {ρ : Loc} {o1 o2 : COp} {a b c : E} {Q : V → AH → Prop} : wE C (.cmp2 o1 o2 a b c) ρ Q H = (wE C a ρ (kC1 C o1 o2 b c ρ Q) H) := rfl
@[simp] theorem w_call {ρ : Loc} {f : Nat} {es : Es} {Q : V → AH → Prop} : wE C (.call f es) ρ Q H = (wEs C es ρ (kCall C f Q) H) := rfl
@[simp] theorem w_new {ρ : Loc} {c : Nat} {es : Es} {Q : V → AH → Prop} : wE C (.new c es) ρ Q H = (wEs C es ρ (kNew1 C c Q) H) := rfl
@[simp] theorem w_len {ρ : Loc} {e : E} {Q : V → AH → Prop} : wE C (.len e) ρ Q H = (wE C e ρ (kLen Q) H) := rfl
@[simp] theorem w_tuple {ρ : Loc} {e : E} {Q : V → AH → Prop} : wE C (.tuple e) ρ Q H = (wE C e ρ (kTuple Q) H) := rfl
@[simp] theorem w_isbool {ρ : Loc} {e : E} {Q : V → AH → Prop} : wE C (.isbool e) ρ Q H = (wE C e ρ (kIsb Q) H) := rfl
@[simp] theorem w_max {ρ : Loc} {a b : E} {Q : V → AH → Prop} : wE C (.max a b) ρ Q H = (wE C a ρ (kMax1 C b ρ Q) H) := rfl
@[simp] theorem w_min {ρ : Loc} {a b : E} {Q : V → AH → Prop} : wE C (.min a b) ρ Q H = (wE C a ρ (kMin1 C b ρ Q) H) := rfl
@[simp] theorem w_range {ρ : Loc} {e : E} {Q : V → AH → Prop} : wE C (.range e) ρ Q H = (wE C e ρ (kRange Q) H) := rfl
@[simp] theorem w_append {ρ : Loc} {o e : E} {Q : V → AH → Prop} : wE C (.append o e) ρ Q H = (wE C o ρ (kApp1 C e ρ Q) H) := rfl
@[simp] theorem w_pop {ρ : Loc} {o : E} {Q : V → AH → Prop} : wE C (.pop o) ρ Q H = (wE C o ρ (kPop Q) H) := rfl
@[simp] theorem w_get {ρ : Loc} {o k : E} {Q : V → AH → Prop} : wE C (.get o k) ρ Q H = (wE C o ρ (kGet1 C k ρ Q) H) := rfl
@[simp] theorem w_get2 {ρ : Loc} {o k d : E} {Q : V → AH → Prop} : wE C (.get2 o k d) ρ Q H = (wE C o ρ (kGt1 C k d ρ Q) H) := rfl
@[simp] theorem w_meth {ρ : Loc} {o : E} {m : Nat} {es : Es} {Q : V → AH → Prop} : wE C (.meth o m es) ρ Q H = (wE C o ρ (kM1 C m es ρ Q) H) := rfl
@[simp] theorem w_attr {ρ : Loc} {o : E} {f : Nat} {Q : V → AH → Prop} : wE C (.attr o f) ρ Q H = (wE C o ρ (kAttr f Q) H) := rfl
@[simp] theorem w_sub {ρ : Loc} {o i : E} {Q : V → AH → Prop} : wE C (.sub o i) ρ Q H = (wE C o ρ (kSub1 C i ρ Q) H) := rfl
@[simp] theorem w_upto {ρ : Loc} {o i : E} {Q : V → AH → Prop} : wE C (.upto o i) ρ Q H = (wE C o ρ (kUpto1 C i ρ Q) H) := rfl
@[simp] theorem w_from {ρ : Loc} {o i : E} {Q : V → AH → Prop} : wE C (.from_ o i) ρ Q H = (wE C o ρ (kFrom1 C i ρ Q) H) := rfl
@[simp] theorem w_tup {ρ : Loc} {es : Es} {Q : V → AH → Prop} : wE C (.tup es) ρ Q H = (wEs C es ρ (kTup Q) H) := rfl
@[simp] theorem w_lst {ρ : Loc} {es : Es} {Q : V → AH → Prop} : wE C (.lst es) ρ Q H = (wEs C es ρ (kLst Q) H) := rfl
@[simp] theorem w_dct {ρ : Loc} {es : Es} {Q : V → AH → Prop} : wE C (.dct es) ρ Q H = (wEs C es ρ (kDct es Q) H) := rfl
@[simp] theorem w_comp {ρ : Loc} {x : Nat} {it e : E} {Q : V → AH → Prop} : wE C (.comp x it e) ρ Q H = (wE C it ρ (kCo1 C x e ρ Q) H) := rfl
@[simp] theorem w_compIf {ρ : Loc} {x : Nat} {it c e : E} {Q : V → AH → Prop} : wE C (.compIf x it c e) ρ Q H = (wE C it ρ (kCi1 C x c e ρ Q) H) := rfl
@[simp] theorem w_es0 {ρ : Loc} {Q : List V → AH → Prop} : wEs C .nil ρ Q H = (Q [] H) := rfl
@[simp] theorem w_es1 {ρ : Loc} {e : E} {es : Es} {Q : List V → AH → Prop} : wEs C (.cons e es) ρ Q H = (wE C e ρ (kEs1 C es ρ Q) H) := rfl
@[simp] theorem w_and0 {ρ : Loc} {Q : V → AH → Prop} : wAnd C .nil ρ Q H = (Q (.bool true) H) := rfl
@[simp] theorem w_and1 {ρ : Loc} {e : E} {es : Es} {Q : V → AH → Prop} : wAnd C (.cons e es) ρ Q H = (wE C e ρ (kAnd C es ρ Q) H) := rfl
@[simp] theorem w_or0 {ρ : Loc} {Q : V → AH → Prop} : wOr C .nil ρ Q H = (Q (.bool false) H) := rfl
@[simp] theorem w_or1 {ρ : Loc} {e : E} {es : Es} {Q : V → AH → Prop} : wOr C (.cons e es) ρ Q H = (wE C e ρ (kOr C es ρ Q) H) := rfl
@[simp] theorem w_asg {ρ : Loc} {x : Nat} {e : E} {Q : Flow → AH → Prop} : wS C (.asg x e) ρ Q H = (wE C e ρ (kAsg x ρ Q) H) := rfl
@[simp] theorem w_asg2 {ρ : Loc} {x y : Nat} {e : E} {Q : Flow → AH → Prop} : wS C (.asg2 x y e) ρ Q H = (wE C e ρ (kAs2 x y ρ Q) H) := rfl
@[simp] theorem w_setattr {ρ : Loc} {o : E} {f : Nat} {e : E} {Q : Flow → AH → Prop} : wS C (.setattr o f e) ρ Q H = (wE C e ρ (kSA1 C o f ρ Q) H) := rfl
@[simp] theorem w_setitem {ρ : Loc} {o i e : E} {Q : Flow → AH → Prop} : wS C (.setitem o i e) ρ Q H = (wE C e ρ (kSI1 C o i ρ Q) H) := rfl
@[simp] theorem w_aug {ρ : Loc} {x : Nat} {op : BOp} {e : E} {Q : Flow → AH → Prop} : wS C (.aug x op e) ρ Q H = (lQ (look ρ x) (kAug1 C x op e ρ Q) H) := rfl
@[simp] theorem w_augattr {ρ : Loc} {o : E} {f : Nat} {op : BOp} {e : E} {Q : Flow → AH → Prop} : wS C (.augattr o f op e) ρ Q H = (wE C o ρ (kAA1 C f op e ρ Q) H) := rfl
@[simp] theorem w_augitem {ρ : Loc} {o i : E} {op : BOp} {e : E} {Q : Flow → AH → Prop} : wS C (.augitem o i op e) ρ Q H = (wE C o ρ (kAI1 C i op e ρ Q) H) := rfl
@[simp] theorem w_del {ρ : Loc} {o i : E} {Q : Flow → AH → Prop} : wS C (.del o i) ρ Q H = (wE C o ρ (kDel1 C i ρ Q) H) := rfl
@[simp] theorem w_ite {ρ : Loc} {c : E} {t e : Ss} {Q : Flow → AH → Prop} : wS C (.ite c t e) ρ Q H = (wE C c ρ (kIte1 C t e ρ Q) H) := rfl
@[simp] theorem w_while {ρ : Loc} {c : E} {b : Ss} {Q : Flow → AH → Prop} : wS C (.while c b) ρ Q H = (wp (whileL (tstB C c) (bdB C b) fuelL ρ) Q H) := rfl
@[simp] theorem w_for {ρ : Loc} {x : Nat} {it : E} {b : Ss} {Q : Flow → AH → Prop} : wS C (.for_ x it b) ρ Q H = (wE C it ρ (kFor1 C x b ρ Q) H) := rfl
@[simp] theorem w_for2 {ρ : Loc} {x y : Nat} {it : E} {b : Ss} {Q : Flow → AH → Prop} : wS C (.for2 x y it b) ρ Q H = (wE C it ρ (kFf1 C x y b ρ Q) H) := rfl
@[simp] theorem w_ret {ρ : Loc} {e : E} {Q : Flow → AH → Prop} : wS C (.ret e) ρ Q H = (wE C e ρ (kRet Q) H) := rfl
@[simp] theorem w_expr {ρ : Loc} {e : E} {Q : Flow → AH → Prop} : wS C (.expr e) ρ Q H = (wE C e ρ (kExp ρ Q) H) := rfl
@[simp] theorem w_ss0 {ρ : Loc} {Q : Flow → AH → Prop} : wSs C .nil ρ Q H = (Q (.next ρ) H) := rfl
@[simp] theorem w_ss1 {ρ : Loc} {s : S} {ss : Ss} {Q : Flow → AH → Prop} : wSs C (.cons s ss) ρ Q H = (wS C s ρ (kSeq C ss Q) H) := rfl
@[simp] theorem w_forB {x : Nat} {b : Ss} {v : V} {ρ : Loc} {Q : Flow → AH → Prop} : wp (forB C x b v ρ) Q H = (wSs C b (Mine.put ρ x v) Q H) := rfl
@[simp] theorem w_for2B {x y : Nat} {b : Ss} {p q : V} {ρ : Loc} {Q : Flow → AH → Prop} : wp (for2B C x y b (.tup [p, q]) ρ) Q H = (wSs C b (Mine.put (Mine.put ρ x p) y q) Q H) := rfl
@[simp] theorem w_tstB {c : E} {ρ : Loc} {Q : Bool → AH → Prop} : wp (tstB C c ρ) Q H = (wE C c ρ (kTru Q) H) := rfl
@[simp] theorem w_bdB {b : Ss} {ρ : Loc} {Q : Flow → AH → Prop} : wp (bdB C b ρ) Q H = (wSs C b ρ Q H) := rfl
@[simp] theorem w_eltB {x : Nat} {e : E} {v : V} {ρ : Loc} {Q : Option V → AH → Prop} : wp (eltB C x e ρ v) Q H = (wE C e (Mine.put ρ x v) (kSome Q) H) := rfl
@[simp] theorem w_eltI {x : Nat} {c e : E} {v : V} {ρ : Loc} {Q : Option V → AH → Prop} : wp (eltI C x c e ρ v) Q H = (wE C c (Mine.put ρ x v) (kEI1 C x e ρ v Q) H) := rfl
end

@[simp] theorem kU_at {ρ : Loc} {Q : Flow → AH → Prop} {u : Unit} {H : AH} : kU ρ Q u H = Q (.next ρ) H := rfl
end Mine
end
section
set_option maxRecDepth 100000
namespace Mine

/-! the plain law: a calculus of what the evaluator does -/
theorem bQ_is {b : Bool} {P : Prop} (h : b = true) : bQ b P = P := by subst h; rfl
theorem look_eq {α : Type} (k : Nat) (v : α) (r : List (Nat × α)) : look ((k, v) :: r) k = some v := by rw [look_cons, if_pos rfl]
theorem look_ne {α : Type} {k x : Nat} (v : α) (r : List (Nat × α)) (h : k ≠ x) : look ((k, v) :: r) x = look r x := by rw [look_cons, if_neg h]
theorem getAt_in {α : Type} {l : List α} {k : Int} (h0 : 0 ≤ k) (h : k < 2 ^ 63) : getAt l k = l[k.toNat]? := by
  unfold getAt lt63; rw [decide_eq_true h0, Nat.ble_eq.mpr (Nat.le_of_lt_succ ((Int.toNat_lt h0).mpr h))]; rfl
@[simp] theorem oQ_some {α : Type} {a : α} {Q : α → AH → Prop} {H : AH} : oQ (some a) Q H = Q a H := rfl
@[simp] theorem lQ_some {α : Type} {a : α} {Q : α → AH → Prop} {H : AH} : lQ (some a) Q H = Q a H := rfl
@[simp] theorem look_c {α : Type} (k x : Nat) (v : α) (r : List (Nat × α)) : look ((k, v) :: r) x = (match Nat.beq k x with | true => some v | false => look r x) := rfl
@[simp] theorem put_c {α : Type} (k x : Nat) (u v : α) (r : List (Nat × α)) : Mine.put ((k, u) :: r) x v = (match Nat.beq k x with | true => (x, v) :: r | false => (k, u) :: Mine.put r x v) := rfl
@[simp] theorem put_n {α : Type} (x : Nat) (v : α) : Mine.put [] x v = [(x, v)] := rfl
@[simp] theorem gt0 {α : Type} (a : α) (l : List α) : getAt (a :: l) 0 = some a := rfl
@[simp] theorem gt1 {α : Type} (a b : α) (l : List α) : getAt (a :: b :: l) 1 = some b := rfl
@[simp] theorem gt2 {α : Type} (a b c : α) (l : List α) : getAt (a :: b :: c :: l) 2 = some c := rfl
@[simp] theorem gt3 {α : Type} (a b c d : α) (l : List α) : getAt (a :: b :: c :: d :: l) 3 = some d := rfl
section
variable {Q : V → AH → Prop} {QB : Bool → AH → Prop} {QI : It → AH → Prop} {QU : Unit → AH → Prop} {H : AH}
@[simp] theorem wTru_b {b : Bool} : wTru (.bool b) QB H = QB b H := rfl
@[simp] theorem wTru_i {i : Int} : wTru (.int i) QB H = QB (!decide (i = 0)) H := rfl
@[simp] theorem wBin_ai {x y : Int} : wBin .add (.int x) (.int y) Q H = Q (.int (x + y)) H := rfl
@[simp] theorem wBin_si {x y : Int} : wBin .sub (.int x) (.int y) Q H = Q (.int (x - y)) H := rfl
@[simp] theorem wOn_a {x y : Int} : wOn .add (.int x) (.int y) Q H = Q (.int (x + y)) H := rfl
@[simp] theorem wOn_s {x y : Int} : wOn .sub (.int x) (.int y) Q H = Q (.int (x - y)) H := rfl
@[simp] theorem wCmp_eqi {x y : Int} : wCmp .eq (.int x) (.int y) QB H = QB (decide (x = y)) H := rfl
@[simp] theorem wCmp_nei {x y : Int} : wCmp .ne (.int x) (.int y) QB H = QB (!decide (x = y)) H := rfl
@[simp] theorem wCmp_lti {x y : Int} : wCmp .lt (.int x) (.int y) QB H = QB (decide (x < y)) H := rfl
@[simp] theorem wCmp_lei {x y : Int} : wCmp .le (.int x) (.int y) QB H = QB (decide (x ≤ y)) H := rfl
@[simp] theorem wCmp_gti {x y : Int} : wCmp .gt (.int x) (.int y) QB H = QB (decide (x > y)) H := rfl
@[simp] theorem wCmp_gei {x y : Int} : wCmp .ge (.int x) (.int y) QB H = QB (decide (x ≥ y)) H := rfl
@[simp] theorem wCmp_is {a : V} : wCmp .is a .none QB H = QB (isNone a) H := rfl
@[simp] theorem wCmp_isnot {a : V} : wCmp .isnot a .none QB H = QB (!isNone a) H := rfl
@[simp] theorem wSub_t {l : List V} {k : Int} : wSub (.tup l) (.int k) Q H = oQ (getAt l k) Q H := rfl
@[simp] theorem wSub_f {l : List V} {k : Int} : wSub (.flist l) (.int k) Q H = oQ (getAt l k) Q H := rfl
@[simp] theorem wIt_t {l : List V} : wIt (.tup l) QI H = QI (.tup l) H := rfl
@[simp] theorem wIt_n {n : Nat} : wIt (.rng n) QI H = QI (.rng 0 n) H := rfl
@[simp] theorem wAl_at {c : Cell} : wAl c Q H = Q (.ref H.length) (H ++ [c]) := rfl
@[simp] theorem isNone_q (v : V) : isNone v = (match v with
  | .none => true
  | _ => false) := by unfold isNone; rfl
theorem wp_addt {x y : List V} (h : lineOk (x.length + y.length) = true) : wBin .add (.tup x) (.tup y) Q H ↔ Q (.tup (x ++ y)) H := Iff.of_eq (bQ_is h)
theorem wp_len_tup {l : List V} (h : lineOk l.length = true) : wp (lenV (.tup l)) Q H ↔ Q (.int l.length) H := Iff.of_eq (bQ_is h)
theorem wp_attr {a c f : Nat} {fs : List (Nat × V)} {v : V} (h : H[a]? = some (.inst c fs)) (hf : fldIn GL.fld c f = true) (hv : look fs f = some v) : wp (attrV GL.fld (.ref a) f) Q H ↔ Q v H := by
  show atI H[a]? _ ↔ _
  rw [h]
  show bQ (fldIn GL.fld c f) (oQ (look fs f) Q H) ↔ _
  rw [hf, hv]; rfl
theorem wp_append {a : Nat} {l : List V} {v : V} (h : H[a]? = some (.lst l)) (hl : lineOk l.length = true) : wp (appendV (.ref a) v) Q H ↔ Q .none (H.set a (.lst (l ++ [v]))) := by
  show atL H[a]? _ ↔ _
  rw [h]; exact Iff.of_eq (bQ_is hl)
theorem wp_isLst {a : Nat} {l : List V} (h : H[a]? = some (.lst l)) : wp (isLstV (.ref a)) QU H ↔ QU () H := by
  show atL H[a]? _ ↔ _
  rw [h]; rfl
theorem wp_isDct {a : Nat} {l : List (V × V)} (h : H[a]? = some (.dct l)) : wp (isDctV (.ref a)) QU H ↔ QU () H := by
  show atD H[a]? _ ↔ _
  rw [h]; rfl
theorem wp_len_lst {a : Nat} {l : List V} (h : H[a]? = some (.lst l)) (hl : lineOk l.length = true) : wp (lenV (.ref a)) Q H ↔ Q (.int l.length) H := by
  show atL H[a]? _ ↔ _
  rw [h]; exact Iff.of_eq (bQ_is hl)
theorem wp_sub_lst {a : Nat} {l : List V} {k : Int} (h : H[a]? = some (.lst l)) : wSub (.ref a) (.int k) Q H ↔ oQ (getAt l k) Q H := by
  show subC H[a]? _ Q H ↔ _
  rw [h]; rfl
theorem wp_toIt_lst {a : Nat} {l : List V} (h : H[a]? = some (.lst l)) : wIt (.ref a) QI H ↔ QI (.lst a 0) H := by
  show atL H[a]? _ ↔ _
  rw [h]; rfl
theorem wp_upto {l : List V} {k : Int} (h0 : 0 ≤ k) (h1 : k ≤ l.length) (hl : lineOk l.length = true) : wp (uptoV (.tup l) (.int k)) Q H ↔ Q (.tup (l.take k.toNat)) H :=
  Iff.of_eq (bQ_is (by rw [decide_eq_true h0, decide_eq_true h1, hl]; rfl))
theorem wp_from {l : List V} {k : Int} (h0 : 1 ≤ k) (h1 : k ≤ l.length) (hl : lineOk l.length = true) : wp (fromV (.tup l) (.int k)) Q H ↔ Q (.tup (l.drop k.toNat)) H :=
  Iff.of_eq (bQ_is (by rw [decide_eq_true h0, decide_eq_true h1, hl]; rfl))
end
@[simp] theorem kFin_n {Q : V → AH → Prop} {ρ : Loc} {H : AH} : kFin Q (.next ρ) H = Q .none H := rfl
@[simp] theorem kFin_r {Q : V → AH → Prop} {v : V} {H : AH} : kFin Q (.ret v) H = Q v H := rfl
theorem wp_call {Q : V → AH → Prop} {H : AH} {n f : Nat} {fd : FD} {args : List V} {ρ : Loc} (h : look FT f = some fd) (hz : zipP fd.params args = some ρ) : wp (callF (n + 1) f args) Q H ↔ wSs (callF n) fd.body ρ (kFin Q) H := by
  show oQ (look FT f) _ H ↔ _
  rw [h]
  show oQ (zipP fd.params args) _ H ↔ _
  rw [hz]; rfl
@[simp] theorem g_PRIM_END : look GL.glob 4 = some (.int 16) := by rfl
@[simp] theorem g_LOCAL : look GL.glob 165 = some (.int 1) := by rfl
@[simp] theorem g_ARG : look GL.glob 167 = some (.int 2) := by rfl
@[simp] theorem g_KEEP : look GL.glob 169 = some (.int (-1)) := by rfl
@[simp] theorem g_STATIC : look GL.glob 173 = some (.int 4) := by rfl
@[simp] theorem g_STRUCT : look GL.glob 96 = some (.int 5) := by rfl
@[simp] theorem g_REF : look GL.glob 91 = some (.int 4) := by rfl
@[simp] theorem g_HEAD : look GL.glob 114 = some (.int 2) := by rfl
@[simp] theorem g_LEAST : look GL.glob 115 = some (.int 3) := by rfl
@[simp] theorem g_HEAP : look GL.glob 171 = some (.int 3) := by rfl
theorem end_at (H : AH) (c : Cell) : (H ++ [c])[H.length]? = some c := at_end
theorem end_set (H : AH) (c c' : Cell) : (H ++ [c]).set H.length c' = H ++ [c'] := by simp
theorem suc_pred (j : Nat) : ((j + 1 : Nat) : Int) - 1 = (j : Int) := by omega
theorem lineOk_of {n : Nat} (h : n ≤ 1000000) : lineOk n = true := Nat.ble_eq.mpr h
theorem lineOk_k {n : Nat} (h : n ≤ 1000) : lineOk n = true := lineOk_of (Nat.le_trans h (by decide))

/-! loops -/
/-- a turn may hand on what I says, or end as QF says -/
structure TurnK (QF : Flow → AH → Prop) (I : Loc → AH → Prop) (K : Flow → AH → Prop) : Prop where
  n : ∀ {ρ H}, I ρ H → K (.next ρ) H
  r : ∀ {v H}, QF (.ret v) H → K (.ret v) H
section
variable {QF : Flow → AH → Prop} {H : AH} {ρ : Loc} {body : V → Loc → M Flow}
theorem wp_for_tup (I : List V → Loc → AH → Prop) {n : Nat} {l : List V} (hn : l.length < n) (h0 : I l ρ H) (step : ∀ v l' ρ H K, I (v :: l') ρ H → TurnK QF (I l') K → wp (body v ρ) K H) (fin : ∀ ρ H, I [] ρ H → QF (.next ρ) H) :
    wp (forL body n (.tup l) ρ) QF H := by
  induction l generalizing n ρ H with
  | nil => cases n with
    | zero => cases hn
    | succ n => exact fin _ _ h0
  | cons v l ih => cases n with
    | zero => cases hn
    | succ n => exact step _ _ _ _ _ h0 ⟨ih (Nat.lt_of_succ_lt_succ hn), id⟩
theorem wp_for_rng (I : Nat → Loc → AH → Prop) {n i m : Nat} (hn : m - i < n) (h0 : I i ρ H) (step : ∀ i ρ H K, i < m → I i ρ H → TurnK QF (I (i + 1)) K → wp (body (.int i) ρ) K H) (fin : ∀ i ρ H, m ≤ i → I i ρ H → QF (.next ρ) H) :
    wp (forL body n (.rng i m) ρ) QF H := by
  induction n generalizing i ρ H with
  | zero => cases hn
  | succ n ih =>
    rw [forL_s, nextK_rng]
    by_cases hi : i < m
    · rw [show Nat.blt i m = true from Nat.ble_eq_true_of_le hi]
      exact step _ _ _ _ hi h0 ⟨ih (by omega), id⟩
    · rw [show Nat.blt i m = false from (beq_blt hi)]
      exact fin _ _ _ (Nat.le_of_not_lt hi) h0
where
  beq_blt {i m : Nat} (hi : ¬ i < m) : Nat.blt i m = false := by
    cases e : Nat.blt i m with
    | false => rfl
    | true => exact absurd (Nat.le_of_ble_eq_true e) hi
theorem wp_for_lst {a : Nat} {xs : List V} (I : Nat → Loc → AH → Prop) (hr : ∀ i ρ H, I i ρ H → H[a]? = some (.lst xs)) {n i : Nat} (hn : xs.length - i < n) (h0 : I i ρ H)
    (step : ∀ i v ρ H K, xs[i]? = some v → I i ρ H → TurnK QF (I (i + 1)) K → wp (body v ρ) K H) (fin : ∀ i ρ H, xs.length ≤ i → I i ρ H → QF (.next ρ) H) : wp (forL body n (.lst a i) ρ) QF H := by
  induction n generalizing i ρ H with
  | zero => cases hn
  | succ n ih =>
    rw [forL_s, nextK_lst, hr _ _ _ h0]
    show optP xs[i]? _ _
    cases hi : xs[i]? with
    | some v =>
      have hlt := (List.getElem?_eq_some_iff.mp hi).1
      exact step _ _ _ _ _ hi h0 ⟨ih (by omega), id⟩
    | none => exact fin _ _ _ (List.getElem?_eq_none_iff.mp hi) h0
theorem wp_while {test : Loc → M Bool} {bd : Loc → M Flow} (I : Nat → Loc → AH → Prop) {n k : Nat} (hk : k < n) (h0 : I k ρ H)
    (step : ∀ k ρ H T, I k ρ H → (∀ {H'}, QF (.next ρ) H' → T false H') → (∀ {H'}, (∀ K, TurnK QF (fun ρ' H'' => ∃ j, j < k ∧ I j ρ' H'') K → wp (bd ρ) K H') → T true H') → wp (test ρ) T H) : wp (whileL test bd n ρ) QF H := by
  induction n generalizing k ρ H with
  | zero => cases hk
  | succ n ih => exact step _ _ _ _ h0 id fun h => h _ ⟨fun ⟨j, hj, hI⟩ => ih (Nat.lt_of_lt_of_le hj (Nat.le_of_lt_succ hk)) hI, id⟩
end
end Mine
end
section
set_option maxRecDepth 100000
namespace Mine
theorem c_path_of {n : Nat} {k : Int} {a b p : V} {Q : V → AH → Prop} {H : AH} (hk : k ≠ 3) (h : Q p H) : wp (callF (n + 1) k_path_of [.tup [.int k, a, b, p]]) Q H := by
  rw [wp_call (fd := fd_path_of) rfl rfl]
  simp [fd_path_of, hk, h]
theorem c_path_of3 {n : Nat} {a p : V} {Q : V → AH → Prop} {H : AH} (h : Q p H) : wp (callF (n + 1) k_path_of [.tup [.int 3, a, p]]) Q H := h

/-! paths into values -/
noncomputable def tagOf {α : Type} (v : V) (f : Int → List V → α) (d : α) : α := match v with
  | .tup l => (match l with
    | [] => d
    | h :: r => (match h with
      | .int t => f t r
      | _ => d))
  | _ => d
noncomputable def kidsOf' {α : Type} (r : List V) (f : V → List V → α) (d : α) : α := match r with
  | [] => d
  | k :: r => (match r with
    | [] => d
    | x :: r => (match r with
      | [] => (match x with
        | .tup vs => f k vs
        | _ => d)
      | _ => d))
/-- of a struct: its kind and its slots -/
noncomputable def nodeK {α : Type} (v : V) (f : V → List V → α) (d : α) : α := tagOf v (fun t r => if t = 5 then kidsOf' r f d else d) d
theorem nodeK_leaf {α : Type} {t : Int} {r : List V} {f : V → List V → α} {d : α} (h : t ≠ 5) : nodeK (.tup (.int t :: r)) f d = d := if_neg h
theorem nodeK_node {α : Type} {k : V} {vs : List V} {f : V → List V → α} {d : α} : nodeK (.tup [.int 5, k, .tup vs]) f d = f k vs := rfl
noncomputable def getP : V → List Int → Option V
  | v, [] => some v
  | v, s :: p => nodeK v (fun _ vs => if s < 0 then none else vs[s.toNat]?.bind fun w => getP w p) none
theorem getP_nil (v : V) : getP v [] = some v := rfl
theorem getP_node (k : V) (vs : List V) (s : Int) (p : List Int) : getP (.tup [.int 5, k, .tup vs]) (s :: p) = if s < 0 then none else vs[s.toNat]?.bind fun w => getP w p := rfl
theorem getP_tag {t : Int} {r : List V} (h : t ≠ 5) (s : Int) (p : List Int) : getP (.tup (.int t :: r)) (s :: p) = none := nodeK_leaf h
/-- a value of the law: its head can be asked, and every value's within it -/
inductive OKv : V → Prop
  | leaf (t : Int) (r : List V) : t ≠ 5 → OKv (.tup (.int t :: r))
  | node (k : V) (vs : List V) : vs.length ≤ 1000 → (∀ v ∈ vs, OKv v) → OKv (.tup [.int 5, k, .tup vs])
noncomputable def oV : Option V → V
  | some v => v
  | none => .none
/-- the way into a struct: no slot, or on in the slot -/
theorem getP_in {k : V} {vs : List V} {s : Int} {p : List Int} {w : V} (h : getP (.tup [.int 5, k, .tup vs]) (s :: p) = some w) : 0 ≤ s ∧ ∃ x, vs[s.toNat]? = some x ∧ getP x p = some w := by
  rw [getP_node] at h
  by_cases h0 : s < 0
  · rw [if_pos h0] at h; cases h
  · rw [if_neg h0] at h
    exact ⟨Int.not_lt.mp h0, Option.bind_eq_some_iff.mp h⟩

theorem c_get_path {n : Nat} {v : V} {path : List Int} {Q : V → AH → Prop} {H : AH} (hv : OKv v) (hp : ∀ s ∈ path, s < 2 ^ 63) (hl : path.length < 400) (h : Q (oV (getP v path)) H) :
    wp (callF (n + 1) k_get_path [v, .tup (path.map .int)]) Q H := by
  rw [wp_call (fd := fd_get_path) rfl rfl]
  simp [fd_get_path]
  refine wp_for_tup (fun l ρ H' => ∃ v' p, l = p.map V.int ∧ getP v path = getP v' p ∧ OKv v' ∧ (∀ s ∈ p, s < 2 ^ 63) ∧ H' = H ∧ (ρ = [(82, v'), (100, .tup (path.map .int))] ∨ ∃ s, ρ = [(82, v'), (100, .tup (path.map .int)), (101, s)]))
    (by rw [List.length_map]; exact hl) ⟨v, path, rfl, rfl, hv, hp, rfl, .inl rfl⟩ ?_ ?_
  · rintro x l' ρ H' K ⟨v', p, e1, e2, ok, hp', rfl, e3⟩ hK
    cases p with
    | nil => cases e1
    | cons s p =>
      obtain ⟨rfl, rfl⟩ := List.cons.inj e1
      have hs : Mine.put ρ 101 (.int s) = [(82, v'), (100, .tup (path.map .int)), (101, .int s)] := by rcases e3 with rfl | ⟨_, rfl⟩ <;> rfl
      rw [w_forB, hs]
      cases ok with
      | leaf t r ht =>
        rw [e2, getP_tag ht] at h
        simp [ht]
        exact hK.r h
      | node k vs hz hvs =>
        rw [getP_node] at e2
        by_cases h0 : s < 0
        · rw [e2, if_pos h0] at h
          simp [h0]
          exact hK.r h
        · rw [if_neg h0] at e2
          have hlt : s < 2 ^ 63 := hp' s List.mem_cons_self
          by_cases h1 : s ≥ (vs.length : Int)
          · have hn : vs[s.toNat]? = none := List.getElem?_eq_none_iff.mpr (by omega)
            rw [e2, hn] at h
            simp [h0, wp_len_tup (lineOk_k hz), h1]
            exact hK.r h
          · have hx : s.toNat < vs.length := by omega
            have hs' : vs[s.toNat]? = some vs[s.toNat] := List.getElem?_eq_getElem hx
            rw [hs'] at e2
            simp [h0, wp_len_tup (lineOk_k hz), h1, getAt_in (Int.not_lt.mp h0) hlt, hs']
            exact hK.n ⟨vs[s.toNat], p, rfl, e2, hvs _ (List.getElem_mem hx), fun z hz => hp' z (List.mem_cons_of_mem _ hz), rfl, .inr ⟨.int s, rfl⟩⟩
  · rintro ρ H' ⟨v', p, e1, e2, ok, hp', rfl, e3⟩
    cases p with
    | cons _ _ => cases e1
    | nil =>
      rw [e2] at h
      rcases e3 with rfl | ⟨_, rfl⟩ <;> exact h
end Mine
end
section
set_option maxRecDepth 100000
namespace Mine
noncomputable def putP : V → List Int → V → V
  | _, [], new => new
  | v, s :: p, new => nodeK v (fun k vs => vs[s.toNat]?.elim .none fun w => .tup [.int 5, k, .tup (vs.take s.toNat ++ [putP w p new] ++ vs.drop (s.toNat + 1))]) .none
theorem putP_node (k : V) (vs : List V) (s : Int) (p : List Int) (new w : V) (h : vs[s.toNat]? = some w) : putP (.tup [.int 5, k, .tup vs]) (s :: p) new = .tup [.int 5, k, .tup (vs.take s.toNat ++ [putP w p new] ++ vs.drop (s.toNat + 1))] := by
  show vs[s.toNat]?.elim _ _ = _
  rw [h]; rfl
/-- the structs on the way, each with the slot -/
noncomputable def ways : V → List Int → List (V × List V × Int)
  | _, [] => []
  | v, s :: p => nodeK v (fun k vs => (k, vs, s) :: vs[s.toNat]?.elim [] fun w => ways w p) []
theorem ways_node (k : V) (vs : List V) (s : Int) (p : List Int) (w : V) (h : vs[s.toNat]? = some w) : ways (.tup [.int 5, k, .tup vs]) (s :: p) = (k, vs, s) :: ways w p := by
  show _ :: vs[s.toNat]?.elim _ _ = _
  rw [h]; rfl
noncomputable def wayV (x : V × List V × Int) : V := .tup [.tup [.int 5, x.1, .tup x.2.1], .int x.2.2]
/-- one level built anew -/
noncomputable def rb (x : V × List V × Int) (new : V) : V := .tup [.int 5, x.1, .tup (x.2.1.take x.2.2.toNat ++ [new] ++ x.2.1.drop (x.2.2.toNat + 1))]
/-- a way that can be built on -/
structure WayOk (x : V × List V × Int) : Prop where
  a : 0 ≤ x.2.2
  b : x.2.2 < x.2.1.length
  c : x.2.1.length ≤ 1000
theorem ways_put : ∀ (p : List Int) (v w new : V), OKv v → getP v p = some w → (ways v p).foldr rb new = putP v p new ∧ (ways v p).length = p.length ∧ ∀ x ∈ ways v p, WayOk x
  | [], v, w, new, _, _ => ⟨rfl, rfl, fun x hx => nomatch hx⟩
  | s :: p, v, w, new, hv, hg => by
    cases hv with
    | leaf t r ht => rw [getP_tag ht] at hg; cases hg
    | node k vs hz hvs =>
      obtain ⟨h0, x, e, hg⟩ := getP_in hg
      obtain ⟨i1, i2, i3⟩ := ways_put p x w new (hvs x (List.mem_of_getElem? e)) hg
      have hlt := (List.getElem?_eq_some_iff.mp e).1
      rw [ways_node _ _ _ _ _ e, putP_node _ _ _ _ _ _ e, List.foldr_cons, i1]
      exact ⟨rfl, congrArg Nat.succ i2, fun y hy => (List.mem_cons.mp hy).elim (fun q => q ▸ ⟨h0, (Int.toNat_lt h0).mp hlt, hz⟩) (i3 y)⟩

theorem c_put_path {n : Nat} {v w new : V} {path : List Int} {Q : V → AH → Prop} {H : AH} (hv : OKv v) (hg : getP v path = some w) (hp : ∀ s ∈ path, s < 2 ^ 63) (hl : path.length < 300) (h : ∀ l, Q (putP v path new) (H ++ l)) :
    wp (callF (n + 1) k_put_path [v, .tup (path.map .int), new]) Q H := by
  obtain ⟨y1, y2, y3⟩ := ways_put path v w new hv hg
  rw [wp_call (fd := fd_put_path) rfl rfl]
  simp [fd_put_path]
  refine wp_for_tup (fun l ρ H' => ∃ v' p ws, l = p.map V.int ∧ ways v path = ws ++ ways v' p ∧ OKv v' ∧ getP v' p = some w ∧ (∀ s ∈ p, s < 2 ^ 63) ∧ H' = H ++ [.lst (ws.map wayV)] ∧
      (ρ = [(82, v), (100, .tup (path.map .int)), (103, new), (106, .ref H.length), (107, v')] ∨ ∃ s, ρ = [(82, v), (100, .tup (path.map .int)), (103, new), (106, .ref H.length), (107, v'), (101, s)]))
    (by rw [List.length_map]; exact Nat.lt_trans hl (by decide)) ⟨v, path, [], rfl, rfl, hv, hg, hp, rfl, .inl rfl⟩ ?_ ?_
  · rintro x l' ρ H' K ⟨v', p, ws, e1, e2, ok, hg', hp', rfl, e3⟩ hK
    cases p with
    | nil => cases e1
    | cons s p =>
      obtain ⟨rfl, rfl⟩ := List.cons.inj e1
      have hs : Mine.put ρ 101 (.int s) = [(82, v), (100, .tup (path.map .int)), (103, new), (106, .ref H.length), (107, v'), (101, .int s)] := by rcases e3 with rfl | ⟨_, rfl⟩ <;> rfl
      rw [w_forB, hs]
      have hwl : (ws.map wayV).length ≤ 1000 := by
        have := congrArg List.length e2
        rw [y2, List.length_append] at this
        rw [List.length_map]; omega
      cases ok with
      | leaf t r ht => rw [getP_tag ht] at hg'; cases hg'
      | node k vs hz hvs =>
        obtain ⟨h0, z, e, hg2⟩ := getP_in hg'
        simp [wp_isLst (end_at H (.lst (ws.map wayV))), wp_append (end_at H (.lst (ws.map wayV))) (lineOk_k hwl), getAt_in h0 (hp' s List.mem_cons_self), e]
        exact hK.n ⟨z, p, ws ++ [(k, vs, s)], rfl, by rw [e2, ways_node _ _ _ _ _ e, List.append_assoc]; rfl, hvs z (List.mem_of_getElem? e), hg2, fun q hq => hp' q (List.mem_cons_of_mem _ hq), by rw [List.map_append]; rfl, .inr ⟨.int s, rfl⟩⟩
  · rintro ρ H' ⟨v', p, ws, e1, e2, ok, hg', hp', rfl, e3⟩
    cases p with
    | cons _ _ => cases e1
    | nil =>
      obtain rfl : ways v path = ws := e2.trans (List.append_nil ws)
      have hwl : ((ways v path).map wayV).length ≤ 1000 := by rw [List.length_map, y2]; omega
      have e4 : look ρ 103 = some new ∧ look ρ 106 = some (.ref H.length) := by rcases e3 with rfl | ⟨_, rfl⟩ <;> exact ⟨rfl, rfl⟩
      simp only [w_ss1, w_asg, w_bin, w_len, w_loc, w_int, kSeq_n, kAsg_at, kBin1_at, kBin2_at, kLen_at, e4.2, lQ_some, wp_len_lst (end_at H (.lst ((ways v path).map wayV))) (lineOk_k hwl), wBin_si, List.length_map, w_while]
      refine wp_while (k := (ways v path).length) (fun k ρ' H' => k ≤ (ways v path).length ∧ H' = H ++ [.lst ((ways v path).map wayV)] ∧ look ρ' 103 = some (((ways v path).drop k).foldr rb new) ∧ look ρ' 104 = some (.int ((k : Int) - 1)) ∧ look ρ' 106 = some (.ref H.length))
        (by rw [y2]; exact Nat.lt_trans hl (by decide)) ⟨Nat.le_refl _, rfl, by rw [look_put, if_neg (by decide), List.drop_length]; exact e4.1, by rw [look_put, if_pos rfl], by rw [look_put, if_neg (by decide)]; exact e4.2⟩ ?_
      rintro k ρ' H' T ⟨hk, rfl, f1, f2, f3⟩ hF hT
      simp only [w_tstB, w_cmp, w_loc, w_int, kCmp1_at, kCmp2_at, kCmpR_at, kTru_at, f2, lQ_some, wCmp_gei, wTru_b]
      cases k with
      | zero =>
        refine hF ?_
        simp only [kSeq_n, w_ss1, w_ret, w_loc, f1, lQ_some, kRet_at, kSeq_r, kFin_r, List.drop_zero, y1]
        exact h _
      | succ k =>
        rw [show decide (((k + 1 : Nat) : Int) - 1 ≥ 0) = true from decide_eq_true (by omega)]
        refine hT fun K hK => ?_
        have hx := List.getElem?_eq_getElem (show k < (ways v path).length from hk)
        have hok := y3 _ (List.getElem_mem (show k < (ways v path).length from hk))
        generalize (ways v path)[k] = x at hx hok
        have hd : (ways v path).drop k = x :: (ways v path).drop (k + 1) := by rw [List.drop_eq_getElem?_toList_append, hx]; rfl
        obtain ⟨kk, vs, s⟩ := x
        obtain ⟨o1, o2, o3⟩ := hok
        dsimp only at o1 o2 o3
        rw [suc_pred] at f2
        have g1 : getAt ((ways v path).map wayV) (k : Int) = some (.tup [.tup [.int 5, kk, .tup vs], .int s]) := by
          rw [getAt_in (Int.natCast_nonneg k) (by omega), Int.toNat_natCast, List.getElem?_map, hx]; rfl
        have z1 : (vs.take s.toNat).length ≤ 1000 := Nat.le_trans (List.length_take_le' ..) o3
        have z2 : (vs.drop (s.toNat + 1)).length ≤ 1000 := by rw [List.length_drop]; omega
        have t1 : (s + 1).toNat = s.toNat + 1 := Int.toNat_add_nat o1 1
        simp [f1, f2, f3, wp_sub_lst (end_at H (.lst ((ways v path).map wayV))), g1, look_put, wp_upto o1 (Int.le_of_lt o2) (lineOk_k o3), wp_from (show 1 ≤ s + 1 by omega) (show s + 1 ≤ vs.length from o2) (lineOk_k o3)]
        rw [wp_addt (lineOk_of (by rw [List.length_singleton]; omega))]
        simp [f1, f2, f3, look_put, wp_from (show 1 ≤ s + 1 by omega) (show s + 1 ≤ vs.length from o2) (lineOk_k o3)]
        rw [wp_addt (lineOk_of (by rw [List.length_append, t1, List.length_singleton]; omega))]
        simp [f1, f2, f3, look_put]
        refine hK.n ⟨k, Nat.lt_succ_self k, Nat.le_of_succ_le hk, rfl, ?_, ?_, ?_⟩
        all_goals simp [look_put, f3, hd, t1, rb]
end Mine
end
section
set_option maxRecDepth 100000
namespace Mine
open PySem

/-! equality of values of ints and tuples -/
mutual
noncomputable def it : Nat → V → Bool
  | d, .tup l => (match d with
    | 0 => false
    | d + 1 => its d l)
  | _, .int _ => true
  | _, .none => true
  | _, _ => false
noncomputable def its : Nat → List V → Bool
  | _, [] => true
  | d, v :: l => it d v && its d l
end
structure ItP (d : Nat) (v : V) : Prop where
  a : isPure v = true
  b : (toP v).canLay0 = true
  c : (toP v).depth ≤ d + 1
mutual
theorem it_pure : ∀ (d : Nat) (v : V), it d v = true → ItP d v
  | d, .int i, _ => ⟨rfl, rfl, Nat.zero_le _⟩
  | d, .none, _ => ⟨rfl, rfl, Nat.zero_le _⟩
  | 0, .tup l, h => (nomatch h)
  | d + 1, .tup l, h => have ⟨a, b, c⟩ := its_pure d l h; ⟨a, b, Nat.succ_le_succ c⟩
  | d, .bool _, h => (nomatch h)
  | d, .str _, h => (nomatch h)
  | d, .flist _, h => (nomatch h)
  | d, .fdct _, h => (nomatch h)
  | d, .rng _, h => (nomatch h)
  | d, .ref _, h => (nomatch h)
theorem its_pure : ∀ (d : Nat) (l : List V), its d l = true → arePure l = true ∧ PyData.canLayAll0 (toPs l) = true ∧ PyData.depthAll (toPs l) ≤ d + 1
  | d, [], _ => ⟨rfl, rfl, Nat.zero_le _⟩
  | d, v :: l, h =>
    have ⟨h1, h2⟩ := both h
    have ⟨a1, b1, c1⟩ := it_pure d v h1
    have ⟨a2, b2, c2⟩ := its_pure d l h2
    ⟨Bool.and_eq_true_iff.mpr ⟨a1, a2⟩, Bool.and_eq_true_iff.mpr ⟨b1, b2⟩, Nat.max_le.mpr ⟨c1, c2⟩⟩
end
/-- not equal, and not eqv -/
theorem iff_no {a b : V} (h : a ≠ b) : (false = true) ↔ a = b := ⟨fun e => (nomatch e), fun e => (h e).elim⟩
mutual
theorem it_eqv : ∀ (d e : Nat) (a b : V), it d a = true → it e b = true → (PyData.eqv (toP a) (toP b) = true ↔ a = b)
  | d, e, .int i, b, _, h => by
    cases b with
    | int j => exact beq_iff_eq.trans ⟨congrArg _, V.int.inj⟩
    | none => exact iff_no (fun e => nomatch e)
    | tup _ => exact iff_no (fun e => nomatch e)
    | _ => exact nomatch h
  | d, e, .none, b, _, h => by
    cases b with
    | none => exact ⟨fun _ => rfl, fun _ => rfl⟩
    | int _ => exact iff_no (fun e => nomatch e)
    | tup _ => exact iff_no (fun e => nomatch e)
    | _ => exact nomatch h
  | 0, e, .tup l, b, h, _ => (nomatch h)
  | d + 1, e, .tup l, b, h, h' => by
    cases b with
    | none => exact iff_no (fun e => nomatch e)
    | int _ => exact iff_no (fun e => nomatch e)
    | tup r => cases e with
      | zero => exact nomatch h'
      | succ e => exact (its_eqv d e l r h h').trans ⟨congrArg _, V.tup.inj⟩
    | _ => exact nomatch h'
  | d, e, .bool _, _, h, _ => (nomatch h)
  | d, e, .str _, _, h, _ => (nomatch h)
  | d, e, .flist _, _, h, _ => (nomatch h)
  | d, e, .fdct _, _, h, _ => (nomatch h)
  | d, e, .rng _, _, h, _ => (nomatch h)
  | d, e, .ref _, _, h, _ => (nomatch h)
theorem its_eqv : ∀ (d e : Nat) (l r : List V), its d l = true → its e r = true → (PyData.eqvAll (toPs l) (toPs r) = true ↔ l = r)
  | d, e, [], [], _, _ => ⟨fun _ => rfl, fun _ => rfl⟩
  | d, e, [], _ :: _, _, _ => ⟨fun e => (nomatch e), fun e => (nomatch e)⟩
  | d, e, _ :: _, [], _, _ => ⟨fun e => (nomatch e), fun e => (nomatch e)⟩
  | d, e, a :: l, b :: r, h, h' =>
    have ⟨h1, h2⟩ := both h
    have ⟨h3, h4⟩ := both h'
    Bool.and_eq_true_iff.trans ⟨fun ⟨x, y⟩ => by rw [(it_eqv d e a b h1 h3).mp x, (its_eqv d e l r h2 h4).mp y], fun z => by cases z; exact ⟨(it_eqv d e a a h1 h3).mpr rfl, (its_eqv d e l l h2 h4).mpr rfl⟩⟩
end
theorem it_shaped {d : Nat} {v : V} (h : it d v = true) (hd : d ≤ 60) : SeqAt.shaped (toP v) = true := by
  have p := it_pure d v h
  unfold SeqAt.shaped
  rw [p.b, decide_eq_true (Nat.le_trans p.c (Nat.le_trans (Nat.succ_le_succ hd) (by decide)))]; rfl
/-- two such values compared -/
theorem eqK_it {H : AH} {a b : V} {d e : Nat} {k : Bool → Prop} (ha : it d a = true) (hb : it e b = true) (hd : d ≤ 60) (he : e ≤ 60) (h1 : a = b → k true) (h2 : a ≠ b → k false) : eqK H a b k := by
  have fin : ∀ r, (r = true ↔ a = b) → k r := fun r hr => by
    cases r with
    | true => exact h1 (hr.mp rfl)
    | false => exact h2 fun e => nomatch hr.mpr e
  have gen : eqP a b k := by
    unfold eqP
    rw [(it_pure d a ha).a, (it_pure e b hb).a, it_shaped ha hd, it_shaped hb he]
    exact fin _ (it_eqv d e a b ha hb)
  cases a with
  | int x => cases b with
    | int y => exact fin _ (decide_eq_true_iff.trans ⟨congrArg _, V.int.inj⟩)
    | _ => exact gen
  | ref x => exact nomatch ha
  | _ => exact gen
section
variable {QB : Bool → AH → Prop} {H : AH} {a b : V} {d e : Nat}
theorem wp_eq_it (ha : it d a = true) (hb : it e b = true) (hd : d ≤ 60) (he : e ≤ 60) (h1 : a = b → QB true H) (h2 : a ≠ b → QB false H) : wCmp .eq a b QB H := eqK_it (H := H) (k := fun r => QB r H) ha hb hd he h1 h2
theorem wp_ne_it (ha : it d a = true) (hb : it e b = true) (hd : d ≤ 60) (he : e ≤ 60) (h1 : a = b → QB false H) (h2 : a ≠ b → QB true H) : wCmp .ne a b QB H := eqK_it (H := H) (k := fun r => QB (!r) H) ha hb hd he h1 h2
end
end Mine
end
section
set_option maxRecDepth 100000
namespace Mine
/-! places -/
/-- a place but for its path -/
inductive Pl where
  | slot (k a i : Int)
  | heap (w : Int)
noncomputable def Pl.ok : Pl → Prop
  | .slot k _ _ => k ≠ 3
  | .heap _ => True
noncomputable def ivs (p : List Int) : List V := p.map V.int
noncomputable def plV : Pl → List Int → V
  | .slot k a i, p => .tup [.int k, .int a, .int i, .tup (ivs p)]
  | .heap w, p => .tup [.int 3, .int w, .tup (ivs p)]
theorem its_ivs (d : Nat) : ∀ p : List Int, its d (ivs p) = true
  | [] => rfl
  | a :: p => its_ivs d p
theorem plV_it (pl : Pl) (p : List Int) : it 2 (plV pl p) = true := by
  cases pl with
  | slot k a i => exact Bool.and_eq_true_iff.mpr ⟨its_ivs 0 p, rfl⟩
  | heap w => exact Bool.and_eq_true_iff.mpr ⟨its_ivs 0 p, rfl⟩

theorem c_path {n : Nat} {pl : Pl} {p : List Int} {Q : V → AH → Prop} {H : AH} (hk : pl.ok) (h : Q (.tup (ivs p)) H) : wp (callF (n + 1) k_path_of [plV pl p]) Q H := by
  cases pl with
  | slot k a i => exact c_path_of hk h
  | heap w => exact c_path_of3 h
theorem c_field {n : Nat} {pl : Pl} {p : List Int} {s : Int} {Q : V → AH → Prop} {H : AH} (hk : pl.ok) (hl : p.length < 1000) (h : Q (plV pl (p ++ [s])) H) : wp (callF (n + 1) k_field_place [plV pl p, .int s]) Q H := by
  have e : ivs p ++ [V.int s] = ivs (p ++ [s]) := by unfold ivs; simp
  have hz : lineOk ((ivs p).length + [V.int s].length) = true := lineOk_of (by unfold ivs; simp; omega)
  cases pl with
  | slot k a i =>
    have hk' : ¬ k = 3 := hk
    rw [wp_call (fd := fd_field_place) rfl rfl]
    simp [fd_field_place, plV, hk', wp_addt hz]
    rw [e]; exact h
  | heap w =>
    rw [wp_call (fd := fd_field_place) rfl rfl]
    simp [fd_field_place, plV, wp_addt hz]
    rw [e]; exact h
theorem c_index {n : Nat} {k a i : Int} {p : List Int} {Q : V → AH → Prop} {H : AH} (h : Q (.int (if k = 1 ∧ i = -1 then 0 else i)) H) : wp (callF (n + 1) k_index_of [plV (.slot k a i) p]) Q H := by
  rw [wp_call (fd := fd_index_of) rfl rfl]
  by_cases h1 : k = 1
  · by_cases h2 : i = -1
    · rw [if_pos ⟨h1, h2⟩] at h
      simp [fd_index_of, plV, h1, h2, h]
    · rw [if_neg (fun z => h2 z.2)] at h
      simp [fd_index_of, plV, h1, h2, h]
  · rw [if_neg (fun z => h1 z.1)] at h
    simp [fd_index_of, plV, h1, h]

/-- how much of a path is no run of zeros at its end -/
noncomputable def stripN : List Int → Nat → Nat
  | _, 0 => 0
  | p, n + 1 => if p[n]? = some 0 then stripN p n else n + 1
noncomputable def strip (p : List Int) : List Int := p.take (stripN p p.length)
theorem ivs_len (p : List Int) : (ivs p).length = p.length := List.length_map ..
theorem ivs_at (p : List Int) (i : Nat) : (ivs p)[i]? = p[i]?.map V.int := List.getElem?_map ..

/-- the state of the loop -/
inductive StI (p : List Int) (pl : Pl) (H : AH) (k : Nat) (ρ : Loc) (H' : AH) : Prop
  | mk : k ≤ p.length → H' = H → stripN p k = stripN p p.length → look ρ 69 = some (.int k) → look ρ 100 = some (.tup (ivs p)) → look ρ 104 = some (plV pl p) → StI p pl H k ρ H'
theorem c_start_end {n k : Nat} {pl : Pl} {p : List Int} {Q : V → AH → Prop} {H : AH} {ρ : Loc} (hk : pl.ok) (hz : lineOk (ivs p).length = true) (hkl : k ≤ p.length) (f1 : look ρ 69 = some (.int k)) (f2 : look ρ 100 = some (.tup (ivs p))) (f3 : look ρ 104 = some (plV pl p)) (h : Q (plV pl (p.take k)) H) :
    wSs (callF n) (.cons (.ite (.cmp .eq (.sub (.loc 104) (.int 0)) (.glb 171)) (.cons (.ret (.tup (.cons (.glb 171) (.cons (.sub (.loc 104) (.int 1)) (.cons (.upto (.loc 100) (.loc 69)) .nil)))))
    .nil) .nil)
    (.cons (.ret (.tup (.cons (.sub (.loc 104) (.int 0)) (.cons (.sub (.loc 104) (.int 1)) (.cons (.sub (.loc 104) (.int 2)) (.cons (.upto (.loc 100) (.loc 69)) .nil))))))
    .nil)) ρ (kFin Q) H := by
  have hu := fun {Q H} => wp_upto (Q := Q) (H := H) (Int.natCast_nonneg k) (show (k : Int) ≤ ((ivs p).length : Int) by rw [ivs_len]; exact Int.ofNat_le.mpr hkl) hz
  have hiv : (ivs p).take (k : Int).toNat = ivs (p.take k) := List.map_take.symm
  cases pl with
  | slot kk a i =>
    have hk' : ¬ kk = 3 := hk
    simp [f1, f2, f3, plV, hk', hu]
    rw [← Int.toNat_natCast k, hiv]; exact h
  | heap w =>
    simp [f1, f2, f3, plV, hu]
    rw [← Int.toNat_natCast k, hiv]; exact h
theorem c_start {n : Nat} {pl : Pl} {p : List Int} {Q : V → AH → Prop} {H : AH} (hk : pl.ok) (hl : p.length < 300) (h : Q (plV pl (strip p)) H) : wp (callF (n + 2) k_start_of [plV pl p]) Q H := by
  rw [wp_call (fd := fd_start_of) rfl rfl]
  have hz : lineOk (ivs p).length = true := lineOk_k (by rw [ivs_len]; omega)
  simp [fd_start_of]
  refine c_path hk ?_
  simp [wp_len_tup hz, ivs_len]
  refine wp_while (k := p.length) (StI p pl H) (Nat.lt_trans hl (by decide)) ⟨Nat.le_refl _, rfl, rfl, by simp, by simp, by simp⟩ ?_
  rintro k ρ' H' T ⟨hkl, rfl, e1, f1, f2, f3⟩ hF hT
  have fin : stripN p k = k → Q (plV pl (p.take k)) H' := fun hs => by rw [← hs, e1]; exact h
  cases k with
  | zero =>
    simp [f1]
    exact hF (c_start_end hk hz hkl f1 f2 f3 (fin rfl))
  | succ k =>
    have hx := List.getElem?_eq_getElem (show k < p.length from hkl)
    generalize p[k] = x at hx
    have hki := suc_pred k
    have g1 : getAt (ivs p) (k : Int) = some (.int x) := by
      rw [getAt_in (Int.natCast_nonneg k) (by omega), Int.toNat_natCast, ivs_at, hx]; rfl
    by_cases h0 : x = 0
    · subst h0
      have hs : stripN p (k + 1) = stripN p k := if_pos hx
      simp [f1, f2, f3, hki, g1, -Int.natCast_add]
      refine hT fun K hK => ?_
      simp [f1, look_put, hki, -Int.natCast_add]
      exact hK.n ⟨k, Nat.lt_succ_self k, Nat.le_of_succ_le hkl, rfl, hs ▸ e1, by rw [look_put, if_pos rfl], by rw [look_put, if_neg (by decide)]; exact f2, by rw [look_put, if_neg (by decide)]; exact f3⟩
    · have hs : stripN p (k + 1) = k + 1 := if_neg (by rw [hx]; exact fun e => h0 (Option.some.inj e))
      simp [f1, f2, f3, hki, g1, h0, -Int.natCast_add]
      exact hF (c_start_end hk hz hkl f1 f2 f3 (fin hs))

theorem c_same {n : Nat} {pa pb : Pl} {p q : List Int} {Q : V → AH → Prop} {H : AH} (ha : pa.ok) (hb : pb.ok) (hp : p.length < 300) (hq : q.length < 300) (h1 : plV pa (strip p) = plV pb (strip q) → Q (.bool true) H) (h2 : plV pa (strip p) ≠ plV pb (strip q) → Q (.bool false) H) :
    wp (callF (n + 3) k_same_place [plV pa p, plV pb q]) Q H := by
  rw [wp_call (fd := fd_same_place) rfl rfl]
  simp [fd_same_place]
  refine c_start ha hp (c_start hb hq ?_)
  exact wp_eq_it (plV_it _ _) (plV_it _ _) (by decide) (by decide) (fun e => by simpa using h1 e) (fun e => by simpa using h2 e)
end Mine
end
section
set_option maxRecDepth 100000
namespace Mine

/-- the values of the law's cells: d bounds the depth -/
inductive Vd : Nat → V → Prop
  | ref (d : Nat) (a : Int) : Vd d (.tup [.int 4, .int a])
  | num (d : Nat) (t n : Int) : t ≠ 4 → t ≠ 5 → Vd d (.tup [.int t, .int n])
  | ftn (d : Nat) (m : Int) : Vd d (.tup [.int 7, .tup [.int 12, .int m, .tup []]])
  | node (d : Nat) (k : Int) (vs : List V) : vs.length ≤ 4 → (∀ v ∈ vs, Vd d v) → Vd (d + 1) (.tup [.int 5, .int k, .tup vs])
theorem Vd.ok {d : Nat} {v : V} (h : Vd d v) : OKv v := by
  induction h with
  | ref d a => exact .leaf _ _ (by decide)
  | num d t n h4 h5 => exact .leaf _ _ h5
  | ftn d m => exact .leaf _ _ (by decide)
  | node d k vs hl hv ih => exact .node _ _ (Nat.le_trans hl (by decide)) ih
theorem its_of {d : Nat} : ∀ {l : List V}, (∀ v ∈ l, it d v = true) → its d l = true
  | [], _ => rfl
  | v :: l, h => Bool.and_eq_true_iff.mpr ⟨h v List.mem_cons_self, its_of fun x hx => h x (List.mem_cons_of_mem _ hx)⟩
theorem Vd.it {d : Nat} {v : V} (h : Vd d v) : it (2 * d + 3) v = true := by
  induction h with
  | ref d a => rfl
  | num d t n h4 h5 => rfl
  | ftn d m => rfl
  | node d k vs hl hv ih => exact Bool.and_eq_true_iff.mpr ⟨its_of ih, rfl⟩

mutual
/-- the references in a value, in their order -/
noncomputable def adr : V → List Int
  | .tup [.int t, a, .tup vs] => if t = 5 then adrs vs else []
  | .tup [.int t, .int a] => if t = 4 ∧ a ≠ 0 then [a] else []
  | _ => []
noncomputable def adrs : List V → List Int
  | [] => []
  | v :: l => adr v ++ adrs l
end
/-- the heap grows -/
noncomputable def Ext (H H' : AH) : Prop := ∃ l, H' = H ++ l
theorem Ext.refl (H : AH) : Ext H H := ⟨[], (List.append_nil H).symm⟩
theorem Ext.trans {H H' H'' : AH} (a : Ext H H') (b : Ext H' H'') : Ext H H'' := by
  obtain ⟨l, rfl⟩ := a
  obtain ⟨r, rfl⟩ := b
  exact ⟨l ++ r, List.append_assoc ..⟩
theorem Ext.at {H H' : AH} (e : Ext H H') {i : Nat} {c : Cell} (h : H[i]? = some c) : H'[i]? = some c := by
  obtain ⟨l, rfl⟩ := e
  rw [List.getElem?_append_left (List.getElem?_eq_some_iff.mp h).1]; exact h
theorem Ext.push (H : AH) (c : Cell) : Ext H (H ++ [c]) := ⟨[c], rfl⟩
theorem Ext.len {H H' : AH} (e : Ext H H') : H.length ≤ H'.length := by obtain ⟨l, rfl⟩ := e; simp

section
variable {Q : V → AH → Prop} {H : AH}
theorem wp_add_lst {a b : Nat} {l r : List V} (ha : H[a]? = some (.lst l)) (hb : H[b]? = some (.lst r)) (hz : lineOk (l.length + r.length) = true) : wBin .add (.ref a) (.ref b) Q H ↔ Q (.ref H.length) (H ++ [.lst (l ++ r)]) := by
  show atL H[a]? _ ↔ _
  rw [ha]
  show atL H[b]? _ ↔ _
  rw [hb]; exact Iff.of_eq (bQ_is hz)
theorem wp_pop {a : Nat} {l : List V} {v : V} (ha : H[a]? = some (.lst (l ++ [v]))) (hz : lineOk (l ++ [v]).length = true) : wp (popV (.ref a)) Q H ↔ Q v (H.set a (.lst l)) := by
  show atL H[a]? _ ↔ _
  rw [ha]
  show bQ (lineOk (l ++ [v]).length) _ ↔ _
  rw [bQ_is hz, List.getLast?_concat, List.dropLast_concat]; rfl
end
theorem adr_ref {a : Int} (h : a ≠ 0) : adr (.tup [.int 4, .int a]) = [a] := if_pos ⟨rfl, h⟩
theorem adr_ref0 : adr (.tup [.int 4, .int 0]) = [] := rfl
theorem adr_num {t n : Int} (h : t ≠ 4) : adr (.tup [.int t, .int n]) = [] := if_neg fun z => h z.1
theorem adr_ftn (m : Int) : adr (.tup [.int 7, .tup [.int 12, .int m, .tup []]]) = [] := rfl
theorem adr_node (k : Int) (vs : List V) : adr (.tup [.int 5, .int k, .tup vs]) = adrs vs := @if_pos (5 = (5 : Int)) _ rfl _ (adrs vs) []
theorem adrs_cons (v : V) (l : List V) : adrs (v :: l) = adr v ++ adrs l := rfl
theorem adrs_le {n : Nat} : ∀ l : List V, (∀ v ∈ l, (adr v).length ≤ n) → (adrs l).length ≤ l.length * n
  | [], _ => Nat.zero_le _
  | v :: l, h => by
    rw [adrs_cons, List.length_append, List.length_cons, Nat.add_mul, Nat.one_mul, Nat.add_comm]
    exact Nat.add_le_add (adrs_le l fun x hx => h x (List.mem_cons_of_mem _ hx)) (h v List.mem_cons_self)
theorem adrs_len {d : Nat} {v : V} (h : Vd d v) : (adr v).length ≤ 4 ^ d := by
  induction h with
  | ref d a =>
    by_cases h : a = 0
    · subst h; exact Nat.zero_le _
    · rw [adr_ref h]; exact Nat.pow_pos (by decide)
  | num d t n h4 h5 => rw [adr_num h4]; exact Nat.zero_le _
  | ftn d m => exact Nat.zero_le _
  | node d k vs hl hv ih =>
    rw [adr_node, Nat.pow_succ, Nat.mul_comm]
    exact Nat.le_trans (adrs_le vs ih) (Nat.mul_le_mul_right _ hl)
theorem adrs_append : ∀ (l r : List V), adrs (l ++ r) = adrs l ++ adrs r
  | [], r => rfl
  | v :: l, r => by rw [List.cons_append, adrs_cons, adrs_cons, adrs_append l r, List.append_assoc]
theorem adr_le {d : Nat} {v : V} (h : Vd d v) (hd : d ≤ 7) : (adr v).length ≤ 16384 := by
  exact Nat.le_trans (adrs_len h) (Nat.pow_le_pow_right (by decide) hd)
theorem ivs_append (a b : List Int) : ivs (a ++ b) = ivs a ++ ivs b := List.map_append
/-- the state of the loop -/
inductive AdI (vs : List V) (H : AH) (l : List V) (ρ : Loc) (H' : AH) : Prop
  | mk (pre : List V) (a : Nat) : vs = pre ++ l → Ext H H' → H'[a]? = some (.lst (ivs (adrs pre))) → look ρ 202 = some (.ref a) → AdI vs H l ρ H'
theorem c_addresses : ∀ {d : Nat} {v : V}, Vd d v → d ≤ 6 → ∀ {n : Nat} {Q : V → AH → Prop} {H : AH}, (∀ H' a, Ext H H' → H'[a]? = some (.lst (ivs (adr v))) → Q (.ref a) H') → wp (callF (n + d + 1) k_law_addresses [v]) Q H := by
  intro d v hv
  induction hv with
  | ref d a =>
    intro hd n Q H h
    rw [wp_call (fd := fd_law_addresses) rfl rfl]
    by_cases h0 : a = 0
    · subst h0
      exact h _ _ (.push _ _) (end_at _ _)
    · simp [fd_law_addresses, h0]
      exact h _ _ (.push _ _) (by rw [end_at, adr_ref h0]; rfl)
  | num d t m h4 h5 =>
    intro hd n Q H h
    rw [wp_call (fd := fd_law_addresses) rfl rfl]
    simp [fd_law_addresses, h4, h5]
    exact h _ _ (.push _ _) (by rw [end_at, adr_num h4]; rfl)
  | ftn d m =>
    intro hd n Q H h
    exact h _ _ (.push _ _) (end_at _ _)
  | node d k vs hl hvs ih =>
    intro hd n Q H h
    rw [wp_call (fd := fd_law_addresses) rfl rfl]
    simp [fd_law_addresses]
    refine wp_for_tup (AdI vs H) (Nat.lt_of_le_of_lt hl (by decide)) ⟨[], H.length, rfl, .push _ _, end_at _ _, rfl⟩ ?_ ?_
    · rintro x l' ρ H' K ⟨pre, a, e1, e2, e3, e4⟩ hK
      simp [look_put, e4]
      have hx : x ∈ vs := by rw [e1]; simp
      refine ih x hx (Nat.le_of_succ_le hd) (n := n) fun H'' b ex hb => ?_
      have hn := adr_le (Vd.node d k vs hl hvs) (Nat.le_succ_of_le hd)
      rw [adr_node, e1, adrs_append, List.length_append, adrs_cons, List.length_append] at hn
      refine (wp_add_lst (ex.at e3) hb (lineOk_of (by rw [ivs_len, ivs_len]; omega))).mpr (hK.n ⟨pre ++ [x], H''.length, by rw [e1, List.append_assoc]; rfl, e2.trans (ex.trans (.push _ _)), ?_, by rw [look_put, if_pos rfl]⟩)
      rw [end_at, adrs_append, ivs_append, adrs_cons]
      show _ = some (Cell.lst (_ ++ ivs (_ ++ [])))
      rw [List.append_nil]
    · rintro ρ H' ⟨pre, a, e1, e2, e3, e4⟩
      simp [e4]
      refine h _ _ e2 ?_
      rw [e3, e1, adr_node, List.append_nil]
end Mine
end
section
set_option maxRecDepth 100000
namespace Mine
mutual
noncomputable def nds : V → Nat
  | .tup l => ndss l + 1
  | _ => 0
noncomputable def ndss : List V → Nat
  | [] => 0
  | v :: l => nds v + ndss l
end
theorem ndss_cons (v : V) (l : List V) : ndss (v :: l) = nds v + ndss l := rfl
theorem ndss_append : ∀ (l r : List V), ndss (l ++ r) = ndss l + ndss r
  | [], r => (Nat.zero_add _).symm
  | v :: l, r => by rw [List.cons_append, ndss_cons, ndss_cons, ndss_append l r, Nat.add_assoc]
theorem ndss_reverse : ∀ (l : List V), ndss l.reverse = ndss l
  | [] => rfl
  | v :: l => by rw [List.reverse_cons, ndss_append, ndss_reverse l, ndss_cons, Nat.add_comm]; rfl
theorem nds_node (k : Int) (vs : List V) : nds (.tup [.int 5, .int k, .tup vs]) = ndss vs + 1 + 1 := by
  show 0 + (0 + (ndss vs + 1 + 0)) + 1 = _
  rw [Nat.zero_add, Nat.zero_add]
theorem two_at (H : AH) (a b : Cell) : (H ++ [a, b])[H.length]? = some a ∧ (H ++ [a, b])[H.length + 1]? = some b := by simp
theorem two_set (H : AH) (a b c : Cell) : (H ++ [a, b]).set H.length c = H ++ [c, b] ∧ (H ++ [a, b]).set (H.length + 1) c = H ++ [a, c] := by simp
theorem len_pre {α : Type} {a b c : List α} (h : a ++ b = c) : a.length ≤ c.length := by rw [← h, List.length_append]; exact Nat.le_add_right _ _

theorem Vd.mono {d : Nat} {v : V} (h : Vd d v) : Vd (d + 1) v := by
  induction h with
  | ref d a => exact .ref _ a
  | num d t n h4 h5 => exact .num _ t n h4 h5
  | ftn d m => exact .ftn _ m
  | node d k vs hl hv ih => exact .node _ k vs hl ih
theorem Vd.pos {d : Nat} {v : V} (h : Vd d v) : 1 ≤ nds v := by
  cases h with
  | ref d a => exact Nat.succ_pos _
  | num d t n h4 h5 => exact Nat.succ_pos _
  | ftn d m => exact Nat.succ_pos _
  | node d k vs hl hv => exact Nat.succ_pos _
theorem len_ndss {d : Nat} : ∀ {l : List V}, (∀ x ∈ l, Vd d x) → l.length ≤ ndss l
  | [], _ => Nat.zero_le _
  | v :: l, h => by
    rw [ndss_cons, List.length_cons, Nat.add_comm]
    exact Nat.add_le_add (h v List.mem_cons_self).pos (len_ndss fun x hx => h x (List.mem_cons_of_mem _ hx))
/-- by cases -/
@[elab_as_elim] theorem Vd.el {d : Nat} {v : V} {P : V → Prop} (h : Vd d v) (ref0 : P (.tup [.int 4, .int 0])) (ref : ∀ a, a ≠ 0 → P (.tup [.int 4, .int a])) (num : ∀ t n, t ≠ 4 → t ≠ 5 → P (.tup [.int t, .int n])) (ftn : ∀ m, P (.tup [.int 7, .tup [.int 12, .int m, .tup []]])) (node : ∀ k vs, vs.length ≤ 4 → (∀ v ∈ vs, Vd d v) → P (.tup [.int 5, .int k, .tup vs])) : P v := by
  cases h with
  | ref d a =>
    by_cases h0 : a = 0
    · rw [h0]; exact ref0
    · exact ref a h0
  | num d t n h4 h5 => exact num t n h4 h5
  | ftn d m => exact ftn m
  | node d k vs hl hv => exact node k vs hl fun v hx => (hv v hx).mono
/-- the state of the loop: found, to do -/
inductive RfI (d : Nat) (v : V) (H : AH) (k : Nat) (ρ : Loc) (H' : AH) : Prop
  | mk (fs : List Int) (ts : List V) : ndss ts = k → k ≤ nds v → (∀ x ∈ ts, Vd d x) → fs ++ adrs ts.reverse = adr v → H' = H ++ [.lst (ivs fs), .lst ts] → look ρ 27 = some (.ref H.length) → look ρ 109 = some (.ref (H.length + 1)) → RfI d v H k ρ H'
/-- the state of the inner loop -/
inductive RfJ (H : AH) (fs : List Int) (ts ws : List V) (kk : Int) (j : Nat) (ρ : Loc) (H' : AH) : Prop
  | mk : j ≤ ws.length → H' = H ++ [.lst (ivs fs), .lst (ts ++ (ws.drop j).reverse)] → look ρ 104 = some (.int ((j : Int) - 1)) → look ρ 109 = some (.ref (H.length + 1)) → look ρ 110 = some (.tup [.int 5, .int kk, .tup ws]) → look ρ 27 = some (.ref H.length) → RfJ H fs ts ws kk j ρ H'
theorem c_refs_in {d : Nat} {v : V} (hv : Vd d v) (hd : d ≤ 6) (hz : nds v < 390) {n : Nat} {Q : V → AH → Prop} {H : AH} (h : ∀ H' a, Ext H H' → H'[a]? = some (.lst (ivs (adr v))) → Q (.ref a) H') : wp (callF (n + 1) k_refs_in [v]) Q H := by
  have hz' := adr_le hv (Nat.le_succ_of_le hd)
  rw [wp_call (fd := fd_refs_in) rfl rfl]
  revert hz h hz'
  refine Vd.el hv (fun hz h hz' => ?_) (fun a h0 hz h hz' => ?_) (fun t m h4 h5 hz h hz' => ?_) (fun m hz h hz' => ?_) (fun k vs hl hvs hz h hz' => ?_)
  · exact h _ _ (.push _ _) (end_at _ _)
  · simp [fd_refs_in, h0]
    exact h _ _ (.push _ _) (by rw [end_at, adr_ref h0]; rfl)
  · simp [fd_refs_in, h4, h5]
    exact h _ _ (.push _ _) (by rw [end_at, adr_num h4]; rfl)
  · exact h _ _ (.push _ _) (end_at _ _)
  · have hv : Vd (d + 1) (.tup [.int 5, .int k, .tup vs]) := .node d k vs hl hvs
    simp [fd_refs_in]
    generalize hV : V.tup [.int 5, .int k, .tup vs] = v at *
    refine wp_while (k := nds v) (RfI (d + 1) v H) (Nat.lt_trans hz (by decide)) ⟨[], [v], rfl, Nat.le_refl _, fun x hx => List.mem_singleton.mp hx ▸ hv, List.append_nil _, rfl, rfl, rfl⟩ ?_
    rintro k ρ' H' T ⟨fs, ts, e1, e0, e2, e3, rfl, f1, f2⟩ hF hT
    have hts : ts.length ≤ 390 := Nat.le_trans (len_ndss e2) (e1 ▸ Nat.le_trans e0 (Nat.le_of_lt hz))
    have hfs : fs.length ≤ 16384 := Nat.le_trans (len_pre e3) hz'
    simp [f2, wp_len_lst (two_at H (.lst (ivs fs)) (.lst ts)).2 (lineOk_k (Nat.le_trans hts (by decide)))]
    rcases List.eq_nil_or_concat ts with rfl | ⟨ts', top, rfl⟩
    · refine hF ?_
      simp [f1]
      exact h _ _ ⟨_, rfl⟩ (by rw [(two_at H _ _).1, ← e3]; show _ = some (Cell.lst (ivs (fs ++ []))); rw [List.append_nil])
    · rw [show decide (0 < (ts'.concat top).length) = true by rw [List.length_concat]; rfl]
      rw [List.concat_eq_append] at *
      refine hT fun K hK => ?_
      have hl2 : ts'.length ≤ 390 := Nat.le_trans (len_pre rfl) hts
      rw [List.reverse_append, List.reverse_singleton, List.singleton_append, adrs_cons] at e3
      rw [ndss_append, ndss_cons] at e1
      have e2' : ∀ x ∈ ts', Vd (d + 1) x := fun x hx => e2 x (List.mem_append_left _ hx)
      have htop := e2 top (List.mem_append_right _ List.mem_cons_self)
      have hlt : ndss ts' < k := by
        rw [← e1]; exact Nat.lt_add_of_pos_right (Nat.lt_of_lt_of_le htop.pos (Nat.le_add_right ..))
      simp [f1, f2]
      refine (wp_pop (two_at H _ _).2 (lineOk_k (Nat.le_trans hts (by decide)))).mpr ?_
      rw [(two_set H (.lst (ivs fs)) _ (.lst ts')).2]
      obtain ⟨t3, t4⟩ := two_at H (.lst (ivs fs)) (.lst ts')
      clear e2
      revert e1 e3
      refine Vd.el htop (fun e1 e3 => ?_) (fun a h0 e1 e3 => ?_) (fun t m h4 h5 e1 e3 => ?_) (fun m e1 e3 => ?_) (fun kk ws hwl hws e1 e3 => ?_)
      · simp [look_put, f1, f2]
        exact hK.n ⟨ndss ts', hlt, fs, ts', rfl, Nat.le_trans (Nat.le_of_lt hlt) e0, e2', e3, rfl, by rw [look_put, if_neg (by decide)]; exact f1, by rw [look_put, if_neg (by decide)]; exact f2⟩
      · simp [look_put, f1, f2, h0, wp_isLst t3, wp_append t3 (lineOk_of (by rw [ivs_len]; exact Nat.le_trans hfs (by decide))), (two_set H _ (.lst ts') _).1]
        exact hK.n ⟨ndss ts', hlt, fs ++ [a], ts', rfl, Nat.le_trans (Nat.le_of_lt hlt) e0, e2', by rw [List.append_assoc, ← e3, adr_ref h0], by rw [ivs_append]; rfl, by rw [look_put, if_neg (by decide)]; exact f1, by rw [look_put, if_neg (by decide)]; exact f2⟩
      · rw [adr_num h4] at e3
        simp [look_put, f1, f2, h4, h5]
        exact hK.n ⟨ndss ts', hlt, fs, ts', rfl, Nat.le_trans (Nat.le_of_lt hlt) e0, e2', e3, rfl, by rw [look_put, if_neg (by decide)]; exact f1, by rw [look_put, if_neg (by decide)]; exact f2⟩
      · simp [look_put, f1, f2]
        exact hK.n ⟨ndss ts', hlt, fs, ts', rfl, Nat.le_trans (Nat.le_of_lt hlt) e0, e2', e3, rfl, by rw [look_put, if_neg (by decide)]; exact f1, by rw [look_put, if_neg (by decide)]; exact f2⟩
      · rw [adr_node] at e3
        rw [nds_node] at e1
        simp [look_put, f1, f2, wp_len_tup (lineOk_k (Nat.le_trans hwl (by decide)))]
        refine wp_while (k := ws.length) (RfJ H fs ts' ws kk) (Nat.lt_of_le_of_lt hwl (by decide)) ⟨Nat.le_refl _, by simp, by rw [look_put, if_pos rfl], by rw [look_put, if_neg (by decide), look_put, if_neg (by decide)]; exact f2, by rw [look_put, if_neg (by decide), look_put, if_pos rfl], by rw [look_put, if_neg (by decide), look_put, if_neg (by decide)]; exact f1⟩ ?_
        rintro j ρ2 H2 T ⟨hj, rfl, g1, g2, g3, g4⟩ hF2 hT2
        cases j with
        | zero =>
          simp [g1]
          have hlt2 : ndss (ts' ++ ws.reverse) < k := by
            rw [← e1, ndss_append, ndss_reverse]; exact Nat.add_lt_add_left (Nat.lt_succ_of_le (Nat.le_succ_of_le (Nat.le_refl _))) _
          refine hF2 (hK.n ⟨ndss (ts' ++ ws.reverse), hlt2, fs, ts' ++ ws.reverse, rfl, Nat.le_trans (Nat.le_of_lt hlt2) e0, ?_, ?_, rfl, g4, g2⟩)
          · intro x hx
            rcases List.mem_append.mp hx with hx | hx
            · exact e2' x hx
            · exact hws x (List.mem_reverse.mp hx)
          · rw [List.reverse_append, List.reverse_reverse, adrs_append]; exact e3
        | succ j =>
          rw [suc_pred] at g1
          have hx := List.getElem?_eq_getElem (show j < ws.length from hj)
          have q1 : getAt ws (j : Int) = some ws[j] := by rw [getAt_in (Int.natCast_nonneg j) (by omega), Int.toNat_natCast, hx]
          obtain ⟨t5, t6⟩ := two_at H (.lst (ivs fs)) (.lst (ts' ++ (ws.drop (j + 1)).reverse))
          have hll : (ts' ++ (ws.drop (j + 1)).reverse).length ≤ 1000 := by
            rw [List.length_append, List.length_reverse, List.length_drop]; omega
          have hdr : ws.drop j = ws[j] :: ws.drop (j + 1) := List.drop_eq_getElem_cons hj
          generalize ws[j] = x at hx q1 hdr
          simp [g1]
          refine hT2 fun K hK => ?_
          simp [g1, g2, g3, g4, look_put, wp_isLst t6, q1, wp_append t6 (lineOk_k hll), (two_set H (.lst (ivs fs)) _ _).2]
          exact hK.n ⟨j, Nat.lt_succ_self j, Nat.le_of_succ_le hj, by rw [hdr, List.reverse_cons], by rw [look_put, if_pos rfl], by rw [look_put, if_neg (by decide)]; exact g2, by rw [look_put, if_neg (by decide)]; exact g3, by rw [look_put, if_neg (by decide)]; exact g4⟩
end Mine
end
section
set_option maxRecDepth 100000
namespace Mine
theorem adrs_ne {d : Nat} {v : V} (h : Vd d v) : ∀ a ∈ adr v, a ≠ 0 := by
  induction h with
  | ref d a =>
    by_cases h0 : a = 0
    · subst h0; exact fun x hx => nomatch hx
    · rw [adr_ref h0]; exact fun x hx => List.mem_singleton.mp hx ▸ h0
  | num d t n h4 h5 => rw [adr_num h4]; exact fun x hx => nomatch hx
  | ftn d m => exact fun x hx => nomatch hx
  | node d k vs hl hv ih => rw [adr_node]; exact go vs ih
where
  go : ∀ l : List V, (∀ v ∈ l, ∀ a ∈ adr v, a ≠ 0) → ∀ a ∈ adrs l, a ≠ 0
    | [], _ => fun x hx => nomatch hx
    | v :: l, h => fun x hx => (List.mem_append.mp hx).elim (h v List.mem_cons_self x) (go l (fun w hw => h w (List.mem_cons_of_mem _ hw)) x)

theorem c_holds {d : Nat} {v : V} (hv : Vd d v) (hd : d ≤ 6) (hz : nds v < 390) (ha : (adr v).length < 390) {n : Nat} {Q : V → AH → Prop} {H : AH} (h : ∀ H', Ext H H' → Q (.bool (!(adr v).isEmpty)) H') : wp (callF (n + 2) k_holds_reference [v]) Q H := by
  have gen : ∀ (t : Int) (r : List V), v = .tup (.int t :: r) → t ≠ 4 → wp (callF (n + 2) k_holds_reference [v]) Q H := by
    rintro t r rfl ht
    rw [wp_call (fd := fd_holds_reference) rfl rfl]
    simp [fd_holds_reference, ht]
    refine c_refs_in hv hd hz fun H' a ex hat => (wp_toIt_lst hat).mpr ?_
    refine wp_for_lst (xs := ivs (adr _)) (fun i ρ H'' => H'' = H' ∧ i = 0) (fun i ρ H'' hI => by rw [hI.1]; exact hat) (by rw [ivs_len]; exact Nat.lt_trans ha (by decide)) ⟨rfl, rfl⟩ ?_ ?_
    · rintro i x ρ H'' K hx ⟨rfl, rfl⟩ hK
      rw [ivs_at] at hx
      have h' := h H'' ex
      have hne := adrs_ne hv
      generalize adr (.tup (.int t :: r)) = l at hx h' hne
      cases l with
      | nil => cases hx
      | cons y l =>
        cases hx
        simp [look_put, hne y List.mem_cons_self]
        exact hK.r h'
    · rintro i ρ H'' hle ⟨rfl, rfl⟩
      have h' := h H'' ex
      rw [ivs_len] at hle
      rw [List.length_eq_zero_iff.mp (Nat.le_zero.mp hle)] at h'
      exact h'
  revert h gen
  refine Vd.el hv (fun h _ => h H (.refl H)) (fun a h0 h _ => ?_) (fun t m h4 h5 h gen => gen t _ rfl h4) (fun m h gen => gen 7 _ rfl (by decide)) (fun k vs hl hvs h gen => gen 5 _ rfl (by decide))
  have h' := h H (.refl H)
  rw [adr_ref h0] at h'
  rw [wp_call (fd := fd_holds_reference) rfl rfl]
  simp [fd_holds_reference, h0]
  exact h'
end Mine
end
section
set_option maxRecDepth 100000
namespace Mine
open PySem PySem.W PyProof.Rows
section
variable {Q : V → AH → Prop} {H : AH}
theorem wp_shl {y : Int} (h0 : 0 ≤ y) (h1 : y ≤ 1000) : wBin .shl (.int 1) (.int y) Q H ↔ Q (.int (1 * 2 ^ y.toNat)) H := Iff.of_eq (bQ_is (by rw [decide_eq_true h0, decide_eq_true h1]; rfl))
theorem wp_shr {x y : Int} (h0 : 0 ≤ y) : wBin .shr (.int x) (.int y) Q H ↔ Q (.int (x.fdiv (2 ^ y.toNat))) H := Iff.of_eq (bQ_is (decide_eq_true h0))
theorem wp_band {x y : Int} : wBin .band (.int x) (.int y) Q H ↔ Q (.int (Builtin.bitAnd x y)) H := Iff.rfl
theorem wp_mod {x y : Int} (h : y ≠ 0) : wBin .mod (.int x) (.int y) Q H ↔ Q (.int (x.fmod y)) H := Iff.of_eq (bQ_is (by rw [decide_eq_false h]; rfl))
theorem wp_fdiv {x y : Int} (h : y ≠ 0) : wBin .fdiv (.int x) (.int y) Q H ↔ Q (.int (x.fdiv y)) H := Iff.of_eq (bQ_is (by rw [decide_eq_false h]; rfl))
theorem wp_pow {y : Int} (h0 : 0 ≤ y) (h1 : y ≤ 1000) : wBin .pow (.int 2) (.int y) Q H ↔ Q (.int (2 ^ y.toNat)) H := Iff.of_eq (bQ_is (by rw [decide_eq_true h0, decide_eq_true h1]; rfl))
end
theorem and64 (x : Int) : Builtin.bitAnd x 18446744073709551615 = x % 18446744073709551616 := by
  by_cases hx : 0 ≤ x
  · rw [bitAnd_pp hx (by decide)]
    have h : x.toNat &&& (18446744073709551615 : Int).toNat = x.toNat % 18446744073709551616 := Nat.and_two_pow_sub_one_eq_mod x.toNat 64
    rw [h, Int.natCast_emod, Int.toNat_of_nonneg hx]; rfl
  · rw [bitAnd_np hx (by decide)]
    have h : (18446744073709551615 : Int).toNat &&& (Builtin.bitNot x).toNat = (Builtin.bitNot x).toNat % 18446744073709551616 := by
      rw [Nat.and_comm]
      exact Nat.and_two_pow_sub_one_eq_mod (Builtin.bitNot x).toNat 64
    rw [h]
    unfold Builtin.bitNot
    lia
theorem fdiv_pos {x y : Int} (h : 0 ≤ y) : x.fdiv y = x / y := Int.fdiv_eq_ediv_of_nonneg x h
theorem fmod_pos {x y : Int} (h : 0 ≤ y) : x.fmod y = x % y := Int.fmod_eq_emod_of_nonneg x h

/-- n brought into the range of b signed bits -/
noncomputable def wrapI (h m n : Int) : Int := (n + h) % m - h
/-- of h and 2h -/
theorem wrap_at {h m x : Int} (hm : m = h + h) (h0 : 0 < h) : wrapI h m x = if x % m / h = 0 then x % m else x % m - m := by
  subst hm
  have a := Int.emod_nonneg x (show h + h ≠ 0 by omega)
  have b := Int.emod_lt_of_pos x (show 0 < h + h by omega)
  unfold wrapI
  rw [← Int.emod_add_emod]
  generalize x % (h + h) = r at a b
  by_cases c : r < h
  · rw [Int.ediv_eq_zero_of_lt a c, if_pos rfl, Int.emod_eq_of_lt (by omega) (by omega)]; exact Int.add_sub_cancel ..
  · have d : 1 ≤ r / h := Int.le_ediv_of_mul_le h0 (by omega)
    rw [if_neg (by omega), ← Int.sub_emod_right, Int.emod_eq_of_lt (by omega) (by omega)]; omega
theorem c_wrap8 {n : Nat} {x : Int} {Q : V → AH → Prop} {H : AH} (h : Q (.int (wrapI 128 256 x)) H) : wp (callF (n + 1) k_wrap_bits [.int x, .int 8]) Q H := by
  rw [wrap_at (h := 128) (m := 256) rfl (by decide)] at h
  rw [wp_call (fd := fd_wrap_bits) rfl rfl]
  simp [fd_wrap_bits, wp_shl, wp_shr, wp_band, bitAnd_m8, fdiv_pos]
  by_cases hc : x % 256 / 128 = 0
  · simp [hc, wp_shl]
    rwa [if_pos hc] at h
  · simp [hc, wp_shl]
    rwa [if_neg hc] at h
theorem c_wrap16 {n : Nat} {x : Int} {Q : V → AH → Prop} {H : AH} (h : Q (.int (wrapI 32768 65536 x)) H) : wp (callF (n + 1) k_wrap_bits [.int x, .int 16]) Q H := by
  rw [wrap_at (h := 32768) (m := 65536) rfl (by decide)] at h
  rw [wp_call (fd := fd_wrap_bits) rfl rfl]
  simp [fd_wrap_bits, wp_shl, wp_shr, wp_band, bitAnd_m16, fdiv_pos]
  by_cases hc : x % 65536 / 32768 = 0
  · simp [hc, wp_shl]
    rwa [if_pos hc] at h
  · simp [hc, wp_shl]
    rwa [if_neg hc] at h
theorem c_wrap32 {n : Nat} {x : Int} {Q : V → AH → Prop} {H : AH} (h : Q (.int (wrapI 2147483648 4294967296 x)) H) : wp (callF (n + 2) k_wrap32 [.int x]) Q H := by
  rw [wrap_at (h := 2147483648) (m := 4294967296) rfl (by decide)] at h
  rw [wp_call (fd := fd_wrap32) rfl rfl]
  simp [fd_wrap32]
  rw [wp_call (fd := fd_wrap_bits) rfl rfl]
  simp [fd_wrap_bits, wp_shl, wp_shr, wp_band, bitAnd_m32, fdiv_pos]
  by_cases hc : x % 4294967296 / 2147483648 = 0
  · simp [hc, wp_shl]
    rwa [if_pos hc] at h
  · simp [hc, wp_shl]
    rwa [if_neg hc] at h
theorem c_wrap64 {n : Nat} {x : Int} {Q : V → AH → Prop} {H : AH} (h : Q (.int (wrapI 9223372036854775808 18446744073709551616 x)) H) : wp (callF (n + 2) k_wrap64 [.int x]) Q H := by
  rw [wrap_at (h := 9223372036854775808) (m := 18446744073709551616) rfl (by decide)] at h
  rw [wp_call (fd := fd_wrap64) rfl rfl]
  simp [fd_wrap64]
  rw [wp_call (fd := fd_wrap_bits) rfl rfl]
  simp [fd_wrap_bits, wp_shl, wp_shr, wp_band, and64, fdiv_pos]
  by_cases hc : x % 18446744073709551616 / 9223372036854775808 = 0
  · simp [hc, wp_shl]
    rwa [if_pos hc] at h
  · simp [hc, wp_shl]
    rwa [if_neg hc] at h
end Mine
end
section
set_option maxRecDepth 100000
namespace Mine
open PySem PySem.W PyProof.Rows
@[simp] theorem g_BOOL : look GL.glob 67 = some (.int 1) := by rfl
@[simp] theorem g_U1 : look GL.glob 80 = some (.int 4) := by rfl
@[simp] theorem g_CHAR : look GL.glob 79 = some (.int 2) := by rfl
@[simp] theorem g_U2 : look GL.glob 78 = some (.int 6) := by rfl
@[simp] theorem g_I1 : look GL.glob 77 = some (.int 3) := by rfl
@[simp] theorem g_I2 : look GL.glob 76 = some (.int 5) := by rfl
@[simp] theorem g_I8 : look GL.glob 75 = some (.int 9) := by rfl
@[simp] theorem g_U8 : look GL.glob 74 = some (.int 10) := by rfl
@[simp] theorem g_U4 : look GL.glob 92 = some (.int 8) := by rfl
@[simp] theorem g_NINT : look GL.glob 66 = some (.int 11) := by rfl
@[simp] theorem g_OBJ : look GL.glob 90 = some (.int 12) := by rfl
@[simp] theorem g_STR : look GL.glob 89 = some (.int 13) := by rfl
@[simp] theorem g_NULLK : look GL.glob 49 = some (.int 14) := by rfl
@[simp] theorem g_VI4 : look GL.glob 85 = some (.int 1) := by rfl
@[simp] theorem g_VI8 : look GL.glob 84 = some (.int 2) := by rfl
@[simp] theorem g_VN : look GL.glob 83 = some (.int 3) := by rfl
@[simp] theorem g_VFTN : look GL.glob 94 = some (.int 7) := by rfl
@[simp] theorem g_VPLACE : look GL.glob 95 = some (.int 6) := by rfl
@[simp] theorem g_NOTAG : look GL.glob 93 = some (.int (-1)) := by rfl
@[simp] theorem g_NULLV : look GL.glob 98 = some (.tup [.int 4, .int 0]) := by rfl
@[simp] theorem g_RCLASS : look GL.glob 38 = some (.int 2) := by rfl
@[simp] theorem g_RVALUE : look GL.glob 37 = some (.int 3) := by rfl
@[simp] theorem g_RARRAY : look GL.glob 36 = some (.int 4) := by rfl
@[simp] theorem g_RBYREF : look GL.glob 35 = some (.int 5) := by rfl
@[simp] theorem g_RBOXED : look GL.glob 34 = some (.int 8) := by rfl
@[simp] theorem g_RROREF : look GL.glob 33 = some (.int 9) := by rfl
@[simp] theorem g_RFTN : look GL.glob 31 = some (.int 10) := by rfl
@[simp] theorem g_ADDR : look GL.glob 193 = some (.tup [.int 0, .int 16, .int 21, .int 25]) := by rfl
@[simp] theorem g_LOST : look GL.glob 220 = some (.tup [.int 6, .int 7, .int 8]) := by rfl

/-- the number that a slot of the kind keeps -/
noncomputable def keepI (k n : Int) : Int :=
  if k = 1 ∨ k = 4 then n % 256 else if k = 2 ∨ k = 6 then n % 65536 else if k = 3 then wrapI 128 256 n else if k = 5 then wrapI 32768 65536 n
  else if k = 9 ∨ k = 10 then wrapI 9223372036854775808 18446744073709551616 n else wrapI 2147483648 4294967296 n
/-- the tag of a kind of numbers -/
noncomputable def tagI (k : Int) : Int := if k = 9 ∨ k = 10 then 2 else if k = 11 then 3 else 1
theorem el_s {P : Int → Prop} (a : Int) {b k : Int} (hb : a + 1 = b) (h0 : a ≤ k) (pa : P a) (h : b ≤ k → P k) : P k := by
  by_cases e : a = k
  · rw [← e]; exact pa
  · subst hb; exact h (Int.add_one_le_of_lt (Int.lt_iff_le_and_ne.mpr ⟨h0, e⟩))
@[elab_as_elim] theorem num_el {P : Int → Prop} {k : Int} (h0 : 1 ≤ k) (h1 : k ≤ 11) (p1 : P 1) (p2 : P 2) (p3 : P 3) (p4 : P 4) (p5 : P 5) (p6 : P 6) (p7 : P 7) (p8 : P 8) (p9 : P 9) (p10 : P 10) (p11 : P 11) : P k :=
  el_s 1 rfl h0 p1 fun h => el_s 2 rfl h p2 fun h => el_s 3 rfl h p3 fun h => el_s 4 rfl h p4 fun h => el_s 5 rfl h p5 fun h => el_s 6 rfl h p6 fun h => el_s 7 rfl h p7 fun h => el_s 8 rfl h p8 fun h => el_s 9 rfl h p9 fun h => el_s 10 rfl h p10 fun h => Int.le_antisymm h1 h ▸ p11
theorem c_cut_to {n : Nat} {k x : Int} {Q : V → AH → Prop} {H : AH} (h0 : 1 ≤ k) (h1 : k ≤ 11) (h : Q (.int (keepI k x)) H) : wp (callF (n + 3) k_cut_to [.int k, .int x]) Q H := by
  have r8 : ∀ y, y = x % 256 → Q (.int y) H → Q (.int (Builtin.bitAnd x 255)) H := fun y e h => by rw [bitAnd_m8, ← e]; exact h
  have r16 : ∀ y, y = x % 65536 → Q (.int y) H → Q (.int (Builtin.bitAnd x 65535)) H := fun y e h => by rw [bitAnd_m16, ← e]; exact h
  revert h
  refine num_el h0 h1 (r8 _ rfl) (r16 _ rfl) (fun h => ?_) (r8 _ rfl) (fun h => ?_) (r16 _ rfl) (fun h => ?_) (fun h => ?_) (fun h => ?_) (fun h => ?_) (fun h => ?_)
  · exact c_wrap8 (n := n + 1) (Q := Q) h
  · exact c_wrap16 (n := n + 1) (Q := Q) h
  · exact c_wrap32 (n := n) (Q := Q) h
  · exact c_wrap32 (n := n) (Q := Q) h
  · exact c_wrap64 (n := n) (Q := Q) h
  · exact c_wrap64 (n := n) (Q := Q) h
  · exact c_wrap32 (n := n) (Q := Q) h
theorem c_law_tag {n : Nat} {k : Int} {Q : V → AH → Prop} {H : AH} (h0 : 1 ≤ k) (h1 : k ≤ 11) (h : Q (.int (tagI k)) H) : wp (callF (n + 1) k_law_tag [.int k]) Q H := by
  revert h
  exact num_el h0 h1 id id id id id id id id id id id
end Mine
end
section
set_option maxRecDepth 100000
namespace Mine
open PySem PySem.W PyProof.Rows

noncomputable def prow (i : Int) : V := .tup [.int 1, .int i]
/-- the rows of the world's kinds -/
noncomputable def rowsL : List V := [prow 0, prow 1, prow 2, prow 3, prow 4, prow 5, prow 6, prow 7, prow 8, prow 9, prow 10, prow 11, prow 12, prow 13, prow 14, prow 15,
  .tup [.int 3, .int 64, .tup []], .tup [.int 3, .int 65, .tup []], .tup [.int 3, .int 66, .tup []], .tup [.int 2, .int 67, .tup []], .tup [.int 4, .int 16], .tup [.int 4, .int 7], .tup [.int 8, .int 16], .tup [.int 5, .int 7],
  .tup [.int 9, .int 16], .tup [.int 10, .int 19, .int 1, .tup []], .tup [.int 6, .int 0]]
noncomputable def shapesL : List (V × V) := [(.int 16, .tup [.int 4, .int 12, .int 5]), (.int 17, .tup [.int 9, .int 16]), (.int 18, .tup [.int 17, .int 3, .int 16, .int 11])]
/-- the cells of the kinds -/
structure KT (H : AH) : Prop where
  kt : H[0]? = some (.inst 12 [(10, .ref 1), (8, .ref 2), (7, .ref 3), (6, .ref 4)])
  rows : H[1]? = some (.lst rowsL)
  shapes : H[5]? = some (.dct shapesL)
theorem KT.ext {H H' : AH} (k : KT H) (e : Ext H H') : KT H' := ⟨e.at k.kt, e.at k.rows, e.at k.shapes⟩

section
variable {Q : V → AH → Prop} {QN : Nat → AH → Prop} {H : AH}
theorem wp_cls {a c m : Nat} {fs : List (Nat × V)} (h : H[a]? = some (.inst c fs)) (hm : (look fs m).isSome = false) : wp (clsV (.ref a) m) QN H ↔ QN c H := by
  show atI H[a]? _ ↔ _
  rw [h]; exact Iff.of_eq (bQ_is (by rw [hm]; rfl))
end
theorem c_row {n : Nat} {k : Int} {v : V} {Q : V → AH → Prop} {H : AH} (K : KT H) (h0 : 0 ≤ k) (h1 : k < 27) (hv : rowsL[k.toNat]? = some v) (h : Q v H) : wp (callF (n + 1) k_KindTable_row [.ref 0, .int k]) Q H := by
  rw [wp_call (fd := fd_KindTable_row) rfl rfl]
  have e1 : ¬ k < 0 := by omega
  have e2 : ¬ (k ≥ (27 : Int)) := by omega
  have hl : rowsL.length = 27 := rfl
  simp [fd_KindTable_row, wp_attr K.kt (f := 10) (v := .ref 1) (by rfl) (by rfl), wp_len_lst K.rows (lineOk_of (by decide)), hl, e1, e2, wp_sub_lst K.rows, getAt_in h0 (by omega), hv, h]

/-- the tag of a kind -/
noncomputable def tagK (k : Int) : Int :=
  if 1 ≤ k ∧ k ≤ 8 then 1 else if k = 9 ∨ k = 10 then 2 else if k = 11 then 3 else if k = 12 ∨ k = 13 ∨ k = 14 then 4 else if k = 16 ∨ k = 17 ∨ k = 18 then 5
  else if k = 19 ∨ k = 20 ∨ k = 21 ∨ k = 22 then 4 else if k = 23 ∨ k = 24 then 6 else if k = 25 then 7 else -1
@[elab_as_elim] theorem all_el {P : Int → Prop} {k : Int} (h0 : 0 ≤ k) (h1 : k ≤ 26) (p0 : P 0) (p1 : P 1) (p2 : P 2) (p3 : P 3) (p4 : P 4) (p5 : P 5) (p6 : P 6) (p7 : P 7) (p8 : P 8) (p9 : P 9) (p10 : P 10) (p11 : P 11) (p12 : P 12) (p13 : P 13) (p14 : P 14) (p15 : P 15) (p16 : P 16) (p17 : P 17) (p18 : P 18) (p19 : P 19) (p20 : P 20) (p21 : P 21) (p22 : P 22) (p23 : P 23) (p24 : P 24) (p25 : P 25) (p26 : P 26) : P k :=
  el_s 0 rfl h0 p0 fun h => el_s 1 rfl h p1 fun h => el_s 2 rfl h p2 fun h => el_s 3 rfl h p3 fun h => el_s 4 rfl h p4 fun h => el_s 5 rfl h p5 fun h => el_s 6 rfl h p6 fun h => el_s 7 rfl h p7 fun h => el_s 8 rfl h p8 fun h => el_s 9 rfl h p9 fun h => el_s 10 rfl h p10 fun h => el_s 11 rfl h p11 fun h => el_s 12 rfl h p12 fun h => el_s 13 rfl h p13 fun h => el_s 14 rfl h p14 fun h => el_s 15 rfl h p15 fun h => el_s 16 rfl h p16 fun h => el_s 17 rfl h p17 fun h => el_s 18 rfl h p18 fun h => el_s 19 rfl h p19 fun h => el_s 20 rfl h p20 fun h => el_s 21 rfl h p21 fun h => el_s 22 rfl h p22 fun h => el_s 23 rfl h p23 fun h => el_s 24 rfl h p24 fun h => el_s 25 rfl h p25 fun h => Int.le_antisymm h1 h ▸ p26
theorem c_tag_of {n : Nat} {k : Int} {Q : V → AH → Prop} {H : AH} (K : KT H) (h0 : 0 ≤ k) (h1 : k ≤ 26) (h : Q (.int (tagK k)) H) : wp (callF (n + 2) k_tag_of [.ref 0, .int k]) Q H := by
  have row : ∀ {k : Int} {v : V}, 0 ≤ k → k < 27 → rowsL[k.toNat]? = some v → wSub v (.int 0) (fun v H' => wp (callF (n + 1) 88 [v]) Q H') H →
      wp (clsV (.ref 0) 9) (fun c H => oQ (look GL.meth c) (fun ms H => oQ (look ms 9) (fun f H => wp (callF (n + 1) f [.ref 0, .int k]) (fun v H => wSub v (.int 0) (fun v H' => wp (callF (n + 1) 88 [v]) Q H') H) H) H) H) H := fun h0 h1 hr ht =>
    (wp_cls K.kt (m := 9) rfl).mpr (c_row K h0 h1 hr ht)
  revert h
  exact all_el h0 h1 (fun h => row (k := 0) (by decide) (by decide) rfl h) id id id id id id id id id id id id id id (fun h => row (k := 15) (by decide) (by decide) rfl h) (fun h => row (k := 16) (by decide) (by decide) rfl h) (fun h => row (k := 17) (by decide) (by decide) rfl h) (fun h => row (k := 18) (by decide) (by decide) rfl h) (fun h => row (k := 19) (by decide) (by decide) rfl h) (fun h => row (k := 20) (by decide) (by decide) rfl h) (fun h => row (k := 21) (by decide) (by decide) rfl h) (fun h => row (k := 22) (by decide) (by decide) rfl h) (fun h => row (k := 23) (by decide) (by decide) rfl h) (fun h => row (k := 24) (by decide) (by decide) rfl h) (fun h => row (k := 25) (by decide) (by decide) rfl h) (fun h => row (k := 26) (by decide) (by decide) rfl h)
end Mine
end
section
set_option maxRecDepth 100000
namespace Mine
open PySem PySem.W PyProof.Rows
noncomputable def rng2 (a b : Int) : V := .tup [.int a, .int b]
noncomputable def rangesL : List (V × V) := [(.int 1, rng2 0 256), (.int 2, rng2 0 65536), (.int 3, rng2 (-128) 256), (.int 4, rng2 0 256), (.int 5, rng2 (-32768) 65536), (.int 6, rng2 0 65536), (.int 7, rng2 (-2147483648) 4294967296), (.int 8, rng2 (-2147483648) 4294967296),
  (.int 9, rng2 (-9223372036854775808) 18446744073709551616), (.int 10, rng2 (-9223372036854775808) 18446744073709551616), (.int 11, rng2 (-2147483648) 4294967296)]
theorem c_RANGES {n : Nat} {Q : V → AH → Prop} {H : AH} (h : Q (.ref H.length) (H ++ [.dct rangesL])) : wp (callF (n + 1) k_law_RANGES []) Q H := h
/-- one number -/
noncomputable def numR {α : Type} (r : List V) (f : Int → α) (d : α) : α := match r with
  | [] => d
  | x :: r => (match r with
    | [] => (match x with
      | .int i => f i
      | _ => d)
    | _ => d)
/-- the value that a slot of the kind keeps -/
noncomputable def keepV (k : Int) (v : V) : V := tagOf v (fun t r => if 1 ≤ k ∧ k ≤ 11 ∧ t ≤ 3 then numR r (fun x => .tup [.int (tagI k), .int (keepI k x)]) v else v) v
theorem keepV_num {k t x : Int} (h : 1 ≤ k ∧ k ≤ 11 ∧ t ≤ 3) : keepV k (.tup [.int t, .int x]) = .tup [.int (tagI k), .int (keepI k x)] := if_pos h
theorem keepV_no {k t : Int} {r : List V} (h : ¬ (1 ≤ k ∧ k ≤ 11 ∧ t ≤ 3)) : keepV k (.tup (.int t :: r)) = .tup (.int t :: r) := if_neg h
theorem in_dct {H : AH} {a : Nat} {l : List (V × V)} {k : Int} {QB : Bool → AH → Prop} (h : H[a]? = some (.dct l)) (hk : keyOk l (.int k) = true) : wCmp .in_ (.int k) (.ref a) QB H ↔ QB (dfind l (.int k)).isSome H := by
  show atD H[a]? _ ↔ _
  rw [h]; exact Iff.of_eq (bQ_is hk)
theorem notin_dct {H : AH} {a : Nat} {l : List (V × V)} {k : Int} {QB : Bool → AH → Prop} (h : H[a]? = some (.dct l)) (hk : keyOk l (.int k) = true) : wCmp .notin (.int k) (.ref a) QB H ↔ QB (!(dfind l (.int k)).isSome) H := by
  show atD H[a]? _ ↔ _
  rw [h]; exact Iff.of_eq (bQ_is hk)
theorem sub_dct {H : AH} {a : Nat} {l : List (V × V)} {k : Int} {v : V} {Q : V → AH → Prop} (h : H[a]? = some (.dct l)) (hk : keyOk l (.int k) = true) (hv : dfind l (.int k) = some v) : wSub (.ref a) (.int k) Q H ↔ Q v H := by
  show subC H[a]? _ Q H ↔ _
  rw [h]
  show bQ (keyOk l (.int k) && true) (oQ (dfind l (.int k)) Q H) ↔ _
  rw [hk, hv]; rfl
theorem ranges_key (k : Int) : keyOk rangesL (.int k) = true := rfl
theorem dfind_ne {l : List (V × V)} {k j : Int} {v : V} (h : j ≠ k) : dfind ((.int j, v) :: l) (.int k) = dfind l (.int k) := by
  show (match decide (j = k) with | true => _ | false => _) = _
  rw [decide_eq_false h]
theorem dfind_out {k : Int} : ∀ {l : List (V × V)}, (∀ p ∈ l, ∃ j, p.1 = .int j ∧ j ≠ k) → dfind l (.int k) = none
  | [], _ => rfl
  | (a, v) :: l, h => by
    obtain ⟨j, e, hj⟩ := h _ List.mem_cons_self
    cases e
    exact (dfind_ne hj).trans (dfind_out fun p hp => h p (List.mem_cons_of_mem _ hp))
theorem ranges_none {k : Int} (h : ¬ (1 ≤ k ∧ k ≤ 11)) : dfind rangesL (.int k) = none := by
  refine dfind_out fun p hp => ?_
  have e : (match p.1 with | .int j => decide (1 ≤ j ∧ j ≤ 11) | _ => false) = true := List.all_eq_true.mp (show (rangesL.all fun p => match p.1 with | .int j => decide (1 ≤ j ∧ j ≤ 11) | _ => false) = true from rfl) p hp
  obtain ⟨a, b⟩ := p
  cases a with
  | int j => exact ⟨j, rfl, fun z => h (z ▸ of_decide_eq_true e)⟩
  | _ => exact nomatch e
/-- the lowest, and how many, of a kind's numbers -/
noncomputable def lowI (k : Int) : Int := if k = 3 then -128 else if k = 5 then -32768 else if k = 9 ∨ k = 10 then -9223372036854775808 else if k = 7 ∨ k = 8 ∨ k = 11 then -2147483648 else 0
noncomputable def manyI (k : Int) : Int := if k = 1 ∨ k = 3 ∨ k = 4 then 256 else if k = 2 ∨ k = 5 ∨ k = 6 then 65536 else if k = 9 ∨ k = 10 then 18446744073709551616 else 4294967296
theorem ranges_at {k : Int} (h0 : 1 ≤ k) (h1 : k ≤ 11) : dfind rangesL (.int k) = some (.tup [.int (lowI k), .int (manyI k)]) :=
  num_el h0 h1 rfl rfl rfl rfl rfl rfl rfl rfl rfl rfl rfl
theorem many_pos {k : Int} (h0 : 1 ≤ k) (h1 : k ≤ 11) : 0 < manyI k := num_el h0 h1 (by decide) (by decide) (by decide) (by decide) (by decide) (by decide) (by decide) (by decide) (by decide) (by decide) (by decide)
theorem keep_ranges {k x : Int} (h0 : 1 ≤ k) (h1 : k ≤ 11) : (x - lowI k) % manyI k + lowI k = keepI k x := by
  have z : ∀ m, (x - 0) % m + 0 = x % m := fun m => by rw [Int.sub_zero, Int.add_zero]
  exact num_el h0 h1 (z 256) (z 65536) rfl (z 256) rfl (z 65536) rfl rfl rfl rfl rfl
theorem c_keeps {n : Nat} {k : Int} {v : V} {Q : V → AH → Prop} {H : AH} (hv : (∃ t x, v = .tup [.int t, .int x]) ∨ ∃ t r, v = .tup (.int t :: r) ∧ 3 < t) (h : ∀ H', Ext H H' → Q (keepV k v) H') : wp (callF (n + 2) k_law_keeps [.int k, v]) Q H := by
  rw [wp_call (fd := fd_law_keeps) rfl rfl]
  simp [fd_law_keeps]
  refine c_RANGES ((notin_dct (end_at _ _) (ranges_key k)).mpr ?_)
  have no : ∀ {t r}, v = .tup (.int t :: r) → ¬ (1 ≤ k ∧ k ≤ 11 ∧ t ≤ 3) → Q v (H ++ [.dct rangesL]) := fun e hn => by
    have := h _ (.push H (.dct rangesL))
    rw [e, keepV_no hn] at this
    rw [e]; exact this
  by_cases hk : 1 ≤ k ∧ k ≤ 11
  · rw [ranges_at hk.1 hk.2]
    rcases hv with ⟨t, x, rfl⟩ | ⟨t, r, rfl, ht⟩
    · by_cases h3 : t ≤ 3
      · have h3' : ¬ t > 3 := Int.not_lt.mpr h3
        simp [h3']
        refine c_RANGES ((sub_dct (end_at _ _) (ranges_key k) (ranges_at hk.1 hk.2)).mpr ?_)
        simp
        refine c_law_tag hk.1 hk.2 ?_
        simp [wp_mod (Int.ne_of_gt (many_pos hk.1 hk.2)), fmod_pos (Int.le_of_lt (many_pos hk.1 hk.2))]
        rw [keep_ranges hk.1 hk.2]
        have := h (H ++ [.dct rangesL] ++ [.dct rangesL]) (.trans (.push _ _) (.push _ _))
        rw [keepV_num ⟨hk.1, hk.2, h3⟩, List.append_assoc] at this
        exact this
      · simp [show t > 3 from Int.not_le.mp h3]
        exact no rfl fun z => h3 z.2.2
    · simp [ht]
      exact no rfl fun z => Int.not_le.mpr ht z.2.2
  · rw [ranges_none hk]
    simp
    rcases hv with ⟨t, x, e⟩ | ⟨t, r, e, ht⟩
    · exact no e fun z => hk ⟨z.1, z.2.1⟩
    · exact no e fun z => hk ⟨z.1, z.2.1⟩
end Mine
end
section
set_option maxRecDepth 100000
namespace Mine
open PySem PySem.W PyProof.Rows
/-! one `if`, `and`, `or` at a time -/
section
variable {C : Nat → List V → M V} {ρ : Loc} {H : AH}
theorem u_if {c : E} {t e ss : Ss} {Q : Flow → AH → Prop} {b : Bool} (hc : ∀ K : V → AH → Prop, K (.bool b) H → wE C c ρ K H)
    (h1 : b = true → wSs C t ρ (kSeq C ss Q) H) (h0 : b = false → wSs C e ρ (kSeq C ss Q) H) : wSs C (.cons (.ite c t e) ss) ρ Q H := by
  refine hc (kIte1 C t e ρ (kSeq C ss Q)) ?_
  cases b
  · exact h0 rfl
  · exact h1 rfl
theorem u_and {c : E} {es : Es} {Q : V → AH → Prop} {a b : Bool} (hc : ∀ K : V → AH → Prop, K (.bool a) H → wE C c ρ K H)
    (hd : a = true → ∀ K : V → AH → Prop, K (.bool b) H → wAnd C es ρ K H) (h : Q (.bool (a && b)) H) : wAnd C (.cons c es) ρ Q H := by
  refine hc (kAnd C es ρ Q) ?_
  cases a
  · exact h
  · exact hd rfl Q h
theorem u_or {c : E} {es : Es} {Q : V → AH → Prop} {a b : Bool} (hc : ∀ K : V → AH → Prop, K (.bool a) H → wE C c ρ K H)
    (hd : a = false → ∀ K : V → AH → Prop, K (.bool b) H → wOr C es ρ K H) (h : Q (.bool (a || b)) H) : wOr C (.cons c es) ρ Q H := by
  refine hc (kOr C es ρ Q) ?_
  cases a
  · exact hd rfl Q h
  · exact h
theorem u_and1 {c : E} {Q : V → AH → Prop} {a : Bool} (hc : ∀ K : V → AH → Prop, K (.bool a) H → wE C c ρ K H) (h : Q (.bool a) H) : wAnd C (.cons c .nil) ρ Q H :=
  u_and (b := true) hc (fun _ K k => k) (by cases a <;> exact h)
theorem u_or1 {c : E} {Q : V → AH → Prop} {a : Bool} (hc : ∀ K : V → AH → Prop, K (.bool a) H → wE C c ρ K H) (h : Q (.bool a) H) : wOr C (.cons c .nil) ρ Q H :=
  u_or (b := false) hc (fun _ K k => k) (by cases a <;> exact h)
end
/-- one of the tags of numbers -/
noncomputable def numT (t : Int) : Bool := decide (t = 1) || (decide (t = 2) || decide (t = 3))
theorem numT_iff {t : Int} : numT t = true ↔ t = 1 ∨ t = 2 ∨ t = 3 := by
  unfold numT
  rw [Bool.or_eq_true, Bool.or_eq_true, decide_eq_true_iff, decide_eq_true_iff, decide_eq_true_iff]
theorem tagK_num {k : Int} (h0 : 1 ≤ k) (h1 : k ≤ 11) : tagK k = tagI k ∧ numT (tagK k) = true := num_el h0 h1 ⟨rfl, rfl⟩ ⟨rfl, rfl⟩ ⟨rfl, rfl⟩ ⟨rfl, rfl⟩ ⟨rfl, rfl⟩ ⟨rfl, rfl⟩ ⟨rfl, rfl⟩ ⟨rfl, rfl⟩ ⟨rfl, rfl⟩ ⟨rfl, rfl⟩ ⟨rfl, rfl⟩
theorem tagK_not {k : Int} (h0 : 0 ≤ k) (h1 : k ≤ 26) (h : ¬ (1 ≤ k ∧ k ≤ 11)) : numT (tagK k) = false :=
  have no : ∀ {j : Int} {P : Prop}, (1 ≤ j ∧ j ≤ 11) → ¬ (1 ≤ j ∧ j ≤ 11) → P := fun a b => (b a).elim
  have z : ∀ {j : Int}, numT (tagK j) = false → ¬ (1 ≤ j ∧ j ≤ 11) → numT (tagK j) = false := fun a _ => a
  all_el (P := fun k => ¬ (1 ≤ k ∧ k ≤ 11) → numT (tagK k) = false) h0 h1 (z rfl) (no (by decide)) (no (by decide)) (no (by decide)) (no (by decide)) (no (by decide)) (no (by decide)) (no (by decide)) (no (by decide)) (no (by decide)) (no (by decide)) (no (by decide)) (z rfl) (z rfl) (z rfl) (z rfl) (z rfl) (z rfl) (z rfl) (z rfl) (z rfl) (z rfl) (z rfl) (z rfl) (z rfl) (z rfl) (z rfl) h
theorem c_store_as {n : Nat} {k : Int} {v : V} {Q : V → AH → Prop} {H : AH} (K : KT H) (h0 : 0 ≤ k) (h1 : k ≤ 26) (hv : (∃ t x, v = .tup [.int t, .int x] ∧ 1 ≤ t) ∨ ∃ t r, v = .tup (.int t :: r) ∧ 3 < t) (h : Q (keepV k v) H) : wp (callF (n + 4) k_store_as [.ref 0, .int k, v]) Q H := by
  obtain ⟨t, r, rfl, hw⟩ : ∃ t r, v = .tup (.int t :: r) ∧ ((∃ x, r = [.int x] ∧ 1 ≤ t) ∨ 3 < t) := by
    rcases hv with ⟨t, x, e, ht⟩ | ⟨t, r, e, ht⟩
    · exact ⟨t, _, e, .inl ⟨x, rfl, ht⟩⟩
    · exact ⟨t, r, e, .inr ht⟩
  rw [wp_call (fd := fd_store_as) rfl rfl]
  refine u_if (b := numT t) (fun K h => u_or (a := decide (t = 1)) (fun K h => h) (fun _ K h => u_or (a := decide (t = 2)) (fun K h => h) (fun _ K h => u_or1 (a := decide (t = 3)) (fun K h => h) h) h) h) (fun e => ?_) (fun e => ?_)
  · have h3 : t ≤ 3 := by rcases numT_iff.mp e with rfl | rfl | rfl <;> decide
    obtain ⟨x, rfl, _⟩ | hw := hw
    · refine c_tag_of (n := n + 1) K h0 h1 ?_
      refine u_if (b := numT (tagK k)) (fun K h => u_or (a := decide (tagK k = 1)) (fun K h => h) (fun _ K h => u_or (a := decide (tagK k = 2)) (fun K h => h) (fun _ K h => u_or1 (a := decide (tagK k = 3)) (fun K h => h) h) h) h) (fun e => ?_) (fun e => ?_)
      all_goals by_cases hk : 1 ≤ k ∧ k ≤ 11
      · rw [keepV_num ⟨hk.1, hk.2, h3⟩, ← (tagK_num hk.1 hk.2).1] at h
        exact c_cut_to (n := n) hk.1 hk.2 h
      · exact nomatch (tagK_not h0 h1 hk).symm.trans e
      · exact nomatch (tagK_num hk.1 hk.2).2.symm.trans e
      · rw [keepV_no (fun z => hk ⟨z.1, z.2.1⟩)] at h; exact h
    · exact absurd h3 (Int.not_le.mpr hw)
  · rw [keepV_no (t := t)] at h
    · exact h
    · refine fun z => ?_
      obtain ⟨x, _, h1⟩ | hw := hw
      · have := mt numT_iff.mpr (Bool.eq_false_iff.mp e)
        have := z.2.2; omega
      · exact absurd z.2.2 (Int.not_le.mpr hw)
end Mine
end
section
set_option maxRecDepth 100000
namespace Mine
open PySem PySem.W PyProof.Rows
noncomputable def headI (v : V) : Int := tagOf v (fun t _ => t) 0
/-- the first, if it is a number -/
noncomputable def hdI {α : Type} (r : List V) (f : Int → α) (d : α) : α := match r with
  | [] => d
  | x :: _ => (match x with
    | .int i => f i
    | _ => d)
noncomputable def secI (v : V) : Int := tagOf v (fun _ r => hdI r id 0) 0
noncomputable def nullB (v : V) : Bool := tagOf v (fun t r => numR r (fun a => decide (t = 4) && decide (a = 0)) false) false
theorem nullB_iff {v : V} : nullB v = true ↔ v = .tup [.int 4, .int 0] := by
  refine ⟨fun h => ?_, fun h => h ▸ rfl⟩
  obtain ⟨t, r, rfl, h⟩ : ∃ t r, v = .tup (.int t :: r) ∧ numR r (fun a => decide (t = 4) && decide (a = 0)) false = true := by
    cases v with
    | tup l => cases l with
      | nil => cases h
      | cons x r => cases x with
        | int t => exact ⟨t, r, rfl, h⟩
        | _ => exact nomatch h
    | _ => exact nomatch h
  cases r with
  | nil => cases h
  | cons x r => cases r with
    | nil => cases x with
      | int a =>
        have ⟨h1, h2⟩ := both h
        rw [of_decide_eq_true h1, of_decide_eq_true h2]
      | _ => exact nomatch h
    | cons _ _ => cases h
/-- what fits answers, by the tag of the kind -/
noncomputable def fitsB (tag k : Int) (v : V) : Bool :=
  bif decide (tag = 5) then decide (headI v = 5) && decide (secI v = k) else bif decide (tag = 3) then decide (headI v = 3) || (decide (headI v = 1) || decide (headI v = 7))
  else bif decide (tag = 1) && decide (headI v = 3) then true else bif decide (tag = 6) && nullB v then true else !decide (tag = -1) && decide (headI v = tag)
theorem c_fits {n : Nat} {k t : Int} {r : List V} {d : Nat} {Q : V → AH → Prop} {H : AH} (K : KT H) (h0 : 0 ≤ k) (h1 : k ≤ 26) (h5 : t = 5 → ∃ k' r', r = .int k' :: r') (hit : it d (.tup (.int t :: r)) = true) (hd : d ≤ 60)
    (h : Q (.bool (fitsB (tagK k) k (.tup (.int t :: r)))) H) : wp (callF (n + 3) k_fits [.ref 0, .tup (.int t :: r), .int k]) Q H := by
  rw [wp_call (fd := fd_fits) rfl rfl]
  refine c_tag_of (n := n) K h0 h1 ?_
  generalize tagK k = T at h
  unfold fitsB at h
  refine u_if (b := decide (T = 5)) (fun K h => h) (fun e => ?_) (fun e => ?_) <;> rw [e] at h
  · refine u_and (a := decide (t = 5)) (b := decide (secI (.tup (.int t :: r)) = k)) (fun K h => h) (fun e5 => ?_) h
    obtain ⟨k', r', rfl⟩ := h5 (of_decide_eq_true e5)
    exact fun K h => u_and1 (fun K h => h) h
  refine u_if (b := decide (T = 3)) (fun K h => h) (fun e => ?_) (fun e => ?_) <;> rw [e] at h
  · exact u_or (a := decide (t = 3)) (fun K h => h) (fun _ K h => u_or (a := decide (t = 1)) (fun K h => h) (fun _ K h => u_or1 (a := decide (t = 7)) (fun K h => h) h) h) h
  refine u_if (b := decide (T = 1) && decide (t = 3)) (fun K h => u_and (a := decide (T = 1)) (fun K h => h) (fun _ K h => u_and1 (fun K h => h) h) h) (fun e => ?_) (fun e => ?_) <;> replace h := (congrArg (fun b => Q (.bool (cond b _ _)) H) e).mp h
  · exact h
  have hn : ∀ K : V → AH → Prop, K (.bool (nullB (.tup (.int t :: r)))) H → wCmp .eq (.tup (.int t :: r)) (.tup [.int 4, .int 0]) (kCmpR K) H := fun K h =>
    wp_eq_it hit (show it 1 (.tup [.int 4, .int 0]) = true by rfl) hd (by decide) (fun e => by rw [nullB_iff.mpr e] at h; exact h)
      (fun e => by rw [show nullB (.tup (.int t :: r)) = false from Bool.eq_false_iff.mpr fun q => e (nullB_iff.mp q)] at h; exact h)
  refine u_if (b := decide (T = 6) && nullB (.tup (.int t :: r))) (fun K h => u_and (a := decide (T = 6)) (fun K h => h) (fun _ K h => u_and1 hn h) h) (fun e => ?_) (fun e => ?_) <;> replace h := (congrArg (fun b => Q (.bool (cond b _ _)) H) e).mp h
  · exact h
  · exact u_and (a := !decide (T = -1)) (fun K h => h) (fun _ K h => u_and1 (fun K h => h) h) h
end Mine
end
section
set_option maxRecDepth 100000
namespace Mine
open PySem PySem.W PyProof.Rows
theorem shapes_key (k : Int) : keyOk shapesL (.int k) = true := rfl
/-- the kinds that have cells within -/
noncomputable def isShape (k : Int) : Bool := decide (k = 16) || (decide (k = 17) || decide (k = 18))
theorem shape_iff {k : Int} : isShape k = true ↔ k = 16 ∨ k = 17 ∨ k = 18 := by
  unfold isShape
  rw [Bool.or_eq_true, Bool.or_eq_true, decide_eq_true_iff, decide_eq_true_iff, decide_eq_true_iff]
theorem shape_cases {k : Int} (h : isShape k = true) : k = 16 ∨ k = 17 ∨ k = 18 := shape_iff.mp h
theorem shape_no {k : Int} (h : isShape k = false) : ¬ (k = 16 ∨ k = 17 ∨ k = 18) := fun z => nomatch h.symm.trans (shape_iff.mpr z)
/-- a shape: one of three -/
@[elab_as_elim] theorem shape_el {P : Int → Prop} {k : Int} (h : isShape k = true) (h1 : P 16) (h2 : P 17) (h3 : P 18) : P k := by
  rcases shape_cases h with rfl | rfl | rfl
  · exact h1
  · exact h2
  · exact h3
theorem shapes_at (k : Int) : (dfind shapesL (.int k)).isSome = isShape k := by
  cases e : isShape k with
  | true => exact shape_el e rfl rfl rfl
  | false =>
    have h := shape_no e
    rw [show dfind shapesL (.int k) = none from (dfind_ne fun z => h (.inl z.symm)).trans ((dfind_ne fun z => h (.inr (.inl z.symm))).trans (dfind_ne fun z => h (.inr (.inr z.symm))))]; rfl
theorem in_shapes {H : AH} {k : Int} {QB : Bool → AH → Prop} (K : KT H) : wCmp .in_ (.int k) (.ref 5) QB H ↔ QB (isShape k) H := by rw [in_dct K.shapes (shapes_key k), shapes_at]
theorem notin_shapes {H : AH} {k : Int} {QB : Bool → AH → Prop} (K : KT H) : wCmp .notin (.int k) (.ref 5) QB H ↔ QB (!isShape k) H := by rw [notin_dct K.shapes (shapes_key k), shapes_at]
/-- the kinds of the law's cells -/
noncomputable def cellKind (k : Int) : Prop := (1 ≤ k ∧ k ≤ 12) ∨ k = 16 ∨ k = 17 ∨ k = 18
theorem cellKind.ge {k : Int} (h : cellKind k) : 0 ≤ k := by
  rcases h with h | rfl | rfl | rfl
  · exact Int.le_trans (by decide) h.1
  all_goals decide
theorem cellKind.le {k : Int} (h : cellKind k) : k ≤ 26 := by
  rcases h with h | rfl | rfl | rfl
  · exact Int.le_trans h.2 (by decide)
  all_goals decide
/-- numbers, references, shapes -/
theorem cellKind.el {k : Int} (h : cellKind k) : (1 ≤ k ∧ k ≤ 11) ∨ k = 12 ∨ isShape k = true := by
  rcases h with h | h
  · by_cases e : k = 12
    · exact .inr (.inl e)
    · exact .inl ⟨h.1, Int.le_of_lt_add_one (Int.lt_iff_le_and_ne.mpr ⟨h.2, e⟩)⟩
  · exact .inr (.inr (shape_iff.mpr h))
theorem wp_in_tup {k : Int} {l : List V} {js : List Int} {H : AH} {QB : Bool → AH → Prop} (h : allInts l = some js) : wCmp .in_ (.int k) (.tup l) QB H ↔ QB (js.any fun j => decide (j = k)) H := by
  show (match allInts l with
    | some js => QB (js.any fun j => decide (j = k)) H
    | none => False) ↔ _
  rw [h]
/-- what takes answers -/
noncomputable def takesB (k t : Int) (v : V) : Bool :=
  bif isShape k then decide (t = 5) && decide (secI v = k) else bif decide (k = 12) then decide (t = 4) else bif decide (k = 9) || decide (k = 10) then decide (t = 2)
  else bif decide (k = 11) then ([1, 3, 7] : List Int).any fun j => decide (j = t) else ([1, 3] : List Int).any fun j => decide (j = t)
theorem takes_eq {k t : Int} {r : List V} (hk : cellKind k) : takesB k t (.tup (.int t :: r)) = fitsB (tagK k) k (.tup (.int t :: r)) := by
  have c : ∀ j : Int, decide (j = t) = decide (t = j) := fun j => decide_eq_decide.mpr eq_comm
  have p1 : takesB 1 t (.tup (.int t :: r)) = fitsB 1 0 (.tup (.int t :: r)) := by
    show (decide (1 = t) || (decide (3 = t) || false)) = (bif decide (t = 3) then true else decide (t = 1))
    rw [c 1, c 3]; cases decide (t = 3) <;> cases decide (t = 1) <;> rfl
  rcases hk.el with hk | rfl | hk
  · refine num_el (P := fun k => takesB k t (.tup (.int t :: r)) = fitsB (tagK k) k (.tup (.int t :: r))) hk.1 hk.2 p1 p1 p1 p1 p1 p1 p1 p1 rfl rfl ?_
    show (decide (1 = t) || (decide (3 = t) || (decide (7 = t) || false))) = (decide (t = 3) || (decide (t = 1) || decide (t = 7)))
    rw [c 1, c 3, c 7]; cases decide (t = 3) <;> cases decide (t = 1) <;> cases decide (t = 7) <;> rfl
  · rfl
  · exact shape_el (P := fun k => takesB k t (.tup (.int t :: r)) = fitsB (tagK k) k (.tup (.int t :: r))) hk rfl rfl rfl
theorem c_takes {n : Nat} {k t : Int} {r : List V} {Q : V → AH → Prop} {H : AH} (K : KT H) (hk : cellKind k) (h5 : t = 5 → ∃ k' r', r = .int k' :: r')
    (h : Q (.bool (fitsB (tagK k) k (.tup (.int t :: r)))) H) : wp (callF (n + 1) k_law_takes [.int k, .tup (.int t :: r), .ref 5]) Q H := by
  rw [wp_call (fd := fd_law_takes) rfl rfl]
  rw [← takes_eq hk] at h
  unfold takesB at h
  refine u_if (b := isShape k) (fun Q h => (in_shapes (QB := kCmpR Q) K).mpr h) (fun e => ?_) (fun e => ?_) <;> rw [e] at h
  · refine u_and (a := decide (t = 5)) (b := decide (secI (.tup (.int t :: r)) = k)) (fun K h => h) (fun e5 => ?_) h
    obtain ⟨k', r', rfl⟩ := h5 (of_decide_eq_true e5)
    exact fun K h => u_and1 (fun K h => h) h
  refine u_if (b := decide (k = 12)) (fun K h => h) (fun e => ?_) (fun e => ?_) <;> rw [e] at h
  · exact h
  refine u_if (b := decide (k = 9) || decide (k = 10)) (fun K h => u_or (a := decide (k = 9)) (fun K h => h) (fun _ K h => u_or1 (fun K h => h) h) h) (fun e => ?_) (fun e => ?_) <;> rw [e] at h
  · exact h
  refine u_if (b := decide (k = 11)) (fun K h => h) (fun e => ?_) (fun e => ?_) <;> rw [e] at h
  · exact (wp_in_tup (QB := kCmpR (kRet (kSeq (callF n) .nil (kFin Q)))) (show allInts [.int 1, .int 3, .int 7] = some [1, 3, 7] from rfl)).mpr h
  · exact (wp_in_tup (QB := kCmpR (kRet (kFin Q))) (show allInts [.int 1, .int 3] = some [1, 3] from rfl)).mpr h
end Mine
end
section
set_option maxRecDepth 100000
namespace Mine
section
variable {QL : List V → AH → Prop} {H : AH} {elt : V → M (Option V)} {n i m a : Nat} {acc xs : List V}
/-- a turn of a comprehension may hand on what I says -/
structure CompK (I : List V → AH → Prop) (acc : List V) (K : Option V → AH → Prop) : Prop where
  s : ∀ {y H}, I (acc ++ [y]) H → K (some y) H
  n : ∀ {H}, I acc H → K none H
theorem wp_comp_turn {it : It} {I : List V → AH → Prop} (hb : acc.length ≤ 1000000) (ih : ∀ {acc H}, I acc H → wp (compL elt n it acc) QL H) :
    CompK I acc (optK (fun y H => bQ (lineOk acc.length) (compL elt n it (acc ++ [y]) QL H)) (fun H => compL elt n it acc QL H)) :=
  ⟨fun h => by show bQ _ _; rw [bQ_is (lineOk_of hb)]; exact ih h, fun h => ih h⟩
theorem wp_comp_lst (I : Nat → List V → AH → Prop) (hr : ∀ i acc H, I i acc H → H[a]? = some (.lst xs)) (hb : ∀ i acc H, I i acc H → acc.length ≤ 1000000) (hn : xs.length - i < n) (h0 : I i acc H)
    (step : ∀ i v acc H K, xs[i]? = some v → I i acc H → CompK (I (i + 1)) acc K → wp (elt v) K H) (fin : ∀ i acc H, xs.length ≤ i → I i acc H → QL acc H) : wp (compL elt n (.lst a i) acc) QL H := by
  induction n generalizing i acc H with
  | zero => cases hn
  | succ n ih =>
    show atL H[a]? _
    rw [hr _ _ _ h0]
    show optP xs[i]? _ _
    cases hi : xs[i]? with
    | some v => exact step _ _ _ _ _ hi h0 (wp_comp_turn (hb _ _ _ h0) (ih (by have := (List.getElem?_eq_some_iff.mp hi).1; omega)))
    | none =>
      show bQ _ _
      rw [bQ_is (lineOk_of (hb _ _ _ h0))]; exact fin _ _ _ (List.getElem?_eq_none_iff.mp hi) h0
theorem wp_comp_rng (I : Nat → List V → AH → Prop) (hb : ∀ i acc H, I i acc H → acc.length ≤ 1000000) (hn : m - i < n) (h0 : I i acc H)
    (step : ∀ i acc H K, i < m → I i acc H → CompK (I (i + 1)) acc K → wp (elt (.int i)) K H) (fin : ∀ i acc H, m ≤ i → I i acc H → QL acc H) : wp (compL elt n (.rng i m) acc) QL H := by
  induction n generalizing i acc H with
  | zero => cases hn
  | succ n ih =>
    show ifK (Nat.blt i m) _ _
    by_cases hi : i < m
    · rw [show Nat.blt i m = true from Nat.ble_eq_true_of_le hi]
      exact step _ _ _ _ hi h0 (wp_comp_turn (hb _ _ _ h0) (ih (by omega)))
    · rw [show Nat.blt i m = false from (wp_for_rng.beq_blt hi)]
      show bQ _ _
      rw [bQ_is (lineOk_of (hb _ _ _ h0))]; exact fin _ _ _ (Nat.le_of_not_lt hi) h0
theorem wp_comp_tup (I : Nat → List V → AH → Prop) (hb : ∀ i acc H, I i acc H → acc.length ≤ 1000000) (hn : xs.length - i < n) (h0 : I i acc H)
    (step : ∀ i v acc H K, xs[i]? = some v → I i acc H → CompK (I (i + 1)) acc K → wp (elt v) K H) (fin : ∀ i acc H, xs.length ≤ i → I i acc H → QL acc H) : wp (compL elt n (.tup (xs.drop i)) acc) QL H := by
  induction n generalizing i acc H with
  | zero => cases hn
  | succ n ih =>
    cases hi : xs[i]? with
    | some v =>
      rw [show xs.drop i = v :: xs.drop (i + 1) by rw [List.drop_eq_getElem?_toList_append, hi]; rfl]
      exact step _ _ _ _ _ hi h0 (wp_comp_turn (hb _ _ _ h0) (ih (by have := (List.getElem?_eq_some_iff.mp hi).1; omega)))
    | none =>
      rw [List.drop_eq_nil_iff.mpr (List.getElem?_eq_none_iff.mp hi)]
      show bQ _ _
      rw [bQ_is (lineOk_of (hb _ _ _ h0))]; exact fin _ _ _ (List.getElem?_eq_none_iff.mp hi) h0
end

/-! kinds, trees of cells -/
noncomputable def kidsOf (k : Int) : List Int := if k = 16 then [4, 12, 5] else if k = 17 then [9, 16] else if k = 18 then [17, 3, 16, 11] else []
noncomputable def dK (k : Int) : Nat := if k = 16 then 1 else if k = 17 then 2 else if k = 18 then 3 else 0
theorem kids_none {k : Int} (h : isShape k = false) : kidsOf k = [] := by
  have h := shape_no h
  unfold kidsOf
  rw [if_neg fun z => h (.inl z), if_neg fun z => h (.inr (.inl z)), if_neg fun z => h (.inr (.inr z))]
/-- what holds of all kinds' kids -/
theorem kids_all (P : Int → List Int → Prop) (h0 : ∀ k, P k []) (h1 : P 16 [4, 12, 5]) (h2 : P 17 [9, 16]) (h3 : P 18 [17, 3, 16, 11]) (k : Int) : P k (kidsOf k) := by
  cases e : isShape k with
  | true => exact shape_el e h1 h2 h3
  | false => rw [kids_none e]; exact h0 k
theorem kid_at {k k' : Int} {i : Nat} (h : (kidsOf k)[i]? = some k') : dK k' < dK k ∧ (((1 ≤ k' ∧ k' ≤ 12) ∨ isShape k' = true)) :=
  of_decide_eq_true (List.all_eq_true.mp (kids_all (fun k l => (l.all fun k' => decide (dK k' < dK k ∧ ((1 ≤ k' ∧ k' ≤ 12) ∨ isShape k' = true))) = true) (fun _ => rfl) rfl rfl rfl k) k' (List.mem_of_getElem? h))
theorem kids_dK {k k' : Int} {i : Nat} (h : (kidsOf k)[i]? = some k') : dK k' < dK k := (kid_at h).1
theorem kids_ok {k k' : Int} {i : Nat} (h : (kidsOf k)[i]? = some k') : cellKind k' := (kid_at h).2.imp id shape_cases
theorem dK_le (k : Int) : dK k ≤ 3 := by
  unfold dK
  by_cases h1 : k = 16
  · rw [if_pos h1]; decide
  rw [if_neg h1]
  by_cases h2 : k = 17
  · rw [if_pos h2]; decide
  rw [if_neg h2]
  by_cases h3 : k = 18
  · rw [if_pos h3]; decide
  rw [if_neg h3]; decide
theorem kids_len (k : Int) : (kidsOf k).length ≤ 4 := kids_all (fun _ l => l.length ≤ 4) (fun _ => by decide) (by decide) (by decide) (by decide) k
theorem kids_pos {k : Int} (h : isShape k = true) : 0 < (kidsOf k).length := shape_el h (by decide) (by decide) (by decide)
theorem shape_sub {k : Int} (h : isShape k = true) : dfind shapesL (.int k) = some (.tup (ivs (kidsOf k))) := shape_el h rfl rfl rfl
/-- the value is one of the kind -/
inductive KV : Int → V → Prop
  | num (k n : Int) : 1 ≤ k → k ≤ 11 → KV k (.tup [.int (tagI k), .int n])
  | ftn (m : Int) : KV 11 (.tup [.int 7, .tup [.int 12, .int m, .tup []]])
  | ref (a : Int) : KV 12 (.tup [.int 4, .int a])
  | node (k : Int) (vs : List V) : isShape k = true → vs.length = (kidsOf k).length → (∀ (i : Nat) k' v, (kidsOf k)[i]? = some k' → vs[i]? = some v → KV k' v) → KV k (.tup [.int 5, .int k, .tup vs])
theorem KV.cell {k : Int} {v : V} (h : KV k v) : cellKind k := by
  cases h with
  | num k n h0 h1 => exact .inl ⟨h0, Int.le_trans h1 (by decide)⟩
  | ftn m => exact .inl (by decide)
  | ref a => exact .inl (by decide)
  | node k vs hs _ _ => exact .inr (shape_cases hs)
/-- a tree of cells: its cells lie from lo to a, a leaf's at a alone -/
inductive Tr where
  | leaf (a : Nat) (k : Int)
  | node (lo a b : Nat) (k : Int) (cs : List Tr)
noncomputable def Tr.adr : Tr → Nat
  | .leaf a _ => a
  | .node _ a _ _ _ => a
noncomputable def Tr.lo : Tr → Nat
  | .leaf a _ => a
  | .node lo _ _ _ _ => lo
noncomputable def Tr.kind : Tr → Int
  | .leaf _ k => k
  | .node _ _ _ k _ => k
noncomputable def Tr.rf (t : Tr) : V := .ref t.adr
/-- the cells of a node -/
structure NodeOk (H : AH) (lo a b : Nat) (k : Int) (cs : List Tr) (vs : List V) : Prop where
  h1 : H[a]? = some (.lst [.int k, .ref b])
  h2 : H[b]? = some (.lst (cs.map Tr.rf))
  hs : isShape k = true
  hk : cs.map Tr.kind = kidsOf k
  hl : vs.length = cs.length
  hlo : lo < b
  hba : b < a
  hr : ∀ (i : Nat) c, cs[i]? = some c → lo ≤ c.lo ∧ c.adr < b
  hd : ∀ (i j : Nat) c d, i < j → cs[i]? = some c → cs[j]? = some d → c.adr < d.lo
inductive TV (H : AH) : Tr → V → Prop
  | leaf (a : Nat) (k : Int) (v : V) : H[a]? = some (.lst [.int k, v]) → isShape k = false → KV k v → TV H (.leaf a k) v
  | node (lo a b : Nat) (k : Int) (cs : List Tr) (vs : List V) : NodeOk H lo a b k cs vs → (∀ (i : Nat) c v, cs[i]? = some c → vs[i]? = some v → TV H c v) → TV H (.node lo a b k cs) (.tup [.int 5, .int k, .tup vs])
theorem TV.lo_le {H : AH} {t : Tr} {v : V} (h : TV H t v) : t.lo ≤ t.adr := by
  cases h with
  | leaf a k v => exact Nat.le_refl _
  | node lo a b k cs vs n => exact Nat.le_of_lt (Nat.lt_trans n.hlo n.hba)
theorem TV.kv {H : AH} {t : Tr} {v : V} (h : TV H t v) : KV t.kind v := by
  induction h with
  | leaf a k v _ _ hk => exact hk
  | node lo a b k cs vs n _ ih =>
    refine .node k vs n.hs (by rw [n.hl, ← n.hk, List.length_map]) fun i k' v hk' hv => ?_
    rw [← n.hk, List.getElem?_map] at hk'
    obtain ⟨c, hc, e⟩ := Option.map_eq_some_iff.mp hk'
    exact e ▸ ih i c v hc hv
theorem TV.cell {H : AH} {t : Tr} {v : V} (h : TV H t v) : ∃ x, H[t.adr]? = some (.lst [.int t.kind, x]) := by
  cases h with
  | leaf a k v h _ _ => exact ⟨_, h⟩
  | node lo a b k cs vs n => exact ⟨_, n.h1⟩
/-- the tree stays where its cells do -/
theorem TV.frame {H H' : AH} {t : Tr} {v : V} (h : TV H t v) : (∀ a c, t.lo ≤ a → a ≤ t.adr → H[a]? = some c → H'[a]? = some c) → TV H' t v := by
  induction h with
  | leaf a k v h hs hk => exact fun f => .leaf a k v (f _ _ (Nat.le_refl _) (Nat.le_refl _) h) hs hk
  | node lo a b k cs vs n hc ih =>
    refine fun f => .node lo a b k cs vs { n with h1 := f _ _ (Nat.le_of_lt (Nat.lt_trans n.hlo n.hba)) (Nat.le_refl _) n.h1, h2 := f _ _ (Nat.le_of_lt n.hlo) (Nat.le_of_lt n.hba) n.h2 } fun i c v hci hvi => ih i c v hci hvi fun x y hx1 hx2 hx => ?_
    have hr := n.hr i c hci
    exact f x y (Nat.le_trans hr.1 hx1) (Nat.le_trans hx2 (Nat.le_of_lt (Nat.lt_trans hr.2 n.hba))) hx
theorem TV.ext {H H' : AH} {t : Tr} {v : V} (h : TV H t v) (e : Ext H H') : TV H' t v := h.frame fun a c _ _ hc => e.at hc
theorem TV.lt {H : AH} {t : Tr} {v : V} (h : TV H t v) : t.adr < H.length := by
  obtain ⟨x, e⟩ := h.cell
  exact (List.getElem?_eq_some_iff.mp e).1
/-- the tree's kids -/
noncomputable def Tr.kids : Tr → List Tr
  | .leaf _ _ => []
  | .node _ _ _ _ cs => cs
/-- the tree at a path -/
noncomputable def subT : Tr → List Int → Option Tr
  | t, [] => some t
  | t, s :: p => if s < 0 then none else t.kids[s.toNat]?.bind fun c => subT c p
theorem subT_nil (t : Tr) : subT t [] = some t := rfl
/-- the way into a tree -/
theorem subT_in {t t' : Tr} {s : Int} {p : List Int} (h : subT t (s :: p) = some t') : 0 ≤ s ∧ ∃ c, t.kids[s.toNat]? = some c ∧ subT c p = some t' := by
  by_cases h0 : s < 0
  · rw [show subT t (s :: p) = none from if_pos h0] at h; cases h
  · rw [show subT t (s :: p) = t.kids[s.toNat]?.bind fun c => subT c p from if_neg h0] at h
    exact ⟨Int.not_lt.mp h0, Option.bind_eq_some_iff.mp h⟩
/-- a tree with a way in is a node -/
theorem TV.in {H : AH} {t c : Tr} {v : V} {i : Nat} (h : TV H t v) (hc : t.kids[i]? = some c) {P : Tr → V → Prop}
    (k : ∀ (lo a b : Nat) (k : Int) (cs : List Tr) (vs : List V) (x : V), NodeOk H lo a b k cs vs → (∀ (i : Nat) c v, cs[i]? = some c → vs[i]? = some v → TV H c v) → cs[i]? = some c → vs[i]? = some x → TV H c x → P (.node lo a b k cs) (.tup [.int 5, .int k, .tup vs])) : P t v := by
  cases h with
  | leaf a k v => cases hc
  | node lo a b kk cs vs n hcs =>
    have hc : cs[i]? = some c := hc
    have hvi := List.getElem?_eq_getElem (show i < vs.length from n.hl ▸ (List.getElem?_eq_some_iff.mp hc).1)
    exact k lo a b kk cs vs _ n hcs hc hvi (hcs _ _ _ hc hvi)
theorem NodeOk.few {H : AH} {lo a b : Nat} {k : Int} {cs : List Tr} {vs : List V} (n : NodeOk H lo a b k cs vs) : cs.length ≤ 4 := by
  have := kids_len k
  rwa [← n.hk, List.length_map] at this
theorem getP_app {k : V} {vs : List V} {s : Int} {p : List Int} {x : V} (h0 : 0 ≤ s) (h : vs[s.toNat]? = some x) : getP (.tup [.int 5, k, .tup vs]) (s :: p) = getP x p := by
  rw [getP_node, if_neg (Int.not_lt.mpr h0), h]; rfl
/-- what sub_get tells -/
structure SubG (H : AH) (t t' : Tr) (v : V) (p : List Int) (v' : V) : Prop where
  g : getP v p = some v'
  tv : TV H t' v'
  l1 : t.lo ≤ t'.lo
  l2 : t'.adr ≤ t.adr
  l3 : ∀ s ∈ p, s < 1000
theorem sub_get' : ∀ (p : List Int) {H : AH} {t t' : Tr} {v : V}, TV H t v → subT t p = some t' → ∃ v', SubG H t t' v p v'
  | [], H, t, t', v, h, e => by
    cases e
    exact ⟨v, rfl, h, Nat.le_refl _, Nat.le_refl _, fun s hs => nomatch hs⟩
  | s :: p, H, t, t', v, h, e => by
    obtain ⟨h0, c, hci, e⟩ := subT_in e
    refine h.in hci (P := fun t v => ∃ v', SubG H t t' v (s :: p) v') fun lo a b k cs vs x n hcs hci hvi tc => ?_
    obtain ⟨v', i⟩ := sub_get' p tc e
    have hr := n.hr _ _ hci
    exact ⟨v', (getP_app h0 hvi).trans i.g, i.tv, Nat.le_trans hr.1 i.l1, Nat.le_trans i.l2 (Nat.le_of_lt (Nat.lt_trans hr.2 n.hba)), fun y hy => (List.mem_cons.mp hy).elim
      (fun e => e ▸ (Int.toNat_lt h0).mp (Nat.lt_of_lt_of_le (List.getElem?_eq_some_iff.mp hci).1 (Nat.le_trans n.few (by decide))) |> fun h => h) (i.l3 y)⟩
theorem sub_get (p : List Int) {H : AH} {t t' : Tr} {v : V} (h : TV H t v) (e : subT t p = some t') : ∃ v', getP v p = some v' ∧ TV H t' v' ∧ t.lo ≤ t'.lo ∧ t'.adr ≤ t.adr ∧ ∀ s ∈ p, s < 1000 :=
  have ⟨v', i⟩ := sub_get' p h e
  ⟨v', i.g, i.tv, i.l1, i.l2, i.l3⟩
theorem nodeK_ex {v : V} {f : V → List V → Option V} {w : V} (h : nodeK v f none = some w) : ∃ k vs, v = .tup [.int 5, k, .tup vs] := by
  have two : ∀ {r : List V}, kidsOf' r f none = some w → ∃ k vs, r = [k, .tup vs] := fun {r} h => by
    cases r with
    | nil => cases h
    | cons k r => cases r with
      | nil => cases h
      | cons x r => cases r with
        | cons _ _ => cases h
        | nil => cases x with
          | tup vs => exact ⟨k, vs, rfl⟩
          | _ => exact nomatch h
  cases v with
  | tup l => cases l with
    | nil => cases h
    | cons x r => cases x with
      | int t =>
        by_cases e : t = 5
        · subst e
          obtain ⟨k, vs, rfl⟩ := two h
          exact ⟨k, vs, rfl⟩
        · rw [nodeK_leaf e] at h; cases h
      | _ => exact nomatch h
  | _ => exact nomatch h
theorem getP_append : ∀ (p q : List Int) (v w : V), getP v p = some w → getP v (p ++ q) = getP w q
  | [], q, v, w, h => by cases h; rfl
  | s :: p, q, v, w, h => by
    obtain ⟨k, vs, rfl⟩ := nodeK_ex h
    obtain ⟨h0, x, hx, h⟩ := getP_in h
    exact (getP_app h0 hx).trans (getP_append p q x w h)
theorem upd_list {l : List V} {i : Nat} {x : V} (h : i < l.length) : l.take i ++ [x] ++ l.drop (i + 1) = l.set i x := by
  rw [List.set_eq_take_append_cons_drop, if_pos h, List.append_assoc]; rfl
/-- a kid's cells changed -/
theorem node_set {H H' : AH} {lo a b i l r : Nat} {k : Int} {cs : List Tr} {vs : List V} {c : Tr} {w : V} (n : NodeOk H lo a b k cs vs) (hcs : ∀ (i : Nat) c v, cs[i]? = some c → vs[i]? = some v → TV H c v) (hci : cs[i]? = some c) (hl : c.lo ≤ l) (hr : r ≤ c.adr)
    (f : ∀ a z, (a < l ∨ r < a) → H[a]? = some z → H'[a]? = some z) (tw : TV H' c w) : NodeOk H' lo a b k cs (vs.set i w) ∧ ∀ (j : Nat) d v, cs[j]? = some d → (vs.set i w)[j]? = some v → TV H' d v := by
  have hb : r < b := Nat.lt_of_le_of_lt hr (n.hr _ _ hci).2
  refine ⟨{ n with h1 := f _ _ (.inr (Nat.lt_trans hb n.hba)) n.h1, h2 := f _ _ (.inr hb) n.h2, hl := by rw [List.length_set]; exact n.hl }, fun j d y hdi hxi => ?_⟩
  by_cases hi : i = j
  · subst hi
    rw [hci] at hdi; cases hdi
    rw [List.getElem?_set_self' ] at hxi
    obtain ⟨_, _, e⟩ := Option.map_eq_some_iff.mp hxi
    exact e ▸ tw
  · rw [List.getElem?_set_ne hi] at hxi
    refine (hcs _ _ _ hdi hxi).frame fun y z y1 y2 hy => f y z ?_ hy
    rcases Nat.lt_or_gt_of_ne hi with q | q
    · exact .inr (Nat.lt_of_le_of_lt hr (Nat.lt_of_lt_of_le (n.hd _ _ _ _ q hci hdi) y1))
    · exact .inl (Nat.lt_of_le_of_lt y2 (Nat.lt_of_lt_of_le (n.hd _ _ _ _ q hdi hci) hl))
theorem sub_put : ∀ (p : List Int) {H H' : AH} {t t' : Tr} {v w : V}, TV H t v → subT t p = some t' → TV H' t' w → (∀ a c, (a < t'.lo ∨ t'.adr < a) → H[a]? = some c → H'[a]? = some c) → TV H' t (putP v p w)
  | [], H, H', t, t', v, w, h, e, h', f => by cases e; exact h'
  | s :: p, H, H', t, t', v, w, h, e, h', f => by
    obtain ⟨h0, c, hci, e⟩ := subT_in e
    refine h.in hci (P := fun t v => TV H' t (putP v (s :: p) w)) fun lo a b k cs vs x n hcs hci hvi tc => ?_
    obtain ⟨v2, i⟩ := sub_get' p tc e
    rw [putP_node _ _ _ _ _ _ hvi, upd_list (List.getElem?_eq_some_iff.mp hvi).1]
    have tn := node_set n hcs hci i.l1 i.l2 f (sub_put p tc e h' f)
    exact .node lo a b k cs _ tn.1 tn.2
end Mine
end
section
set_option maxRecDepth 100000
namespace Mine
section
variable {Q : V → AH → Prop} {QU : Unit → AH → Prop} {H : AH}
theorem wp_tuple {a : Nat} {l : List V} (h : H[a]? = some (.lst l)) (hl : lineOk l.length = true) : wp (tupleV (.ref a)) Q H ↔ Q (.tup l) H := by
  show atL H[a]? _ ↔ _
  rw [h]; exact Iff.of_eq (bQ_is hl)
theorem wp_set_lst {a : Nat} {l : List V} {k : Int} {v : V} (h : H[a]? = some (.lst l)) (h0 : 0 ≤ k) (h1 : k < l.length) (h2 : k < 2 ^ 63) : wp (setV (.ref a) (.int k) v) QU H ↔ QU () (H.set a (.lst (l.set k.toNat v))) := by
  show setC H[a]? a (.int k) v QU H ↔ _
  rw [h]; exact Iff.of_eq (bQ_is (by rw [decide_eq_true h0, decide_eq_true h1, decide_eq_true h2]; rfl))
theorem wp_range {n : Nat} (h : n ≤ 1000) : kRange Q (.int n) H ↔ Q (.rng n) H :=
  Iff.of_eq (bQ_is (by rw [decide_eq_true (Int.natCast_nonneg n), decide_eq_true (show (n : Int) ≤ 1000000 from Int.ofNat_le.mpr (Nat.le_trans h (by decide : 1000 ≤ 1000000)))]; rfl))
end
theorem ex_at {α : Type} {l : List α} {i : Nat} (h : i < l.length) : ∃ x, l[i]? = some x := ⟨_, List.getElem?_eq_getElem h⟩
theorem set_at {H : AH} {a : Nat} {c c' : Cell} (h : H[a]? = some c) : (H.set a c')[a]? = some c' := List.getElem?_set_self (List.getElem?_eq_some_iff.mp h).1
theorem set_ne {H : AH} {a b : Nat} {c : Cell} (h : a ≠ b) : (H.set a c)[b]? = H[b]? := List.getElem?_set_ne h
theorem KT.fr {H H' : AH} (K : KT H) (f : ∀ a c, a < 6 → H[a]? = some c → H'[a]? = some c) : KT H' := ⟨f _ _ (by decide) K.kt, f _ _ (by decide) K.rows, f _ _ (by decide) K.shapes⟩
theorem NodeOk.kid {H : AH} {lo a b : Nat} {k : Int} {cs : List Tr} {vs : List V} (n : NodeOk H lo a b k cs vs) {i : Nat} {c : Tr} (h : cs[i]? = some c) : (kidsOf k)[i]? = some c.kind := by
  rw [← n.hk, List.getElem?_map, h]; rfl
theorem NodeOk.v {H : AH} {lo a b : Nat} {k : Int} {cs : List Tr} {vs : List V} (n : NodeOk H lo a b k cs vs) {i : Nat} {c : Tr} (h : cs[i]? = some c) : ∃ v, vs[i]? = some v :=
  ⟨_, List.getElem?_eq_getElem (show i < vs.length from n.hl ▸ (List.getElem?_eq_some_iff.mp h).1)⟩
theorem NodeOk.len {H : AH} {lo a b : Nat} {k : Int} {cs : List Tr} {vs : List V} (n : NodeOk H lo a b k cs vs) : vs.length ≤ 4 := n.hl ▸ n.few

theorem c_show (m : Nat) : ∀ {H : AH} {t : Tr} {v : V} {Q : V → AH → Prop}, dK t.kind < m → KT H → TV H t v → (∀ H', Ext H H' → Q v H') → wp (callF m k_law_show [t.rf, .ref 5]) Q H := by
  induction m with
  | zero => exact fun hm => nomatch hm
  | succ m ih =>
    intro H t v Q hm K tv h
    rw [wp_call (fd := fd_law_show) rfl rfl]
    cases tv with
    | leaf a k v h1 hs hk =>
      refine u_if (b := isShape k) (fun Q h => (wp_sub_lst h1).mpr ((in_shapes (QB := kCmpR Q) K).mpr h)) (fun e => nomatch hs.symm.trans e) (fun _ => ?_)
      exact (wp_sub_lst h1).mpr (h H (.refl H))
    | node lo a b k cs vs n hc =>
      refine u_if (b := isShape k) (fun Q h => (wp_sub_lst n.h1).mpr ((in_shapes (QB := kCmpR Q) K).mpr h)) (fun _ => ?_) (fun e => nomatch n.hs.symm.trans e)
      simp [Tr.rf, Tr.adr, wp_sub_lst n.h1]
      refine (wp_toIt_lst n.h2).mpr ?_
      refine wp_comp_lst (xs := cs.map Tr.rf) (fun i acc H' => acc = vs.take i ∧ Ext H H') (fun i acc H' hI => hI.2.at n.h2) (fun i acc H' hI => by rw [hI.1]; exact Nat.le_trans (List.length_take_le' ..) (Nat.le_trans n.len (by decide)))
        (Nat.lt_of_le_of_lt (Nat.le_trans (Nat.sub_le ..) (by rw [List.length_map]; exact n.few)) (by decide)) ⟨rfl, .refl H⟩ ?_ ?_
      · rintro i x acc H' K' hx ⟨rfl, ex⟩ hK
        rw [List.getElem?_map] at hx
        obtain ⟨c, hci, rfl⟩ := Option.map_eq_some_iff.mp hx
        obtain ⟨v, hvi⟩ := n.v hci
        exact ih (Nat.lt_of_lt_of_le (kids_dK (n.kid hci)) (Nat.le_of_lt_succ hm)) (K.ext ex) ((hc _ _ _ hci hvi).ext ex) fun H'' ex' => hK.s ⟨by rw [List.take_add_one, hvi]; rfl, ex.trans ex'⟩
      · rintro i acc H' hi ⟨rfl, ex⟩
        rw [List.take_of_length_le (show vs.length ≤ i by rwa [n.hl, ← List.length_map])]
        exact (wp_tuple (end_at H' (.lst vs)) (lineOk_k (Nat.le_trans n.len (by decide)))).mpr (h _ (ex.trans (.push _ _)))

theorem kv_node {k : Int} {v : V} (hs : isShape k = true) (h : KV k v) : ∃ vs, v = .tup [.int 5, .int k, .tup vs] ∧ vs.length = (kidsOf k).length ∧ ∀ (i : Nat) k' v, (kidsOf k)[i]? = some k' → vs[i]? = some v → KV k' v := by
  cases h with
  | num k n k1 k2 => exact absurd k2 (shape_el (P := fun k => ¬ k ≤ 11) hs (by decide) (by decide) (by decide))
  | ftn m => exact absurd hs (by decide)
  | ref a => exact absurd hs (by decide)
  | node k vs _ hl hv => exact ⟨vs, rfl, hl, hv⟩
theorem mix_set : ∀ {ws vs : List V} {i : Nat} {w : V}, ws.length = vs.length → ws[i]? = some w → (ws.take i ++ vs.drop i).set i w = ws.take (i + 1) ++ vs.drop (i + 1)
  | x :: ws, y :: vs, 0, w, _, h => by cases h; rfl
  | x :: ws, y :: vs, i + 1, w, hl, h => congrArg (x :: ·) (mix_set (Nat.succ.inj hl) h)
/-- the state of the loop -/
inductive PuI (H : AH) (lo a b : Nat) (k : Int) (cs : List Tr) (vs ws : List V) (i : Nat) (ρ : Loc) (H' : AH) : Prop
  | mk : i ≤ cs.length → NodeOk H' lo a b k cs (ws.take i ++ vs.drop i) → (∀ (j : Nat) c v, cs[j]? = some c → (ws.take i ++ vs.drop i)[j]? = some v → TV H' c v) → (∀ x c, (x < lo ∨ a < x) → H[x]? = some c → H'[x]? = some c) → H'.length = H.length →
      look ρ 195 = some (.ref a) → look ρ 82 = some (.tup [.int 5, .int k, .tup ws]) → look ρ 192 = some (.ref 5) → PuI H lo a b k cs vs ws i ρ H'
theorem c_put (m : Nat) : ∀ {H : AH} {t : Tr} {v w : V} {Q : V → AH → Prop}, dK t.kind < m → KT H → 6 < t.lo → TV H t v → KV t.kind w →
    (∀ H', TV H' t w → (∀ a c, (a < t.lo ∨ t.adr < a) → H[a]? = some c → H'[a]? = some c) → H'.length = H.length → Q .none H') → wp (callF m k_law_put [t.rf, w, .ref 5]) Q H := by
  induction m with
  | zero => exact fun hm => nomatch hm
  | succ m ih =>
    intro H t v w Q hm K h6 tv kw h
    rw [wp_call (fd := fd_law_put) rfl rfl]
    cases tv with
    | leaf a k v h1 hs hk =>
      refine u_if (b := isShape k) (fun Q h => (wp_sub_lst h1).mpr ((in_shapes (QB := kCmpR Q) K).mpr h)) (fun e => nomatch hs.symm.trans e) (fun _ => ?_)
      refine (wp_set_lst h1 (by decide) (show (1 : Int) < (2 : Nat) by decide) (by decide)).mpr ?_
      refine h _ (.leaf a k w (set_at h1) hs kw) (fun x c hx hc => ?_) (List.length_set ..)
      exact (set_ne fun e : a = x => hx.elim (fun z => Nat.ne_of_lt z e.symm) (fun z => Nat.ne_of_lt z e)).trans hc
    | node lo a b k cs vs n hc =>
      refine u_if (b := isShape k) (fun Q h => (wp_sub_lst n.h1).mpr ((in_shapes (QB := kCmpR Q) K).mpr h)) (fun _ => ?_) (fun e => nomatch n.hs.symm.trans e)
      simp [Tr.rf, Tr.adr, wp_sub_lst n.h1]
      have few : (cs.map Tr.rf).length ≤ 4 := by rw [List.length_map]; exact n.few
      refine (wp_len_lst n.h2 (lineOk_k (Nat.le_trans few (by decide)))).mpr ((wp_range (Nat.le_trans few (by decide))).mpr ?_)
      obtain ⟨ws, rfl, hwl, hws⟩ := kv_node n.hs kw
      have hwl' : ws.length = vs.length := by rw [hwl, n.hl, ← n.hk, List.length_map]
      refine wp_for_rng (PuI H lo a b k cs vs ws) (Nat.lt_of_le_of_lt (Nat.le_trans (Nat.sub_le ..) few) (by decide)) ⟨Nat.zero_le _, n, hc, fun _ _ _ hc => hc, rfl, rfl, rfl, rfl⟩ ?_ ?_
      · rintro i ρ H' K' hi ⟨_, n', hc', fr, hL, f1, f2, f3⟩ hK
        have hi : i < cs.length := by rwa [List.length_map] at hi
        obtain ⟨c, hci⟩ := ex_at hi
        obtain ⟨w, hwi⟩ := ex_at (show i < ws.length by rw [hwl', n.hl]; exact hi)
        have hs' : (i : Int) < 2 ^ 63 := Int.ofNat_lt.mpr (Nat.lt_trans (Nat.lt_of_lt_of_le hi n.few) (by decide : 4 < 2 ^ 63))
        have q1 : getAt (cs.map Tr.rf) (i : Int) = some c.rf := by rw [getAt_in (Int.natCast_nonneg i) hs', Int.toNat_natCast, List.getElem?_map, hci]; rfl
        have q2 : getAt ws (i : Int) = some w := by rw [getAt_in (Int.natCast_nonneg i) hs', Int.toNat_natCast, hwi]
        simp [look_put, f1, f2, f3, wp_sub_lst n'.h1, wp_sub_lst n'.h2, q1, q2]
        obtain ⟨v, hvi⟩ := n'.v hci
        have hrc := n'.hr i c hci
        refine ih (Nat.lt_of_lt_of_le (kids_dK (n.kid hci)) (Nat.le_of_lt_succ hm)) (K.fr fun x z hx hz => fr x z (.inl (Nat.lt_trans hx h6)) hz) (Nat.lt_of_lt_of_le h6 hrc.1) (hc' i c v hci hvi) (hws i _ _ (n.kid hci) hwi) fun H'' tw fw hL' => ?_
        have tn := node_set n' hc' hci (Nat.le_refl _) (Nat.le_refl _) fw tw
        rw [mix_set hwl' hwi] at tn
        exact hK.n ⟨hi, tn.1, tn.2, fun x z hx hz => fw x z (hx.imp (fun hx => Nat.lt_of_lt_of_le hx hrc.1) (fun hx => Nat.lt_trans (Nat.lt_trans hrc.2 n.hba) hx)) (fr x z hx hz), hL'.trans hL, look_put.trans f1, look_put.trans f2, look_put.trans f3⟩
      · rintro i ρ H' hi ⟨hi', n', hc', fr, hL, f1, f2, f3⟩
        have tv' := TV.node lo a b k cs _ n' hc'
        rw [List.length_map] at hi
        rw [List.take_of_length_le (by rw [hwl', n.hl]; exact hi), List.drop_of_length_le (by rw [n.hl]; exact hi), List.append_nil] at tv'
        exact h H' tv' fr hL
end Mine
end
section
set_option maxRecDepth 100000
namespace Mine
/-- how many leaves a cell of the kind has -/
noncomputable def lvK (k : Int) : Int := if k = 16 then 3 else if k = 17 then 4 else if k = 18 then 9 else 1
noncomputable def spKs (f : Int → List Int → Int → List (List Int × Int)) : List Int → List Int → Int → Int → List (List Int × Int)
  | [], _, _, _ => []
  | k :: ks, p, i, l => f k (p ++ [i]) l ++ spKs f ks p (i + 1) (l + lvK k)
/-- paths and leaves ahead of them, in a cell of the kind -/
noncomputable def spK : Nat → Int → List Int → Int → List (List Int × Int)
  | 0, _, _, _ => []
  | d + 1, k, p, l => (p, l) :: spKs (spK d) (kidsOf k) p 0 l
theorem spK_succ (d : Nat) (k : Int) (p : List Int) (l : Int) : spK (d + 1) k p l = (p, l) :: spKs (spK d) (kidsOf k) p 0 l := rfl
theorem spKs_cons (f : Int → List Int → Int → List (List Int × Int)) (k : Int) (ks : List Int) (p : List Int) (i l : Int) : spKs f (k :: ks) p i l = f k (p ++ [i]) l ++ spKs f ks p (i + 1) (l + lvK k) := rfl
theorem kids_lv {k : Int} (h : isShape k = true) : ((kidsOf k).map lvK).sum = lvK k := shape_el h rfl rfl rfl
theorem leaf_lv {k : Int} (h : isShape k = false) : lvK k = 1 := by
  have h := shape_no h
  unfold lvK
  rw [if_neg fun z => h (.inl z), if_neg fun z => h (.inr (.inl z)), if_neg fun z => h (.inr (.inr z))]
theorem leaf_kids {k : Int} (h : isShape k = false) : kidsOf k = [] := kids_none h
theorem subT_at {t c : Tr} {s : Int} {p : List Int} (h0 : 0 ≤ s) (hc : t.kids[s.toNat]? = some c) : subT t (s :: p) = subT c p := by
  rw [show subT t (s :: p) = t.kids[s.toNat]?.bind fun c => subT c p from if_neg (Int.not_lt.mpr h0), hc]; rfl
theorem subT_append : ∀ (p q : List Int) (t u : Tr), subT t p = some u → subT t (p ++ q) = subT u q
  | [], q, t, u, h => by cases h; rfl
  | s :: p, q, t, u, h => by
    obtain ⟨h0, c, hc, h⟩ := subT_in h
    exact (subT_at h0 hc).trans (subT_append p q c u h)
/-- a spot of the tree t0 -/
noncomputable def SpIn (r : Int) (pl : Pl) (t0 : Tr) (F : List (List Int × Int)) (s : V) : Prop := ∃ q l t', (q, l) ∈ F ∧ subT t0 q = some t' ∧ s = .tup [.int r, plV pl q, t'.rf, .int l]
theorem SpIn.mono {r : Int} {pl : Pl} {t0 : Tr} {F G : List (List Int × Int)} {s : V} (h : SpIn r pl t0 F s) (f : ∀ x ∈ F, x ∈ G) : SpIn r pl t0 G s :=
  have ⟨q, l, t', a, b, c⟩ := h
  ⟨q, l, t', f _ a, b, c⟩
theorem off_ne {lo hi x : Nat} (h : 171 < lo ∨ hi < 171) (h1 : lo ≤ x) (h2 : x ≤ hi) : 171 ≠ x := fun e => by subst e; exact h.elim (fun z => Nat.not_lt.mpr h1 z) (fun z => Nat.not_lt.mpr h2 z)
theorem KT.set {H : AH} (K : KT H) {i : Nat} (h : 6 ≤ i) (c : Cell) : KT (H.set i c) := K.fr fun a z ha hz => (set_ne (Nat.ne_of_gt (Nat.lt_of_lt_of_le ha h))).trans hz
/-- the state of the loop -/
inductive SpI (H : AH) (r : Int) (pl : Pl) (t0 : Tr) (m a : Nat) (k l : Int) (p : List Int) (sp : List V) (cs : List Tr) (i : Nat) (ρ : Loc) (H' : AH) : Prop
  | mk (li : Int) (new : List V) (pre : List (List Int × Int)) : i ≤ cs.length → H' = H.set 171 (.lst (sp ++ new)) → new.length = pre.length → (∀ s ∈ new, SpIn r pl t0 pre s) → spK (m + 1) k p l = pre ++ spKs (spK m) ((kidsOf k).drop i) p i li → li + (((kidsOf k).drop i).map lvK).sum = l + lvK k →
      look ρ 200 = some (.int r) → look ρ 104 = some (plV pl p) → look ρ 195 = some (.ref a) → look ρ 192 = some (.ref 5) → look ρ 201 = some (.int li) → look ρ 202 = some (.ref 171) → SpI H r pl t0 m a k l p sp cs i ρ H'
theorem c_spots (m : Nat) : ∀ {H : AH} {t t0 : Tr} {v : V} {r l : Int} {pl : Pl} {p : List Int} {sp : List V} {Q : V → AH → Prop}, dK t.kind < m → KT H → TV H t v → subT t0 p = some t → pl.ok → p.length + dK t.kind < 100 → H[171]? = some (.lst sp) → sp.length + (spK m t.kind p l).length ≤ 1000 → (171 < t.lo ∨ t.adr < 171) →
    (∀ new, new.length = (spK m t.kind p l).length → (∀ s ∈ new, SpIn r pl t0 (spK m t.kind p l) s) → Q (.int (l + lvK t.kind)) (H.set 171 (.lst (sp ++ new)))) → wp (callF (m + 1) k_law_spots [.int r, plV pl p, t.rf, .ref 5, .int l, .ref 171]) Q H := by
  induction m with
  | zero => exact fun hm => nomatch hm
  | succ m ih =>
    intro H t t0 v r l pl p sp Q hm K tv hs0 hpl hpd hsp hz h171 h
    rw [wp_call (fd := fd_law_spots) rfl rfl]
    have hz1 : sp.length ≤ 1000 := Nat.le_trans (Nat.le_add_right ..) hz
    cases tv with
    | leaf a k v h1 hs hk =>
      simp [fd_law_spots, Tr.rf, Tr.adr, wp_isLst hsp, wp_append hsp (lineOk_k hz1)]
      have h1' : (H.set 171 (.lst (sp ++ [.tup [.int r, plV pl p, .ref a, .int l]])))[a]? = some (.lst [.int k, v]) := (set_ne (off_ne h171 (Nat.le_refl a) (Nat.le_refl a))).trans h1
      simp [wp_sub_lst h1', notin_shapes (K.set (i := 171) (by decide) _), hs]
      have h' := h [.tup [.int r, plV pl p, .ref a, .int l]] (by rw [spK_succ, show kidsOf (Tr.kind (.leaf a k)) = [] from leaf_kids hs]; rfl) (fun s hs => List.mem_singleton.mp hs ▸ ⟨p, l, _, List.mem_cons_self, hs0, rfl⟩)
      rw [show lvK (Tr.kind (.leaf a k)) = 1 from leaf_lv hs] at h'
      exact h'
    | node lo a b k cs vs n hc =>
      simp [fd_law_spots, Tr.rf, Tr.adr, wp_isLst hsp, wp_append hsp (lineOk_k hz1)]
      have off : ∀ {x}, lo ≤ x → x ≤ a → 171 ≠ x := off_ne h171
      have e1 : ∀ c, (H.set 171 c)[a]? = some (.lst [.int k, .ref b]) := fun c => (set_ne (off (Nat.le_of_lt (Nat.lt_trans n.hlo n.hba)) (Nat.le_refl a))).trans n.h1
      have e2 : ∀ c, (H.set 171 c)[b]? = some (.lst (cs.map Tr.rf)) := fun c => (set_ne (off (Nat.le_of_lt n.hlo) (Nat.le_of_lt n.hba))).trans n.h2
      simp [wp_sub_lst (e1 _), notin_shapes (K.set (i := 171) (by decide) _), n.hs]
      have few : (cs.map Tr.rf).length ≤ 4 := by rw [List.length_map]; exact n.few
      refine (wp_len_lst (e2 _) (lineOk_k (Nat.le_trans few (by decide)))).mpr ((wp_range (Nat.le_trans few (by decide))).mpr ?_)
      refine wp_for_rng (SpI H r pl t0 m a k l p sp cs) (Nat.lt_of_le_of_lt (Nat.le_trans (Nat.sub_le ..) few) (by decide))
        ⟨l, [.tup [.int r, plV pl p, .ref a, .int l]], [(p, l)], Nat.zero_le _, rfl, rfl, fun s hs => List.mem_singleton.mp hs ▸ ⟨p, l, _, List.mem_cons_self, hs0, rfl⟩, rfl, by rw [List.drop_zero, kids_lv n.hs], rfl, rfl, rfl, rfl, rfl, rfl⟩ ?_ ?_
      · rintro i ρ H' K' hi ⟨li, new, pre, _, rfl, hn, hin, hF, hsum, f1, f2, f3, f4, f5, f6⟩ hK
        have hi : i < cs.length := by rwa [List.length_map] at hi
        obtain ⟨c, hci⟩ := ex_at hi
        obtain ⟨v, hvi⟩ := n.v hci
        have hk' := n.kid hci
        have hdr : (kidsOf k).drop i = c.kind :: (kidsOf k).drop (i + 1) := by rw [List.drop_eq_getElem?_toList_append, hk']; rfl
        have hrc := n.hr i c hci
        have hs' : (i : Int) < 2 ^ 63 := Int.ofNat_lt.mpr (Nat.lt_trans (Nat.lt_of_lt_of_le hi n.few) (by decide : 4 < 2 ^ 63))
        have q1 : getAt (cs.map Tr.rf) (i : Int) = some c.rf := by rw [getAt_in (Int.natCast_nonneg i) hs', Int.toNat_natCast, List.getElem?_map, hci]; rfl
        rw [hdr, spKs_cons] at hF
        rw [hdr, List.map_cons, List.sum_cons] at hsum
        have hd : dK c.kind < dK k := kids_dK hk'
        have hpd : p.length + dK k < 100 := hpd
        simp [look_put, f1, f2, f3, f4, f5, f6]
        refine c_field hpl (Nat.lt_trans (Nat.lt_of_le_of_lt (Nat.le_add_right ..) hpd) (by decide)) ?_
        simp [look_put, f1, f2, f3, f4, f5, f6, wp_sub_lst (e1 _), wp_sub_lst (e2 _), q1]
        have hFl := congrArg List.length hF
        rw [List.length_append, List.length_append, ← hn] at hFl
        have hzz : sp.length + (spK (m + 1) k p l).length ≤ 1000 := hz
        rw [hFl, ← Nat.add_assoc, ← Nat.add_assoc, ← List.length_append] at hzz
        refine ih (t0 := t0) (v := v) (Nat.lt_of_lt_of_le hd (Nat.le_of_lt_succ hm)) (K.set (i := 171) (by decide) _) ((hc _ _ _ hci hvi).frame fun x y x1 x2 hy => (set_ne (off (Nat.le_trans hrc.1 x1) (Nat.le_trans x2 (Nat.le_of_lt (Nat.lt_trans hrc.2 n.hba))))).trans hy)
          ((subT_append p _ _ _ hs0).trans (subT_at (t := .node lo a b k cs) (Int.natCast_nonneg i) hci)) hpl (by rw [List.length_append, List.length_singleton, Nat.add_assoc, Nat.add_comm 1]; exact Nat.lt_of_le_of_lt (Nat.add_le_add_left hd _) hpd) (set_at hsp) (Nat.le_trans (Nat.le_add_right ..) hzz)
          (h171.imp (fun z => Nat.lt_of_lt_of_le z hrc.1) (fun z => Nat.lt_trans hrc.2 (Nat.lt_trans n.hba z))) fun new' hn' hin' => ?_
        rw [List.set_set, List.append_assoc]
        refine hK.n ⟨li + lvK c.kind, new ++ new', pre ++ spK m c.kind (p ++ [(i : Int)]) li, hi, rfl, by rw [List.length_append, List.length_append, hn, hn'], fun s hs => ?_, by rw [hF, List.append_assoc]; rfl, by rw [← hsum, Int.add_assoc], look_put.trans (look_put.trans f1), look_put.trans (look_put.trans f2), look_put.trans (look_put.trans f3), look_put.trans (look_put.trans f4), look_put, look_put.trans (look_put.trans f6)⟩
        exact (List.mem_append.mp hs).elim (fun hs => (hin s hs).mono fun x => List.mem_append_left _) (fun hs => (hin' s hs).mono fun x => List.mem_append_right _)
      · rintro i ρ H' hi ⟨li, new, pre, hi', rfl, hn, hin, hF, hsum, f1, f2, f3, f4, f5, f6⟩
        rw [List.drop_of_length_le (show (kidsOf k).length ≤ i by rw [← n.hk, List.length_map]; rwa [List.length_map] at hi)] at hF hsum
        have hF : spK (m + 1) k p l = pre := hF.trans (List.append_nil _)
        have hsum : li = l + lvK k := (Int.add_zero li).symm.trans hsum
        simp [f5]
        subst hF hsum
        exact h new hn hin
end Mine
end
section
set_option maxRecDepth 100000
namespace Mine
theorem cell_num {k : Int} (hk : cellKind k) (hs : isShape k = false) (h12 : k ≠ 12) : 1 ≤ k ∧ k ≤ 11 := hk.el.elim id fun h => h.elim (fun e => absurd e h12) fun e => nomatch hs.symm.trans e
theorem cell_small {k : Int} (hk : cellKind k) : k ≠ 0 := fun e => absurd (e ▸ hk) (by unfold cellKind; decide)
theorem four_el {P : Int → Prop} (z : Int) (p0 : P 0) (p1 : P 1) (p2 : P 2) (p3 : P 3) : P (z % 4) :=
  el_s 0 rfl (Int.emod_nonneg z (by decide)) p0 fun h => el_s 1 rfl h p1 fun h => el_s 2 rfl h p2 fun h => Int.le_antisymm (Int.le_of_lt_add_one (Int.emod_lt_of_pos z (by decide))) h ▸ p3
theorem addr_at (z : Int) : ∃ a, getAt [V.int 0, .int 16, .int 21, .int 25] (z % 4) = some (.int a) :=
  four_el (P := fun i => ∃ a, getAt [V.int 0, .int 16, .int 21, .int 25] i = some (.int a)) z ⟨_, rfl⟩ ⟨_, rfl⟩ ⟨_, rfl⟩ ⟨_, rfl⟩
/-- what a run of law_cell leaves -/
structure CellRun (H H' : AH) (ct : Nat) (k : Int) (t : Tr) : Prop where
  kind : t.kind = k
  tv : ∃ v, TV H' t v
  lo : H.length ≤ t.lo
  hi : t.adr < H'.length
  fr : ∀ a x, a ≠ ct → H[a]? = some x → H'[a]? = some x
  len : H.length ≤ H'.length
  ct : ∃ c, H'[ct]? = some (.lst [.int c])
theorem KT.of {H H' : AH} {ct : Nat} (K : KT H) (hct : 6 < ct) (fr : ∀ a x, a ≠ ct → H[a]? = some x → H'[a]? = some x) : KT H' := K.fr fun a x h => fr a x (Nat.ne_of_lt (Nat.lt_trans h hct))
theorem at_lt {α : Type} {H : List α} {a : Nat} {c : α} (h : H[a]? = some c) : a < H.length := (List.getElem?_eq_some_iff.mp h).1
theorem app_at {H : AH} {a : Nat} {c x : Cell} (h : H[a]? = some c) : (H ++ [x])[a]? = some c := (Ext.push H x).at h
theorem len_snoc {α : Type} (l : List α) (x : α) : (l ++ [x]).length = l.length + 1 := List.length_append
/-- the state of the loop -/
inductive ClI (H : AH) (k : Int) (ct i : Nat) (acc : List V) (H' : AH) : Prop
  | mk (cs : List Tr) (vs : List V) (c : Int) : acc = cs.map Tr.rf → cs.length = i → i ≤ (kidsOf k).length → cs.map Tr.kind = (kidsOf k).take i → vs.length = cs.length → (∀ (j : Nat) d, cs[j]? = some d → H.length ≤ d.lo ∧ d.adr < H'.length) →
      (∀ (i j : Nat) c d, i < j → cs[i]? = some c → cs[j]? = some d → c.adr < d.lo) → (∀ (i : Nat) c v, cs[i]? = some c → vs[i]? = some v → TV H' c v) → (∀ a x, a ≠ ct → H[a]? = some x → H'[a]? = some x) → H.length ≤ H'.length → H'[ct]? = some (.lst [.int c]) → ClI H k ct i acc H'
theorem c_cell (m : Nat) : ∀ {H : AH} {k c : Int} {ct : Nat} {Q : V → AH → Prop}, dK k < m → cellKind k → KT H → 6 < ct → H[ct]? = some (.lst [.int c]) → (∀ H' t, CellRun H H' ct k t → Q t.rf H') → wp (callF (m + 1) k_law_cell [.int k, .ref 5, .ref ct]) Q H := by
  induction m with
  | zero => exact fun hm => nomatch hm
  | succ m ih =>
    intro H k c ct Q hm hk K h6 hct h
    rw [wp_call (fd := fd_law_cell) rfl rfl]
    cases hs : isShape k with
    | false =>
      by_cases h12 : k = 12
      · subst h12
        obtain ⟨a, ha⟩ := addr_at c
        simp [fd_law_cell, in_shapes K, hs, wp_sub_lst hct, wp_mod (by decide : (4 : Int) ≠ 0), fmod_pos (by decide : (0 : Int) ≤ 4), ha]
        exact h _ (.leaf H.length 12) ⟨rfl, ⟨_, .leaf _ _ _ (end_at _ _) hs (.ref a)⟩, Nat.le_refl _, by rw [len_snoc]; exact Nat.lt_succ_self _, fun b x _ hx => app_at hx, by rw [len_snoc]; exact Nat.le_succ _, ⟨c, app_at hct⟩⟩
      · obtain ⟨k1, k2⟩ := cell_num hk hs h12
        simp [fd_law_cell, in_shapes K, hs, wp_sub_lst hct, h12]
        refine (wp_set_lst hct (by decide) (show (0 : Int) < (1 : Nat) by decide) (by decide)).mpr ?_
        refine c_law_tag (n := m) k1 k2 ?_
        have hct' : (H.set ct (.lst [.int (c + 1)]))[ct]? = some (.lst [.int (c + 1)]) := set_at hct
        have e := end_at (H.set ct (.lst [.int (c + 1)])) (.lst [.int k, .tup [.int (tagI k), .int (c + 1)]])
        have hl : (H.set ct (.lst [.int (c + 1)])).length = H.length := List.length_set ..
        refine (wp_sub_lst hct').mpr ?_
        exact h _ (.leaf _ k) ⟨rfl, ⟨_, .leaf _ _ _ e hs (.num k _ k1 k2)⟩, Nat.le_of_eq hl.symm, at_lt e, fun b x hb hx => app_at ((set_ne (fun e => hb e.symm)).trans hx), by rw [len_snoc, hl]; exact Nat.le_succ _, ⟨c + 1, app_at hct'⟩⟩
    | true =>
      simp [fd_law_cell, in_shapes K, hs]
      refine (sub_dct K.shapes (shapes_key k) (shape_sub hs)).mpr ?_
      have hkl := kids_len k
      refine wp_comp_tup (xs := ivs (kidsOf k)) (i := 0) (ClI H k ct) (fun i acc H' hI => by obtain ⟨cs, vs, c, e, hi, hk, _⟩ := hI; rw [e, List.length_map, hi]; exact Nat.le_trans hk (Nat.le_trans hkl (by decide)))
        (Nat.lt_of_le_of_lt (Nat.le_trans (Nat.sub_le ..) (by rw [ivs_len]; exact hkl)) (by decide)) ⟨[], [], c, rfl, rfl, Nat.zero_le _, rfl, rfl, fun j d hd => (nomatch hd), fun i j c d _ hd => (nomatch hd), fun i c v hd => (nomatch hd), fun a x _ hx => hx, Nat.le_refl _, hct⟩ ?_ ?_
      · rintro i x acc H' K' hx ⟨cs, vs, c', rfl, rfl, _, hks, hvl, hr, hd, hv, hf, hl, hc'⟩ hK
        rw [ivs_at] at hx
        obtain ⟨k', hki, rfl⟩ := Option.map_eq_some_iff.mp hx
        refine ih (Nat.lt_of_lt_of_le (kids_dK hki) (Nat.le_of_lt_succ hm)) (kids_ok hki) (K.of h6 hf) h6 hc' fun H'' t R => ?_
        obtain ⟨v, tv⟩ := R.tv
        obtain ⟨c2, hc2⟩ := R.ct
        refine hK.s ⟨cs ++ [t], vs ++ [v], c2, by rw [List.map_append]; rfl, len_snoc .., at_lt hki, by rw [List.map_append, hks, List.take_add_one, hki, ← R.kind]; rfl, by rw [len_snoc, len_snoc, hvl], fun j d hdj => ?_, fun i2 j c2 d hij hci hdj => ?_, fun j d w hdj hwj => ?_, fun a x ha hx => R.fr a x ha (hf a x ha hx), Nat.le_trans hl R.len, hc2⟩
        · rcases snoc_at hdj with hdj | ⟨_, rfl⟩
          · exact ⟨(hr j d hdj).1, Nat.lt_of_lt_of_le (hr j d hdj).2 R.len⟩
          · exact ⟨Nat.le_trans hl R.lo, R.hi⟩
        · rcases snoc_at hci with hci' | ⟨e, _⟩
          · rcases snoc_at hdj with hdj | ⟨_, rfl⟩
            · exact hd _ _ _ _ hij hci' hdj
            · exact Nat.lt_of_lt_of_le (hr _ _ hci').2 R.lo
          · have := at_lt hdj
            rw [len_snoc, ← e] at this
            exact absurd hij (Nat.not_lt.mpr (Nat.le_of_lt_succ this))
        · rcases snoc_at hdj with hdj | ⟨e, rfl⟩
          · rcases snoc_at hwj with hwj | ⟨e, _⟩
            · exact (hv _ _ _ hdj hwj).frame fun a x a1 a2 hx => R.fr a x (Nat.ne_of_gt (Nat.lt_of_lt_of_le (at_lt hct) (Nat.le_trans (hr _ _ hdj).1 a1))) hx
            · exact absurd (at_lt hdj) (by rw [e, hvl]; exact Nat.lt_irrefl _)
          · rcases snoc_at hwj with hwj | ⟨_, rfl⟩
            · exact absurd (at_lt hwj) (by rw [e, hvl]; exact Nat.lt_irrefl _)
            · exact tv
      · rintro i acc H' hi ⟨cs, vs, c', rfl, rfl, hi', hks, hvl, hr, hd, hv, hf, hl, hc'⟩
        rw [ivs_len] at hi
        rw [List.take_of_length_le hi] at hks
        obtain ⟨t0, h0⟩ := ex_at (Nat.lt_of_lt_of_le (kids_pos hs) hi)
        obtain ⟨v0, hv0⟩ := ex_at (show 0 < vs.length from hvl ▸ at_lt h0)
        have hlo : H.length < H'.length := Nat.lt_of_le_of_lt (Nat.le_trans (hr _ _ h0).1 (hv _ _ _ h0 hv0).lo_le) (hr _ _ h0).2
        have e1 := end_at H' (.lst (cs.map Tr.rf))
        have e2 := end_at (H' ++ [.lst (cs.map Tr.rf)]) (.lst [.int k, .ref H'.length])
        have h' := h (H' ++ [.lst (cs.map Tr.rf)] ++ [.lst [.int k, .ref H'.length]]) (.node H.length (H' ++ [Cell.lst (cs.map Tr.rf)]).length H'.length k cs) ⟨rfl, ⟨_, .node _ _ _ _ _ vs ⟨e2, app_at e1, hs, hks, hvl, hlo, at_lt e1, hr, hd⟩ fun i c v a b => ((hv i c v a b).ext (.push _ _)).ext (.push _ _)⟩, Nat.le_refl _, at_lt e2, fun a x ha hx => app_at (app_at (hf a x ha hx)), by rw [len_snoc, len_snoc]; exact Nat.le_succ_of_le (Nat.le_succ_of_le hl), ⟨c', app_at (app_at hc')⟩⟩
        exact h'
end Mine
end
section
set_option maxRecDepth 100000
namespace Mine
section
variable {Q : V → AH → Prop} {H : AH}
theorem wp_mul {x y : Int} (h : mulOk x y = true) : wBin .mul (.int x) (.int y) Q H ↔ Q (.int (x * y)) H := Iff.of_eq (bQ_is h)
end
/-- the state of the loop -/
inductive MdI (H : AH) (k : Int) (i : Nat) (acc : List V) (H' : AH) : Prop
  | mk : acc.length = i → i ≤ (kidsOf k).length → (∀ (j : Nat) k' v, (kidsOf k)[j]? = some k' → acc[j]? = some v → KV k' v) → Ext H H' → MdI H k i acc H'
section
variable {C : Nat → List V → M V} {ρ : Loc} {H : AH} {c e : E} {t s ss : Ss} {QF : Flow → AH → Prop} {v : V}
theorem u_asg {x : Nat} (he : ∀ K : V → AH → Prop, K v H → wE C e ρ K H) (h : wSs C ss (Mine.put ρ x v) QF H) : wSs C (.cons (.asg x e) ss) ρ QF H := he (kAsg x ρ (kSeq C ss QF)) h
theorem u_ret (h : wE C e ρ (kRet (kSeq C ss QF)) H) : wSs C (.cons (.ret e) ss) ρ QF H := h
theorem u_yes (hc : ∀ K : V → AH → Prop, K (.bool true) H → wE C c ρ K H) (h : wSs C t ρ (kSeq C ss QF) H) : wSs C (.cons (.ite c t s) ss) ρ QF H := hc (kIte1 C t s ρ (kSeq C ss QF)) h
theorem u_no (hc : ∀ K : V → AH → Prop, K (.bool false) H → wE C c ρ K H) (h : wSs C s ρ (kSeq C ss QF) H) : wSs C (.cons (.ite c t s) ss) ρ QF H := hc (kIte1 C t s ρ (kSeq C ss QF)) h
theorem u_no' (hc : ∀ K : V → AH → Prop, K (.bool false) H → wE C c ρ K H) (h : wSs C ss ρ QF H) : wSs C (.cons (.ite c t .nil) ss) ρ QF H := hc (kIte1 C t .nil ρ (kSeq C ss QF)) h
theorem u_tup2 {a b : E} {Q : V → AH → Prop} (ha : ∀ K : V → AH → Prop, K v H → wE C a ρ K H) (h : wE C b ρ (fun y H' => Q (.tup [v, y]) H') H) : wE C (.tup (.cons a (.cons b .nil))) ρ Q H := ha (kEs1 C (.cons b .nil) ρ (kTup Q)) h
end
section
variable {C : Nat → List V → M V} {ρ : Loc} {Q : V → AH → Prop} {H : AH}
theorem u_subt {a i : E} {l : List V} {k : Int} {v : V} (ha : ∀ K : V → AH → Prop, K (.tup l) H → wE C a ρ K H) (hi : ∀ K : V → AH → Prop, K (.int k) H → wE C i ρ K H) (hv : getAt l k = some v) (h : Q v H) : wE C (.sub a i) ρ Q H :=
  ha (kSub1 C i ρ Q) (hi (kSub2 (.tup l) Q) (show oQ (getAt l k) Q H from hv ▸ h))
theorem u_mod {a : E} {i x : Int} (ha : ∀ K : V → AH → Prop, K (.int x) H → wE C a ρ K H) (h0 : 0 < i) (h : Q (.int (x % i)) H) : wE C (.bin .mod a (.int i)) ρ Q H :=
  ha (kBin1 C .mod (.int i) ρ Q) ((wp_mod (Int.ne_of_gt h0)).mpr (by rw [fmod_pos (Int.le_of_lt h0)]; exact h))
theorem u_fdiv {a : E} {i x : Int} (ha : ∀ K : V → AH → Prop, K (.int x) H → wE C a ρ K H) (h0 : 0 < i) (h : Q (.int (x / i)) H) : wE C (.bin .fdiv a (.int i)) ρ Q H :=
  ha (kBin1 C .fdiv (.int i) ρ Q) ((wp_fdiv (Int.ne_of_gt h0)).mpr (by rw [fdiv_pos (Int.le_of_lt h0)]; exact h))
theorem u_mod2 {a : E} {x : Int} (ha : ∀ K : V → AH → Prop, K (.int x) H → wE C a ρ K H) (h : Q (.int (1 + 2 * (x % 2))) H) : wE C (.bin .add (.int 1) (.bin .mul (.int 2) (.bin .mod a (.int 2)))) ρ Q H :=
  u_mod (Q := kBin2 .mul (.int 2) (kBin2 .add (.int 1) Q)) ha (by decide) ((wp_mul (Q := kBin2 .add (.int 1) Q) rfl).mpr h)
theorem u_four {a : E} {x b : Int} (ha : ∀ K : V → AH → Prop, K (.int x) H → wE C a ρ K H) (hb : getAt [V.int 0, .int 16, .int 21, .int 25] (x % 4) = some (.int b)) (h : Q (.int b) H) : wE C (.sub (.glb 193) (.bin .mod a (.int 4))) ρ Q H := by
  refine u_mod (Q := kSub2 (.tup [.int 0, .int 16, .int 21, .int 25]) Q) ha (by decide) ?_
  show oQ (getAt [V.int 0, .int 16, .int 21, .int 25] (x % 4)) Q H
  rw [hb]; exact h
theorem u_seven {a : E} {x : Int} (ha : ∀ K : V → AH → Prop, K (.int x) H → wE C a ρ K H) (h : Q (.tup [.int 12, .int (1 + x % 2), .tup []]) H) : wE C (.tup (.cons (.int 12) (.cons (.bin .add (.int 1) (.bin .mod a (.int 2))) (.cons (.tup .nil) .nil)))) ρ Q H :=
  u_mod (Q := kBin2 .add (.int 1) (fun v H => Q (.tup [.int 12, v, .tup []]) H)) ha (by decide) h
end
theorem c_made (m : Nat) : ∀ {H : AH} {k z : Int} {Q : V → AH → Prop}, dK k < m → cellKind k → KT H → (∀ H' v, Ext H H' → KV k v → Q v H') → wp (callF (m + 2) k_law_made [.int k, .int z, .ref 5]) Q H := by
  induction m with
  | zero => exact fun hm => nomatch hm
  | succ m ih =>
    intro H k z Q hm hk K h
    rw [wp_call (fd := fd_law_made) rfl rfl]
    cases hs : isShape k with
    | false =>
      by_cases h12 : k = 12
      · subst h12
        obtain ⟨a, ha⟩ := addr_at z
        simp [fd_law_made, in_shapes K, hs, wp_mod (by decide : (4 : Int) ≠ 0), fmod_pos (by decide : (0 : Int) ≤ 4), ha]
        exact h H _ (.refl H) (.ref a)
      · obtain ⟨k1, k2⟩ := cell_num hk hs h12
        simp [fd_law_made, in_shapes K, hs, h12]
        refine c_keeps (n := m) (.inl ⟨1, z, rfl⟩) fun H' ex => ?_
        rw [keepV_num ⟨k1, k2, by decide⟩]
        exact h H' _ ex (.num k _ k1 k2)
    | true =>
      simp [fd_law_made, in_shapes K, hs]
      have hkl : (ivs (kidsOf k)).length ≤ 4 := by rw [ivs_len]; exact kids_len k
      refine (sub_dct K.shapes (shapes_key k) (shape_sub hs)).mpr ?_
      simp
      refine (wp_len_tup (lineOk_k (Nat.le_trans hkl (by decide)))).mpr ((wp_range (Nat.le_trans hkl (by decide))).mpr ?_)
      refine wp_comp_rng (MdI H k) (fun i acc H' hI => by obtain ⟨e, hi, _⟩ := hI; rw [e]; exact Nat.le_trans hi (Nat.le_trans (kids_len k) (by decide))) (Nat.lt_of_le_of_lt (Nat.le_trans (Nat.sub_le ..) hkl) (by decide)) ⟨rfl, Nat.zero_le _, fun j k' v _ hv => (nomatch hv), .refl H⟩ ?_ ?_
      · rintro i acc H' K' hi ⟨rfl, _, hv, ex⟩ hK
        have hi2 : acc.length < (kidsOf k).length := by rwa [ivs_len] at hi
        have hki := List.getElem?_eq_getElem hi2
        generalize (kidsOf k)[acc.length] = k' at hki
        have q : getAt (ivs (kidsOf k)) (acc.length : Int) = some (.int k') := by rw [getAt_in (Int.natCast_nonneg _) (Int.ofNat_lt.mpr (Nat.lt_of_lt_of_le hi (Nat.le_trans hkl (by decide)))), Int.toNat_natCast, ivs_at, hki]; rfl
        rw [w_eltB, w_call, w_es1]
        refine u_subt (fun K h => h) (fun K h => h) q ?_
        simp
        refine ih (Nat.lt_of_lt_of_le (kids_dK hki) (Nat.le_of_lt_succ hm)) (kids_ok hki) (K.ext ex) fun H'' v ex' kv => hK.s ⟨len_snoc .., at_lt hki, fun j k2 w hk2 hw => ?_, ex.trans ex'⟩
        rcases snoc_at hw with hw | ⟨rfl, rfl⟩
        · exact hv _ _ _ hk2 hw
        · rw [hki] at hk2; cases hk2; exact kv
      · rintro i acc H' hi ⟨rfl, hi', hv, ex⟩
        rw [ivs_len] at hi
        exact (wp_tuple (end_at H' (.lst acc)) (lineOk_k (Nat.le_trans hi' (Nat.le_trans (kids_len k) (by decide))))).mpr (h _ _ (ex.trans (.push _ _)) (.node k acc hs (Nat.le_antisymm hi' hi) hv))

theorem c_cut {n : Nat} {x b : Int} {Q : V → AH → Prop} {H : AH} (hb : b = 32 ∨ b = 64) (h : ∀ y, Q (.int y) H) : wp (callF (n + 1) k_law_cut [.int x, .int b]) Q H := by
  rw [wp_call (fd := fd_law_cut) rfl rfl]
  rcases hb with rfl | rfl
  · simp [fd_law_cut, wp_pow, wp_mod, h]
  · simp [fd_law_cut, wp_pow, wp_mod, h]
theorem u_cut {n : Nat} {ρ : Loc} {a : E} {x b : Int} {Q : V → AH → Prop} {H : AH} (hb : b = 32 ∨ b = 64) (ha : ∀ K : V → AH → Prop, K (.int x) H → wE (callF (n + 1)) a ρ K H) (h : ∀ y, Q (.int y) H) : wE (callF (n + 1)) (.call 188 (.cons a (.cons (.int b) .nil))) ρ Q H :=
  ha (kEs1 (callF (n + 1)) (.cons (.int b) .nil) ρ (kCall (callF (n + 1)) 188 Q)) (c_cut hb h)
/-- what may be offered -/
noncomputable def OffV (v : V) : Prop := (∃ t n, v = .tup [.int t, .int n] ∧ 1 ≤ t ∧ t ≤ 3) ∨ ∃ k, KV k v
@[elab_as_elim] theorem seven_el {P : Int → Prop} {z : Int} (h0 : 0 ≤ z) (h1 : z < 7) (p0 : P 0) (p1 : P 1) (p2 : P 2) (p3 : P 3) (p4 : P 4) (p5 : P 5) (p6 : P 6) : P z :=
  el_s 0 rfl h0 p0 fun h => el_s 1 rfl h p1 fun h => el_s 2 rfl h p2 fun h => el_s 3 rfl h p3 fun h => el_s 4 rfl h p4 fun h => el_s 5 rfl h p5 fun h => Int.le_antisymm (Int.le_of_lt_add_one h1) h ▸ p6
theorem c_offered {n : Nat} {k y : Int} {Q : V → AH → Prop} {H : AH} (K : KT H) (hk : cellKind k) (h : ∀ H' v, Ext H H' → OffV v → Q v H') : wp (callF (n + 7) k_law_offered [.int k, .int y, .ref 5, .tup [.int 16, .int 17]]) Q H := by
  rw [wp_call (fd := fd_law_offered) rfl rfl]
  have made : ∀ k' z, cellKind k' → wp (callF (n + 6) 207 [.int k', .int z, .ref 5]) Q H := fun k' z hk' => c_made (n + 4) (Nat.le_trans (Nat.succ_le_succ (dK_le k')) (Nat.le_add_left 4 n)) hk' K fun H' v ex kv => h H' v ex (.inr ⟨k', kv⟩)
  refine u_asg (fun K h => u_fdiv (x := y) (fun K h => h) (by decide) h) ?_
  refine u_if (b := decide (y % 4 = 3)) (fun K h => u_mod (x := y) (fun K h => h) (by decide) h) (fun _ => ?_) (fun _ => ?_)
  · refine u_asg (fun K h => u_mod (x := y / 4) (fun K h => h) (by decide) h) (u_asg (fun K h => u_fdiv (x := y / 4) (fun K h => h) (by decide) h) ?_)
    have l0 := Int.emod_nonneg (y / 4) (show (7 : Int) ≠ 0 by decide)
    have l1 := Int.emod_lt_of_pos (y / 4) (show (0 : Int) < 7 by decide)
    generalize y / 4 % 7 = z at l0 l1
    refine seven_el l0 l1 ?_ ?_ ?_ ?_ ?_ ?_ ?_
    · exact u_yes (fun K h => h) (u_ret (u_tup2 (v := .int 1) (fun K h => h) (u_cut (.inl rfl) (fun K h => h) fun x => h H (.tup [.int 1, .int x]) (.refl H) (.inl ⟨1, x, rfl, by decide, by decide⟩))))
    · exact u_no' (fun K h => h) (u_yes (fun K h => h) (u_ret (u_tup2 (v := .int 2) (fun K h => h) (u_cut (.inr rfl) (fun K h => h) fun x => h H (.tup [.int 2, .int x]) (.refl H) (.inl ⟨2, x, rfl, by decide, by decide⟩)))))
    · exact u_yes (fun K h => h) (u_ret (u_tup2 (v := .int 3) (fun K h => h) (u_cut (.inl rfl) (fun K h => h) fun x => h H (.tup [.int 3, .int x]) (.refl H) (.inl ⟨3, x, rfl, by decide, by decide⟩))))
    · refine u_no' (fun K h => h) (u_no' (fun K h => h) (u_yes (fun K h => h) (u_ret (u_tup2 (v := .int 4) (fun K h => h) ?_))))
      obtain ⟨a, ha⟩ := addr_at (y / 4 / 7)
      exact u_four (x := y / 4 / 7) (fun K h => h) ha (h H (.tup [.int 4, .int a]) (.refl H) (.inr ⟨12, .ref a⟩))
    · exact u_no' (fun K h => h) (u_no' (fun K h => h) (u_no' (fun K h => h) (u_no' (fun K h => h) (u_ret (made 16 _ (.inr (.inl rfl)))))))
    · exact u_no' (fun K h => h) (u_no' (fun K h => h) (u_no' (fun K h => h) (u_no' (fun K h => h) (u_ret (made 17 _ (.inr (.inr (.inl rfl))))))))
    · exact u_no' (fun K h => h) (u_no' (fun K h => h) (u_no' (fun K h => h) (u_yes (fun K h => h) (u_ret (u_tup2 (v := .int 7) (fun K h => h) (u_seven (x := y / 4 / 7) (fun K h => h) (h H _ (.refl H) (.inr ⟨11, .ftn _⟩))))))))
  · refine u_if (b := isShape k || decide (k = 12)) (fun Q h => u_or (a := isShape k) (fun Q h => (in_shapes (QB := kCmpR Q) K).mpr h) (fun _ K h => u_or1 (fun K h => h) h) h) (fun _ => ?_) (fun _ => ?_)
    · exact u_ret (made k _ hk)
    refine u_if (b := decide (k = 9) || decide (k = 10)) (fun K h => u_or (a := decide (k = 9)) (fun K h => h) (fun _ K h => u_or1 (fun K h => h) h) h) (fun _ => ?_) (fun _ => ?_)
    · exact u_ret (u_tup2 (v := .int 2) (fun K h => h) (u_cut (.inr rfl) (fun K h => h) fun x => h H (.tup [.int 2, .int x]) (.refl H) (.inl ⟨2, x, rfl, by decide, by decide⟩)))
    have l0 := Int.emod_nonneg (y / 4) (show (2 : Int) ≠ 0 by decide)
    have l1 := Int.emod_lt_of_pos (y / 4) (show (0 : Int) < 2 by decide)
    exact u_ret (u_tup2 (v := .int (1 + 2 * (y / 4 % 2))) (fun K h => u_mod2 (x := y / 4) (fun K h => h) h) (u_cut (.inl rfl) (fun K h => u_fdiv (x := y / 4) (fun K h => h) (by decide) h) fun x => h H (.tup [.int (1 + 2 * (y / 4 % 2)), .int x]) (.refl H) (.inl ⟨1 + 2 * (y / 4 % 2), x, rfl, by omega, by omega⟩)))
end Mine
end
section
set_option maxRecDepth 100000
namespace Mine
local macro_rules | `(tactic| omega) => `(tactic| lia)
/-- a thing of the program's heap -/
structure Th where
  r : Nat
  addr : Int
  kind : Int
  la : Nat
  gen : Int
  serial : Int
  n : Nat
noncomputable def Th.cell (t : Th) : Cell := .inst 123 [(117, .int t.addr), (118, .int t.kind), (119, .ref t.la), (122, .int t.gen), (121, .int (t.n + 2)), (120, .int t.serial)]
structure HpI (ths : List Th) (top bits fresh made : Int) (H : AH) : Prop where
  heap : H[149]? = some (.inst 137 [(136, .ref 150), (135, .ref 151), (110, .int top), (125, .int 400), (133, .ref 152), (126, .int bits), (132, .int fresh), (131, .int 101), (130, .ref 153), (129, .ref 154), (128, .int 0), (127, .int made)])
  things : H[150]? = some (.lst (ths.map fun t => .ref t.r))
  at_ : H[151]? = some (.dct (ths.map fun t => (.int t.addr, .ref t.r)))
  cell : ∀ t ∈ ths, H[t.r]? = some t.cell
  rows : ∀ t ∈ ths, ∃ l, H[t.la]? = some (.lst l) ∧ l.length = t.n
structure ThsOk (ths : List Th) : Prop where
  small : ∀ t ∈ ths, 0 < t.n ∧ t.n ≤ 4 ∧ 0 ≤ t.addr
  sorted : ∀ (i j : Nat) t u, i < j → ths[i]? = some t → ths[j]? = some u → t.addr + t.n + 2 ≤ u.addr
  len : ths.length ≤ 6
section
variable {Q : V → AH → Prop} {H : AH}
theorem wp_get {a : Nat} {l : List (V × V)} {k d : V} (h : H[a]? = some (.dct l)) (hk : keyOk l k = true) (hs : setKey k = true) : wp (getV (.ref a) k d) Q H ↔ Q ((dfind l k).getD d) H := by
  show atD H[a]? _ ↔ _
  rw [h]; exact Iff.of_eq (bQ_is (by rw [hk, hs]; rfl))
end
/-- the key may be asked -/
theorem key_all {l : List (V × V)} (k : Int) (h : ∀ p ∈ l, ∃ a b, p = (.int a, b)) : keyOk l (.int k) = true :=
  Bool.and_eq_true_iff.mpr ⟨rfl, List.all_eq_true.mpr fun p hp => by obtain ⟨a, b, rfl⟩ := h p hp; rfl⟩
theorem ths_key (ths : List Th) (w : Int) : keyOk (ths.map fun t => (V.int t.addr, V.ref t.r)) (.int w) = true :=
  key_all w fun p hp => by obtain ⟨t, _, rfl⟩ := List.mem_map.mp hp; exact ⟨_, _, rfl⟩
theorem dfind_eq {l : List (V × V)} {k j : Int} {v : V} (h : j = k) : dfind ((.int j, v) :: l) (.int k) = some v := by
  show (match decide (j = k) with | true => _ | false => _) = _
  rw [decide_eq_true h]
theorem ths_find (w : Int) : ∀ ths : List Th, (∃ t, t ∈ ths ∧ t.addr = w ∧ dfind (ths.map fun t => (V.int t.addr, V.ref t.r)) (.int w) = some (.ref t.r)) ∨ dfind (ths.map fun t => (V.int t.addr, V.ref t.r)) (.int w) = none
  | [] => .inr rfl
  | t :: l => by
    by_cases h : t.addr = w
    · exact .inl ⟨t, List.mem_cons_self, h, dfind_eq h⟩
    · rw [List.map_cons, dfind_ne h]
      exact (ths_find w l).imp (fun ⟨u, h1, h2⟩ => ⟨u, List.mem_cons_of_mem _ h1, h2⟩) id
/-- the state of the loop -/
inductive FdI (ths : List Th) (w : Int) (H : AH) (k : Nat) (ρ : Loc) (H' : AH) : Prop
  | mk (lo hi : Nat) : H' = H → hi - lo ≤ k → lo ≤ hi → hi ≤ ths.length → (∀ (i : Nat) t, i < lo → ths[i]? = some t → t.addr ≤ w) → (∀ (i : Nat) t, hi ≤ i → ths[i]? = some t → w < t.addr) →
      look ρ 143 = some (.int lo) → look ρ 144 = some (.int hi) → look ρ 139 = some (.ref 149) → look ρ 142 = some (.int w) → FdI ths w H k ρ H'
theorem c_find {n : Nat} {ths : List Th} {top bits fresh made w : Int} {Q : V → AH → Prop} {H : AH} (P : HpI ths top bits fresh made H) (T : ThsOk ths)
    (h1 : ∀ t ∈ ths, t.addr ≤ w → w < t.addr + (t.n + 2) → Q (.ref t.r) H) (h2 : (∀ t ∈ ths, ¬ (t.addr ≤ w ∧ w < t.addr + (t.n + 2))) → Q .none H) : wp (callF (n + 1) k_find_thing [.ref 149, .int w]) Q H := by
  rw [wp_call (fd := fd_find_thing) rfl rfl]
  have hl : (ths.map fun t => V.ref t.r).length = ths.length := List.length_map ..
  have hT : ths.length ≤ 6 := T.len
  have hz : lineOk (ths.map fun t => V.ref t.r).length = true := lineOk_k (by rw [hl]; exact Nat.le_trans hT (by decide))
  have at1 : ∀ {Q : V → AH → Prop}, wp (attrV GL.fld (.ref 149) 136) Q H ↔ Q (.ref 150) H := wp_attr P.heap rfl rfl
  have at2 : ∀ {Q : V → AH → Prop}, wp (attrV GL.fld (.ref 149) 135) Q H ↔ Q (.ref 151) H := wp_attr P.heap rfl rfl
  have at3 : ∀ {Q : V → AH → Prop} {t : Th}, t ∈ ths → (wp (attrV GL.fld (.ref t.r) 117) Q H ↔ Q (.int t.addr) H) := fun ht => wp_attr (P.cell _ ht) rfl rfl
  have at4 : ∀ {Q : V → AH → Prop} {t : Th}, t ∈ ths → (wp (attrV GL.fld (.ref t.r) 121) Q H ↔ Q (.int (t.n + 2)) H) := fun ht => wp_attr (P.cell _ ht) rfl rfl
  have item : ∀ {i : Nat} {t : Th}, ths[i]? = some t → getAt (ths.map fun t => V.ref t.r) (i : Int) = some (.ref t.r) := fun {i t} h => by
    rw [getAt_in (Int.natCast_nonneg i) (Int.ofNat_lt.mpr (Nat.lt_of_lt_of_le (at_lt h) (Nat.le_trans hT (by decide)))), Int.toNat_natCast, List.getElem?_map, h]; rfl
  simp [fd_find_thing, at1, at2, wp_isDct P.at_, wp_get P.at_ (ths_key _ _) (show setKey (.int w) = true from rfl), -isNone_q]
  rcases ths_find w ths with ⟨t, ht, e, hf⟩ | hf
  · rw [hf]
    exact h1 t ht (Int.le_of_eq e) (by omega)
  · rw [hf]
    simp [at1, wp_len_lst P.things hz, hl]
    refine wp_while (k := ths.length) (FdI ths w H) (Nat.lt_of_le_of_lt hT (by decide))
      ⟨0, ths.length, rfl, Nat.le_refl _, Nat.zero_le _, Nat.le_refl _, fun i t hi => (nomatch hi), fun i t hi ht => absurd (at_lt ht) (Nat.not_lt.mpr hi), rfl, rfl, rfl, rfl⟩ ?_
    rintro k ρ H' T' ⟨lo, hi, rfl, hk, hlo, hhi, b1, b2, f1, f2, f3, f4⟩ hF hT'
    by_cases hc : lo < hi
    · simp [f1, f2, hc]
      refine hT' fun K hK => ?_
      obtain ⟨m, e1, m1, m2⟩ : ∃ m : Nat, ((lo : Int) + hi) / 2 = (m : Int) ∧ lo ≤ m ∧ m < hi := ⟨(lo + hi) / 2, by omega, by omega, by omega⟩
      obtain ⟨t, hci⟩ := ex_at (Nat.lt_of_lt_of_le m2 hhi)
      have ht : t ∈ ths := List.mem_of_getElem? hci
      simp [f1, f2, f3, f4, look_put, wp_fdiv (by decide : (2 : Int) ≠ 0), fdiv_pos, e1, at1, wp_sub_lst P.things, item hci, at3 ht]
      by_cases hw : t.addr ≤ w
      · simp [hw, look_put, f1, f2, f3, f4]
        refine hK.n ⟨hi - (m + 1), by omega, m + 1, hi, rfl, Nat.le_refl _, m2, hhi, fun i u hi' hu => ?_, b2, look_put, look_put.trans (look_put.trans f2), look_put.trans (look_put.trans f3), look_put.trans (look_put.trans f4)⟩
        rcases Nat.lt_or_eq_of_le (Nat.le_of_lt_succ hi') with h | h
        · have := T.sorted _ _ _ _ h hu hci; omega
        · subst h; rw [hci] at hu; cases hu; exact hw
      · simp [hw, look_put, f1, f2, f3, f4]
        refine hK.n ⟨m - lo, by omega, lo, m, rfl, Nat.le_refl _, m1, Nat.le_trans (Nat.le_of_lt m2) hhi, b1, fun i u hi' hu => ?_, look_put.trans (look_put.trans f1), look_put, look_put.trans (look_put.trans f3), look_put.trans (look_put.trans f4)⟩
        rcases Nat.lt_or_eq_of_le hi' with h | h
        · have := T.sorted _ _ _ _ h hci hu; omega
        · subst h; rw [hci] at hu; cases hu; exact Int.not_le.mp hw
    · obtain rfl : hi = lo := Nat.le_antisymm (Nat.not_lt.mp hc) hlo
      simp [f1, f2]
      refine hF ?_
      cases hi with
      | zero =>
        simp [f1]
        refine h2 fun t ht hw => ?_
        obtain ⟨i, hi⟩ := List.getElem?_of_mem ht
        exact absurd hw.1 (Int.not_le.mpr (b2 i t (Nat.zero_le i) hi))
      | succ m =>
        obtain ⟨t, hci⟩ := ex_at hhi
        have ht : t ∈ ths := List.mem_of_getElem? hci
        have hta := b1 m t (Nat.lt_succ_self m) hci
        have e1 := suc_pred m
        have e2 : ¬ ((m + 1 : Nat) : Int) = 0 := by omega
        simp [f1, f3, f4, look_put, at1, wp_sub_lst P.things, e1, e2, item hci, at3 ht, at4 ht, -Int.natCast_add]
        by_cases hw : w < t.addr + (t.n + 2)
        · simp [hw, look_put]
          exact h1 t ht hta hw
        · simp [hw]
          refine h2 fun u hu hw' => ?_
          obtain ⟨i, hi'⟩ := List.getElem?_of_mem hu
          rcases Nat.lt_trichotomy i m with h | h | h
          · have := T.sorted _ _ _ _ h hi' hci; omega
          · subst h; rw [hci] at hi'; cases hi'; exact hw hw'.2
          · exact absurd hw'.1 (Int.not_le.mpr (b2 i u h hi'))
end Mine
end
section
set_option maxRecDepth 100000
namespace Mine
local macro_rules | `(tactic| omega) => `(tactic| lia)
section
variable {C : Nat → List V → M V} {ρ : Loc} {H : AH} {o e : E} {Q : V → AH → Prop} {a : Nat}
theorem u_attr {f c : Nat} {fs : List (Nat × V)} {v : V} (ho : ∀ K : V → AH → Prop, K (.ref a) H → wE C o ρ K H) (h : H[a]? = some (.inst c fs)) (hf : fldIn GL.fld c f = true) (hv : look fs f = some v) (hq : Q v H) : wE C (.attr o f) ρ Q H :=
  ho (kAttr f Q) ((wp_attr h hf hv).mpr hq)
theorem u_get {l : List (V × V)} {k : V} (ho : ∀ K : V → AH → Prop, K (.ref a) H → wE C o ρ K H) (hk : ∀ K : V → AH → Prop, K k H → wE C e ρ K H) (h : H[a]? = some (.dct l)) (h1 : keyOk l k = true) (h2 : setKey k = true) (hq : Q ((dfind l k).getD .none) H) : wE C (.get o e) ρ Q H :=
  ho (kGet1 C e ρ Q) ((wp_isDct h).mpr (hk (kGet3 (.ref a) Q) ((wp_get h h1 h2).mpr hq)))
end
section
variable {C : Nat → List V → M V} {ρ : Loc} {H : AH} {f : Nat} {a b c : E} {Q : V → AH → Prop} {u v w : V}
theorem u_call1 (ha : ∀ K : V → AH → Prop, K u H → wE C a ρ K H) (h : wp (C f [u]) Q H) : wE C (.call f (.cons a .nil)) ρ Q H := ha (kEs1 C .nil ρ (kCall C f Q)) h
theorem u_call2 (ha : ∀ K : V → AH → Prop, K u H → wE C a ρ K H) (hb : ∀ K : V → AH → Prop, K v H → wE C b ρ K H) (h : wp (C f [u, v]) Q H) : wE C (.call f (.cons a (.cons b .nil))) ρ Q H :=
  ha (kEs1 C (.cons b .nil) ρ (kCall C f Q)) (hb (kEs1 C .nil ρ (kEs2 u (kCall C f Q))) h)
theorem u_call3 (ha : ∀ K : V → AH → Prop, K u H → wE C a ρ K H) (hb : ∀ K : V → AH → Prop, K v H → wE C b ρ K H) (hc : ∀ K : V → AH → Prop, K w H → wE C c ρ K H) (h : wp (C f [u, v, w]) Q H) : wE C (.call f (.cons a (.cons b (.cons c .nil)))) ρ Q H :=
  ha (kEs1 C (.cons b (.cons c .nil)) ρ (kCall C f Q)) (hb (kEs1 C (.cons c .nil) ρ (kEs2 u (kCall C f Q))) (hc (kEs1 C .nil ρ (kEs2 v (kEs2 u (kCall C f Q)))) h))
theorem u_call4 {d : E} (ha : ∀ K : V → AH → Prop, K u H → wE C a ρ K H) (hb : ∀ K : V → AH → Prop, K v H → wE C b ρ K H) (hc : ∀ K : V → AH → Prop, K w H → wE C c ρ K H) (hd : wE C d ρ (fun x H' => wp (C f [u, v, w, x]) Q H') H) : wE C (.call f (.cons a (.cons b (.cons c (.cons d .nil))))) ρ Q H :=
  ha (kEs1 C (.cons b (.cons c (.cons d .nil))) ρ (kCall C f Q)) (hb (kEs1 C (.cons c (.cons d .nil)) ρ (kEs2 u (kCall C f Q))) (hc (kEs1 C (.cons d .nil) ρ (kEs2 v (kEs2 u (kCall C f Q)))) hd))
theorem u_is (ha : ∀ K : V → AH → Prop, K u H → wE C a ρ K H) (h : Q (.bool (isNone u)) H) : wE C (.cmp .is a .none) ρ Q H := ha (kCmp1 C .is .none ρ Q) h
theorem u_subl {i : Nat} {l : List V} {k : Int} (ha : ∀ K : V → AH → Prop, K (.ref i) H → wE C a ρ K H) (hb : ∀ K : V → AH → Prop, K (.int k) H → wE C b ρ K H) (hl : H[i]? = some (.lst l)) (hv : getAt l k = some v) (h : Q v H) : wE C (.sub a b) ρ Q H :=
  ha (kSub1 C b ρ Q) (hb (kSub2 (.ref i) Q) ((wp_sub_lst hl).mpr (show oQ (getAt l k) Q H from hv ▸ h)))
end
section
variable {C : Nat → List V → M V} {ρ : Loc} {H : AH} {x : Nat} {e o i : E} {ss : Ss} {QF : Flow → AH → Prop}
theorem u_if' {c : E} {t : Ss} {b : Bool} (hc : ∀ K : V → AH → Prop, K (.bool b) H → wE C c ρ K H) (h1 : b = true → wSs C t ρ (kSeq C ss QF) H) (h0 : b = false → wSs C ss ρ QF H) : wSs C (.cons (.ite c t .nil) ss) ρ QF H := by
  refine hc (kIte1 C t .nil ρ (kSeq C ss QF)) ?_
  cases b
  · exact h0 rfl
  · exact h1 rfl
theorem u_asgE (h : wE C e ρ (fun v H' => wSs C ss (Mine.put ρ x v) QF H') H) : wSs C (.cons (.asg x e) ss) ρ QF H := h
theorem u_expE (h : wE C e ρ (fun _ H' => wSs C ss ρ QF H') H) : wSs C (.cons (.expr e) ss) ρ QF H := h
theorem u_set (h : wE C e ρ (kSI1 C o i ρ (kSeq C ss QF)) H) : wSs C (.cons (.setitem o i e) ss) ρ QF H := h
end
theorem c_slot_at {n : Nat} {t : Th} {w : Int} {l : List V} {Q : V → AH → Prop} {H : AH} (hc : H[t.r]? = some t.cell) (hr : H[t.la]? = some (.lst l)) (hl : l.length = t.n) (hn : t.n ≤ 4)
    (h : Q (.int (if 0 ≤ w - t.addr - 2 ∧ w - t.addr - 2 < t.n then w - t.addr - 2 else -1)) H) : wp (callF (n + 1) k_slot_at [.ref t.r, .int w]) Q H := by
  rw [wp_call (fd := fd_slot_at) rfl rfl]
  simp [fd_slot_at, wp_attr hc (f := 117) (v := .int t.addr) rfl rfl, -Int.sub_nonneg]
  generalize w - t.addr - 2 = x at h
  by_cases h0 : 0 ≤ x
  · simp [h0, wp_attr hc (f := 119) (v := .ref t.la) rfl rfl, wp_len_lst hr (lineOk_k (by rw [hl]; exact Nat.le_trans hn (by decide))), hl]
    by_cases h1 : x < t.n
    · rw [if_pos ⟨h0, h1⟩] at h
      simp [h1]; exact h
    · rw [if_neg (fun z => h1 z.2)] at h
      simp [h1]; exact h
  · rw [if_neg (fun z => h0 z.1)] at h
    simp [h0]; exact h
/-- a word lies in one thing -/
theorem ths_one {ths : List Th} (T : ThsOk ths) {t u : Th} {w : Int} (ht : t ∈ ths) (hu : u ∈ ths) (e1 : t.addr ≤ w) (h1 : w < t.addr + (t.n + 2)) (e2 : u.addr ≤ w) (h2 : w < u.addr + (u.n + 2)) : u = t := by
  obtain ⟨i1, hi1⟩ := List.getElem?_of_mem ht
  obtain ⟨i2, hi2⟩ := List.getElem?_of_mem hu
  rcases Nat.lt_trichotomy i1 i2 with h | h | h
  · have := T.sorted _ _ _ _ h hi1 hi2; omega
  · subst h; exact Option.some.inj (hi2.symm.trans hi1)
  · have := T.sorted _ _ _ _ h hi2 hi1; omega
theorem c_read_slot {n : Nat} {ths : List Th} {top bits fresh made w : Int} {Q : V → AH → Prop} {H : AH} (P : HpI ths top bits fresh made H) (T : ThsOk ths)
    (h1 : ∀ t ∈ ths, ∀ (j : Nat) l v, t.addr + 2 + j = w → j < t.n → H[t.la]? = some (.lst l) → l[j]? = some v → Q v H) (h2 : (∀ t ∈ ths, ∀ j : Nat, j < t.n → t.addr + 2 + j ≠ w) → Q .none H) : wp (callF (n + 2) k_read_slot [.ref 149, .int w]) Q H := by
  rw [wp_call (fd := fd_read_slot) rfl rfl]
  simp [fd_read_slot]
  refine c_find P T (fun t ht g1 g2 => ?_) (fun hn => ?_)
  · obtain ⟨l, hr, hl⟩ := P.rows t ht
    have hs := T.small t ht
    simp
    refine c_slot_at (P.cell t ht) hr hl hs.2.1 ?_
    by_cases hc : 0 ≤ w - t.addr - 2 ∧ w - t.addr - 2 < t.n
    · rw [if_pos hc]
      obtain ⟨j, hj⟩ := Int.eq_ofNat_of_zero_le hc.1
      rw [hj] at hc ⊢
      have hj1 : j < t.n := Int.ofNat_lt.mp hc.2
      obtain ⟨v, hv⟩ := ex_at (show j < l.length from hl ▸ hj1)
      have q : getAt l (j : Int) = some v := by rw [getAt_in hc.1 (Int.ofNat_lt.mpr (Nat.lt_of_lt_of_le hj1 (Nat.le_trans hs.2.1 (by decide)))), Int.toNat_natCast, hv]
      simp [show ¬ ((j : Int) < 0) from Int.not_lt.mpr (Int.natCast_nonneg j), wp_attr (P.cell t ht) (f := 119) (v := .ref t.la) rfl rfl, wp_sub_lst hr, q]
      exact h1 t ht j l v (by omega) hj1 hr hv
    · rw [if_neg hc]
      simp
      refine h2 fun u hu j hj e => ?_
      obtain rfl : u = t := ths_one T ht hu g1 g2 (by omega) (by omega)
      omega
  · simp
    refine h2 fun u hu j hj e => hn u hu ?_
    omega

noncomputable def framesL (ds : Bool) : List (V × V) := (.int 7, .ref 137) :: (if ds then [(.int 12, .ref 143)] else [(.int 9, .ref 139), (.int 12, .ref 143)])
noncomputable def frame (n h : Int) (a l k : Nat) : Cell := .inst 162 [(2, .int n), (161, .int h), (47, .ref a), (159, .ref l), (160, .ref k)]
structure Fix (ds : Bool) (H : AH) : Prop where
  ph : H[175]? = some (.inst 157 [(139, .ref 149), (155, .ref 173), (156, .ref 174)])
  frames : H[173]? = some (.dct (framesL ds))
  statics : H[174]? = some (.dct [(.int 19, .ref 124)])
  f7 : H[137]? = some (frame 7 7 110 116 119)
  f9 : H[139]? = some (frame 9 9 120 122 140)
/-- the slots that a place lies in -/
noncomputable def slotsR (ds : Bool) (k a i : Int) : V :=
  if k = 4 then (if a = 19 then .ref 124 else .none)
  else if a = 7 then (if k = 2 then .ref 110 else if i = -1 then .ref 119 else .ref 116)
  else if a = 9 then (if ds then .none else if k = 2 then .ref 120 else if i = -1 then .ref 140 else .ref 122)
  else .none
theorem frames_key (ds : Bool) (k : Int) : keyOk (framesL ds) (.int k) = true := by cases ds <;> rfl
/-- the frame that holds the slots -/
noncomputable def frameR (ds : Bool) (a : Int) : V := if a = 7 then .ref 137 else if a = 9 then (if ds then .none else .ref 139) else .none
theorem frames_find (ds : Bool) {a : Int} (h : a ≠ 12) : (dfind (framesL ds) (.int a)).getD .none = frameR ds a := by
  unfold frameR
  by_cases h7 : a = 7
  · subst h7; rfl
  rw [if_neg h7]
  by_cases h9 : a = 9
  · subst h9; cases ds <;> rfl
  rw [if_neg h9]
  have e : dfind (framesL ds) (.int a) = none := (dfind_ne fun e => h7 e.symm).trans (by
    cases ds
    · exact (dfind_ne fun e => h9 e.symm).trans (dfind_ne fun e => h e.symm)
    · exact dfind_ne fun e => h e.symm)
  rw [e]; rfl
theorem u_frame {C : Nat → List V → M V} {H : AH} {Q : V → AH → Prop} {k a i : Int} {p : List Int} {r x y z : Nat} {n h : Int} (f : H[r]? = some (frame n h x y z)) (hq : Q (if k = 2 then .ref x else if i = -1 then .ref z else .ref y) H) :
    wSs C (.cons (.ite (.cmp .is (.loc 164) .none) (.cons (.ret .none) .nil) .nil)
    (.cons (.ite (.cmp .eq (.sub (.loc 104) (.int 0)) (.glb 167)) (.cons (.ret (.attr (.loc 164) 47)) .nil) .nil)
    (.cons (.ite (.cmp .eq (.sub (.loc 104) (.int 2)) (.glb 169)) (.cons (.ret (.attr (.loc 164) 160)) .nil) .nil)
    (.cons (.ret (.attr (.loc 164) 159)) .nil)))) [(177, .ref 175), (104, plV (.slot k a i) p), (164, .ref r)] (kFin Q) H := by
  refine u_no' (fun K h => h) (u_if (b := decide (k = 2)) (fun K h => h) (fun e => ?_) (fun e => ?_))
  · rw [if_pos (of_decide_eq_true e)] at hq
    exact u_ret (u_attr (fun K h => h) f rfl rfl hq)
  rw [if_neg (of_decide_eq_false e)] at hq
  refine u_if (b := decide (i = -1)) (fun K h => h) (fun e => ?_) (fun e => ?_)
  · rw [if_pos (of_decide_eq_true e)] at hq
    exact u_ret (u_attr (fun K h => h) f rfl rfl hq)
  · rw [if_neg (of_decide_eq_false e)] at hq
    exact u_ret (u_attr (fun K h => h) f rfl rfl hq)
theorem c_slots_of {n : Nat} {ds : Bool} {k a i : Int} {p : List Int} {Q : V → AH → Prop} {H : AH} (F : Fix ds H) (ha : a ≠ 12) (h : Q (slotsR ds k a i) H) : wp (callF (n + 1) k_slots_of [.ref 175, plV (.slot k a i) p]) Q H := by
  rw [wp_call (fd := fd_slots_of) rfl rfl]
  unfold slotsR at h
  refine u_if (b := decide (k = 4)) (fun K h => h) (fun e => ?_) (fun e => ?_)
  · rw [if_pos (of_decide_eq_true e)] at h
    refine u_ret (u_get (k := .int a) (fun K h => u_attr (fun K h => h) F.ph rfl rfl h) (fun K h => h) F.statics rfl rfl ?_)
    by_cases h19 : a = 19
    · subst h19; exact h
    · rw [if_neg h19] at h
      rw [dfind_ne fun e => h19 e.symm]; exact h
  · rw [if_neg (of_decide_eq_false e)] at h
    refine u_asg (v := frameR ds a) (fun K h => u_get (k := .int a) (fun K h => u_attr (fun K h => h) F.ph rfl rfl h) (fun K h => h) F.frames (frames_key ds a) rfl (by rw [frames_find ds ha]; exact h)) ?_
    by_cases h7 : a = 7
    · subst h7; exact u_frame F.f7 h
    rw [if_neg h7] at h
    unfold frameR
    rw [if_neg h7]
    by_cases h9 : a = 9
    · subst h9
      cases ds with
      | true => exact h
      | false => exact u_frame F.f9 h
    · rw [if_neg h9] at h ⊢
      exact h
noncomputable def idxI (k i : Int) : Int := if k = 1 ∧ i = -1 then 0 else i
/-- where a place lies: a list of slots, and which -/
inductive PlAt (ds : Bool) (ths : List Th) : Pl → Nat → Nat → Prop
  | slot (k a i : Int) (la j : Nat) : k ≠ 3 → a ≠ 12 → slotsR ds k a i = .ref la → idxI k i = j → PlAt ds ths (.slot k a i) la j
  | heap (w : Int) (t : Th) (j : Nat) : t ∈ ths → t.addr + 2 + j = w → j < t.n → PlAt ds ths (.heap w) t.la j
/-- the place is none -/
inductive No (ds : Bool) (ths : List Th) (H : AH) : Pl → Prop
  | slot (k a i : Int) : k ≠ 3 → a ≠ 12 → slotsR ds k a i = .none → No ds ths H (.slot k a i)
  | out (k a i : Int) (la : Nat) (l : List V) : k ≠ 3 → a ≠ 12 → slotsR ds k a i = .ref la → H[la]? = some (.lst l) → l.length ≤ 1000 → (idxI k i < 0 ∨ (l.length : Int) ≤ idxI k i) → No ds ths H (.slot k a i)
  | heap (w : Int) : (∀ t ∈ ths, ∀ j : Nat, j < t.n → t.addr + 2 + j ≠ w) → No ds ths H (.heap w)
theorem c_whole_at {n : Nat} {ds : Bool} {ths : List Th} {top bits fresh made : Int} {pl : Pl} {la j : Nat} {p : List Int} {l : List V} {v : V} {Q : V → AH → Prop} {H : AH} (F : Fix ds H) (P : HpI ths top bits fresh made H) (T : ThsOk ths)
    (hA : PlAt ds ths pl la j) (hr : H[la]? = some (.lst l)) (hll : l.length ≤ 1000) (hv : l[j]? = some v) (h : Q v H) : wp (callF (n + 3) k_read_whole [.ref 175, plV pl p]) Q H := by
  rw [wp_call (fd := fd_read_whole) rfl rfl]
  cases hA with
  | slot k a i _ _ hk ha hs hi =>
    simp [fd_read_whole, hk, show ∀ p, plV (.slot k a i) p = .tup [.int k, .int a, .int i, .tup (ivs p)] from fun _ => rfl]
    refine c_slots_of (p := p) F ha ?_
    rw [hs]
    simp
    refine c_index (p := p) ?_
    rw [show (if k = 1 ∧ i = -1 then (0 : Int) else i) = (j : Int) from hi]
    have hj := at_lt hv
    have q : getAt l (j : Int) = some v := by rw [getAt_in (by omega) (by omega), Int.toNat_natCast, hv]
    have e1 : ¬ (l.length ≤ j) := by omega
    have e0 : ¬ ((j : Int) < 0) := by omega
    simp [e0, wp_len_lst hr (lineOk_of (by omega)), e1, wp_sub_lst hr, q]
    exact h
  | heap w t _ ht hw hj =>
    simp [fd_read_whole, plV, wp_attr F.ph (f := 139) (v := .ref 149) rfl rfl]
    refine c_read_slot P T (fun u hu i l' v' g1 g2 g3 g4 => ?_) (fun g => absurd hw (g t ht j hj))
    have e : u = t := ths_one T ht hu (w := w) (by omega) (by omega) (by omega) (by omega)
    have : u = t ∧ i = j := ⟨e, by subst e; omega⟩
    obtain ⟨rfl, rfl⟩ := this
    rw [hr] at g3; cases g3
    rw [hv] at g4; cases g4
    simpa using h
theorem c_whole_no {n : Nat} {ds : Bool} {ths : List Th} {top bits fresh made : Int} {pl : Pl} {p : List Int} {Q : V → AH → Prop} {H : AH} (F : Fix ds H) (P : HpI ths top bits fresh made H) (T : ThsOk ths)
    (hN : No ds ths H pl) (h : Q .none H) : wp (callF (n + 3) k_read_whole [.ref 175, plV pl p]) Q H := by
  rw [wp_call (fd := fd_read_whole) rfl rfl]
  cases hN with
  | slot k a i hk ha hs =>
    simp [fd_read_whole, hk, show ∀ p, plV (.slot k a i) p = .tup [.int k, .int a, .int i, .tup (ivs p)] from fun _ => rfl]
    refine c_slots_of (p := p) F ha ?_
    rw [hs]
    simpa using h
  | out k a i la l hk ha hs hr hll hi =>
    simp [fd_read_whole, hk, show ∀ p, plV (.slot k a i) p = .tup [.int k, .int a, .int i, .tup (ivs p)] from fun _ => rfl]
    refine c_slots_of (p := p) F ha ?_
    rw [hs]
    simp
    refine c_index (p := p) ?_
    rw [show (if k = 1 ∧ i = -1 then (0 : Int) else i) = idxI k i from rfl]
    by_cases h0 : idxI k i < 0
    · simp [h0]; exact h
    · have h1 : (l.length : Int) ≤ idxI k i := by omega
      simp [h0, wp_len_lst hr (lineOk_of (by omega)), h1]; exact h
  | heap w hw =>
    simp [fd_read_whole, plV, wp_attr F.ph (f := 139) (v := .ref 149) rfl rfl]
    refine c_read_slot P T (fun u hu i l' v' g1 g2 g3 g4 => absurd g1 (hw u hu i g2)) (fun g => ?_)
    simpa using h
theorem No.ok {ds : Bool} {ths : List Th} {H : AH} {pl : Pl} (h : No ds ths H pl) : pl.ok := by cases h <;> first | assumption | trivial
theorem PlAt.ok {ds : Bool} {ths : List Th} {pl : Pl} {la j : Nat} (h : PlAt ds ths pl la j) : pl.ok := by cases h <;> first | assumption | trivial
theorem oV_none {v : Option V} : isNone (oV v) = v.isNone ∨ ∃ x, v = some x ∧ x = .none := by
  cases v with
  | none => exact .inl rfl
  | some x => cases x <;> first | exact .inl rfl | exact .inr ⟨_, rfl, rfl⟩
theorem OKv.ne {v : V} (h : OKv v) : isNone v = false := by cases h <;> rfl
theorem c_read_at {n : Nat} {ds : Bool} {ths : List Th} {top bits fresh made : Int} {pl : Pl} {la j : Nat} {p : List Int} {l : List V} {v : V} {Q : V → AH → Prop} {H : AH} (F : Fix ds H) (P : HpI ths top bits fresh made H) (T : ThsOk ths)
    (hA : PlAt ds ths pl la j) (hr : H[la]? = some (.lst l)) (hll : l.length ≤ 1000) (hv : l[j]? = some v) (ok : OKv v) (hp : ∀ s ∈ p, s < 2 ^ 63) (hpl : p.length < 400) (h : Q (oV (getP v p)) H) : wp (callF (n + 4) k_read_place [.ref 175, plV pl p]) Q H := by
  rw [wp_call (fd := fd_read_place) rfl rfl]
  simp [fd_read_place, -isNone_q]
  refine c_whole_at F P T hA hr hll hv ?_
  simp [ok.ne, -isNone_q]
  refine c_path hA.ok ?_
  refine c_get_path ok hp hpl ?_
  simpa using h
theorem c_read_no {n : Nat} {ds : Bool} {ths : List Th} {top bits fresh made : Int} {pl : Pl} {p : List Int} {Q : V → AH → Prop} {H : AH} (F : Fix ds H) (P : HpI ths top bits fresh made H) (T : ThsOk ths)
    (hN : No ds ths H pl) (h : Q .none H) : wp (callF (n + 4) k_read_place [.ref 175, plV pl p]) Q H := by
  rw [wp_call (fd := fd_read_place) rfl rfl]
  simp [fd_read_place]
  refine c_whole_no F P T hN ?_
  simpa using h
end Mine
end
section
set_option maxRecDepth 100000
namespace Mine
local macro_rules | `(tactic| omega) => `(tactic| lia)
section
variable {QU : Unit → AH → Prop} {H : AH}
theorem wp_set_dct {a : Nat} {l : List (V × V)} {k v : V} (h : H[a]? = some (.dct l)) (hk : keyOk l k = true) (hs : setKey k = true) (hl : lineOk l.length = true) : wp (setV (.ref a) k v) QU H ↔ QU () (H.set a (.dct (dput l k v))) := by
  show setC H[a]? a k v QU H ↔ _
  rw [h]; exact Iff.of_eq (bQ_is (by rw [hk, hs, hl]; rfl))
end
theorem at_ne {H : AH} {a b : Nat} {c d : Cell} (h : H[a]? = some c) (h' : H[b]? = some d) (hcd : c ≠ d) : a ≠ b := fun e => by subst e; exact hcd (Option.some.inj (h.symm.trans h'))
/-- all keys are ints -/
noncomputable def IntKeys (l : List (V × V)) : Prop := ∀ p ∈ l, ∃ a b : Int, p = (.int a, .int b)
theorem IntKeys.key {l : List (V × V)} (h : IntKeys l) (k : Int) : keyOk l (.int k) = true := key_all k fun p hp => have ⟨a, b, e⟩ := h p hp; ⟨a, .int b, e⟩
theorem dput_eq {l : List (V × V)} {k j : Int} {u v : V} (h : j = k) : dput ((.int j, u) :: l) (.int k) v = (.int j, v) :: l := by
  show (match decide (j = k) with | true => _ | false => _) = _
  rw [decide_eq_true h]
theorem dput_ne {l : List (V × V)} {k j : Int} {u v : V} (h : j ≠ k) : dput ((.int j, u) :: l) (.int k) v = (.int j, u) :: dput l (.int k) v := by
  show (match decide (j = k) with | true => _ | false => _) = _
  rw [decide_eq_false h]
theorem IntKeys.put {l : List (V × V)} (h : IntKeys l) (k v : Int) : IntKeys (dput l (.int k) (.int v)) := by
  induction l with
  | nil => exact fun p hp => ⟨k, v, List.mem_singleton.mp hp⟩
  | cons q l ih =>
    obtain ⟨a, b, rfl⟩ := h q List.mem_cons_self
    have ih := ih fun p hp => h p (List.mem_cons_of_mem _ hp)
    intro p hp
    by_cases e : a = k
    · rw [dput_eq e] at hp
      exact (List.mem_cons.mp hp).elim (fun e => ⟨a, v, e⟩) fun hp => h p (List.mem_cons_of_mem _ hp)
    · rw [dput_ne e] at hp
      exact (List.mem_cons.mp hp).elim (fun e => ⟨a, b, e⟩) (ih p)
theorem dput_len (l : List (V × V)) (k v : V) : (dput l k v).length ≤ l.length + 1 := by
  induction l with
  | nil => exact Nat.le_refl _
  | cons q l ih =>
    show (match keyEq q.1 k with | true => (q.1, v) :: l | false => (q.1, q.2) :: dput l k v).length ≤ _
    cases keyEq q.1 k with
    | true => exact Nat.le_succ _
    | false => exact Nat.succ_le_succ ih
/-- what a write leaves -/
structure Wrote (H H' : AH) (la : Nat) (l' : List V) (cs' : List (V × V)) : Prop where
  row : H'[la]? = some (.lst l')
  cards : H'[152]? = some (.dct cs')
  fr : ∀ a c, a ≠ la → a ≠ 152 → H[a]? = some c → H'[a]? = some c
/-- the cards behind a write of the word's slot -/
noncomputable def cardsOf (bits gen w : Int) (x : V) (cs : List (V × V)) : List (V × V) := if gen > 0 ∧ (adr x).isEmpty = false then dput cs (.int (w.fdiv (2 ^ bits.toNat))) (.int 1) else cs
/-- a value that holds_reference can be asked of -/
structure Fine (x : V) : Prop where
  vd : Vd 3 x
  nds : nds x < 390
  adr : (adr x).length < 390
theorem c_store {n : Nat} {ths : List Th} {top bits fresh made : Int} {t : Th} {j : Nat} {l : List V} {x : V} {cs : List (V × V)} {Q : V → AH → Prop} {H : AH} (P : HpI ths top bits fresh made H) (hb : 0 ≤ bits) (ht : t ∈ ths)
    (hr : H[t.la]? = some (.lst l)) (hj : j < l.length) (hll : l.length ≤ 1000) (hcs : H[152]? = some (.dct cs)) (hck : IntKeys cs) (hcl : cs.length ≤ 1000) (fx : Fine x)
    (h : ∀ H', Wrote H H' t.la (l.set j x) (cardsOf bits t.gen (t.addr + 2 + j) x cs) → Q .none H') : wp (callF (n + 3) k_store_slot [.ref 149, .ref t.r, .int j, x]) Q H := by
  rw [wp_call (fd := fd_store_slot) rfl rfl]
  have hc := P.cell t ht
  have n1 : t.la ≠ t.r := by exact at_ne hr hc nofun
  have n2 : t.la ≠ 149 := by exact at_ne hr P.heap nofun
  have n3 : t.la ≠ 152 := by exact at_ne hr hcs nofun
  simp [fd_store_slot, wp_attr hc (f := 119) (v := .ref t.la) rfl rfl]
  refine (wp_set_lst hr (Int.natCast_nonneg j) (Int.ofNat_lt.mpr hj) (by omega)).mpr ?_
  rw [Int.toNat_natCast]
  have hc' : (H.set t.la (.lst (l.set j x)))[t.r]? = some t.cell := by rw [set_ne n1]; exact hc
  have hp' : (H.set t.la (.lst (l.set j x)))[149]? = _ := (set_ne n2).trans P.heap
  have hcs' : (H.set t.la (.lst (l.set j x)))[152]? = some (.dct cs) := (set_ne n3).trans hcs
  have hr' : (H.set t.la (.lst (l.set j x)))[t.la]? = some (.lst (l.set j x)) := set_at hr
  simp [wp_attr hc' (f := 122) (v := .int t.gen) rfl rfl]
  by_cases hg : 0 < t.gen
  · simp [hg]
    refine c_holds fx.vd (by decide) fx.nds fx.adr fun H' ex => ?_
    cases ha : (adr x).isEmpty with
    | true =>
      have e : cardsOf bits t.gen (t.addr + 2 + j) x cs = cs := if_neg fun z => Bool.noConfusion (ha.symm.trans z.2)
      rw [e] at h
      simp
      exact h H' ⟨ex.at hr', ex.at hcs', fun a c a1 a2 hac => ex.at (by rw [set_ne (fun e => a1 e.symm)]; exact hac)⟩
    | false =>
      have e : cardsOf bits t.gen (t.addr + 2 + j) x cs = dput cs (.int ((t.addr + 2 + j).fdiv (2 ^ bits.toNat))) (.int 1) := if_pos ⟨hg, ha⟩
      rw [e] at h
      simp [wp_attr (ex.at hp') (f := 133) (v := .ref 152) rfl rfl]
      rw [wp_call (fd := fd_slot_word) rfl rfl]
      simp [fd_slot_word, wp_attr (ex.at hc') (f := 117) (v := .int t.addr) rfl rfl]
      rw [wp_call (fd := fd_card_number) rfl rfl]
      simp [fd_card_number, wp_attr (ex.at hp') (f := 126) (v := .int bits) rfl rfl, wp_shr hb]
      refine (wp_set_dct (ex.at hcs') (hck.key _) rfl (lineOk_k hcl)).mpr ?_
      exact h _ ⟨by rw [set_ne n3.symm]; exact ex.at hr', set_at (ex.at hcs'), fun a c a1 a2 hac => by rw [set_ne (fun e => a2 e.symm)]; exact ex.at (by rw [set_ne (fun e => a1 e.symm)]; exact hac)⟩
  · have e : cardsOf bits t.gen (t.addr + 2 + j) x cs = cs := if_neg fun z => hg z.1
    rw [e] at h
    simp [hg]
    exact h _ ⟨hr', hcs', fun a c a1 a2 hac => by rw [set_ne (fun e => a1 e.symm)]; exact hac⟩
theorem HpI.ext {ths : List Th} {top bits fresh made : Int} {H H' : AH} (P : HpI ths top bits fresh made H) (e : Ext H H') : HpI ths top bits fresh made H' :=
  ⟨e.at P.heap, e.at P.things, e.at P.at_, fun t ht => e.at (P.cell t ht), fun t ht => let ⟨l, a, b⟩ := P.rows t ht; ⟨l, e.at a, b⟩⟩
theorem Fix.ext {ds : Bool} {H H' : AH} (P : Fix ds H) (e : Ext H H') : Fix ds H' := ⟨e.at P.ph, e.at P.frames, e.at P.statics, e.at P.f7, e.at P.f9⟩
theorem Wrote.ext {H H1 H' : AH} {la : Nat} {l' : List V} {cs' : List (V × V)} (e : Ext H H1) (w : Wrote H1 H' la l' cs') : Wrote H H' la l' cs' := ⟨w.row, w.cards, fun a c a1 a2 hc => w.fr a c a1 a2 (e.at hc)⟩
/-- the cards behind a write of a place -/
noncomputable def CardsAft (ths : List Th) (bits : Int) (pl : Pl) (x : V) (cs cs' : List (V × V)) : Prop := match pl with
  | .slot _ _ _ => cs' = cs
  | .heap w => ∃ t ∈ ths, ∃ j : Nat, t.addr + 2 + j = w ∧ j < t.n ∧ cs' = cardsOf bits t.gen w x cs
theorem c_write_at {n : Nat} {ds : Bool} {ths : List Th} {top bits fresh made : Int} {pl : Pl} {la j : Nat} {p : List Int} {l : List V} {v v' w : V} {cs : List (V × V)} {Q : V → AH → Prop} {H : AH} (F : Fix ds H) (P : HpI ths top bits fresh made H) (T : ThsOk ths)
    (hA : PlAt ds ths pl la j) (hr : H[la]? = some (.lst l)) (hll : l.length ≤ 1000) (hv : l[j]? = some v) (ok : OKv v) (hp : ∀ s ∈ p, s < 2 ^ 63) (hpl : p.length < 300) (hg : getP v p = some v') (ok' : OKv v')
    (hb : 0 ≤ bits) (hcs : H[152]? = some (.dct cs)) (hck : IntKeys cs) (hcl : cs.length ≤ 1000) (fx : Fine (putP v p w))
    (h : ∀ H' cs', Wrote H H' la (l.set j (putP v p w)) cs' → CardsAft ths bits pl (putP v p w) cs cs' → Q (.bool true) H') : wp (callF (n + 6) k_write_place [.ref 175, plV pl p, w]) Q H := by
  rw [wp_call (fd := fd_write_place) rfl rfl]
  have hj := at_lt hv
  refine u_asg (v := v) (fun K h => u_call2 (fun K h => h) (fun K h => h) (c_whole_at F P T hA hr hll hv h)) ?_
  refine u_no' (fun K h => u_or (a := false) (fun K h => u_is (fun K h => h) (by rw [ok.ne]; exact h)) (fun _ K h => u_or1 (a := false) (fun K h => u_is (u := v') (fun K h => u_call2 (fun K h => h) (fun K h => u_call1 (fun K h => h) (c_path hA.ok h)) (c_get_path ok hp (Nat.lt_trans hpl (by decide)) (by rw [hg]; exact h))) (by rw [ok'.ne]; exact h)) h) h) ?_
  have hq : getAt l (j : Int) = some v := by rw [getAt_in (by omega) (by omega), Int.toNat_natCast, hv]
  cases hA with
  | slot k a i _ _ hk ha hs hi =>
    refine u_if' (b := decide (k = 3)) (fun K h => h) (fun e => absurd (of_decide_eq_true e) hk) (fun _ => ?_)
    refine u_asg (v := .ref la) (fun K h => u_call2 (fun K h => h) (fun K h => h) (c_slots_of (p := p) F ha (by rw [hs]; exact h))) ?_
    refine u_set (u_call3 (fun K h => h) (fun K h => h) (fun K h => h) (c_put_path ok hg hp hpl fun l0 => ?_))
    refine c_index (p := p) ?_
    rw [show (if k = 1 ∧ i = -1 then (0 : Int) else i) = (j : Int) from hi]
    have ex : Ext H (H ++ l0) := ⟨l0, rfl⟩
    have n3 : la ≠ 152 := by exact at_ne hr hcs nofun
    refine (wp_set_lst (ex.at hr) (Int.natCast_nonneg j) (Int.ofNat_lt.mpr hj) (by omega)).mpr ?_
    rw [Int.toNat_natCast]
    exact h _ cs ⟨set_at (ex.at hr), by rw [set_ne n3]; exact ex.at hcs, fun a c a1 a2 hac => by rw [set_ne (fun e => a1 e.symm)]; exact ex.at hac⟩ rfl
  | heap w0 t _ ht hw hjn =>
    have hs := T.small t ht
    have hc := P.cell t ht
    obtain ⟨l2, hr2, hl2⟩ := P.rows t ht
    rw [hr] at hr2; cases hr2
    refine u_yes (fun K h => h) (u_ret (u_call4 (fun K h => u_attr (fun K h => h) F.ph rfl rfl h) (fun K h => h) (fun K h => h) ?_))
    show wp (callF (n + 5) 153 [.ref 149, .int w0, .tup (ivs p), w]) _ H
    rw [wp_call (fd := fd_write_slot) rfl rfl]
    refine u_asg (v := .ref t.r) (fun K h => u_call2 (fun K h => h) (fun K h => h) (c_find P T (fun u hu g1 g2 => ths_one T ht hu (w := w0) (by omega) (by omega) g1 g2 ▸ h) (fun hn => absurd (And.intro (by omega) (by omega)) (hn t ht)))) ?_
    refine u_no' (fun K h => h) (u_asg (v := .int j) (fun K h => u_call2 (fun K h => h) (fun K h => h) (c_slot_at hc hr hl2 hs.2.1 ?_)) ?_)
    · rw [show w0 - t.addr - 2 = (j : Int) by omega, if_pos ⟨Int.natCast_nonneg j, Int.ofNat_lt.mpr hjn⟩]; exact h
    have slot : ∀ {C ρ K H'}, Ext H H' → look ρ 140 = some (.ref t.r) → look ρ 101 = some (.int j) → K v H' → wE C (.sub (.attr (.loc 140) 119) (.loc 101)) ρ K H' := fun {C ρ K H'} ex e1 e2 h =>
      u_subl (fun K h => u_attr (fun K h => by rw [w_loc, e1]; exact h) (ex.at hc) rfl rfl h) (fun K h => by rw [w_loc, e2]; exact h) (ex.at hr) hq h
    refine u_no' (fun K h => h) (u_no' (fun K h => u_is (u := v') (fun K h => u_call2 (fun K h => slot (.refl H) rfl rfl h) (fun K h => h) (c_get_path ok hp (Nat.lt_trans hpl (by decide)) (by rw [hg]; exact h))) (by rw [ok'.ne]; exact h)) ?_)
    refine u_expE (u_call4 (fun K h => h) (fun K h => h) (fun K h => h) (u_call3 (fun K h => slot (.refl H) rfl rfl h) (fun K h => h) (fun K h => h) (c_put_path ok hg hp hpl fun l0 => ?_)))
    have ex : Ext H (H ++ l0) := ⟨l0, rfl⟩
    refine c_store (P.ext ex) hb ht (ex.at hr) hj hll (ex.at hcs) hck hcl fx fun H' W => ?_
    exact h H' _ (W.ext ex) ⟨t, ht, j, hw, hjn, by rw [hw]⟩
theorem c_write_no {n : Nat} {ds : Bool} {ths : List Th} {top bits fresh made : Int} {pl : Pl} {p : List Int} {w : V} {Q : V → AH → Prop} {H : AH} (F : Fix ds H) (P : HpI ths top bits fresh made H) (T : ThsOk ths)
    (hN : No ds ths H pl) (h : Q (.bool false) H) : wp (callF (n + 4) k_write_place [.ref 175, plV pl p, w]) Q H := by
  rw [wp_call (fd := fd_write_place) rfl rfl]
  refine u_asg (v := .none) (fun K h => u_call2 (fun K h => h) (fun K h => h) (c_whole_no F P T hN h)) ?_
  exact u_yes (fun K h => u_or (a := true) (b := true) (fun K h => h) nofun h) (u_ret h)
theorem c_write_bad {n : Nat} {ds : Bool} {ths : List Th} {top bits fresh made : Int} {pl : Pl} {la j : Nat} {p : List Int} {l : List V} {v w : V} {Q : V → AH → Prop} {H : AH} (F : Fix ds H) (P : HpI ths top bits fresh made H) (T : ThsOk ths)
    (hA : PlAt ds ths pl la j) (hr : H[la]? = some (.lst l)) (hll : l.length ≤ 1000) (hv : l[j]? = some v) (ok : OKv v) (hp : ∀ s ∈ p, s < 2 ^ 63) (hpl : p.length < 300) (hg : getP v p = none)
    (h : Q (.bool false) H) : wp (callF (n + 4) k_write_place [.ref 175, plV pl p, w]) Q H := by
  rw [wp_call (fd := fd_write_place) rfl rfl]
  refine u_asg (v := v) (fun K h => u_call2 (fun K h => h) (fun K h => h) (c_whole_at F P T hA hr hll hv h)) ?_
  exact u_yes (fun K h => u_or (a := false) (fun K h => u_is (fun K h => h) (by rw [ok.ne]; exact h)) (fun _ K h => u_or1 (a := true) (fun K h => u_is (u := .none) (fun K h => u_call2 (fun K h => h) (fun K h => u_call1 (fun K h => h) (c_path hA.ok h)) (c_get_path ok hp (Nat.lt_trans hpl (by decide)) (by rw [hg]; exact h))) h) h) h) (u_ret h)
end Mine
end
section
set_option maxRecDepth 100000
namespace Mine
local macro_rules | `(tactic| omega) => `(tactic| lia)
theorem tagI_ne {k : Int} (h0 : 1 ≤ k) (h1 : k ≤ 11) : tagI k ≠ 4 ∧ tagI k ≠ 5 := num_el h0 h1 (by decide) (by decide) (by decide) (by decide) (by decide) (by decide) (by decide) (by decide) (by decide) (by decide) (by decide)
theorem KV.vd {k : Int} {v : V} (h : KV k v) : ∀ d, dK k ≤ d → Vd d v := by
  induction h with
  | num k n h0 h1 => exact fun d _ => .num d _ _ (tagI_ne h0 h1).1 (tagI_ne h0 h1).2
  | ftn m => exact fun d _ => .ftn d m
  | ref a => exact fun d _ => .ref d a
  | node k vs hs hl hv ih =>
    intro d hd
    cases d with
    | zero => exact absurd hd (shape_el (P := fun k => ¬ dK k ≤ 0) hs (by decide) (by decide) (by decide))
    | succ d =>
      refine .node d k vs (by rw [hl]; exact kids_len k) fun v hvm => ?_
      obtain ⟨i, hi⟩ := List.getElem?_of_mem hvm
      obtain ⟨k', hk⟩ := ex_at (show i < (kidsOf k).length from hl ▸ at_lt hi)
      exact ih i k' v hk hi d (Nat.le_of_lt_succ (Nat.lt_of_lt_of_le (kids_dK hk) hd))
noncomputable def nK (k : Int) : Nat := if k = 16 then 11 else if k = 17 then 16 else if k = 18 then 35 else 3
noncomputable def aK (k : Int) : Nat := if k = 16 then 3 else if k = 17 then 4 else if k = 18 then 9 else 1
theorem shape_ifs {α : Type} {k : Int} {P : α → Prop} {a b c d : α} (h1 : P a) (h2 : P b) (h3 : P c) (h4 : P d) : P (if k = 16 then a else if k = 17 then b else if k = 18 then c else d) := by
  by_cases e : k = 16
  · rw [if_pos e]; exact h1
  rw [if_neg e]
  by_cases e : k = 17
  · rw [if_pos e]; exact h2
  rw [if_neg e]
  by_cases e : k = 18
  · rw [if_pos e]; exact h3
  rw [if_neg e]; exact h4
theorem sum_le (f : V → Nat) (g : Int → Nat) : ∀ (ks : List Int) (vs : List V), vs.length = ks.length → (∀ (i : Nat) k v, ks[i]? = some k → vs[i]? = some v → f v ≤ g k) → (vs.map f).sum ≤ (ks.map g).sum
  | [], [], _, _ => Nat.le_refl _
  | [], _ :: _, h, _ => by cases h
  | _ :: _, [], h, _ => by cases h
  | k :: ks, v :: vs, h, hi => by
    rw [List.map_cons, List.map_cons, List.sum_cons, List.sum_cons]
    exact Nat.add_le_add (hi 0 k v rfl rfl) (sum_le f g ks vs (Nat.succ.inj h) fun i k' v' h1 h2 => hi (i + 1) k' v' h1 h2)
theorem ndss_sum : ∀ vs : List V, ndss vs = (vs.map nds).sum
  | [] => rfl
  | v :: l => by rw [ndss_cons, List.map_cons, List.sum_cons, ndss_sum l]
theorem adrs_sum : ∀ vs : List V, (adrs vs).length = (vs.map fun v => (adr v).length).sum
  | [] => rfl
  | v :: l => by rw [adrs_cons, List.length_append, List.map_cons, List.sum_cons, adrs_sum l]
theorem nK_pos (k : Int) : 3 ≤ nK k := shape_ifs (by decide) (by decide) (by decide) (by decide)
theorem KV.nds {k : Int} {v : V} (h : KV k v) : Mine.nds v ≤ nK k := by
  induction h with
  | num k n h0 h1 => exact Nat.le_trans (show 1 ≤ 3 by decide) (nK_pos k)
  | ftn m => exact nK_pos _
  | ref a => exact Nat.le_trans (show 1 ≤ 3 by decide) (nK_pos _)
  | node k vs hs hl hv ih =>
    rw [nds_node, ndss_sum, show nK k = ((kidsOf k).map nK).sum + 1 + 1 from shape_el hs rfl rfl rfl]
    exact Nat.succ_le_succ (Nat.succ_le_succ (sum_le Mine.nds nK _ _ hl ih))
theorem KV.adr {k : Int} {v : V} (h : KV k v) : (Mine.adr v).length ≤ aK k := by
  induction h with
  | num k n h0 h1 => rw [adr_num (tagI_ne h0 h1).1]; exact Nat.zero_le _
  | ftn m => exact Nat.zero_le _
  | ref a =>
    by_cases h : a = 0
    · subst h; exact Nat.zero_le _
    · rw [adr_ref h]; exact Nat.le_refl _
  | node k vs hs hl hv ih =>
    rw [adr_node, adrs_sum, show aK k = ((kidsOf k).map aK).sum from shape_el hs rfl rfl rfl]
    exact sum_le (fun v => (Mine.adr v).length) aK _ _ hl ih
theorem KV.fine {k : Int} {v : V} (h : KV k v) : Fine v :=
  ⟨h.vd 3 (dK_le k), Nat.lt_of_le_of_lt (Nat.le_trans h.nds (shape_ifs (P := fun n => n ≤ 35) (by decide) (by decide) (by decide) (by decide) : nK k ≤ 35)) (by decide),
    Nat.lt_of_le_of_lt (Nat.le_trans h.adr (shape_ifs (P := fun n => n ≤ 9) (by decide) (by decide) (by decide) (by decide) : aK k ≤ 9)) (by decide)⟩
theorem KV.okv {k : Int} {v : V} (h : KV k v) : OKv v := (h.vd 3 (dK_le k)).ok
theorem KV.it {k : Int} {v : V} (h : KV k v) : Mine.it 9 v = true := (h.vd 3 (dK_le k)).it

structure Grp where
  la : Nat
  ca : Nat
  off : Nat
  n : Nat
  deriving DecidableEq
structure Sg where
  N : Nat
  pl : Nat → Pl
  tr : Nat → Tr
  val : Nat → V
  grp : List Grp
  ths : List Th
  sp : List V
  ds : Bool
  cards : List (V × V)
  top : Int
  fresh : Int
  made : Int
noncomputable def othersV : List V := [.tup [.int 4, .tup [.int 13, .int 14, .int 19, .int 21, .int 22]], .tup [.int 6, .tup [.int 23, .int 24]], .tup [.int 7, .tup [.int 25]], .tup [.int 0, .tup [.int 0, .int 15, .int 26]]]
noncomputable def wL (bits : Int) : List (V × V) := [(.str 40, .ref 0), (.str 177, .ref 175), (.str 192, .ref 5), (.str 211, .tup [.int 16, .int 17]), (.str 226, .tup othersV), (.str 233, .ref 171), (.str 222, .ref 170), (.str 236, .ref 172), (.str 242, .ref 160),
  (.str 223, .ref 158), (.str 133, .ref 176), (.str 70, .int bits), (.str 219, .ref 177), (.str 110, .ref 178), (.str 245, .ref 139)]
noncomputable def badPls : List Pl := [.slot 1 7 3, .slot 1 7 (-2), .slot 2 7 (-1), .slot 2 7 2, .slot 1 9 (-1), .slot 1 99 0, .slot 2 99 0, .slot 4 13 0, .slot 4 19 3, .slot 4 19 (-1), .heap 21, .heap 17, .heap 16, .heap 15, .heap 25, .heap 22, .heap 28, .heap 5002]
noncomputable def rowOf (σ : Sg) (g : Grp) : List V := (List.range' g.off g.n).map σ.val
noncomputable def lost (i : Nat) : Prop := i = 6 ∨ i = 7 ∨ i = 8
noncomputable def out (t : Tr) (a : Nat) : Prop := a < t.lo ∨ t.adr < a
/-- the heap of the law, as the ghost state has it -/
structure Inv (bits : Int) (old : List (V × V)) (σ : Sg) (H : AH) : Prop where
  K : KT H
  F : Fix σ.ds H
  P : HpI σ.ths σ.top bits σ.fresh σ.made H
  keep2 : H[140]? = some (.lst [])
  cards1 : H[152]? = some (.dct σ.cards)
  cards2 : H[176]? = some (.dct σ.cards)
  old : H[158]? = some (.dct old)
  bads : H[160]? = some (.lst (badPls.map fun p => plV p []))
  stems : H[170]? = some (.lst ((List.range' 0 σ.N).map fun i => (σ.tr i).rf))
  spots : H[171]? = some (.lst σ.sp)
  holders : H[172]? = some (.lst (σ.grp.map fun g => .tup [.ref g.la, .ref g.ca]))
  dead : H[177]? = some (.lst [.int (if σ.ds then 1 else 0)])
  top : H[178]? = some (.lst [.int σ.top])
  w : H[179]? = some (.dct (wL bits))
  rows : ∀ g ∈ σ.grp, H[g.la]? = some (.lst (rowOf σ g)) ∧ H[g.ca]? = some (.lst ((List.range' g.off g.n).map fun i => (σ.tr i).rf))
  trees : ∀ i, i < σ.N → TV H (σ.tr i) (σ.val i)
/-- the pure part -/
structure SgOk (bits : Int) (old : List (V × V)) (σ : Sg) : Prop where
  T : ThsOk σ.ths
  bits : 0 ≤ bits ∧ bits ≤ 3
  N : 18 ≤ σ.N ∧ σ.N ≤ 21
  ok : ∀ i, i < σ.N → (σ.pl i).ok
  at_ : ∀ (d : Bool) i, i < σ.N → ¬ (lost i ∧ d = true) → ∃ g ∈ σ.grp, ∃ j, j < g.n ∧ g.off + j = i ∧ PlAt d σ.ths (σ.pl i) g.la j
  no : ∀ i, lost i → ∃ k a b, σ.pl i = .slot k a b ∧ k ≠ 3 ∧ a ≠ 12 ∧ slotsR true k a b = .none
  bad : ∀ (d : Bool) k a i, Pl.slot k a i ∈ badPls → slotsR d k a i = .none ∨ (slotsR d k a i = .ref 140 ∧ idxI k i = 0) ∨ ∃ g ∈ σ.grp, slotsR d k a i = .ref g.la ∧ (idxI k i < 0 ∨ (g.n : Int) ≤ idxI k i)
  badh : ∀ w, Pl.heap w ∈ badPls → ∀ t ∈ σ.ths, ∀ j : Nat, j < t.n → t.addr + 2 + j ≠ w
  lo : ∀ i, i < σ.N → (6 < (σ.tr i).lo ∧ (σ.tr i).adr < 107) ∨ 180 ≤ (σ.tr i).lo
  disj : ∀ i j, i < j → j < σ.N → (σ.tr i).adr < (σ.tr j).lo
  gla : ∀ g ∈ σ.grp, (107 ≤ g.la ∧ g.la < 137) ∨ 180 ≤ g.la
  gout : ∀ g ∈ σ.grp, ∀ i, i < σ.N → out (σ.tr i) g.la ∧ out (σ.tr i) g.ca
  gca : ∀ g ∈ σ.grp, g.ca < 107 ∨ 180 ≤ g.ca
  gone : ∀ g ∈ σ.grp, ∀ h ∈ σ.grp, g.la ≠ h.ca ∧ (g ≠ h → g.la ≠ h.la ∧ (g.off + g.n ≤ h.off ∨ h.off + h.n ≤ g.off))
  gn : ∀ g ∈ σ.grp, g.n ≤ 4 ∧ g.off + g.n ≤ σ.N
  gths : σ.grp.length = σ.ths.length + 6
  thla : ∀ t ∈ σ.ths, ∃ g ∈ σ.grp, t.la = g.la
  thr : ∀ t ∈ σ.ths, ∀ i, i < σ.N → out (σ.tr i) t.r
  spots : ∀ s ∈ σ.sp, ∃ i, i < σ.N ∧ SpIn i (σ.pl i) (σ.tr i) (spK 20 (σ.tr i).kind [] 0) s
  spne : 0 < σ.sp.length
  splen : σ.sp.length + 13 * (21 - σ.N) ≤ 300
  ck : IntKeys σ.cards
  ok_ : IntKeys old
  slot : ∀ i k a b, i < σ.N → σ.pl i = .slot k a b → dfind old (.int i) = none
  heap : ∀ i w, i < σ.N → σ.pl i = .heap w → ∀ t ∈ σ.ths, ∀ j : Nat, t.addr + 2 + j = w → j < t.n → dfind old (.int i) = if t.gen > 0 then some (.int w) else none
  topok : ∀ t ∈ σ.ths, t.addr + t.n + 2 ≤ σ.top
  thsN : σ.ths.length + 15 = σ.N
  topN : σ.top = 28 + 3 * ((σ.N : Int) - 18)
  oldN : ∀ i : Nat, 18 ≤ i → dfind old (.int i) = none
  plne : ∀ i j, i < j → j < σ.N → σ.pl i ≠ σ.pl j
noncomputable def upd (f : Nat → V) (i : Nat) (x : V) : Nat → V := fun j => if j = i then x else f j
theorem Inv.ext {bits : Int} {old : List (V × V)} {σ : Sg} {H H' : AH} (I : Inv bits old σ H) (e : Ext H H') : Inv bits old σ H' :=
  ⟨I.K.ext e, I.F.ext e, I.P.ext e, e.at I.keep2, e.at I.cards1, e.at I.cards2, e.at I.old, e.at I.bads, e.at I.stems, e.at I.spots, e.at I.holders, e.at I.dead, e.at I.top, e.at I.w, fun g hg => ⟨e.at (I.rows g hg).1, e.at (I.rows g hg).2⟩, fun i hi => (I.trees i hi).ext e⟩
theorem upd_ne {f : Nat → V} {i j : Nat} {x : V} (h : j ≠ i) : upd f i x j = f j := if_neg h
theorem upd_eq {f : Nat → V} {i : Nat} {x : V} : upd f i x i = x := if_pos rfl
theorem row_keep (f : Nat → V) (x : V) (i n off : Nat) (h : i < off ∨ off + n ≤ i) : (List.range' off n).map (upd f i x) = (List.range' off n).map f :=
  List.map_congr_left fun a ha => upd_ne fun e => by
    subst e
    have := List.mem_range'_1.mp ha
    exact h.elim (fun z => Nat.not_lt.mpr this.1 z) (fun z => Nat.not_lt.mpr z this.2)
theorem row_upd (f : Nat → V) (x : V) : ∀ (n off j : Nat), j < n → (List.range' off n).map (upd f (off + j) x) = ((List.range' off n).map f).set j x
  | 0, _, _, h => nomatch h
  | n + 1, off, 0, _ => by
    rw [Nat.add_zero, List.range'_succ, List.map_cons, List.map_cons, List.set_cons_zero, row_keep f x off n (off + 1) (.inl (Nat.lt_succ_self off))]
    exact congrArg (· :: _) upd_eq
  | n + 1, off, j + 1, h => by
    have := row_upd f x n (off + 1) j (Nat.lt_of_succ_lt_succ h)
    rw [Nat.add_assoc, Nat.add_comm 1] at this
    rw [List.range'_succ, List.map_cons, List.map_cons, List.set_cons_succ, this, upd_ne (Nat.ne_of_lt (Nat.lt_add_of_pos_right (Nat.succ_pos j)))]
/-- a cell of the world that no write of a place changes -/
noncomputable def farB (a : Nat) : Bool := Nat.ble a 6 || (Nat.ble 137 a && (Nat.ble a 179 && (!Nat.beq a 152 && !Nat.beq a 176)))
theorem far_of {a : Nat} (h : farB a = true) : a ≤ 6 ∨ (137 ≤ a ∧ a < 180 ∧ a ≠ 152 ∧ a ≠ 176) := by
  unfold farB at h
  rw [beq_dec, beq_dec, Bool.or_eq_true, Bool.and_eq_true, Bool.and_eq_true, Bool.and_eq_true, Nat.ble_eq, Nat.ble_eq, Nat.ble_eq] at h
  exact h.imp id fun ⟨a, b, c, d⟩ => ⟨a, Nat.lt_succ_of_le b, nd c, nd d⟩
theorem Inv.write {bits : Int} {old : List (V × V)} {σ : Sg} {H H' : AH} (I : Inv bits old σ H) (O : SgOk bits old σ) {g : Grp} {i j : Nat} {x : V} {cs' : List (V × V)} (hg : g ∈ σ.grp) (hj : j < g.n) (hi : g.off + j = i) (hiN : i < σ.N)
    (row : H'[g.la]? = some (.lst ((rowOf σ g).set j x))) (c1 : H'[152]? = some (.dct cs')) (c2 : H'[176]? = some (.dct cs')) (tv : TV H' (σ.tr i) x)
    (fr : ∀ a c, a ≠ g.la → a ≠ 152 → a ≠ 176 → out (σ.tr i) a → H[a]? = some c → H'[a]? = some c) : Inv bits old { σ with val := upd σ.val i x, cards := cs' } H' := by
  have hgla := O.gla g hg
  have fx : ∀ a c, farB a = true → H[a]? = some c → H'[a]? = some c := fun a c ha hc => by
    have ha := far_of ha
    have h2 := O.lo i hiN
    exact fr a c (by omega) (by omega) (by omega) (by unfold out; omega) hc
  have K := I.K
  have F := I.F
  have P := I.P
  have lb : ∀ {h : Grp}, h ∈ σ.grp → h.la ≠ 152 ∧ h.la ≠ 176 := fun hh => by have := O.gla _ hh; omega
  refine ⟨⟨fx _ _ rfl K.kt, fx _ _ rfl K.rows, fx _ _ rfl K.shapes⟩, ⟨fx _ _ rfl F.ph, fx _ _ rfl F.frames, fx _ _ rfl F.statics, fx _ _ rfl F.f7, fx _ _ rfl F.f9⟩,
    ⟨fx _ _ rfl P.heap, fx _ _ rfl P.things, fx _ _ rfl P.at_, fun t ht => ?_, fun t ht => ?_⟩, fx _ _ rfl I.keep2, c1, c2, fx _ _ rfl I.old, fx _ _ rfl I.bads, fx _ _ rfl I.stems, fx _ _ rfl I.spots, fx _ _ rfl I.holders, fx _ _ rfl I.dead, fx _ _ rfl I.top, fx _ _ rfl I.w, fun h hh => ?_, fun i' hi' => ?_⟩
  · have hc := P.cell t ht
    exact fr _ _ (at_ne hc (I.rows g hg).1 nofun) (at_ne hc I.cards1 nofun) (at_ne hc I.cards2 nofun) (O.thr t ht i hiN) hc
  · obtain ⟨l, hl, hn⟩ := P.rows t ht
    obtain ⟨h, hh, eh⟩ := O.thla t ht
    by_cases e : t.la = g.la
    · rw [e] at hl ⊢
      cases Option.some.inj (hl.symm.trans (I.rows g hg).1)
      exact ⟨_, row, by rw [List.length_set]; exact hn⟩
    · exact ⟨l, fr _ _ e (eh ▸ (lb hh).1) (eh ▸ (lb hh).2) (by rw [eh]; exact (O.gout h hh i hiN).1) hl, hn⟩
  · obtain ⟨r1, r2⟩ := I.rows h hh
    have hca := O.gca h hh
    refine ⟨?_, fr _ _ (O.gone g hg h hh).1.symm (by omega) (by omega) (O.gout h hh i hiN).2 r2⟩
    by_cases e : h = g
    · subst h
      rw [show rowOf { σ with val := upd σ.val i x, cards := cs' } g = (rowOf σ g).set j x from hi ▸ row_upd σ.val x g.n g.off j hj]; exact row
    · have hne := (O.gone h hh g hg).2 e
      rw [show rowOf { σ with val := upd σ.val i x, cards := cs' } h = rowOf σ h from row_keep σ.val x i h.n h.off (by omega)]
      exact fr _ _ hne.1 (lb hh).1 (lb hh).2 (O.gout h hh i hiN).1 r1
  · show TV H' (σ.tr i') (upd σ.val i x i')
    by_cases e : i' = i
    · subst e
      rw [upd_eq]; exact tv
    · rw [upd_ne e]
      refine (I.trees i' hi').frame fun a c a1 a2 hc => ?_
      have h1 := O.lo i' hi'
      have h2 : g.la < (σ.tr i').lo ∨ (σ.tr i').adr < g.la := (O.gout g hg i' hi').1
      refine fr a c (by omega) (by omega) (by omega) ?_ hc
      rcases Nat.lt_or_gt_of_ne e with q | q
      · exact .inl (Nat.lt_of_le_of_lt a2 (O.disj _ _ q hiN))
      · exact .inr (Nat.lt_of_lt_of_le (O.disj _ _ q hi') a1)
end Mine
end
section
set_option maxRecDepth 100000
namespace Mine
local macro_rules | `(tactic| omega) => `(tactic| lia)
section
variable {Q : V → AH → Prop} {H : AH}
theorem sub_w {bits : Int} {k : Nat} {v : V} (h : H[179]? = some (.dct (wL bits))) (hv : dfind (wL bits) (.str k) = some v) : wSub (.ref 179) (.str k) Q H ↔ Q v H := by
  show subC H[179]? (.str k) Q H ↔ _
  rw [h]
  show bQ (keyOk (wL bits) (.str k) && true) (oQ (dfind (wL bits) (.str k)) Q H) ↔ _
  rw [hv, show keyOk (wL bits) (.str k) = true from rfl]; rfl
end
section
variable {C : Nat → List V → M V} {ρ : Loc} {H : AH} {a b o i e c1 c2 : E} {t ss : Ss} {QF : Flow → AH → Prop} {Q : V → AH → Prop} {u v w : V}
theorem u_w {bits : Int} {k : Nat} (h : H[179]? = some (.dct (wL bits))) (hv : dfind (wL bits) (.str k) = some v) (hq : Q v H) (hl : look ρ 213 = some (.ref 179) := by rfl) : wE C (.sub (.loc 213) (.str k)) ρ Q H := by
  rw [w_sub, w_loc, hl]; exact (sub_w h hv).mpr hq
theorem u_isnot (ha : ∀ K : V → AH → Prop, K u H → wE C a ρ K H) (h : Q (.bool (!isNone u)) H) : wE C (.cmp .isnot a .none) ρ Q H := ha (kCmp1 C .isnot .none ρ Q) h
theorem u_in (ha : ∀ K : V → AH → Prop, K u H → wE C a ρ K H) (hb : ∀ K : V → AH → Prop, K v H → wE C b ρ K H) (h : wCmp .in_ u v (kCmpR Q) H) : wE C (.cmp .in_ a b) ρ Q H := ha (kCmp1 C .in_ b ρ Q) (hb (kCmp2 .in_ u Q) h)
theorem u_eqi {x y : Int} (ha : ∀ K : V → AH → Prop, K (.int x) H → wE C a ρ K H) (h : Q (.bool (decide (x = y))) H) : wE C (.cmp .eq a (.int y)) ρ Q H := ha (kCmp1 C .eq (.int y) ρ Q) h
theorem u_iteIs (h : wE C a ρ (fun v H' => ifK (isNone v) (wSs C t ρ (kSeq C ss QF) H') (wSs C ss ρ QF H')) H) : wSs C (.cons (.ite (.cmp .is a .none) t .nil) ss) ρ QF H := h
theorem u_iteAnd {b : Bool} (h1 : ∀ K : V → AH → Prop, K (.bool b) H → wE C c1 ρ K H) (hf : b = false → wSs C ss ρ QF H) (ht : b = true → wE C c2 ρ (fun v H' => onBool v fun b => ifK b (wSs C t ρ (kSeq C ss QF) H') (wSs C ss ρ QF H')) H) : wSs C (.cons (.ite (.and (.cons c1 (.cons c2 .nil))) t .nil) ss) ρ QF H := by
  refine h1 (kAnd C (.cons c2 .nil) ρ (kIte1 C t .nil ρ (kSeq C ss QF))) ?_
  cases b
  · exact hf rfl
  · exact ht rfl
theorem ifK_t {b : Bool} {A B : Prop} (h : b = true) (x : A) : ifK b A B := by subst h; exact x
theorem ifK_f {b : Bool} {A B : Prop} (h : b = false) (x : B) : ifK b A B := by subst h; exact x
theorem u_cmpE {op : COp} (h : wE C a ρ (kCmp1 C op b ρ Q) H) : wE C (.cmp op a b) ρ Q H := h
theorem u_lenE (h : wE C a ρ (kLen Q) H) : wE C (.len a) ρ Q H := h
theorem u_call1E {f : Nat} (h : wE C a ρ (fun v H' => wp (C f [v]) Q H') H) : wE C (.call f (.cons a .nil)) ρ Q H := h
theorem u_bin {op : BOp} (ha : ∀ K : V → AH → Prop, K u H → wE C a ρ K H) (hb : ∀ K : V → AH → Prop, K v H → wE C b ρ K H) (h : wBin op u v Q H) : wE C (.bin op a b) ρ Q H := ha (kBin1 C op b ρ Q) (hb (kBin2 op u Q) h)
theorem u_subd {r : Nat} {l : List (V × V)} {k : Int} (ha : ∀ K : V → AH → Prop, K (.ref r) H → wE C a ρ K H) (hb : ∀ K : V → AH → Prop, K (.int k) H → wE C b ρ K H) (hl : H[r]? = some (.dct l)) (hk : keyOk l (.int k) = true) (hv : dfind l (.int k) = some v) (h : Q v H) : wE C (.sub a b) ρ Q H :=
  ha (kSub1 C b ρ Q) (hb (kSub2 (.ref r) Q) ((sub_dct hl hk hv).mpr h))
theorem u_setE (he : ∀ K : V → AH → Prop, K w H → wE C e ρ K H) (ho : ∀ K : V → AH → Prop, K u H → wE C o ρ K H) (hi : ∀ K : V → AH → Prop, K v H → wE C i ρ K H) (h : wp (setV u v w) (fun _ H' => wSs C ss ρ QF H') H) : wSs C (.cons (.setitem o i e) ss) ρ QF H :=
  he (kSI1 C o i ρ (kSeq C ss QF)) (ho (kSI2 C i w ρ (kSeq C ss QF)) (hi (kSI3 u w ρ (kSeq C ss QF)) h))
end
theorem sub_kv : ∀ (p : List Int) {H : AH} {t t' : Tr} {v w : V}, TV H t v → subT t p = some t' → KV t'.kind w → KV t.kind (putP v p w)
  | [], H, t, t', v, w, h, e, kw => by cases e; exact kw
  | s :: p, H, t, t', v, w, h, e, kw => by
    obtain ⟨h0, c, hci, e⟩ := subT_in e
    refine h.in hci (P := fun t v => KV t.kind (putP v (s :: p) w)) fun lo a b k cs vs x n hcs hci hvi tc => ?_
    rw [putP_node _ _ _ _ _ _ hvi, upd_list (at_lt hvi)]
    refine .node k _ n.hs (by rw [List.length_set, n.hl, ← n.hk, List.length_map]) fun i k' y hki hxi => ?_
    by_cases hi : s.toNat = i
    · subst hi
      rw [List.getElem?_set_self (at_lt hvi)] at hxi
      cases hxi
      cases Option.some.inj ((n.kid hci).symm.trans hki)
      exact sub_kv p tc e kw
    · rw [List.getElem?_set_ne hi] at hxi
      rw [← n.hk, List.getElem?_map] at hki
      obtain ⟨d, hdi, rfl⟩ := Option.map_eq_some_iff.mp hki
      exact (hcs _ _ _ hdi hxi).kv
section
variable {bits : Int} {old : List (V × V)} {σ : Sg} {H : AH}
theorem row_at {σ : Sg} {g : Grp} {j : Nat} (hj : j < g.n) : (rowOf σ g)[j]? = some (σ.val (g.off + j)) := by
  unfold rowOf
  rw [List.getElem?_map, List.getElem?_range' hj, Nat.one_mul]; rfl
theorem row_len (σ : Sg) (g : Grp) : (rowOf σ g).length = g.n := by unfold rowOf; rw [List.length_map, List.length_range']
theorem far2_of {a : Nat} (h : (farB a || Nat.beq a 176) = true) : a ≤ 6 ∨ (137 ≤ a ∧ a < 180 ∧ a ≠ 152) := by
  rcases Bool.or_eq_true _ _ ▸ h with h | h
  · have := far_of h; omega
  · rw [Nat.eq_of_beq_eq_true h]; decide
theorem Inv.no (I : Inv bits old σ H) (O : SgOk bits old σ) {i : Nat} (hl : lost i) (hd : σ.ds = true) : No σ.ds σ.ths H (σ.pl i) := by
  obtain ⟨k, a, b, e, h3, h12, hs⟩ := O.no i hl
  rw [e]
  exact .slot k a b h3 h12 (by rw [hd]; exact hs)
theorem Inv.badNo (I : Inv bits old σ H) (O : SgOk bits old σ) {pl : Pl} (h : pl ∈ badPls) : No σ.ds σ.ths H pl := by
  cases pl with
  | heap w => exact .heap w (O.badh w h)
  | slot k a i =>
    have h3 : k ≠ 3 ∧ a ≠ 12 := of_decide_eq_true (List.all_eq_true.mp (show (badPls.all fun pl => match pl with | .slot k a _ => decide (k ≠ 3 ∧ a ≠ 12) | _ => true) = true from rfl) _ h)
    rcases O.bad _ k a i h with e | ⟨e, e2⟩ | ⟨g, hg, e, e2⟩
    · exact .slot k a i h3.1 h3.2 e
    · exact .out k a i _ _ h3.1 h3.2 e I.keep2 (by decide) (.inr (by rw [e2]; decide))
    · exact .out k a i _ _ h3.1 h3.2 e (I.rows g hg).1 (by rw [row_len]; exact Nat.le_trans (O.gn g hg).1 (by decide)) (by rw [row_len]; exact e2)
theorem c_nowhere_no {n : Nat} {pl : Pl} {p : List Int} {Q : V → AH → Prop} (I : Inv bits old σ H) (O : SgOk bits old σ) (hN : No σ.ds σ.ths H pl) (h : Q (.bool true) H) : wp (callF (n + 5) k_law_nowhere [.ref 179, plV pl p]) Q H := by
  rw [wp_call (fd := fd_law_nowhere) rfl rfl]
  refine u_no' (fun K h => u_isnot (u := .none) (fun K h => u_call2 (fun K h => u_w I.w rfl h) (fun K h => h) (c_read_no I.F I.P O.T hN h)) h) ?_
  exact u_asg (v := .bool false) (fun K h => u_call3 (fun K h => u_w I.w rfl h) (fun K h => h) (fun K h => h) (c_write_no I.F I.P O.T hN h)) (u_ret h)
theorem c_nowhere_bad {n : Nat} {pl : Pl} {p : List Int} {la j : Nat} {l : List V} {v : V} {Q : V → AH → Prop} (I : Inv bits old σ H) (O : SgOk bits old σ) (hA : PlAt σ.ds σ.ths pl la j) (hr : H[la]? = some (.lst l)) (hll : l.length ≤ 1000) (hv : l[j]? = some v) (ok : OKv v) (hp : ∀ s ∈ p, s < 2 ^ 63) (hpl : p.length < 300) (hg : getP v p = none)
    (h : Q (.bool true) H) : wp (callF (n + 5) k_law_nowhere [.ref 179, plV pl p]) Q H := by
  rw [wp_call (fd := fd_law_nowhere) rfl rfl]
  refine u_no' (fun K h => u_isnot (u := .none) (fun K h => u_call2 (fun K h => u_w I.w rfl h) (fun K h => h) (c_read_at I.F I.P O.T hA hr hll hv ok hp (Nat.lt_trans hpl (by decide)) (by rw [hg]; exact h))) h) ?_
  exact u_asg (v := .bool false) (fun K h => u_call3 (fun K h => u_w I.w rfl h) (fun K h => h) (fun K h => h) (c_write_bad I.F I.P O.T hA hr hll hv ok hp hpl hg h)) (u_ret h)
/-- a spot as the law has it -/
noncomputable def spotV (i : Nat) (pl : Pl) (q : List Int) (t : Tr) (l : Int) : V := .tup [.int i, plV pl q, t.rf, .int l]
theorem lost_any (i : Nat) [Decidable (lost i)] : ([6, 7, 8] : List Int).any (fun j => decide (j = (i : Int))) = decide (lost i) := by
  rw [Bool.eq_iff_iff, decide_eq_true_iff]
  simp [lost]
  omega
theorem c_seen {n : Nat} {i : Nat} {pl : Pl} {q : List Int} {t : Tr} {l : Int} {v : V} {Q : V → AH → Prop} (I : Inv bits old σ H) (O : SgOk bits old σ) (tv : TV H t v)
    (h1 : lost i → σ.ds = true → Q .none H) (h2 : ¬ (lost i ∧ σ.ds = true) → ∀ H', Ext H H' → Q v H') : wp (callF (n + 5) k_law_seen [.ref 179, spotV i pl q t l]) Q H := by
  classical
  rw [wp_call (fd := fd_law_seen) rfl rfl]
  refine u_if' (b := decide (lost i) && σ.ds) (fun K h => u_and (a := decide (lost i)) (fun K h => (wp_in_tup (QB := kCmpR K) (show allInts [.int 6, .int 7, .int 8] = some [6, 7, 8] from rfl)).mpr (by rw [lost_any]; exact h))
    (fun _ K h => u_and1 (fun K h => u_eqi (fun K h => u_subl (fun K h => u_w I.w rfl h) (fun K h => h) I.dead rfl h) (by rw [show decide ((if σ.ds = true then (1 : Int) else 0) = 1) = σ.ds by cases σ.ds <;> rfl]; exact h)) h) h) (fun e => ?_) (fun e => ?_)
  · exact u_ret (h1 (of_decide_eq_true (both e).1) (both e).2)
  · exact u_ret (u_call2 (fun K h => h) (fun K h => u_w I.w rfl h) (c_show _ (Nat.lt_of_le_of_lt (dK_le _) (Nat.lt_of_lt_of_le (by decide : 3 < 4) (Nat.le_add_left 4 n))) I.K tv fun H' ex => h2 (fun z => by rw [decide_eq_true z.1, z.2] at e; cases e) H' ex))
theorem Inv.loc (I : Inv bits old σ H) (O : SgOk bits old σ) {i : Nat} (hi : i < σ.N) (hn : ¬ (lost i ∧ σ.ds = true)) : ∃ g ∈ σ.grp, ∃ j, j < g.n ∧ g.off + j = i ∧ PlAt σ.ds σ.ths (σ.pl i) g.la j ∧ H[g.la]? = some (.lst (rowOf σ g)) ∧ (rowOf σ g).length ≤ 1000 ∧ (rowOf σ g)[j]? = some (σ.val i) := by
  obtain ⟨g, hg, j, hj, e, hA⟩ := O.at_ _ i hi hn
  have := (O.gn g hg).1
  exact ⟨g, hg, j, hj, e, hA, (I.rows g hg).1, by rw [row_len]; exact Nat.le_trans this (by decide), by rw [row_at hj, e]⟩
theorem stem_at {N i : Nat} {tr : Nat → Tr} (hN : N ≤ 1000) (hi : i < N) : getAt ((List.range' 0 N).map fun i => (tr i).rf) (i : Int) = some (tr i).rf := by
  rw [getAt_in (Int.natCast_nonneg i) (Int.ofNat_lt.mpr (Nat.lt_of_lt_of_le hi (Nat.le_trans hN (by decide)))), Int.toNat_natCast, List.getElem?_map, List.getElem?_range' hi, Nat.one_mul, Nat.zero_add]; rfl
theorem SgOk.cardsTo {bits : Int} {old : List (V × V)} {σ : Sg} (O : SgOk bits old σ) (val : Nat → V) {cs' : List (V × V)} (h : IntKeys cs') : SgOk bits old { σ with val := val, cards := cs' } :=
  ⟨O.T, O.bits, O.N, O.ok, O.at_, O.no, O.bad, O.badh, O.lo, O.disj, O.gla, O.gout, O.gca, O.gone, O.gn, O.gths, O.thla, O.thr, O.spots, O.spne, O.splen, h, O.ok_, O.slot, O.heap, O.topok, O.thsN, O.topN, O.oldN, O.plne⟩
theorem c_law_write {n : Nat} {i : Nat} {q : List Int} {t : Tr} {l : Int} {w : V} {Q : V → AH → Prop} (I : Inv bits old σ H) (O : SgOk bits old σ) (hi : i < σ.N) (hs : subT (σ.tr i) q = some t) (hq : q.length < 300) (kw : KV t.kind w) (hcl : σ.cards.length ≤ 1000)
    (h : ∀ σ' H', Inv bits old σ' H' → SgOk bits old σ' → σ'.cards.length ≤ σ.cards.length + 1 → Q (.bool true) H') : wp (callF (n + 12) k_law_write [.ref 179, spotV i (σ.pl i) q t l, w]) Q H := by
  rw [wp_call (fd := fd_law_write) rfl rfl]
  obtain ⟨v', hg, tv', l1, l2, hq1⟩ := sub_get q (I.trees i hi) hs
  have hq2 : ∀ s ∈ q, s < 2 ^ 63 := fun s hs => Int.lt_trans (hq1 s hs) (by decide)
  refine u_iteIs (u_call2 (fun K h => h) (fun K h => h) (c_seen (n := n + 6) I O tv' (fun hl hd => ?_) fun hn H1 ex => ?_))
  · exact ifK_t rfl (u_ret (u_call2 (fun K h => h) (fun K h => h) (c_nowhere_no I O (I.no O hl hd) (h σ H I O (Nat.le_succ _)))))
  · replace I := I.ext ex
    replace tv' := tv'.ext ex
    clear ex
    obtain ⟨g, hgm, j, hj, hij, hA, hr, hll, hv⟩ := I.loc O hi hn
    have kx := sub_kv q (I.trees i hi) hs kw
    have d3k : ∀ k, dK k < n + 11 := fun k => Nat.lt_of_le_of_lt (dK_le k) (Nat.lt_of_lt_of_le (by decide : 3 < 11) (Nat.le_add_left 11 n))
    refine ifK_f tv'.kv.okv.ne ?_
    refine u_asgE (u_call3 (fun K h => u_w I.w rfl h) (fun K h => h) (fun K h => h) (c_write_at (n := n + 5) I.F I.P O.T hA hr hll hv (I.trees i hi).kv.okv hq2 hq hg tv'.kv.okv O.bits.1 I.cards1 O.ck hcl kx.fine fun H2 cs' W hca => ?_))
    have hlo := O.lo i hi
    have hla := O.gla g hgm
    have hgo : g.la < (σ.tr i).lo ∨ (σ.tr i).adr < g.la := (O.gout g hgm i hi).1
    have fx : ∀ a c, (farB a || Nat.beq a 176) = true → H1[a]? = some c → H2[a]? = some c := fun a c ha hc => by
      have := far2_of ha
      exact W.fr a c (by omega) (by omega) hc
    have tr2 : ∀ a c, (σ.tr i).lo ≤ a → a ≤ (σ.tr i).adr → H1[a]? = some c → H2[a]? = some c := fun a c h1 h2 hc => W.fr a c (by omega) (by omega) hc
    have K2 : KT H2 := ⟨fx _ _ rfl I.K.kt, fx _ _ rfl I.K.rows, fx _ _ rfl I.K.shapes⟩
    have T2 := (I.trees i hi).frame tr2
    have t2 : TV H2 t v' := tv'.frame fun a c h1 h2 hc => tr2 a c (Nat.le_trans l1 h1) (Nat.le_trans h2 l2) hc
    refine u_expE (u_call3 (fun K h => h) (fun K h => h) (fun K h => u_w (fx _ _ rfl I.w) rfl h) (c_put (n + 11) (d3k _) K2 (by omega) t2 kw fun H3 t3 f3 hL3 => ?_))
    have T3 := sub_put q T2 hs t3 f3
    have fx3 : ∀ a c, (farB a || Nat.beq a 176) = true → H1[a]? = some c → H3[a]? = some c := fun a c ha hc => f3 a c (by
      have := far2_of ha
      omega) (fx a c ha hc)
    have K3 : KT H3 := ⟨fx3 _ _ rfl I.K.kt, fx3 _ _ rfl I.K.rows, fx3 _ _ rfl I.K.shapes⟩
    have w3 := fx3 _ _ rfl I.w
    have o3 := fx3 _ _ rfl I.old
    have c3 : H3[152]? = some (.dct cs') := f3 _ _ (by omega) W.cards
    have d3 : H3[176]? = some (.dct σ.cards) := fx3 _ _ rfl I.cards2
    have r3 : H3[g.la]? = some (.lst ((rowOf σ g).set j (putP (σ.val i) q w))) := f3 _ _ (by omega) W.row
    have fr3 : ∀ a c, a ≠ g.la → a ≠ 152 → a ≠ 176 → out (σ.tr i) a → H1[a]? = some c → H3[a]? = some c := fun a c a1 a2 a3 a4 hc => f3 a c (a4.imp (fun z => Nat.lt_of_lt_of_le z l1) (fun z => Nat.lt_of_le_of_lt l2 z)) (W.fr a c a1 a2 hc)
    generalize hx : putP (σ.val i) q w = x at *
    -- the end
    have fin : ∀ H4, Ext H3 H4 → cs' = σ.cards → Q (.bool true) H4 := fun H4 ex e => by
      subst e
      exact h _ H4 (I.write O hgm hj hij hi (ex.at r3) (ex.at c3) (ex.at d3) (T3.ext ex) fun a c a1 a2 a3 a4 hc => ex.at (fr3 a c a1 a2 a3 a4 hc)) (O.cardsTo _ O.ck) (Nat.le_succ _)
    refine u_asg (v := .int i) (fun K h => h) (u_iteAnd (fun K h => u_in (fun K h => h) (fun K h => u_w w3 rfl h) ((in_dct (QB := kCmpR K) o3 (O.ok_.key _)).mpr h)) (fun e => ?_) (fun e => ?_))
    · refine u_ret (fin H3 (.refl H3) ?_)
      have e : dfind old (.int i) = none := Option.isNone_iff_eq_none.mp (by rw [← Option.not_isSome, e]; rfl)
      cases hpl : σ.pl i with
      | slot k a b => rw [hpl] at hca; exact hca
      | heap w0 =>
        rw [hpl] at hca
        obtain ⟨t0, ht0, j0, e0, hj0, ecs⟩ := hca
        have hold := O.heap i w0 hi hpl t0 ht0 j0 e0 hj0
        rw [ecs]
        refine if_neg fun z => ?_
        rw [if_pos z.1, e] at hold; cases hold
    · obtain ⟨w0, hpl⟩ : ∃ w0, σ.pl i = .heap w0 := by
        cases hpl : σ.pl i with
        | slot k a b => rw [O.slot i k a b hi hpl] at e; cases e
        | heap w0 => exact ⟨w0, rfl⟩
      rw [hpl] at hca
      obtain ⟨t0, ht0, j0, e0, hj0, ecs⟩ := hca
      have hold := O.heap i w0 hi hpl t0 ht0 j0 e0 hj0
      have hgen : t0.gen > 0 := by
        by_cases z : t0.gen > 0
        · exact z
        · rw [if_neg z] at hold; rw [hold] at e; cases e
      rw [if_pos hgen] at hold
      refine u_cmpE (u_lenE (u_call1E (u_call2 (fun K h => u_subl (fun K h => u_w w3 rfl h) (fun K h => h) (fx3 _ _ rfl I.stems) (stem_at (tr := σ.tr) (Nat.le_trans O.N.2 (by decide)) hi) h) (fun K h => u_w w3 rfl h) (c_show (n + 11) (d3k _) K3 T3 fun H4 e4 => ?_))))
      refine c_addresses (n := n + 7) (kx.vd 3 (dK_le _)) (by decide) fun H5 al e5 ha => ?_
      have e35 := e4.trans e5
      refine (wp_len_lst ha (lineOk_k (by rw [ivs_len]; exact Nat.le_trans (Nat.le_of_lt kx.fine.adr) (by decide)))).mpr ?_
      rw [ivs_len]
      cases hemp : (adr x).isEmpty with
      | true =>
        rw [List.isEmpty_iff.mp hemp]
        exact u_ret (fin H5 e35 (by rw [ecs]; exact if_neg fun z => Bool.noConfusion (hemp.symm.trans z.2)))
      | false =>
        have e : cs' = dput σ.cards (.int (w0.fdiv (2 ^ bits.toNat))) (.int 1) := by rw [ecs]; exact if_pos ⟨hgen, hemp⟩
        have hz' : 0 < (adr x).length := List.length_pos_iff.mpr fun z => by rw [z] at hemp; cases hemp
        refine ifK_t (b := decide (((adr x).length : Int) > 0)) (decide_eq_true (Int.ofNat_lt.mpr hz')) ?_
        have hb := O.bits
        have w5 := e35.at w3
        have hpow : ((2 : Int) ^ bits.toNat) ≠ 0 := Int.ne_of_gt (Int.pow_pos (by decide))
        refine u_setE (fun K h => h) (fun K h => u_w w5 rfl h) (fun K h => u_bin (fun K h => u_subd (fun K h => u_w w5 rfl h) (fun K h => h) (e35.at o3) (O.ok_.key _) hold h) (fun K h => u_bin (fun K h => h) (fun K h => u_w w5 rfl h) ((wp_pow hb.1 (Int.le_trans hb.2 (by decide))).mpr h)) ((wp_fdiv hpow).mpr h)) ?_
        refine (wp_set_dct (e35.at d3) (O.ck.key _) rfl (lineOk_k hcl)).mpr ?_
        rw [← e]
        have sx : ∀ a c, a ≠ 176 → H3[a]? = some c → (H5.set 176 (.dct cs'))[a]? = some c := fun a c ha hc => (set_ne (fun e => ha e.symm)).trans (e35.at hc)
        refine u_ret (h _ (H5.set 176 (.dct cs')) (I.write O hgm hj hij hi (sx _ _ (by omega) r3) (sx _ _ (by decide) c3) (set_at (e35.at d3)) (T3.frame fun a c a1 a2 hc => sx a c (by omega) hc) fun a c a1 a2 a3 a4 hc => sx a c a3 (fr3 a c a1 a2 a3 a4 hc)) (O.cardsTo _ (by rw [e]; exact O.ck.put _ _)) ?_)
        show cs'.length ≤ _
        rw [e]; exact dput_len _ _ _
end
end Mine
end
section
set_option maxRecDepth 100000
namespace Mine
section
variable {C : Nat → List V → M V} {ρ : Loc} {H : AH} {a b : E} {x y : Nat} {body ss : Ss} {QF : Flow → AH → Prop} {Q : V → AH → Prop} {u v : V}
theorem u_for (h : wE C a ρ (kFor1 C x body ρ (kSeq C ss QF)) H) : wSs C (.cons (.for_ x a body) ss) ρ QF H := h
theorem u_for2 (h : wE C a ρ (kFf1 C x y body ρ (kSeq C ss QF)) H) : wSs C (.cons (.for2 x y a body) ss) ρ QF H := h
theorem u_loc (hl : look ρ x = some v) (h : Q v H) : wE C (.loc x) ρ Q H := by rw [w_loc, hl]; exact h
theorem u_cmp {op : COp} (ha : ∀ K : V → AH → Prop, K u H → wE C a ρ K H) (hb : ∀ K : V → AH → Prop, K v H → wE C b ρ K H) (h : wCmp op u v (kCmpR Q) H) : wE C (.cmp op a b) ρ Q H := ha (kCmp1 C op b ρ Q) (hb (kCmp2 op u Q) h)
theorem u_notisb {d : Bool} (hl : look ρ x = some (.bool d)) (h : Q (.bool false) H) : wE C (.not (.isbool (.loc x))) ρ Q H := by rw [w_not, w_isbool, w_loc, hl]; exact h
end
theorem wp_ne_bool {a b : Bool} {QB : Bool → AH → Prop} {H : AH} : wCmp .ne (.bool a) (.bool b) QB H ↔ QB (a != b) H := by cases a <;> cases b <;> exact Iff.rfl
noncomputable def othersL : List (Int × List Int) := [(4, [13, 14, 19, 21, 22]), (6, [23, 24]), (7, [25]), (0, [0, 15, 26])]
theorem others_eq : othersV = othersL.map fun p => .tup [.int p.1, .tup (ivs p.2)] := rfl
noncomputable def wantB (s : Int) (v : V) : Bool := decide (headI v = s) || (decide (s = 6) && nullB v)
theorem fit_of {l : List Int} {T s : Int} {v : V} (h : (l.all fun k => decide (0 ≤ k ∧ k ≤ 26 ∧ tagK k = T)) = true) (f : ∀ k, fitsB T k v = wantB s v) : ∀ k ∈ l, 0 ≤ k ∧ k ≤ 26 ∧ fitsB (tagK k) k v = wantB s v := fun k hk =>
  have h := of_decide_eq_true (List.all_eq_true.mp h k hk)
  ⟨h.1, h.2.1, by rw [h.2.2]; exact f k⟩
theorem others_fit {v : V} (hv : headI v ≠ 0) : ∀ p ∈ othersL, ∀ k ∈ p.2, 0 ≤ k ∧ k ≤ 26 ∧ fitsB (tagK k) k v = wantB p.1 v :=
  List.forall_mem_cons.mpr ⟨fit_of (T := 4) rfl fun k => (Bool.or_false _).symm, List.forall_mem_cons.mpr ⟨fit_of (T := 6) rfl fun k => by
    show (bif nullB v then true else decide (headI v = 6)) = (decide (headI v = 6) || nullB v)
    cases nullB v
    · exact (Bool.or_false _).symm
    · exact (Bool.or_true _).symm, List.forall_mem_cons.mpr ⟨fit_of (T := 7) rfl fun k => (Bool.or_false _).symm, List.forall_mem_cons.mpr ⟨fit_of (T := -1) rfl fun k => by
    show false = (decide (headI v = 0) || false)
    rw [decide_eq_false hv]; rfl, fun _ h => nomatch h⟩⟩⟩⟩
/-- the state of the loop -/
inductive SlI (H : AH) (v : V) (l : List V) (ρ : Loc) (H' : AH) : Prop
  | mk (ps : List (Int × List Int)) : H' = H → l = ps.map (fun p => .tup [.int p.1, .tup (ivs p.2)]) → (∀ p ∈ ps, p ∈ othersL) → look ρ 213 = some (.ref 179) → look ρ 82 = some v → SlI H v l ρ H'
/-- the state of the inner loop -/
inductive SlJ (H : AH) (v : V) (ks0 : List Int) (b : Bool) (l : List V) (ρ : Loc) (H' : AH) : Prop
  | mk (ks : List Int) : H' = H → l = ivs ks → (∀ k ∈ ks, k ∈ ks0) → look ρ 213 = some (.ref 179) → look ρ 82 = some v → look ρ 227 = some (.bool b) → SlJ H v ks0 b l ρ H'
theorem c_slots {n : Nat} {bits t : Int} {r : List V} {d : Nat} {Q : V → AH → Prop} {H : AH} (K : KT H) (W : H[179]? = some (.dct (wL bits))) (ht : t ≠ 0) (h5 : t = 5 → ∃ k' r', r = .int k' :: r') (hit : it d (.tup (.int t :: r)) = true) (hd : d ≤ 60)
    (h : Q (.bool true) H) : wp (callF (n + 4) k_law_slots [.ref 179, .tup (.int t :: r)]) Q H := by
  rw [wp_call (fd := fd_law_slots) rfl rfl]
  have hfit := others_fit (v := .tup (.int t :: r)) ht
  refine u_for2 (u_w W rfl ?_)
  refine wp_for_tup (SlI H (.tup (.int t :: r))) (by decide) ⟨othersL, rfl, others_eq, fun p hp => hp, rfl, rfl⟩ ?_ ?_
  · rintro v l' ρ H' K' ⟨ps, rfl, e, hps, f1, f2⟩ hK
    cases ps with
    | nil => cases e
    | cons p ps =>
      obtain ⟨rfl, rfl⟩ := List.cons.inj e
      have hp := hfit p (hps p List.mem_cons_self)
      have hlen : p.2.length < 400 := Nat.lt_of_le_of_lt (of_decide_eq_true (List.all_eq_true.mp (show (othersL.all fun p => decide (p.2.length ≤ 5)) = true from rfl) p (hps p List.mem_cons_self))) (by decide)
      rw [w_for2B]
      have e1 : look (Mine.put (Mine.put ρ 30 (.int p.1)) 225 (.tup (ivs p.2))) 82 = some (.tup (.int t :: r)) := look_put.trans (look_put.trans f2)
      have e2 : look (Mine.put (Mine.put ρ 30 (.int p.1)) 225 (.tup (ivs p.2))) 30 = some (.int p.1) := look_put.trans look_put
      have hn : ∀ K : V → AH → Prop, K (.bool (nullB (.tup (.int t :: r)))) H' → wCmp .eq (.tup (.int t :: r)) (.tup [.int 4, .int 0]) (kCmpR K) H' := fun K h =>
        wp_eq_it hit (show it 1 (.tup [.int 4, .int 0]) = true from rfl) hd (by decide) (fun e => by rw [nullB_iff.mpr e] at h; exact h)
          (fun e => by rw [show nullB (.tup (.int t :: r)) = false from Bool.eq_false_iff.mpr fun q => e (nullB_iff.mp q)] at h; exact h)
      refine u_asg (v := .bool (wantB p.1 (.tup (.int t :: r)))) (fun K h => u_or (a := decide (t = p.1)) (b := decide (p.1 = 6) && nullB (.tup (.int t :: r))) (fun K h => u_cmp (fun K h => u_subt (fun K h => u_loc e1 h) (fun K h => h) rfl h) (fun K h => u_loc e2 h) h)
        (fun _ K h => u_or1 (fun K h => u_and (a := decide (p.1 = 6)) (fun K h => u_eqi (fun K h => u_loc e2 h) h) (fun _ K h => u_and1 (fun K h => u_cmp (fun K h => u_loc e1 h) (fun K h => h) (hn K h)) h) h) h) h) ?_
      refine u_for (u_loc (look_put.trans look_put) ?_)
      refine wp_for_tup (SlJ H' (.tup (.int t :: r)) p.2 (wantB p.1 (.tup (.int t :: r)))) (by rw [ivs_len]; exact hlen) ⟨p.2, rfl, rfl, fun k hk => hk, look_put.trans (look_put.trans (look_put.trans f1)), look_put.trans e1, look_put⟩ ?_ ?_
      · rintro v l2 ρ2 H'' K2 ⟨ks, rfl, e, hks, g1, g2, g3⟩ hK2
        cases ks with
        | nil => cases e
        | cons k ks =>
          obtain ⟨rfl, rfl⟩ := List.cons.inj e
          obtain ⟨k0, k1, hk⟩ := hp k (hks k List.mem_cons_self)
          rw [w_forB]
          refine u_asg (v := .bool (wantB p.1 (.tup (.int t :: r)))) (fun K' h => u_call3 (fun K h => u_w W rfl h (look_put.trans g1)) (fun K h => u_loc (look_put.trans g2) h) (fun K h => u_loc look_put h) (c_fits K k0 k1 h5 hit hd (by rw [hk]; exact h))) ?_
          refine u_no' (fun K h => u_or (a := false) (fun K h => u_notisb look_put h) (fun _ K h => u_or1 (a := false) (fun K h => u_cmp (fun K h => u_loc look_put h) (fun K h => u_loc (look_put.trans (look_put.trans g3)) h) (wp_ne_bool.mpr (by rw [bne_self_eq_false]; exact h))) h) h) ?_
          exact hK2.n ⟨ks, rfl, rfl, fun x hx => hks x (List.mem_cons_of_mem _ hx), look_put.trans (look_put.trans g1), look_put.trans (look_put.trans g2), look_put.trans (look_put.trans g3)⟩
      · rintro ρ2 H'' ⟨_, rfl, _, _, g1, g2, _⟩
        exact hK.n ⟨ps, rfl, rfl, fun q hq => hps q (List.mem_cons_of_mem _ hq), g1, g2⟩
  · rintro ρ H' ⟨_, rfl, _, _, f1, f2⟩
    exact h
end Mine
end
section
set_option maxRecDepth 100000
namespace Mine
section
variable {C : Nat → List V → M V} {ρ : Loc} {H : AH} {a b c : E} {t ss : Ss} {QF : Flow → AH → Prop} {Q : V → AH → Prop} {u : V}
theorem u_not {b : Bool} (ha : ∀ K : V → AH → Prop, K (.bool b) H → wE C a ρ K H) (h : Q (.bool (!b)) H) : wE C (.not a) ρ Q H := ha (kNot Q) h
theorem u_iteE (h : wE C c ρ (fun v H' => wTru v (fun b H' => ifK b (wSs C t ρ (kSeq C ss QF) H') (wSs C ss ρ QF H')) H') H) : wSs C (.cons (.ite c t .nil) ss) ρ QF H := h
theorem u_iteCmp {op : COp} (ha : ∀ K : V → AH → Prop, K u H → wE C a ρ K H) (h : wE C b ρ (fun v H' => wCmp op u v (fun b H' => ifK b (wSs C t ρ (kSeq C ss QF) H') (wSs C ss ρ QF H')) H') H) : wSs C (.cons (.ite (.cmp op a b) t .nil) ss) ρ QF H := ha (kCmp1 C op b ρ (kIte1 C t .nil ρ (kSeq C ss QF))) h
theorem u_cmp2E {op : COp} (ha : ∀ K : V → AH → Prop, K u H → wE C a ρ K H) (h : wE C b ρ (kCmp2 op u Q) H) : wE C (.cmp op a b) ρ Q H := ha (kCmp1 C op b ρ Q) h
end
theorem tagI_13 {k : Int} (h0 : 1 ≤ k) (h1 : k ≤ 11) : 1 ≤ tagI k ∧ tagI k ≤ 3 := num_el h0 h1 (by decide) (by decide) (by decide) (by decide) (by decide) (by decide) (by decide) (by decide) (by decide) (by decide) (by decide)
/-- heads of what is offered -/
structure Head (v : V) (t : Int) (r : List V) : Prop where
  e : v = .tup (.int t :: r)
  t0 : t ≠ 0
  h5 : t = 5 → ∃ k' r', r = .int k' :: r'
  hit : it 9 v = true
  c : (∃ x, r = [.int x] ∧ 1 ≤ t) ∨ 3 < t
theorem head_num {t n : Int} (h1 : 1 ≤ t) (h3 : t ≤ 3) : Head (.tup [.int t, .int n]) t [.int n] :=
  ⟨rfl, Int.ne_of_gt h1, fun e => by subst e; exact absurd h3 (by decide), rfl, .inl ⟨n, rfl, h1⟩⟩
theorem OffV.head {v : V} (h : OffV v) : ∃ t r, Head v t r := by
  rcases h with ⟨t, n, rfl, h1, h3⟩ | ⟨k, h⟩
  · exact ⟨_, _, head_num h1 h3⟩
  · have hit := h.it
    cases h with
    | num k n h0 h1 => exact ⟨_, _, head_num (tagI_13 h0 h1).1 (tagI_13 h0 h1).2⟩
    | ftn m => exact ⟨7, _, rfl, by decide, fun e => absurd e (by decide), hit, .inr (by decide)⟩
    | ref a => exact ⟨4, _, rfl, by decide, fun e => absurd e (by decide), hit, .inl ⟨a, rfl, by decide⟩⟩
    | node k vs _ _ _ => exact ⟨5, _, rfl, by decide, fun _ => ⟨k, _, rfl⟩, hit, .inr (by decide)⟩
theorem fit1 {k : Int} {v : V} (h : fitsB 1 k v = true) : headI v ≤ 3 := by
  have h : (bif decide (headI v = 3) then true else decide (headI v = 1)) = true := h
  cases e : decide (headI v = 3) with
  | true => rw [of_decide_eq_true e]; decide
  | false => rw [e] at h; rw [of_decide_eq_true h]; decide
theorem fit2 {k : Int} {v : V} (h : fitsB 2 k v = true) : headI v ≤ 3 := by
  rw [of_decide_eq_true (show decide (headI v = 2) = true from h)]; decide
theorem fit3 {k : Int} {v : V} (h : fitsB 3 k v = true) : headI v ≤ 3 ∨ headI v = 7 := by
  rcases Bool.or_eq_true _ _ ▸ (show (decide (headI v = 3) || (decide (headI v = 1) || decide (headI v = 7))) = true from h) with e | e
  · exact .inl (by rw [of_decide_eq_true e]; decide)
  · rcases Bool.or_eq_true _ _ ▸ e with e | e
    · exact .inl (by rw [of_decide_eq_true e]; decide)
    · exact .inr (of_decide_eq_true e)
/-- what fits a kind, by its head -/
theorem fit_head {k : Int} {v : V} (hk : cellKind k) (hf : fitsB (tagK k) k v = true) : ((1 ≤ k ∧ k ≤ 11) ∧ (headI v ≤ 3 ∨ (headI v = 7 ∧ k = 11))) ∨ (headI v = 4 ∧ k = 12) ∨ (headI v = 5 ∧ secI v = k) := by
  rcases hk.el with hk | rfl | hk
  · exact .inl ⟨hk, num_el (P := fun k => fitsB (tagK k) k v = true → headI v ≤ 3 ∨ (headI v = 7 ∧ k = 11)) hk.1 hk.2 (fun h => .inl (fit1 h)) (fun h => .inl (fit1 h)) (fun h => .inl (fit1 h)) (fun h => .inl (fit1 h)) (fun h => .inl (fit1 h)) (fun h => .inl (fit1 h)) (fun h => .inl (fit1 h)) (fun h => .inl (fit1 h))
      (fun h => .inl (fit2 h)) (fun h => .inl (fit2 h)) (fun h => (fit3 h).imp id fun e => ⟨e, rfl⟩) hf⟩
  · exact .inr (.inl ⟨of_decide_eq_true (show decide (headI v = 4) = true from hf), rfl⟩)
  · have h := shape_el (P := fun k => fitsB (tagK k) k v = true → (decide (headI v = 5) && decide (secI v = k)) = true) hk id id id hf
    exact .inr (.inr ⟨of_decide_eq_true (both h).1, of_decide_eq_true (both h).2⟩)
theorem taken_num {k t n : Int} (hk : cellKind k) (h3 : t ≤ 3) (hf : fitsB (tagK k) k (.tup [.int t, .int n]) = true) : KV k (keepV k (.tup [.int t, .int n])) := by
  rcases fit_head hk hf with ⟨h, _⟩ | ⟨e, _⟩ | ⟨e, _⟩
  · rw [keepV_num ⟨h.1, h.2, h3⟩]; exact .num k _ h.1 h.2
  · exact absurd ((show t = 4 from e) ▸ h3) (by decide)
  · exact absurd ((show t = 5 from e) ▸ h3) (by decide)
theorem taken_kv {k : Int} {v : V} (hk : cellKind k) (h : OffV v) (hf : fitsB (tagK k) k v = true) : KV k (keepV k v) := by
  rcases h with ⟨t, n, rfl, h1, h3⟩ | ⟨k', h⟩
  · exact taken_num hk h3 hf
  · cases h with
    | num k' n h0 h1 => exact taken_num hk (tagI_13 h0 h1).2 hf
    | ftn m =>
      rw [keepV_no fun z => absurd z.2.2 (by decide)]
      rcases fit_head hk hf with ⟨_, e | ⟨_, rfl⟩⟩ | ⟨e, _⟩ | ⟨e, _⟩
      · exact absurd (show (7 : Int) ≤ 3 from e) (by decide)
      · exact .ftn m
      · exact absurd (show (7 : Int) = 4 from e) (by decide)
      · exact absurd (show (7 : Int) = 5 from e) (by decide)
    | ref a =>
      rw [keepV_no fun z => absurd z.2.2 (by decide)]
      rcases fit_head hk hf with ⟨_, e | ⟨e, _⟩⟩ | ⟨_, rfl⟩ | ⟨e, _⟩
      · exact absurd (show (4 : Int) ≤ 3 from e) (by decide)
      · exact absurd (show (4 : Int) = 7 from e) (by decide)
      · exact .ref a
      · exact absurd (show (4 : Int) = 5 from e) (by decide)
    | node k' vs hs hl hv =>
      rw [keepV_no fun z => absurd z.2.2 (by decide)]
      rcases fit_head hk hf with ⟨_, e | ⟨e, _⟩⟩ | ⟨e, _⟩ | ⟨_, e⟩
      · exact absurd (show (5 : Int) ≤ 3 from e) (by decide)
      · exact absurd (show (5 : Int) = 7 from e) (by decide)
      · exact absurd (show (5 : Int) = 4 from e) (by decide)
      · have e : k' = k := e
        subst e; exact .node k' vs hs hl hv
section
variable {bits : Int} {old : List (V × V)} {σ : Sg} {H : AH}
/-- what may follow a deed -/
noncomputable def Next (bits : Int) (old : List (V × V)) (m : Nat) (Q : V → AH → Prop) : Prop := ∀ σ' H', Inv bits old σ' H' → SgOk bits old σ' → σ'.cards.length ≤ m → Q (.bool true) H'
theorem c_drawn {n : Nat} {i : Nat} {q : List Int} {t : Tr} {l y : Int} {Q : V → AH → Prop} (I : Inv bits old σ H) (O : SgOk bits old σ) (hi : i < σ.N) (hs : subT (σ.tr i) q = some t) (hq : q.length < 300) (hcl : σ.cards.length ≤ 900)
    (h : Next bits old (σ.cards.length + 1) Q) : wp (callF (n + 13) k_law_drawn_write [.ref 179, spotV i (σ.pl i) q t l, .int y]) Q H := by
  rw [wp_call (fd := fd_law_drawn_write) rfl rfl]
  obtain ⟨v', hg, tv', l1, l2, hq1⟩ := sub_get q (I.trees i hi) hs
  obtain ⟨x, hc⟩ := tv'.cell
  have hk := tv'.kv.cell
  refine u_asg (v := .int t.kind) (fun K h => u_subl (fun K h => h) (fun K h => h) hc rfl h) ?_
  refine u_asgE (u_call4 (fun K h => h) (fun K h => h) (fun K h => u_w I.w rfl h) (u_w I.w rfl (c_offered (n := n + 5) I.K hk fun H1 v ex off => ?_)))
  replace I := I.ext ex
  clear hc tv' ex
  obtain ⟨tt, r, rfl, ht0, h5, hit, hcase⟩ := off.head
  refine u_no' (fun K h => u_or (a := false) (fun K h => u_not (fun K h => u_call2 (fun K h => h) (fun K h => h) (c_slots (n := n + 8) I.K I.w ht0 h5 hit (by decide) h)) h)
    (fun _ K h => u_or1 (a := false) (fun K h => u_not (fun K h => u_call2 (fun K h => h) (fun K h => h) (c_slots (n := n + 8) (d := 3) I.K I.w (by decide) (fun e => absurd e (by decide)) (Bool.and_eq_true_iff.mpr ⟨plV_it _ _, rfl⟩ : it 3 (.tup [.int 6, plV (σ.pl i) q]) = true) (by decide) h)) h) h) h) ?_
  refine u_asg (v := .bool (fitsB (tagK t.kind) t.kind (.tup (.int tt :: r)))) (fun K h => u_call3 (fun K h => u_w I.w rfl h) (fun K h => h) (fun K h => h) (c_fits (n := n + 9) I.K hk.ge hk.le h5 hit (by decide) h)) ?_
  refine u_no' (fun K h => u_or (a := false) (fun K h => h) (fun _ K h => u_or1 (a := false) (fun K h => u_cmp (fun K h => h) (fun K h => u_call3 (fun K h => h) (fun K h => h) (fun K h => u_w I.w rfl h) (c_takes (n := n + 11) I.K hk h5 h)) (wp_ne_bool.mpr (by rw [bne_self_eq_false]; exact h))) h) h) ?_
  refine u_if' (fun K h => u_not (fun K h => h) h) (fun _ => ?_) (fun hf => ?_)
  · exact u_ret (h σ H1 I O (Nat.le_succ _))
  · have kv := taken_kv hk off (Eq.mp (Bool.not_eq_false' _) hf)
    refine u_asg (v := keepV t.kind (.tup (.int tt :: r))) (fun K h => u_call3 (fun K h => u_w I.w rfl h) (fun K h => h) (fun K h => h) (c_store_as (n := n + 8) I.K hk.ge hk.le (hcase.elim (fun ⟨x, e, h1⟩ => .inl ⟨tt, x, by rw [e], h1⟩) (fun h3 => .inr ⟨tt, r, rfl, h3⟩)) h)) ?_
    refine u_iteCmp (fun K h => h) (u_call2 (fun K h => h) (fun K h => h) (c_keeps (n := n + 10) (hcase.elim (fun ⟨x, e, h1⟩ => .inl ⟨tt, x, by rw [e]⟩) (fun h3 => .inr ⟨tt, r, rfl, h3⟩)) fun H2 ex => ?_))
    replace I := I.ext ex
    refine wp_ne_it kv.it kv.it (by decide) (by decide) (fun _ => ?_) (fun e => absurd rfl e)
    exact ifK_f rfl (u_ret (u_call3 (fun K h => h) (fun K h => h) (fun K h => h) (c_law_write (n := n) (l := l) I O hi hs hq kv (Nat.le_trans hcl (by decide)) h)))
end
end Mine
end
section
set_option maxRecDepth 100000
namespace Mine
open PySem
section
variable {C : Nat → List V → M V} {ρ : Loc} {H : AH} {a b c e it : E} {t ss : Ss} {QF : Flow → AH → Prop} {Q : V → AH → Prop} {u v : V}
theorem u_compIf {x : Nat} (h : wE C it ρ (kCi1 C x c e ρ Q) H) : wE C (.compIf x it c e) ρ Q H := h
theorem u_comp {x : Nat} (h : wE C it ρ (kCo1 C x e ρ Q) H) : wE C (.comp x it e) ρ Q H := h
theorem u_eltI {x : Nat} {d : Bool} {K : Option V → AH → Prop} (hc : ∀ K : V → AH → Prop, K (.bool d) H → wE C c (Mine.put ρ x v) K H) (h1 : d = true → wE C e (Mine.put ρ x v) (fun y H' => K (some y) H') H) (h0 : d = false → K none H) : wp (eltI C x c e ρ v) K H := by
  refine hc (kEI1 C x e ρ v K) ?_
  cases d
  · exact h0 rfl
  · exact h1 rfl
theorem u_len {r : Nat} {l : List V} (ha : ∀ K : V → AH → Prop, K (.ref r) H → wE C a ρ K H) (hl : H[r]? = some (.lst l)) (hz : l.length ≤ 1000) (h : Q (.int l.length) H) : wE C (.len a) ρ Q H := ha (kLen Q) ((wp_len_lst hl (lineOk_k hz)).mpr h)
theorem u_cmpL {op : COp} (h : wE C a ρ (fun u H' => wE C b ρ (fun v H'' => wCmp op u v (kCmpR Q) H'') H') H) : wE C (.cmp op a b) ρ Q H := h
theorem u_picked {r : Nat} {l : List V} {y : Int} {x : V} (h1 : ∀ K : V → AH → Prop, K (.ref r) H → wE C a ρ K H) (hy : ∀ K : V → AH → Prop, K (.int y) H → wE C b ρ K H) (h2 : ∀ K : V → AH → Prop, K (.ref r) H → wE C c ρ K H) (hl : H[r]? = some (.lst l)) (h0 : 0 < l.length) (hz : l.length ≤ 1000) (hx : getAt l (y % (l.length : Int)) = some x) (h : Q x H) :
    wE C (.sub a (.bin .mod b (.len c))) ρ Q H :=
  u_subl h1 (fun K h => u_bin hy (fun K h => u_len h2 hl hz h) ((wp_mod (Int.ne_of_gt (Int.ofNat_lt.mpr h0))).mpr (by rw [fmod_pos (Int.natCast_nonneg _)]; exact h))) hl hx h
end
theorem pick_at {l : List V} (y : Int) (h0 : 0 < l.length) (hz : l.length ≤ 1000) : ∃ x ∈ l, getAt l (y % (l.length : Int)) = some x := by
  have m0 : 0 ≤ y % (l.length : Int) := Int.emod_nonneg _ (Int.ne_of_gt (Int.ofNat_lt.mpr h0))
  have m1 : y % (l.length : Int) < l.length := Int.emod_lt_of_pos _ (Int.ofNat_lt.mpr h0)
  obtain ⟨x, hx⟩ := ex_at ((Int.toNat_lt m0).mpr m1)
  exact ⟨x, List.mem_of_getElem? hx, (getAt_in m0 (Int.lt_trans m1 (Int.ofNat_lt.mpr (Nat.lt_of_le_of_lt hz (by decide))))).trans hx⟩
theorem sub_len : ∀ (p : List Int) {H : AH} {t t' : Tr} {v : V}, TV H t v → subT t p = some t' → p.length ≤ dK t.kind
  | [], _, _, _, _, _, _ => Nat.zero_le _
  | s :: p, H, t, t', v, h, e => by
    obtain ⟨h0, c, hci, e⟩ := subT_in e
    exact h.in hci (P := fun t _ => (s :: p).length ≤ dK t.kind) fun lo a b k cs vs x n hcs hci hvi tc => Nat.lt_of_le_of_lt (sub_len p tc e) (kids_dK (n.kid hci))
section
variable {bits : Int} {old : List (V × V)} {σ : Sg} {H : AH}
/-- a spot, and what is known of it -/
structure Spot (σ : Sg) (H : AH) (i : Nat) (q : List Int) (t : Tr) (l : Int) (v : V) : Prop where
  hi : i < σ.N
  sub : subT (σ.tr i) q = some t
  tv : TV H t v
  get : getP (σ.val i) q = some v
  mem : (q, l) ∈ spK 20 (σ.tr i).kind [] 0
  small : ∀ s ∈ q, s < 2 ^ 63
  len : q.length ≤ 3
theorem Inv.spot (I : Inv bits old σ H) (O : SgOk bits old σ) {s : V} (hs : s ∈ σ.sp) : ∃ i q t l v, s = spotV i (σ.pl i) q t l ∧ Spot σ H i q t l v := by
  obtain ⟨i, hi, q, l, t, hm, hsub, e⟩ := O.spots s hs
  obtain ⟨v, hg, tv, _, _, hq⟩ := sub_get q (I.trees i hi) hsub
  exact ⟨i, q, t, l, v, e, hi, hsub, tv, hg, hm, fun s hs => Int.lt_trans (hq s hs) (by decide), Nat.le_trans (sub_len q (I.trees i hi) hsub) (dK_le _)⟩
theorem Spot.ext {H' : AH} {i : Nat} {q : List Int} {t : Tr} {l : Int} {v : V} (S : Spot σ H i q t l v) (e : Ext H H') : Spot σ H' i q t l v := { S with tv := S.tv.ext e }
theorem Spot.l300 {i : Nat} {q : List Int} {t : Tr} {l : Int} {v : V} (S : Spot σ H i q t l v) : q.length < 300 := Nat.lt_of_le_of_lt S.len (by decide)
theorem SgOk.spl (O : SgOk bits old σ) : σ.sp.length ≤ 300 := Nat.le_trans (Nat.le_add_right ..) O.splen
/-- a spot of a kind -/
noncomputable def SpotK (σ : Sg) (H : AH) (k : Int) (s : V) : Prop := ∃ i' q' t' l' v', s = spotV i' (σ.pl i') q' t' l' ∧ Spot σ H i' q' t' l' v' ∧ t'.kind = k
/-- the state of the loop -/
inductive CpI (σ : Sg) (H : AH) (k : Int) (i0 idx : Nat) (acc : List V) (H' : AH) : Prop
  | mk : H' = H → acc.length ≤ idx → idx ≤ σ.sp.length → (i0 < idx → 0 < acc.length) → (∀ s ∈ acc, SpotK σ H k s) → CpI σ H k i0 idx acc H'
theorem c_copy {n : Nat} {i : Nat} {q : List Int} {t : Tr} {l y : Int} {v : V} {Q : V → AH → Prop} (I : Inv bits old σ H) (O : SgOk bits old σ) (S : Spot σ H i q t l v) (hs : spotV i (σ.pl i) q t l ∈ σ.sp) (hcl : σ.cards.length ≤ 900)
    (h : Next bits old (σ.cards.length + 1) Q) : wp (callF (n + 13) k_law_copy [.ref 179, spotV i (σ.pl i) q t l, v, .int y]) Q H := by
  rw [wp_call (fd := fd_law_copy) rfl rfl]
  refine u_asgE (u_compIf (u_w I.w rfl ?_))
  refine (wp_toIt_lst I.spots).mpr ?_
  obtain ⟨x, hc⟩ := S.tv.cell
  obtain ⟨i0, hi0⟩ := List.getElem?_of_mem hs
  have hspl := O.spl
  refine wp_comp_lst (xs := σ.sp) (CpI σ H t.kind i0) (fun idx acc H' hI => by obtain ⟨rfl, _⟩ := hI; exact I.spots) (fun idx acc H' hI => by obtain ⟨_, a, b, _⟩ := hI; exact Nat.le_trans a (Nat.le_trans b (Nat.le_trans hspl (by decide))))
    (Nat.lt_of_le_of_lt (Nat.le_trans (Nat.sub_le ..) hspl) (by decide)) ⟨rfl, Nat.le_refl _, Nat.zero_le _, fun h => (nomatch h), fun s hs => (nomatch hs)⟩ ?_ ?_
  · rintro idx s acc H' K hsi ⟨rfl, a1, a2, a3, a4⟩ hK
    obtain ⟨i', q', t', l', v', rfl, S'⟩ := I.spot O (List.mem_of_getElem? hsi)
    obtain ⟨x', hc'⟩ := S'.tv.cell
    refine u_eltI (d := decide (t'.kind = t.kind)) (fun K h => u_cmp (fun K h => u_subl (fun K h => h) (fun K h => h) hc' rfl h) (fun K h => u_subl (fun K h => h) (fun K h => h) hc rfl h) h) (fun e => ?_) (fun e => ?_)
    · refine hK.s ⟨rfl, by rw [len_snoc]; exact Nat.succ_le_succ a1, at_lt hsi, fun _ => by rw [len_snoc]; exact Nat.succ_pos _, fun s hs => ?_⟩
      exact (List.mem_append.mp hs).elim (a4 s) fun hs => List.mem_singleton.mp hs ▸ ⟨i', q', t', l', v', rfl, S', of_decide_eq_true e⟩
    · refine hK.n ⟨rfl, Nat.le_succ_of_le a1, at_lt hsi, fun hi1 => ?_, a4⟩
      by_cases e' : i0 = idx
      · subst e'
        have e1 := V.tup.inj (Option.some.inj (hi0.symm.trans hsi))
        have e2 : t.adr = t'.adr := V.ref.inj (List.cons.inj (List.cons.inj (List.cons.inj e1).2).2).1
        rw [e2, hc'] at hc
        exact absurd (V.int.inj (List.cons.inj (Cell.lst.inj (Option.some.inj hc))).1) (of_decide_eq_false e)
      · exact a3 (Nat.lt_of_le_of_ne (Nat.le_of_lt_succ hi1) e')
  · rintro idx acc H' hidx ⟨rfl, a1, a2, a3, a4⟩
    have hlen : 0 < acc.length := a3 (Nat.lt_of_lt_of_le (at_lt hi0) hidx)
    have hz : acc.length ≤ 1000 := Nat.le_trans a1 (Nat.le_trans a2 (Nat.le_trans hspl (by decide)))
    have e1 := end_at H' (.lst acc)
    obtain ⟨z, hzm, hgx⟩ := pick_at y hlen hz
    obtain ⟨i', q', t', l', v', rfl, S', hk⟩ := a4 _ hzm
    exact u_ret (u_call3 (fun K h => h) (fun K h => u_picked (fun K h => h) (fun K h => h) (fun K h => h) e1 hlen hz hgx h) (fun K h => h) (c_law_write (n := n) (I.ext (.push H' (.lst acc))) O S'.hi S'.sub S'.l300 (by rw [hk]; exact S.tv.kv) (Nat.le_trans hcl (by decide)) h))
/-! places that are the same -/
theorem strip_ok : ∀ k, (k = 16 ∨ k = 17 ∨ k = 18) → ∀ a ∈ spK 20 k [] 0, ∀ b ∈ spK 20 k [] 0, (strip a.1 = strip b.1 ↔ a.2 = b.2) := by
  rintro k (rfl | rfl | rfl) <;> decide +kernel
theorem strip_iff {k : Int} (hk : cellKind k) {a b : List Int × Int} (ha : a ∈ spK 20 k [] 0) (hb : b ∈ spK 20 k [] 0) : strip a.1 = strip b.1 ↔ a.2 = b.2 := by
  cases hs : isShape k with
  | true => exact strip_ok k (shape_cases hs) a ha b hb
  | false =>
    rw [spK_succ, leaf_kids hs] at ha hb
    rw [List.mem_singleton.mp ha, List.mem_singleton.mp hb]
    exact ⟨fun _ => rfl, fun _ => rfl⟩
theorem ivs_inj : ∀ {a b : List Int}, ivs a = ivs b → a = b
  | [], [], _ => rfl
  | [], _ :: _, h => nomatch h
  | _ :: _, [], h => nomatch h
  | a :: l, b :: r, h => by
    have h := List.cons.inj (show V.int a :: ivs l = V.int b :: ivs r from h)
    rw [V.int.inj h.1, ivs_inj h.2]
theorem plV_inj {a b : Pl} {p q : List Int} (ha : a.ok) (hb : b.ok) : plV a p = plV b q ↔ a = b ∧ p = q := by
  refine ⟨fun h => ?_, fun h => by rw [h.1, h.2]⟩
  cases a with
  | slot k a i =>
    cases b with
    | slot k' a' i' =>
      have h1 := List.cons.inj (V.tup.inj h)
      have h2 := List.cons.inj h1.2
      have h3 := List.cons.inj h2.2
      rw [V.int.inj h1.1, V.int.inj h2.1, V.int.inj h3.1, ivs_inj (V.tup.inj (List.cons.inj h3.2).1)]
      exact ⟨rfl, rfl⟩
    | heap w => exact nomatch (List.cons.inj (List.cons.inj (List.cons.inj (V.tup.inj h)).2).2).2
  | heap w =>
    cases b with
    | slot k' a' i' => exact nomatch (List.cons.inj (List.cons.inj (List.cons.inj (V.tup.inj h)).2).2).2
    | heap w' =>
      have h2 := List.cons.inj (List.cons.inj (V.tup.inj h)).2
      rw [V.int.inj h2.1, ivs_inj (V.tup.inj (List.cons.inj h2.2).1)]
      exact ⟨rfl, rfl⟩
theorem eqR_lst {a b : Nat} {l : List V} {d : Nat} {H : AH} {k : Bool → Prop} (ha : H[a]? = some (.lst l)) (hb : H[b]? = some (.lst l)) (hl : its d l = true) (hd : d ≤ 60) (h : k true) : eqR H a b k := by
  obtain ⟨p1, p2, p3⟩ := its_pure d l hl
  have sh : SeqAt.shaped (.list (toPs l)) = true := Bool.and_eq_true_iff.mpr ⟨p2, decide_eq_true (Nat.succ_le_succ (Nat.le_trans p3 (Nat.le_trans (Nat.succ_le_succ hd) (by decide))))⟩
  delta eqR
  rw [ha]
  show atL H[b]? _
  rw [hb]
  show bQ (arePure l && (arePure l && (SeqAt.shaped (.list (toPs l)) && SeqAt.shaped (.list (toPs l))))) (k (PyData.eqvAll (toPs l) (toPs l)))
  rw [p1, sh, (its_eqv d d l l hl hl).mpr rfl]; exact h
theorem wp_eq_lst {a b : Nat} {l : List V} {d : Nat} {QB : Bool → AH → Prop} {H : AH} (ha : H[a]? = some (.lst l)) (hb : H[b]? = some (.lst l)) (hl : its d l = true) (hd : d ≤ 60) (h : QB true H) : wCmp .eq (.ref a) (.ref b) QB H := eqR_lst (k := fun r => QB r H) ha hb hl hd h
theorem wp_ne_lst {a b : Nat} {l : List V} {d : Nat} {QB : Bool → AH → Prop} {H : AH} (ha : H[a]? = some (.lst l)) (hb : H[b]? = some (.lst l)) (hl : its d l = true) (hd : d ≤ 60) (h : QB false H) : wCmp .ne (.ref a) (.ref b) QB H := eqR_lst (k := fun r => QB (!r) H) ha hb hl hd h
theorem c_compare {n : Nat} {i : Nat} {q : List Int} {t : Tr} {l y : Int} {v : V} {Q : V → AH → Prop} (I : Inv bits old σ H) (O : SgOk bits old σ) (S : Spot σ H i q t l v)
    (h : ∀ H', Ext H H' → Q (.bool true) H') : wp (callF (n + 13) k_law_compare [.ref 179, spotV i (σ.pl i) q t l, v, .int y]) Q H := by
  rw [wp_call (fd := fd_law_compare) rfl rfl]
  have hz := Nat.le_trans O.spl (by decide : 300 ≤ 1000)
  obtain ⟨z, hzm, hgx⟩ := pick_at y O.spne hz
  obtain ⟨i', q', t', l', v', rfl, S'⟩ := I.spot O hzm
  have key : plV (σ.pl i) (strip q) = plV (σ.pl i') (strip q') ↔ (i = i' ∧ l = l') := by
    rw [plV_inj (O.ok i S.hi) (O.ok i' S'.hi)]
    constructor
    · rintro ⟨a, b⟩
      have ii : i = i' := by
        rcases Nat.lt_trichotomy i i' with z | z | z
        · exact absurd a (O.plne _ _ z S'.hi)
        · exact z
        · exact absurd a.symm (O.plne _ _ z S.hi)
      subst ii
      exact ⟨rfl, (strip_iff (I.trees i S.hi).kv.cell S.mem S'.mem).mp b⟩
    · rintro ⟨rfl, a⟩
      exact ⟨rfl, (strip_iff (I.trees i S.hi).kv.cell S.mem S'.mem).mpr a⟩
  have hb : decide (i = i' ∧ l = l') = (decide ((i : Int) = (i' : Int)) && decide (l = l')) := by rw [Bool.decide_and, decide_eq_decide.mpr Int.ofNat_inj]
  refine u_asg (v := spotV i' (σ.pl i') q' t' l') (fun K h => u_picked (fun K h => u_w I.w rfl h) (fun K h => h) (fun K h => u_w I.w rfl h) I.spots O.spne hz hgx h) ?_
  refine u_asg (v := .bool (decide (i = i' ∧ l = l'))) (fun K h => u_call2 (fun K h => h) (fun K h => h) (c_same (n := n + 9) (O.ok i S.hi) (O.ok i' S'.hi) S.l300 S'.l300 (fun a => by rw [decide_eq_true (key.mp a)] at h; exact h) (fun a => by rw [decide_eq_false (mt key.mpr a)] at h; exact h))) ?_
  refine u_no' (fun K h => u_or (a := false) (fun K h => h) (fun _ K h => u_or1 (a := false) (fun K h => u_cmp (v := .bool (decide ((i : Int) = (i' : Int)) && decide (l = l'))) (fun K h => h) (fun K h => u_and (a := decide ((i : Int) = (i' : Int))) (fun K h => h) (fun _ K h => u_and1 (fun K h => h) h) h) (wp_ne_bool.mpr (by rw [hb, bne_self_eq_false]; exact h))) h) h) ?_
  have hf := S.tv.kv.fine
  exact u_ret (u_cmpL (u_call1 (fun K h => h) (c_refs_in hf.vd (by decide) hf.nds fun H1 a ex1 ha => u_call1 (fun K h => h) (c_addresses (n := n + 8) hf.vd (by decide) fun H2 c ex2 hc =>
    wp_eq_lst (d := 0) (ex2.at ha) hc (its_ivs 0 _) (by decide) (h H2 (ex1.trans ex2))))))
end
end Mine
end
section
set_option maxRecDepth 100000
namespace Mine
section
variable {QU : Unit → AH → Prop} {H : AH}
theorem wp_setattr {a c f : Nat} {fs : List (Nat × V)} {v : V} (h : H[a]? = some (.inst c fs)) (hf : fldIn GL.fld c f = true) (hl : Nat.ble fs.length 900 = true) : wp (setattrV GL.fld (.ref a) f v) QU H ↔ QU () (H.set a (.inst c (Mine.put fs f v))) := by
  show atI H[a]? _ ↔ _
  rw [h]; exact Iff.of_eq (bQ_is (by rw [hf, hl]; rfl))
end
section
variable {C : Nat → List V → M V} {ρ : Loc} {H : AH} {o e a b d : E} {ss : Ss} {QF : Flow → AH → Prop} {Q : V → AH → Prop} {u v w : V} {r c f : Nat} {fs : List (Nat × V)}
theorem u_setattr (he : ∀ K : V → AH → Prop, K v H → wE C e ρ K H) (ho : ∀ K : V → AH → Prop, K (.ref r) H → wE C o ρ K H) (h1 : H[r]? = some (.inst c fs)) (hf : fldIn GL.fld c f = true) (hl : Nat.ble fs.length 900 = true) (h : wSs C ss ρ QF (H.set r (.inst c (Mine.put fs f v)))) : wSs C (.cons (.setattr o f e) ss) ρ QF H :=
  he (kSA1 C o f ρ (kSeq C ss QF)) (ho (kSA2 f v ρ (kSeq C ss QF)) ((wp_setattr h1 hf hl).mpr h))
theorem u_augattr {x y : Int} (ho : ∀ K : V → AH → Prop, K (.ref r) H → wE C o ρ K H) (h1 : H[r]? = some (.inst c fs)) (hf : fldIn GL.fld c f = true) (hv : look fs f = some (.int x)) (he : ∀ K : V → AH → Prop, K (.int y) H → wE C e ρ K H) (hl : Nat.ble fs.length 900 = true) (h : wSs C ss ρ QF (H.set r (.inst c (Mine.put fs f (.int (x + y)))))) : wSs C (.cons (.augattr o f .add e) ss) ρ QF H :=
  ho (kAA1 C f .add e ρ (kSeq C ss QF)) ((wp_attr h1 hf hv).mpr (he (kAA3 f .add (.ref r) (.int x) ρ (kSeq C ss QF)) ((wp_setattr h1 hf hl).mpr h)))
theorem u_append {l : List V} (ho : ∀ K : V → AH → Prop, K (.ref r) H → wE C o ρ K H) (he : ∀ K : V → AH → Prop, K v H → wE C e ρ K H) (hl : H[r]? = some (.lst l)) (hz : l.length ≤ 1000) (h : wSs C ss ρ QF (H.set r (.lst (l ++ [v])))) : wSs C (.cons (.expr (.append o e)) ss) ρ QF H :=
  ho (kApp1 C e ρ (kExp ρ (kSeq C ss QF))) ((wp_isLst hl).mpr (he (kApp3 (.ref r) (kExp ρ (kSeq C ss QF))) ((wp_append hl (lineOk_k hz)).mpr h)))
theorem u_new3 (ha : ∀ K : V → AH → Prop, K u H → wE C a ρ K H) (hb : ∀ K : V → AH → Prop, K v H → wE C b ρ K H) (hd : ∀ K : V → AH → Prop, K w H → wE C d ρ K H) (hf : look GL.init c = some f) (h : wp (C f [.ref H.length, u, v, w]) (fun r H' => onNone r (Q (.ref H.length) H')) (H ++ [.inst c []])) : wE C (.new c (.cons a (.cons b (.cons d .nil)))) ρ Q H :=
  ha (kEs1 C (.cons b (.cons d .nil)) ρ (kNew1 C c Q)) (hb (kEs1 C (.cons d .nil) ρ (kEs2 u (kNew1 C c Q))) (hd (kEs1 C .nil ρ (kEs2 v (kEs2 u (kNew1 C c Q)))) (show oQ (look GL.init c) _ _ from hf ▸ h)))
end
noncomputable def thFs (addr kind : Int) (la : Nat) (gen : Int) (size serial : Int) : List (Nat × V) := [(117, .int addr), (118, .int kind), (119, .ref la), (122, .int gen), (121, .int size), (120, .int serial)]
theorem c_thing_init {n : Nat} {addr kind : Int} {la : Nat} {v : V} {Q : V → AH → Prop} {H : AH} (hla : H[la]? = some (.lst [v])) (h : Q .none (H ++ [.inst 123 (thFs addr kind la 0 3 0)])) :
    wp (callF (n + 2) k_Thing_init [.ref H.length, .int addr, .int kind, .ref la]) Q (H ++ [.inst 123 []]) := by
  rw [wp_call (fd := fd_Thing_init) rfl rfl]
  have st : ∀ {C ρ e v f fs ss} {QF : Flow → AH → Prop}, (∀ K : V → AH → Prop, K v (H ++ [.inst 123 fs]) → wE C e ρ K (H ++ [.inst 123 fs])) → look ρ 1 = some (.ref H.length) → fldIn GL.fld 123 f = true → Nat.ble fs.length 900 = true → wSs C ss ρ QF (H ++ [.inst 123 (Mine.put fs f v)]) → wSs C (.cons (.setattr (.loc 1) f e) ss) ρ QF (H ++ [.inst 123 fs]) := fun he hl hf hb h =>
    u_setattr he (fun K h => u_loc hl h) (end_at H _) hf hb (by rw [end_set]; exact h)
  refine st (fun K h => h) rfl rfl rfl (st (fun K h => h) rfl rfl rfl (st (fun K h => h) rfl rfl rfl (st (fun K h => h) rfl rfl rfl (st (v := .int 3) (fun K h => u_call1 (fun K h => u_len (fun K h => h) (app_at hla) (show 1 ≤ 1000 by decide) h) ?_) rfl rfl rfl (st (fun K h => h) rfl rfl rfl h)))))
  rw [wp_call (fd := fd_words_for) rfl rfl]
  exact h
theorem dput_new : ∀ (l : List (V × V)) (k v : V), dfind l k = none → dput l k v = l ++ [(k, v)]
  | [], k, v, _ => rfl
  | (a, u) :: l, k, v, h => by
    have h : (match keyEq a k with | true => some u | false => dfind l k) = none := h
    show (match keyEq a k with | true => (a, v) :: l | false => (a, u) :: dput l k v) = _
    cases e : keyEq a k with
    | true => rw [e] at h; cases h
    | false =>
      rw [e] at h
      exact congrArg _ (dput_new l k v h)
/-- the thing that heap_alloc makes -/
noncomputable def newTh (r : Nat) (top kind : Int) (la : Nat) (made : Int) : Th := ⟨r, top, kind, la, 0, made + 1, 1⟩
noncomputable def hpC (top bits fresh made : Int) : Cell := .inst 137 [(136, .ref 150), (135, .ref 151), (110, .int top), (125, .int 400), (133, .ref 152), (126, .int bits), (132, .int fresh), (131, .int 101), (130, .ref 153), (129, .ref 154), (128, .int 0), (127, .int made)]
/-- what heap_alloc leaves -/
structure Alloc (ths : List Th) (top bits fresh made kind : Int) (la : Nat) (H H' : AH) : Prop where
  heap : H'[149]? = some (hpC (top + 3) bits (fresh + 3) (made + 1))
  things : H'[150]? = some (.lst ((ths ++ [newTh H.length top kind la made]).map fun t => .ref t.r))
  at_ : H'[151]? = some (.dct ((ths ++ [newTh H.length top kind la made]).map fun t => (.int t.addr, .ref t.r)))
  cell : H'[H.length]? = some (newTh H.length top kind la made).cell
  fr : ∀ a c, a ≠ 149 → a ≠ 150 → a ≠ 151 → H[a]? = some c → H'[a]? = some c
  len : H'.length = H.length + 1
/-- the four cells on the way -/
structure AlS (H : AH) (c1 c2 c3 c4 : Cell) (H0 : AH) : Prop where
  p1 : H0[149]? = some c1
  p2 : H0[150]? = some c2
  p3 : H0[151]? = some c3
  p4 : H0[H.length]? = some c4
  fr : ∀ a c, a ≠ 149 → a ≠ 150 → a ≠ 151 → H[a]? = some c → H0[a]? = some c
  len : H0.length = H.length + 1
  big : 151 < H.length
section
variable {H H0 : AH} {c1 c2 c3 c4 : Cell} (S : AlS H c1 c2 c3 c4 H0) (c : Cell)
include S
theorem AlS.s1 : AlS H c c2 c3 c4 (H0.set 149 c) := ⟨set_at S.p1, (set_ne (by decide)).trans S.p2, (set_ne (by decide)).trans S.p3, (set_ne (Nat.ne_of_lt (Nat.lt_trans (by decide) S.big))).trans S.p4, fun a z a1 a2 a3 hz => (set_ne a1.symm).trans (S.fr a z a1 a2 a3 hz), (List.length_set ..).trans S.len, S.big⟩
theorem AlS.s2 : AlS H c1 c c3 c4 (H0.set 150 c) := ⟨(set_ne (by decide)).trans S.p1, set_at S.p2, (set_ne (by decide)).trans S.p3, (set_ne (Nat.ne_of_lt (Nat.lt_trans (by decide) S.big))).trans S.p4, fun a z a1 a2 a3 hz => (set_ne a2.symm).trans (S.fr a z a1 a2 a3 hz), (List.length_set ..).trans S.len, S.big⟩
theorem AlS.s3 : AlS H c1 c2 c c4 (H0.set 151 c) := ⟨(set_ne (by decide)).trans S.p1, (set_ne (by decide)).trans S.p2, set_at S.p3, (set_ne (Nat.ne_of_lt S.big)).trans S.p4, fun a z a1 a2 a3 hz => (set_ne a3.symm).trans (S.fr a z a1 a2 a3 hz), (List.length_set ..).trans S.len, S.big⟩
theorem AlS.s4 : AlS H c1 c2 c3 c (H0.set H.length c) := ⟨(set_ne (Nat.ne_of_gt (Nat.lt_trans (by decide) S.big))).trans S.p1, (set_ne (Nat.ne_of_gt (Nat.lt_trans (by decide) S.big))).trans S.p2, (set_ne (Nat.ne_of_gt S.big)).trans S.p3, set_at S.p4, fun a z a1 a2 a3 hz => (set_ne (Nat.ne_of_gt (at_lt hz))).trans (S.fr a z a1 a2 a3 hz), (List.length_set ..).trans S.len, S.big⟩
end
theorem c_alloc {n : Nat} {ths : List Th} {top bits fresh made kind : Int} {la : Nat} {v : V} {Q : V → AH → Prop} {H : AH} (P : HpI ths top bits fresh made H) (hla : H[la]? = some (.lst [v])) (hn : ∀ t ∈ ths, t.addr ≠ top) (hl : ths.length ≤ 100)
    (h : ∀ H', Alloc ths top bits fresh made kind la H H' → Q (.ref H.length) H') : wp (callF (n + 4) k_heap_alloc [.ref 149, .int kind, .ref la]) Q H := by
  rw [wp_call (fd := fd_heap_alloc) rfl rfl]
  refine u_asgE (u_new3 (fun K h => u_attr (fun K h => h) P.heap rfl rfl h) (fun K h => h) (fun K h => h) (show look GL.init 123 = some 116 from rfl) (c_thing_init (n := n + 1) hla ?_))
  have S : AlS H (hpC top bits fresh made) (.lst (ths.map fun t => .ref t.r)) (.dct (ths.map fun t => (.int t.addr, .ref t.r))) (.inst 123 (thFs top kind la 0 3 0)) (H ++ [.inst 123 (thFs top kind la 0 3 0)]) :=
    ⟨app_at P.heap, app_at P.things, app_at P.at_, end_at _ _, fun a c _ _ _ hc => app_at hc, len_snoc .., at_lt P.at_⟩
  have hlen : (ths.map fun t => V.ref t.r).length ≤ 1000 := by rw [List.length_map]; exact Nat.le_trans hl (by decide)
  have hlen' : (ths.map fun t => (V.int t.addr, V.ref t.r)).length ≤ 1000 := by rw [List.length_map]; exact Nat.le_trans hl (by decide)
  generalize H ++ [Cell.inst 123 (thFs top kind la 0 3 0)] = H0 at S
  show wSs _ _ [(139, .ref 149), (118, .int kind), (119, .ref la), (140, .ref H.length)] _ H0
  refine u_augattr (fun K h => h) S.p1 rfl rfl (fun K h => h) rfl ?_
  replace S := S.s1 (hpC top bits fresh (made + 1))
  refine u_setattr (fun K h => u_attr (fun K h => h) S.p1 rfl rfl h) (fun K h => h) S.p4 rfl rfl ?_
  replace S := S.s4 (newTh H.length top kind la made).cell
  refine u_append (fun K h => u_attr (fun K h => h) S.p1 rfl rfl h) (fun K h => h) S.p2 hlen ?_
  replace S := S.s2 (.lst (ths.map (fun t => V.ref t.r) ++ [.ref H.length]))
  refine u_setE (fun K h => h) (fun K h => u_attr (fun K h => h) S.p1 rfl rfl h) (fun K h => u_attr (v := .int top) (fun K h => h) S.p4 rfl rfl h) ((wp_set_dct S.p3 (ths_key _ _) rfl (lineOk_k hlen')).mpr ?_)
  have hdf : dfind (ths.map fun t => (V.int t.addr, V.ref t.r)) (.int top) = none := (ths_find top ths).elim (fun ⟨t, ht, e, _⟩ => absurd e (hn t ht)) id
  rw [dput_new _ _ _ hdf]
  replace S := S.s3 (.dct (ths.map (fun t => (V.int t.addr, V.ref t.r)) ++ [(.int top, .ref H.length)]))
  refine u_augattr (fun K h => h) S.p1 rfl rfl (fun K h => u_attr (fun K h => h) S.p4 rfl rfl h) rfl ?_
  replace S := S.s1 (hpC (top + 3) bits fresh (made + 1))
  refine u_augattr (fun K h => h) S.p1 rfl rfl (fun K h => u_attr (fun K h => h) S.p4 rfl rfl h) rfl ?_
  replace S := S.s1 (hpC (top + 3) bits (fresh + 3) (made + 1))
  exact u_ret (h _ ⟨S.p1, by rw [List.map_append]; exact S.p2, by rw [List.map_append]; exact S.p3, S.p4, S.fr, S.len⟩)
end Mine
end
section
set_option maxRecDepth 100000
namespace Mine
local macro_rules | `(tactic| omega) => `(tactic| lia)
/-- the state behind a box -/
noncomputable def Sg.box (σ : Sg) (L : Nat) (kind : Int) (v : V) (T : Tr) (ca : Nat) (new : List V) : Sg :=
  { N := σ.N + 1, pl := fun i => if i = σ.N then .heap (σ.top + 2) else σ.pl i, tr := fun i => if i = σ.N then T else σ.tr i, val := upd σ.val σ.N v, grp := σ.grp ++ [⟨L, ca, σ.N, 1⟩],
    ths := σ.ths ++ [newTh (L + 1) σ.top kind L σ.made], sp := σ.sp ++ new, ds := σ.ds, cards := σ.cards, top := σ.top + 3, fresh := σ.fresh + 3, made := σ.made + 1 }
theorem SgOk.word {bits : Int} {old : List (V × V)} {σ : Sg} (O : SgOk bits old σ) {i : Nat} {w : Int} (hi : i < σ.N) (h : σ.pl i = .heap w) : w < σ.top := by
  by_cases hl : lost i ∧ σ.ds = true
  · obtain ⟨k, a, b, e, _⟩ := O.no i hl.1
    exact nomatch h.symm.trans e
  · obtain ⟨g, _, j, _, _, hA⟩ := O.at_ σ.ds i hi hl
    rw [h] at hA
    generalize g.la = x at hA
    cases hA with
    | heap _ t j' ht e hj => have := O.topok t ht; omega
theorem PlAt.mono {ds : Bool} {ths ths' : List Th} {pl : Pl} {la j : Nat} (h : PlAt ds ths pl la j) (hs : ∀ t ∈ ths, t ∈ ths') : PlAt ds ths' pl la j := by
  cases h with
  | slot k a i la j h1 h2 h3 h4 => exact .slot k a i la j h1 h2 h3 h4
  | heap w t j h1 h2 h3 => exact .heap w t j (hs t h1) h2 h3
theorem snoc_mem {α : Type} {l : List α} {x y : α} (h : y ∈ l ++ [x]) : y ∈ l ∨ y = x := (List.mem_append.mp h).imp id List.mem_singleton.mp
theorem SgOk.box {bits : Int} {old : List (V × V)} {σ : Sg} (O : SgOk bits old σ) {L ca : Nat} {kind : Int} {v : V} {T : Tr} {new : List V} (hN : σ.N < 21) (hL : 180 ≤ L) (hG : ∀ g ∈ σ.grp, g.la < L ∧ g.ca < L) (hT : ∀ i, i < σ.N → (σ.tr i).adr < L) (hr : ∀ t ∈ σ.ths, t.r < L)
    (hlo : L + 1 < T.lo) (hTl : T.lo ≤ T.adr) (hca : T.adr < ca) (hnew : ∀ s ∈ new, SpIn σ.N (.heap (σ.top + 2)) T (spK 20 T.kind [] 0) s) (hnl : new.length ≤ 13) : SgOk bits old (σ.box L kind v T ca new) := by
  have hNb := O.N
  have htop := O.topN
  have pN : ∀ i, i < σ.N → (σ.box L kind v T ca new).pl i = σ.pl i := fun i hi => if_neg (Nat.ne_of_lt hi)
  have tN : ∀ i, i < σ.N → (σ.box L kind v T ca new).tr i = σ.tr i := fun i hi => if_neg (Nat.ne_of_lt hi)
  have pE : (σ.box L kind v T ca new).pl σ.N = .heap (σ.top + 2) := if_pos rfl
  have tE : (σ.box L kind v T ca new).tr σ.N = T := if_pos rfl
  have cases_i : ∀ i, i < (σ.box L kind v T ca new).N → i < σ.N ∨ i = σ.N := fun i hi => Nat.lt_or_eq_of_le (Nat.le_of_lt_succ hi)
  have big : ∀ t ∈ σ.ths, t.addr + t.n + 2 ≤ σ.top := O.topok
  refine ⟨⟨?_, ?_, ?_⟩, O.bits, ?_, ?_, ?_, ?_, ?_, ?_, ?_, ?_, ?_, ?_, ?_, ?_, ?_, ?_, ?_, ?_, ?_, ?_, ?_, O.ck, O.ok_, ?_, ?_, ?_, ?_, ?_, O.oldN, ?_⟩
  · intro t ht
    rcases snoc_mem ht with ht | rfl
    · exact O.T.small t ht
    · exact ⟨Nat.zero_lt_one, (by decide : 1 ≤ 4), by show 0 ≤ σ.top; omega⟩
  · intro i j t u hij hi hj
    rcases snoc_at hi with hi | ⟨hi, rfl⟩
    · rcases snoc_at hj with hj | ⟨hj, rfl⟩
      · exact O.T.sorted i j t u hij hi hj
      · have := big t (List.mem_of_getElem? hi); show t.addr + t.n + 2 ≤ σ.top; exact this
    · have := at_lt hj
      rw [show (σ.box L kind v T ca new).ths.length = σ.ths.length + 1 from len_snoc ..] at this
      omega
  · have := O.thsN; show (σ.ths ++ [_]).length ≤ 6; rw [len_snoc]; omega
  · show 18 ≤ σ.N + 1 ∧ σ.N + 1 ≤ 21; omega
  · intro i hi
    rcases cases_i i hi with hi | rfl
    · rw [pN i hi]; exact O.ok i hi
    · rw [pE]; trivial
  · intro d i hi hn
    rcases cases_i i hi with hi | rfl
    · obtain ⟨g, hg, j, hj, e, hA⟩ := O.at_ d i hi hn
      rw [pN i hi]
      exact ⟨g, List.mem_append_left _ hg, j, hj, e, hA.mono fun t ht => List.mem_append_left _ ht⟩
    · rw [pE]
      exact ⟨⟨L, ca, σ.N, 1⟩, List.mem_append_right _ List.mem_cons_self, 0, Nat.zero_lt_one, rfl, .heap _ (newTh (L + 1) σ.top kind L σ.made) 0 (List.mem_append_right _ List.mem_cons_self) (Int.add_zero _) Nat.zero_lt_one⟩
  · intro i hl
    have : i < σ.N := by unfold lost at hl; omega
    rw [pN i this]; exact O.no i hl
  · intro d k a i hb
    rcases O.bad d k a i hb with e | e | ⟨g, hg, e⟩
    · exact .inl e
    · exact .inr (.inl e)
    · exact .inr (.inr ⟨g, List.mem_append_left _ hg, e⟩)
  · intro w hw t ht j hj
    rcases snoc_mem ht with ht | rfl
    · exact O.badh w hw t ht j hj
    · have e0 : j = 0 := Nat.lt_one_iff.mp hj
      subst e0
      have hw : w < 30 ∨ 5000 < w := of_decide_eq_true (List.all_eq_true.mp (show (badPls.all fun pl => match pl with | .heap w => decide (w < 30 ∨ 5000 < w) | _ => true) = true from rfl) _ hw)
      show σ.top + 2 + 0 ≠ w
      omega
  · intro i hi
    rcases cases_i i hi with hi | rfl
    · rw [tN i hi]; exact O.lo i hi
    · rw [tE]; right; omega
  · intro i j hij hj
    rcases cases_i j hj with hj | rfl
    · rw [tN j hj, tN i (by omega)]; exact O.disj i j hij hj
    · rw [tE, tN i hij]; have := hT i hij; omega
  · intro g hg
    rcases snoc_mem hg with hg | rfl
    · exact O.gla g hg
    · right; exact hL
  · intro g hg i hi
    rcases snoc_mem hg with hg | rfl
    · rcases cases_i i hi with hi | rfl
      · rw [tN i hi]; exact O.gout g hg i hi
      · rw [tE]; have := hG g hg; unfold out; omega
    · rcases cases_i i hi with hi | rfl
      · rw [tN i hi]; have := hT i hi; unfold out; refine ⟨.inr (by show _ < L; omega), .inr (by show _ < ca; omega)⟩
      · rw [tE]; unfold out; refine ⟨.inl (by show L < _; omega), .inr hca⟩
  · intro g hg
    rcases snoc_mem hg with hg | rfl
    · exact O.gca g hg
    · right; show 180 ≤ ca; omega
  · intro g hg h hh
    rcases snoc_mem hg with hg | rfl
    · rcases snoc_mem hh with hh | rfl
      · exact O.gone g hg h hh
      · have a := hG g hg; have b := (O.gn g hg).2
        refine ⟨by show g.la ≠ ca; omega, fun _ => ⟨by show g.la ≠ L; omega, .inl b⟩⟩
    · rcases snoc_mem hh with hh | rfl
      · have a := hG h hh; have b := (O.gn h hh).2
        refine ⟨by show L ≠ h.ca; omega, fun _ => ⟨by show L ≠ h.la; omega, .inr b⟩⟩
      · refine ⟨by show L ≠ ca; omega, fun e => absurd rfl e⟩
  · intro g hg
    rcases snoc_mem hg with hg | rfl
    · have := O.gn g hg; refine ⟨this.1, by show _ ≤ σ.N + 1; omega⟩
    · exact ⟨by show 1 ≤ 4; decide, Nat.le_refl _⟩
  · show (σ.grp ++ [_]).length = (σ.ths ++ [_]).length + 6
    have := O.gths; rw [len_snoc, len_snoc]; omega
  · intro t ht
    rcases snoc_mem ht with ht | rfl
    · obtain ⟨g, hg, e⟩ := O.thla t ht; exact ⟨g, List.mem_append_left _ hg, e⟩
    · exact ⟨⟨L, ca, σ.N, 1⟩, List.mem_append_right _ List.mem_cons_self, rfl⟩
  · intro t ht i hi
    rcases snoc_mem ht with ht | rfl
    · rcases cases_i i hi with hi | rfl
      · rw [tN i hi]; exact O.thr t ht i hi
      · rw [tE]; have := hr t ht; unfold out; omega
    · rcases cases_i i hi with hi | rfl
      · rw [tN i hi]; have := hT i hi; unfold out; right; show _ < L + 1; omega
      · rw [tE]; unfold out; left; exact hlo
  · intro s hs
    rcases List.mem_append.mp hs with hs | hs
    · obtain ⟨i, hi, h⟩ := O.spots s hs
      exact ⟨i, Nat.lt_succ_of_lt hi, by rw [pN i hi, tN i hi]; exact h⟩
    · exact ⟨σ.N, Nat.lt_succ_self _, by rw [pE, tE]; exact hnew s hs⟩
  · show 0 < (σ.sp ++ new).length
    rw [List.length_append]; exact Nat.lt_of_lt_of_le O.spne (Nat.le_add_right ..)
  · show (σ.sp ++ new).length + 13 * (21 - (σ.N + 1)) ≤ 300
    have := O.splen; rw [List.length_append]; omega
  · intro i k a b hi h
    rcases cases_i i hi with hi | rfl
    · rw [pN i hi] at h; exact O.slot i k a b hi h
    · rw [pE] at h; exact nomatch h
  · intro i w hi h t ht j e hj
    rcases cases_i i hi with hi | rfl
    · rw [pN i hi] at h
      rcases snoc_mem ht with ht | rfl
      · exact O.heap i w hi h t ht j e hj
      · have := O.word hi h
        have e' : σ.top + 2 + (j : Int) = w := e
        omega
    · rw [pE] at h
      have hw : σ.top + 2 = w := Pl.heap.inj h
      rcases snoc_mem ht with ht | rfl
      · have := big t ht; omega
      · rw [if_neg (by show ¬ (0 : Int) > 0; decide)]; exact O.oldN _ hNb.1
  · intro t ht
    rcases snoc_mem ht with ht | rfl
    · have := big t ht; show _ ≤ σ.top + 3; omega
    · show σ.top + ((1 : Nat) : Int) + 2 ≤ σ.top + 3; omega
  · show (σ.ths ++ [_]).length + 15 = σ.N + 1
    have := O.thsN; rw [len_snoc]; omega
  · show σ.top + 3 = 28 + 3 * (((σ.N + 1 : Nat) : Int) - 18); omega
  · intro i j hij hj
    rcases cases_i j hj with hj | rfl
    · rw [pN j hj, pN i (by omega)]; exact O.plne i j hij hj
    · rw [pE, pN i hij]
      intro e
      have := O.word hij e
      omega
theorem spKs_congr {f g : Int → List Int → Int → List (List Int × Int)} : ∀ (ks : List Int) (p : List Int) (i l : Int), (∀ k ∈ ks, ∀ p l, f k p l = g k p l) → spKs f ks p i l = spKs g ks p i l
  | [], _, _, _, _ => rfl
  | k :: ks, p, i, l, h => by
    rw [spKs_cons, spKs_cons, h k List.mem_cons_self, spKs_congr ks p (i + 1) _ fun k' hk' => h k' (List.mem_cons_of_mem _ hk')]
theorem spK_stable : ∀ (m m' : Nat) (k : Int) (p : List Int) (l : Int), dK k < m → dK k < m' → spK m k p l = spK m' k p l
  | 0, _, _, _, _, h, _ => nomatch h
  | _ + 1, 0, _, _, _, _, h => nomatch h
  | m + 1, m' + 1, k, p, l, h, h' => by
    rw [spK_succ, spK_succ, spKs_congr (f := spK m) (g := spK m')]
    intro k' hk' p l
    obtain ⟨i, hi⟩ := List.getElem?_of_mem hk'
    have := kids_dK hi
    exact spK_stable m m' k' p l (Nat.lt_of_lt_of_le this (Nat.le_of_lt_succ h)) (Nat.lt_of_lt_of_le this (Nat.le_of_lt_succ h'))
theorem spK_len {k : Int} : (spK 20 k [] 0).length ≤ 13 := by
  cases hs : isShape k with
  | true => exact shape_el (P := fun k => (spK 20 k [] 0).length ≤ 13) hs (by decide +kernel) (by decide +kernel) (by decide +kernel)
  | false => rw [spK_succ, leaf_kids hs]; exact (by decide : 1 ≤ 13)
end Mine
end
section
set_option maxRecDepth 100000
namespace Mine
local macro_rules | `(tactic| omega) => `(tactic| lia)
section
variable {C : Nat → List V → M V} {ρ : Loc} {H : AH} {a b c d e o i : E} {ss : Ss} {QF : Flow → AH → Prop} {Q : V → AH → Prop} {u v w : V} {f r : Nat}
theorem u_lst1 (ha : ∀ K : V → AH → Prop, K u H → wE C a ρ K H) (h : Q (.ref H.length) (H ++ [.lst [u]])) : wE C (.lst (.cons a .nil)) ρ Q H := ha (kEs1 C .nil ρ (kLst Q)) h
theorem u_call3L (ha : ∀ K : V → AH → Prop, K u H → wE C a ρ K H) (hb : ∀ K : V → AH → Prop, K v H → wE C b ρ K H) (hc : wE C c ρ (fun x H' => wp (C f [u, v, x]) Q H') H) : wE C (.call f (.cons a (.cons b (.cons c .nil)))) ρ Q H :=
  ha (kEs1 C (.cons b (.cons c .nil)) ρ (kCall C f Q)) (hb (kEs1 C (.cons c .nil) ρ (kEs2 u (kCall C f Q))) hc)
theorem u_call6 {a' b' c' : E} {u' v' w' : V} (ha : ∀ K : V → AH → Prop, K u H → wE C a ρ K H) (hb : ∀ K : V → AH → Prop, K v H → wE C b ρ K H) (hc : ∀ K : V → AH → Prop, K w H → wE C c ρ K H) (ha' : ∀ K : V → AH → Prop, K u' H → wE C a' ρ K H) (hb' : ∀ K : V → AH → Prop, K v' H → wE C b' ρ K H) (hc' : ∀ K : V → AH → Prop, K w' H → wE C c' ρ K H)
    (h : wp (C f [u, v, w, u', v', w']) Q H) : wE C (.call f (.cons a (.cons b (.cons c (.cons a' (.cons b' (.cons c' .nil))))))) ρ Q H :=
  ha (kEs1 C _ ρ (kCall C f Q)) (hb (kEs1 C _ ρ (kEs2 u (kCall C f Q))) (hc (kEs1 C _ ρ (kEs2 v (kEs2 u (kCall C f Q)))) (ha' (kEs1 C _ ρ (kEs2 w (kEs2 v (kEs2 u (kCall C f Q))))) (hb' (kEs1 C _ ρ (kEs2 u' (kEs2 w (kEs2 v (kEs2 u (kCall C f Q)))))) (hc' (kEs1 C .nil ρ (kEs2 v' (kEs2 u' (kEs2 w (kEs2 v (kEs2 u (kCall C f Q))))))) h)))))
theorem u_augl {l : List V} {k x y : Int} (ho : ∀ K : V → AH → Prop, K (.ref r) H → wE C o ρ K H) (hi : ∀ K : V → AH → Prop, K (.int k) H → wE C i ρ K H) (hl : H[r]? = some (.lst l)) (hv : getAt l k = some (.int x)) (he : ∀ K : V → AH → Prop, K (.int y) H → wE C e ρ K H) (h0 : 0 ≤ k) (h1 : k < l.length) (h2 : k < 2 ^ 63)
    (h : wSs C ss ρ QF (H.set r (.lst (l.set k.toNat (.int (x + y)))))) : wSs C (.cons (.augitem o i .add e) ss) ρ QF H :=
  ho (kAI1 C i .add e ρ (kSeq C ss QF)) (hi (kAI2 C .add e (.ref r) ρ (kSeq C ss QF)) ((wp_sub_lst hl).mpr (show oQ (getAt l k) _ H from hv ▸ he (kAI4 .add (.ref r) (.int k) (.int x) ρ (kSeq C ss QF)) ((wp_set_lst hl h0 h1 h2).mpr h))))
theorem u_appendL {l : List V} (ho : ∀ K : V → AH → Prop, K (.ref r) H → wE C o ρ K H) (hl : H[r]? = some (.lst l)) (he : wE C e ρ (fun v H' => wp (appendV (.ref r) v) (fun _ H'' => wSs C ss ρ QF H'') H') H) : wSs C (.cons (.expr (.append o e)) ss) ρ QF H :=
  ho (kApp1 C e ρ (kExp ρ (kSeq C ss QF))) ((wp_isLst hl).mpr he)
end
/-- a cell of the world that a box leaves -/
noncomputable def boxB (a : Nat) : Bool := decide (a ≠ 149 ∧ a ≠ 150 ∧ a ≠ 151 ∧ a ≠ 170 ∧ a ≠ 171 ∧ a ≠ 172 ∧ a ≠ 178)
section
variable {bits : Int} {old : List (V × V)} {σ : Sg} {H : AH}
/-- the heap behind a box -/
theorem Inv.box (I : Inv bits old σ H) (O : SgOk bits old σ) {H' : AH} {kind : Int} {v : V} {T : Tr} {ca : Nat} {new : List V}
    (hp : H'[149]? = some (hpC (σ.top + 3) bits (σ.fresh + 3) (σ.made + 1))) (th : H'[150]? = some (.lst ((σ.ths ++ [newTh (H.length + 1) σ.top kind H.length σ.made]).map fun t => .ref t.r)))
    (at_ : H'[151]? = some (.dct ((σ.ths ++ [newTh (H.length + 1) σ.top kind H.length σ.made]).map fun t => (.int t.addr, .ref t.r)))) (ce : H'[H.length + 1]? = some (newTh (H.length + 1) σ.top kind H.length σ.made).cell)
    (la : H'[H.length]? = some (.lst [v])) (cah : H'[ca]? = some (.lst [T.rf])) (stems : H'[170]? = some (.lst (((List.range' 0 σ.N).map fun i => (σ.tr i).rf) ++ [T.rf]))) (spots : H'[171]? = some (.lst (σ.sp ++ new)))
    (holders : H'[172]? = some (.lst ((σ.grp.map fun g => .tup [.ref g.la, .ref g.ca]) ++ [.tup [.ref H.length, .ref ca]]))) (top : H'[178]? = some (.lst [.int (σ.top + 3)])) (tv : TV H' T v)
    (fr : ∀ a c, a ≠ 149 → a ≠ 150 → a ≠ 151 → a ≠ 170 → a ≠ 171 → a ≠ 172 → a ≠ 178 → H[a]? = some c → H'[a]? = some c) : Inv bits old (σ.box H.length kind v T ca new) H' := by
  have K := I.K
  have F := I.F
  have P := I.P
  have fx : ∀ a c, boxB a = true → H[a]? = some c → H'[a]? = some c := fun a c ha hc =>
    have ⟨a1, a2, a3, a4, a5, a6, a7⟩ := of_decide_eq_true ha
    fr a c a1 a2 a3 a4 a5 a6 a7 hc
  have vN : ∀ i, i < σ.N → (σ.box H.length kind v T ca new).val i = σ.val i := fun i hi => upd_ne (Nat.ne_of_lt hi)
  have tN : ∀ i, i < σ.N → (σ.box H.length kind v T ca new).tr i = σ.tr i := fun i hi => if_neg (Nat.ne_of_lt hi)
  have vE : (σ.box H.length kind v T ca new).val σ.N = v := upd_eq
  have tE : (σ.box H.length kind v T ca new).tr σ.N = T := if_pos rfl
  have in_ : ∀ {off n a : Nat}, off + n ≤ σ.N → a ∈ List.range' off n → a < σ.N := fun h ha => Nat.lt_of_lt_of_le (List.mem_range'_1.mp ha).2 h
  have rv : ∀ off n, off + n ≤ σ.N → (List.range' off n).map (σ.box H.length kind v T ca new).val = (List.range' off n).map σ.val := fun off n h => List.map_congr_left fun a ha => vN a (in_ h ha)
  have rt : ∀ off n, off + n ≤ σ.N → ((List.range' off n).map fun i => ((σ.box H.length kind v T ca new).tr i).rf) = (List.range' off n).map fun i => (σ.tr i).rf := fun off n h => List.map_congr_left fun a ha => by rw [tN a (in_ h ha)]
  refine ⟨⟨fx _ _ rfl K.kt, fx _ _ rfl K.rows, fx _ _ rfl K.shapes⟩, ⟨fx _ _ rfl F.ph, fx _ _ rfl F.frames, fx _ _ rfl F.statics, fx _ _ rfl F.f7, fx _ _ rfl F.f9⟩,
    ⟨hp, th, at_, fun t ht => ?_, fun t ht => ?_⟩, fx _ _ rfl I.keep2, fx _ _ rfl I.cards1, fx _ _ rfl I.cards2, fx _ _ rfl I.old, fx _ _ rfl I.bads, ?_, spots, ?_, fx _ _ rfl I.dead, top, fx _ _ rfl I.w, fun g hg => ?_, fun i hi => ?_⟩
  · rcases snoc_mem ht with ht | rfl
    · have hc := P.cell t ht
      exact fr _ _ (at_ne hc P.heap fun e => absurd (Cell.inst.inj e).1 (by decide)) (at_ne hc P.things nofun) (at_ne hc P.at_ nofun) (at_ne hc I.stems nofun) (at_ne hc I.spots nofun) (at_ne hc I.holders nofun) (at_ne hc I.top nofun) hc
    · exact ce
  · rcases snoc_mem ht with ht | rfl
    · obtain ⟨l, hl, hn⟩ := P.rows t ht
      obtain ⟨g, hg, e⟩ := O.thla t ht
      have := O.gla g hg
      exact ⟨l, fx _ _ (decide_eq_true (by omega)) hl, hn⟩
    · exact ⟨[v], la, rfl⟩
  · have : (List.range' 0 (σ.N + 1)).map (fun i => ((σ.box H.length kind v T ca new).tr i).rf) = ((List.range' 0 σ.N).map fun i => (σ.tr i).rf) ++ [T.rf] := by
      rw [List.range'_concat, List.map_append, rt 0 σ.N (Nat.le_of_eq (Nat.zero_add _)), Nat.zero_add, Nat.one_mul, List.map_cons, tE]; rfl
    show H'[170]? = some (.lst ((List.range' 0 (σ.N + 1)).map fun i => ((σ.box H.length kind v T ca new).tr i).rf))
    rw [this]; exact stems
  · show H'[172]? = some (.lst ((σ.grp ++ [(⟨H.length, ca, σ.N, 1⟩ : Grp)]).map fun g => .tup [.ref g.la, .ref g.ca]))
    rw [List.map_append]; exact holders
  · rcases snoc_mem hg with hg | rfl
    · have h1 := O.gla g hg
      have h2 := O.gca g hg
      have h3 := (O.gn g hg).2
      rw [show rowOf (σ.box H.length kind v T ca new) g = rowOf σ g from rv g.off g.n h3, rt g.off g.n h3]
      exact ⟨fx _ _ (decide_eq_true (by omega)) (I.rows g hg).1, fx _ _ (decide_eq_true (by omega)) (I.rows g hg).2⟩
    · rw [show rowOf (σ.box H.length kind v T ca new) ⟨H.length, ca, σ.N, 1⟩ = [v] from congrArg (fun x => [x]) vE]
      exact ⟨la, cah.trans (congrArg (fun t => some (Cell.lst [Tr.rf t])) tE.symm)⟩
  · rcases Nat.lt_or_eq_of_le (Nat.le_of_lt_succ (show i < σ.N + 1 from hi)) with hi' | rfl
    · rw [vN i hi', tN i hi']
      refine (I.trees i hi').frame fun a c a1 a2 hc => ?_
      have := O.lo i hi'
      exact fx _ _ (decide_eq_true (by omega)) hc
    · rw [vE, tE]; exact tv
noncomputable def hoC (grp : List Grp) (la ca : Nat) : Cell := .lst (grp.map (fun g => V.tup [.ref g.la, .ref g.ca]) ++ [.tup [.ref la, .ref ca]])
theorem c_heap_place {n r : Nat} {fs : List (Nat × V)} {x : Int} {Q : V → AH → Prop} {H : AH} (h1 : H[r]? = some (.inst 123 fs)) (hv : look fs 117 = some (.int x)) (h : Q (plV (.heap (x + 2)) []) H) : wp (callF (n + 1) 170 [.ref r, .int 0]) Q H := by
  rw [wp_call (fd := fd_heap_place) rfl rfl]
  simp [fd_heap_place, wp_attr h1 (f := 117) rfl hv]
  exact h
theorem c_box {n : Nat} {i : Nat} {q : List Int} {t : Tr} {l : Int} {v : V} {Q : V → AH → Prop} (I : Inv bits old σ H) (O : SgOk bits old σ) (S : Spot σ H i q t l v)
    (h : Next bits old σ.cards.length Q) : wp (callF (n + 13) k_law_box [.ref 179, spotV i (σ.pl i) q t l, v]) Q H := by
  rw [wp_call (fd := fd_law_box) rfl rfl]
  obtain ⟨x, hc⟩ := S.tv.cell
  have kv := S.tv.kv
  have hk := kv.cell
  have hNb := O.N
  have hstl : ((List.range' 0 σ.N).map fun i => (σ.tr i).rf).length = σ.N := by rw [List.length_map, List.length_range']
  have hstz : ((List.range' 0 σ.N).map fun i => (σ.tr i).rf).length ≤ 1000 := by rw [hstl]; exact Nat.le_trans hNb.2 (by decide)
  refine u_asg (v := .int t.kind) (fun K h => u_subl (fun K h => h) (fun K h => h) hc rfl h) ?_
  refine u_if' (b := decide (t.kind = 12) || decide ((σ.N : Int) ≥ 21)) (fun K h => u_or (a := decide (t.kind = 12)) (fun K h => h) (fun _ K h => u_or1 (fun K h => u_cmp (u := .int σ.N) (fun K h => u_len (fun K h => u_w I.w rfl h) I.stems hstz (by rw [hstl]; exact h)) (fun K h => h) h) h) h) (fun _ => u_ret (h σ H I O (Nat.le_refl _))) (fun e => ?_)
  have hN : σ.N < 21 := Int.ofNat_lt.mp (Int.not_le.mp (of_decide_eq_false (Bool.or_eq_false_iff.mp e).2))
  have hL : 180 ≤ H.length := at_lt I.w
  have I1 := I.ext (.push H (.lst [v]))
  have htop : ∀ t ∈ σ.ths, t.addr ≠ σ.top := fun t ht => by have := O.topok t ht; omega
  have d3 : ∀ k, dK k < n + 11 := fun k => Nat.lt_of_le_of_lt (dK_le k) (Nat.lt_of_lt_of_le (by decide : 3 < 11) (Nat.le_add_left 11 n))
  have hL1 : (H ++ [Cell.lst [v]]).length = H.length + 1 := len_snoc ..
  refine u_asgE (u_call3L (fun K h => u_attr (fun K h => u_w I.w rfl h) I.F.ph rfl rfl h) (fun K h => h) (u_lst1 (fun K h => h) (c_alloc (n := n + 8) I1.P (end_at H (.lst [v])) htop (Nat.le_trans O.T.len (by decide)) fun H2 A => ?_)))
  rw [hL1]
  have fr2 : ∀ a c, a ≠ 149 → a ≠ 150 → a ≠ 151 → H[a]? = some c → H2[a]? = some c := fun a c a1 a2 a3 hc => A.fr a c a1 a2 a3 (app_at hc)
  have la2 : H2[H.length]? = some (.lst [v]) := A.fr _ _ (by omega) (by omega) (by omega) (end_at H _)
  have hp2 := A.heap
  have th2 := A.things
  have at2 := A.at_
  have ce2 := A.cell
  rw [hL1] at th2 at2 ce2
  have len2 : H2.length = H.length + 2 := by rw [A.len, hL1]
  have w2 := fr2 _ _ (by decide) (by decide) (by decide) I.w
  have top2 := fr2 _ _ (by decide) (by decide) (by decide) I.top
  clear A I1
  refine u_no' (fun K h => u_cmp (u := .int σ.top) (v := .int σ.top) (fun K h => u_attr (fun K h => h) ce2 rfl rfl h) (fun K h => u_subl (fun K h => u_w w2 rfl h) (fun K h => h) top2 rfl h) (by show K (.bool (!decide (σ.top = σ.top))) H2; rw [decide_eq_true rfl]; exact h)) ?_
  refine u_augl (fun K h => u_w w2 rfl h) (fun K h => h) top2 rfl (fun K h => h) (by decide) (show (0 : Int) < (1 : Nat) by decide) (by decide) ?_
  -- the top of the law
  have fr3 : ∀ a c, a ≠ 149 → a ≠ 150 → a ≠ 151 → a ≠ 178 → H[a]? = some c → (H2.set 178 (.lst [.int (σ.top + 3)]))[a]? = some c := fun a c a1 a2 a3 a4 hc => (set_ne (fun e => a4 e.symm)).trans (fr2 a c a1 a2 a3 hc)
  have la3 : (H2.set 178 (.lst [.int (σ.top + 3)]))[H.length]? = _ := (set_ne (by omega)).trans la2
  have hp3 : (H2.set 178 (.lst [.int (σ.top + 3)]))[149]? = _ := (set_ne (by decide)).trans hp2
  have th3 : (H2.set 178 (.lst [.int (σ.top + 3)]))[150]? = _ := (set_ne (by decide)).trans th2
  have at3 : (H2.set 178 (.lst [.int (σ.top + 3)]))[151]? = _ := (set_ne (by decide)).trans at2
  have ce3 : (H2.set 178 (.lst [.int (σ.top + 3)]))[H.length + 1]? = _ := (set_ne (by omega)).trans ce2
  have tp3 : (H2.set 178 (.lst [.int (σ.top + 3)]))[178]? = some (.lst [.int (σ.top + 3)]) := set_at top2
  have len3 : (H2.set 178 (.lst [.int (σ.top + 3)])).length = H.length + 2 := (List.length_set ..).trans len2
  change wSs _ _ _ _ (H2.set 178 (.lst [.int (σ.top + 3)]))
  generalize H2.set 178 (.lst [.int (σ.top + 3)]) = H3 at *
  clear fr2 la2 hp2 th2 at2 ce2 len2 w2 top2 H2
  have fb : ∀ a c, boxB a = true → H[a]? = some c → H3[a]? = some c := fun a c ha hc =>
    have ⟨a1, a2, a3, _, _, _, a7⟩ := of_decide_eq_true ha
    fr3 a c a1 a2 a3 a7 hc
  have K3 : KT H3 := ⟨fb _ _ rfl I.K.kt, fb _ _ rfl I.K.rows, fb _ _ rfl I.K.shapes⟩
  have w3 := fb _ _ rfl I.w
  -- the cell
  refine u_asgE (u_call3L (fun K h => h) (fun K h => u_w w3 rfl h) (u_lst1 (fun K h => h) (c_cell (n + 11) (ct := H3.length) (d3 _) hk (K3.ext (.push _ _)) (by omega) (end_at H3 (.lst [.int 0])) fun H5 T R => ?_)))
  obtain ⟨v0, tv5⟩ := R.tv
  have hRk := R.kind
  have hRl : H3.length + 1 ≤ T.lo := len_snoc H3 _ ▸ R.lo
  have fr5 : ∀ a c, H3[a]? = some c → H5[a]? = some c := fun a c hc => R.fr a c (Nat.ne_of_lt (at_lt hc)) (app_at hc)
  have K5 : KT H5 := ⟨fr5 _ _ K3.kt, fr5 _ _ K3.rows, fr5 _ _ K3.shapes⟩
  refine u_expE (u_call3 (fun K h => h) (fun K h => h) (fun K h => u_w (fr5 _ _ w3) rfl h) (c_put (n + 12) (Nat.lt_succ_of_lt (d3 _)) K5 (by omega) tv5 (by rw [hRk]; exact kv) fun H6 tv6 f6 hL6 => ?_))
  have fr6 : ∀ a c, H3[a]? = some c → H6[a]? = some c := fun a c hc => f6 a c (.inl (Nat.lt_of_lt_of_le (Nat.lt_succ_of_lt (at_lt hc)) hRl)) (fr5 a c hc)
  have K6 : KT H6 := ⟨fr6 _ _ K3.kt, fr6 _ _ K3.rows, fr6 _ _ K3.shapes⟩
  have w6 := fr6 _ _ w3
  have st6 := fr6 _ _ (fr3 _ _ (by decide) (by decide) (by decide) (by decide) I.stems)
  have sp6 := fr6 _ _ (fr3 _ _ (by decide) (by decide) (by decide) (by decide) I.spots)
  have ho6 := fr6 _ _ (fr3 _ _ (by decide) (by decide) (by decide) (by decide) I.holders)
  have ce6 := fr6 _ _ ce3
  have hst : spK (n + 11) T.kind [] 0 = spK 20 T.kind [] 0 := spK_stable _ _ _ _ _ (d3 _) (Nat.lt_of_le_of_lt (dK_le _) (by decide))
  have hsl := O.splen
  have hsk := spK_len (k := T.kind)
  refine u_expE (u_call6 (u := .int σ.N) (fun K h => u_len (fun K h => u_w w6 rfl h) st6 hstz (by rw [hstl]; exact h)) (fun K h => u_call2 (fun K h => h) (fun K h => h) (c_heap_place ce6 rfl h)) (fun K h => h) (fun K h => u_w w6 rfl h) (fun K h => h) (fun K h => u_w w6 rfl h)
    (c_spots (n + 11) (t0 := T) (pl := .heap (σ.top + 2)) (p := []) (d3 _) K6 tv6 (subT_nil T) trivial (by rw [List.length_nil, Nat.zero_add]; exact Nat.lt_of_le_of_lt (dK_le _) (by decide)) sp6 (by rw [hst]; omega) (.inl (by omega)) fun new hnl hnew => ?_))
  rw [hst] at hnl hnew
  -- the spots
  have fr7 : ∀ a c, a ≠ 171 → H6[a]? = some c → (H6.set 171 (.lst (σ.sp ++ new)))[a]? = some c := fun a c a1 hc => (set_ne (fun e => a1 e.symm)).trans hc
  have s7 : (H6.set 171 (.lst (σ.sp ++ new)))[171]? = some (.lst (σ.sp ++ new)) := set_at sp6
  have len7 : (H6.set 171 (.lst (σ.sp ++ new))).length = H6.length := List.length_set ..
  generalize H6.set 171 (.lst (σ.sp ++ new)) = H7 at *
  have st7 := fr7 _ _ (by decide) st6
  refine u_append (fun K h => u_w (fr7 _ _ (by decide) w6) rfl h) (fun K h => h) st7 hstz ?_
  have fr8 : ∀ a c, a ≠ 170 → H7[a]? = some c → (H7.set 170 (.lst ((List.range' 0 σ.N).map (fun i => (σ.tr i).rf) ++ [T.rf])))[a]? = some c := fun a c a1 hc => (set_ne (fun e => a1 e.symm)).trans hc
  have s8 : (H7.set 170 (.lst ((List.range' 0 σ.N).map (fun i => (σ.tr i).rf) ++ [T.rf])))[170]? = _ := set_at st7
  have len8 : (H7.set 170 (.lst ((List.range' 0 σ.N).map (fun i => (σ.tr i).rf) ++ [T.rf]))).length = H6.length := (List.length_set ..).trans len7
  generalize H7.set 170 (.lst ((List.range' 0 σ.N).map (fun i => (σ.tr i).rf) ++ [T.rf])) = H8 at *
  have fr68 : ∀ a c, a ≠ 170 → a ≠ 171 → H6[a]? = some c → H8[a]? = some c := fun a c a1 a2 hc => fr8 a c a1 (fr7 a c a2 hc)
  have ho8 := fr68 _ _ (by decide) (by decide) ho6
  have ce8 := fr68 _ _ (by omega) (by omega) ce6
  have hgl : (σ.grp.map fun g => V.tup [.ref g.la, .ref g.ca]).length ≤ 12 := by rw [List.length_map, O.gths]; exact Nat.add_le_add_right O.T.len 6
  refine u_appendL (fun K h => u_w (fr68 _ _ (by decide) (by decide) w6) rfl h) ho8 (u_tup2 (v := .ref H.length) (fun K h => u_attr (fun K h => h) ce8 rfl rfl h) (u_lst1 (fun K h => h) ((wp_append (app_at ho8) (lineOk_k (Nat.le_trans hgl (by decide)))).mpr ?_)))
  have fr10 : ∀ a c, a ≠ 172 → H8[a]? = some c → ((H8 ++ [Cell.lst [T.rf]]).set 172 (hoC σ.grp H.length H8.length))[a]? = some c := fun a c a1 hc => (set_ne (fun e => a1 e.symm)).trans (app_at hc)
  have s10 : ((H8 ++ [Cell.lst [T.rf]]).set 172 (hoC σ.grp H.length H8.length))[172]? = _ := set_at (app_at ho8)
  have hL8 : T.adr < H8.length := by rw [len8]; exact tv6.lt
  have ca10 : ((H8 ++ [Cell.lst [T.rf]]).set 172 (hoC σ.grp H.length H8.length))[H8.length]? = some (.lst [T.rf]) := (set_ne (by have := tv6.lo_le; omega)).trans (end_at _ _)
  change wSs _ _ _ _ ((H8 ++ [Cell.lst [T.rf]]).set 172 (hoC σ.grp H.length H8.length))
  generalize (H8 ++ [Cell.lst [T.rf]]).set 172 (hoC σ.grp H.length H8.length) = H10 at *
  have f10 : ∀ a c, a ≠ 170 → a ≠ 171 → a ≠ 172 → H6[a]? = some c → H10[a]? = some c := fun a c a1 a2 a3 hc => fr10 a c a3 (fr68 a c a1 a2 hc)
  have tll := tv6.lo_le
  refine u_ret (h (σ.box H.length t.kind v T H8.length new) H10 (I.box O (f10 _ _ (by decide) (by decide) (by decide) (fr6 _ _ hp3)) (f10 _ _ (by decide) (by decide) (by decide) (fr6 _ _ th3)) (f10 _ _ (by decide) (by decide) (by decide) (fr6 _ _ at3)) (f10 _ _ (by omega) (by omega) (by omega) ce6) (f10 _ _ (by omega) (by omega) (by omega) (fr6 _ _ la3)) ca10 (fr10 _ _ (by decide) s8) (fr10 _ _ (by decide) (fr8 _ _ (by decide) s7)) s10 (f10 _ _ (by decide) (by decide) (by decide) (fr6 _ _ tp3))
    (tv6.frame fun a c a1 a2 hc => f10 a c (by omega) (by omega) (by omega) hc) fun a c a1 a2 a3 a4 a5 a6 a7 hc => f10 a c a4 a5 a6 (fr6 _ _ (fr3 a c a1 a2 a3 a7 hc))) ?_ (Nat.le_refl _))
  have hG : ∀ g ∈ σ.grp, g.la < H.length ∧ g.ca < H.length := fun g hg => ⟨at_lt (I.rows g hg).1, at_lt (I.rows g hg).2⟩
  exact O.box hN hL hG (fun i hi => (I.trees i hi).lt) (fun t ht => at_lt (I.P.cell t ht)) (by omega) tll hL8 hnew (by rw [hnl]; exact hsk)
end
end Mine
end
section
set_option maxRecDepth 100000
namespace Mine
local macro_rules | `(tactic| omega) => `(tactic| lia)
noncomputable def dropS : Nat → Ss → Ss
  | 0, ss => ss
  | n + 1, ss => match ss with
    | .cons _ ss => dropS n ss
    | .nil => .nil
section
variable {C : Nat → List V → M V} {ρ : Loc} {H : AH} {a b : E} {ss : Ss} {QF : Flow → AH → Prop} {Q : V → AH → Prop} {u : V} {f : Nat}
theorem u_nil (h : wSs C ss ρ QF H) : wSs C .nil ρ (kSeq C ss QF) H := h
theorem u_call2L (ha : ∀ K : V → AH → Prop, K u H → wE C a ρ K H) (hb : wE C b ρ (fun v H' => wp (C f [u, v]) Q H') H) : wE C (.call f (.cons a (.cons b .nil))) ρ Q H := ha (kEs1 C (.cons b .nil) ρ (kCall C f Q)) hb
end
theorem getP_leaf {k : Int} {v : V} {s : Int} (h : KV k v) (hs : isShape k = false) : getP v [s] = none := by
  cases h with
  | num k n h0 h1 => exact getP_tag (tagI_ne h0 h1).2 s []
  | ftn m => rfl
  | ref a => rfl
  | node k vs hs' _ _ => exact nomatch hs.symm.trans hs'
section
variable {bits : Int} {old : List (V × V)} {σ : Sg} {H : AH}
theorem wp_del {a : Nat} {l : List (V × V)} {k : Int} {QU : Unit → AH → Prop} (h : H[a]? = some (.dct l)) (hk : keyOk l (.int k) = true) (hf : (dfind l (.int k)).isSome = true) (hl : lineOk l.length = true) : wp (delV (.ref a) (.int k)) QU H ↔ QU () (H.set a (.dct (ddel l (.int k)))) := by
  show atD H[a]? _ ↔ _
  rw [h]; exact Iff.of_eq (bQ_is (by rw [hk, hf, hl]; rfl))
theorem SgOk.die (O : SgOk bits old σ) : SgOk bits old { σ with ds := true } :=
  ⟨O.T, O.bits, O.N, O.ok, O.at_, O.no, O.bad, O.badh, O.lo, O.disj, O.gla, O.gout, O.gca, O.gone, O.gn, O.gths, O.thla, O.thr, O.spots, O.spne, O.splen, O.ck, O.ok_, O.slot, O.heap, O.topok, O.thsN, O.topN, O.oldN, O.plne⟩
theorem Inv.die (I : Inv bits old σ H) (O : SgOk bits old σ) {H' : AH} (h173 : H'[173]? = some (.dct (framesL true))) (h177 : H'[177]? = some (.lst [.int 1])) (fr : ∀ a c, a ≠ 173 → a ≠ 177 → H[a]? = some c → H'[a]? = some c) : Inv bits old { σ with ds := true } H' := by
  have K := I.K
  have F := I.F
  have P := I.P
  have fx : ∀ a c, decide (a ≠ 173 ∧ a ≠ 177) = true → H[a]? = some c → H'[a]? = some c := fun a c ha hc => fr a c (of_decide_eq_true ha).1 (of_decide_eq_true ha).2 hc
  refine ⟨⟨fx _ _ rfl K.kt, fx _ _ rfl K.rows, fx _ _ rfl K.shapes⟩, ⟨fx _ _ rfl F.ph, h173, fx _ _ rfl F.statics, fx _ _ rfl F.f7, fx _ _ rfl F.f9⟩,
    ⟨fx _ _ rfl P.heap, fx _ _ rfl P.things, fx _ _ rfl P.at_, fun t ht => ?_, fun t ht => ?_⟩, fx _ _ rfl I.keep2, fx _ _ rfl I.cards1, fx _ _ rfl I.cards2, fx _ _ rfl I.old, fx _ _ rfl I.bads, fx _ _ rfl I.stems, fx _ _ rfl I.spots, fx _ _ rfl I.holders, h177, fx _ _ rfl I.top, fx _ _ rfl I.w, fun g hg => ?_, fun i hi => ?_⟩
  · have hc := P.cell t ht
    exact fr _ _ (at_ne hc F.frames nofun) (at_ne hc I.dead nofun) hc
  · obtain ⟨l, hl, hn⟩ := P.rows t ht
    obtain ⟨g, hg, e⟩ := O.thla t ht
    have := O.gla g hg
    exact ⟨l, fr _ _ (by omega) (by omega) hl, hn⟩
  · have h1 := O.gla g hg
    have h2 := O.gca g hg
    exact ⟨fr _ _ (by omega) (by omega) (I.rows g hg).1, fr _ _ (by omega) (by omega) (I.rows g hg).2⟩
  · have := O.lo i hi
    exact (I.trees i hi).frame fun a c a1 a2 hc => fr a c (by omega) (by omega) hc
/-- field_place, then nowhere -/
theorem c_off {n : Nat} {i : Nat} {q : List Int} {t : Tr} {l s : Int} {v : V} {Q : V → AH → Prop} (I : Inv bits old σ H) (O : SgOk bits old σ) (S : Spot σ H i q t l v) (hs : getP v [s] = none) (h63 : s < 2 ^ 63) (h : Q (.bool true) H) :
    wp (callF (n + 13) k_field_place [plV (σ.pl i) q, .int s]) (fun a H' => wp (callF (n + 13) k_law_nowhere [.ref 179, a]) Q H') H := by
  refine c_field (O.ok i S.hi) (Nat.lt_trans S.l300 (by decide)) ?_
  by_cases hl' : lost i ∧ σ.ds = true
  · exact c_nowhere_no (n := n + 8) I O (I.no O hl'.1 hl'.2) h
  · obtain ⟨g, hgm, j, hj, hij, hA, hr, hll, hv⟩ := I.loc O S.hi hl'
    exact c_nowhere_bad (n := n + 8) I O hA hr hll hv (I.trees i S.hi).kv.okv (fun z hz => (List.mem_append.mp hz).elim (S.small z) fun hz => List.mem_singleton.mp hz ▸ h63) (by rw [len_snoc]; exact Nat.lt_of_le_of_lt (Nat.succ_le_succ S.len) (by decide)) (by rw [getP_append _ _ _ _ S.get]; exact hs) h
theorem c_deed_rest {n : Nat} {o x y s : Int} {Q : V → AH → Prop} (I : Inv bits old σ H) (O : SgOk bits old σ) (hcl : σ.cards.length ≤ 900) (h : Next bits old (σ.cards.length + 1) Q) :
    wSs (callF (n + 13)) (dropS 3 fd_law_deed.body) [(213, .ref 179), (240, .int o), (241, .int x), (210, .int y), (30, .int s), (155, .ref 173)] (kFin Q) H := by
  refine u_if' (b := decide (x % 9 = 8)) (fun K h => u_eqi (fun K h => u_mod (fun K h => h) (by decide) h) h) (fun _ => ?_) (fun _ => ?_)
  · have hbl : (badPls.map fun p => plV p []).length = 18 := rfl
    obtain ⟨z, hzm, hgx⟩ := pick_at (l := badPls.map fun p => plV p []) (x / 9) (by rw [hbl]; decide) (by rw [hbl]; decide)
    obtain ⟨pl, hpl, rfl⟩ := List.mem_map.mp hzm
    exact u_ret (u_call2 (fun K h => h) (fun K h => u_picked (fun K h => u_w I.w rfl h) (fun K h => u_fdiv (fun K h => h) (by decide) h) (fun K h => u_w I.w rfl h) I.bads (by rw [hbl]; decide) (by rw [hbl]; decide) hgx h) (c_nowhere_no (n := n + 8) I O (I.badNo O hpl) (h σ H I O (Nat.le_succ _))))
  have hz := Nat.le_trans O.spl (by decide : 300 ≤ 1000)
  obtain ⟨z, hzm, hgx⟩ := pick_at (x / 9) O.spne hz
  obtain ⟨i, q, t, l, v, rfl, S⟩ := I.spot O hzm
  refine u_asg (v := spotV i (σ.pl i) q t l) (fun K h => u_picked (fun K h => u_w I.w rfl h) (fun K h => u_fdiv (fun K h => h) (by decide) h) (fun K h => u_w I.w rfl h) I.spots O.spne hz hgx h) ?_
  refine u_if' (b := decide (x % 9 = 7)) (fun K h => u_eqi (fun K h => u_mod (fun K h => h) (by decide) h) h) (fun _ => ?_) (fun _ => ?_)
  · obtain ⟨xx, hc⟩ := S.tv.cell
    have h' := h σ H I O (Nat.le_succ _)
    refine u_asg (v := .int (-1)) (fun K h => h) (u_if' (b := decide (y % 2 = 0)) (fun K h => u_eqi (fun K h => u_mod (fun K h => h) (by decide) h) h) (fun _ => ?_) (fun _ => ?_))
    · refine u_asg (v := .int 0) (fun K h => h) (u_if' (b := isShape t.kind) (fun K h => u_in (fun K h => u_subl (fun K h => h) (fun K h => h) hc rfl h) (fun K h => u_w I.w rfl h) ((in_shapes (QB := kCmpR K) I.K).mpr h)) (fun hs => ?_) (fun hs => ?_))
      · obtain ⟨lo, a, b, k, cs, vs, n', hcc, rfl, rfl⟩ : ∃ lo a b k cs vs, ∃ n' : NodeOk H lo a b k cs vs, ∃ hcc : ∀ (i : Nat) c v, cs[i]? = some c → vs[i]? = some v → TV H c v, t = .node lo a b k cs ∧ v = .tup [.int 5, .int k, .tup vs] := by
          have tv := S.tv
          cases tv with
          | leaf a k v _ hs' => exact nomatch hs.symm.trans hs'
          | node lo a b k cs vs n' hcc => exact ⟨lo, a, b, k, cs, vs, n', hcc, rfl, rfl⟩
        have few : (cs.map Tr.rf).length ≤ 4 := by rw [List.length_map]; exact n'.few
        refine u_asg (v := .int (cs.map Tr.rf).length) (fun K h => u_len (fun K h => u_subl (fun K h => h) (fun K h => h) n'.h1 rfl h) n'.h2 (Nat.le_trans few (by decide)) h) ?_
        exact u_nil (u_nil (u_ret (u_call2L (fun K h => h) (u_call2 (fun K h => h) (fun K h => h) (c_off I O S (by rw [getP_node, if_neg (Int.not_lt.mpr (Int.natCast_nonneg _)), Int.toNat_natCast, List.getElem?_eq_none_iff.mpr (by rw [List.length_map, n'.hl]; exact Nat.le_refl _)]; rfl) (Int.ofNat_lt.mpr (Nat.lt_of_le_of_lt few (by decide : 4 < 2 ^ 63))) h')))))
      · exact u_nil (u_ret (u_call2L (fun K h => h) (u_call2 (fun K h => h) (fun K h => h) (c_off I O S (getP_leaf S.tv.kv hs) (by decide) h'))))
    · refine u_ret (u_call2L (fun K h => h) (u_call2 (fun K h => h) (fun K h => h) (c_off I O S ?_ (by decide) h')))
      cases hs : isShape t.kind with
      | false => exact getP_leaf S.tv.kv hs
      | true =>
        obtain ⟨vs, rfl, _⟩ := kv_node hs S.tv.kv
        rw [getP_node, if_pos (show (-1 : Int) < 0 by decide)]
  · -- what is read is what is seen
    have drawn : ∀ {H'}, Inv bits old σ H' → wp (callF (n + 13) 228 [.ref 179, spotV i (σ.pl i) q t l, .int y]) Q H' := fun I => c_drawn (n := n) (l := l) I O S.hi S.sub S.l300 hcl h
    by_cases hl : lost i ∧ σ.ds = true
    · refine u_asg (v := .none) (fun K h => u_call2 (fun K h => u_w I.w rfl h) (fun K h => h) (c_read_no (n := n + 9) I.F I.P O.T (I.no O hl.1 hl.2) h)) ?_
      refine u_iteCmp (fun K h => h) (u_call2 (fun K h => h) (fun K h => h) (c_seen (n := n + 8) (q := q) (l := l) (pl := σ.pl i) I O S.tv (fun _ _ => ?_) (fun hn => absurd hl hn)))
      refine wp_ne_it (d := 0) (e := 0) rfl rfl (by decide) (by decide) (fun _ => ifK_f rfl ?_) (fun e => absurd rfl e)
      exact u_if' (b := decide (s ≤ 2)) (fun K h => h) (fun _ => u_ret (u_call3 (fun K h => h) (fun K h => h) (fun K h => h) (drawn I))) (fun _ => u_yes (fun K h => h) (u_ret (h σ H I O (Nat.le_succ _))))
    · obtain ⟨g, hgm, j, hj, hij, hA, hr, hll, hv⟩ := I.loc O S.hi hl
      refine u_asg (v := v) (fun K h => u_call2 (fun K h => u_w I.w rfl h) (fun K h => h) (c_read_at (n := n + 9) I.F I.P O.T hA hr hll hv (I.trees i S.hi).kv.okv S.small (Nat.lt_trans S.l300 (by decide)) (by rw [S.get]; exact h))) ?_
      refine u_iteCmp (fun K h => h) (u_call2 (fun K h => h) (fun K h => h) (c_seen (n := n + 8) (q := q) (l := l) (pl := σ.pl i) I O S.tv (fun a b => absurd ⟨a, b⟩ hl) (fun hn H1 ex => ?_)))
      refine wp_ne_it S.tv.kv.it S.tv.kv.it (by decide) (by decide) (fun _ => ifK_f rfl ?_) (fun e => absurd rfl e)
      replace I := I.ext ex
      replace S := S.ext ex
      refine u_if' (b := decide (s ≤ 2)) (fun K h => h) (fun _ => u_ret (u_call3 (fun K h => h) (fun K h => h) (fun K h => h) (drawn I))) (fun _ => ?_)
      refine u_no' (fun K h => u_is (fun K h => h) (by rw [S.tv.kv.okv.ne]; exact h)) ?_
      refine u_if' (b := decide (s ≤ 4)) (fun K h => h) (fun _ => u_ret (u_call4 (fun K h => h) (fun K h => h) (fun K h => h) (u_loc rfl (c_copy (n := n) I O S hzm hcl h)))) (fun _ => ?_)
      exact u_if' (b := decide (s = 5)) (fun K h => h) (fun _ => u_ret (u_call3 (fun K h => h) (fun K h => h) (fun K h => h) (c_box (n := n) I O S fun σ' H' I' O' hl' => h σ' H' I' O' (Nat.le_succ_of_le hl'))))
        (fun _ => u_ret (u_call4 (fun K h => h) (fun K h => h) (fun K h => h) (u_loc rfl (c_compare (n := n) I O S fun H' ex' => h σ H' (I.ext ex') O (Nat.le_succ _)))))
end
end Mine
end
section
set_option maxRecDepth 100000
namespace Mine
local macro_rules | `(tactic| omega) => `(tactic| lia)
open PySem
section
variable {C : Nat → List V → M V} {ρ : Loc} {H : AH} {a b c2 o i : E} {t ss : Ss} {QF : Flow → AH → Prop} {Q : V → AH → Prop} {u v : V}
theorem u_del (ho : ∀ K : V → AH → Prop, K u H → wE C o ρ K H) (hi : ∀ K : V → AH → Prop, K v H → wE C i ρ K H) (h : wp (delV u v) (fun _ H' => wSs C ss ρ QF H') H) : wSs C (.cons (.del o i) ss) ρ QF H := ho (kDel1 C i ρ (kSeq C ss QF)) (hi (kDel2 u ρ (kSeq C ss QF)) h)
theorem u_lst0 (h : Q (.ref H.length) (H ++ [.lst []])) : wE C (.lst .nil) ρ Q H := h
theorem u_iteOr {op : COp} (ha : ∀ K : V → AH → Prop, K u H → wE C a ρ K H) (h : wE C b ρ (fun v H' => wCmp op u v (fun d H' => ifK d (wSs C t ρ (kSeq C ss QF) H') (wE C c2 ρ (fun v H'' => onBool v fun d => ifK d (wSs C t ρ (kSeq C ss QF) H'') (wSs C ss ρ QF H'')) H')) H') H) :
    wSs C (.cons (.ite (.or (.cons (.cmp op a b) (.cons c2 .nil))) t .nil) ss) ρ QF H := ha (kCmp1 C op b ρ (kOr C (.cons c2 .nil) ρ (kIte1 C t .nil ρ (kSeq C ss QF)))) h
end
section
variable {bits : Int} {old : List (V × V)} {σ : Sg} {H : AH}
theorem c_deed {n : Nat} {o x y : Int} {Q : V → AH → Prop} (I : Inv bits old σ H) (O : SgOk bits old σ) (hcl : σ.cards.length ≤ 900) (h : Next bits old (σ.cards.length + 1) Q) :
    wp (callF (n + 14) k_law_deed [.ref 179, .int o, .int x, .int y]) Q H := by
  rw [wp_call (fd := fd_law_deed) rfl rfl]
  refine u_asg (v := .int (o % 8)) (fun K h => u_mod (fun K h => h) (by decide) h) ?_
  refine u_asg (v := .ref 173) (fun K h => u_attr (fun K h => u_w I.w rfl h) I.F.ph rfl rfl h) ?_
  refine u_if' (b := decide (o % 8 = 7) && (dfind (framesL σ.ds) (.int 9)).isSome) (fun K h => u_and (a := decide (o % 8 = 7)) (fun K h => h) (fun _ K h => u_and1 (fun K h => u_in (fun K h => h) (fun K h => h) ((in_dct (QB := kCmpR K) I.F.frames (frames_key _ _)).mpr h)) h) h) (fun e => ?_) (fun _ => c_deed_rest I O hcl h)
  have e := (both e).2
  have hf := I.F.frames
  cases hd : σ.ds with
  | true => rw [hd] at e; cases e
  | false =>
    rw [hd] at hf
    refine u_del (fun K h => h) (fun K h => h) ((wp_del hf (frames_key _ _) rfl rfl).mpr ?_)
    have hw : (H.set 173 (.dct (framesL true)))[179]? = _ := (set_ne (by decide)).trans I.w
    have h7' : (H.set 173 (.dct (framesL true)))[177]? = _ := (set_ne (by decide)).trans I.dead
    change wSs _ _ _ _ (H.set 173 (.dct (framesL true)))
    refine u_setE (fun K h => h) (fun K h => u_w hw rfl h) (fun K h => h) ((wp_set_lst h7' (by decide) (show (0 : Int) < (1 : Nat) by decide) (by decide)).mpr (u_nil ?_))
    exact c_deed_rest (σ := { σ with ds := true }) (I.die O ((set_ne (by decide)).trans (set_at hf)) (set_at h7') fun a c a1 a2 hc => (set_ne a2.symm).trans ((set_ne a1.symm).trans hc)) O.die hcl h
theorem intPairs_of : ∀ {l : List (V × V)}, IntKeys l → ∃ p, intPairs l = some p
  | [], _ => ⟨[], rfl⟩
  | q :: l, h => by
    obtain ⟨a, b, rfl⟩ := h q List.mem_cons_self
    obtain ⟨p, e⟩ := intPairs_of fun r hr => h r (List.mem_cons_of_mem _ hr)
    refine ⟨(a, b) :: p, ?_⟩
    show (match intPairs l with | some l => some ((a, b) :: l) | none => none) = _
    rw [e]
theorem wp_eq_dct {a b : Nat} {l : List (V × V)} {QB : Bool → AH → Prop} (ha : H[a]? = some (.dct l)) (hb : H[b]? = some (.dct l)) (hl : IntKeys l) (h : QB true H) : wCmp .eq (.ref a) (.ref b) QB H := by
  obtain ⟨p, e⟩ := intPairs_of hl
  show eqR H a b fun r => QB r H
  delta eqR
  rw [ha]
  show atD H[b]? _
  rw [hb]
  have z : eqD2 l l (fun r => QB r H) := by
    delta eqD2
    rw [e]
    show bQ (decide (p = p)) (QB true H)
    rw [decide_eq_true rfl]; exact h
  exact z
theorem its_row {σ : Sg} {g : Grp} (h : ∀ i, i < σ.N → KV (σ.tr i).kind (σ.val i)) (hg : g.off + g.n ≤ σ.N) : its 9 (rowOf σ g) = true := its_of fun v hv => by
  obtain ⟨i, hi, rfl⟩ := List.mem_map.mp hv
  exact (h i (Nat.lt_of_lt_of_le (List.mem_range'_1.mp hi).2 hg)).it
theorem c_settled {n : Nat} {Q : V → AH → Prop} (I : Inv bits old σ H) (O : SgOk bits old σ) (h : ∀ H', Q (.bool true) H') : wp (callF (n + 6) k_law_settled [.ref 179]) Q H := by
  rw [wp_call (fd := fd_law_settled) rfl rfl]
  have hgl : (σ.grp.map fun g => V.tup [.ref g.la, .ref g.ca]).length ≤ 12 := by rw [List.length_map, O.gths]; exact Nat.add_le_add_right O.T.len 6
  refine u_for2 (u_w I.w rfl ?_)
  refine (wp_toIt_lst I.holders).mpr ?_
  refine wp_for_lst (xs := σ.grp.map fun g => .tup [.ref g.la, .ref g.ca]) (fun i ρ H' => Ext H H' ∧ look ρ 213 = some (.ref 179)) (fun i ρ H' hI => hI.1.at I.holders) (Nat.lt_of_le_of_lt (Nat.le_trans (Nat.sub_le ..) hgl) (by decide)) ⟨.refl H, rfl⟩ ?_ ?_
  · rintro i v ρ H1 K hv ⟨ex, f1⟩ hK
    rw [List.getElem?_map] at hv
    obtain ⟨g, hgi, rfl⟩ := Option.map_eq_some_iff.mp hv
    have hg := List.mem_of_getElem? hgi
    have I1 := I.ext ex
    have hgn := O.gn g hg
    obtain ⟨r1, r2⟩ := I1.rows g hg
    have hrl : (rowOf σ g).length ≤ 4 := by rw [row_len]; exact hgn.1
    have hcl : ((List.range' g.off g.n).map fun i => (σ.tr i).rf).length = g.n := by rw [List.length_map, List.length_range']
    rw [w_for2B]
    have f3 : look (Mine.put (Mine.put ρ 263 (.ref g.la)) 251 (.ref g.ca)) 213 = some (.ref 179) := look_put.trans (look_put.trans f1)
    refine u_iteCmp (u := .ref g.la) (fun K h => u_loc (look_put.trans look_put) h) (u_comp (u_loc look_put ?_))
    refine (wp_toIt_lst r2).mpr ?_
    refine wp_comp_lst (xs := (List.range' g.off g.n).map fun i => (σ.tr i).rf) (fun j acc H' => acc = (rowOf σ g).take j ∧ Ext H1 H') (fun j acc H' hI => hI.2.at r2) (fun j acc H' hI => by rw [hI.1]; exact Nat.le_trans (List.length_take_le' ..) (Nat.le_trans hrl (by decide))) (Nat.lt_of_le_of_lt (Nat.le_trans (Nat.sub_le ..) (by rw [hcl]; exact hgn.1)) (by decide)) ⟨rfl, .refl H1⟩ ?_ ?_
    · rintro j x acc H2 K2 hx ⟨rfl, ex2⟩ hK2
      have hj : j < g.n := hcl ▸ at_lt hx
      rw [List.getElem?_map, List.getElem?_range' hj, Nat.one_mul] at hx
      cases hx
      have I2 := I1.ext ex2
      rw [w_eltB]
      exact u_call2 (fun K h => u_loc look_put h) (fun K h => u_w I2.w rfl h (look_put.trans f3)) (c_show (n + 5) (Nat.lt_of_le_of_lt (dK_le _) (Nat.lt_of_lt_of_le (by decide : 3 < 5) (Nat.le_add_left 5 n))) I2.K (I2.trees (g.off + j) (Nat.lt_of_lt_of_le (Nat.add_lt_add_left hj _) hgn.2)) fun H3 ex3 => hK2.s ⟨by rw [List.take_add_one, row_at hj]; rfl, ex2.trans ex3⟩)
    · rintro j acc H2 hj ⟨rfl, ex2⟩
      rw [List.take_of_length_le (by rw [row_len]; rwa [hcl] at hj)]
      have e3 := ex2.trans (.push H2 (.lst (rowOf σ g)))
      rw [kLst_at, wAl_at]
      refine wp_ne_lst (e3.at r1) (end_at _ _) (its_row (fun i hi => (I.trees i hi).kv) hgn.2) (by decide) ?_
      exact ifK_f rfl (hK.n ⟨ex.trans e3, f3⟩)
  · rintro i ρ H1 hi ⟨ex, f1⟩
    have I1 := I.ext ex
    refine u_asg (v := .ref 149) (fun K h => u_attr (fun K h => u_w I1.w rfl h f1) I1.F.ph rfl rfl h) ?_
    have f2 : look (Mine.put ρ 139 (.ref 149)) 213 = some (.ref 179) := look_put.trans f1
    have f3 : look (Mine.put ρ 139 (V.ref 149)) 139 = some (.ref 149) := look_put
    generalize Mine.put ρ 139 (V.ref 149) = ρ' at f2 f3
    have I2 := I1.ext (.push H1 (.lst []))
    have e0 : ((σ.grp.map fun g => V.tup [.ref g.la, .ref g.ca]).length : Int) - 6 = (σ.ths.map fun t => V.ref t.r).length := by rw [List.length_map, List.length_map, O.gths]; omega
    refine u_iteOr (fun K h => u_attr (fun K h => u_w I1.w rfl h f2) I1.F.f9 rfl rfl h) (u_lst0 (wp_ne_lst (d := 0) (app_at I1.keep2) (end_at _ _) rfl (by decide) (ifK_f rfl ?_)))
    refine u_cmp (u := .int (σ.ths.map fun t => V.ref t.r).length) (v := .int (σ.ths.map fun t => V.ref t.r).length) (fun K h => u_bin (fun K h => u_len (fun K h => u_w I2.w rfl h f2) I2.holders (Nat.le_trans hgl (by decide)) h) (fun K h => h) (by rw [← e0] at h; exact h))
      (fun K h => u_len (fun K h => u_attr (fun K h => u_loc f3 h) I2.P.heap rfl rfl h) I2.P.things (by rw [List.length_map]; exact Nat.le_trans O.T.len (by decide)) h) ?_
    refine ifK_f (b := !decide ((((σ.ths.map fun t => V.ref t.r).length : Nat) : Int) = ((σ.ths.map fun t => V.ref t.r).length : Nat))) (by rw [decide_eq_true rfl]; rfl) ?_
    exact u_ret (u_and (a := true) (b := true) (fun K h => u_cmp (fun K h => u_attr (fun K h => u_loc f3 h) I2.P.heap rfl rfl h) (fun K h => u_w I2.w rfl h f2) (wp_eq_dct I2.cards1 I2.cards2 O.ck h))
      (fun _ K h => u_and1 (a := true) (fun K h => u_cmp (u := .int σ.top) (v := .int σ.top) (fun K h => u_attr (fun K h => u_loc f3 h) I2.P.heap rfl rfl h) (fun K h => u_subl (fun K h => u_w I2.w rfl h f2) (fun K h => h) I2.top rfl h) (by show K (.bool (decide (σ.top = σ.top))) _; rw [decide_eq_true rfl]; exact h)) h) (h _))
end
end Mine
end
section
set_option maxRecDepth 100000
namespace Mine
local macro_rules | `(tactic| omega) => `(tactic| lia)
section
variable {C : Nat → List V → M V} {ρ : Loc} {H : AH} {a b c : E} {t ss : Ss} {QF : Flow → AH → Prop} {Q : V → AH → Prop} {u v w : V} {l : List V}
theorem u_lenf (ha : ∀ K : V → AH → Prop, K (.flist l) H → wE C a ρ K H) (hz : l.length ≤ 1000) (h : Q (.int l.length) H) : wE C (.len a) ρ Q H := ha (kLen Q) (show bQ _ _ from (bQ_is (lineOk_k hz)).symm ▸ h)
theorem u_subf {k : Int} (ha : ∀ K : V → AH → Prop, K (.flist l) H → wE C a ρ K H) (hb : ∀ K : V → AH → Prop, K (.int k) H → wE C b ρ K H) (hv : getAt l k = some v) (h : Q v H) : wE C (.sub a b) ρ Q H := ha (kSub1 C b ρ Q) (hb (kSub2 (.flist l) Q) (show oQ (getAt l k) Q H from hv ▸ h))
theorem u_max {x y : Int} (ha : ∀ K : V → AH → Prop, K (.int x) H → wE C a ρ K H) (hb : ∀ K : V → AH → Prop, K (.int y) H → wE C b ρ K H) (h : Q (.int (if x < y then y else x)) H) : wE C (.max a b) ρ Q H := ha (kMax1 C b ρ Q) (hb (kMax2 (.int x) Q) h)
theorem u_min {x y : Int} (ha : ∀ K : V → AH → Prop, K (.int x) H → wE C a ρ K H) (hb : ∀ K : V → AH → Prop, K (.int y) H → wE C b ρ K H) (h : Q (.int (if y < x then y else x)) H) : wE C (.min a b) ρ Q H := ha (kMin1 C b ρ Q) (hb (kMin2 (.int x) Q) h)
theorem u_range {n : Nat} (ha : ∀ K : V → AH → Prop, K (.int n) H → wE C a ρ K H) (hn : n ≤ 1000) (h : Q (.rng n) H) : wE C (.range a) ρ Q H := ha (kRange Q) ((wp_range hn).mpr h)
theorem u_lst3 (ha : ∀ K : V → AH → Prop, K u H → wE C a ρ K H) (hb : ∀ K : V → AH → Prop, K v H → wE C b ρ K H) (hc : ∀ K : V → AH → Prop, K w H → wE C c ρ K H) (h : Q (.ref H.length) (H ++ [.lst [u, v, w]])) : wE C (.lst (.cons a (.cons b (.cons c .nil)))) ρ Q H :=
  ha (kEs1 C (.cons b (.cons c .nil)) ρ (kLst Q)) (hb (kEs1 C (.cons c .nil) ρ (kEs2 u (kLst Q))) (hc (kEs1 C .nil ρ (kEs2 v (kEs2 u (kLst Q)))) h))
theorem u_iteNot (h : wE C a ρ (fun v H' => wTru v (fun d H' => ifK (!d) (wSs C t ρ (kSeq C ss QF) H') (wSs C ss ρ QF H')) H') H) : wSs C (.cons (.ite (.not a) t .nil) ss) ρ QF H := h
end
/-- what the world is to be -/
structure WorldOk (C : Nat → List V → M V) : Prop where
  go : ∀ (head : Int) (Q : V → AH → Prop), (∀ bits old σ H, Inv bits old σ H → SgOk bits old σ → σ.cards = [] → Q (.ref 179) H) → wp (C k_law_world [.int head]) Q []
theorem count_ok (m : Nat) (h : m ≤ 63) : ∃ c : Nat, c ≤ 12 ∧ (if (1 : Int) < (if ((m : Int) + 1) / 3 < 12 then ((m : Int) + 1) / 3 else 12) then (if ((m : Int) + 1) / 3 < 12 then ((m : Int) + 1) / 3 else 12) else 1) = (c : Int) := by
  by_cases h1 : ((m : Int) + 1) / 3 < 12
  · rw [if_pos h1]
    by_cases h2 : 1 < ((m : Int) + 1) / 3
    · rw [if_pos h2]; exact ⟨(m + 1) / 3, by omega, by omega⟩
    · rw [if_neg h2]; exact ⟨1, by decide, rfl⟩
  · rw [if_neg h1]; exact ⟨12, Nat.le_refl _, rfl⟩
theorem set3 {a0 a1 a2 z : Int} : ∀ {j : Nat}, j < 3 → ∃ b0 b1 b2 : Int, [V.int a0, .int a1, .int a2].set j (.int z) = [.int b0, .int b1, .int b2]
  | 0, _ => ⟨_, _, _, rfl⟩
  | 1, _ => ⟨_, _, _, rfl⟩
  | 2, _ => ⟨_, _, _, rfl⟩
  | j + 3, h => absurd h (Nat.not_lt.mpr (Nat.le_add_left 3 j))
/-- the state of the loop -/
inductive LwI (bits : Int) (old : List (V × V)) (ss : List V) (head : Int) (p : Nat) (ρ : Loc) (H : AH) : Prop
  | mk (σ : Sg) : Inv bits old σ H → SgOk bits old σ → σ.cards.length ≤ p → p ≤ 12 → look ρ 213 = some (.ref 179) → look ρ 265 = some (.flist ss) → look ρ 244 = some (.int head) → LwI bits old ss head p ρ H
/-- the state of the inner loop -/
inductive LwJ (H1 : AH) (ss : List V) (head : Int) (p : Nat) (j : Nat) (ρ : Loc) (H : AH) : Prop
  | mk (a0 a1 a2 : Int) : H = H1 ++ [.lst [.int a0, .int a1, .int a2]] → look ρ 213 = some (.ref 179) → look ρ 265 = some (.flist ss) → look ρ 244 = some (.int head) → look ρ 9 = some (.ref H1.length) → look ρ 247 = some (.int p) → LwJ H1 ss head p j ρ H
theorem law_tail {bits : Int} {old : List (V × V)} {σ : Sg} {H : AH} {n m : Nat} (hm : m = n + 23) {is : List Int} {head : Int} (hlen : is.length ≤ 63) (I : Inv bits old σ H) (O : SgOk bits old σ) (hc : σ.cards = []) :
    wSs (callF m) (dropS 3 fd_law.body) [(265, .flist (is.map V.int)), (244, .int head), (213, .ref 179)] (kFin (fun v _ => v = .bool true)) H := by
  subst hm
  have hl : (is.map V.int).length = is.length := List.length_map ..
  have hz : (is.map V.int).length ≤ 1000 := by rw [hl]; exact Nat.le_trans hlen (by decide)
  have hmem : ∀ k : Int, 0 ≤ k → k < (is.map V.int).length → ∃ z, getAt (is.map V.int) k = some (.int z) := fun k h0 h1 => by
    rw [hl] at h1
    obtain ⟨z, hz⟩ := ex_at ((Int.toNat_lt h0).mpr h1)
    exact ⟨z, by rw [getAt_in h0 (by omega), List.getElem?_map, hz]; rfl⟩
  obtain ⟨c, hc12, hce⟩ := count_ok is.length hlen
  refine u_asg (v := .int c) (fun K h => u_max (x := 1) (fun K h => h) (fun K h => u_min (x := 12) (fun K h => h) (fun K h => u_fdiv (x := (is.map V.int).length + 1) (fun K h => u_bin (fun K h => u_lenf (fun K h => h) hz h) (fun K h => h) h) (by decide) h) h) (by rw [hl, hce]; exact h)) ?_
  refine u_for (u_range (n := c) (fun K h => h) (Nat.le_trans hc12 (by decide)) ?_)
  refine wp_for_rng (i := 0) (m := c) (LwI bits old (is.map V.int) head) (Nat.lt_of_le_of_lt (Nat.le_trans (Nat.sub_le ..) hc12) (by decide)) ⟨σ, I, O, by rw [hc]; exact Nat.le_refl _, Nat.zero_le _, rfl, rfl, rfl⟩ ?_ ?_
  · rintro p ρ H1 K hp ⟨σ1, I1, O1, hc1, hp12, f1, f2, f3⟩ hK
    rw [w_forB]
    refine u_asgE (u_lst3 (u := .int 0) (v := .int 0) (w := .int 0) (fun K h => h) (fun K h => h) (fun K h => h) ?_)
    refine u_for (u_range (n := 3) (fun K h => h) (by decide) ?_)
    refine wp_for_rng (i := 0) (m := 3) (LwJ H1 (is.map V.int) head p) (by decide) ⟨0, 0, 0, rfl, look_put.trans (look_put.trans f1), look_put.trans (look_put.trans f2), look_put.trans (look_put.trans f3), look_put, look_put.trans look_put⟩ ?_ ?_
    · rintro j ρ' H' K2 hj ⟨a0, a1, a2, rfl, g1, g2, g3, g4, g5⟩ hK2
      rw [w_forB]
      have j1 : look (Mine.put ρ' 266 (V.int j)) 213 = some (.ref 179) := look_put.trans g1
      have j2 : look (Mine.put ρ' 266 (V.int j)) 265 = some (.flist (is.map V.int)) := look_put.trans g2
      have j3 : look (Mine.put ρ' 266 (V.int j)) 244 = some (.int head) := look_put.trans g3
      have j4 : look (Mine.put ρ' 266 (V.int j)) 9 = some (.ref H1.length) := look_put.trans g4
      have j5 : look (Mine.put ρ' 266 (V.int j)) 247 = some (.int p) := look_put.trans g5
      have j6 : look (Mine.put ρ' 266 (V.int j)) 266 = some (.int j) := look_put
      generalize Mine.put ρ' 266 (V.int j) = ρ2 at j1 j2 j3 j4 j5 j6
      have ix : ∀ {H'} (K : V → AH → Prop), K (.int (3 * (p : Int) + j + 1)) H' → wE (callF (n + 23)) (.bin .add (.bin .add (.bin .mul (.int 3) (.loc 247)) (.loc 266)) (.int 1)) ρ2 K H' := fun K h =>
        u_bin (fun K h => u_bin (fun K h => u_bin (fun K h => h) (fun K h => u_loc j5 h) ((wp_mul rfl).mpr h)) (fun K h => u_loc j6 h) h) (fun K h => h) h
      refine u_if' (b := decide (3 * (p : Int) + j + 1 < ((is.map V.int).length : Int))) (fun K h => u_cmp ix (fun K h => u_lenf (fun K h => u_loc j2 h) hz h) h) (fun e => ?_) (fun _ => ?_)
      · obtain ⟨z, hz'⟩ := hmem (3 * (p : Int) + j + 1) (by omega) (of_decide_eq_true e)
        have e := end_at H1 (.lst [.int a0, .int a1, .int a2])
        refine u_setE (fun K h => u_subf (fun K h => u_loc j2 h) ix hz' h) (fun K h => u_loc j4 h) (fun K h => u_loc j6 h) ((wp_set_lst e (Int.natCast_nonneg j) (Int.ofNat_lt.mpr hj) (by omega)).mpr ?_)
        rw [Int.toNat_natCast, end_set]
        obtain ⟨b0, b1, b2, eb⟩ := set3 (a0 := a0) (a1 := a1) (a2 := a2) (z := z) hj
        rw [eb]
        exact u_nil (hK2.n ⟨b0, b1, b2, rfl, j1, j2, j3, j4, j5⟩)
      · exact hK2.n ⟨a0, a1, a2, rfl, j1, j2, j3, j4, j5⟩
    · rintro j ρ' H' hj ⟨a0, a1, a2, rfl, g1, g2, g3, g4, g5⟩
      have e := end_at H1 (.lst [.int a0, .int a1, .int a2])
      refine u_iteNot (u_call4 (fun K h => u_loc g1 h) (fun K h => u_subl (fun K h => u_loc g4 h) (fun K h => h) e rfl h) (fun K h => u_subl (fun K h => u_loc g4 h) (fun K h => h) e rfl h) (u_subl (fun K h => u_loc g4 h) (fun K h => h) e rfl (c_deed (n := n + 9) (I1.ext (.push _ _)) O1 (Nat.le_trans hc1 (Nat.le_trans hp12 (by decide))) fun σ2 H2 I2 O2 hc2 => ?_)))
      rw [wTru_b]
      exact ifK_f rfl (hK.n ⟨σ2, I2, O2, Nat.le_trans hc2 (Nat.succ_le_succ hc1), Nat.le_trans hp hc12, g1, g2, g3⟩)
  · rintro p ρ H1 hp ⟨σ1, I1, O1, hc1, hp12, f1, f2, f3⟩
    have hpz := Nat.le_trans O1.spl (by decide : 300 ≤ 1000)
    obtain ⟨z, hzm, hgx⟩ := pick_at (head / 32) O1.spne hpz
    obtain ⟨i, q, t, l, v, rfl, S⟩ := I1.spot O1 hzm
    obtain ⟨xx, hcl⟩ := S.tv.cell
    refine u_asg (v := .int (head / 32)) (fun K h => u_fdiv (fun K h => u_loc f3 h) (by decide) h) ?_
    refine u_asg (v := spotV i (σ1.pl i) q t l) (fun K h => u_picked (fun K h => u_w I1.w rfl h (look_put.trans f1)) (fun K h => u_loc look_put h) (fun K h => u_w I1.w rfl h (look_put.trans f1)) I1.spots O1.spne hpz hgx h) ?_
    have g1 : look (Mine.put (Mine.put ρ 208 (.int (head / 32))) 218 (spotV i (σ1.pl i) q t l)) 213 = some (.ref 179) := look_put.trans (look_put.trans f1)
    have g2 : look (Mine.put (Mine.put ρ 208 (.int (head / 32))) 218 (spotV i (σ1.pl i) q t l)) 218 = some (spotV i (σ1.pl i) q t l) := look_put
    have g3 : look (Mine.put (Mine.put ρ 208 (.int (head / 32))) 218 (spotV i (σ1.pl i) q t l)) 208 = some (.int (head / 32)) := look_put.trans look_put
    generalize Mine.put (Mine.put ρ 208 (.int (head / 32))) 218 (spotV i (σ1.pl i) q t l) = ρ2 at g1 g2 g3
    refine u_iteNot (u_call3L (fun K h => u_loc g1 h) (fun K h => u_loc g2 h) (u_call3 (fun K h => u_subl (fun K h => u_subt (fun K h => u_loc g2 h) (fun K h => h) rfl h) (fun K h => h) hcl rfl h) (fun K h => u_loc g3 h) (fun K h => u_w I1.w rfl h g1) (c_made (n + 21) (Nat.lt_of_le_of_lt (dK_le _) (Nat.lt_of_lt_of_le (by decide : 3 < 21) (Nat.le_add_left 21 n))) S.tv.kv.cell I1.K fun H2 w ex kw => ?_)))
    refine c_law_write (n := n + 11) (l := l) (I1.ext ex) O1 S.hi S.sub S.l300 kw (Nat.le_trans hc1 (Nat.le_trans hp12 (by decide))) fun σ3 H3 I3 O3 _ => ?_
    rw [wTru_b]
    exact ifK_f rfl (u_ret (u_call1 (fun K h => u_loc g1 h) (c_settled (n := n + 17) I3 O3 fun H' => rfl)))
theorem law_head {C : Nat → List V → M V} {is : List Int} {QF : Flow → AH → Prop} (W : WorldOk C) (hlen : is.length ≤ 63) (T : ∀ head bits old σ H, Inv bits old σ H → SgOk bits old σ → σ.cards = [] → wSs C (dropS 3 fd_law.body) [(265, .flist (is.map V.int)), (244, .int head), (213, .ref 179)] QF H) :
    wSs C fd_law.body [(265, .flist (is.map V.int))] QF [] := by
  have rest : ∀ head : Int, wSs C (dropS 2 fd_law.body) [(265, .flist (is.map V.int)), (244, .int head)] QF [] := fun head =>
    u_asgE (u_call1 (fun K h => h) (W.go head _ fun bits old σ H I O hc => T head bits old σ H I O hc))
  refine u_asg (v := .int 0) (fun K h => h) ?_
  have hz : (is.map V.int).length ≤ 1000 := by rw [List.length_map]; exact Nat.le_trans hlen (by decide)
  cases is with
  | nil => exact u_no' (fun K h => u_cmp (fun K h => u_lenf (fun K h => h) hz h) (fun K h => h) h) (rest 0)
  | cons z l =>
    refine u_yes (fun K h => u_cmp (u := .int (List.map V.int (z :: l)).length) (fun K h => u_lenf (fun K h => h) hz h) (fun K h => h) (by show K (.bool (decide (((List.map V.int (z :: l)).length : Int) > 0))) []; rw [decide_eq_true (show ((List.map V.int (z :: l)).length : Int) > 0 from Int.ofNat_lt.mpr (Nat.succ_pos _))]; exact h)) ?_
    exact u_asg (v := .int z) (fun K h => h) (u_nil (rest z))
theorem law_true {m : Nat} (hm : m = 0 + 23) (W : WorldOk (callF m)) (is : List Int) (hlen : is.length ≤ 63) : callF (m + 1) k_law [.flist (is.map V.int)] (fun v _ => v = .bool true) [] :=
  (wp_call (n := m) (fd := fd_law) rfl rfl).mpr (law_head W hlen fun head bits old σ H I O hc => law_tail hm hlen I O hc)
end Mine
end
section
set_option maxRecDepth 100000
namespace Mine
noncomputable def takeS : Nat → Ss → Ss
  | n + 1, .cons s ss => .cons s (takeS n ss)
  | _, _ => .nil
theorem wSs_split {C : Nat → List V → M V} {Q : Flow → AH → Prop} : ∀ (n : Nat) (b : Ss) {ρ : Loc} {H : AH}, wSs C (takeS n b) ρ (flowK (fun ρ' H' => wSs C (dropS n b) ρ' Q H') (fun v H' => Q (.ret v) H')) H = wSs C b ρ Q H
  | 0, .nil, ρ, H => rfl
  | 0, .cons s ss, ρ, H => rfl
  | n + 1, .nil, ρ, H => rfl
  | n + 1, .cons s ss, ρ, H => congrArg (fun f => wS C s ρ (flowK f fun v H' => Q (.ret v) H') H) (funext fun ρ' => funext fun H' => wSs_split n ss)
open PySem
noncomputable def rho1 (head : Int) : Loc := [(244, .int head), (40, .ref 0), (247, .int 16), (246, .int 17), (260, .int 18), (248, .int 19), (192, .ref 5), (261, .tup [.tup [.int 7, .int 17], .tup [.int 16, .int 1, .int 18], .tup [.int 17], .tup [.int 12], .tup [.int 8, .int 16], .tup [.int 10, .int 16, .int 6], .tup [.int 2, .int 17, .int 12], .tup [.int 16, .int 16], .tup [.int 18]]), (113, .ref 6), (251, .ref 107), (10, .ref 136), (250, .ref 137), (245, .ref 139), (249, .ref 143), (257, .ref 147), (139, .ref 149), (256, .ref 155), (255, .ref 156), (254, .ref 157)]
noncomputable def H1 (b : Int) : AH := [.inst 12 [(10, .ref 1), (8, .ref 2), (7, .ref 3), (6, .ref 4)],
  .lst [.tup [.int 1, .int 0], .tup [.int 1, .int 1], .tup [.int 1, .int 2], .tup [.int 1, .int 3], .tup [.int 1, .int 4], .tup [.int 1, .int 5], .tup [.int 1, .int 6], .tup [.int 1, .int 7], .tup [.int 1, .int 8], .tup [.int 1, .int 9], .tup [.int 1, .int 10], .tup [.int 1, .int 11], .tup [.int 1, .int 12], .tup [.int 1, .int 13], .tup [.int 1, .int 14], .tup [.int 1, .int 15], .tup [.int 3, .int 64, .tup []], .tup [.int 3, .int 65, .tup []], .tup [.int 3, .int 66, .tup []], .tup [.int 2, .int 67, .tup []], .tup [.int 4, .int 16]],
  .dct [(.tup [.int 1, .int 0], .int 0), (.tup [.int 1, .int 1], .int 1), (.tup [.int 1, .int 2], .int 2), (.tup [.int 1, .int 3], .int 3), (.tup [.int 1, .int 4], .int 4), (.tup [.int 1, .int 5], .int 5), (.tup [.int 1, .int 6], .int 6), (.tup [.int 1, .int 7], .int 7), (.tup [.int 1, .int 8], .int 8), (.tup [.int 1, .int 9], .int 9), (.tup [.int 1, .int 10], .int 10), (.tup [.int 1, .int 11], .int 11), (.tup [.int 1, .int 12], .int 12), (.tup [.int 1, .int 13], .int 13), (.tup [.int 1, .int 14], .int 14), (.tup [.int 1, .int 15], .int 15), (.tup [.int 3, .int 64, .tup []], .int 16), (.tup [.int 3, .int 65, .tup []], .int 17), (.tup [.int 3, .int 66, .tup []], .int 18), (.tup [.int 2, .int 67, .tup []], .int 19), (.tup [.int 4, .int 16], .int 20)],
  .lst [.int 1, .int 1, .int 1, .int 1, .int 1, .int 1, .int 1, .int 1, .int 1, .int 1, .int 1, .int 1, .int 1, .int 1, .int 1, .int 1, .int 1, .int 1, .int 1, .int 1, .int 2],
  .lst [.int 0, .int 0, .int 0, .int 0, .int 0, .int 0, .int 0, .int 0, .int 0, .int 0, .int 0, .int 0, .int 0, .int 0, .int 0, .int 0, .int 0, .int 0, .int 0, .int 0, .int 0],
  .dct [(.int 16, .tup [.int 4, .int 12, .int 5]), (.int 17, .tup [.int 9, .int 16]), (.int 18, .tup [.int 17, .int 3, .int 16, .int 11])],
  .lst [.int 39],
  .lst [.int 7, .tup [.int 1, .int 1]],
  .lst [.int 9, .tup [.int 2, .int 2]],
  .lst [.int 4, .tup [.int 1, .int 3]],
  .lst [.int 12, .tup [.int 4, .int 25]],
  .lst [.int 5, .tup [.int 1, .int 4]],
  .lst [.ref 9, .ref 10, .ref 11],
  .lst [.int 16, .ref 12],
  .lst [.ref 8, .ref 13],
  .lst [.int 17, .ref 14],
  .lst [.ref 7, .ref 15],
  .lst [.int 4, .tup [.int 1, .int 5]],
  .lst [.int 12, .tup [.int 4, .int 16]],
  .lst [.int 5, .tup [.int 1, .int 6]],
  .lst [.ref 17, .ref 18, .ref 19],
  .lst [.int 16, .ref 20],
  .lst [.int 1, .tup [.int 1, .int 7]],
  .lst [.int 9, .tup [.int 2, .int 8]],
  .lst [.int 4, .tup [.int 1, .int 9]],
  .lst [.int 12, .tup [.int 4, .int 16]],
  .lst [.int 5, .tup [.int 1, .int 10]],
  .lst [.ref 24, .ref 25, .ref 26],
  .lst [.int 16, .ref 27],
  .lst [.ref 23, .ref 28],
  .lst [.int 17, .ref 29],
  .lst [.int 3, .tup [.int 1, .int 11]],
  .lst [.int 4, .tup [.int 1, .int 12]],
  .lst [.int 12, .tup [.int 4, .int 0]],
  .lst [.int 5, .tup [.int 1, .int 13]],
  .lst [.ref 32, .ref 33, .ref 34],
  .lst [.int 16, .ref 35],
  .lst [.int 11, .tup [.int 3, .int 14]],
  .lst [.ref 30, .ref 31, .ref 36, .ref 37],
  .lst [.int 18, .ref 38],
  .lst [.ref 21, .ref 22, .ref 39],
  .lst [.int 9, .tup [.int 2, .int 15]],
  .lst [.int 4, .tup [.int 1, .int 16]],
  .lst [.int 12, .tup [.int 4, .int 0]],
  .lst [.int 5, .tup [.int 1, .int 17]],
  .lst [.ref 42, .ref 43, .ref 44],
  .lst [.int 16, .ref 45],
  .lst [.ref 41, .ref 46],
  .lst [.int 17, .ref 47],
  .lst [.ref 48],
  .lst [.int 12, .tup [.int 4, .int 16]],
  .lst [.ref 50],
  .lst [.int 8, .tup [.int 1, .int 18]],
  .lst [.int 4, .tup [.int 1, .int 19]],
  .lst [.int 12, .tup [.int 4, .int 25]],
  .lst [.int 5, .tup [.int 1, .int 20]],
  .lst [.ref 53, .ref 54, .ref 55],
  .lst [.int 16, .ref 56],
  .lst [.ref 52, .ref 57],
  .lst [.int 10, .tup [.int 2, .int 21]],
  .lst [.int 4, .tup [.int 1, .int 22]],
  .lst [.int 12, .tup [.int 4, .int 21]],
  .lst [.int 5, .tup [.int 1, .int 23]],
  .lst [.ref 60, .ref 61, .ref 62],
  .lst [.int 16, .ref 63],
  .lst [.int 6, .tup [.int 1, .int 24]],
  .lst [.ref 59, .ref 64, .ref 65],
  .lst [.int 2, .tup [.int 1, .int 25]],
  .lst [.int 9, .tup [.int 2, .int 26]],
  .lst [.int 4, .tup [.int 1, .int 27]],
  .lst [.int 12, .tup [.int 4, .int 25]],
  .lst [.int 5, .tup [.int 1, .int 28]],
  .lst [.ref 69, .ref 70, .ref 71],
  .lst [.int 16, .ref 72],
  .lst [.ref 68, .ref 73],
  .lst [.int 17, .ref 74],
  .lst [.int 12, .tup [.int 4, .int 0]],
  .lst [.ref 67, .ref 75, .ref 76],
  .lst [.int 4, .tup [.int 1, .int 29]],
  .lst [.int 12, .tup [.int 4, .int 16]],
  .lst [.int 5, .tup [.int 1, .int 30]],
  .lst [.ref 78, .ref 79, .ref 80],
  .lst [.int 16, .ref 81],
  .lst [.int 4, .tup [.int 1, .int 31]],
  .lst [.int 12, .tup [.int 4, .int 25]],
  .lst [.int 5, .tup [.int 1, .int 32]],
  .lst [.ref 83, .ref 84, .ref 85],
  .lst [.int 16, .ref 86],
  .lst [.ref 82, .ref 87],
  .lst [.int 9, .tup [.int 2, .int 33]],
  .lst [.int 4, .tup [.int 1, .int 34]],
  .lst [.int 12, .tup [.int 4, .int 21]],
  .lst [.int 5, .tup [.int 1, .int 35]],
  .lst [.ref 90, .ref 91, .ref 92],
  .lst [.int 16, .ref 93],
  .lst [.ref 89, .ref 94],
  .lst [.int 17, .ref 95],
  .lst [.int 3, .tup [.int 1, .int 36]],
  .lst [.int 4, .tup [.int 1, .int 37]],
  .lst [.int 12, .tup [.int 4, .int 16]],
  .lst [.int 5, .tup [.int 1, .int 38]],
  .lst [.ref 98, .ref 99, .ref 100],
  .lst [.int 16, .ref 101],
  .lst [.int 11, .tup [.int 3, .int 39]],
  .lst [.ref 96, .ref 97, .ref 102, .ref 103],
  .lst [.int 18, .ref 104],
  .lst [.ref 105],
  .lst [.ref 16, .ref 40, .ref 49, .ref 51, .ref 58, .ref 66, .ref 77, .ref 88, .ref 106],
  .lst [.tup [.int 1, .int 3], .tup [.int 4, .int 25], .tup [.int 1, .int 4]],
  .lst [.tup [.int 2, .int 2], .tup [.int 5, .int 16, .tup [.tup [.int 1, .int 3], .tup [.int 4, .int 25], .tup [.int 1, .int 4]]]],
  .lst [.tup [.int 1, .int 1], .tup [.int 5, .int 17, .tup [.tup [.int 2, .int 2], .tup [.int 5, .int 16, .tup [.tup [.int 1, .int 3], .tup [.int 4, .int 25], .tup [.int 1, .int 4]]]]]],
  .lst [.tup [.int 1, .int 5], .tup [.int 4, .int 16], .tup [.int 1, .int 6]],
  .lst [.tup [.int 1, .int 9], .tup [.int 4, .int 16], .tup [.int 1, .int 10]],
  .lst [.tup [.int 2, .int 8], .tup [.int 5, .int 16, .tup [.tup [.int 1, .int 9], .tup [.int 4, .int 16], .tup [.int 1, .int 10]]]],
  .lst [.tup [.int 1, .int 12], .tup [.int 4, .int 0], .tup [.int 1, .int 13]],
  .lst [.tup [.int 5, .int 17, .tup [.tup [.int 2, .int 8], .tup [.int 5, .int 16, .tup [.tup [.int 1, .int 9], .tup [.int 4, .int 16], .tup [.int 1, .int 10]]]]], .tup [.int 1, .int 11], .tup [.int 5, .int 16, .tup [.tup [.int 1, .int 12], .tup [.int 4, .int 0], .tup [.int 1, .int 13]]], .tup [.int 3, .int 14]],
  .lst [.tup [.int 5, .int 16, .tup [.tup [.int 1, .int 5], .tup [.int 4, .int 16], .tup [.int 1, .int 6]]], .tup [.int 1, .int 7], .tup [.int 5, .int 18, .tup [.tup [.int 5, .int 17, .tup [.tup [.int 2, .int 8], .tup [.int 5, .int 16, .tup [.tup [.int 1, .int 9], .tup [.int 4, .int 16], .tup [.int 1, .int 10]]]]], .tup [.int 1, .int 11], .tup [.int 5, .int 16, .tup [.tup [.int 1, .int 12], .tup [.int 4, .int 0], .tup [.int 1, .int 13]]], .tup [.int 3, .int 14]]]],
  .lst [.tup [.int 1, .int 16], .tup [.int 4, .int 0], .tup [.int 1, .int 17]],
  .lst [.tup [.int 2, .int 15], .tup [.int 5, .int 16, .tup [.tup [.int 1, .int 16], .tup [.int 4, .int 0], .tup [.int 1, .int 17]]]],
  .lst [.tup [.int 5, .int 17, .tup [.tup [.int 2, .int 15], .tup [.int 5, .int 16, .tup [.tup [.int 1, .int 16], .tup [.int 4, .int 0], .tup [.int 1, .int 17]]]]]],
  .lst [.tup [.int 4, .int 16]],
  .lst [.tup [.int 1, .int 19], .tup [.int 4, .int 25], .tup [.int 1, .int 20]],
  .lst [.tup [.int 1, .int 18], .tup [.int 5, .int 16, .tup [.tup [.int 1, .int 19], .tup [.int 4, .int 25], .tup [.int 1, .int 20]]]],
  .lst [.tup [.int 1, .int 22], .tup [.int 4, .int 21], .tup [.int 1, .int 23]],
  .lst [.tup [.int 2, .int 21], .tup [.int 5, .int 16, .tup [.tup [.int 1, .int 22], .tup [.int 4, .int 21], .tup [.int 1, .int 23]]], .tup [.int 1, .int 24]],
  .lst [.tup [.int 1, .int 27], .tup [.int 4, .int 25], .tup [.int 1, .int 28]],
  .lst [.tup [.int 2, .int 26], .tup [.int 5, .int 16, .tup [.tup [.int 1, .int 27], .tup [.int 4, .int 25], .tup [.int 1, .int 28]]]],
  .lst [.tup [.int 1, .int 25], .tup [.int 5, .int 17, .tup [.tup [.int 2, .int 26], .tup [.int 5, .int 16, .tup [.tup [.int 1, .int 27], .tup [.int 4, .int 25], .tup [.int 1, .int 28]]]]], .tup [.int 4, .int 0]],
  .lst [.tup [.int 1, .int 29], .tup [.int 4, .int 16], .tup [.int 1, .int 30]],
  .lst [.tup [.int 1, .int 31], .tup [.int 4, .int 25], .tup [.int 1, .int 32]],
  .lst [.tup [.int 5, .int 16, .tup [.tup [.int 1, .int 29], .tup [.int 4, .int 16], .tup [.int 1, .int 30]]], .tup [.int 5, .int 16, .tup [.tup [.int 1, .int 31], .tup [.int 4, .int 25], .tup [.int 1, .int 32]]]],
  .lst [.tup [.int 1, .int 34], .tup [.int 4, .int 21], .tup [.int 1, .int 35]],
  .lst [.tup [.int 2, .int 33], .tup [.int 5, .int 16, .tup [.tup [.int 1, .int 34], .tup [.int 4, .int 21], .tup [.int 1, .int 35]]]],
  .lst [.tup [.int 1, .int 37], .tup [.int 4, .int 16], .tup [.int 1, .int 38]],
  .lst [.tup [.int 5, .int 17, .tup [.tup [.int 2, .int 33], .tup [.int 5, .int 16, .tup [.tup [.int 1, .int 34], .tup [.int 4, .int 21], .tup [.int 1, .int 35]]]]], .tup [.int 1, .int 36], .tup [.int 5, .int 16, .tup [.tup [.int 1, .int 37], .tup [.int 4, .int 16], .tup [.int 1, .int 38]]], .tup [.int 3, .int 39]],
  .lst [.tup [.int 5, .int 18, .tup [.tup [.int 5, .int 17, .tup [.tup [.int 2, .int 33], .tup [.int 5, .int 16, .tup [.tup [.int 1, .int 34], .tup [.int 4, .int 21], .tup [.int 1, .int 35]]]]], .tup [.int 1, .int 36], .tup [.int 5, .int 16, .tup [.tup [.int 1, .int 37], .tup [.int 4, .int 16], .tup [.int 1, .int 38]]], .tup [.int 3, .int 39]]]],
  .lst [.ref 110, .ref 116, .ref 119, .ref 120, .ref 122, .ref 124, .ref 127, .ref 130, .ref 135],
  .inst 162 [(2, .int 7), (161, .int 7), (47, .ref 110), (159, .ref 116), (160, .ref 119)],
  .lst [],
  .inst 162 [(2, .int 9), (161, .int 9), (47, .ref 120), (159, .ref 122), (160, .ref 140)],
  .lst [],
  .lst [],
  .lst [],
  .inst 162 [(2, .int 12), (161, .int 7), (47, .ref 141), (159, .ref 142), (160, .ref 144)],
  .lst [],
  .lst [.tup [.int 1, .int 0]],
  .lst [.tup [.int 1, .int 0]],
  .inst 162 [(2, .int 99), (161, .int 99), (47, .ref 145), (159, .ref 146), (160, .ref 148)],
  .lst [],
  .inst 137 [(136, .ref 150), (135, .ref 151), (110, .int 28), (125, .int 400), (133, .ref 152), (126, .int b), (132, .int 12), (131, .int 101), (130, .ref 153), (129, .ref 154), (128, .int 0), (127, .int 3)],
  .lst [.ref 155, .ref 156, .ref 157],
  .dct [(.int 16, .ref 155), (.int 21, .ref 156), (.int 25, .ref 157)],
  .dct [],
  .lst [],
  .lst [],
  .inst 123 [(117, .int 16), (118, .int 19), (119, .ref 127), (122, .int 0), (121, .int 5), (120, .int 1)],
  .inst 123 [(117, .int 21), (118, .int 20), (119, .ref 130), (122, .int 0), (121, .int 4), (120, .int 2)],
  .inst 123 [(117, .int 25), (118, .int 18), (119, .ref 135), (122, .int 0), (121, .int 3), (120, .int 3)]]
noncomputable def rho2 (head g0 g1 g2 : Int) : Loc := [(244, .int head), (40, .ref 0), (247, .int 16), (246, .int 17), (260, .int 18), (248, .int 19), (192, .ref 5), (261, .tup [.tup [.int 7, .int 17], .tup [.int 16, .int 1, .int 18], .tup [.int 17], .tup [.int 12], .tup [.int 8, .int 16], .tup [.int 10, .int 16, .int 6], .tup [.int 2, .int 17, .int 12], .tup [.int 16, .int 16], .tup [.int 18]]), (113, .ref 6), (251, .ref 107), (10, .ref 136), (250, .ref 137), (245, .ref 139), (249, .ref 143), (257, .ref 147), (139, .ref 149), (256, .ref 155), (255, .ref 156), (254, .ref 157), (258, .tup [.int g0, .int g1, .int g2]), (223, .ref 158)]
noncomputable def H2 (b g0 g1 g2 : Int) (oldL : List (V × V)) : AH := [.inst 12 [(10, .ref 1), (8, .ref 2), (7, .ref 3), (6, .ref 4)],
  .lst [.tup [.int 1, .int 0], .tup [.int 1, .int 1], .tup [.int 1, .int 2], .tup [.int 1, .int 3], .tup [.int 1, .int 4], .tup [.int 1, .int 5], .tup [.int 1, .int 6], .tup [.int 1, .int 7], .tup [.int 1, .int 8], .tup [.int 1, .int 9], .tup [.int 1, .int 10], .tup [.int 1, .int 11], .tup [.int 1, .int 12], .tup [.int 1, .int 13], .tup [.int 1, .int 14], .tup [.int 1, .int 15], .tup [.int 3, .int 64, .tup []], .tup [.int 3, .int 65, .tup []], .tup [.int 3, .int 66, .tup []], .tup [.int 2, .int 67, .tup []], .tup [.int 4, .int 16]],
  .dct [(.tup [.int 1, .int 0], .int 0), (.tup [.int 1, .int 1], .int 1), (.tup [.int 1, .int 2], .int 2), (.tup [.int 1, .int 3], .int 3), (.tup [.int 1, .int 4], .int 4), (.tup [.int 1, .int 5], .int 5), (.tup [.int 1, .int 6], .int 6), (.tup [.int 1, .int 7], .int 7), (.tup [.int 1, .int 8], .int 8), (.tup [.int 1, .int 9], .int 9), (.tup [.int 1, .int 10], .int 10), (.tup [.int 1, .int 11], .int 11), (.tup [.int 1, .int 12], .int 12), (.tup [.int 1, .int 13], .int 13), (.tup [.int 1, .int 14], .int 14), (.tup [.int 1, .int 15], .int 15), (.tup [.int 3, .int 64, .tup []], .int 16), (.tup [.int 3, .int 65, .tup []], .int 17), (.tup [.int 3, .int 66, .tup []], .int 18), (.tup [.int 2, .int 67, .tup []], .int 19), (.tup [.int 4, .int 16], .int 20)],
  .lst [.int 1, .int 1, .int 1, .int 1, .int 1, .int 1, .int 1, .int 1, .int 1, .int 1, .int 1, .int 1, .int 1, .int 1, .int 1, .int 1, .int 1, .int 1, .int 1, .int 1, .int 2],
  .lst [.int 0, .int 0, .int 0, .int 0, .int 0, .int 0, .int 0, .int 0, .int 0, .int 0, .int 0, .int 0, .int 0, .int 0, .int 0, .int 0, .int 0, .int 0, .int 0, .int 0, .int 0],
  .dct [(.int 16, .tup [.int 4, .int 12, .int 5]), (.int 17, .tup [.int 9, .int 16]), (.int 18, .tup [.int 17, .int 3, .int 16, .int 11])],
  .lst [.int 39],
  .lst [.int 7, .tup [.int 1, .int 1]],
  .lst [.int 9, .tup [.int 2, .int 2]],
  .lst [.int 4, .tup [.int 1, .int 3]],
  .lst [.int 12, .tup [.int 4, .int 25]],
  .lst [.int 5, .tup [.int 1, .int 4]],
  .lst [.ref 9, .ref 10, .ref 11],
  .lst [.int 16, .ref 12],
  .lst [.ref 8, .ref 13],
  .lst [.int 17, .ref 14],
  .lst [.ref 7, .ref 15],
  .lst [.int 4, .tup [.int 1, .int 5]],
  .lst [.int 12, .tup [.int 4, .int 16]],
  .lst [.int 5, .tup [.int 1, .int 6]],
  .lst [.ref 17, .ref 18, .ref 19],
  .lst [.int 16, .ref 20],
  .lst [.int 1, .tup [.int 1, .int 7]],
  .lst [.int 9, .tup [.int 2, .int 8]],
  .lst [.int 4, .tup [.int 1, .int 9]],
  .lst [.int 12, .tup [.int 4, .int 16]],
  .lst [.int 5, .tup [.int 1, .int 10]],
  .lst [.ref 24, .ref 25, .ref 26],
  .lst [.int 16, .ref 27],
  .lst [.ref 23, .ref 28],
  .lst [.int 17, .ref 29],
  .lst [.int 3, .tup [.int 1, .int 11]],
  .lst [.int 4, .tup [.int 1, .int 12]],
  .lst [.int 12, .tup [.int 4, .int 0]],
  .lst [.int 5, .tup [.int 1, .int 13]],
  .lst [.ref 32, .ref 33, .ref 34],
  .lst [.int 16, .ref 35],
  .lst [.int 11, .tup [.int 3, .int 14]],
  .lst [.ref 30, .ref 31, .ref 36, .ref 37],
  .lst [.int 18, .ref 38],
  .lst [.ref 21, .ref 22, .ref 39],
  .lst [.int 9, .tup [.int 2, .int 15]],
  .lst [.int 4, .tup [.int 1, .int 16]],
  .lst [.int 12, .tup [.int 4, .int 0]],
  .lst [.int 5, .tup [.int 1, .int 17]],
  .lst [.ref 42, .ref 43, .ref 44],
  .lst [.int 16, .ref 45],
  .lst [.ref 41, .ref 46],
  .lst [.int 17, .ref 47],
  .lst [.ref 48],
  .lst [.int 12, .tup [.int 4, .int 16]],
  .lst [.ref 50],
  .lst [.int 8, .tup [.int 1, .int 18]],
  .lst [.int 4, .tup [.int 1, .int 19]],
  .lst [.int 12, .tup [.int 4, .int 25]],
  .lst [.int 5, .tup [.int 1, .int 20]],
  .lst [.ref 53, .ref 54, .ref 55],
  .lst [.int 16, .ref 56],
  .lst [.ref 52, .ref 57],
  .lst [.int 10, .tup [.int 2, .int 21]],
  .lst [.int 4, .tup [.int 1, .int 22]],
  .lst [.int 12, .tup [.int 4, .int 21]],
  .lst [.int 5, .tup [.int 1, .int 23]],
  .lst [.ref 60, .ref 61, .ref 62],
  .lst [.int 16, .ref 63],
  .lst [.int 6, .tup [.int 1, .int 24]],
  .lst [.ref 59, .ref 64, .ref 65],
  .lst [.int 2, .tup [.int 1, .int 25]],
  .lst [.int 9, .tup [.int 2, .int 26]],
  .lst [.int 4, .tup [.int 1, .int 27]],
  .lst [.int 12, .tup [.int 4, .int 25]],
  .lst [.int 5, .tup [.int 1, .int 28]],
  .lst [.ref 69, .ref 70, .ref 71],
  .lst [.int 16, .ref 72],
  .lst [.ref 68, .ref 73],
  .lst [.int 17, .ref 74],
  .lst [.int 12, .tup [.int 4, .int 0]],
  .lst [.ref 67, .ref 75, .ref 76],
  .lst [.int 4, .tup [.int 1, .int 29]],
  .lst [.int 12, .tup [.int 4, .int 16]],
  .lst [.int 5, .tup [.int 1, .int 30]],
  .lst [.ref 78, .ref 79, .ref 80],
  .lst [.int 16, .ref 81],
  .lst [.int 4, .tup [.int 1, .int 31]],
  .lst [.int 12, .tup [.int 4, .int 25]],
  .lst [.int 5, .tup [.int 1, .int 32]],
  .lst [.ref 83, .ref 84, .ref 85],
  .lst [.int 16, .ref 86],
  .lst [.ref 82, .ref 87],
  .lst [.int 9, .tup [.int 2, .int 33]],
  .lst [.int 4, .tup [.int 1, .int 34]],
  .lst [.int 12, .tup [.int 4, .int 21]],
  .lst [.int 5, .tup [.int 1, .int 35]],
  .lst [.ref 90, .ref 91, .ref 92],
  .lst [.int 16, .ref 93],
  .lst [.ref 89, .ref 94],
  .lst [.int 17, .ref 95],
  .lst [.int 3, .tup [.int 1, .int 36]],
  .lst [.int 4, .tup [.int 1, .int 37]],
  .lst [.int 12, .tup [.int 4, .int 16]],
  .lst [.int 5, .tup [.int 1, .int 38]],
  .lst [.ref 98, .ref 99, .ref 100],
  .lst [.int 16, .ref 101],
  .lst [.int 11, .tup [.int 3, .int 39]],
  .lst [.ref 96, .ref 97, .ref 102, .ref 103],
  .lst [.int 18, .ref 104],
  .lst [.ref 105],
  .lst [.ref 16, .ref 40, .ref 49, .ref 51, .ref 58, .ref 66, .ref 77, .ref 88, .ref 106],
  .lst [.tup [.int 1, .int 3], .tup [.int 4, .int 25], .tup [.int 1, .int 4]],
  .lst [.tup [.int 2, .int 2], .tup [.int 5, .int 16, .tup [.tup [.int 1, .int 3], .tup [.int 4, .int 25], .tup [.int 1, .int 4]]]],
  .lst [.tup [.int 1, .int 1], .tup [.int 5, .int 17, .tup [.tup [.int 2, .int 2], .tup [.int 5, .int 16, .tup [.tup [.int 1, .int 3], .tup [.int 4, .int 25], .tup [.int 1, .int 4]]]]]],
  .lst [.tup [.int 1, .int 5], .tup [.int 4, .int 16], .tup [.int 1, .int 6]],
  .lst [.tup [.int 1, .int 9], .tup [.int 4, .int 16], .tup [.int 1, .int 10]],
  .lst [.tup [.int 2, .int 8], .tup [.int 5, .int 16, .tup [.tup [.int 1, .int 9], .tup [.int 4, .int 16], .tup [.int 1, .int 10]]]],
  .lst [.tup [.int 1, .int 12], .tup [.int 4, .int 0], .tup [.int 1, .int 13]],
  .lst [.tup [.int 5, .int 17, .tup [.tup [.int 2, .int 8], .tup [.int 5, .int 16, .tup [.tup [.int 1, .int 9], .tup [.int 4, .int 16], .tup [.int 1, .int 10]]]]], .tup [.int 1, .int 11], .tup [.int 5, .int 16, .tup [.tup [.int 1, .int 12], .tup [.int 4, .int 0], .tup [.int 1, .int 13]]], .tup [.int 3, .int 14]],
  .lst [.tup [.int 5, .int 16, .tup [.tup [.int 1, .int 5], .tup [.int 4, .int 16], .tup [.int 1, .int 6]]], .tup [.int 1, .int 7], .tup [.int 5, .int 18, .tup [.tup [.int 5, .int 17, .tup [.tup [.int 2, .int 8], .tup [.int 5, .int 16, .tup [.tup [.int 1, .int 9], .tup [.int 4, .int 16], .tup [.int 1, .int 10]]]]], .tup [.int 1, .int 11], .tup [.int 5, .int 16, .tup [.tup [.int 1, .int 12], .tup [.int 4, .int 0], .tup [.int 1, .int 13]]], .tup [.int 3, .int 14]]]],
  .lst [.tup [.int 1, .int 16], .tup [.int 4, .int 0], .tup [.int 1, .int 17]],
  .lst [.tup [.int 2, .int 15], .tup [.int 5, .int 16, .tup [.tup [.int 1, .int 16], .tup [.int 4, .int 0], .tup [.int 1, .int 17]]]],
  .lst [.tup [.int 5, .int 17, .tup [.tup [.int 2, .int 15], .tup [.int 5, .int 16, .tup [.tup [.int 1, .int 16], .tup [.int 4, .int 0], .tup [.int 1, .int 17]]]]]],
  .lst [.tup [.int 4, .int 16]],
  .lst [.tup [.int 1, .int 19], .tup [.int 4, .int 25], .tup [.int 1, .int 20]],
  .lst [.tup [.int 1, .int 18], .tup [.int 5, .int 16, .tup [.tup [.int 1, .int 19], .tup [.int 4, .int 25], .tup [.int 1, .int 20]]]],
  .lst [.tup [.int 1, .int 22], .tup [.int 4, .int 21], .tup [.int 1, .int 23]],
  .lst [.tup [.int 2, .int 21], .tup [.int 5, .int 16, .tup [.tup [.int 1, .int 22], .tup [.int 4, .int 21], .tup [.int 1, .int 23]]], .tup [.int 1, .int 24]],
  .lst [.tup [.int 1, .int 27], .tup [.int 4, .int 25], .tup [.int 1, .int 28]],
  .lst [.tup [.int 2, .int 26], .tup [.int 5, .int 16, .tup [.tup [.int 1, .int 27], .tup [.int 4, .int 25], .tup [.int 1, .int 28]]]],
  .lst [.tup [.int 1, .int 25], .tup [.int 5, .int 17, .tup [.tup [.int 2, .int 26], .tup [.int 5, .int 16, .tup [.tup [.int 1, .int 27], .tup [.int 4, .int 25], .tup [.int 1, .int 28]]]]], .tup [.int 4, .int 0]],
  .lst [.tup [.int 1, .int 29], .tup [.int 4, .int 16], .tup [.int 1, .int 30]],
  .lst [.tup [.int 1, .int 31], .tup [.int 4, .int 25], .tup [.int 1, .int 32]],
  .lst [.tup [.int 5, .int 16, .tup [.tup [.int 1, .int 29], .tup [.int 4, .int 16], .tup [.int 1, .int 30]]], .tup [.int 5, .int 16, .tup [.tup [.int 1, .int 31], .tup [.int 4, .int 25], .tup [.int 1, .int 32]]]],
  .lst [.tup [.int 1, .int 34], .tup [.int 4, .int 21], .tup [.int 1, .int 35]],
  .lst [.tup [.int 2, .int 33], .tup [.int 5, .int 16, .tup [.tup [.int 1, .int 34], .tup [.int 4, .int 21], .tup [.int 1, .int 35]]]],
  .lst [.tup [.int 1, .int 37], .tup [.int 4, .int 16], .tup [.int 1, .int 38]],
  .lst [.tup [.int 5, .int 17, .tup [.tup [.int 2, .int 33], .tup [.int 5, .int 16, .tup [.tup [.int 1, .int 34], .tup [.int 4, .int 21], .tup [.int 1, .int 35]]]]], .tup [.int 1, .int 36], .tup [.int 5, .int 16, .tup [.tup [.int 1, .int 37], .tup [.int 4, .int 16], .tup [.int 1, .int 38]]], .tup [.int 3, .int 39]],
  .lst [.tup [.int 5, .int 18, .tup [.tup [.int 5, .int 17, .tup [.tup [.int 2, .int 33], .tup [.int 5, .int 16, .tup [.tup [.int 1, .int 34], .tup [.int 4, .int 21], .tup [.int 1, .int 35]]]]], .tup [.int 1, .int 36], .tup [.int 5, .int 16, .tup [.tup [.int 1, .int 37], .tup [.int 4, .int 16], .tup [.int 1, .int 38]]], .tup [.int 3, .int 39]]]],
  .lst [.ref 110, .ref 116, .ref 119, .ref 120, .ref 122, .ref 124, .ref 127, .ref 130, .ref 135],
  .inst 162 [(2, .int 7), (161, .int 7), (47, .ref 110), (159, .ref 116), (160, .ref 119)],
  .lst [],
  .inst 162 [(2, .int 9), (161, .int 9), (47, .ref 120), (159, .ref 122), (160, .ref 140)],
  .lst [],
  .lst [],
  .lst [],
  .inst 162 [(2, .int 12), (161, .int 7), (47, .ref 141), (159, .ref 142), (160, .ref 144)],
  .lst [],
  .lst [.tup [.int 1, .int 0]],
  .lst [.tup [.int 1, .int 0]],
  .inst 162 [(2, .int 99), (161, .int 99), (47, .ref 145), (159, .ref 146), (160, .ref 148)],
  .lst [],
  .inst 137 [(136, .ref 150), (135, .ref 151), (110, .int 28), (125, .int 400), (133, .ref 152), (126, .int b), (132, .int 12), (131, .int 101), (130, .ref 153), (129, .ref 154), (128, .int 0), (127, .int 3)],
  .lst [.ref 155, .ref 156, .ref 157],
  .dct [(.int 16, .ref 155), (.int 21, .ref 156), (.int 25, .ref 157)],
  .dct [],
  .lst [],
  .lst [],
  .inst 123 [(117, .int 16), (118, .int 19), (119, .ref 127), (122, .int g0), (121, .int 5), (120, .int 1)],
  .inst 123 [(117, .int 21), (118, .int 20), (119, .ref 130), (122, .int g1), (121, .int 4), (120, .int 2)],
  .inst 123 [(117, .int 25), (118, .int 18), (119, .ref 135), (122, .int g2), (121, .int 3), (120, .int 3)],
  .dct oldL]
noncomputable def HW (b g0 g1 g2 : Int) (oldL : List (V × V)) : AH := [.inst 12 [(10, .ref 1), (8, .ref 2), (7, .ref 3), (6, .ref 4)],
  .lst [.tup [.int 1, .int 0], .tup [.int 1, .int 1], .tup [.int 1, .int 2], .tup [.int 1, .int 3], .tup [.int 1, .int 4], .tup [.int 1, .int 5], .tup [.int 1, .int 6], .tup [.int 1, .int 7], .tup [.int 1, .int 8], .tup [.int 1, .int 9], .tup [.int 1, .int 10], .tup [.int 1, .int 11], .tup [.int 1, .int 12], .tup [.int 1, .int 13], .tup [.int 1, .int 14], .tup [.int 1, .int 15], .tup [.int 3, .int 64, .tup []], .tup [.int 3, .int 65, .tup []], .tup [.int 3, .int 66, .tup []], .tup [.int 2, .int 67, .tup []], .tup [.int 4, .int 16], .tup [.int 4, .int 7], .tup [.int 8, .int 16], .tup [.int 5, .int 7], .tup [.int 9, .int 16], .tup [.int 10, .int 19, .int 1, .tup []], .tup [.int 6, .int 0]],
  .dct [(.tup [.int 1, .int 0], .int 0), (.tup [.int 1, .int 1], .int 1), (.tup [.int 1, .int 2], .int 2), (.tup [.int 1, .int 3], .int 3), (.tup [.int 1, .int 4], .int 4), (.tup [.int 1, .int 5], .int 5), (.tup [.int 1, .int 6], .int 6), (.tup [.int 1, .int 7], .int 7), (.tup [.int 1, .int 8], .int 8), (.tup [.int 1, .int 9], .int 9), (.tup [.int 1, .int 10], .int 10), (.tup [.int 1, .int 11], .int 11), (.tup [.int 1, .int 12], .int 12), (.tup [.int 1, .int 13], .int 13), (.tup [.int 1, .int 14], .int 14), (.tup [.int 1, .int 15], .int 15), (.tup [.int 3, .int 64, .tup []], .int 16), (.tup [.int 3, .int 65, .tup []], .int 17), (.tup [.int 3, .int 66, .tup []], .int 18), (.tup [.int 2, .int 67, .tup []], .int 19), (.tup [.int 4, .int 16], .int 20), (.tup [.int 4, .int 7], .int 21), (.tup [.int 8, .int 16], .int 22), (.tup [.int 5, .int 7], .int 23), (.tup [.int 9, .int 16], .int 24), (.tup [.int 10, .int 19, .int 1, .tup []], .int 25), (.tup [.int 6, .int 0], .int 26)],
  .lst [.int 1, .int 1, .int 1, .int 1, .int 1, .int 1, .int 1, .int 1, .int 1, .int 1, .int 1, .int 1, .int 1, .int 1, .int 1, .int 1, .int 1, .int 1, .int 1, .int 1, .int 2, .int 2, .int 1, .int 1, .int 1, .int 1, .int 1],
  .lst [.int 0, .int 0, .int 0, .int 0, .int 0, .int 0, .int 0, .int 0, .int 0, .int 0, .int 0, .int 0, .int 0, .int 0, .int 0, .int 0, .int 0, .int 0, .int 0, .int 0, .int 0, .int 0, .int 0, .int 0, .int 0, .int 0, .int 1],
  .dct [(.int 16, .tup [.int 4, .int 12, .int 5]), (.int 17, .tup [.int 9, .int 16]), (.int 18, .tup [.int 17, .int 3, .int 16, .int 11])],
  .lst [.int 39],
  .lst [.int 7, .tup [.int 1, .int 1]],
  .lst [.int 9, .tup [.int 2, .int 2]],
  .lst [.int 4, .tup [.int 1, .int 3]],
  .lst [.int 12, .tup [.int 4, .int 25]],
  .lst [.int 5, .tup [.int 1, .int 4]],
  .lst [.ref 9, .ref 10, .ref 11],
  .lst [.int 16, .ref 12],
  .lst [.ref 8, .ref 13],
  .lst [.int 17, .ref 14],
  .lst [.ref 7, .ref 15],
  .lst [.int 4, .tup [.int 1, .int 5]],
  .lst [.int 12, .tup [.int 4, .int 16]],
  .lst [.int 5, .tup [.int 1, .int 6]],
  .lst [.ref 17, .ref 18, .ref 19],
  .lst [.int 16, .ref 20],
  .lst [.int 1, .tup [.int 1, .int 7]],
  .lst [.int 9, .tup [.int 2, .int 8]],
  .lst [.int 4, .tup [.int 1, .int 9]],
  .lst [.int 12, .tup [.int 4, .int 16]],
  .lst [.int 5, .tup [.int 1, .int 10]],
  .lst [.ref 24, .ref 25, .ref 26],
  .lst [.int 16, .ref 27],
  .lst [.ref 23, .ref 28],
  .lst [.int 17, .ref 29],
  .lst [.int 3, .tup [.int 1, .int 11]],
  .lst [.int 4, .tup [.int 1, .int 12]],
  .lst [.int 12, .tup [.int 4, .int 0]],
  .lst [.int 5, .tup [.int 1, .int 13]],
  .lst [.ref 32, .ref 33, .ref 34],
  .lst [.int 16, .ref 35],
  .lst [.int 11, .tup [.int 3, .int 14]],
  .lst [.ref 30, .ref 31, .ref 36, .ref 37],
  .lst [.int 18, .ref 38],
  .lst [.ref 21, .ref 22, .ref 39],
  .lst [.int 9, .tup [.int 2, .int 15]],
  .lst [.int 4, .tup [.int 1, .int 16]],
  .lst [.int 12, .tup [.int 4, .int 0]],
  .lst [.int 5, .tup [.int 1, .int 17]],
  .lst [.ref 42, .ref 43, .ref 44],
  .lst [.int 16, .ref 45],
  .lst [.ref 41, .ref 46],
  .lst [.int 17, .ref 47],
  .lst [.ref 48],
  .lst [.int 12, .tup [.int 4, .int 16]],
  .lst [.ref 50],
  .lst [.int 8, .tup [.int 1, .int 18]],
  .lst [.int 4, .tup [.int 1, .int 19]],
  .lst [.int 12, .tup [.int 4, .int 25]],
  .lst [.int 5, .tup [.int 1, .int 20]],
  .lst [.ref 53, .ref 54, .ref 55],
  .lst [.int 16, .ref 56],
  .lst [.ref 52, .ref 57],
  .lst [.int 10, .tup [.int 2, .int 21]],
  .lst [.int 4, .tup [.int 1, .int 22]],
  .lst [.int 12, .tup [.int 4, .int 21]],
  .lst [.int 5, .tup [.int 1, .int 23]],
  .lst [.ref 60, .ref 61, .ref 62],
  .lst [.int 16, .ref 63],
  .lst [.int 6, .tup [.int 1, .int 24]],
  .lst [.ref 59, .ref 64, .ref 65],
  .lst [.int 2, .tup [.int 1, .int 25]],
  .lst [.int 9, .tup [.int 2, .int 26]],
  .lst [.int 4, .tup [.int 1, .int 27]],
  .lst [.int 12, .tup [.int 4, .int 25]],
  .lst [.int 5, .tup [.int 1, .int 28]],
  .lst [.ref 69, .ref 70, .ref 71],
  .lst [.int 16, .ref 72],
  .lst [.ref 68, .ref 73],
  .lst [.int 17, .ref 74],
  .lst [.int 12, .tup [.int 4, .int 0]],
  .lst [.ref 67, .ref 75, .ref 76],
  .lst [.int 4, .tup [.int 1, .int 29]],
  .lst [.int 12, .tup [.int 4, .int 16]],
  .lst [.int 5, .tup [.int 1, .int 30]],
  .lst [.ref 78, .ref 79, .ref 80],
  .lst [.int 16, .ref 81],
  .lst [.int 4, .tup [.int 1, .int 31]],
  .lst [.int 12, .tup [.int 4, .int 25]],
  .lst [.int 5, .tup [.int 1, .int 32]],
  .lst [.ref 83, .ref 84, .ref 85],
  .lst [.int 16, .ref 86],
  .lst [.ref 82, .ref 87],
  .lst [.int 9, .tup [.int 2, .int 33]],
  .lst [.int 4, .tup [.int 1, .int 34]],
  .lst [.int 12, .tup [.int 4, .int 21]],
  .lst [.int 5, .tup [.int 1, .int 35]],
  .lst [.ref 90, .ref 91, .ref 92],
  .lst [.int 16, .ref 93],
  .lst [.ref 89, .ref 94],
  .lst [.int 17, .ref 95],
  .lst [.int 3, .tup [.int 1, .int 36]],
  .lst [.int 4, .tup [.int 1, .int 37]],
  .lst [.int 12, .tup [.int 4, .int 16]],
  .lst [.int 5, .tup [.int 1, .int 38]],
  .lst [.ref 98, .ref 99, .ref 100],
  .lst [.int 16, .ref 101],
  .lst [.int 11, .tup [.int 3, .int 39]],
  .lst [.ref 96, .ref 97, .ref 102, .ref 103],
  .lst [.int 18, .ref 104],
  .lst [.ref 105],
  .lst [.ref 16, .ref 40, .ref 49, .ref 51, .ref 58, .ref 66, .ref 77, .ref 88, .ref 106],
  .lst [.tup [.int 1, .int 3], .tup [.int 4, .int 25], .tup [.int 1, .int 4]],
  .lst [.tup [.int 2, .int 2], .tup [.int 5, .int 16, .tup [.tup [.int 1, .int 3], .tup [.int 4, .int 25], .tup [.int 1, .int 4]]]],
  .lst [.tup [.int 1, .int 1], .tup [.int 5, .int 17, .tup [.tup [.int 2, .int 2], .tup [.int 5, .int 16, .tup [.tup [.int 1, .int 3], .tup [.int 4, .int 25], .tup [.int 1, .int 4]]]]]],
  .lst [.tup [.int 1, .int 5], .tup [.int 4, .int 16], .tup [.int 1, .int 6]],
  .lst [.tup [.int 1, .int 9], .tup [.int 4, .int 16], .tup [.int 1, .int 10]],
  .lst [.tup [.int 2, .int 8], .tup [.int 5, .int 16, .tup [.tup [.int 1, .int 9], .tup [.int 4, .int 16], .tup [.int 1, .int 10]]]],
  .lst [.tup [.int 1, .int 12], .tup [.int 4, .int 0], .tup [.int 1, .int 13]],
  .lst [.tup [.int 5, .int 17, .tup [.tup [.int 2, .int 8], .tup [.int 5, .int 16, .tup [.tup [.int 1, .int 9], .tup [.int 4, .int 16], .tup [.int 1, .int 10]]]]], .tup [.int 1, .int 11], .tup [.int 5, .int 16, .tup [.tup [.int 1, .int 12], .tup [.int 4, .int 0], .tup [.int 1, .int 13]]], .tup [.int 3, .int 14]],
  .lst [.tup [.int 5, .int 16, .tup [.tup [.int 1, .int 5], .tup [.int 4, .int 16], .tup [.int 1, .int 6]]], .tup [.int 1, .int 7], .tup [.int 5, .int 18, .tup [.tup [.int 5, .int 17, .tup [.tup [.int 2, .int 8], .tup [.int 5, .int 16, .tup [.tup [.int 1, .int 9], .tup [.int 4, .int 16], .tup [.int 1, .int 10]]]]], .tup [.int 1, .int 11], .tup [.int 5, .int 16, .tup [.tup [.int 1, .int 12], .tup [.int 4, .int 0], .tup [.int 1, .int 13]]], .tup [.int 3, .int 14]]]],
  .lst [.tup [.int 1, .int 16], .tup [.int 4, .int 0], .tup [.int 1, .int 17]],
  .lst [.tup [.int 2, .int 15], .tup [.int 5, .int 16, .tup [.tup [.int 1, .int 16], .tup [.int 4, .int 0], .tup [.int 1, .int 17]]]],
  .lst [.tup [.int 5, .int 17, .tup [.tup [.int 2, .int 15], .tup [.int 5, .int 16, .tup [.tup [.int 1, .int 16], .tup [.int 4, .int 0], .tup [.int 1, .int 17]]]]]],
  .lst [.tup [.int 4, .int 16]],
  .lst [.tup [.int 1, .int 19], .tup [.int 4, .int 25], .tup [.int 1, .int 20]],
  .lst [.tup [.int 1, .int 18], .tup [.int 5, .int 16, .tup [.tup [.int 1, .int 19], .tup [.int 4, .int 25], .tup [.int 1, .int 20]]]],
  .lst [.tup [.int 1, .int 22], .tup [.int 4, .int 21], .tup [.int 1, .int 23]],
  .lst [.tup [.int 2, .int 21], .tup [.int 5, .int 16, .tup [.tup [.int 1, .int 22], .tup [.int 4, .int 21], .tup [.int 1, .int 23]]], .tup [.int 1, .int 24]],
  .lst [.tup [.int 1, .int 27], .tup [.int 4, .int 25], .tup [.int 1, .int 28]],
  .lst [.tup [.int 2, .int 26], .tup [.int 5, .int 16, .tup [.tup [.int 1, .int 27], .tup [.int 4, .int 25], .tup [.int 1, .int 28]]]],
  .lst [.tup [.int 1, .int 25], .tup [.int 5, .int 17, .tup [.tup [.int 2, .int 26], .tup [.int 5, .int 16, .tup [.tup [.int 1, .int 27], .tup [.int 4, .int 25], .tup [.int 1, .int 28]]]]], .tup [.int 4, .int 0]],
  .lst [.tup [.int 1, .int 29], .tup [.int 4, .int 16], .tup [.int 1, .int 30]],
  .lst [.tup [.int 1, .int 31], .tup [.int 4, .int 25], .tup [.int 1, .int 32]],
  .lst [.tup [.int 5, .int 16, .tup [.tup [.int 1, .int 29], .tup [.int 4, .int 16], .tup [.int 1, .int 30]]], .tup [.int 5, .int 16, .tup [.tup [.int 1, .int 31], .tup [.int 4, .int 25], .tup [.int 1, .int 32]]]],
  .lst [.tup [.int 1, .int 34], .tup [.int 4, .int 21], .tup [.int 1, .int 35]],
  .lst [.tup [.int 2, .int 33], .tup [.int 5, .int 16, .tup [.tup [.int 1, .int 34], .tup [.int 4, .int 21], .tup [.int 1, .int 35]]]],
  .lst [.tup [.int 1, .int 37], .tup [.int 4, .int 16], .tup [.int 1, .int 38]],
  .lst [.tup [.int 5, .int 17, .tup [.tup [.int 2, .int 33], .tup [.int 5, .int 16, .tup [.tup [.int 1, .int 34], .tup [.int 4, .int 21], .tup [.int 1, .int 35]]]]], .tup [.int 1, .int 36], .tup [.int 5, .int 16, .tup [.tup [.int 1, .int 37], .tup [.int 4, .int 16], .tup [.int 1, .int 38]]], .tup [.int 3, .int 39]],
  .lst [.tup [.int 5, .int 18, .tup [.tup [.int 5, .int 17, .tup [.tup [.int 2, .int 33], .tup [.int 5, .int 16, .tup [.tup [.int 1, .int 34], .tup [.int 4, .int 21], .tup [.int 1, .int 35]]]]], .tup [.int 1, .int 36], .tup [.int 5, .int 16, .tup [.tup [.int 1, .int 37], .tup [.int 4, .int 16], .tup [.int 1, .int 38]]], .tup [.int 3, .int 39]]]],
  .lst [.ref 110, .ref 116, .ref 119, .ref 120, .ref 122, .ref 124, .ref 127, .ref 130, .ref 135],
  .inst 162 [(2, .int 7), (161, .int 7), (47, .ref 110), (159, .ref 116), (160, .ref 119)],
  .lst [],
  .inst 162 [(2, .int 9), (161, .int 9), (47, .ref 120), (159, .ref 122), (160, .ref 140)],
  .lst [],
  .lst [],
  .lst [],
  .inst 162 [(2, .int 12), (161, .int 7), (47, .ref 141), (159, .ref 142), (160, .ref 144)],
  .lst [],
  .lst [.tup [.int 1, .int 0]],
  .lst [.tup [.int 1, .int 0]],
  .inst 162 [(2, .int 99), (161, .int 99), (47, .ref 145), (159, .ref 146), (160, .ref 148)],
  .lst [],
  .inst 137 [(136, .ref 150), (135, .ref 151), (110, .int 28), (125, .int 400), (133, .ref 152), (126, .int b), (132, .int 12), (131, .int 101), (130, .ref 153), (129, .ref 154), (128, .int 0), (127, .int 3)],
  .lst [.ref 155, .ref 156, .ref 157],
  .dct [(.int 16, .ref 155), (.int 21, .ref 156), (.int 25, .ref 157)],
  .dct [],
  .lst [],
  .lst [],
  .inst 123 [(117, .int 16), (118, .int 19), (119, .ref 127), (122, .int g0), (121, .int 5), (120, .int 1)],
  .inst 123 [(117, .int 21), (118, .int 20), (119, .ref 130), (122, .int g1), (121, .int 4), (120, .int 2)],
  .inst 123 [(117, .int 25), (118, .int 18), (119, .ref 135), (122, .int g2), (121, .int 3), (120, .int 3)],
  .dct oldL,
  .lst [.tup [.int 2, .int 7, .int 0, .tup []], .tup [.int 2, .int 7, .int 1, .tup []], .tup [.int 1, .int 7, .int 0, .tup []], .tup [.int 1, .int 7, .int 1, .tup []], .tup [.int 1, .int 7, .int 2, .tup []], .tup [.int 1, .int 7, .int (-1), .tup []], .tup [.int 2, .int 9, .int 0, .tup []], .tup [.int 1, .int 9, .int 0, .tup []], .tup [.int 1, .int 9, .int 1, .tup []], .tup [.int 4, .int 19, .int 0, .tup []], .tup [.int 4, .int 19, .int 1, .tup []], .tup [.int 4, .int 19, .int 2, .tup []], .tup [.int 3, .int 18, .tup []], .tup [.int 3, .int 19, .tup []], .tup [.int 3, .int 20, .tup []], .tup [.int 3, .int 23, .tup []], .tup [.int 3, .int 24, .tup []], .tup [.int 3, .int 27, .tup []]],
  .lst [.tup [.int 1, .int 7, .int 3, .tup []], .tup [.int 1, .int 7, .int (-2), .tup []], .tup [.int 2, .int 7, .int (-1), .tup []], .tup [.int 2, .int 7, .int 2, .tup []], .tup [.int 1, .int 9, .int (-1), .tup []], .tup [.int 1, .int 99, .int 0, .tup []], .tup [.int 2, .int 99, .int 0, .tup []], .tup [.int 4, .int 13, .int 0, .tup []], .tup [.int 4, .int 19, .int 3, .tup []], .tup [.int 4, .int 19, .int (-1), .tup []], .tup [.int 3, .int 21, .tup []], .tup [.int 3, .int 17, .tup []], .tup [.int 3, .int 16, .tup []], .tup [.int 3, .int 15, .tup []], .tup [.int 3, .int 25, .tup []], .tup [.int 3, .int 22, .tup []], .tup [.int 3, .int 28, .tup []], .tup [.int 3, .int 5002, .tup []]],
  .lst [],
  .lst [.ref 7, .ref 15],
  .lst [.ref 7, .ref 15, .ref 21, .ref 22, .ref 39],
  .lst [.ref 7, .ref 15, .ref 21, .ref 22, .ref 39, .ref 48],
  .lst [.ref 7, .ref 15, .ref 21, .ref 22, .ref 39, .ref 48, .ref 50],
  .lst [.ref 7, .ref 15, .ref 21, .ref 22, .ref 39, .ref 48, .ref 50, .ref 52, .ref 57],
  .lst [.ref 7, .ref 15, .ref 21, .ref 22, .ref 39, .ref 48, .ref 50, .ref 52, .ref 57, .ref 59, .ref 64, .ref 65],
  .lst [.ref 7, .ref 15, .ref 21, .ref 22, .ref 39, .ref 48, .ref 50, .ref 52, .ref 57, .ref 59, .ref 64, .ref 65, .ref 67, .ref 75, .ref 76],
  .lst [.ref 7, .ref 15, .ref 21, .ref 22, .ref 39, .ref 48, .ref 50, .ref 52, .ref 57, .ref 59, .ref 64, .ref 65, .ref 67, .ref 75, .ref 76, .ref 82, .ref 87],
  .lst [.ref 7, .ref 15, .ref 21, .ref 22, .ref 39, .ref 48, .ref 50, .ref 52, .ref 57, .ref 59, .ref 64, .ref 65, .ref 67, .ref 75, .ref 76, .ref 82, .ref 87, .ref 105],
  .lst [.tup [.int 0, .tup [.int 2, .int 7, .int 0, .tup []], .ref 7, .int 0], .tup [.int 1, .tup [.int 2, .int 7, .int 1, .tup []], .ref 15, .int 0], .tup [.int 1, .tup [.int 2, .int 7, .int 1, .tup [.int 0]], .ref 8, .int 0], .tup [.int 1, .tup [.int 2, .int 7, .int 1, .tup [.int 1]], .ref 13, .int 1], .tup [.int 1, .tup [.int 2, .int 7, .int 1, .tup [.int 1, .int 0]], .ref 9, .int 1], .tup [.int 1, .tup [.int 2, .int 7, .int 1, .tup [.int 1, .int 1]], .ref 10, .int 2], .tup [.int 1, .tup [.int 2, .int 7, .int 1, .tup [.int 1, .int 2]], .ref 11, .int 3], .tup [.int 2, .tup [.int 1, .int 7, .int 0, .tup []], .ref 21, .int 0], .tup [.int 2, .tup [.int 1, .int 7, .int 0, .tup [.int 0]], .ref 17, .int 0], .tup [.int 2, .tup [.int 1, .int 7, .int 0, .tup [.int 1]], .ref 18, .int 1], .tup [.int 2, .tup [.int 1, .int 7, .int 0, .tup [.int 2]], .ref 19, .int 2], .tup [.int 3, .tup [.int 1, .int 7, .int 1, .tup []], .ref 22, .int 0], .tup [.int 4, .tup [.int 1, .int 7, .int 2, .tup []], .ref 39, .int 0], .tup [.int 4, .tup [.int 1, .int 7, .int 2, .tup [.int 0]], .ref 30, .int 0], .tup [.int 4, .tup [.int 1, .int 7, .int 2, .tup [.int 0, .int 0]], .ref 23, .int 0], .tup [.int 4, .tup [.int 1, .int 7, .int 2, .tup [.int 0, .int 1]], .ref 28, .int 1], .tup [.int 4, .tup [.int 1, .int 7, .int 2, .tup [.int 0, .int 1, .int 0]], .ref 24, .int 1], .tup [.int 4, .tup [.int 1, .int 7, .int 2, .tup [.int 0, .int 1, .int 1]], .ref 25, .int 2], .tup [.int 4, .tup [.int 1, .int 7, .int 2, .tup [.int 0, .int 1, .int 2]], .ref 26, .int 3], .tup [.int 4, .tup [.int 1, .int 7, .int 2, .tup [.int 1]], .ref 31, .int 4], .tup [.int 4, .tup [.int 1, .int 7, .int 2, .tup [.int 2]], .ref 36, .int 5], .tup [.int 4, .tup [.int 1, .int 7, .int 2, .tup [.int 2, .int 0]], .ref 32, .int 5], .tup [.int 4, .tup [.int 1, .int 7, .int 2, .tup [.int 2, .int 1]], .ref 33, .int 6], .tup [.int 4, .tup [.int 1, .int 7, .int 2, .tup [.int 2, .int 2]], .ref 34, .int 7], .tup [.int 4, .tup [.int 1, .int 7, .int 2, .tup [.int 3]], .ref 37, .int 8], .tup [.int 5, .tup [.int 1, .int 7, .int (-1), .tup []], .ref 48, .int 0], .tup [.int 5, .tup [.int 1, .int 7, .int (-1), .tup [.int 0]], .ref 41, .int 0], .tup [.int 5, .tup [.int 1, .int 7, .int (-1), .tup [.int 1]], .ref 46, .int 1], .tup [.int 5, .tup [.int 1, .int 7, .int (-1), .tup [.int 1, .int 0]], .ref 42, .int 1], .tup [.int 5, .tup [.int 1, .int 7, .int (-1), .tup [.int 1, .int 1]], .ref 43, .int 2], .tup [.int 5, .tup [.int 1, .int 7, .int (-1), .tup [.int 1, .int 2]], .ref 44, .int 3], .tup [.int 6, .tup [.int 2, .int 9, .int 0, .tup []], .ref 50, .int 0], .tup [.int 7, .tup [.int 1, .int 9, .int 0, .tup []], .ref 52, .int 0], .tup [.int 8, .tup [.int 1, .int 9, .int 1, .tup []], .ref 57, .int 0], .tup [.int 8, .tup [.int 1, .int 9, .int 1, .tup [.int 0]], .ref 53, .int 0], .tup [.int 8, .tup [.int 1, .int 9, .int 1, .tup [.int 1]], .ref 54, .int 1], .tup [.int 8, .tup [.int 1, .int 9, .int 1, .tup [.int 2]], .ref 55, .int 2], .tup [.int 9, .tup [.int 4, .int 19, .int 0, .tup []], .ref 59, .int 0], .tup [.int 10, .tup [.int 4, .int 19, .int 1, .tup []], .ref 64, .int 0], .tup [.int 10, .tup [.int 4, .int 19, .int 1, .tup [.int 0]], .ref 60, .int 0], .tup [.int 10, .tup [.int 4, .int 19, .int 1, .tup [.int 1]], .ref 61, .int 1], .tup [.int 10, .tup [.int 4, .int 19, .int 1, .tup [.int 2]], .ref 62, .int 2], .tup [.int 11, .tup [.int 4, .int 19, .int 2, .tup []], .ref 65, .int 0], .tup [.int 12, .tup [.int 3, .int 18, .tup []], .ref 67, .int 0], .tup [.int 13, .tup [.int 3, .int 19, .tup []], .ref 75, .int 0], .tup [.int 13, .tup [.int 3, .int 19, .tup [.int 0]], .ref 68, .int 0], .tup [.int 13, .tup [.int 3, .int 19, .tup [.int 1]], .ref 73, .int 1], .tup [.int 13, .tup [.int 3, .int 19, .tup [.int 1, .int 0]], .ref 69, .int 1], .tup [.int 13, .tup [.int 3, .int 19, .tup [.int 1, .int 1]], .ref 70, .int 2], .tup [.int 13, .tup [.int 3, .int 19, .tup [.int 1, .int 2]], .ref 71, .int 3], .tup [.int 14, .tup [.int 3, .int 20, .tup []], .ref 76, .int 0], .tup [.int 15, .tup [.int 3, .int 23, .tup []], .ref 82, .int 0], .tup [.int 15, .tup [.int 3, .int 23, .tup [.int 0]], .ref 78, .int 0], .tup [.int 15, .tup [.int 3, .int 23, .tup [.int 1]], .ref 79, .int 1], .tup [.int 15, .tup [.int 3, .int 23, .tup [.int 2]], .ref 80, .int 2], .tup [.int 16, .tup [.int 3, .int 24, .tup []], .ref 87, .int 0], .tup [.int 16, .tup [.int 3, .int 24, .tup [.int 0]], .ref 83, .int 0], .tup [.int 16, .tup [.int 3, .int 24, .tup [.int 1]], .ref 84, .int 1], .tup [.int 16, .tup [.int 3, .int 24, .tup [.int 2]], .ref 85, .int 2], .tup [.int 17, .tup [.int 3, .int 27, .tup []], .ref 105, .int 0], .tup [.int 17, .tup [.int 3, .int 27, .tup [.int 0]], .ref 96, .int 0], .tup [.int 17, .tup [.int 3, .int 27, .tup [.int 0, .int 0]], .ref 89, .int 0], .tup [.int 17, .tup [.int 3, .int 27, .tup [.int 0, .int 1]], .ref 94, .int 1], .tup [.int 17, .tup [.int 3, .int 27, .tup [.int 0, .int 1, .int 0]], .ref 90, .int 1], .tup [.int 17, .tup [.int 3, .int 27, .tup [.int 0, .int 1, .int 1]], .ref 91, .int 2], .tup [.int 17, .tup [.int 3, .int 27, .tup [.int 0, .int 1, .int 2]], .ref 92, .int 3], .tup [.int 17, .tup [.int 3, .int 27, .tup [.int 1]], .ref 97, .int 4], .tup [.int 17, .tup [.int 3, .int 27, .tup [.int 2]], .ref 102, .int 5], .tup [.int 17, .tup [.int 3, .int 27, .tup [.int 2, .int 0]], .ref 98, .int 5], .tup [.int 17, .tup [.int 3, .int 27, .tup [.int 2, .int 1]], .ref 99, .int 6], .tup [.int 17, .tup [.int 3, .int 27, .tup [.int 2, .int 2]], .ref 100, .int 7], .tup [.int 17, .tup [.int 3, .int 27, .tup [.int 3]], .ref 103, .int 8]],
  .lst [.tup [.ref 110, .ref 16], .tup [.ref 116, .ref 40], .tup [.ref 119, .ref 49], .tup [.ref 120, .ref 51], .tup [.ref 122, .ref 58], .tup [.ref 124, .ref 66], .tup [.ref 127, .ref 77], .tup [.ref 130, .ref 88], .tup [.ref 135, .ref 106]],
  .dct [(.int 7, .ref 137), (.int 9, .ref 139), (.int 12, .ref 143)],
  .dct [(.int 19, .ref 124)],
  .inst 157 [(139, .ref 149), (155, .ref 173), (156, .ref 174)],
  .dct [],
  .lst [.int 0],
  .lst [.int 28],
  .dct [(.str 40, .ref 0), (.str 177, .ref 175), (.str 192, .ref 5), (.str 211, .tup [.int 16, .int 17]), (.str 226, .tup [.tup [.int 4, .tup [.int 13, .int 14, .int 19, .int 21, .int 22]], .tup [.int 6, .tup [.int 23, .int 24]], .tup [.int 7, .tup [.int 25]], .tup [.int 0, .tup [.int 0, .int 15, .int 26]]]), (.str 233, .ref 171), (.str 222, .ref 170), (.str 236, .ref 172), (.str 242, .ref 160), (.str 223, .ref 158), (.str 133, .ref 176), (.str 70, .int b), (.str 219, .ref 177), (.str 110, .ref 178), (.str 245, .ref 139)]]

theorem w1 (head : Int) (Q : Flow → AH → Prop) : wSs (callF 22) (takeS 20 fd_law_world.body) [(244, .int head)] Q [] = Q (.next (rho1 head)) (H1 (head.fmod 4)) := by kernel_rfl
theorem w3 (head g0 g1 g2 : Int) (oldL : List (V × V)) (Q : Flow → AH → Prop) : wSs (callF 22) (dropS 7 (dropS 1 (dropS 20 fd_law_world.body))) (rho2 head g0 g1 g2) Q (H2 (head.fmod 4) g0 g1 g2 oldL) = Q (.ret (.ref 179)) (HW (head.fmod 4) g0 g1 g2 oldL) := by kernel_rfl
noncomputable def oldOf (g0 g1 g2 : Int) : List (V × V) := (if g0 > 0 then [(.int 12, .int 18), (.int 13, .int 19), (.int 14, .int 20)] else []) ++ (if g1 > 0 then [(.int 15, .int 23), (.int 16, .int 24)] else []) ++ (if g2 > 0 then [(.int 17, .int 27)] else [])
noncomputable def W2 (g0 g1 g2 : Int) : Prop := ∀ (head b : Int) (Q : Flow → AH → Prop), wSs (callF 22) (takeS 7 (dropS 1 (dropS 20 fd_law_world.body))) (rho1 head ++ [(258, .tup [.int g0, .int g1, .int g2])]) Q (H1 b) = Q (.next (rho2 head g0 g1 g2)) (H2 b g0 g1 g2 (oldOf g0 g1 g2))
theorem w2_0 : W2 0 0 0 := fun head b Q => by kernel_rfl
theorem w2_1 : W2 1 0 0 := fun head b Q => by kernel_rfl
theorem w2_2 : W2 1 1 0 := fun head b Q => by kernel_rfl
theorem w2_3 : W2 1 1 1 := fun head b Q => by kernel_rfl
theorem w2_4 : W2 2 0 0 := fun head b Q => by kernel_rfl
theorem w2_5 : W2 2 1 0 := fun head b Q => by kernel_rfl
theorem w2_6 : W2 2 2 1 := fun head b Q => by kernel_rfl
theorem w2_7 : W2 2 2 2 := fun head b Q => by kernel_rfl
noncomputable def gensL : List V := [.tup [.int 0, .int 0, .int 0], .tup [.int 1, .int 0, .int 0], .tup [.int 1, .int 1, .int 0], .tup [.int 1, .int 1, .int 1], .tup [.int 2, .int 0, .int 0], .tup [.int 2, .int 1, .int 0], .tup [.int 2, .int 2, .int 1], .tup [.int 2, .int 2, .int 2]]
theorem eight_el {P : Int → Prop} {k : Int} (h0 : 0 ≤ k) (h8 : k < 8) (p0 : P 0) (p1 : P 1) (p2 : P 2) (p3 : P 3) (p4 : P 4) (p5 : P 5) (p6 : P 6) (p7 : P 7) : P k :=
  el_s 0 rfl h0 p0 fun h => el_s 1 rfl h p1 fun h => el_s 2 rfl h p2 fun h => el_s 3 rfl h p3 fun h => el_s 4 rfl h p4 fun h => el_s 5 rfl h p5 fun h => el_s 6 rfl h p6 fun h => Int.le_antisymm (Int.le_of_lt_add_one h8) h ▸ p7
theorem gens_at {k : Int} (h0 : 0 ≤ k) (h8 : k < 8) : ∃ g0 g1 g2, getAt gensL k = some (.tup [.int g0, .int g1, .int g2]) ∧ W2 g0 g1 g2 :=
  eight_el (P := fun k => ∃ g0 g1 g2, getAt gensL k = some (.tup [.int g0, .int g1, .int g2]) ∧ W2 g0 g1 g2) h0 h8 ⟨_, _, _, rfl, w2_0⟩ ⟨_, _, _, rfl, w2_1⟩ ⟨_, _, _, rfl, w2_2⟩ ⟨_, _, _, rfl, w2_3⟩ ⟨_, _, _, rfl, w2_4⟩ ⟨_, _, _, rfl, w2_5⟩ ⟨_, _, _, rfl, w2_6⟩ ⟨_, _, _, rfl, w2_7⟩
theorem split_next {C : Nat → List V → M V} {n : Nat} {b : Ss} {ρ ρ' : Loc} {H H' : AH} {Q : Flow → AH → Prop} (e : ∀ Q : Flow → AH → Prop, wSs C (takeS n b) ρ Q H = Q (.next ρ') H') (h : wSs C (dropS n b) ρ' Q H') : wSs C b ρ Q H := by
  rw [← wSs_split n b, e]; exact h
theorem w_one {C : Nat → List V → M V} {head g0 g1 g2 : Int} {H : AH} {Q : Flow → AH → Prop} (hg : getAt gensL (head / 4 % 8) = some (.tup [.int g0, .int g1, .int g2])) (h : wSs C (dropS 1 (dropS 20 fd_law_world.body)) (rho1 head ++ [(258, .tup [.int g0, .int g1, .int g2])]) Q H) : wSs C (dropS 20 fd_law_world.body) (rho1 head) Q H :=
  u_asg (v := .tup [.int g0, .int g1, .int g2]) (fun K h => u_subt (l := gensL) (fun K h => h) (fun K h => u_mod (fun K h => u_fdiv (x := head) (fun K h => h) (by decide) h) (by decide) h) hg h) h
theorem call_ok {n f : Nat} {fd : FD} {args : List V} {ρ : Loc} {Q : V → AH → Prop} {H : AH} (h : look FT f = some fd) (hz : zipP fd.params args = some ρ) (hw : wSs (callF n) fd.body ρ (kFin Q) H) : wp (callF (n + 1) f args) Q H := (wp_call h hz).mpr hw
/-- the ends of the world's building -/
noncomputable def WorldB (C : Nat → List V → M V) (head : Int) : Prop := ∃ g0 g1 g2, getAt gensL (head / 4 % 8) = some (.tup [.int g0, .int g1, .int g2]) ∧ (∀ Q : Flow → AH → Prop, wSs C (takeS 7 (dropS 1 (dropS 20 fd_law_world.body))) (rho1 head ++ [(258, .tup [.int g0, .int g1, .int g2])]) Q (H1 (head.fmod 4)) = Q (.next (rho2 head g0 g1 g2)) (H2 (head.fmod 4) g0 g1 g2 (oldOf g0 g1 g2))) ∧
      ∀ Q : Flow → AH → Prop, wSs C (dropS 7 (dropS 1 (dropS 20 fd_law_world.body))) (rho2 head g0 g1 g2) Q (H2 (head.fmod 4) g0 g1 g2 (oldOf g0 g1 g2)) = Q (.ret (.ref 179)) (HW (head.fmod 4) g0 g1 g2 (oldOf g0 g1 g2))
noncomputable def WorldA (C : Nat → List V → M V) (head : Int) : Prop := ∀ Q : Flow → AH → Prop, wSs C (takeS 20 fd_law_world.body) [(244, .int head)] Q [] = Q (.next (rho1 head)) (H1 (head.fmod 4))
theorem world_go {C : Nat → List V → M V} {head : Int} {Q : V → AH → Prop} (A : WorldA C head) (B : WorldB C head) (h : ∀ g0 g1 g2, Q (.ref 179) (HW (head.fmod 4) g0 g1 g2 (oldOf g0 g1 g2))) : wSs C fd_law_world.body [(244, .int head)] (kFin Q) [] := by
  obtain ⟨g0, g1, g2, hg, b1, b2⟩ := B
  exact split_next A (w_one hg (split_next b1 ((b2 (kFin Q)).mpr (h g0 g1 g2))))
theorem worldA (head : Int) : WorldA (callF 22) head := w1 head
theorem worldB (head : Int) : WorldB (callF 22) head := by
  obtain ⟨g0, g1, g2, hg, hW⟩ := gens_at (Int.emod_nonneg (head / 4) (by decide)) (Int.emod_lt_of_pos (head / 4) (show (0 : Int) < 8 by decide))
  exact ⟨g0, g1, g2, hg, hW head _, w3 head g0 g1 g2 _⟩
end Mine
end
section
set_option maxRecDepth 100000
namespace Mine
noncomputable def kvLeaf (k : Int) : V → Bool
  | .tup [.int t, .int _] => (decide (k = 12) && decide (t = 4)) || (decide (1 ≤ k) && decide (k ≤ 11) && decide (t = tagI k))
  | _ => false
theorem kvLeaf_ok {k : Int} {v : V} (h : kvLeaf k v = true) : KV k v := by
  unfold kvLeaf at h
  split at h
  · rename_i t n
    simp at h
    rcases h with ⟨rfl, rfl⟩ | ⟨⟨h1, h2⟩, rfl⟩
    · exact .ref n
    · exact .num k n h1 h2
  · cases h
noncomputable def rfsEq : List V → List Tr → Bool
  | [], [] => true
  | .ref a :: l, c :: cs => Nat.beq a c.adr && rfsEq l cs
  | _, _ => false
theorem rfsEq_ok : ∀ {l : List V} {cs : List Tr}, rfsEq l cs = true → l = cs.map Tr.rf
  | [], [], _ => rfl
  | .ref a :: l, c :: cs, h => by
    unfold rfsEq at h
    rw [Bool.and_eq_true] at h
    rw [List.map_cons, ← rfsEq_ok h.2]
    have : a = c.adr := Nat.eq_of_beq_eq_true h.1
    rw [this]; rfl
  | [], _ :: _, h => by cases h
  | .ref _ :: _, [], h => by cases h
  | .none :: _, _, h => by unfold rfsEq at h; cases h
  | .bool _ :: _, _, h => by unfold rfsEq at h; cases h
  | .int _ :: _, _, h => by unfold rfsEq at h; cases h
  | .str _ :: _, _, h => by unfold rfsEq at h; cases h
  | .tup _ :: _, _, h => by unfold rfsEq at h; cases h
  | .flist _ :: _, _, h => by unfold rfsEq at h; cases h
  | .fdct _ :: _, _, h => by unfold rfsEq at h; cases h
  | .rng _ :: _, _, h => by unfold rfsEq at h; cases h
mutual
/-- what a tree of cells shows, and that it is one -/
noncomputable def showT (H : AH) : Tr → Option V
  | .leaf a k => match H[a]? with
    | some (.lst [.int k', v]) => match decide (k' = k) && !isShape k && kvLeaf k v with
      | true => some v
      | false => none
    | _ => none
  | .node lo a b k cs => match H[a]? with
    | some (.lst [.int k', .ref b']) => match H[b]? with
      | some (.lst rs) => match decide (k' = k) && Nat.beq b' b && rfsEq rs cs && isShape k && decide (cs.map Tr.kind = kidsOf k) && decide (lo < b) && decide (b < a) with
        | true => match showTs H lo b cs with
          | some vs => some (.tup [.int 5, .int k, .tup vs])
          | none => none
        | false => none
      | _ => none
    | _ => none
noncomputable def showTs (H : AH) (lo hi : Nat) : List Tr → Option (List V)
  | [] => some []
  | c :: cs => match decide (lo ≤ c.lo) && decide (c.adr < hi) with
    | true => match showT H c, showTs H (c.adr + 1) hi cs with
      | some v, some vs => some (v :: vs)
      | _, _ => none
    | false => none
end
mutual
theorem showT_ok (H : AH) : ∀ (t : Tr) (v : V), showT H t = some v → TV H t v
  | .leaf a k, v, h => by
    unfold showT at h
    split at h
    · rename_i k' w hc
      split at h
      · rename_i hb
        cases h
        simp at hb
        obtain ⟨⟨rfl, h2⟩, h3⟩ := hb
        exact .leaf a k' v hc h2 (kvLeaf_ok h3)
      · cases h
    · cases h
  | .node lo a b k cs, v, h => by
    unfold showT at h
    split at h
    · rename_i k' b' hc
      split at h
      · rename_i rs hr
        split at h
        · rename_i hb
          split at h
          · rename_i vs hvs
            cases h
            simp only [Bool.and_eq_true, decide_eq_true_eq] at hb
            obtain ⟨⟨⟨⟨⟨⟨rfl, h2⟩, h3⟩, h4⟩, h5⟩, h6⟩, h7⟩ := hb
            have e : b' = b := Nat.eq_of_beq_eq_true h2
            subst e
            have e3 := rfsEq_ok h3
            subst e3
            obtain ⟨s1, s2, s3, s4⟩ := showTs_ok H lo b' cs vs hvs
            exact .node lo a b' k' cs vs ⟨hc, hr, h4, h5, s1, h6, h7, s2, s3⟩ s4
          · cases h
        · cases h
      · cases h
    · cases h
theorem showTs_ok (H : AH) : ∀ (lo hi : Nat) (cs : List Tr) (vs : List V), showTs H lo hi cs = some vs → vs.length = cs.length ∧ (∀ (i : Nat) c, cs[i]? = some c → lo ≤ c.lo ∧ c.adr < hi) ∧ (∀ (i j : Nat) c d, i < j → cs[i]? = some c → cs[j]? = some d → c.adr < d.lo) ∧
      (∀ (i : Nat) c v, cs[i]? = some c → vs[i]? = some v → TV H c v)
  | lo, hi, [], vs, h => by
    unfold showTs at h
    cases h
    exact ⟨rfl, fun i c h => by simp at h, fun i j c d _ h => by simp at h, fun i c v h => by simp at h⟩
  | lo, hi, c :: cs, vs, h => by
    unfold showTs at h
    split at h
    · rename_i hb
      split at h
      · rename_i v ws hv hws
        cases h
        simp at hb
        have tv := showT_ok H c v hv
        have hle := tv.lo_le
        obtain ⟨s1, s2, s3, s4⟩ := showTs_ok H (c.adr + 1) hi cs ws hws
        refine ⟨by simp [s1], fun i d hd => ?_, fun i j d e hij hd he => ?_, fun i d x hd hx => ?_⟩
        · cases i with
          | zero => simp at hd; subst hd; exact hb
          | succ i => simp at hd; have := s2 i d hd; omega
        · cases i with
          | zero =>
            simp at hd; subst hd
            cases j with
            | zero => omega
            | succ j => simp at he; have := s2 j e he; omega
          | succ i =>
            cases j with
            | zero => omega
            | succ j => simp at hd he; exact s3 i j d e (by omega) hd he
        · cases i with
          | zero => simp at hd hx; subst hd; subst hx; exact tv
          | succ i => simp at hd hx; exact s4 i d x hd hx
      · cases h
    · cases h
end
/-- that every spot of the tree leads to a tree -/
noncomputable def spotsIn (i : Nat) (pl : Pl) (t : Tr) : List (List Int × Int) → Option (List V)
  | [] => some []
  | (q, l) :: r => match subT t q, spotsIn i pl t r with
    | some t', some vs => some (spotV i pl q t' l :: vs)
    | _, _ => none
theorem spotsIn_ok (i : Nat) (pl : Pl) (t : Tr) : ∀ (F : List (List Int × Int)) (vs : List V), spotsIn i pl t F = some vs → ∀ s ∈ vs, SpIn i pl t F s
  | [], vs, h, s, hs => by unfold spotsIn at h; cases h; cases hs
  | (q, l) :: r, vs, h, s, hs => by
    unfold spotsIn at h
    split at h
    · rename_i t' ws ht hws
      cases h
      rcases List.mem_cons.mp hs with rfl | hs
      · exact ⟨q, l, t', List.mem_cons_self, ht, rfl⟩
      · obtain ⟨q', l', t2, a, b, c⟩ := spotsIn_ok i pl t r ws hws s hs
        exact ⟨q', l', t2, List.mem_cons_of_mem _ a, b, c⟩
    · cases h
noncomputable def allSpots (pl : Nat → Pl) (tr : Nat → Tr) : Nat → Nat → Option (List V)
  | _, 0 => some []
  | i, n + 1 => match spotsIn i (pl i) (tr i) (spK 20 (tr i).kind [] 0), allSpots pl tr (i + 1) n with
    | some a, some b => some (a ++ b)
    | _, _ => none
theorem allSpots_ok (pl : Nat → Pl) (tr : Nat → Tr) : ∀ (n i : Nat) (vs : List V), allSpots pl tr i n = some vs → ∀ s ∈ vs, ∃ j, j < i + n ∧ SpIn j (pl j) (tr j) (spK 20 (tr j).kind [] 0) s
  | 0, i, vs, h, s, hs => by unfold allSpots at h; cases h; cases hs
  | n + 1, i, vs, h, s, hs => by
    unfold allSpots at h
    split at h
    · rename_i a b ha hb
      cases h
      rcases List.mem_append.mp hs with hs | hs
      · exact ⟨i, by omega, spotsIn_ok _ _ _ _ _ ha s hs⟩
      · obtain ⟨j, hj, hsp⟩ := allSpots_ok pl tr n (i + 1) b hb s hs
        exact ⟨j, by omega, hsp⟩
    · cases h
end Mine
end
section
set_option maxRecDepth 100000
namespace Mine
open PySem
noncomputable def pls0 : List Pl := [.slot 2 7 0, .slot 2 7 1, .slot 1 7 0, .slot 1 7 1, .slot 1 7 2, .slot 1 7 (-1), .slot 2 9 0, .slot 1 9 0, .slot 1 9 1, .slot 4 19 0, .slot 4 19 1, .slot 4 19 2, .heap 18, .heap 19, .heap 20, .heap 23, .heap 24, .heap 27]
noncomputable def trs0 : List Tr := [.leaf 7 7,
  .node 8 15 14 17 [.leaf 8 9, .node 9 13 12 16 [.leaf 9 4, .leaf 10 12, .leaf 11 5]],
  .node 17 21 20 16 [.leaf 17 4, .leaf 18 12, .leaf 19 5],
  .leaf 22 1,
  .node 23 39 38 18 [.node 23 30 29 17 [.leaf 23 9, .node 24 28 27 16 [.leaf 24 4, .leaf 25 12, .leaf 26 5]], .leaf 31 3, .node 32 36 35 16 [.leaf 32 4, .leaf 33 12, .leaf 34 5], .leaf 37 11],
  .node 41 48 47 17 [.leaf 41 9, .node 42 46 45 16 [.leaf 42 4, .leaf 43 12, .leaf 44 5]],
  .leaf 50 12,
  .leaf 52 8,
  .node 53 57 56 16 [.leaf 53 4, .leaf 54 12, .leaf 55 5],
  .leaf 59 10,
  .node 60 64 63 16 [.leaf 60 4, .leaf 61 12, .leaf 62 5],
  .leaf 65 6,
  .leaf 67 2,
  .node 68 75 74 17 [.leaf 68 9, .node 69 73 72 16 [.leaf 69 4, .leaf 70 12, .leaf 71 5]],
  .leaf 76 12,
  .node 78 82 81 16 [.leaf 78 4, .leaf 79 12, .leaf 80 5],
  .node 83 87 86 16 [.leaf 83 4, .leaf 84 12, .leaf 85 5],
  .node 89 105 104 18 [.node 89 96 95 17 [.leaf 89 9, .node 90 94 93 16 [.leaf 90 4, .leaf 91 12, .leaf 92 5]], .leaf 97 3, .node 98 102 101 16 [.leaf 98 4, .leaf 99 12, .leaf 100 5], .leaf 103 11]]
noncomputable def vals0 : List V := [(.tup [(.int (1)), (.int (1))]), (.tup [(.int (5)), (.int (17)), (.tup [(.tup [(.int (2)), (.int (2))]), (.tup [(.int (5)), (.int (16)), (.tup [(.tup [(.int (1)), (.int (3))]), (.tup [(.int (4)), (.int (25))]), (.tup [(.int (1)), (.int (4))])])])])]),
  (.tup [(.int (5)), (.int (16)), (.tup [(.tup [(.int (1)), (.int (5))]), (.tup [(.int (4)), (.int (16))]), (.tup [(.int (1)), (.int (6))])])]), (.tup [(.int (1)), (.int (7))]), (.tup [(.int (5)), (.int (18)), (.tup [(.tup [(.int (5)), (.int (17)), (.tup [(.tup [(.int (2)), (.int (8))]), (.tup [(.int (5)), (.int (16)), (.tup [(.tup [(.int (1)), (.int (9))]), (.tup [(.int (4)), (.int (16))]), (.tup [(.int (1)), (.int (10))])])])])]), (.tup [(.int (1)), (.int (11))]), (.tup [(.int (5)), (.int (16)), (.tup [(.tup [(.int (1)), (.int (12))]), (.tup [(.int (4)), (.int (0))]), (.tup [(.int (1)), (.int (13))])])]), (.tup [(.int (3)), (.int (14))])])]),
  (.tup [(.int (5)), (.int (17)), (.tup [(.tup [(.int (2)), (.int (15))]), (.tup [(.int (5)), (.int (16)), (.tup [(.tup [(.int (1)), (.int (16))]), (.tup [(.int (4)), (.int (0))]), (.tup [(.int (1)), (.int (17))])])])])]),
  (.tup [(.int (4)), (.int (16))]),
  (.tup [(.int (1)), (.int (18))]), (.tup [(.int (5)), (.int (16)), (.tup [(.tup [(.int (1)), (.int (19))]), (.tup [(.int (4)), (.int (25))]), (.tup [(.int (1)), (.int (20))])])]),
  (.tup [(.int (2)), (.int (21))]), (.tup [(.int (5)), (.int (16)), (.tup [(.tup [(.int (1)), (.int (22))]), (.tup [(.int (4)), (.int (21))]), (.tup [(.int (1)), (.int (23))])])]), (.tup [(.int (1)), (.int (24))]),
  (.tup [(.int (1)), (.int (25))]), (.tup [(.int (5)), (.int (17)), (.tup [(.tup [(.int (2)), (.int (26))]), (.tup [(.int (5)), (.int (16)), (.tup [(.tup [(.int (1)), (.int (27))]), (.tup [(.int (4)), (.int (25))]), (.tup [(.int (1)), (.int (28))])])])])]), (.tup [(.int (4)), (.int (0))]),
  (.tup [(.int (5)), (.int (16)), (.tup [(.tup [(.int (1)), (.int (29))]), (.tup [(.int (4)), (.int (16))]), (.tup [(.int (1)), (.int (30))])])]), (.tup [(.int (5)), (.int (16)), (.tup [(.tup [(.int (1)), (.int (31))]), (.tup [(.int (4)), (.int (25))]), (.tup [(.int (1)), (.int (32))])])]),
  (.tup [(.int (5)), (.int (18)), (.tup [(.tup [(.int (5)), (.int (17)), (.tup [(.tup [(.int (2)), (.int (33))]), (.tup [(.int (5)), (.int (16)), (.tup [(.tup [(.int (1)), (.int (34))]), (.tup [(.int (4)), (.int (21))]), (.tup [(.int (1)), (.int (35))])])])])]), (.tup [(.int (1)), (.int (36))]), (.tup [(.int (5)), (.int (16)), (.tup [(.tup [(.int (1)), (.int (37))]), (.tup [(.int (4)), (.int (16))]), (.tup [(.int (1)), (.int (38))])])]), (.tup [(.int (3)), (.int (39))])])])]
noncomputable def grp0 : List Grp := [⟨110, 16, 0, 2⟩, ⟨116, 40, 2, 3⟩, ⟨119, 49, 5, 1⟩, ⟨120, 51, 6, 1⟩, ⟨122, 58, 7, 2⟩, ⟨124, 66, 9, 3⟩, ⟨127, 77, 12, 3⟩, ⟨130, 88, 15, 2⟩, ⟨135, 106, 17, 1⟩]
noncomputable def pl0 (i : Nat) : Pl := pls0.getD i (.heap 0)
noncomputable def tr0 (i : Nat) : Tr := trs0.getD i (.leaf 0 0)
noncomputable def val0 (i : Nat) : V := vals0.getD i .none
noncomputable def ths0 (g0 g1 g2 : Int) : List Th := [⟨155, 16, 19, 127, g0, 1, 3⟩, ⟨156, 21, 20, 130, g1, 2, 2⟩, ⟨157, 25, 18, 135, g2, 3, 1⟩]
noncomputable def sp0 : List V := (allSpots pl0 tr0 0 18).getD []
noncomputable def sg0 (g0 g1 g2 : Int) : Sg := { N := 18, pl := pl0, tr := tr0, val := val0, grp := grp0, ths := ths0 g0 g1 g2, sp := sp0, ds := false, cards := [], top := 28, fresh := 12, made := 3 }
theorem case18 {i : Nat} (h : i < 18) : i = 0 ∨ i = 1 ∨ i = 2 ∨ i = 3 ∨ i = 4 ∨ i = 5 ∨ i = 6 ∨ i = 7 ∨ i = 8 ∨ i = 9 ∨ i = 10 ∨ i = 11 ∨ i = 12 ∨ i = 13 ∨ i = 14 ∨ i = 15 ∨ i = 16 ∨ i = 17 := by omega
theorem at0 (d : Bool) (g0 g1 g2 : Int) : ∀ i, i < 18 → ¬ (lost i ∧ d = true) → ∃ g ∈ grp0, ∃ j, j < g.n ∧ g.off + j = i ∧ PlAt d (ths0 g0 g1 g2) (pl0 i) g.la j := by
  intro i hi hn
  rcases case18 hi with rfl | rfl | rfl | rfl | rfl | rfl | rfl | rfl | rfl | rfl | rfl | rfl | rfl | rfl | rfl | rfl | rfl | rfl
  · exact ⟨⟨110, 16, 0, 2⟩, by simp [grp0], 0, by decide, rfl, .slot _ _ _ _ _ (by decide) (by decide) (by cases d <;> rfl) rfl⟩
  · exact ⟨⟨110, 16, 0, 2⟩, by simp [grp0], 1, by decide, rfl, .slot _ _ _ _ _ (by decide) (by decide) (by cases d <;> rfl) rfl⟩
  · exact ⟨⟨116, 40, 2, 3⟩, by simp [grp0], 0, by decide, rfl, .slot _ _ _ _ _ (by decide) (by decide) (by cases d <;> rfl) rfl⟩
  · exact ⟨⟨116, 40, 2, 3⟩, by simp [grp0], 1, by decide, rfl, .slot _ _ _ _ _ (by decide) (by decide) (by cases d <;> rfl) rfl⟩
  · exact ⟨⟨116, 40, 2, 3⟩, by simp [grp0], 2, by decide, rfl, .slot _ _ _ _ _ (by decide) (by decide) (by cases d <;> rfl) rfl⟩
  · exact ⟨⟨119, 49, 5, 1⟩, by simp [grp0], 0, by decide, rfl, .slot _ _ _ _ _ (by decide) (by decide) (by cases d <;> rfl) rfl⟩
  · cases d with
    | true => exact absurd ⟨by unfold lost; decide, rfl⟩ hn
    | false => exact ⟨⟨120, 51, 6, 1⟩, by simp [grp0], 0, by decide, rfl, .slot _ _ _ _ _ (by decide) (by decide) rfl rfl⟩
  · cases d with
    | true => exact absurd ⟨by unfold lost; decide, rfl⟩ hn
    | false => exact ⟨⟨122, 58, 7, 2⟩, by simp [grp0], 0, by decide, rfl, .slot _ _ _ _ _ (by decide) (by decide) rfl rfl⟩
  · cases d with
    | true => exact absurd ⟨by unfold lost; decide, rfl⟩ hn
    | false => exact ⟨⟨122, 58, 7, 2⟩, by simp [grp0], 1, by decide, rfl, .slot _ _ _ _ _ (by decide) (by decide) rfl rfl⟩
  · exact ⟨⟨124, 66, 9, 3⟩, by simp [grp0], 0, by decide, rfl, .slot _ _ _ _ _ (by decide) (by decide) (by cases d <;> rfl) rfl⟩
  · exact ⟨⟨124, 66, 9, 3⟩, by simp [grp0], 1, by decide, rfl, .slot _ _ _ _ _ (by decide) (by decide) (by cases d <;> rfl) rfl⟩
  · exact ⟨⟨124, 66, 9, 3⟩, by simp [grp0], 2, by decide, rfl, .slot _ _ _ _ _ (by decide) (by decide) (by cases d <;> rfl) rfl⟩
  · exact ⟨⟨127, 77, 12, 3⟩, by simp [grp0], 0, by decide, rfl, .heap _ ⟨155, 16, 19, 127, g0, 1, 3⟩ 0 (by simp [ths0]) (by simp) (by simp)⟩
  · exact ⟨⟨127, 77, 12, 3⟩, by simp [grp0], 1, by decide, rfl, .heap _ ⟨155, 16, 19, 127, g0, 1, 3⟩ 1 (by simp [ths0]) (by simp) (by simp)⟩
  · exact ⟨⟨127, 77, 12, 3⟩, by simp [grp0], 2, by decide, rfl, .heap _ ⟨155, 16, 19, 127, g0, 1, 3⟩ 2 (by simp [ths0]) (by simp) (by simp)⟩
  · exact ⟨⟨130, 88, 15, 2⟩, by simp [grp0], 0, by decide, rfl, .heap _ ⟨156, 21, 20, 130, g1, 2, 2⟩ 0 (by simp [ths0]) (by simp) (by simp)⟩
  · exact ⟨⟨130, 88, 15, 2⟩, by simp [grp0], 1, by decide, rfl, .heap _ ⟨156, 21, 20, 130, g1, 2, 2⟩ 1 (by simp [ths0]) (by simp) (by simp)⟩
  · exact ⟨⟨135, 106, 17, 1⟩, by simp [grp0], 0, by decide, rfl, .heap _ ⟨157, 25, 18, 135, g2, 3, 1⟩ 0 (by simp [ths0]) (by simp) (by simp)⟩
end Mine
end
section
set_option maxRecDepth 100000
namespace Mine
open PySem
noncomputable def plc : Pl → List Int
  | .slot k a i => [0, k, a, i]
  | .heap w => [1, w]
theorem plne0 : ∀ j, j < 18 → ∀ i, i < j → plc (pl0 i) ≠ plc (pl0 j) := by decide +kernel
theorem lo0 : ∀ i, i < 18 → (6 < (tr0 i).lo ∧ (tr0 i).adr < 107) ∨ 180 ≤ (tr0 i).lo := by decide +kernel
theorem disj0 : ∀ j, j < 18 → ∀ i, i < j → (tr0 i).adr < (tr0 j).lo := by decide +kernel
theorem gla0 : ∀ g ∈ grp0, (107 ≤ g.la ∧ g.la < 137) ∨ 180 ≤ g.la := by decide +kernel
theorem gout0 : ∀ g ∈ grp0, ∀ i, i < 18 → (g.la < (tr0 i).lo ∨ (tr0 i).adr < g.la) ∧ (g.ca < (tr0 i).lo ∨ (tr0 i).adr < g.ca) := by decide +kernel
theorem gca0 : ∀ g ∈ grp0, g.ca < 107 ∨ 180 ≤ g.ca := by decide +kernel
theorem gone0 : ∀ g ∈ grp0, ∀ h ∈ grp0, g.la ≠ h.ca ∧ (g ≠ h → g.la ≠ h.la ∧ (g.off + g.n ≤ h.off ∨ h.off + h.n ≤ g.off)) := by decide +kernel
theorem gn0 : ∀ g ∈ grp0, g.n ≤ 4 ∧ g.off + g.n ≤ 18 := by decide +kernel
theorem thr0 : ∀ r ∈ [155, 156, 157], ∀ i, i < 18 → r < (tr0 i).lo ∨ (tr0 i).adr < r := by decide +kernel
theorem sps0 : ∃ vs, allSpots pl0 tr0 0 18 = some vs ∧ sp0 = vs := by
  have h : (allSpots pl0 tr0 0 18).isSome = true := by kernel_rfl
  obtain ⟨vs, e⟩ := Option.isSome_iff_exists.mp h
  exact ⟨vs, e, by unfold sp0; rw [e]; rfl⟩
theorem splen0 : sp0.length = 72 := by kernel_rfl
theorem bad0 (d : Bool) : ∀ k a i, Pl.slot k a i ∈ badPls → slotsR d k a i = .none ∨ (slotsR d k a i = .ref 140 ∧ idxI k i = 0) ∨ ∃ g ∈ grp0, slotsR d k a i = .ref g.la ∧ (idxI k i < 0 ∨ (g.n : Int) ≤ idxI k i) := by
  intro k a i h
  simp [badPls] at h
  rcases h with ⟨rfl, rfl, rfl⟩ | ⟨rfl, rfl, rfl⟩ | ⟨rfl, rfl, rfl⟩ | ⟨rfl, rfl, rfl⟩ | ⟨rfl, rfl, rfl⟩ | ⟨rfl, rfl, rfl⟩ | ⟨rfl, rfl, rfl⟩ | ⟨rfl, rfl, rfl⟩ | ⟨rfl, rfl, rfl⟩ | ⟨rfl, rfl, rfl⟩
  · exact .inr (.inr ⟨⟨116, 40, 2, 3⟩, by simp [grp0], by cases d <;> rfl, .inr (by decide)⟩)
  · exact .inr (.inr ⟨⟨116, 40, 2, 3⟩, by simp [grp0], by cases d <;> rfl, .inl (by decide)⟩)
  · exact .inr (.inr ⟨⟨110, 16, 0, 2⟩, by simp [grp0], by cases d <;> rfl, .inl (by decide)⟩)
  · exact .inr (.inr ⟨⟨110, 16, 0, 2⟩, by simp [grp0], by cases d <;> rfl, .inr (by decide)⟩)
  · cases d with
    | true => exact .inl rfl
    | false => exact .inr (.inl ⟨rfl, rfl⟩)
  · exact .inl (by cases d <;> rfl)
  · exact .inl (by cases d <;> rfl)
  · exact .inl (by cases d <;> rfl)
  · exact .inr (.inr ⟨⟨124, 66, 9, 3⟩, by simp [grp0], by cases d <;> rfl, .inr (by decide)⟩)
  · exact .inr (.inr ⟨⟨124, 66, 9, 3⟩, by simp [grp0], by cases d <;> rfl, .inl (by decide)⟩)
theorem badh0 (g0 g1 g2 : Int) : ∀ w, Pl.heap w ∈ badPls → ∀ t ∈ ths0 g0 g1 g2, ∀ j : Nat, j < t.n → t.addr + 2 + j ≠ w := by
  intro w h t ht j hj
  simp [badPls] at h
  simp [ths0] at ht
  rcases ht with rfl | rfl | rfl <;> simp at hj ⊢ <;> omega
theorem oldkeys (g0 g1 g2 : Int) : IntKeys (oldOf g0 g1 g2) := by
  intro p hp
  unfold oldOf at hp
  rcases List.mem_append.mp hp with hp | hp
  · rcases List.mem_append.mp hp with hp | hp
    · split at hp
      · simp at hp; rcases hp with rfl | rfl | rfl <;> exact ⟨_, _, rfl⟩
      · cases hp
    · split at hp
      · simp at hp; rcases hp with rfl | rfl <;> exact ⟨_, _, rfl⟩
      · cases hp
  · split at hp
    · simp at hp; subst hp; exact ⟨_, _, rfl⟩
    · cases hp
theorem old_find (g0 g1 g2 k : Int) : dfind (oldOf g0 g1 g2) (.int k) = if k = 12 ∧ g0 > 0 then some (.int 18) else if k = 13 ∧ g0 > 0 then some (.int 19) else if k = 14 ∧ g0 > 0 then some (.int 20) else if k = 15 ∧ g1 > 0 then some (.int 23) else if k = 16 ∧ g1 > 0 then some (.int 24) else if k = 17 ∧ g2 > 0 then some (.int 27) else none := by
  have e : ∀ a : Int, keyEq (.int a) (.int k) = decide (a = k) := fun a => rfl
  by_cases k0 : k = 12 ∨ k = 13 ∨ k = 14 ∨ k = 15 ∨ k = 16 ∨ k = 17
  · rcases k0 with rfl | rfl | rfl | rfl | rfl | rfl <;> by_cases h0 : g0 > 0 <;> by_cases h1 : g1 > 0 <;> by_cases h2 : g2 > 0 <;> simp [oldOf, h0, h1, h2, dfind, keyEq]
  · have d12 : decide ((12 : Int) = k) = false := decide_eq_false (by omega)
    have d13 : decide ((13 : Int) = k) = false := decide_eq_false (by omega)
    have d14 : decide ((14 : Int) = k) = false := decide_eq_false (by omega)
    have d15 : decide ((15 : Int) = k) = false := decide_eq_false (by omega)
    have d16 : decide ((16 : Int) = k) = false := decide_eq_false (by omega)
    have d17 : decide ((17 : Int) = k) = false := decide_eq_false (by omega)
    have n12 : ¬ k = 12 := by omega
    have n13 : ¬ k = 13 := by omega
    have n14 : ¬ k = 14 := by omega
    have n15 : ¬ k = 15 := by omega
    have n16 : ¬ k = 16 := by omega
    have n17 : ¬ k = 17 := by omega
    by_cases h0 : g0 > 0 <;> by_cases h1 : g1 > 0 <;> by_cases h2 : g2 > 0 <;> simp [oldOf, h0, h1, h2, dfind, keyEq, d12, d13, d14, d15, d16, d17, n12, n13, n14, n15, n16, n17]
theorem sg0_ok {b g0 g1 g2 : Int} (hb : 0 ≤ b ∧ b ≤ 3) : SgOk b (oldOf g0 g1 g2) (sg0 g0 g1 g2) := by
  obtain ⟨vs, hvs, hsp⟩ := sps0
  refine ⟨⟨?_, ?_, by show (3 : Nat) ≤ 6; decide⟩, hb, ⟨Nat.le_refl _, by show 18 ≤ 21; decide⟩, ?_, fun d => at0 d g0 g1 g2, ?_, bad0, badh0 g0 g1 g2, lo0, fun i j hij hj => disj0 j hj i hij, gla0, fun g hg i hi => gout0 g hg i hi, gca0, gone0, gn0, rfl, ?_, ?_, ?_, by show 0 < sp0.length; rw [splen0]; decide, by show sp0.length + 13 * (21 - 18) ≤ 300; rw [splen0]; decide,
    fun p hp => (nomatch hp), oldkeys _ _ _, ?_, ?_, ?_, rfl, rfl, ?_, ?_⟩
  · intro t ht
    change t ∈ ths0 g0 g1 g2 at ht
    simp [ths0] at ht
    rcases ht with rfl | rfl | rfl <;> simp
  · intro i j t u hij hi hj
    change (ths0 g0 g1 g2)[i]? = some t at hi
    change (ths0 g0 g1 g2)[j]? = some u at hj
    have hjl := at_lt hj
    have hjl : j < 3 := hjl
    have : (i = 0 ∧ j = 1) ∨ (i = 0 ∧ j = 2) ∨ (i = 1 ∧ j = 2) := by omega
    rcases this with ⟨rfl, rfl⟩ | ⟨rfl, rfl⟩ | ⟨rfl, rfl⟩ <;> (simp [ths0] at hi hj; subst hi; subst hj; simp)
  · intro i hi
    rcases case18 hi with rfl | rfl | rfl | rfl | rfl | rfl | rfl | rfl | rfl | rfl | rfl | rfl | rfl | rfl | rfl | rfl | rfl | rfl
    all_goals first | (show (_ : Int) ≠ 3; decide) | trivial
  · intro i hl
    rcases hl with rfl | rfl | rfl
    · exact ⟨2, 9, 0, rfl, by decide, by decide, rfl⟩
    · exact ⟨1, 9, 0, rfl, by decide, by decide, rfl⟩
    · exact ⟨1, 9, 1, rfl, by decide, by decide, rfl⟩
  · intro t ht
    change t ∈ ths0 g0 g1 g2 at ht
    show ∃ g ∈ grp0, t.la = g.la
    simp [ths0] at ht
    rcases ht with rfl | rfl | rfl
    · exact ⟨⟨127, 77, 12, 3⟩, by simp [grp0], rfl⟩
    · exact ⟨⟨130, 88, 15, 2⟩, by simp [grp0], rfl⟩
    · exact ⟨⟨135, 106, 17, 1⟩, by simp [grp0], rfl⟩
  · intro t ht i hi
    change t ∈ ths0 g0 g1 g2 at ht
    refine thr0 t.r ?_ i hi
    simp [ths0] at ht
    rcases ht with rfl | rfl | rfl <;> simp
  · intro s hs
    change s ∈ sp0 at hs
    rw [hsp] at hs
    obtain ⟨j, hj, h⟩ := allSpots_ok pl0 tr0 18 0 vs hvs s hs
    exact ⟨j, by show j < 18; omega, h⟩
  · intro i k a c hi h
    change pl0 i = _ at h
    rw [old_find]
    have : i < 12 := by
      rcases case18 hi with rfl | rfl | rfl | rfl | rfl | rfl | rfl | rfl | rfl | rfl | rfl | rfl | rfl | rfl | rfl | rfl | rfl | rfl
      all_goals first | decide | (exfalso; cases h)
    rw [if_neg (by omega), if_neg (by omega), if_neg (by omega), if_neg (by omega), if_neg (by omega), if_neg (by omega)]
  · intro i w hi h t ht j e hj
    change pl0 i = _ at h
    change t ∈ ths0 g0 g1 g2 at ht
    rw [old_find]
    simp [ths0] at ht
    rcases case18 hi with rfl | rfl | rfl | rfl | rfl | rfl | rfl | rfl | rfl | rfl | rfl | rfl | rfl | rfl | rfl | rfl | rfl | rfl
    all_goals first | (exfalso; cases h; done) | skip
    all_goals
      cases h
      rcases ht with rfl | rfl | rfl <;> simp at e hj ⊢
    all_goals first | done | (exfalso; omega) | skip
  · intro t ht
    change t ∈ ths0 g0 g1 g2 at ht
    show t.addr + t.n + 2 ≤ 28
    simp [ths0] at ht
    rcases ht with rfl | rfl | rfl <;> simp
  · intro i hi
    rw [old_find]
    rw [if_neg (by omega), if_neg (by omega), if_neg (by omega), if_neg (by omega), if_neg (by omega), if_neg (by omega)]
  · intro i j hij hj h
    exact plne0 j hj i hij (congrArg plc h)
end Mine
end
section
set_option maxRecDepth 100000
namespace Mine
open PySem
theorem tv0 (b g0 g1 g2 : Int) (old : List (V × V)) : ∀ i, i < 18 → TV (HW b g0 g1 g2 old) (tr0 i) (val0 i) := by
  intro i hi
  refine showT_ok _ _ _ ?_
  rcases case18 hi with rfl | rfl | rfl | rfl | rfl | rfl | rfl | rfl | rfl | rfl | rfl | rfl | rfl | rfl | rfl | rfl | rfl | rfl
  all_goals kernel_rfl
theorem rows0 (b g0 g1 g2 : Int) (old : List (V × V)) : ∀ g ∈ grp0, (HW b g0 g1 g2 old)[g.la]? = some (.lst ((List.range' g.off g.n).map val0)) ∧ (HW b g0 g1 g2 old)[g.ca]? = some (.lst ((List.range' g.off g.n).map fun i => (tr0 i).rf)) := by
  intro g hg
  simp only [grp0, List.mem_cons, List.not_mem_nil, or_false] at hg
  rcases hg with rfl | rfl | rfl | rfl | rfl | rfl | rfl | rfl | rfl
  all_goals exact ⟨by kernel_rfl, by kernel_rfl⟩
theorem inv0 (b g0 g1 g2 : Int) : Inv b (oldOf g0 g1 g2) (sg0 g0 g1 g2) (HW b g0 g1 g2 (oldOf g0 g1 g2)) := by
  refine ⟨⟨by kernel_rfl, by kernel_rfl, by kernel_rfl⟩, ⟨by kernel_rfl, by kernel_rfl, by kernel_rfl, by kernel_rfl, by kernel_rfl⟩, ⟨by kernel_rfl, by kernel_rfl, by kernel_rfl, ?_, ?_⟩, by kernel_rfl, by kernel_rfl, by kernel_rfl, by kernel_rfl, by kernel_rfl, by kernel_rfl, by kernel_rfl, by kernel_rfl, by kernel_rfl, by kernel_rfl, by kernel_rfl, rows0 _ _ _ _ _, tv0 _ _ _ _ _⟩
  · intro t ht
    change t ∈ ths0 g0 g1 g2 at ht
    simp only [ths0, List.mem_cons, List.not_mem_nil, or_false] at ht
    rcases ht with rfl | rfl | rfl <;> kernel_rfl
  · intro t ht
    change t ∈ ths0 g0 g1 g2 at ht
    simp only [ths0, List.mem_cons, List.not_mem_nil, or_false] at ht
    rcases ht with rfl | rfl | rfl
    · exact ⟨_, (rows0 b g0 g1 g2 (oldOf g0 g1 g2) ⟨127, 77, 12, 3⟩ (by simp [grp0])).1, rfl⟩
    · exact ⟨_, (rows0 b g0 g1 g2 (oldOf g0 g1 g2) ⟨130, 88, 15, 2⟩ (by simp [grp0])).1, rfl⟩
    · exact ⟨_, (rows0 b g0 g1 g2 (oldOf g0 g1 g2) ⟨135, 106, 17, 1⟩ (by simp [grp0])).1, rfl⟩
theorem world_of {n : Nat} (A : ∀ head, WorldA (callF n) head) (B : ∀ head, WorldB (callF n) head) : WorldOk (callF (n + 1)) := ⟨fun head Q h => by
  have hb : 0 ≤ head.fmod 4 ∧ head.fmod 4 ≤ 3 := by
    rw [fmod_pos (by decide : (0 : Int) ≤ 4)]
    exact ⟨Int.emod_nonneg _ (by decide), Int.le_of_lt_add_one (Int.emod_lt_of_pos _ (by decide))⟩
  exact call_ok rfl rfl (world_go (A head) (B head) fun g0 g1 g2 => h _ _ _ _ (inv0 _ g0 g1 g2) (sg0_ok hb) rfl)⟩
theorem world_ok : WorldOk (callF (22 + 1)) := world_of (n := 22) worldA worldB
theorem plain_of {n m : Nat} (hn : n = m + 1) (hm : m = 0 + 23) (W : WorldOk (callF m)) (is : List Int) (h : is.length ≤ 63) : callF n k_law [.flist (is.map V.int)] (fun v _ => v = .bool true) [] := by
  subst hn
  exact law_true hm W is h
theorem plain (is : List Int) (h : is.length ≤ 63) : callF 24 k_law [.flist (is.map V.int)] (fun v _ => v = .bool true) [] := plain_of (n := 24) (m := 22 + 1) rfl rfl world_ok is h
end Mine
end
theorem PySem.Challenge.cw_qd0039_01_holds : PySem.Challenge.rw_qd0039_01.Holds :=
  Mine.main Mine.tops Mine.said Mine.plain
